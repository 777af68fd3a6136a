import PyProof.Rows.All
import Wide.All
import OpenK.AllK
import Wide.FinOn
import KE.KStateDown
import Lean
import HandS.ForMost
import HandS.Walk
import HandS.IsInst
import HandS.Gcd
import HandS.Wide
import HandS.TupAny
import HandS.RevRange
import HandS.Conv
import HandS.Deep
import HandS.Style
import HandS.SortInts
import HandS.New0
import HandS.SetIn
import HandS.Defaults
import HandS.CallRecv
import HandS.HeadEnd
import HandS.HeadHook1
import HandS.HeadHook2
import HandS.HeadHook3
import HandS.HeadHook4
import HandS.Head0
import HandS.Head1
import HandS.Head2
import HandS.Head3
import KE.GoesZip
import KE.GoesMore
import KE.GoesEnum
import KE.KDictList
import KE.KDictSum
import PySem.Challenge.RW_breakback_k27_permutations_and_swaps
set_option Elab.async false
set_option linter.all false
set_option maxRecDepth 100000
set_option maxHeartbeats 4000000
set_option exponentiation.threshold 2000
/-! Breakback k27: the base. -/
namespace BK
open PySem PySem.Spec PyProof.Rows L2 He
/-! ### the text by places, the names of each def -/
def topS (i : Nat) : Stmt := PySem.Challenge.pw_breakback_k27_permutations_and_swaps.main.body.getD i (.Pass ⟨0, 0, 0, 0⟩)
abbrev s_bits : Stmt := topS 2
abbrev N_bits : List Str := ["length", "number", "signs", "_"]
theorem sc_bits : FnScope N_bits ["length", "number"] (defScope s_bits) := ⟨rfl, rfl, rfl, by decide +kernel, rfl, by decide +kernel, by decide +kernel⟩
abbrev s_xor : Stmt := topS 4
abbrev N_xor : List Str := ["first", "second", "one", "two"]
theorem sc_xor : FnScope N_xor ["first", "second"] (defScope s_xor) := ⟨rfl, rfl, rfl, by decide +kernel, rfl, by decide +kernel, by decide +kernel⟩
abbrev s_is_number : Stmt := topS 14
abbrev N_is_number : List Str := ["value", "least", "most"]
theorem sc_is_number : FnScope N_is_number ["value", "least", "most"] (defScope s_is_number) := ⟨rfl, rfl, rfl, by decide +kernel, rfl, by decide +kernel, by decide +kernel⟩
abbrev s_is_bits : Stmt := topS 15
abbrev N_is_bits : List Str := ["value", "length", "sign"]
theorem sc_is_bits : FnScope N_is_bits ["value", "length"] (defScope s_is_bits) := ⟨rfl, rfl, rfl, by decide +kernel, rfl, by decide +kernel, by decide +kernel⟩
abbrev s_is_row : Stmt := topS 16
abbrev N_is_row : List Str := ["value", "many", "length", "one"]
theorem sc_is_row : FnScope N_is_row ["value", "many", "length"] (defScope s_is_row) := ⟨rfl, rfl, rfl, by decide +kernel, rfl, by decide +kernel, by decide +kernel⟩
abbrev s_is_function : Stmt := topS 18
abbrev N_is_function : List Str := ["block", "one"]
theorem sc_is_function : FnScope N_is_function ["block"] (defScope s_is_function) := ⟨rfl, rfl, rfl, by decide +kernel, rfl, by decide +kernel, by decide +kernel⟩
abbrev s_are_parts : Stmt := topS 34
abbrev N_are_parts : List Str := ["value", "part"]
theorem sc_are_parts : FnScope N_are_parts ["value"] (defScope s_are_parts) := ⟨rfl, rfl, rfl, by decide +kernel, rfl, by decide +kernel, by decide +kernel⟩
abbrev s_inner_plain : Stmt := topS 35
abbrev N_inner_plain : List Str := ["breaker", "word", "rest"]
theorem sc_inner_plain : FnScope N_inner_plain ["breaker"] (defScope s_inner_plain) := ⟨rfl, rfl, rfl, by decide +kernel, rfl, by decide +kernel, by decide +kernel⟩
abbrev s_check_plain : Stmt := topS 36
abbrev N_check_plain : List Str := ["breaker", "waiting", "within", "one", "depth", "inner", "other"]
theorem sc_check_plain : FnScope N_check_plain ["breaker"] (defScope s_check_plain) := ⟨rfl, rfl, rfl, by decide +kernel, rfl, by decide +kernel, by decide +kernel⟩
abbrev s_has_plain_word : Stmt := topS 41
abbrev N_has_plain_word : List Str := ["value"]
theorem sc_has_plain_word : FnScope N_has_plain_word ["value"] (defScope s_has_plain_word) := ⟨rfl, rfl, rfl, by decide +kernel, rfl, by decide +kernel, by decide +kernel⟩
abbrev s_check_breaker : Stmt := topS 42
abbrev N_check_breaker : List Str := ["breaker", "layers", "word"]
theorem sc_check_breaker : FnScope N_check_breaker ["breaker"] (defScope s_check_breaker) := ⟨rfl, rfl, rfl, by decide +kernel, rfl, by decide +kernel, by decide +kernel⟩
abbrev s_AnyWorld_init : Stmt := inClass (topS 46) 0
abbrev N_AnyWorld_init : List Str := ["self", "tape", "l", "m"]
theorem sc_AnyWorld_init : FnScope N_AnyWorld_init ["self", "tape", "l", "m"] (defScope s_AnyWorld_init) := ⟨rfl, rfl, rfl, by decide +kernel, rfl, by decide +kernel, by decide +kernel⟩
abbrev s_AnyWorld_answer : Stmt := inClass (topS 46) 1
abbrev N_AnyWorld_answer : List Str := ["self", "string"]
theorem sc_AnyWorld_answer : FnScope N_AnyWorld_answer ["self", "string"] (defScope s_AnyWorld_answer) := ⟨rfl, rfl, rfl, by decide +kernel, rfl, by decide +kernel, by decide +kernel⟩
abbrev s_PermutationWorld_init : Stmt := inClass (topS 47) 0
abbrev N_PermutationWorld_init : List Str := ["self", "tape", "l"]
theorem sc_PermutationWorld_init : FnScope N_PermutationWorld_init ["self", "tape", "l"] (defScope s_PermutationWorld_init) := ⟨rfl, rfl, rfl, by decide +kernel, rfl, by decide +kernel, by decide +kernel⟩
abbrev s_PermutationWorld_answer : Stmt := inClass (topS 47) 1
abbrev N_PermutationWorld_answer : List Str := ["self", "string", "given", "left", "value", "k"]
theorem sc_PermutationWorld_answer : FnScope N_PermutationWorld_answer ["self", "string"] (defScope s_PermutationWorld_answer) := ⟨rfl, rfl, rfl, by decide +kernel, rfl, by decide +kernel, by decide +kernel⟩
abbrev s_SwapWorld_init : Stmt := inClass (topS 48) 0
abbrev N_SwapWorld_init : List Str := ["self", "tape", "h", "rounds", "_"]
theorem sc_SwapWorld_init : FnScope N_SwapWorld_init ["self", "tape", "h", "rounds"] (defScope s_SwapWorld_init) := ⟨rfl, rfl, rfl, by decide +kernel, rfl, by decide +kernel, by decide +kernel⟩
abbrev s_SwapWorld_answer : Stmt := inClass (topS 48) 1
abbrev N_SwapWorld_answer : List Str := ["self", "string", "left", "right", "function"]
theorem sc_SwapWorld_answer : FnScope N_SwapWorld_answer ["self", "string"] (defScope s_SwapWorld_answer) := ⟨rfl, rfl, rfl, by decide +kernel, rfl, by decide +kernel, by decide +kernel⟩
abbrev s_made_string : Stmt := topS 54
abbrev N_made_string : List Str := ["parts", "handed", "found", "part"]
theorem sc_made_string : FnScope N_made_string ["parts", "handed"] (defScope s_made_string) := ⟨rfl, rfl, rfl, by decide +kernel, rfl, by decide +kernel, by decide +kernel⟩
abbrev s_Stopped_init : Stmt := inClass (topS 55) 0
abbrev N_Stopped_init : List Str := ["self", "world"]
theorem sc_Stopped_init : FnScope N_Stopped_init ["self", "world"] (defScope s_Stopped_init) := ⟨rfl, rfl, rfl, by decide +kernel, rfl, by decide +kernel, by decide +kernel⟩
abbrev s_Stopped_now : Stmt := inClass (topS 55) 1
abbrev N_Stopped_now : List Str := ["self"]
theorem sc_Stopped_now : FnScope N_Stopped_now ["self"] (defScope s_Stopped_now) := ⟨rfl, rfl, rfl, by decide +kernel, rfl, by decide +kernel, by decide +kernel⟩
abbrev s_run_plain : Stmt := topS 56
abbrev N_run_plain : List Str := ["breaker", "tape", "challenge", "world", "handed", "stopped"]
theorem sc_run_plain : FnScope N_run_plain ["breaker", "tape", "challenge", "world"] (defScope s_run_plain) := ⟨rfl, rfl, rfl, by decide +kernel, rfl, by decide +kernel, by decide +kernel⟩
abbrev s_run_breaker : Stmt := topS 75
abbrev N_run_breaker : List Str := ["breaker", "tape", "challenge", "world"]
theorem sc_run_breaker : FnScope N_run_breaker ["breaker", "tape", "challenge", "world"] (defScope s_run_breaker) := ⟨rfl, rfl, rfl, by decide +kernel, rfl, by decide +kernel, by decide +kernel⟩
abbrev s_Tape_init : Stmt := inClass (topS 77) 0
abbrev N_Tape_init : List Str := ["self", "choices"]
theorem sc_Tape_init : FnScope N_Tape_init ["self", "choices"] (defScope s_Tape_init) := ⟨rfl, rfl, rfl, by decide +kernel, rfl, by decide +kernel, by decide +kernel⟩
abbrev s_Tape_draw : Stmt := inClass (topS 77) 1
abbrev N_Tape_draw : List Str := ["self", "many", "at", "choice"]
theorem sc_Tape_draw : FnScope N_Tape_draw ["self", "many"] (defScope s_Tape_draw) := ⟨rfl, rfl, rfl, by decide +kernel, rfl, by decide +kernel, by decide +kernel⟩
abbrev s_Tape_string : Stmt := inClass (topS 77) 2
abbrev N_Tape_string : List Str := ["self", "length"]
theorem sc_Tape_string : FnScope N_Tape_string ["self", "length"] (defScope s_Tape_string) := ⟨rfl, rfl, rfl, by decide +kernel, rfl, by decide +kernel, by decide +kernel⟩
abbrev s_is_truth : Stmt := topS 80
abbrev N_is_truth : List Str := ["value"]
theorem sc_is_truth : FnScope N_is_truth ["value"] (defScope s_is_truth) := ⟨rfl, rfl, rfl, by decide +kernel, rfl, by decide +kernel, by decide +kernel⟩
abbrev s_is_right : Stmt := topS 81
abbrev N_is_right : List Str := ["game", "kind", "rest", "right"]
theorem sc_is_right : FnScope N_is_right ["game"] (defScope s_is_right) := ⟨rfl, rfl, rfl, by decide +kernel, rfl, by decide +kernel, by decide +kernel⟩
abbrev s_check_game : Stmt := topS 82
abbrev N_check_game : List Str := ["game"]
theorem sc_check_game : FnScope N_check_game ["game"] (defScope s_check_game) := ⟨rfl, rfl, rfl, by decide +kernel, rfl, by decide +kernel, by decide +kernel⟩
abbrev s_Play_init : Stmt := inClass (topS 83) 0
abbrev N_Play_init : List Str := ["self", "outcome", "said", "draws", "asked"]
theorem sc_Play_init : FnScope N_Play_init ["self", "outcome", "said", "draws", "asked"] (defScope s_Play_init) := ⟨rfl, rfl, rfl, by decide +kernel, rfl, by decide +kernel, by decide +kernel⟩
abbrev s_Notes_init : Stmt := inClass (topS 84) 0
abbrev N_Notes_init : List Str := ["self", "world"]
theorem sc_Notes_init : FnScope N_Notes_init ["self", "world"] (defScope s_Notes_init) := ⟨rfl, rfl, rfl, by decide +kernel, rfl, by decide +kernel, by decide +kernel⟩
abbrev s_Notes_answer : Stmt := inClass (topS 84) 1
abbrev N_Notes_answer : List Str := ["self", "string", "found"]
theorem sc_Notes_answer : FnScope N_Notes_answer ["self", "string"] (defScope s_Notes_answer) := ⟨rfl, rfl, rfl, by decide +kernel, rfl, by decide +kernel, by decide +kernel⟩
abbrev s_function_world : Stmt := topS 86
abbrev N_function_world : List Str := ["tape", "block", "real"]
theorem sc_function_world : FnScope N_function_world ["tape", "block", "real"] (defScope s_function_world) := ⟨rfl, rfl, rfl, by decide +kernel, rfl, by decide +kernel, by decide +kernel⟩
abbrev s_Table_init : Stmt := inClass (topS 87) 0
abbrev N_Table_init : List Str := ["self", "game", "tape"]
theorem sc_Table_init : FnScope N_Table_init ["self", "game", "tape"] (defScope s_Table_init) := ⟨rfl, rfl, rfl, by decide +kernel, rfl, by decide +kernel, by decide +kernel⟩
abbrev s_Table_begin_asks : Stmt := inClass (topS 87) 1
abbrev N_Table_begin_asks : List Str := ["self", "game", "tape"]
theorem sc_Table_begin_asks : FnScope N_Table_begin_asks ["self"] (defScope s_Table_begin_asks) := ⟨rfl, rfl, rfl, by decide +kernel, rfl, by decide +kernel, by decide +kernel⟩
abbrev s_Table_has_won : Stmt := inClass (topS 87) 4
abbrev N_Table_has_won : List Str := ["self", "said", "asked", "block"]
theorem sc_Table_has_won : FnScope N_Table_has_won ["self", "said", "asked"] (defScope s_Table_has_won) := ⟨rfl, rfl, rfl, by decide +kernel, rfl, by decide +kernel, by decide +kernel⟩
abbrev s_played : Stmt := topS 88
abbrev N_played : List Str := ["game", "breaker", "choices", "tape", "table", "notes", "said", "outcome"]
theorem sc_played : FnScope N_played ["game", "breaker", "choices"] (defScope s_played) := ⟨rfl, rfl, rfl, by decide +kernel, rfl, by decide +kernel, by decide +kernel⟩
abbrev s_fraction : Stmt := topS 90
abbrev N_fraction : List Str := ["numerator", "denominator", "divisor"]
theorem sc_fraction : FnScope N_fraction ["numerator", "denominator"] (defScope s_fraction) := ⟨rfl, rfl, rfl, by decide +kernel, rfl, by decide +kernel, by decide +kernel⟩
abbrev s_add : Stmt := topS 91
abbrev N_add : List Str := ["first", "second"]
theorem sc_add : FnScope N_add ["first", "second"] (defScope s_add) := ⟨rfl, rfl, rfl, by decide +kernel, rfl, by decide +kernel, by decide +kernel⟩
abbrev s_next_choices : Stmt := topS 92
abbrev N_next_choices : List Str := ["draws", "at", "choice", "many", "one", "_"]
theorem sc_next_choices : FnScope N_next_choices ["draws"] (defScope s_next_choices) := ⟨rfl, rfl, rfl, by decide +kernel, rfl, by decide +kernel, by decide +kernel⟩
abbrev s_Ways_init : Stmt := inClass (topS 93) 0
abbrev N_Ways_init : List Str := ["self", "game", "breaker", "most", "choices", "play"]
theorem sc_Ways_init : FnScope N_Ways_init ["self", "game", "breaker", "most"] (defScope s_Ways_init) := ⟨rfl, rfl, rfl, by decide +kernel, rfl, by decide +kernel, by decide +kernel⟩
abbrev s_Ways_count : Stmt := inClass (topS 93) 1
abbrev N_Ways_count : List Str := ["self", "play", "under", "_", "many"]
theorem sc_Ways_count : FnScope N_Ways_count ["self", "play"] (defScope s_Ways_count) := ⟨rfl, rfl, rfl, by decide +kernel, rfl, by decide +kernel, by decide +kernel⟩
abbrev s_Ways_chance : Stmt := inClass (topS 93) 2
abbrev N_Ways_chance : List Str := ["self", "total", "under"]
theorem sc_Ways_chance : FnScope N_Ways_chance ["self"] (defScope s_Ways_chance) := ⟨rfl, rfl, rfl, by decide +kernel, rfl, by decide +kernel, by decide +kernel⟩
abbrev s_ways_of : Stmt := topS 94
abbrev N_ways_of : List Str := ["game", "breaker", "most"]
theorem sc_ways_of : FnScope N_ways_of ["game", "breaker", "most"] (defScope s_ways_of) := ⟨rfl, rfl, rfl, by decide +kernel, rfl, by decide +kernel, by decide +kernel⟩
abbrev s_chance : Stmt := topS 95
abbrev N_chance : List Str := ["game", "breaker", "most"]
theorem sc_chance : FnScope N_chance ["game", "breaker", "most"] (defScope s_chance) := ⟨rfl, rfl, rfl, by decide +kernel, rfl, by decide +kernel, by decide +kernel⟩
abbrev s_law_mixed : Stmt := topS 97
abbrev N_law_mixed : List Str := ["_law_number_here", "_law_turn", "_law_first", "_law_second"]
theorem sc_law_mixed : FnScope N_law_mixed ["_law_number_here", "_law_turn"] (defScope s_law_mixed) := ⟨rfl, rfl, rfl, by decide +kernel, rfl, by decide +kernel, by decide +kernel⟩
abbrev s_law_tape : Stmt := topS 98
abbrev N_law_tape : List Str := ["_law_script"]
theorem sc_law_tape : FnScope N_law_tape ["_law_script"] (defScope s_law_tape) := ⟨rfl, rfl, rfl, by decide +kernel, rfl, by decide +kernel, by decide +kernel⟩
abbrev s_law_draw : Stmt := topS 99
abbrev N_law_draw : List Str := ["_law_tape_here", "_law_many", "_law_cell", "_law_digit"]
theorem sc_law_draw : FnScope N_law_draw ["_law_tape_here", "_law_many"] (defScope s_law_draw) := ⟨rfl, rfl, rfl, by decide +kernel, rfl, by decide +kernel, by decide +kernel⟩
abbrev s_law_pick : Stmt := topS 100
abbrev N_law_pick : List Str := ["_law_tape_here", "_law_row"]
theorem sc_law_pick : FnScope N_law_pick ["_law_tape_here", "_law_row"] (defScope s_law_pick) := ⟨rfl, rfl, rfl, by decide +kernel, rfl, by decide +kernel, by decide +kernel⟩
abbrev s_law_bits : Stmt := topS 101
abbrev N_law_bits : List Str := ["_law_length", "_law_number_here", "_law_found", "_law_k"]
theorem sc_law_bits : FnScope N_law_bits ["_law_length", "_law_number_here"] (defScope s_law_bits) := ⟨rfl, rfl, rfl, by decide +kernel, rfl, by decide +kernel, by decide +kernel⟩
abbrev s_law_string : Stmt := topS 103
abbrev N_law_string : List Str := ["_law_tape_here", "_law_length", "_law_k"]
theorem sc_law_string : FnScope N_law_string ["_law_tape_here", "_law_length"] (defScope s_law_string) := ⟨rfl, rfl, rfl, by decide +kernel, rfl, by decide +kernel, by decide +kernel⟩
abbrev s_law_xor : Stmt := topS 104
abbrev N_law_xor : List Str := ["_law_first", "_law_second", "_law_k"]
theorem sc_law_xor : FnScope N_law_xor ["_law_first", "_law_second"] (defScope s_law_xor) := ⟨rfl, rfl, rfl, by decide +kernel, rfl, by decide +kernel, by decide +kernel⟩
abbrev s_law_fraction : Stmt := topS 105
abbrev N_law_fraction : List Str := ["_law_over", "_law_under", "_law_a", "_law_b", "_law_k", "_law_c"]
theorem sc_law_fraction : FnScope N_law_fraction ["_law_over", "_law_under"] (defScope s_law_fraction) := ⟨rfl, rfl, rfl, by decide +kernel, rfl, by decide +kernel, by decide +kernel⟩
abbrev s_law_sum : Stmt := topS 106
abbrev N_law_sum : List Str := ["_law_counts", "_law_over", "_law_under", "_law_den"]
theorem sc_law_sum : FnScope N_law_sum ["_law_counts"] (defScope s_law_sum) := ⟨rfl, rfl, rfl, by decide +kernel, rfl, by decide +kernel, by decide +kernel⟩
abbrev s_law_less : Stmt := topS 107
abbrev N_law_less : List Str := ["_law_first", "_law_second"]
theorem sc_law_less : FnScope N_law_less ["_law_first", "_law_second"] (defScope s_law_less) := ⟨rfl, rfl, rfl, by decide +kernel, rfl, by decide +kernel, by decide +kernel⟩
abbrev s_law_note : Stmt := topS 108
abbrev N_law_note : List Str := ["_law_counts", "_law_den"]
theorem sc_law_note : FnScope N_law_note ["_law_counts", "_law_den"] (defScope s_law_note) := ⟨rfl, rfl, rfl, by decide +kernel, rfl, by decide +kernel, by decide +kernel⟩
abbrev s_law_parts : Stmt := topS 109
abbrev N_law_parts : List Str := ["_law_tape_here", "_law_size", "_law_seen", "_law_found", "_law_k"]
theorem sc_law_parts : FnScope N_law_parts ["_law_tape_here", "_law_size", "_law_seen"] (defScope s_law_parts) := ⟨rfl, rfl, rfl, by decide +kernel, rfl, by decide +kernel, by decide +kernel⟩
abbrev s_law_say : Stmt := topS 110
abbrev N_law_say : List Str := ["_law_tape_here", "_law_said", "_law_seen", "_law_size"]
theorem sc_law_say : FnScope N_law_say ["_law_tape_here", "_law_said", "_law_seen"] (defScope s_law_say) := ⟨rfl, rfl, rfl, by decide +kernel, rfl, by decide +kernel, by decide +kernel⟩
abbrev s_law_breaker : Stmt := topS 111
abbrev N_law_breaker : List Str := ["_law_tape_here", "_law_depth", "_law_asks_here", "_law_shape", "_law_length", "_law_said", "_law_seen", "_law_kind", "_law_first", "_law_many", "_law_size", "_law_k"]
theorem sc_law_breaker : FnScope N_law_breaker ["_law_tape_here", "_law_depth", "_law_asks_here", "_law_shape"] (defScope s_law_breaker) := ⟨rfl, rfl, rfl, by decide +kernel, rfl, by decide +kernel, by decide +kernel⟩
abbrev s_law_made : Stmt := topS 112
abbrev N_law_made : List Str := ["_law_parts_here", "_law_handed", "_law_found", "_law_part"]
theorem sc_law_made : FnScope N_law_made ["_law_parts_here", "_law_handed"] (defScope s_law_made) := ⟨rfl, rfl, rfl, by decide +kernel, rfl, by decide +kernel, by decide +kernel⟩
abbrev s_law_function : Stmt := topS 113
abbrev N_law_function : List Str := ["_law_tape_here", "_law_n", "_law_l", "_law_m", "_law_rows", "_law_key", "_law_k"]
theorem sc_law_function : FnScope N_law_function ["_law_tape_here", "_law_n", "_law_l", "_law_m"] (defScope s_law_function) := ⟨rfl, rfl, rfl, by decide +kernel, rfl, by decide +kernel, by decide +kernel⟩
abbrev s_law_asking : Stmt := topS 114
abbrev N_law_asking : List Str := ["_law_breaker_here", "_law_handed", "_law_known", "_law_den", "_law_shape", "_law_counts", "_law_one", "_law_string_here", "_law_told", "_law_many", "_law_more"]
theorem sc_law_asking : FnScope N_law_asking ["_law_breaker_here", "_law_handed", "_law_known", "_law_den", "_law_shape", "_law_counts"] (defScope s_law_asking) := ⟨rfl, rfl, rfl, by decide +kernel, rfl, by decide +kernel, by decide +kernel⟩
abbrev s_law_answers : Stmt := topS 115
abbrev N_law_answers : List Str := ["_law_string_here", "_law_known", "_law_shape", "_law_l", "_law_m", "_law_values", "_law_place", "_law_told", "_law_number_here"]
theorem sc_law_answers : FnScope N_law_answers ["_law_string_here", "_law_known", "_law_shape"] (defScope s_law_answers) := ⟨rfl, rfl, rfl, by decide +kernel, rfl, by decide +kernel, by decide +kernel⟩
abbrev s_law_is : Stmt := topS 116
abbrev N_law_is : List Str := ["_law_actual", "_law_due", "_law_part"]
theorem sc_law_is : FnScope N_law_is ["_law_actual", "_law_due"] (defScope s_law_is) := ⟨rfl, rfl, rfl, by decide +kernel, rfl, by decide +kernel, by decide +kernel⟩
abbrev s_law_strings : Stmt := topS 117
abbrev N_law_strings : List Str := ["_law_length", "_law_number_here"]
theorem sc_law_strings : FnScope N_law_strings ["_law_length"] (defScope s_law_strings) := ⟨rfl, rfl, rfl, by decide +kernel, rfl, by decide +kernel, by decide +kernel⟩
abbrev s_law_shuffling : Stmt := topS 118
abbrev N_law_shuffling : List Str := ["_law_breaker_here", "_law_handed", "_law_known", "_law_den", "_law_l", "_law_counts", "_law_one", "_law_string_here", "_law_told", "_law_given", "_law_left", "_law_value", "_law_more"]
theorem sc_law_shuffling : FnScope N_law_shuffling ["_law_breaker_here", "_law_handed", "_law_known", "_law_den", "_law_l", "_law_counts"] (defScope s_law_shuffling) := ⟨rfl, rfl, rfl, by decide +kernel, rfl, by decide +kernel, by decide +kernel⟩
abbrev s_law_swapped : Stmt := topS 119
abbrev N_law_swapped : List Str := ["_law_string_here", "_law_known", "_law_rounds", "_law_h", "_law_found", "_law_k", "_law_more", "_law_left", "_law_right", "_law_seen", "_law_den", "_law_told", "_law_values", "_law_value", "_law_now", "_law_one"]
theorem sc_law_swapped : FnScope N_law_swapped ["_law_string_here", "_law_known", "_law_rounds"] (defScope s_law_swapped) := ⟨rfl, rfl, rfl, by decide +kernel, rfl, by decide +kernel, by decide +kernel⟩
abbrev s_law_swapping : Stmt := topS 120
abbrev N_law_swapping : List Str := ["_law_breaker_here", "_law_handed", "_law_known", "_law_den", "_law_shape", "_law_counts", "_law_one", "_law_string_here", "_law_told", "_law_seen", "_law_many"]
theorem sc_law_swapping : FnScope N_law_swapping ["_law_breaker_here", "_law_handed", "_law_known", "_law_den", "_law_shape", "_law_counts"] (defScope s_law_swapping) := ⟨rfl, rfl, rfl, by decide +kernel, rfl, by decide +kernel, by decide +kernel⟩
abbrev s_law_asks : Stmt := topS 121
abbrev N_law_asks : List Str := ["_law_breaker_here", "_law_one"]
theorem sc_law_asks : FnScope N_law_asks ["_law_breaker_here"] (defScope s_law_asks) := ⟨rfl, rfl, rfl, by decide +kernel, rfl, by decide +kernel, by decide +kernel⟩
abbrev s_law_within : Stmt := topS 122
abbrev N_law_within : List Str := ["_law_one", "_law_other", "_law_over", "_law_under", "_law_apart"]
theorem sc_law_within : FnScope N_law_within ["_law_one", "_law_other", "_law_over", "_law_under"] (defScope s_law_within) := ⟨rfl, rfl, rfl, by decide +kernel, rfl, by decide +kernel, by decide +kernel⟩
abbrev s_law : Stmt := topS 123
abbrev N_law : List Str := ["_law_script", "_law_tape_here", "_law_l", "_law_table", "_law_at", "_law_breaker_here", "_law_q", "_law_function_here", "_law_permutation", "_law_told", "_law_rounds", "_law_swaps"]
theorem sc_law : FnScope N_law ["_law_script"] (defScope s_law) := ⟨rfl, rfl, rfl, by decide +kernel, rfl, by decide +kernel, by decide +kernel⟩
/-! ### what the top leaves -/
structure Fx (K : PySem.W.Frag) (w : World) (mg : Str → Option Value) : Prop where
  b_len : mg "len" = none
  b_isinstance : mg "isinstance" = none
  b_int : mg "int" = none
  b_str : mg "str" = none
  b_list : mg "list" = none
  b_tuple : mg "tuple" = none
  b_bool : mg "bool" = none
  b_range : mg "range" = none
  b_zip : mg "zip" = none
  b_reversed : mg "reversed" = none
  b_all : mg "all" = none
  b_sorted : mg "sorted" = none
  b_abs : mg "abs" = none
  b_max : mg "max" = none
  i_MOST_LENGTH : ∃ t, mg "MOST_LENGTH" = some (.int 40 t)
  i_MOST_BIT : ∃ t, mg "MOST_BIT" = some (.int 9999 t)
  i_MOST_TOSSED : ∃ t, mg "MOST_TOSSED" = some (.int 64 t)
  i_MOST_DEPTH : ∃ t, mg "MOST_DEPTH" = some (.int 60 t)
  i_MOST_WITHIN : ∃ t, mg "MOST_WITHIN" = some (.int 2000 t)
  g_PLAIN_WORDS : mg "PLAIN_WORDS" = some (.ref (ga K "PLAIN_WORDS"))
  g_SIZES : mg "SIZES" = some (.ref (ga K "SIZES"))
  g_RUNS : mg "RUNS" = some (.ref (ga K "RUNS"))
  g_OnetimeWorld : mg "OnetimeWorld" = some (.ref (ga K "OnetimeWorld"))
  g_AnyWorld : mg "AnyWorld" = some (.ref (ga K "AnyWorld"))
  g_PermutationWorld : mg "PermutationWorld" = some (.ref (ga K "PermutationWorld"))
  g_SwapWorld : mg "SwapWorld" = some (.ref (ga K "SwapWorld"))
  g_Stopped : mg "Stopped" = some (.ref (ga K "Stopped"))
  g_Tape : mg "Tape" = some (.ref (ga K "Tape"))
  g_Play : mg "Play" = some (.ref (ga K "Play"))
  g_Notes : mg "Notes" = some (.ref (ga K "Notes"))
  g_Table : mg "Table" = some (.ref (ga K "Table"))
  g_Ways : mg "Ways" = some (.ref (ga K "Ways"))
  g_Silent : mg "Silent" = some (.ref (ga K "Silent"))
  c_AnyWorld : Cls K (ga K "AnyWorld")
  n_AnyWorld_tape : NoAttr K (ga K "AnyWorld") "tape"
  n_AnyWorld_l : NoAttr K (ga K "AnyWorld") "l"
  n_AnyWorld_m : NoAttr K (ga K "AnyWorld") "m"
  n_AnyWorld_told : NoAttr K (ga K "AnyWorld") "told"
  k_AnyWorld : Mk K (ga K "AnyWorld") (ma K (ga K "AnyWorld") "__init__")
  m_AnyWorld_answer : Meth K (ga K "AnyWorld") "answer" (ma K (ga K "AnyWorld") "answer")
  c_PermutationWorld : Cls K (ga K "PermutationWorld")
  n_PermutationWorld_tape : NoAttr K (ga K "PermutationWorld") "tape"
  n_PermutationWorld_l : NoAttr K (ga K "PermutationWorld") "l"
  n_PermutationWorld_told : NoAttr K (ga K "PermutationWorld") "told"
  k_PermutationWorld : Mk K (ga K "PermutationWorld") (ma K (ga K "PermutationWorld") "__init__")
  m_PermutationWorld_answer : Meth K (ga K "PermutationWorld") "answer" (ma K (ga K "PermutationWorld") "answer")
  c_SwapWorld : Cls K (ga K "SwapWorld")
  n_SwapWorld_h : NoAttr K (ga K "SwapWorld") "h"
  n_SwapWorld_functions : NoAttr K (ga K "SwapWorld") "functions"
  k_SwapWorld : Mk K (ga K "SwapWorld") (ma K (ga K "SwapWorld") "__init__")
  m_SwapWorld_answer : Meth K (ga K "SwapWorld") "answer" (ma K (ga K "SwapWorld") "answer")
  c_Stopped : Cls K (ga K "Stopped")
  n_Stopped_world : NoAttr K (ga K "Stopped") "world"
  k_Stopped : Mk K (ga K "Stopped") (ma K (ga K "Stopped") "__init__")
  m_Stopped_now : Meth K (ga K "Stopped") "now" (ma K (ga K "Stopped") "now")
  c_Tape : Cls K (ga K "Tape")
  n_Tape_choices : NoAttr K (ga K "Tape") "choices"
  n_Tape_draws : NoAttr K (ga K "Tape") "draws"
  k_Tape : Mk K (ga K "Tape") (ma K (ga K "Tape") "__init__")
  m_Tape_draw : Meth K (ga K "Tape") "draw" (ma K (ga K "Tape") "draw")
  m_Tape_string : Meth K (ga K "Tape") "string" (ma K (ga K "Tape") "string")
  c_Play : Cls K (ga K "Play")
  n_Play_outcome : NoAttr K (ga K "Play") "outcome"
  n_Play_said : NoAttr K (ga K "Play") "said"
  n_Play_draws : NoAttr K (ga K "Play") "draws"
  n_Play_asked : NoAttr K (ga K "Play") "asked"
  k_Play : Mk K (ga K "Play") (ma K (ga K "Play") "__init__")
  c_Notes : Cls K (ga K "Notes")
  n_Notes_world : NoAttr K (ga K "Notes") "world"
  n_Notes_asked : NoAttr K (ga K "Notes") "asked"
  k_Notes : Mk K (ga K "Notes") (ma K (ga K "Notes") "__init__")
  m_Notes_answer : Meth K (ga K "Notes") "answer" (ma K (ga K "Notes") "answer")
  c_Table : Cls K (ga K "Table")
  n_Table_game : NoAttr K (ga K "Table") "game"
  n_Table_tape : NoAttr K (ga K "Table") "tape"
  n_Table_kind : NoAttr K (ga K "Table") "kind"
  n_Table_challenge : NoAttr K (ga K "Table") "challenge"
  n_Table_world : NoAttr K (ga K "Table") "world"
  n_Table_secret : NoAttr K (ga K "Table") "secret"
  k_Table : Mk K (ga K "Table") (ma K (ga K "Table") "__init__")
  m_Table_begin_asks : Meth K (ga K "Table") "begin_asks" (ma K (ga K "Table") "begin_asks")
  m_Table_has_won : Meth K (ga K "Table") "has_won" (ma K (ga K "Table") "has_won")
  c_Ways : Cls K (ga K "Ways")
  n_Ways_most : NoAttr K (ga K "Ways") "most"
  n_Ways_many : NoAttr K (ga K "Ways") "many"
  n_Ways_won : NoAttr K (ga K "Ways") "won"
  k_Ways : Mk K (ga K "Ways") (ma K (ga K "Ways") "__init__")
  m_Ways_count : Meth K (ga K "Ways") "count" (ma K (ga K "Ways") "count")
  m_Ways_chance : Meth K (ga K "Ways") "chance" (ma K (ga K "Ways") "chance")
  c_Silent : Cls K (ga K "Silent")
  g_bits : mg "bits" = some (.ref (ga K "bits"))
  g_xor : mg "xor" = some (.ref (ga K "xor"))
  g_is_number : mg "is_number" = some (.ref (ga K "is_number"))
  g_is_bits : mg "is_bits" = some (.ref (ga K "is_bits"))
  g_is_row : mg "is_row" = some (.ref (ga K "is_row"))
  g_is_function : mg "is_function" = some (.ref (ga K "is_function"))
  g_are_parts : mg "are_parts" = some (.ref (ga K "are_parts"))
  g_inner_plain : mg "inner_plain" = some (.ref (ga K "inner_plain"))
  g_check_plain : mg "check_plain" = some (.ref (ga K "check_plain"))
  g_has_plain_word : mg "has_plain_word" = some (.ref (ga K "has_plain_word"))
  g_check_breaker : mg "check_breaker" = some (.ref (ga K "check_breaker"))
  g_made_string : mg "made_string" = some (.ref (ga K "made_string"))
  g_run_plain : mg "run_plain" = some (.ref (ga K "run_plain"))
  g_run_breaker : mg "run_breaker" = some (.ref (ga K "run_breaker"))
  g_is_truth : mg "is_truth" = some (.ref (ga K "is_truth"))
  g_is_right : mg "is_right" = some (.ref (ga K "is_right"))
  g_check_game : mg "check_game" = some (.ref (ga K "check_game"))
  g_function_world : mg "function_world" = some (.ref (ga K "function_world"))
  g_played : mg "played" = some (.ref (ga K "played"))
  g_fraction : mg "fraction" = some (.ref (ga K "fraction"))
  g_add : mg "add" = some (.ref (ga K "add"))
  g_next_choices : mg "next_choices" = some (.ref (ga K "next_choices"))
  g_ways_of : mg "ways_of" = some (.ref (ga K "ways_of"))
  g_chance : mg "chance" = some (.ref (ga K "chance"))
  g__law_mixed : mg "_law_mixed" = some (.ref (ga K "_law_mixed"))
  g__law_tape : mg "_law_tape" = some (.ref (ga K "_law_tape"))
  g__law_draw : mg "_law_draw" = some (.ref (ga K "_law_draw"))
  g__law_pick : mg "_law_pick" = some (.ref (ga K "_law_pick"))
  g__law_bits : mg "_law_bits" = some (.ref (ga K "_law_bits"))
  g__law_string : mg "_law_string" = some (.ref (ga K "_law_string"))
  g__law_xor : mg "_law_xor" = some (.ref (ga K "_law_xor"))
  g__law_fraction : mg "_law_fraction" = some (.ref (ga K "_law_fraction"))
  g__law_sum : mg "_law_sum" = some (.ref (ga K "_law_sum"))
  g__law_less : mg "_law_less" = some (.ref (ga K "_law_less"))
  g__law_note : mg "_law_note" = some (.ref (ga K "_law_note"))
  g__law_parts : mg "_law_parts" = some (.ref (ga K "_law_parts"))
  g__law_say : mg "_law_say" = some (.ref (ga K "_law_say"))
  g__law_breaker : mg "_law_breaker" = some (.ref (ga K "_law_breaker"))
  g__law_made : mg "_law_made" = some (.ref (ga K "_law_made"))
  g__law_function : mg "_law_function" = some (.ref (ga K "_law_function"))
  g__law_asking : mg "_law_asking" = some (.ref (ga K "_law_asking"))
  g__law_answers : mg "_law_answers" = some (.ref (ga K "_law_answers"))
  g__law_is : mg "_law_is" = some (.ref (ga K "_law_is"))
  g__law_strings : mg "_law_strings" = some (.ref (ga K "_law_strings"))
  g__law_shuffling : mg "_law_shuffling" = some (.ref (ga K "_law_shuffling"))
  g__law_swapped : mg "_law_swapped" = some (.ref (ga K "_law_swapped"))
  g__law_swapping : mg "_law_swapping" = some (.ref (ga K "_law_swapping"))
  g__law_asks : mg "_law_asks" = some (.ref (ga K "_law_asks"))
  g__law_within : mg "_law_within" = some (.ref (ga K "_law_within"))
  g_law : mg "law" = some (.ref (ga K "law"))
  g_gcd : mg "gcd" = some (.builtin "math.gcd")
  x_Silent : PySem.W.makesIn K (ga K "Silent") = true ∧ PySem.W.findIn K (.ref (ga K "Silent")) "__init__" = some (some (.builtin "object.__init__")) ∧ PySem.W.keepIn K (.ref (ga K "Silent")) = true
  t_PLAIN_WORDS : ∀ H : Hp, SqT K H (ga K "PLAIN_WORDS") [.str "say", .str "toss", .str "look", .str "ask"]
  kd_SIZES : ∃ es n, KDict K w (ga K "SIZES") es n
  kd_RUNS : ∃ es n, KDict K w (ga K "RUNS") es n
  v_function : ∃ t, PySem.W.nsIn K (ga K "SIZES") "function" = some (some (.int 3 t))
  v_permutation : ∃ t, PySem.W.nsIn K (ga K "SIZES") "permutation" = some (some (.int 2 t))
  v_swaps : ∃ t, PySem.W.nsIn K (ga K "SIZES") "swaps" = some (some (.int 3 t))
  r_say : PySem.W.nsIn K (ga K "RUNS") "say" = some none
  r_toss : PySem.W.nsIn K (ga K "RUNS") "toss" = some none
  r_look : PySem.W.nsIn K (ga K "RUNS") "look" = some none
  r_ask : PySem.W.nsIn K (ga K "RUNS") "ask" = some none
  o_Notes : PySem.W.kitOne K (.ref (ga K "Notes")) (.ref (ga K "OnetimeWorld")) = some false
  oc_Notes : PySem.W.findIn K (.ref (ga K "Notes")) "__class__" = some (some (.builtin "object.__class__"))
  og_Notes : PySem.W.specialIn K (.builtin "object.__class__") "__get__" = some (some (.builtin "getset_descriptor.__get__"))
  ot_Notes : PySem.W.takesIn K (.builtin "object.__class__") = some true
  om_Notes : PySem.W.mroIn K (ga K "Notes") (.type "object") = some true
  d_bits : ∃ fd, FunD K "bits" "bits" (defArgs s_bits) (defBody s_bits) (defScope s_bits) [] [] (ga K "bits") fd
  d_xor : ∃ fd, FunD K "xor" "xor" (defArgs s_xor) (defBody s_xor) (defScope s_xor) [] [] (ga K "xor") fd
  d_is_number : ∃ fd, FunD K "is_number" "is_number" (defArgs s_is_number) (defBody s_is_number) (defScope s_is_number) [] [] (ga K "is_number") fd
  d_is_bits : ∃ fd, FunD K "is_bits" "is_bits" (defArgs s_is_bits) (defBody s_is_bits) (defScope s_is_bits) [] [] (ga K "is_bits") fd
  d_is_row : ∃ fd, FunD K "is_row" "is_row" (defArgs s_is_row) (defBody s_is_row) (defScope s_is_row) [] [] (ga K "is_row") fd
  d_is_function : ∃ fd, FunD K "is_function" "is_function" (defArgs s_is_function) (defBody s_is_function) (defScope s_is_function) [] [] (ga K "is_function") fd
  d_are_parts : ∃ fd, FunD K "are_parts" "are_parts" (defArgs s_are_parts) (defBody s_are_parts) (defScope s_are_parts) [] [] (ga K "are_parts") fd
  d_inner_plain : ∃ fd, FunD K "inner_plain" "inner_plain" (defArgs s_inner_plain) (defBody s_inner_plain) (defScope s_inner_plain) [] [] (ga K "inner_plain") fd
  d_check_plain : ∃ fd, FunD K "check_plain" "check_plain" (defArgs s_check_plain) (defBody s_check_plain) (defScope s_check_plain) [] [] (ga K "check_plain") fd
  d_has_plain_word : ∃ fd, FunD K "has_plain_word" "has_plain_word" (defArgs s_has_plain_word) (defBody s_has_plain_word) (defScope s_has_plain_word) [] [] (ga K "has_plain_word") fd
  d_check_breaker : ∃ fd, FunD K "check_breaker" "check_breaker" (defArgs s_check_breaker) (defBody s_check_breaker) (defScope s_check_breaker) [] [] (ga K "check_breaker") fd
  d_AnyWorld_init : ∃ fd, FunD K "__init__" "AnyWorld.__init__" (defArgs s_AnyWorld_init) (defBody s_AnyWorld_init) (defScope s_AnyWorld_init) [] [] (ma K (ga K "AnyWorld") "__init__") fd
  d_AnyWorld_answer : ∃ fd, FunD K "answer" "AnyWorld.answer" (defArgs s_AnyWorld_answer) (defBody s_AnyWorld_answer) (defScope s_AnyWorld_answer) [] [] (ma K (ga K "AnyWorld") "answer") fd
  d_PermutationWorld_init : ∃ fd, FunD K "__init__" "PermutationWorld.__init__" (defArgs s_PermutationWorld_init) (defBody s_PermutationWorld_init) (defScope s_PermutationWorld_init) [] [] (ma K (ga K "PermutationWorld") "__init__") fd
  d_PermutationWorld_answer : ∃ fd, FunD K "answer" "PermutationWorld.answer" (defArgs s_PermutationWorld_answer) (defBody s_PermutationWorld_answer) (defScope s_PermutationWorld_answer) [] [] (ma K (ga K "PermutationWorld") "answer") fd
  d_SwapWorld_init : ∃ fd, FunD K "__init__" "SwapWorld.__init__" (defArgs s_SwapWorld_init) (defBody s_SwapWorld_init) (defScope s_SwapWorld_init) [] [] (ma K (ga K "SwapWorld") "__init__") fd
  d_SwapWorld_answer : ∃ fd, FunD K "answer" "SwapWorld.answer" (defArgs s_SwapWorld_answer) (defBody s_SwapWorld_answer) (defScope s_SwapWorld_answer) [] [] (ma K (ga K "SwapWorld") "answer") fd
  d_made_string : ∃ fd, FunD K "made_string" "made_string" (defArgs s_made_string) (defBody s_made_string) (defScope s_made_string) [] [] (ga K "made_string") fd
  d_Stopped_init : ∃ fd, FunD K "__init__" "Stopped.__init__" (defArgs s_Stopped_init) (defBody s_Stopped_init) (defScope s_Stopped_init) [] [] (ma K (ga K "Stopped") "__init__") fd
  d_Stopped_now : ∃ fd, FunD K "now" "Stopped.now" (defArgs s_Stopped_now) (defBody s_Stopped_now) (defScope s_Stopped_now) [] [] (ma K (ga K "Stopped") "now") fd
  d_run_plain : ∃ fd, FunD K "run_plain" "run_plain" (defArgs s_run_plain) (defBody s_run_plain) (defScope s_run_plain) [] [] (ga K "run_plain") fd
  d_run_breaker : ∃ fd, FunD K "run_breaker" "run_breaker" (defArgs s_run_breaker) (defBody s_run_breaker) (defScope s_run_breaker) [] [] (ga K "run_breaker") fd
  d_Tape_init : ∃ fd, FunD K "__init__" "Tape.__init__" (defArgs s_Tape_init) (defBody s_Tape_init) (defScope s_Tape_init) [] [] (ma K (ga K "Tape") "__init__") fd
  d_Tape_draw : ∃ fd, FunD K "draw" "Tape.draw" (defArgs s_Tape_draw) (defBody s_Tape_draw) (defScope s_Tape_draw) [] [] (ma K (ga K "Tape") "draw") fd
  d_Tape_string : ∃ fd, FunD K "string" "Tape.string" (defArgs s_Tape_string) (defBody s_Tape_string) (defScope s_Tape_string) [] [] (ma K (ga K "Tape") "string") fd
  d_is_truth : ∃ fd, FunD K "is_truth" "is_truth" (defArgs s_is_truth) (defBody s_is_truth) (defScope s_is_truth) [] [] (ga K "is_truth") fd
  d_is_right : ∃ fd, FunD K "is_right" "is_right" (defArgs s_is_right) (defBody s_is_right) (defScope s_is_right) [] [] (ga K "is_right") fd
  d_check_game : ∃ fd, FunD K "check_game" "check_game" (defArgs s_check_game) (defBody s_check_game) (defScope s_check_game) [] [] (ga K "check_game") fd
  d_Play_init : ∃ fd, FunD K "__init__" "Play.__init__" (defArgs s_Play_init) (defBody s_Play_init) (defScope s_Play_init) [] [] (ma K (ga K "Play") "__init__") fd
  d_Notes_init : ∃ fd, FunD K "__init__" "Notes.__init__" (defArgs s_Notes_init) (defBody s_Notes_init) (defScope s_Notes_init) [] [] (ma K (ga K "Notes") "__init__") fd
  d_Notes_answer : ∃ fd, FunD K "answer" "Notes.answer" (defArgs s_Notes_answer) (defBody s_Notes_answer) (defScope s_Notes_answer) [] [] (ma K (ga K "Notes") "answer") fd
  d_function_world : ∃ fd, FunD K "function_world" "function_world" (defArgs s_function_world) (defBody s_function_world) (defScope s_function_world) [] [] (ga K "function_world") fd
  d_Table_init : ∃ fd, FunD K "__init__" "Table.__init__" (defArgs s_Table_init) (defBody s_Table_init) (defScope s_Table_init) [] [] (ma K (ga K "Table") "__init__") fd
  d_Table_begin_asks : ∃ fd, FunD K "begin_asks" "Table.begin_asks" (defArgs s_Table_begin_asks) (defBody s_Table_begin_asks) (defScope s_Table_begin_asks) [] [] (ma K (ga K "Table") "begin_asks") fd
  d_Table_has_won : ∃ fd, FunD K "has_won" "Table.has_won" (defArgs s_Table_has_won) (defBody s_Table_has_won) (defScope s_Table_has_won) [] [] (ma K (ga K "Table") "has_won") fd
  d_played : ∃ fd, FunD K "played" "played" (defArgs s_played) (defBody s_played) (defScope s_played) [] [] (ga K "played") fd
  d_fraction : ∃ fd, FunD K "fraction" "fraction" (defArgs s_fraction) (defBody s_fraction) (defScope s_fraction) [] [] (ga K "fraction") fd
  d_add : ∃ fd, FunD K "add" "add" (defArgs s_add) (defBody s_add) (defScope s_add) [] [] (ga K "add") fd
  d_next_choices : ∃ fd, FunD K "next_choices" "next_choices" (defArgs s_next_choices) (defBody s_next_choices) (defScope s_next_choices) [] [] (ga K "next_choices") fd
  d_Ways_init : ∃ fd, FunD K "__init__" "Ways.__init__" (defArgs s_Ways_init) (defBody s_Ways_init) (defScope s_Ways_init) [] [] (ma K (ga K "Ways") "__init__") fd
  d_Ways_count : ∃ fd, FunD K "count" "Ways.count" (defArgs s_Ways_count) (defBody s_Ways_count) (defScope s_Ways_count) [] [] (ma K (ga K "Ways") "count") fd
  d_Ways_chance : ∃ fd, FunD K "chance" "Ways.chance" (defArgs s_Ways_chance) (defBody s_Ways_chance) (defScope s_Ways_chance) [] [] (ma K (ga K "Ways") "chance") fd
  d_ways_of : ∃ fd, FunD K "ways_of" "ways_of" (defArgs s_ways_of) (defBody s_ways_of) (defScope s_ways_of) [] [] (ga K "ways_of") fd
  d_chance : ∃ fd, FunD K "chance" "chance" (defArgs s_chance) (defBody s_chance) (defScope s_chance) [] [("most", .int 300000)] (ga K "chance") fd
  d_law_mixed : ∃ fd, FunD K "_law_mixed" "_law_mixed" (defArgs s_law_mixed) (defBody s_law_mixed) (defScope s_law_mixed) [] [] (ga K "_law_mixed") fd
  d_law_tape : ∃ fd, FunD K "_law_tape" "_law_tape" (defArgs s_law_tape) (defBody s_law_tape) (defScope s_law_tape) [] [] (ga K "_law_tape") fd
  d_law_draw : ∃ fd, FunD K "_law_draw" "_law_draw" (defArgs s_law_draw) (defBody s_law_draw) (defScope s_law_draw) [] [] (ga K "_law_draw") fd
  d_law_pick : ∃ fd, FunD K "_law_pick" "_law_pick" (defArgs s_law_pick) (defBody s_law_pick) (defScope s_law_pick) [] [] (ga K "_law_pick") fd
  d_law_bits : ∃ fd, FunD K "_law_bits" "_law_bits" (defArgs s_law_bits) (defBody s_law_bits) (defScope s_law_bits) [] [] (ga K "_law_bits") fd
  d_law_string : ∃ fd, FunD K "_law_string" "_law_string" (defArgs s_law_string) (defBody s_law_string) (defScope s_law_string) [] [] (ga K "_law_string") fd
  d_law_xor : ∃ fd, FunD K "_law_xor" "_law_xor" (defArgs s_law_xor) (defBody s_law_xor) (defScope s_law_xor) [] [] (ga K "_law_xor") fd
  d_law_fraction : ∃ fd, FunD K "_law_fraction" "_law_fraction" (defArgs s_law_fraction) (defBody s_law_fraction) (defScope s_law_fraction) [] [] (ga K "_law_fraction") fd
  d_law_sum : ∃ fd, FunD K "_law_sum" "_law_sum" (defArgs s_law_sum) (defBody s_law_sum) (defScope s_law_sum) [] [] (ga K "_law_sum") fd
  d_law_less : ∃ fd, FunD K "_law_less" "_law_less" (defArgs s_law_less) (defBody s_law_less) (defScope s_law_less) [] [] (ga K "_law_less") fd
  d_law_note : ∃ fd, FunD K "_law_note" "_law_note" (defArgs s_law_note) (defBody s_law_note) (defScope s_law_note) [] [] (ga K "_law_note") fd
  d_law_parts : ∃ fd, FunD K "_law_parts" "_law_parts" (defArgs s_law_parts) (defBody s_law_parts) (defScope s_law_parts) [] [] (ga K "_law_parts") fd
  d_law_say : ∃ fd, FunD K "_law_say" "_law_say" (defArgs s_law_say) (defBody s_law_say) (defScope s_law_say) [] [] (ga K "_law_say") fd
  d_law_breaker : ∃ fd, FunD K "_law_breaker" "_law_breaker" (defArgs s_law_breaker) (defBody s_law_breaker) (defScope s_law_breaker) [] [] (ga K "_law_breaker") fd
  d_law_made : ∃ fd, FunD K "_law_made" "_law_made" (defArgs s_law_made) (defBody s_law_made) (defScope s_law_made) [] [] (ga K "_law_made") fd
  d_law_function : ∃ fd, FunD K "_law_function" "_law_function" (defArgs s_law_function) (defBody s_law_function) (defScope s_law_function) [] [] (ga K "_law_function") fd
  d_law_asking : ∃ fd, FunD K "_law_asking" "_law_asking" (defArgs s_law_asking) (defBody s_law_asking) (defScope s_law_asking) [] [] (ga K "_law_asking") fd
  d_law_answers : ∃ fd, FunD K "_law_answers" "_law_answers" (defArgs s_law_answers) (defBody s_law_answers) (defScope s_law_answers) [] [] (ga K "_law_answers") fd
  d_law_is : ∃ fd, FunD K "_law_is" "_law_is" (defArgs s_law_is) (defBody s_law_is) (defScope s_law_is) [] [] (ga K "_law_is") fd
  d_law_strings : ∃ fd, FunD K "_law_strings" "_law_strings" (defArgs s_law_strings) (defBody s_law_strings) (defScope s_law_strings) [] [] (ga K "_law_strings") fd
  d_law_shuffling : ∃ fd, FunD K "_law_shuffling" "_law_shuffling" (defArgs s_law_shuffling) (defBody s_law_shuffling) (defScope s_law_shuffling) [] [] (ga K "_law_shuffling") fd
  d_law_swapped : ∃ fd, FunD K "_law_swapped" "_law_swapped" (defArgs s_law_swapped) (defBody s_law_swapped) (defScope s_law_swapped) [] [] (ga K "_law_swapped") fd
  d_law_swapping : ∃ fd, FunD K "_law_swapping" "_law_swapping" (defArgs s_law_swapping) (defBody s_law_swapping) (defScope s_law_swapping) [] [] (ga K "_law_swapping") fd
  d_law_asks : ∃ fd, FunD K "_law_asks" "_law_asks" (defArgs s_law_asks) (defBody s_law_asks) (defScope s_law_asks) [] [] (ga K "_law_asks") fd
  d_law_within : ∃ fd, FunD K "_law_within" "_law_within" (defArgs s_law_within) (defBody s_law_within) (defScope s_law_within) [] [] (ga K "_law_within") fd
  d_law : ∃ fd, FunD K "law" "law" (defArgs s_law) (defBody s_law) (defScope s_law) [] [] (ga K "law") fd
/-! ### rules in short: a def, a method, a class by its name -/
section
variable {P : Program} {w : World} {K : PySem.W.Frag} {mg : Str → Option Value} {base : Heap}
/-- the module's def x keeps the promise -/
def Kp (P : Program) (w : World) (K : PySem.W.Frag) (mg : Str → Option Value) (base : Heap) (k : Nat) (x : Str) (ps : List Str) (sp : Sp) : Prop :=
  mg x = some (.ref (ga K x)) ∧ PySem.W.keepIn K (.ref (ga K x)) = true ∧ ∃ fd, FnOk P w K mg base CX0 k (ga K x) fd ps sp ∧ Binds K fd ps []
/-- the method m of the class C -/
def Km (P : Program) (w : World) (K : PySem.W.Frag) (mg : Str → Option Value) (base : Heap) (k : Nat) (C m : Str) (ps : List Str) (sp : Sp) : Prop :=
  Cls K (ga K C) ∧ Meth K (ga K C) m (ma K (ga K C) m) ∧ ∃ fd, FnOk P w K mg base CX0 k (ma K (ga K C) m) fd ps sp ∧ Binds K fd ps []
/-- the class C is made -/
def Ki (P : Program) (w : World) (K : PySem.W.Frag) (mg : Str → Option Value) (base : Heap) (k : Nat) (C : Str) (ps : List Str) (sp : Sp) : Prop :=
  mg C = some (.ref (ga K C)) ∧ Mk K (ga K C) (ma K (ga K C) "__init__") ∧ ∃ fd, FnOk P w K mg base CX0 k (ma K (ga K C) "__init__") fd ps sp ∧ Binds K fd ps []
theorem Kp.mono {j k : Nat} {x : Str} {ps : List Str} {sp : Sp} (h : Kp P w K mg base j x ps sp) (l : j ≤ k) : Kp P w K mg base k x ps sp := by
  obtain ⟨a, b, fd, c, d⟩ := h
  exact ⟨a, b, fd, c.mono l, d⟩
theorem Kp.imp {k : Nat} {x : Str} {ps : List Str} {sp sp' : Sp} (h : Kp P w K mg base k x ps sp) (i : ∀ vs H Q E, sp' vs H Q E → sp vs H Q E) : Kp P w K mg base k x ps sp' := by
  obtain ⟨a, b, fd, c, d⟩ := h
  exact ⟨a, b, fd, c.imp i, d⟩
theorem Km.imp {k : Nat} {C m : Str} {ps : List Str} {sp sp' : Sp} (h : Km P w K mg base k C m ps sp) (i : ∀ vs H Q E, sp' vs H Q E → sp vs H Q E) : Km P w K mg base k C m ps sp' := by
  obtain ⟨a, b, fd, c, d⟩ := h
  exact ⟨a, b, fd, c.imp i, d⟩
theorem FnOkOf {x qual : Str} {params : Arguments} {body : List Stmt} {scope : Scope} {f : Addr} {fd : FuncData} {dvs : List V} {kws : List (Str × V)} {N ps : List Str} {k : Nat} {sp : Sp} (F : FunD K x qual params body scope dvs kws f fd) (S : FnScope N ps scope) (len : ∀ vs H Q E, sp vs H Q E → vs.length = ps.length)
    (hbody : ∀ (cdv : Value) (A : Around) (outer : List Env) (s : Shared) (H : Hp) (vs : List V) (Q : VK) (E : XK), Room k (A.deeper (envOfC qual scope s.heap.objs.size f cdv)) → sp vs H Q E →
      ∃ t, PSs (cxOf CX0 P w K mg base N qual scope f cdv A outer s H E).nox body t ∧ t { nx := fun _ H' => Q .non H', rt := Q } (start N vs) H) : FnOk P w K mg base CX0 (k + 1) f fd ps sp :=
  F.ok S len fun cdv A outer s H vs Q E hr h => by
    obtain ⟨t, h1, h2⟩ := hbody cdv A outer s H vs Q E hr h
    exact ⟨t, h1.nox, h2⟩
end
section
variable {X : Cx} {k : Nat} {x C m : Str} {ps : List Str} {sp : Sp} {p pos apos : Pos} {e o : Expr} {es : List Expr} {t : TA} {ta : TE}
theorem pe_globI {n : Int} (h : ∃ t, X.mg x = some (.int n t)) (hg : Gl X x := by rfl) (hd : (x == ("__debug__" : Str)) = false := by decide) : PE X (.Name x pos) (tC (.int n)) := by
  obtain ⟨t, h⟩ := h
  exact pe_glob hg h ⟨_, rfl⟩ hd
theorem pe_k (c : Kp X.prog X.w X.K X.mg X.base k x ps sp) (hr : Room k X.A) (ha : PA X (e :: es) t) (hg : Gl X x := by rfl) (hdb : (x == ("__debug__" : Str)) = false := by decide)
    (he : starEach (e :: es) X.env = (false, eval e X.env) :: starEach es X.env := by rfl) (hpl : (backTo pos (starEach es X.env)).any (·.1) = false := by rfl) : PE X (.Call (.Name x p) (e :: es) [] pos) (tCall sp [] E0 t) := by
  obtain ⟨h1, h2, fd, h3, h4⟩ := c
  exact pe_call h3 hr hg h1 h2 h4 .nil pass0 ha hdb he hpl
theorem pe_ki (c : Ki X.prog X.w X.K X.mg X.base k x ps sp) (hr : Room (k + 1) X.A) (ha : PA X (e :: es) t) (hg : Gl X x := by rfl) (hdb : (x == ("__debug__" : Str)) = false := by decide)
    (he : starEach (e :: es) X.env = (false, eval e X.env) :: starEach es X.env := by rfl) (hpl : (backTo pos (starEach es X.env)).any (·.1) = false := by rfl) : PE X (.Call (.Name x p) (e :: es) [] pos) (tMake (ga X.K x) sp [] E0 t) := by
  obtain ⟨h1, h2, fd, h3, h4⟩ := c
  exact pe_make h2 h3 hr hg h1 h4 .nil pass0 ha hdb he hpl
theorem op_in_kdE {d : Addr} (D : ∃ es n, KDict X.K X.w d es n) : OpR X (compareOp .In) (fun x y H Q => ∃ (z : Str) (r : Option Value), x = .str z ∧ y = .ref d ∧ PySem.W.nsIn X.K d z = some r ∧ Q (.bl r.isSome) H) := by
  obtain ⟨es, n, D⟩ := D
  exact op_in_kd D
theorem op_notIn_kdE {d : Addr} (D : ∃ es n, KDict X.K X.w d es n) : OpR X (compareOp .NotIn) (fun x y H Q => ∃ (z : Str) (r : Option Value), x = .str z ∧ y = .ref d ∧ PySem.W.nsIn X.K d z = some r ∧ Q (.bl (!r.isSome)) H) := by
  obtain ⟨es, n, D⟩ := D
  exact op_notIn_kd D
end
section
variable {X : Cx} {k : Nat} {C m : Str} {ps : List Str} {sp : Sp} {p pos apos : Pos} {e o : Expr} {es : List Expr} {t : TA} {ta : TE}
theorem pe_km {pl : Sem Bool} (he : PE X o ta) (c : Km X.prog X.w X.K X.mg X.base k C m ps sp) (hr : Room k X.A) (ha : PA X (e :: es) t)
    (hst : starEach (e :: es) X.env = (false, eval e X.env) :: starEach es X.env := by rfl) (hpl : (backTo pos (starEach es X.env)).any (·.1) = false := by rfl)
    (ht : eval (.Call (.Attribute o m apos) (e :: es) [] pos) X.env = (do
      let ov ← eval o X.env
      standAt apos.atName
      let (f, first) ← holding [ov] (getMethod ov m pl)
      callWith pos f first (backTo pos (starEach (e :: es) X.env)) (backToKw pos (keywordEach [] X.env))) := by rfl) :
    PE X (.Call (.Attribute o m apos) (e :: es) [] pos) (tMeth (ga X.K C) m sp [] E0 ta t) := by
  obtain ⟨h1, h2, fd, h3, h4⟩ := c
  exact pe_meth (pl := pl) he h1 h2 h3 hr h4 .nil pass0 ha hst hpl ht
theorem pe_km0 {pl : Sem Bool} (he : PE X o ta) (c : Km X.prog X.w X.K X.mg X.base k C m ps sp) (hr : Room k X.A)
    (ht : eval (.Call (.Attribute o m apos) [] [] pos) X.env = (do
      let ov ← eval o X.env
      standAt apos.atName
      let (f, first) ← holding [ov] (getMethod ov m pl)
      callWith pos f first (backTo pos (starEach [] X.env)) (backToKw pos (keywordEach [] X.env))) := by rfl) :
    PE X (.Call (.Attribute o m apos) [] [] pos) (tMeth (ga X.K C) m sp [] E0 ta tNil) := by
  obtain ⟨h1, h2, fd, h3, h4⟩ := c
  exact pe_meth0 (pl := pl) he h1 h2 h3 hr h4 .nil pass0 ht
end
section
variable {X : Cx} {K : PySem.W.Frag} {k : Nat} {C m f x : Str} {ps : List Str} {sp : Sp} {p pos apos : Pos} {e o : Expr} {es : List Expr} {t : TA} {ta : TE}
theorem pe_fldK (he : PE X e ta) (hb : attributeBase e f X.env (eval e X.env) = eval e X.env) (hK : X.K = K := by rfl) : PE X (.Attribute e f pos) (tFld K ta f) := by
  subst hK
  exact pe_fld he hb
theorem pg_tupK {kk : Nat} {tt : TGs} {n : Nat} (hc : X.calm = true) (h : PGs X es tt) (hn : (assignEach es X.env).length = n := by rfl) (hst : (assignEach es X.env).findIdx? (·.1) = none := by rfl) (hK : X.K = K := by rfl) : PG X (.Tuple es kk pos) (gTup K n tt) := by
  subst hK
  exact pg_tup hc h hn hst
theorem pe_kiK {P : Program} {w : World} {mg : Str → Option Value} {base : Heap} (c : Ki P w K mg base k x ps sp) (hr : Room (k + 1) X.A) (ha : PA X (e :: es) t) (h1 : X.prog = P := by rfl) (h2 : X.w = w := by rfl) (hK : X.K = K := by rfl) (h3 : X.mg = mg := by rfl) (h4 : X.base = base := by rfl) (hg : Gl X x := by rfl) (hdb : (x == ("__debug__" : Str)) = false := by decide)
    (he : starEach (e :: es) X.env = (false, eval e X.env) :: starEach es X.env := by rfl) (hpl : (backTo pos (starEach es X.env)).any (·.1) = false := by rfl) : PE X (.Call (.Name x p) (e :: es) [] pos) (tMake (ga K x) sp [] E0 t) := by
  subst h1 h2 hK h3 h4
  exact pe_ki c hr ha hg hdb he hpl
end
section
variable {X : Cx}
/-- what the walk never comes to -/
theorem pss_dead {st : List Stmt} : PSs X st (fun _ _ _ => False) := ⟨fun _ _ _ _ _ _ h => h.elim⟩
theorem pe_dead {e : Expr} : PE X e (fun _ _ _ => False) := ⟨fun _ _ _ _ _ _ h => h.elim⟩
end
/-! ### the fields of each class, in the order in which __init__ stores them -/
def f_AnyWorld (a0 a1 a2 a3 : V) : List (Str × V) := [("tape", a0), ("l", a1), ("m", a2), ("told", a3)]
theorem lk_AnyWorld_tape {a0 a1 a2 a3 : V} : (f_AnyWorld a0 a1 a2 a3).lookup ("tape" : Str) = some a0 := by kernel_rfl
theorem pt_AnyWorld_tape {a0 a1 a2 a3 b : V} : putF "tape" b (f_AnyWorld a0 a1 a2 a3) = f_AnyWorld b a1 a2 a3 := by kernel_rfl
theorem lk_AnyWorld_l {a0 a1 a2 a3 : V} : (f_AnyWorld a0 a1 a2 a3).lookup ("l" : Str) = some a1 := by kernel_rfl
theorem pt_AnyWorld_l {a0 a1 a2 a3 b : V} : putF "l" b (f_AnyWorld a0 a1 a2 a3) = f_AnyWorld a0 b a2 a3 := by kernel_rfl
theorem lk_AnyWorld_m {a0 a1 a2 a3 : V} : (f_AnyWorld a0 a1 a2 a3).lookup ("m" : Str) = some a2 := by kernel_rfl
theorem pt_AnyWorld_m {a0 a1 a2 a3 b : V} : putF "m" b (f_AnyWorld a0 a1 a2 a3) = f_AnyWorld a0 a1 b a3 := by kernel_rfl
theorem lk_AnyWorld_told {a0 a1 a2 a3 : V} : (f_AnyWorld a0 a1 a2 a3).lookup ("told" : Str) = some a3 := by kernel_rfl
theorem pt_AnyWorld_told {a0 a1 a2 a3 b : V} : putF "told" b (f_AnyWorld a0 a1 a2 a3) = f_AnyWorld a0 a1 a2 b := by kernel_rfl
theorem mk_AnyWorld {a0 a1 a2 a3 : V} : putF "told" a3 (putF "m" a2 (putF "l" a1 (putF "tape" a0 (([] : List (Str × V)))))) = f_AnyWorld a0 a1 a2 a3 := by kernel_rfl
theorem no_AnyWorld_answer {a0 a1 a2 a3 : V} : (f_AnyWorld a0 a1 a2 a3).lookup ("answer" : Str) = none := by kernel_rfl
def f_PermutationWorld (a0 a1 a2 : V) : List (Str × V) := [("tape", a0), ("l", a1), ("told", a2)]
theorem lk_PermutationWorld_tape {a0 a1 a2 : V} : (f_PermutationWorld a0 a1 a2).lookup ("tape" : Str) = some a0 := by kernel_rfl
theorem pt_PermutationWorld_tape {a0 a1 a2 b : V} : putF "tape" b (f_PermutationWorld a0 a1 a2) = f_PermutationWorld b a1 a2 := by kernel_rfl
theorem lk_PermutationWorld_l {a0 a1 a2 : V} : (f_PermutationWorld a0 a1 a2).lookup ("l" : Str) = some a1 := by kernel_rfl
theorem pt_PermutationWorld_l {a0 a1 a2 b : V} : putF "l" b (f_PermutationWorld a0 a1 a2) = f_PermutationWorld a0 b a2 := by kernel_rfl
theorem lk_PermutationWorld_told {a0 a1 a2 : V} : (f_PermutationWorld a0 a1 a2).lookup ("told" : Str) = some a2 := by kernel_rfl
theorem pt_PermutationWorld_told {a0 a1 a2 b : V} : putF "told" b (f_PermutationWorld a0 a1 a2) = f_PermutationWorld a0 a1 b := by kernel_rfl
theorem mk_PermutationWorld {a0 a1 a2 : V} : putF "told" a2 (putF "l" a1 (putF "tape" a0 (([] : List (Str × V))))) = f_PermutationWorld a0 a1 a2 := by kernel_rfl
theorem no_PermutationWorld_answer {a0 a1 a2 : V} : (f_PermutationWorld a0 a1 a2).lookup ("answer" : Str) = none := by kernel_rfl
def f_SwapWorld (a0 a1 : V) : List (Str × V) := [("h", a0), ("functions", a1)]
theorem lk_SwapWorld_h {a0 a1 : V} : (f_SwapWorld a0 a1).lookup ("h" : Str) = some a0 := by kernel_rfl
theorem pt_SwapWorld_h {a0 a1 b : V} : putF "h" b (f_SwapWorld a0 a1) = f_SwapWorld b a1 := by kernel_rfl
theorem lk_SwapWorld_functions {a0 a1 : V} : (f_SwapWorld a0 a1).lookup ("functions" : Str) = some a1 := by kernel_rfl
theorem pt_SwapWorld_functions {a0 a1 b : V} : putF "functions" b (f_SwapWorld a0 a1) = f_SwapWorld a0 b := by kernel_rfl
theorem mk_SwapWorld {a0 a1 : V} : putF "functions" a1 (putF "h" a0 (([] : List (Str × V)))) = f_SwapWorld a0 a1 := by kernel_rfl
theorem no_SwapWorld_answer {a0 a1 : V} : (f_SwapWorld a0 a1).lookup ("answer" : Str) = none := by kernel_rfl
def f_Stopped (a0 : V) : List (Str × V) := [("world", a0)]
theorem lk_Stopped_world {a0 : V} : (f_Stopped a0).lookup ("world" : Str) = some a0 := by kernel_rfl
theorem pt_Stopped_world {a0 b : V} : putF "world" b (f_Stopped a0) = f_Stopped b := by kernel_rfl
theorem mk_Stopped {a0 : V} : putF "world" a0 (([] : List (Str × V))) = f_Stopped a0 := by kernel_rfl
theorem no_Stopped_now {a0 : V} : (f_Stopped a0).lookup ("now" : Str) = none := by kernel_rfl
def f_Tape (a0 a1 : V) : List (Str × V) := [("choices", a0), ("draws", a1)]
theorem lk_Tape_choices {a0 a1 : V} : (f_Tape a0 a1).lookup ("choices" : Str) = some a0 := by kernel_rfl
theorem pt_Tape_choices {a0 a1 b : V} : putF "choices" b (f_Tape a0 a1) = f_Tape b a1 := by kernel_rfl
theorem lk_Tape_draws {a0 a1 : V} : (f_Tape a0 a1).lookup ("draws" : Str) = some a1 := by kernel_rfl
theorem pt_Tape_draws {a0 a1 b : V} : putF "draws" b (f_Tape a0 a1) = f_Tape a0 b := by kernel_rfl
theorem mk_Tape {a0 a1 : V} : putF "draws" a1 (putF "choices" a0 (([] : List (Str × V)))) = f_Tape a0 a1 := by kernel_rfl
theorem no_Tape_draw {a0 a1 : V} : (f_Tape a0 a1).lookup ("draw" : Str) = none := by kernel_rfl
theorem no_Tape_string {a0 a1 : V} : (f_Tape a0 a1).lookup ("string" : Str) = none := by kernel_rfl
def f_Play (a0 a1 a2 a3 : V) : List (Str × V) := [("outcome", a0), ("said", a1), ("draws", a2), ("asked", a3)]
theorem lk_Play_outcome {a0 a1 a2 a3 : V} : (f_Play a0 a1 a2 a3).lookup ("outcome" : Str) = some a0 := by kernel_rfl
theorem pt_Play_outcome {a0 a1 a2 a3 b : V} : putF "outcome" b (f_Play a0 a1 a2 a3) = f_Play b a1 a2 a3 := by kernel_rfl
theorem lk_Play_said {a0 a1 a2 a3 : V} : (f_Play a0 a1 a2 a3).lookup ("said" : Str) = some a1 := by kernel_rfl
theorem pt_Play_said {a0 a1 a2 a3 b : V} : putF "said" b (f_Play a0 a1 a2 a3) = f_Play a0 b a2 a3 := by kernel_rfl
theorem lk_Play_draws {a0 a1 a2 a3 : V} : (f_Play a0 a1 a2 a3).lookup ("draws" : Str) = some a2 := by kernel_rfl
theorem pt_Play_draws {a0 a1 a2 a3 b : V} : putF "draws" b (f_Play a0 a1 a2 a3) = f_Play a0 a1 b a3 := by kernel_rfl
theorem lk_Play_asked {a0 a1 a2 a3 : V} : (f_Play a0 a1 a2 a3).lookup ("asked" : Str) = some a3 := by kernel_rfl
theorem pt_Play_asked {a0 a1 a2 a3 b : V} : putF "asked" b (f_Play a0 a1 a2 a3) = f_Play a0 a1 a2 b := by kernel_rfl
theorem mk_Play {a0 a1 a2 a3 : V} : putF "asked" a3 (putF "draws" a2 (putF "said" a1 (putF "outcome" a0 (([] : List (Str × V)))))) = f_Play a0 a1 a2 a3 := by kernel_rfl
def f_Notes (a0 a1 : V) : List (Str × V) := [("world", a0), ("asked", a1)]
theorem lk_Notes_world {a0 a1 : V} : (f_Notes a0 a1).lookup ("world" : Str) = some a0 := by kernel_rfl
theorem pt_Notes_world {a0 a1 b : V} : putF "world" b (f_Notes a0 a1) = f_Notes b a1 := by kernel_rfl
theorem lk_Notes_asked {a0 a1 : V} : (f_Notes a0 a1).lookup ("asked" : Str) = some a1 := by kernel_rfl
theorem pt_Notes_asked {a0 a1 b : V} : putF "asked" b (f_Notes a0 a1) = f_Notes a0 b := by kernel_rfl
theorem mk_Notes {a0 a1 : V} : putF "asked" a1 (putF "world" a0 (([] : List (Str × V)))) = f_Notes a0 a1 := by kernel_rfl
theorem no_Notes_answer {a0 a1 : V} : (f_Notes a0 a1).lookup ("answer" : Str) = none := by kernel_rfl
def f_Table (a0 a1 a2 a3 a4 a5 : V) : List (Str × V) := [("game", a0), ("tape", a1), ("kind", a2), ("challenge", a3), ("world", a4), ("secret", a5)]
theorem lk_Table_game {a0 a1 a2 a3 a4 a5 : V} : (f_Table a0 a1 a2 a3 a4 a5).lookup ("game" : Str) = some a0 := by kernel_rfl
theorem pt_Table_game {a0 a1 a2 a3 a4 a5 b : V} : putF "game" b (f_Table a0 a1 a2 a3 a4 a5) = f_Table b a1 a2 a3 a4 a5 := by kernel_rfl
theorem lk_Table_tape {a0 a1 a2 a3 a4 a5 : V} : (f_Table a0 a1 a2 a3 a4 a5).lookup ("tape" : Str) = some a1 := by kernel_rfl
theorem pt_Table_tape {a0 a1 a2 a3 a4 a5 b : V} : putF "tape" b (f_Table a0 a1 a2 a3 a4 a5) = f_Table a0 b a2 a3 a4 a5 := by kernel_rfl
theorem lk_Table_kind {a0 a1 a2 a3 a4 a5 : V} : (f_Table a0 a1 a2 a3 a4 a5).lookup ("kind" : Str) = some a2 := by kernel_rfl
theorem pt_Table_kind {a0 a1 a2 a3 a4 a5 b : V} : putF "kind" b (f_Table a0 a1 a2 a3 a4 a5) = f_Table a0 a1 b a3 a4 a5 := by kernel_rfl
theorem lk_Table_challenge {a0 a1 a2 a3 a4 a5 : V} : (f_Table a0 a1 a2 a3 a4 a5).lookup ("challenge" : Str) = some a3 := by kernel_rfl
theorem pt_Table_challenge {a0 a1 a2 a3 a4 a5 b : V} : putF "challenge" b (f_Table a0 a1 a2 a3 a4 a5) = f_Table a0 a1 a2 b a4 a5 := by kernel_rfl
theorem lk_Table_world {a0 a1 a2 a3 a4 a5 : V} : (f_Table a0 a1 a2 a3 a4 a5).lookup ("world" : Str) = some a4 := by kernel_rfl
theorem pt_Table_world {a0 a1 a2 a3 a4 a5 b : V} : putF "world" b (f_Table a0 a1 a2 a3 a4 a5) = f_Table a0 a1 a2 a3 b a5 := by kernel_rfl
theorem lk_Table_secret {a0 a1 a2 a3 a4 a5 : V} : (f_Table a0 a1 a2 a3 a4 a5).lookup ("secret" : Str) = some a5 := by kernel_rfl
theorem pt_Table_secret {a0 a1 a2 a3 a4 a5 b : V} : putF "secret" b (f_Table a0 a1 a2 a3 a4 a5) = f_Table a0 a1 a2 a3 a4 b := by kernel_rfl
theorem mk_Table {a0 a1 a2 a3 a4 a5 : V} : putF "secret" a5 (putF "world" a4 (putF "challenge" a3 (putF "kind" a2 (putF "tape" a1 (putF "game" a0 (([] : List (Str × V)))))))) = f_Table a0 a1 a2 a3 a4 a5 := by kernel_rfl
theorem no_Table_begin_asks {a0 a1 a2 a3 a4 a5 : V} : (f_Table a0 a1 a2 a3 a4 a5).lookup ("begin_asks" : Str) = none := by kernel_rfl
theorem no_Table_has_won {a0 a1 a2 a3 a4 a5 : V} : (f_Table a0 a1 a2 a3 a4 a5).lookup ("has_won" : Str) = none := by kernel_rfl
def f_Ways (a0 a1 a2 : V) : List (Str × V) := [("most", a0), ("many", a1), ("won", a2)]
theorem lk_Ways_most {a0 a1 a2 : V} : (f_Ways a0 a1 a2).lookup ("most" : Str) = some a0 := by kernel_rfl
theorem pt_Ways_most {a0 a1 a2 b : V} : putF "most" b (f_Ways a0 a1 a2) = f_Ways b a1 a2 := by kernel_rfl
theorem lk_Ways_many {a0 a1 a2 : V} : (f_Ways a0 a1 a2).lookup ("many" : Str) = some a1 := by kernel_rfl
theorem pt_Ways_many {a0 a1 a2 b : V} : putF "many" b (f_Ways a0 a1 a2) = f_Ways a0 b a2 := by kernel_rfl
theorem lk_Ways_won {a0 a1 a2 : V} : (f_Ways a0 a1 a2).lookup ("won" : Str) = some a2 := by kernel_rfl
theorem pt_Ways_won {a0 a1 a2 b : V} : putF "won" b (f_Ways a0 a1 a2) = f_Ways a0 a1 b := by kernel_rfl
theorem mk_Ways {a0 a1 a2 : V} : putF "won" a2 (putF "many" a1 (putF "most" a0 (([] : List (Str × V))))) = f_Ways a0 a1 a2 := by kernel_rfl
theorem no_Ways_count {a0 a1 a2 : V} : (f_Ways a0 a1 a2).lookup ("count" : Str) = none := by kernel_rfl
theorem no_Ways_chance {a0 a1 a2 : V} : (f_Ways a0 a1 a2).lookup ("chance" : Str) = none := by kernel_rfl
end BK
/-! the head: facts by names, the top run once for each answer of the row that it asks -/
namespace BK
open PySem PySem.W PySem.Calls PySem.Spec PyProof.Rows L2 He
def loose0 : List Str := ["bits",
  "number_of",
  "xor",
  "parity",
  "BreakError",
  "BadBreaker",
  "BadGame",
  "BadChoice",
  "TooMany",
  "MOST_LENGTH",
  "is_number",
  "is_bits",
  "is_row",
  "is_generator",
  "is_function"]
def loose1 : List Str := ["row_at",
  "value_at",
  "put_out",
  "go_down",
  "half",
  "tree_turns",
  "PLAIN_WORDS",
  "MOST_BIT",
  "MOST_TOSSED",
  "MOST_DEPTH",
  "MOST_LAYERS",
  "MOST_WITHIN",
  "MOST_ASKS",
  "MOST_COUNTED",
  "are_parts"]
def loose2 : List Str := ["inner_plain",
  "check_plain",
  "fits_longer",
  "fits_tree",
  "is_length",
  "fits_word",
  "has_plain_word",
  "check_breaker",
  "Silent",
  "KeyedWorld",
  "AnyWorld",
  "PermutationWorld",
  "SwapWorld",
  "SecretWorld",
  "OnceWorld"]
def loose3 : List Str := ["MarkWorld",
  "OnetimeWorld",
  "made_string",
  "Stopped",
  "run_plain",
  "run_longer",
  "TreeWorld",
  "run_tree",
  "run_marks",
  "guessed",
  "run_secrets",
  "run_once",
  "run_opening",
  "run_onetime",
  "prefix_challenge"]
def loose4 : List Str := ["run_next",
  "run_guess",
  "run_counter",
  "run_cut",
  "run_bit",
  "squares_of",
  "run_hard",
  "RUNS",
  "run_breaker",
  "Tape",
  "SIZES",
  "is_truth",
  "is_right",
  "check_game",
  "Play"]
def loose5 : List Str := ["Notes",
  "cover",
  "function_world",
  "Table",
  "played",
  "fraction",
  "add",
  "next_choices",
  "Ways",
  "ways_of",
  "chance",
  "_law_mixed",
  "_law_tape",
  "_law_draw",
  "_law_pick"]
def loose6 : List Str := ["_law_bits",
  "_law_number",
  "_law_string",
  "_law_xor",
  "_law_fraction",
  "_law_sum",
  "_law_less",
  "_law_note",
  "_law_parts",
  "_law_say",
  "_law_breaker",
  "_law_made",
  "_law_function",
  "_law_asking",
  "_law_answers"]
def loose7 : List Str := ["_law_is",
  "_law_strings",
  "_law_shuffling",
  "_law_swapped",
  "_law_swapping",
  "_law_asks",
  "_law_within"]
def loose : List Str := loose0 ++ (loose1 ++ (loose2 ++ (loose3 ++ (loose4 ++ (loose5 ++ (loose6 ++ (loose7)))))))
def fa0 : List He.Fa := [.free "len",
  .free "isinstance",
  .free "int",
  .free "str",
  .free "list",
  .free "tuple",
  .free "bool",
  .free "range",
  .free "zip",
  .free "reversed",
  .free "all",
  .free "sorted"]
def fa1 : List He.Fa := [.free "abs",
  .free "max",
  .int "MOST_LENGTH" 40,
  .int "MOST_BIT" 9999,
  .int "MOST_TOSSED" 64,
  .int "MOST_DEPTH" 60,
  .int "MOST_WITHIN" 2000,
  .glo "PLAIN_WORDS",
  .glo "SIZES",
  .glo "RUNS",
  .glo "OnetimeWorld",
  .glo "AnyWorld"]
def fa2 : List He.Fa := [.glo "PermutationWorld",
  .glo "SwapWorld",
  .glo "Stopped",
  .glo "Tape",
  .glo "Play",
  .glo "Notes",
  .glo "Table",
  .glo "Ways",
  .glo "Silent",
  .cls "AnyWorld",
  .noat "AnyWorld" "tape",
  .noat "AnyWorld" "l"]
def fa3 : List He.Fa := [.noat "AnyWorld" "m",
  .noat "AnyWorld" "told",
  .mkr "AnyWorld",
  .meth "AnyWorld" "answer",
  .cls "PermutationWorld",
  .noat "PermutationWorld" "tape",
  .noat "PermutationWorld" "l",
  .noat "PermutationWorld" "told",
  .mkr "PermutationWorld",
  .meth "PermutationWorld" "answer",
  .cls "SwapWorld",
  .noat "SwapWorld" "h"]
def fa4 : List He.Fa := [.noat "SwapWorld" "functions",
  .mkr "SwapWorld",
  .meth "SwapWorld" "answer",
  .cls "Stopped",
  .noat "Stopped" "world",
  .mkr "Stopped",
  .meth "Stopped" "now",
  .cls "Tape",
  .noat "Tape" "choices",
  .noat "Tape" "draws",
  .mkr "Tape",
  .meth "Tape" "draw"]
def fa5 : List He.Fa := [.meth "Tape" "string",
  .cls "Play",
  .noat "Play" "outcome",
  .noat "Play" "said",
  .noat "Play" "draws",
  .noat "Play" "asked",
  .mkr "Play",
  .cls "Notes",
  .noat "Notes" "world",
  .noat "Notes" "asked",
  .mkr "Notes",
  .meth "Notes" "answer"]
def fa6 : List He.Fa := [.cls "Table",
  .noat "Table" "game",
  .noat "Table" "tape",
  .noat "Table" "kind",
  .noat "Table" "challenge",
  .noat "Table" "world",
  .noat "Table" "secret",
  .mkr "Table",
  .meth "Table" "begin_asks",
  .meth "Table" "has_won",
  .cls "Ways",
  .noat "Ways" "most"]
def fa7 : List He.Fa := [.noat "Ways" "many",
  .noat "Ways" "won",
  .mkr "Ways",
  .meth "Ways" "count",
  .meth "Ways" "chance",
  .cls "Silent",
  .glo "bits",
  .glo "xor",
  .glo "is_number",
  .glo "is_bits",
  .glo "is_row",
  .glo "is_function"]
def fa8 : List He.Fa := [.glo "are_parts",
  .glo "inner_plain",
  .glo "check_plain",
  .glo "has_plain_word",
  .glo "check_breaker",
  .glo "made_string",
  .glo "run_plain",
  .glo "run_breaker",
  .glo "is_truth",
  .glo "is_right",
  .glo "check_game",
  .glo "function_world"]
def fa9 : List He.Fa := [.glo "played",
  .glo "fraction",
  .glo "add",
  .glo "next_choices",
  .glo "ways_of",
  .glo "chance",
  .glo "_law_mixed",
  .glo "_law_tape",
  .glo "_law_draw",
  .glo "_law_pick",
  .glo "_law_bits",
  .glo "_law_string"]
def fa10 : List He.Fa := [.glo "_law_xor",
  .glo "_law_fraction",
  .glo "_law_sum",
  .glo "_law_less",
  .glo "_law_note",
  .glo "_law_parts",
  .glo "_law_say",
  .glo "_law_breaker",
  .glo "_law_made",
  .glo "_law_function",
  .glo "_law_asking",
  .glo "_law_answers"]
def fa11 : List He.Fa := [.glo "_law_is",
  .glo "_law_strings",
  .glo "_law_shuffling",
  .glo "_law_swapped",
  .glo "_law_swapping",
  .glo "_law_asks",
  .glo "_law_within",
  .glo "law"]
def fa : List He.Fa := fa0 ++ (fa1 ++ (fa2 ++ (fa3 ++ (fa4 ++ (fa5 ++ (fa6 ++ (fa7 ++ (fa8 ++ (fa9 ++ (fa10 ++ (fa11)))))))))))
def fn0 : List He.DefD := [⟨("bits", none), "bits", "bits", defArgs s_bits, defBody s_bits, defScope s_bits, [], []⟩,
  ⟨("xor", none), "xor", "xor", defArgs s_xor, defBody s_xor, defScope s_xor, [], []⟩,
  ⟨("is_number", none), "is_number", "is_number", defArgs s_is_number, defBody s_is_number, defScope s_is_number, [], []⟩,
  ⟨("is_bits", none), "is_bits", "is_bits", defArgs s_is_bits, defBody s_is_bits, defScope s_is_bits, [], []⟩,
  ⟨("is_row", none), "is_row", "is_row", defArgs s_is_row, defBody s_is_row, defScope s_is_row, [], []⟩,
  ⟨("is_function", none), "is_function", "is_function", defArgs s_is_function, defBody s_is_function, defScope s_is_function, [], []⟩,
  ⟨("are_parts", none), "are_parts", "are_parts", defArgs s_are_parts, defBody s_are_parts, defScope s_are_parts, [], []⟩,
  ⟨("inner_plain", none), "inner_plain", "inner_plain", defArgs s_inner_plain, defBody s_inner_plain, defScope s_inner_plain, [], []⟩,
  ⟨("check_plain", none), "check_plain", "check_plain", defArgs s_check_plain, defBody s_check_plain, defScope s_check_plain, [], []⟩,
  ⟨("has_plain_word", none), "has_plain_word", "has_plain_word", defArgs s_has_plain_word, defBody s_has_plain_word, defScope s_has_plain_word, [], []⟩,
  ⟨("check_breaker", none), "check_breaker", "check_breaker", defArgs s_check_breaker, defBody s_check_breaker, defScope s_check_breaker, [], []⟩,
  ⟨("AnyWorld", some "__init__"), "__init__", "AnyWorld.__init__", defArgs s_AnyWorld_init, defBody s_AnyWorld_init, defScope s_AnyWorld_init, [], []⟩]
def fn1 : List He.DefD := [⟨("AnyWorld", some "answer"), "answer", "AnyWorld.answer", defArgs s_AnyWorld_answer, defBody s_AnyWorld_answer, defScope s_AnyWorld_answer, [], []⟩,
  ⟨("PermutationWorld", some "__init__"), "__init__", "PermutationWorld.__init__", defArgs s_PermutationWorld_init, defBody s_PermutationWorld_init, defScope s_PermutationWorld_init, [], []⟩,
  ⟨("PermutationWorld", some "answer"), "answer", "PermutationWorld.answer", defArgs s_PermutationWorld_answer, defBody s_PermutationWorld_answer, defScope s_PermutationWorld_answer, [], []⟩,
  ⟨("SwapWorld", some "__init__"), "__init__", "SwapWorld.__init__", defArgs s_SwapWorld_init, defBody s_SwapWorld_init, defScope s_SwapWorld_init, [], []⟩,
  ⟨("SwapWorld", some "answer"), "answer", "SwapWorld.answer", defArgs s_SwapWorld_answer, defBody s_SwapWorld_answer, defScope s_SwapWorld_answer, [], []⟩,
  ⟨("made_string", none), "made_string", "made_string", defArgs s_made_string, defBody s_made_string, defScope s_made_string, [], []⟩,
  ⟨("Stopped", some "__init__"), "__init__", "Stopped.__init__", defArgs s_Stopped_init, defBody s_Stopped_init, defScope s_Stopped_init, [], []⟩,
  ⟨("Stopped", some "now"), "now", "Stopped.now", defArgs s_Stopped_now, defBody s_Stopped_now, defScope s_Stopped_now, [], []⟩,
  ⟨("run_plain", none), "run_plain", "run_plain", defArgs s_run_plain, defBody s_run_plain, defScope s_run_plain, [], []⟩,
  ⟨("run_breaker", none), "run_breaker", "run_breaker", defArgs s_run_breaker, defBody s_run_breaker, defScope s_run_breaker, [], []⟩,
  ⟨("Tape", some "__init__"), "__init__", "Tape.__init__", defArgs s_Tape_init, defBody s_Tape_init, defScope s_Tape_init, [], []⟩,
  ⟨("Tape", some "draw"), "draw", "Tape.draw", defArgs s_Tape_draw, defBody s_Tape_draw, defScope s_Tape_draw, [], []⟩]
def fn2 : List He.DefD := [⟨("Tape", some "string"), "string", "Tape.string", defArgs s_Tape_string, defBody s_Tape_string, defScope s_Tape_string, [], []⟩,
  ⟨("is_truth", none), "is_truth", "is_truth", defArgs s_is_truth, defBody s_is_truth, defScope s_is_truth, [], []⟩,
  ⟨("is_right", none), "is_right", "is_right", defArgs s_is_right, defBody s_is_right, defScope s_is_right, [], []⟩,
  ⟨("check_game", none), "check_game", "check_game", defArgs s_check_game, defBody s_check_game, defScope s_check_game, [], []⟩,
  ⟨("Play", some "__init__"), "__init__", "Play.__init__", defArgs s_Play_init, defBody s_Play_init, defScope s_Play_init, [], []⟩,
  ⟨("Notes", some "__init__"), "__init__", "Notes.__init__", defArgs s_Notes_init, defBody s_Notes_init, defScope s_Notes_init, [], []⟩,
  ⟨("Notes", some "answer"), "answer", "Notes.answer", defArgs s_Notes_answer, defBody s_Notes_answer, defScope s_Notes_answer, [], []⟩,
  ⟨("function_world", none), "function_world", "function_world", defArgs s_function_world, defBody s_function_world, defScope s_function_world, [], []⟩,
  ⟨("Table", some "__init__"), "__init__", "Table.__init__", defArgs s_Table_init, defBody s_Table_init, defScope s_Table_init, [], []⟩,
  ⟨("Table", some "begin_asks"), "begin_asks", "Table.begin_asks", defArgs s_Table_begin_asks, defBody s_Table_begin_asks, defScope s_Table_begin_asks, [], []⟩,
  ⟨("Table", some "has_won"), "has_won", "Table.has_won", defArgs s_Table_has_won, defBody s_Table_has_won, defScope s_Table_has_won, [], []⟩,
  ⟨("played", none), "played", "played", defArgs s_played, defBody s_played, defScope s_played, [], []⟩]
def fn3 : List He.DefD := [⟨("fraction", none), "fraction", "fraction", defArgs s_fraction, defBody s_fraction, defScope s_fraction, [], []⟩,
  ⟨("add", none), "add", "add", defArgs s_add, defBody s_add, defScope s_add, [], []⟩,
  ⟨("next_choices", none), "next_choices", "next_choices", defArgs s_next_choices, defBody s_next_choices, defScope s_next_choices, [], []⟩,
  ⟨("Ways", some "__init__"), "__init__", "Ways.__init__", defArgs s_Ways_init, defBody s_Ways_init, defScope s_Ways_init, [], []⟩,
  ⟨("Ways", some "count"), "count", "Ways.count", defArgs s_Ways_count, defBody s_Ways_count, defScope s_Ways_count, [], []⟩,
  ⟨("Ways", some "chance"), "chance", "Ways.chance", defArgs s_Ways_chance, defBody s_Ways_chance, defScope s_Ways_chance, [], []⟩,
  ⟨("ways_of", none), "ways_of", "ways_of", defArgs s_ways_of, defBody s_ways_of, defScope s_ways_of, [], []⟩,
  ⟨("chance", none), "chance", "chance", defArgs s_chance, defBody s_chance, defScope s_chance, [], [("most", .int 300000)]⟩,
  ⟨("_law_mixed", none), "_law_mixed", "_law_mixed", defArgs s_law_mixed, defBody s_law_mixed, defScope s_law_mixed, [], []⟩,
  ⟨("_law_tape", none), "_law_tape", "_law_tape", defArgs s_law_tape, defBody s_law_tape, defScope s_law_tape, [], []⟩,
  ⟨("_law_draw", none), "_law_draw", "_law_draw", defArgs s_law_draw, defBody s_law_draw, defScope s_law_draw, [], []⟩,
  ⟨("_law_pick", none), "_law_pick", "_law_pick", defArgs s_law_pick, defBody s_law_pick, defScope s_law_pick, [], []⟩]
def fn4 : List He.DefD := [⟨("_law_bits", none), "_law_bits", "_law_bits", defArgs s_law_bits, defBody s_law_bits, defScope s_law_bits, [], []⟩,
  ⟨("_law_string", none), "_law_string", "_law_string", defArgs s_law_string, defBody s_law_string, defScope s_law_string, [], []⟩,
  ⟨("_law_xor", none), "_law_xor", "_law_xor", defArgs s_law_xor, defBody s_law_xor, defScope s_law_xor, [], []⟩,
  ⟨("_law_fraction", none), "_law_fraction", "_law_fraction", defArgs s_law_fraction, defBody s_law_fraction, defScope s_law_fraction, [], []⟩,
  ⟨("_law_sum", none), "_law_sum", "_law_sum", defArgs s_law_sum, defBody s_law_sum, defScope s_law_sum, [], []⟩,
  ⟨("_law_less", none), "_law_less", "_law_less", defArgs s_law_less, defBody s_law_less, defScope s_law_less, [], []⟩,
  ⟨("_law_note", none), "_law_note", "_law_note", defArgs s_law_note, defBody s_law_note, defScope s_law_note, [], []⟩,
  ⟨("_law_parts", none), "_law_parts", "_law_parts", defArgs s_law_parts, defBody s_law_parts, defScope s_law_parts, [], []⟩,
  ⟨("_law_say", none), "_law_say", "_law_say", defArgs s_law_say, defBody s_law_say, defScope s_law_say, [], []⟩,
  ⟨("_law_breaker", none), "_law_breaker", "_law_breaker", defArgs s_law_breaker, defBody s_law_breaker, defScope s_law_breaker, [], []⟩,
  ⟨("_law_made", none), "_law_made", "_law_made", defArgs s_law_made, defBody s_law_made, defScope s_law_made, [], []⟩,
  ⟨("_law_function", none), "_law_function", "_law_function", defArgs s_law_function, defBody s_law_function, defScope s_law_function, [], []⟩]
def fn5 : List He.DefD := [⟨("_law_asking", none), "_law_asking", "_law_asking", defArgs s_law_asking, defBody s_law_asking, defScope s_law_asking, [], []⟩,
  ⟨("_law_answers", none), "_law_answers", "_law_answers", defArgs s_law_answers, defBody s_law_answers, defScope s_law_answers, [], []⟩,
  ⟨("_law_is", none), "_law_is", "_law_is", defArgs s_law_is, defBody s_law_is, defScope s_law_is, [], []⟩,
  ⟨("_law_strings", none), "_law_strings", "_law_strings", defArgs s_law_strings, defBody s_law_strings, defScope s_law_strings, [], []⟩,
  ⟨("_law_shuffling", none), "_law_shuffling", "_law_shuffling", defArgs s_law_shuffling, defBody s_law_shuffling, defScope s_law_shuffling, [], []⟩,
  ⟨("_law_swapped", none), "_law_swapped", "_law_swapped", defArgs s_law_swapped, defBody s_law_swapped, defScope s_law_swapped, [], []⟩,
  ⟨("_law_swapping", none), "_law_swapping", "_law_swapping", defArgs s_law_swapping, defBody s_law_swapping, defScope s_law_swapping, [], []⟩,
  ⟨("_law_asks", none), "_law_asks", "_law_asks", defArgs s_law_asks, defBody s_law_asks, defScope s_law_asks, [], []⟩,
  ⟨("_law_within", none), "_law_within", "_law_within", defArgs s_law_within, defBody s_law_within, defScope s_law_within, [], []⟩,
  ⟨("law", none), "law", "law", defArgs s_law, defBody s_law, defScope s_law, [], []⟩]
def fn : List He.DefD := fn0 ++ (fn1 ++ (fn2 ++ (fn3 ++ (fn4 ++ (fn5)))))
def wanted0 : List Str := ["OnetimeWorld",
  "AnyWorld",
  "PermutationWorld",
  "SwapWorld",
  "Stopped",
  "Tape",
  "Play",
  "Notes",
  "Table",
  "Ways",
  "Silent",
  "bits",
  "xor",
  "is_number",
  "is_bits"]
def wanted1 : List Str := ["is_row",
  "is_function",
  "are_parts",
  "inner_plain",
  "check_plain",
  "has_plain_word",
  "check_breaker",
  "made_string",
  "run_plain",
  "run_breaker",
  "is_truth",
  "is_right",
  "check_game",
  "function_world",
  "played"]
def wanted2 : List Str := ["fraction",
  "add",
  "next_choices",
  "ways_of",
  "chance",
  "_law_mixed",
  "_law_tape",
  "_law_draw",
  "_law_pick",
  "_law_bits",
  "_law_string",
  "_law_xor",
  "_law_fraction",
  "_law_sum",
  "_law_less"]
def wanted3 : List Str := ["_law_note",
  "_law_parts",
  "_law_say",
  "_law_breaker",
  "_law_made",
  "_law_function",
  "_law_asking",
  "_law_answers",
  "_law_is",
  "_law_strings",
  "_law_shuffling",
  "_law_swapped",
  "_law_swapping",
  "_law_asks",
  "_law_within"]
def wanted4 : List Str := ["law"]
def wanted : List Str := wanted0 ++ (wanted1 ++ (wanted2 ++ (wanted3 ++ (wanted4))))
def tabs : List He.Tab := [(fun K => ga K "SIZES", ["generator", "function", "permutation", "swaps", "marks", "secrets", "once", "opening", "next", "inverse", "onetime", "hard"]), (fun K => ga K "RUNS", ["counter", "cut", "bit", "longer", "tree", "marks", "secrets", "once", "opening", "onetime", "next", "guess", "hard"])]
def intAt (K : PySem.W.Frag) (d : Addr) (x : Str) (i : Int) : Bool := match PySem.W.nsIn K d x with
  | some (some (.int j _)) => decide (j = i)
  | _ => false
def ex (K : PySem.W.Frag) : Bool :=
  (eqO (PySem.W.nsIn K mainGlobals "gcd") (some (some (.builtin "math.gcd"))) && (PySem.W.makesIn K (ga K "Silent") && (eqO (PySem.W.findIn K (.ref (ga K "Silent")) "__init__") (some (some (.builtin "object.__init__"))) && PySem.W.keepIn K (.ref (ga K "Silent"))))) &&
  ((tupB K "PLAIN_WORDS" [.str "say", .str "toss", .str "look", .str "ask"] && (intAt K (ga K "SIZES") "function" 3 && (intAt K (ga K "SIZES") "permutation" 2 && intAt K (ga K "SIZES") "swaps" 3))) &&
  ((eqO (PySem.W.nsIn K (ga K "RUNS") "say") (some none) && (eqO (PySem.W.nsIn K (ga K "RUNS") "toss") (some none) && (eqO (PySem.W.nsIn K (ga K "RUNS") "look") (some none) && eqO (PySem.W.nsIn K (ga K "RUNS") "ask") (some none)))) &&
  ((decide (PySem.W.kitOne K (.ref (ga K "Notes")) (.ref (ga K "OnetimeWorld")) = some false) && eqO (PySem.W.findIn K (.ref (ga K "Notes")) "__class__") (some (some (.builtin "object.__class__")))) &&
  (eqO (PySem.W.specialIn K (.builtin "object.__class__") "__get__") (some (some (.builtin "getset_descriptor.__get__"))) && (decide (PySem.W.takesIn K (.builtin "object.__class__") = some true) && decide (PySem.W.mroIn K (ga K "Notes") (.type "object") = some true)))))) 

/-! a part of the heap: what the walk asks, no more -/
def refsM (o : Obj) : List Addr := match o.data with
  | .func fd => refV fd.code ++ refV fd.kwdefaults
  | .cls cd => [cd.ns]
  | .dict es _ => es.toList.flatMap fun e => refV e.val
  | _ => []
def growM (g : Addr → Option Obj) (as : List Addr) : List Addr := as.flatMap fun a => match g a with
  | some o => refsM o
  | none => []
def asM (g : Addr → Option Obj) : List Addr :=
  (fun l0 : List Addr => (fun l1 : List Addr => (fun l2 : List Addr => mainGlobals :: ga (frG g [mainGlobals]) "PLAIN_WORDS" :: ga (frG g [mainGlobals]) "SIZES" :: ga (frG g [mainGlobals]) "RUNS" :: (l0 ++ (l1 ++ (l2 ++ growM g l2)))) (growM g l1)) (growM g l0)) (wanted.map (ga (frG g [mainGlobals])))
abbrev AlM : Type := He.AlT × Bool
def obsM (g : Addr → Option Obj) : AlM := (obsT fa fn tabs (frG g (asM g)), ex (frG g (asM g)))
def valM (w : World) : AlM := (valT fn tabs w, true)
structure SaysM (w : World) (K : PySem.W.Frag) : Prop where
  t : SaysT fa fn tabs w K
  more : ex K = true
def hk : PySem.W.Hook where
  α := AlM
  obs := fun s => obsM s.heap.get?
  val := fun w => valM w
  says := fun w h => ∃ K : PySem.W.Frag, K.In h ∧ SaysM w K
  of := fun _ _ e => ⟨_, frG_in, ⟨congrArg (fun z : AlM => z.1) e, congrArg (fun z : AlM => z.2) e⟩⟩
  keeps := fun _ _ _ ⟨K, hK, c⟩ k => ⟨K, PySem.W.Frag.In.keeps hK k, c⟩
abbrev R : PySem.W.OpenRow := PySem.W.OpenLaw.row PySem.Challenge.rw_breakback_k27_permutations_and_swaps
abbrev qv : Program := PySem.W.view R.prog [0, 123]
def ob (s : PySem.W.SharedT) : AlM := obsM (HandSHeadRun.getT s)
theorem ob_eq (s : PySem.W.SharedT) : ob s = hk.obs s.abs := by
  have e : HandSHeadRun.getT s = s.abs.heap.get? := funext (HandSHeadRun.getT_eq s)
  show obsM (HandSHeadRun.getT s) = obsM s.abs.heap.get?
  rw [e]
theorem three {α β γ δ : Type} {o : Option α} {f : α → β} {g : α → γ} {h : α → δ} {a : β} {b : γ} {c : δ} (h1 : o.map (fun x => (f x, g x)) = some (a, b)) (h2 : o.map h = some c) : o.map (fun x => (f x, g x, h x)) = some (a, b, c) := by
  cases o with
  | none => cases h1
  | some x =>
    have e1 : (f x, g x) = (a, b) := Option.some.inj h1
    have e2 : h x = c := Option.some.inj h2
    show some (f x, g x, h x) = some (a, b, c)
    injection e1 with e3 e4
    rw [e2, e3, e4]
noncomputable abbrev whole (w : World) := HandSHeadRun.wholeF (fun p => HandSHeadRun.stepQ (HandSHeadRun.denQ HandSHeadRun.tabQ) p w) HandSHeadRun.fenceQ 9000 R.prog
def LookEq (w : World) : Prop := (whole w).map (fun x => (HandSHeadRun.looksF R.prog x.1.heap x.2.abs, HandSHeadRun.seenQ qv loose (importedModules R.prog.main.body) (fun s => PySem.W.xlAt qv [] s && recOk R.toRowW.records s) x.2.abs)) = some (true, openGood qv loose)
def ObEq (w : World) : Prop := (whole w).map (fun x => ob x.2) = some (hk.val w)
theorem lookF (w : World) : LookEq (w.withFollow "special-get-raises" false) := by
  unfold LookEq
  kernel_rfl
theorem lookT (w : World) : LookEq (w.withFollow "special-get-raises" true) := by
  unfold LookEq
  kernel_rfl
theorem obF (w : World) : ObEq (w.withFollow "special-get-raises" false) := by
  unfold ObEq
  kernel_rfl
theorem obT (w : World) : ObEq (w.withFollow "special-get-raises" true) := by
  unfold ObEq
  kernel_rfl
theorem run (w : World) : HandSHeadRun.RunEqI R qv hk ob 9000 loose w :=
  PySem.W.byRow2 "special-get-raises" (P := fun w => HandSHeadRun.RunEqI R qv hk ob 9000 loose w) (fun w => three (lookF w) (obF w)) (fun w => three (lookT w) (obT w)) w
end BK
/-! Breakback k27, the plain part: breakers, trees of draws, the odometer, counts. No program here. -/
namespace BK
abbrev Bs := List Bool
inductive Pt where
  | sg (b : Bool)
  | nm (n : Nat)
inductive B where
  | say (ps : List Pt)
  | toss (n : Nat) (f : Nat → B)
  | look (n : Nat) (a b : B)
  | ask (ps : List Pt) (b : B)
def got (hd : Bs) (n : Nat) : Bool := hd.getD n false
def Pt.val (hd : Bs) : Pt → Bool
  | .sg b => b
  | .nm n => got hd n
def made (ps : List Pt) (hd : Bs) : Bs := ps.map (Pt.val hd)

/-! ### trees of draws -/
inductive T (α : Type) where
  | ret (a : α)
  | node (n : Nat) (f : Nat → T α)
abbrev Dr := List (Nat × Nat)
section
variable {α β : Type}
def T.bind : T α → (α → T β) → T β
  | .ret a, g => g a
  | .node n f, g => .node n fun i => (f i).bind g
def T.lvs : T α → List (Dr × α)
  | .ret a => [([], a)]
  | .node n f => (List.range n).flatMap fun i => (f i).lvs.map fun l => ((i, n) :: l.1, l.2)
/-- the product of the numbers drawn among, on D -/
def prodD : Nat → Dr → Nat
  | D, [] => D
  | D, d :: ds => prodD (D * d.2) ds
def T.run : T α → List Nat → Dr × α
  | .ret a, _ => ([], a)
  | .node n f, cs => ((cs.headD 0, n) :: ((f (cs.headD 0)).run cs.tail).1, ((f (cs.headD 0)).run cs.tail).2)
/-- the choices are below -/
def T.Val : T α → List Nat → Prop
  | .ret _, _ => True
  | .node n f, cs => cs.headD 0 < n ∧ (f (cs.headD 0)).Val cs.tail
def T.Pos : T α → Prop
  | .ret _ => True
  | .node n f => 0 < n ∧ ∀ i, i < n → (f i).Pos
theorem run_bind (t : T α) (g : α → T β) : ∀ cs : List Nat, (t.bind g).run cs = ((t.run cs).1 ++ ((g (t.run cs).2).run (cs.drop (t.run cs).1.length)).1, ((g (t.run cs).2).run (cs.drop (t.run cs).1.length)).2) := by
  induction t with
  | ret a => intro cs; simp [T.bind, T.run]
  | node n f ih =>
    intro cs
    have h := ih (cs.headD 0) cs.tail
    simp only [T.bind, T.run]
    rw [h]
    simp
theorem Val_bind (t : T α) (g : α → T β) : ∀ cs : List Nat, (t.bind g).Val cs ↔ t.Val cs ∧ (g (t.run cs).2).Val (cs.drop (t.run cs).1.length) := by
  induction t with
  | ret a => intro cs; simp [T.bind, T.run, T.Val]
  | node n f ih =>
    intro cs
    have h := ih (cs.headD 0) cs.tail
    simp only [T.bind, T.run, T.Val]
    rw [h]
    simp [and_assoc]
theorem Pos_bind {t : T α} {g : α → T β} (h : t.Pos) (hg : ∀ a, (g a).Pos) : (t.bind g).Pos := by
  induction t with
  | ret a => exact hg a
  | node n f ih => exact ⟨h.1, fun i hi => ih i (h.2 i hi)⟩
theorem Val_nil {t : T α} (h : t.Pos) : t.Val [] := by
  induction t with
  | ret a => trivial
  | node n f ih => exact ⟨h.1, ih 0 (h.2 0 h.1)⟩

/-! ### the odometer -/
def nxt : Dr → Option (List Nat)
  | [] => none
  | d :: ds => match nxt ds with
    | some cs => some (d.1 :: cs)
    | none => if d.1 + 1 < d.2 then some [d.1 + 1] else none
/-- as the program looks for it: k places from the left are left -/
def nxtAt (ds : Dr) : Nat → Option (List Nat)
  | 0 => none
  | k + 1 => if (ds.getD k (0, 0)).1 + 1 < (ds.getD k (0, 0)).2 then some ((ds.take k).map (·.1) ++ [(ds.getD k (0, 0)).1 + 1]) else nxtAt ds k
theorem nxtAt_succ (ds : Dr) (k : Nat) : nxtAt ds (k + 1) = if (ds.getD k (0, 0)).1 + 1 < (ds.getD k (0, 0)).2 then some ((ds.take k).map (·.1) ++ [(ds.getD k (0, 0)).1 + 1]) else nxtAt ds k := rfl
theorem nxtAt_cons (d : Nat × Nat) (ds : Dr) : ∀ k, nxtAt (d :: ds) (k + 1) = match nxtAt ds k with
    | some cs => some (d.1 :: cs)
    | none => if d.1 + 1 < d.2 then some [d.1 + 1] else none
  | 0 => by simp [nxtAt]
  | k + 1 => by
    have ih := nxtAt_cons d ds k
    rw [nxtAt_succ (d :: ds) (k + 1), nxtAt_succ ds k]
    simp only [List.getD_cons_succ, List.take_succ_cons, List.map_cons]
    split
    · rfl
    · exact ih
theorem nxtAt_eq : ∀ ds : Dr, nxtAt ds ds.length = nxt ds
  | [] => rfl
  | d :: ds => by
    rw [List.length_cons, nxtAt_cons, nxtAt_eq ds, nxt]
/-- from these choices on, the plays are these -/
def Chn (t : T α) : List (Dr × α) → Option (List Nat) → Prop
  | [], o => o = none
  | l :: r, o => ∃ cs, o = some cs ∧ t.Val cs ∧ t.run cs = l ∧ Chn t r (nxt l.1)
/-- what comes behind the i-th branch -/
def nextO (n i : Nat) (o : Option (List Nat)) : Option (List Nat) := match o with
  | some cs => some (i :: cs)
  | none => if i + 1 < n then some [i + 1] else none
theorem nxt_cons (i n : Nat) (ds : Dr) : nxt ((i, n) :: ds) = nextO n i (nxt ds) := rfl
theorem chn_branch {n : Nat} {f : Nat → T α} {i : Nat} (hi : i < n) {rest : List (Dr × α)} (hr : Chn (.node n f) rest (nextO n i none)) :
    ∀ (ls : List (Dr × α)) (o : Option (List Nat)), Chn (f i) ls o → Chn (.node n f) (ls.map (fun l => ((i, n) :: l.1, l.2)) ++ rest) (nextO n i o)
  | [], o, h => by
    have e : o = none := h
    subst e
    exact hr
  | l :: r, o, h => by
    obtain ⟨cs, e, v, hl, h2⟩ := h
    subst e
    refine ⟨i :: cs, rfl, ⟨hi, v⟩, ?_, ?_⟩
    · show ((i, n) :: ((f i).run cs).1, ((f i).run cs).2) = _
      rw [hl]
    · show Chn (.node n f) _ (nxt ((i, n) :: l.1))
      rw [nxt_cons]
      exact chn_branch hi hr r (nxt l.1) h2
theorem chn_from {n : Nat} {f : Nat → T α} (h : ∀ i, i < n → Chn (f i) (f i).lvs (some [])) : ∀ (m i : Nat), i + m = n → 0 < m →
    Chn (.node n f) ((List.range' i m).flatMap fun i => (f i).lvs.map fun l => ((i, n) :: l.1, l.2)) (some [i])
  | 0, _, _, h0 => absurd h0 (Nat.lt_irrefl 0)
  | m + 1, i, e, _ => by
    rw [List.range'_succ, List.flatMap_cons]
    have hi : i < n := by omega
    refine chn_branch hi (rest := (List.range' (i + 1) m).flatMap fun i => (f i).lvs.map fun l => ((i, n) :: l.1, l.2)) ?_ (f i).lvs (some []) (h i hi)
    cases m with
    | zero =>
      show nextO n i none = none
      have : ¬ i + 1 < n := by omega
      simp [nextO, this]
    | succ m =>
      have q := chn_from h (m + 1) (i + 1) (by omega) (by omega)
      have e1 : nextO n i none = some [i + 1] := by
        have : i + 1 < n := by omega
        simp [nextO, this]
      rw [e1]
      exact q
theorem chn_zero {n : Nat} {f : Nat → T α} : ∀ {ls : List (Dr × α)}, Chn (.node n f) ls (some [0]) → Chn (.node n f) ls (some [])
  | [], h => nomatch (show (some [0] : Option (List Nat)) = none from h)
  | l :: r, h => by
    obtain ⟨cs, e, v, hl, h2⟩ := h
    cases e
    exact ⟨[], rfl, v, hl, h2⟩
/-- THE ODOMETER goes through all leaves, from the left -/
theorem chn_all {t : T α} (h : t.Pos) : Chn t t.lvs (some []) := by
  induction t with
  | ret a => exact ⟨[], rfl, trivial, rfl, rfl⟩
  | node n f ih =>
    refine chn_zero ?_
    rw [T.lvs, List.range_eq_range']
    exact chn_from (fun i hi => ih i (h.2 i hi)) n 0 (by omega) h.1

/-! ### the events: products of the plays that are won -/
def T.ev : T Bool → Nat → List Nat
  | .ret o, D => if o = true then [D] else []
  | .node n f, D => (List.range n).flatMap fun i => (f i).ev (D * n)
def evOf (D : Nat) (l : Dr × Bool) : List Nat := if l.2 = true then [prodD D l.1] else []
theorem ev_lvs (t : T Bool) : ∀ D, t.ev D = t.lvs.flatMap (evOf D) := by
  induction t with
  | ret o => intro D; simp [T.ev, T.lvs, evOf, prodD]
  | node n f ih =>
    intro D
    rw [T.ev, T.lvs, List.flatMap_assoc]
    congr 1
    funext i
    rw [ih, List.flatMap_map]
    rfl
/-- a tree within a tree: at each leaf of the first the second's events -/
theorem ev_bind (t : T α) (g : α → T Bool) : ∀ D, (t.bind g).ev D = t.lvs.flatMap fun l => (g l.2).ev (prodD D l.1) := by
  induction t with
  | ret a => intro D; simp [T.bind, T.lvs, prodD]
  | node n f ih =>
    intro D
    rw [T.bind, T.ev, T.lvs, List.flatMap_assoc]
    congr 1
    funext i
    rw [ih, List.flatMap_map]
    rfl
theorem lvs_bind (t : T α) (g : α → T β) : (t.bind g).lvs = t.lvs.flatMap fun l => (g l.2).lvs.map fun m => (l.1 ++ m.1, m.2) := by
  induction t with
  | ret a => simp [T.bind, T.lvs]
  | node n f ih =>
    rw [T.bind, T.lvs, T.lvs, List.flatMap_assoc]
    congr 1
    funext i
    rw [ih, List.map_flatMap, List.flatMap_map]
    congr 1
    funext l
    rw [List.map_map]
    rfl
theorem prodD_append (D : Nat) (a b : Dr) : prodD D (a ++ b) = prodD (prodD D a) b := by
  induction a generalizing D with
  | nil => rfl
  | cons x r ih => exact ih _
theorem prodD_mul (D : Nat) : ∀ a : Dr, prodD D a = D * prodD 1 a
  | [] => by simp [prodD]
  | x :: r => by
    rw [prodD, prodD, prodD_mul (D * x.2) r, prodD_mul (1 * x.2) r, Nat.one_mul, Nat.mul_assoc]
end
/-! ### breakers as they must be -/
def PtOk : Pt → Prop
  | .sg _ => True
  | .nm n => n ≤ 9999
def PtsOk (ps : List Pt) : Prop := ps.length ≤ 100 ∧ ∀ p, p ∈ ps → PtOk p
def Wf : Nat → B → Prop
  | _, .say ps => PtsOk ps
  | d, .toss n f => ∃ e, d = e + 1 ∧ 1 ≤ n ∧ n ≤ 12 ∧ ∀ i, i < n → Wf e (f i)
  | d, .look n a b => ∃ e, d = e + 1 ∧ n ≤ 9999 ∧ Wf e a ∧ Wf e b
  | d, .ask ps b => ∃ e, d = e + 1 ∧ PtsOk ps ∧ Wf e b
def sumN : Nat → (Nat → Nat) → Nat
  | 0, _ => 0
  | n + 1, f => sumN n f + f n
/-- how many breakers are within -/
def bsz : B → Nat
  | .say _ => 0
  | .toss n f => sumN n fun i => 1 + bsz (f i)
  | .look _ a b => 2 + bsz a + bsz b
  | .ask _ b => 1 + bsz b
def kids : B → List B
  | .say _ => []
  | .toss n f => (List.range n).map f
  | .look _ a b => [a, b]
  | .ask _ b => [b]
def bdd : Nat → Nat
  | 0 => 0
  | d + 1 => 12 * (1 + bdd d)
theorem sumN_le {n k : Nat} {f : Nat → Nat} (h : ∀ i, i < n → f i ≤ k) : sumN n f ≤ n * k := by
  induction n with
  | zero => simp [sumN]
  | succ n ih =>
    have h1 := ih fun i hi => h i (by omega)
    have h2 := h n (by omega)
    rw [sumN, Nat.succ_mul]
    omega
theorem bsz_le : ∀ {b : B} {d : Nat}, Wf d b → bsz b ≤ bdd d := by
  intro b
  induction b with
  | say ps => intro d _; exact Nat.zero_le _
  | toss n f ih =>
    intro d ⟨e, he, h1, h2, h3⟩
    subst he
    have : sumN n (fun i => 1 + bsz (f i)) ≤ n * (1 + bdd e) := sumN_le fun i hi => by have := ih i (h3 i hi); omega
    have h4 : n * (1 + bdd e) ≤ 12 * (1 + bdd e) := Nat.mul_le_mul_right _ h2
    exact Nat.le_trans this h4
  | look n a b ih1 ih2 =>
    intro d ⟨e, he, _, h1, h2⟩
    subst he
    have := ih1 h1
    have := ih2 h2
    show 2 + bsz a + bsz b ≤ 12 * (1 + bdd e)
    omega
  | ask ps b ih =>
    intro d ⟨e, he, _, h1⟩
    subst he
    have := ih h1
    show 1 + bsz b ≤ 12 * (1 + bdd e)
    omega
theorem sumN_range (f : Nat → Nat) : ∀ n, sumN n f = ((List.range n).map f).sum
  | 0 => rfl
  | n + 1 => by rw [sumN, sumN_range f n, List.range_succ, List.map_append, List.sum_append]; simp
theorem bsz_kids (b : B) : bsz b = ((kids b).map fun c => 1 + bsz c).sum := by
  cases b with
  | say ps => rfl
  | toss n f => rw [bsz, kids, sumN_range, List.map_map]; rfl
  | look n a b => simp [bsz, kids]; omega
  | ask ps b => simp [bsz, kids]
theorem wf_kids {b : B} {d : Nat} (h : Wf d b) : ∀ c, c ∈ kids b → ∃ e, d = e + 1 ∧ Wf e c := by
  cases b with
  | say ps => intro c hc; simp [kids] at hc
  | toss n f =>
    intro c hc
    obtain ⟨e, he, _, _, h3⟩ := h
    simp only [kids, List.mem_map, List.mem_range] at hc
    obtain ⟨i, hi, rfl⟩ := hc
    exact ⟨e, he, h3 i hi⟩
  | look n a b =>
    intro c hc
    obtain ⟨e, he, _, h1, h2⟩ := h
    simp only [kids, List.mem_cons, List.not_mem_nil, or_false] at hc
    rcases hc with rfl | rfl
    · exact ⟨e, he, h1⟩
    · exact ⟨e, he, h2⟩
  | ask ps b =>
    intro c hc
    obtain ⟨e, he, _, h1⟩ := h
    simp only [kids, List.mem_cons, List.not_mem_nil, or_false] at hc
    subst hc
    exact ⟨e, he, h1⟩
/-! ### games -/
inductive Gm where
  | fn (l : Nat)
  | perm (l : Nat)
  | swaps (r : Nat)
def Gm.ok : Gm → Prop
  | .fn l => 1 ≤ l ∧ l ≤ 2
  | .perm l => 1 ≤ l ∧ l ≤ 2
  | .swaps r => 1 ≤ r ∧ r ≤ 4
/-! ### bits of a number -/
/-- from the lowest -/
def lsb : Nat → Nat → Bs
  | 0, _ => []
  | l + 1, k => (k % 2 == 1) :: lsb l (k / 2)
def bitsN (l k : Nat) : Bs := (lsb l k).reverse
theorem lsb_len : ∀ l k, (lsb l k).length = l
  | 0, _ => rfl
  | l + 1, k => by rw [lsb, List.length_cons, lsb_len l]
theorem bitsN_len (l k : Nat) : (bitsN l k).length = l := by rw [bitsN, List.length_reverse, lsb_len]
theorem lsb_succ : ∀ l k, lsb (l + 1) k = lsb l k ++ [(k / 2 ^ l) % 2 == 1]
  | 0, k => by simp [lsb]
  | l + 1, k => by
    rw [lsb, lsb_succ l (k / 2), lsb, List.cons_append]
    congr 2
    rw [Nat.div_div_eq_div_mul, Nat.pow_succ, Nat.mul_comm 2]
/-! ### worlds -/
abbrev Tl := List (Bs × Bs)
def ansF (l m : Nat) (st : Tl) (s : Bs) : T (Bs × Tl) :=
  if s.length = l then match st.lookup s with
    | some v => .ret (v, st)
    | none => .node (2 ^ m) fun k => .ret (bitsN m k, st ++ [(s, bitsN m k)])
  else .ret ([], st)
def bstrs (l : Nat) : List Bs := (List.range (2 ^ l)).map (bitsN l)
def leftOf (l : Nat) (st : Tl) : List Bs := (bstrs l).filter fun v => !(st.map (·.2)).contains v
def ansP (l : Nat) (st : Tl) (s : Bs) : T (Bs × Tl) :=
  if s.length = l then match st.lookup s with
    | some v => .ret (v, st)
    | none => .node (leftOf l st).length fun k => .ret ((leftOf l st).getD k [], st ++ [(s, (leftOf l st).getD k [])])
  else .ret ([], st)
def xorB (a b : Bs) : Bs := List.zipWith (fun x y => x != y) a b
/-- the rounds: each with its own told values -/
def goS (h : Nat) : List Tl → Bs → Bs → T ((Bs × Bs) × List Tl)
  | [], a, b => .ret ((a, b), [])
  | t :: ts, a, b => (ansF h h t b).bind fun r => (goS h ts b (xorB a r.1)).bind fun q => .ret (q.1, r.2 :: q.2)
def ansS (h : Nat) (st : List Tl) (s : Bs) : T (Bs × List Tl) :=
  if s.length = 2 * h then (goS h st (s.take h) (s.drop h)).bind fun r => .ret (r.1.1 ++ r.1.2, r.2) else .ret ([], st)
section
variable {S : Type}
/-- a breaker in a world -/
def play (ans : S → Bs → T (Bs × S)) : B → Bs → S → T Bool
  | .say ps, hd, _ => .ret (made ps hd == [true])
  | .toss n f, hd, s => .node n fun i => play ans (f i) hd s
  | .look n a b, hd, s => if got hd n = true then play ans b hd s else play ans a hd s
  | .ask ps b, hd, s => (ans s (made ps hd)).bind fun r => play ans b (hd ++ r.1) r.2
end
def Gm.tree : Gm → B → T Bool
  | .fn l, b => play (ansF l l) b [] []
  | .perm l, b => play (ansP l) b [] []
  | .swaps r, b => play (ansS 1) b [] (List.replicate r [])
theorem head_drop (cs : List Nat) (n : Nat) : (cs.drop n).headD 0 = cs.getD n 0 := by
  rw [List.headD_eq_head?_getD, List.head?_drop, List.getD_eq_getElem?_getD]
/-! how many draws -/
theorem ansF_len (l m : Nat) (st : Tl) (s : Bs) (cs : List Nat) : ((ansF l m st s).run cs).1.length ≤ 1 := by
  unfold ansF
  split
  · split
    · simp [T.run]
    · simp [T.run]
  · simp [T.run]
theorem ansF_al (l m : Nat) {n : Nat} (hm : m ≤ n) {st : Tl} (h : ∀ x, x ∈ st → x.2.length ≤ n) (s : Bs) (cs : List Nat) : ((ansF l m st s).run cs).2.1.length ≤ n ∧ ∀ x, x ∈ ((ansF l m st s).run cs).2.2 → x.2.length ≤ n := by
  unfold ansF
  split
  · split
    · rename_i v hv
      refine ⟨?_, h⟩
      have : (s, v) ∈ st := by
        clear h
        induction st with
        | nil => simp at hv
        | cons y r ih =>
          obtain ⟨y1, y2⟩ := y
          rw [List.lookup_cons] at hv
          split at hv
          · rename_i e
            have e1 : s = y1 := by simpa using e
            have e2 : y2 = v := by simpa using hv
            subst e1 e2
            exact List.mem_cons_self
          · exact List.mem_cons_of_mem _ (ih hv)
      exact h _ this
    · refine ⟨?_, ?_⟩
      · simp [T.run, bitsN_len, hm]
      · intro x hx
        simp only [T.run, List.mem_append, List.mem_singleton] at hx
        rcases hx with hx | rfl
        · exact h x hx
        · simpa [bitsN_len] using hm
  · exact ⟨Nat.zero_le _, h⟩
end BK
/-! Breakback k27, the plain part: fractions, counts. No program here. -/
namespace BK
theorem mk_num (a : Int) {b : Nat} (hb : b ≠ 0) : (mkRat a b).num = a / ((Nat.gcd a.natAbs b : Nat) : Int) := by
  rw [← Rat.normalize_eq_mkRat hb, Rat.normalize_eq]
theorem mk_den (a : Int) {b : Nat} (hb : b ≠ 0) : (mkRat a b).den = b / Nat.gcd a.natAbs b := by
  rw [← Rat.normalize_eq_mkRat hb, Rat.normalize_eq]
theorem mk_num_le {a : Int} {b n : Nat} (hb : b ≠ 0) (h : a.natAbs ≤ n) : (mkRat a b).num.natAbs ≤ n := by
  rw [mk_num a hb]
  refine Nat.le_trans ?_ h
  exact Int.natAbs_ediv_le_natAbs _ _
theorem mk_den_le {a : Int} {b n : Nat} (hb : b ≠ 0) (h : b ≤ n) : (mkRat a b).den ≤ n := by
  rw [mk_den a hb]
  exact Nat.le_trans (Nat.div_le_self _ _) h
theorem mk_self (x : Rat) : mkRat x.num x.den = x := Rat.mkRat_self x
/-- c / D over M -/
theorem mk_over {D M : Nat} (c : Int) (hM : M ≠ 0) (h : D ∣ M) : mkRat c D = mkRat (c * ((M / D : Nat) : Int)) M := by
  obtain ⟨q, rfl⟩ := h
  have hD : D ≠ 0 := fun z => hM (by rw [z, Nat.zero_mul])
  have hq : q ≠ 0 := fun z => hM (by rw [z, Nat.mul_zero])
  rw [Nat.mul_div_cancel_left _ (Nat.pos_of_ne_zero hD), Rat.mkRat_eq_iff hD hM]
  rw [Int.mul_assoc]
  congr 1
  rw [← Int.natCast_mul, Nat.mul_comm]
theorem mk_add_same {k j : Int} {M : Nat} (hM : M ≠ 0) : mkRat k M + mkRat j M = mkRat (k + j) M := by
  rw [Rat.mkRat_add_mkRat _ _ hM hM, Rat.mkRat_eq_iff (Nat.mul_ne_zero hM hM) hM, Int.natCast_mul]
  rw [← Int.add_mul, Int.mul_assoc]
/-! ### sums -/
def sumR : List Rat → Rat
  | [] => 0
  | x :: r => x + sumR r
theorem sumR_app : ∀ (a b : List Rat), sumR (a ++ b) = sumR a + sumR b
  | [], b => by rw [List.nil_append, sumR, Rat.zero_add]
  | x :: r, b => by rw [List.cons_append, sumR, sumR, sumR_app r b, Rat.add_assoc]
theorem sumR_perm {α : Type} (f : α → Rat) {a b : List α} (h : a.Perm b) : sumR (a.map f) = sumR (b.map f) := by
  induction h with
  | nil => rfl
  | cons x _ ih => rw [List.map_cons, List.map_cons, sumR, sumR, ih]
  | swap x y l => rw [List.map_cons, List.map_cons, List.map_cons, List.map_cons, sumR, sumR, sumR, sumR, ← Rat.add_assoc, ← Rat.add_assoc, Rat.add_comm (f y)]
  | trans _ _ ih1 ih2 => rw [ih1, ih2]
/-! ### counts -/
abbrev Nt := List (Nat × Nat)
def note (D : Nat) : Nt → Nt
  | [] => [(D, 1)]
  | (e, c) :: r => if e = D then (e, c + 1) :: r else (e, c) :: note D r
def notes (ev : List Nat) : Nt := ev.foldl (fun l D => note D l) []
def cnt (D : Nat) : Nt → Nat
  | [] => 0
  | (e, c) :: r => if e = D then c else cnt D r
theorem notes_app (a : List Nat) (D : Nat) : notes (a ++ [D]) = note D (notes a) := by simp [notes]
def fr1 (p : Nat × Nat) : Rat := mkRat p.2 p.1
theorem mk_succ (c D : Nat) (hD : D ≠ 0) : mkRat ((c + 1 : Nat) : Int) D = mkRat (c : Int) D + mkRat 1 D := by
  rw [mk_add_same hD]
  rfl
theorem sum_note {D : Nat} (hD : D ≠ 0) : ∀ l : Nt, sumR ((note D l).map fr1) = sumR (l.map fr1) + mkRat 1 D
  | [] => by
    show mkRat ((1 : Nat) : Int) D + 0 = 0 + mkRat 1 D
    rw [Rat.add_zero, Rat.zero_add]
    rfl
  | (e, c) :: r => by
    rw [note]
    split
    · rename_i h
      subst h
      rw [List.map_cons, List.map_cons, sumR, sumR]
      show mkRat ((c + 1 : Nat) : Int) e + _ = mkRat (c : Int) e + _ + _
      rw [mk_succ _ _ hD, Rat.add_assoc, Rat.add_assoc, Rat.add_comm (mkRat 1 e)]
    · rw [List.map_cons, List.map_cons, sumR, sumR, sum_note hD r, Rat.add_assoc]
def pr1 (ev : List Nat) : Rat := sumR (ev.map fun D => mkRat 1 D)
theorem foldl_note (ev : List Nat) (h : ∀ D, D ∈ ev → D ≠ 0) : ∀ l : Nt, sumR ((ev.foldl (fun l D => note D l) l).map fr1) = sumR (l.map fr1) + pr1 ev := by
  induction ev with
  | nil => intro l; show _ = _ + 0; rw [Rat.add_zero]; rfl
  | cons D r ih =>
    intro l
    rw [List.foldl_cons, ih (fun D hD => h D (List.mem_cons_of_mem _ hD)), sum_note (h D List.mem_cons_self)]
    show _ = _ + (mkRat 1 D + pr1 r)
    rw [Rat.add_assoc]
theorem sum_notes {ev : List Nat} (h : ∀ D, D ∈ ev → D ≠ 0) : sumR ((notes ev).map fr1) = pr1 ev := by
  rw [notes, foldl_note ev h]
  show 0 + _ = _
  rw [Rat.zero_add]
/-- the keys are apart, and from the events; the counts are at most their number -/
theorem note_keys {D : Nat} : ∀ {l : Nt}, (l.map (·.1)).Nodup → ((note D l).map (·.1)).Nodup ∧ ∀ x, x ∈ (note D l).map (·.1) → x = D ∨ x ∈ l.map (·.1)
  | [], _ => ⟨by simp [note], fun x hx => by simp [note] at hx; exact .inl hx⟩
  | (e, c) :: r, h => by
    rw [List.map_cons, List.nodup_cons] at h
    obtain ⟨h1, h2⟩ := h
    obtain ⟨i1, i2⟩ := note_keys (D := D) h2
    rw [note]
    split
    · rename_i he
      exact ⟨by rw [List.map_cons, List.nodup_cons]; exact ⟨h1, h2⟩, fun x hx => .inr hx⟩
    · rename_i he
      refine ⟨?_, fun x hx => ?_⟩
      · rw [List.map_cons, List.nodup_cons]
        refine ⟨fun z => ?_, i1⟩
        rcases i2 _ z with z | z
        · exact he z
        · exact h1 z
      · rw [List.map_cons] at hx
        rcases List.mem_cons.mp hx with e1 | e1
        · exact .inr (by rw [e1, List.map_cons]; exact List.mem_cons_self)
        · rcases i2 _ e1 with z | z
          · exact .inl z
          · exact .inr (by rw [List.map_cons]; exact List.mem_cons_of_mem _ z)
theorem note_bound {D n : Nat} : ∀ {l : Nt}, (∀ p, p ∈ l → p.2 ≤ n) → l.length ≤ n → (∀ p, p ∈ note D l → p.2 ≤ n + 1) ∧ (note D l).length ≤ n + 1
  | [], _, _ => ⟨fun p hp => by simp [note] at hp; rw [hp]; exact Nat.le_add_left _ _, by simp [note]⟩
  | (e, c) :: r, h, hl => by
    have hl' : r.length ≤ n := by rw [List.length_cons] at hl; omega
    have hr : ∀ p, p ∈ r → p.2 ≤ n := fun p hp => h p (List.mem_cons_of_mem _ hp)
    have hc := h (e, c) List.mem_cons_self
    rw [note]
    split
    · refine ⟨fun p hp => ?_, by rw [List.length_cons] at hl ⊢; omega⟩
      rcases List.mem_cons.mp hp with e1 | e1
      · rw [e1]; exact Nat.add_le_add_right hc 1
      · have := hr p e1; omega
    · obtain ⟨i1, i2⟩ := note_bound (D := D) hr hl'
      refine ⟨fun p hp => ?_, ?_⟩
      · rcases List.mem_cons.mp hp with e1 | e1
        · rw [e1]; exact Nat.le_succ_of_le hc
        · exact i1 p e1
      · have i3 : (note D r).length ≤ r.length + 1 := by
          clear i1 i2 h hl hl' hr hc
          induction r with
          | nil => simp [note]
          | cons y r ih =>
            obtain ⟨y1, y2⟩ := y
            rw [note]
            split
            · simp
            · simp only [List.length_cons]; omega
        rw [List.length_cons] at hl ⊢
        omega
structure NtOk (ev : List Nat) (l : Nt) (n : Nat) : Prop where
  nodup : (l.map (·.1)).Nodup
  keys : ∀ x, x ∈ l.map (·.1) → x ∈ ev
  cnts : ∀ p, p ∈ l → p.2 ≤ n
  len : l.length ≤ n
theorem notes_ok : ∀ (ev pre : List Nat) (l : Nt) (n : Nat), NtOk pre l n → NtOk (pre ++ ev) (ev.foldl (fun l D => note D l) l) (n + ev.length)
  | [], pre, l, n, h => by simpa using h
  | D :: r, pre, l, n, h => by
    obtain ⟨a1, a2⟩ := note_keys (D := D) h.nodup
    obtain ⟨b1, b2⟩ := note_bound (D := D) h.cnts h.len
    have := notes_ok r (pre ++ [D]) (note D l) (n + 1) ⟨a1, fun x hx => by
      rcases a2 x hx with z | z
      · rw [z]; simp
      · exact List.mem_append_left _ (h.keys x z), b1, b2⟩
    rw [List.foldl_cons]
    rw [List.append_assoc] at this
    have e : n + (D :: r).length = n + 1 + r.length := by rw [List.length_cons]; omega
    rw [e]
    exact this
theorem notes_okN (ev : List Nat) : NtOk ev (notes ev) ev.length := by
  have := notes_ok ev [] [] 0 ⟨List.nodup_nil, fun x z => by simp at z, fun p z => by simp at z, Nat.le_refl _⟩
  simpa [notes] using this
theorem cnt_mem : ∀ {l : Nt}, (l.map (·.1)).Nodup → ∀ p, p ∈ l → cnt p.1 l = p.2
  | [], _, p, hp => by simp at hp
  | (e, c) :: r, h, p, hp => by
    rw [List.map_cons, List.nodup_cons] at h
    rcases List.mem_cons.mp hp with z | z
    · rw [z, cnt, if_pos rfl]
    · rw [cnt, if_neg, cnt_mem h.2 p z]
      intro e1
      exact h.1 (by rw [e1]; exact List.mem_map.mpr ⟨p, z, rfl⟩)
theorem sum_keys {l : Nt} (h : (l.map (·.1)).Nodup) : sumR ((l.map (·.1)).map fun D => mkRat (cnt D l) D) = sumR (l.map fr1) := by
  rw [List.map_map]
  congr 1
  refine List.map_congr_left fun p hp => ?_
  show mkRat (cnt p.1 l) p.1 = mkRat p.2 p.1
  rw [cnt_mem h p hp]
/-- sums of fractions whose denominators divide M are over M -/
theorem sum_over {M n : Nat} (hM : M ≠ 0) : ∀ (l : List (Nat × Nat)), (∀ p, p ∈ l → p.1 ∣ M ∧ p.2 ≤ n) → ∃ k : Nat, sumR (l.map fr1) = mkRat (k : Int) M ∧ k ≤ l.length * (n * M)
  | [], _ => ⟨0, by show (0 : Rat) = mkRat 0 M; rw [Rat.zero_mkRat], Nat.zero_le _⟩
  | p :: r, h => by
    obtain ⟨k, e, b⟩ := sum_over hM r fun p hp => h p (List.mem_cons_of_mem _ hp)
    obtain ⟨h1, h2⟩ := h p List.mem_cons_self
    refine ⟨p.2 * (M / p.1) + k, ?_, ?_⟩
    · rw [List.map_cons, sumR, e]
      show mkRat (p.2 : Int) p.1 + _ = _
      rw [mk_over _ hM h1, mk_add_same hM, Int.natCast_add, Int.natCast_mul]
    · rw [List.length_cons, Nat.succ_mul, Nat.add_comm]
      refine Nat.add_le_add b (Nat.mul_le_mul h2 (Nat.div_le_self _ _))
end BK
/-! Breakback k27, the plain part: how great the trees are. No program here. -/
namespace BK
structure Fine {α : Type} (t : T α) (L M : Nat) : Prop where
  pos : t.Pos
  few : t.lvs.length ≤ L
  each : ∀ l, l ∈ t.lvs → (∀ x, x ∈ l.1 → x.2 ≤ 300000) ∧ prodD 1 l.1 ∣ M
theorem Fine.mono {α : Type} {t : T α} {L M L' M' : Nat} (h : Fine t L M) (l : L ≤ L') (d : M ∣ M') : Fine t L' M' :=
  ⟨h.pos, Nat.le_trans h.few l, fun x hx => ⟨(h.each x hx).1, Nat.dvd_trans (h.each x hx).2 d⟩⟩
theorem fine_ret {α : Type} (a : α) : Fine (T.ret a) 1 1 := ⟨trivial, Nat.le_refl _, fun l hl => by
  simp only [T.lvs, List.mem_singleton] at hl
  rw [hl]
  exact ⟨(fun x hx => nomatch hx), Nat.dvd_refl _⟩⟩
theorem flat_le {α β : Type} {f : α → List β} {k : Nat} : ∀ {xs : List α}, (∀ x, x ∈ xs → (f x).length ≤ k) → (xs.flatMap f).length ≤ xs.length * k
  | [], _ => by simp
  | a :: r, h => by
    rw [List.flatMap_cons, List.length_append, List.length_cons, Nat.succ_mul]
    have h1 := h a List.mem_cons_self
    have h2 := flat_le (f := f) (k := k) (xs := r) fun x hx => h x (List.mem_cons_of_mem _ hx)
    omega
theorem fine_node {α : Type} {n : Nat} {f : Nat → T α} {L M : Nat} (h1 : 1 ≤ n) (h2 : n ≤ 300000) (h : ∀ i, i < n → Fine (f i) L M) : Fine (T.node n f) (n * L) (n * M) := by
  refine ⟨⟨h1, fun i hi => (h i hi).pos⟩, ?_, fun l hl => ?_⟩
  · rw [T.lvs]
    have := flat_le (f := fun i => (f i).lvs.map fun l => ((i, n) :: l.1, l.2)) (k := L) (xs := List.range n) fun i hi => by
      rw [List.length_map]
      exact (h i (List.mem_range.mp hi)).few
    rw [List.length_range] at this
    exact this
  · rw [T.lvs] at hl
    obtain ⟨i, hi, hl⟩ := List.mem_flatMap.mp hl
    obtain ⟨m, hm, rfl⟩ := List.mem_map.mp hl
    obtain ⟨e1, e2⟩ := (h i (List.mem_range.mp hi)).each m hm
    refine ⟨fun x hx => ?_, ?_⟩
    · rcases List.mem_cons.mp hx with hx | hx
      · rw [hx]; exact h2
      · exact e1 x hx
    · show prodD (1 * n) m.1 ∣ n * M
      rw [Nat.one_mul, prodD_mul]
      exact Nat.mul_dvd_mul_left n e2
theorem pos_bind' {α β : Type} {g : α → T β} : ∀ {t : T α}, t.Pos → (∀ l, l ∈ t.lvs → (g l.2).Pos) → (t.bind g).Pos := by
  intro t
  induction t with
  | ret a => intro _ h; exact h ([], a) (by simp [T.lvs])
  | node n f ih =>
    intro hp h
    refine ⟨hp.1, fun i hi => ih i (hp.2 i hi) fun l hl => ?_⟩
    exact h ((i, n) :: l.1, l.2) (by
      rw [T.lvs]
      exact List.mem_flatMap.mpr ⟨i, List.mem_range.mpr hi, List.mem_map.mpr ⟨l, hl, rfl⟩⟩)
theorem fine_bind {α β : Type} {t : T α} {g : α → T β} {L M L' M' : Nat} (h : Fine t L M) (hg : ∀ l, l ∈ t.lvs → Fine (g l.2) L' M') : Fine (t.bind g) (L * L') (M * M') := by
  refine ⟨pos_bind' h.pos fun l hl => (hg l hl).pos, ?_, fun l hl => ?_⟩
  · rw [lvs_bind]
    refine Nat.le_trans (flat_le (k := L') fun l hl => ?_) (Nat.mul_le_mul_right _ h.few)
    rw [List.length_map]
    exact (hg l hl).few
  · rw [lvs_bind] at hl
    obtain ⟨a, ha, hl⟩ := List.mem_flatMap.mp hl
    obtain ⟨m, hm, rfl⟩ := List.mem_map.mp hl
    obtain ⟨e1, e2⟩ := h.each a ha
    obtain ⟨f1, f2⟩ := (hg a ha).each m hm
    refine ⟨fun x hx => ?_, ?_⟩
    · rcases List.mem_append.mp hx with hx | hx
      · exact e1 x hx
      · exact f1 x hx
    · rw [prodD_append, prodD_mul]
      exact Nat.mul_dvd_mul e2 f2
/-- a play in a world whose answers are small -/
theorem fine_play {S : Type} {ans : S → Bs → T (Bs × S)} {Inv : S → Prop} (ha : ∀ st s, Inv st → Fine (ans st s) 16 720720 ∧ ∀ l, l ∈ (ans st s).lvs → Inv l.2.2) : ∀ (b : B) (d : Nat) (hd : Bs) (st : S), Wf d b → Inv st → Fine (play ans b hd st) (16 ^ d) (720720 ^ d) := by
  intro b
  induction b with
  | say ps =>
    intro d hd st _ _
    exact (fine_ret _).mono (Nat.pow_pos (by decide)) (Nat.one_dvd _)
  | toss n f ih =>
    intro d hd st ⟨e, he, w1, w2, w3⟩ hi
    subst he
    have hn : n ∣ 720720 := by
      have : n = 1 ∨ n = 2 ∨ n = 3 ∨ n = 4 ∨ n = 5 ∨ n = 6 ∨ n = 7 ∨ n = 8 ∨ n = 9 ∨ n = 10 ∨ n = 11 ∨ n = 12 := by omega
      rcases this with rfl | rfl | rfl | rfl | rfl | rfl | rfl | rfl | rfl | rfl | rfl | rfl <;> decide
    refine (fine_node w1 (by omega) fun i h => ih i e hd st (w3 i h) hi).mono ?_ ?_
    · rw [Nat.pow_succ, Nat.mul_comm]
      exact Nat.mul_le_mul_left _ (by omega)
    · rw [Nat.pow_succ, Nat.mul_comm]
      exact Nat.mul_dvd_mul_left _ hn
  | look n a b ih1 ih2 =>
    intro d hd st ⟨e, he, _, w1, w2⟩ hi
    subst he
    have m : ∀ {t : T Bool}, Fine t (16 ^ e) (720720 ^ e) → Fine t (16 ^ (e + 1)) (720720 ^ (e + 1)) := fun h => h.mono (Nat.pow_le_pow_right (by decide) (Nat.le_succ e)) (Nat.pow_dvd_pow _ (Nat.le_succ e))
    show Fine (if got hd n = true then play ans b hd st else play ans a hd st) _ _
    split
    · exact m (ih2 e hd st w2 hi)
    · exact m (ih1 e hd st w1 hi)
  | ask ps b ih =>
    intro d hd st ⟨e, he, _, w1⟩ hi
    subst he
    obtain ⟨h1, h2⟩ := ha st (made ps hd) hi
    refine (fine_bind h1 fun l hl => ih e _ _ w1 (h2 l hl)).mono ?_ ?_
    · rw [Nat.pow_succ, Nat.mul_comm]
      exact Nat.le_refl _
    · rw [Nat.pow_succ, Nat.mul_comm]
      exact Nat.dvd_refl _
/-! ### the three worlds -/
theorem fine_ansF {l m : Nat} (hm : m ≤ 2) (st : Tl) (s : Bs) : Fine (ansF l m st s) (2 ^ m) (2 ^ m) := by
  have p1 : 1 ≤ 2 ^ m := Nat.pow_pos (by decide)
  have p4 : 2 ^ m ≤ 4 := Nat.le_trans (Nat.pow_le_pow_right (by decide) hm) (by decide)
  unfold ansF
  split
  · split
    · exact (fine_ret _).mono p1 (Nat.one_dvd _)
    · have := fine_node (f := fun k => T.ret (bitsN m k, st ++ [(s, bitsN m k)])) p1 (by omega) fun i _ => fine_ret (bitsN m i, st ++ [(s, bitsN m i)])
      rw [Nat.mul_one] at this
      exact this
  · exact (fine_ret _).mono p1 (Nat.one_dvd _)
theorem fine_goS : ∀ (sts : List Tl) (a b : Bs), Fine (goS 1 sts a b) (2 ^ sts.length) (2 ^ sts.length)
  | [], a, b => fine_ret _
  | t :: ts, a, b => by
    rw [goS, List.length_cons, Nat.pow_succ, Nat.mul_comm]
    have h1 := fine_ansF (l := 1) (m := 1) (by decide) t b
    refine fine_bind h1 fun r _ => ?_
    have := fine_bind (fine_goS ts b (xorB a r.2.1)) (L' := 1) (M' := 1) (g := fun q => T.ret (q.1, r.2.2 :: q.2)) fun l _ => fine_ret _
    rw [Nat.mul_one] at this
    exact this
theorem goS_len : ∀ (sts : List Tl) (a b : Bs), ∀ l, l ∈ (goS 1 sts a b).lvs → l.2.2.length = sts.length
  | [], a, b, l, hl => by
    simp only [goS, T.lvs, List.mem_singleton] at hl
    rw [hl]
  | t :: ts, a, b, l, hl => by
    rw [goS, lvs_bind] at hl
    obtain ⟨r, _, hl⟩ := List.mem_flatMap.mp hl
    obtain ⟨m, hm, rfl⟩ := List.mem_map.mp hl
    rw [lvs_bind] at hm
    obtain ⟨u, hu, hm⟩ := List.mem_flatMap.mp hm
    obtain ⟨v, hv, rfl⟩ := List.mem_map.mp hm
    simp only [T.lvs, List.mem_singleton] at hv
    rw [hv]
    have := goS_len ts b _ u hu
    simp [this]
theorem tree_fn {l : Nat} {b : B} (hl : l ≤ 2) (wf : Wf 3 b) : Fine ((Gm.fn l).tree b) (16 ^ 3) (720720 ^ 3) :=
  fine_play (Inv := fun _ => True) (fun st s _ => ⟨(fine_ansF hl st s).mono (Nat.le_trans (Nat.pow_le_pow_right (by decide) hl) (by decide)) (Nat.dvd_trans (Nat.pow_dvd_pow 2 hl) (by decide)), fun _ _ => trivial⟩) b 3 [] [] wf trivial
theorem tree_swaps {r : Nat} {b : B} (hr : r ≤ 4) (wf : Wf 3 b) : Fine ((Gm.swaps r).tree b) (16 ^ 3) (720720 ^ 3) := by
  refine fine_play (Inv := fun st : List Tl => st.length = r) (fun st s hi => ?_) b 3 [] (List.replicate r []) wf (List.length_replicate)
  unfold ansS
  split
  · have h1 := fine_goS st (s.take 1) (s.drop 1)
    rw [hi] at h1
    have := fine_bind h1 (L' := 1) (M' := 1) (g := fun q : (Bs × Bs) × List Tl => T.ret (q.1.1 ++ q.1.2, q.2)) fun l _ => fine_ret _
    rw [Nat.mul_one] at this
    refine ⟨this.mono (Nat.le_trans (Nat.pow_le_pow_right (by decide) hr) (by decide)) (Nat.dvd_trans (Nat.pow_dvd_pow 2 hr) (by decide)), fun l hl => ?_⟩
    rw [lvs_bind] at hl
    obtain ⟨u, hu, hl⟩ := List.mem_flatMap.mp hl
    obtain ⟨v, hv, rfl⟩ := List.mem_map.mp hl
    simp only [T.lvs, List.mem_singleton] at hv
    rw [hv]
    exact (goS_len st _ _ u hu).trans hi
  · refine ⟨(fine_ret _).mono (by decide) (Nat.one_dvd _), fun l hl => ?_⟩
    simp only [T.lvs, List.mem_singleton] at hl
    rw [hl]
    exact hi
/-! permutations: what is known are distinct strings, so a string is left -/
structure KeysOk (l : Nat) (st : Tl) : Prop where
  nodup : (st.map (·.1)).Nodup
  len : ∀ x, x ∈ st → x.1.length = l
theorem nodup_sub {α : Type} [DecidableEq α] : ∀ (xs ys : List α), xs.Nodup → (∀ x, x ∈ xs → x ∈ ys) → xs.length ≤ ys.length
  | [], _, _, _ => Nat.zero_le _
  | a :: r, ys, hn, hs => by
    rw [List.nodup_cons] at hn
    have ha := hs a List.mem_cons_self
    have h1 := nodup_sub r (ys.erase a) hn.2 fun x hx => by
      have hne : x ≠ a := fun e => hn.1 (by rw [← e]; exact hx)
      exact (List.mem_erase_of_ne hne).mpr (hs x (List.mem_cons_of_mem _ hx))
    have h2 := List.length_erase_of_mem ha
    have h3 : 0 < ys.length := List.length_pos_of_mem ha
    rw [List.length_cons]
    omega
theorem lsb_surj : ∀ (s : Bs), ∃ k, k < 2 ^ s.length ∧ lsb s.length k = s
  | [] => ⟨0, by decide, rfl⟩
  | b :: r => by
    obtain ⟨k, hk, e⟩ := lsb_surj r
    refine ⟨2 * k + (if b = true then 1 else 0), ?_, ?_⟩
    · rw [List.length_cons, Nat.pow_succ]
      split <;> omega
    · rw [List.length_cons, lsb]
      have e1 : (2 * k + (if b = true then 1 else 0)) / 2 = k := by split <;> omega
      have e2 : ((2 * k + (if b = true then 1 else 0)) % 2 == 1) = b := by
        cases b
        · have : (2 * k + (if false = true then 1 else 0)) % 2 = 0 := by simp
          rw [this]; rfl
        · have : (2 * k + (if true = true then 1 else 0)) % 2 = 1 := by simp
          rw [this]; rfl
      rw [e1, e2, e]
theorem mem_bstrs {l : Nat} {s : Bs} (h : s.length = l) : s ∈ bstrs l := by
  obtain ⟨k, hk, e⟩ := lsb_surj s.reverse
  rw [List.length_reverse, h] at hk e
  rw [bstrs, List.mem_map]
  refine ⟨k, List.mem_range.mpr hk, ?_⟩
  rw [bitsN, e, List.reverse_reverse]
theorem lookup_none_key {st : Tl} {s : Bs} (h : st.lookup s = none) : s ∉ st.map (·.1) := by
  induction st with
  | nil => simp
  | cons x r ih =>
    obtain ⟨a, b⟩ := x
    rw [List.lookup_cons] at h
    by_cases e : s = a
    · rw [e, beq_self_eq_true] at h
      cases h
    · rw [beq_eq_false_iff_ne.mpr e] at h
      rw [List.map_cons]
      intro z
      rcases List.mem_cons.mp z with z | z
      · exact e z
      · exact ih h z
theorem bstrs_l (l : Nat) : (bstrs l).length = 2 ^ l := by simp [bstrs]
theorem bitsN_inj {l a b : Nat} (ha : a < 2 ^ l) (hb : b < 2 ^ l) (h : bitsN l a = bitsN l b) : a = b := by
  have h1 : lsb l a = lsb l b := by
    have := congrArg List.reverse h
    rw [bitsN, bitsN, List.reverse_reverse, List.reverse_reverse] at this
    exact this
  clear h
  induction l generalizing a b with
  | zero => simp at ha hb; omega
  | succ l ih =>
    rw [lsb, lsb] at h1
    injection h1 with e1 e2
    rw [Nat.pow_succ] at ha hb
    have := ih (a := a / 2) (b := b / 2) (by omega) (by omega) e2
    have e3 : a % 2 = b % 2 := by
      have ha2 : a % 2 = 0 ∨ a % 2 = 1 := by omega
      have hb2 : b % 2 = 0 ∨ b % 2 = 1 := by omega
      rcases ha2 with h | h <;> rcases hb2 with h' | h' <;> rw [h, h'] at e1 <;> first | omega | exact absurd e1 (by decide)
    omega
theorem nodup_map_range {α : Type} {f : Nat → α} : ∀ n : Nat, (∀ a b, a < n → b < n → f a = f b → a = b) → ((List.range n).map f).Nodup
  | 0, _ => by simp
  | n + 1, h => by
    rw [List.range_succ, List.map_append, List.nodup_append]
    refine ⟨nodup_map_range n fun a b ha hb => h a b (by omega) (by omega), by simp, fun a ha b hb e => ?_⟩
    obtain ⟨i, hi, rfl⟩ := List.mem_map.mp ha
    have hb' : b = f n := by simpa using hb
    have := h i n (by have := List.mem_range.mp hi; omega) (by omega) (e.trans hb')
    have := List.mem_range.mp hi
    omega
theorem bstrs_nodup (l : Nat) : (bstrs l).Nodup := nodup_map_range _ fun a b ha hb e => bitsN_inj ha hb e
theorem left_split (l : Nat) (st : Tl) : (bstrs l).length ≤ (leftOf l st).length + st.length := by
  have h1 : ∀ (p : Bs → Bool) (xs : List Bs), xs.length = (xs.filter fun v => !p v).length + (xs.filter p).length := by
    intro p xs
    induction xs with
    | nil => rfl
    | cons a r ih =>
      rw [List.filter_cons, List.filter_cons, List.length_cons]
      cases h : p a
      · rw [if_pos (by rfl), if_neg (by decide), List.length_cons]
        omega
      · rw [if_neg (by decide), if_pos rfl, List.length_cons]
        omega
  have h2 : ((bstrs l).filter fun v => (st.map (·.2)).contains v).length ≤ (st.map (·.2)).length :=
    nodup_sub _ _ ((bstrs_nodup l).filter _) fun x hx => by
      have := (List.mem_filter.mp hx).2
      simpa using this
  have h3 := h1 (fun v => (st.map (·.2)).contains v) (bstrs l)
  rw [List.length_map] at h2
  unfold leftOf
  omega
theorem left_pos {l : Nat} {st : Tl} {s : Bs} (h : KeysOk l st) (hs : s.length = l) (hn : st.lookup s = none) : 1 ≤ (leftOf l st).length := by
  have h1 : (s :: st.map (·.1)).length ≤ (bstrs l).length := nodup_sub _ _ (List.nodup_cons.mpr ⟨lookup_none_key hn, h.nodup⟩) fun x hx => by
    rcases List.mem_cons.mp hx with hx | hx
    · rw [hx]; exact mem_bstrs hs
    · obtain ⟨y, hy, rfl⟩ := List.mem_map.mp hx
      exact mem_bstrs (h.len y hy)
  have h2 := left_split l st
  rw [List.length_cons, List.length_map] at h1
  omega
theorem fine_ansP {l : Nat} (hl : l ≤ 2) {st : Tl} (h : KeysOk l st) (s : Bs) : Fine (ansP l st s) 16 720720 ∧ ∀ x, x ∈ (ansP l st s).lvs → KeysOk l x.2.2 := by
  have p4 : 2 ^ l ≤ 4 := Nat.le_trans (Nat.pow_le_pow_right (by decide) hl) (by decide)
  have r1 : ∀ a : Bs × Tl, Fine (T.ret a) 16 720720 := fun a => (fine_ret a).mono (by decide) (Nat.one_dvd _)
  unfold ansP
  split
  · rename_i hs
    split
    · exact ⟨r1 _, fun x hx => by
        simp only [T.lvs, List.mem_singleton] at hx
        rw [hx]
        exact h⟩
    · rename_i hn
      have n1 := left_pos h hs hn
      have n4 : (leftOf l st).length ≤ 4 := by
        have := List.length_filter_le (fun v => !(st.map (·.2)).contains v) (bstrs l)
        rw [bstrs_l] at this
        exact Nat.le_trans this p4
      have hd : (leftOf l st).length ∣ 720720 := by
        have : (leftOf l st).length = 1 ∨ (leftOf l st).length = 2 ∨ (leftOf l st).length = 3 ∨ (leftOf l st).length = 4 := by omega
        rcases this with e | e | e | e <;> rw [e] <;> decide
      have fn := fine_node (f := fun k => T.ret ((leftOf l st).getD k [], st ++ [(s, (leftOf l st).getD k [])])) n1 (by omega) fun i _ => fine_ret _
      rw [Nat.mul_one] at fn
      refine ⟨fn.mono (by omega) hd, fun x hx => ?_⟩
      rw [T.lvs] at hx
      obtain ⟨i, _, hx⟩ := List.mem_flatMap.mp hx
      obtain ⟨m, hm, rfl⟩ := List.mem_map.mp hx
      simp only [T.lvs, List.mem_singleton] at hm
      rw [hm]
      refine ⟨?_, fun y hy => ?_⟩
      · rw [List.map_append, List.nodup_append]
        refine ⟨h.nodup, by simp, fun a ha b hb e => ?_⟩
        have hb' : b = s := by simpa using hb
        rw [hb'] at e
        exact lookup_none_key hn (by rw [← e]; exact ha)
      · rcases List.mem_append.mp hy with hy | hy
        · exact h.len y hy
        · rw [List.mem_singleton.mp hy]; exact hs
  · exact ⟨r1 _, fun x hx => by
      simp only [T.lvs, List.mem_singleton] at hx
      rw [hx]
      exact h⟩
theorem tree_perm {l : Nat} {b : B} (hl : l ≤ 2) (wf : Wf 3 b) : Fine ((Gm.perm l).tree b) (16 ^ 3) (720720 ^ 3) :=
  fine_play (Inv := KeysOk l) (fun st s h => fine_ansP hl h s) b 3 [] [] wf ⟨by simp, fun x hx => nomatch hx⟩
theorem tree_all {g : Gm} {b : B} (ok : g.ok) (wf : Wf 3 b) : Fine (g.tree b) (16 ^ 3) (720720 ^ 3) := by
  cases g with
  | fn l => exact tree_fn ok.2 wf
  | perm l => exact tree_perm ok.2 wf
  | swaps r => exact tree_swaps ok.2 wf
end BK
/-! Breakback k27, the plain part: how often a breaker asks. No program here. -/
namespace BK
def maxN : Nat → (Nat → Nat) → Nat
  | 0, _ => 0
  | n + 1, f => max (maxN n f) (f n)
theorem maxN_le {n k : Nat} {f : Nat → Nat} (h : ∀ i, i < n → f i ≤ k) : maxN n f ≤ k := by
  induction n with
  | zero => exact Nat.zero_le _
  | succ n ih =>
    rw [maxN]
    exact Nat.max_le.mpr ⟨ih fun i hi => h i (by omega), h n (by omega)⟩
theorem le_maxN {n : Nat} {f : Nat → Nat} : ∀ {i : Nat}, i < n → f i ≤ maxN n f := by
  induction n with
  | zero => intro i h; omega
  | succ n ih =>
    intro i h
    rw [maxN]
    by_cases e : i = n
    · subst e; exact Nat.le_max_right _ _
    · exact Nat.le_trans (ih (by omega)) (Nat.le_max_left _ _)
/-- the most asks of a play -/
def qB : B → Nat
  | .say _ => 0
  | .toss n f => maxN n fun i => qB (f i)
  | .look _ a b => max (qB a) (qB b)
  | .ask _ b => 1 + qB b
end BK
/-! Breakback k27, the plain part: chances as rationals. No program here. -/
namespace BK
/-- the mean of f 0 .. f (n - 1) -/
def avg (n : Nat) (f : Nat → Rat) : Rat := sumR ((List.range n).map f) * mkRat 1 n
def pr : T Bool → Rat
  | .ret o => if o = true then 1 else 0
  | .node n f => avg n fun i => pr (f i)
theorem sumR_mul (c : Rat) : ∀ xs : List Rat, sumR (xs.map fun x => c * x) = c * sumR xs
  | [] => by show (0 : Rat) = c * 0; rw [Rat.mul_zero]
  | x :: r => by rw [List.map_cons, sumR, sumR, sumR_mul c r, Rat.mul_add]
theorem pr1_app (a b : List Nat) : pr1 (a ++ b) = pr1 a + pr1 b := by
  unfold pr1
  rw [List.map_append, sumR_app]
theorem pr1_flat {α : Type} (f : α → List Nat) : ∀ xs : List α, pr1 (xs.flatMap f) = sumR (xs.map fun x => pr1 (f x))
  | [] => rfl
  | x :: r => by rw [List.flatMap_cons, pr1_app, pr1_flat f r]; rfl
theorem mk1_mul {a b : Nat} (ha : a ≠ 0) (hb : b ≠ 0) : mkRat 1 (a * b) = mkRat 1 a * mkRat 1 b := by
  rw [Rat.mkRat_mul_mkRat]
  rfl
theorem pr1_ev : ∀ (t : T Bool), t.Pos → ∀ D, D ≠ 0 → pr1 (t.ev D) = mkRat 1 D * pr t := by
  intro t
  induction t with
  | ret o =>
    intro _ D _
    rw [T.ev, pr]
    cases o
    · show (0 : Rat) = mkRat 1 D * 0
      rw [Rat.mul_zero]
    · show mkRat 1 D + 0 = mkRat 1 D * 1
      rw [Rat.add_zero, Rat.mul_one]
  | node n f ih =>
    intro hp D hD
    have hn : n ≠ 0 := Nat.ne_of_gt hp.1
    rw [T.ev, pr1_flat, pr, avg]
    have e : (List.range n).map (fun i => pr1 ((f i).ev (D * n))) = ((List.range n).map fun i => pr (f i)).map fun x => mkRat 1 (D * n) * x := by
      rw [List.map_map]
      refine List.map_congr_left fun i hi => ?_
      exact ih i (hp.2 i (List.mem_range.mp hi)) _ (Nat.mul_ne_zero hD hn)
    rw [e, sumR_mul, mk1_mul hD hn]
    rw [Rat.mul_assoc, Rat.mul_comm (mkRat 1 n)]
end BK
/-! Breakback k27, the plain part: the events of an ask, as the law goes through them. No program here. -/
namespace BK
theorem lookup_app1 (s : Bs) (x : Bs × Bs) : ∀ st : Tl, (st ++ [x]).lookup s = (match st.lookup s with | some v => some v | none => if s = x.1 then some x.2 else none)
  | [] => by
    obtain ⟨a, b⟩ := x
    rw [List.nil_append, List.lookup_cons, List.lookup_nil]
    show (match (s == a) with | true => some b | false => none) = (if s = a then some b else none)
    by_cases h : s = a
    · rw [if_pos h, h, beq_self_eq_true]
    · rw [if_neg h, beq_eq_false_iff_ne.mpr h]
  | (a, b) :: r => by
    rw [List.cons_append, List.lookup_cons, List.lookup_cons]
    cases h : s == a with
    | true => rfl
    | false => exact lookup_app1 s x r
def LEq (a b : Tl) : Prop := ∀ s, a.lookup s = b.lookup s
theorem LEq.snoc {a b : Tl} (h : LEq a b) (x : Bs × Bs) : LEq (a ++ [x]) (b ++ [x]) := fun s => by rw [lookup_app1, lookup_app1, h s]
theorem LEq.known {a : Tl} {s v : Bs} (h : a.lookup s = some v) : LEq (a ++ [(s, v)]) a := fun x => by
  rw [lookup_app1]
  cases e : a.lookup x with
  | some u => rfl
  | none =>
    show (if x = s then some v else none) = none
    rw [if_neg]
    intro z
    rw [z, h] at e
    cases e
theorem flatMap_congr' {α β : Type} {l : List α} {f g : α → List β} (h : ∀ x, x ∈ l → f x = g x) : l.flatMap f = l.flatMap g := by
  induction l with
  | nil => rfl
  | cons a r ih => rw [List.flatMap_cons, List.flatMap_cons, h a List.mem_cons_self, ih fun x hx => h x (List.mem_cons_of_mem _ hx)]
theorem evF_congr (l m : Nat) : ∀ (b : B) (hd : Bs) (kn st : Tl) (D : Nat), LEq kn st → (play (ansF l m) b hd kn).ev D = (play (ansF l m) b hd st).ev D := by
  intro b
  induction b with
  | say ps => intro hd kn st D h; rfl
  | toss n f ih =>
    intro hd kn st D h
    show (List.range n).flatMap _ = (List.range n).flatMap _
    exact flatMap_congr' fun i _ => ih i hd kn st _ h
  | look n a b ih1 ih2 =>
    intro hd kn st D h
    show (if got hd n = true then play (ansF l m) b hd kn else play (ansF l m) a hd kn).ev D = (if got hd n = true then play (ansF l m) b hd st else play (ansF l m) a hd st).ev D
    split
    · exact ih2 hd kn st D h
    · exact ih1 hd kn st D h
  | ask ps b ih =>
    intro hd kn st D h
    show ((ansF l m kn (made ps hd)).bind _).ev D = ((ansF l m st (made ps hd)).bind _).ev D
    rw [ev_bind, ev_bind]
    unfold ansF
    rw [h (made ps hd)]
    split
    · split
      · simp only [T.lvs, List.flatMap_cons, List.flatMap_nil, List.append_nil]
        exact ih _ kn st _ h
      · simp only [T.lvs, List.flatMap_assoc]
        refine flatMap_congr' fun i _ => ?_
        simp only [List.map_cons, List.map_nil, List.flatMap_cons, List.flatMap_nil, List.append_nil]
        exact ih _ _ _ _ (h.snoc _)
    · simp only [T.lvs, List.flatMap_cons, List.flatMap_nil, List.append_nil]
      exact ih _ kn st _ h
/-- the answers, as the law lists them -/
def ansL (l m : Nat) (kn : Tl) (s : Bs) : List Bs := if s.length = l then match kn.lookup s with | some v => [v] | none => bstrs m else [[]]
def moreL (l : Nat) (kn : Tl) (s t : Bs) : Tl := if s.length = l then kn ++ [(s, t)] else kn
theorem bstrs_length (l : Nat) : (bstrs l).length = 2 ^ l := by simp [bstrs]
theorem ansF_hit {l m : Nat} {st : Tl} {s v : Bs} (e : s.length = l) (h : st.lookup s = some v) : ansF l m st s = .ret (v, st) := by unfold ansF; rw [if_pos e, h]
theorem ansF_miss {l m : Nat} {st : Tl} {s : Bs} (e : s.length = l) (h : st.lookup s = none) : ansF l m st s = .node (2 ^ m) fun k => .ret (bitsN m k, st ++ [(s, bitsN m k)]) := by unfold ansF; rw [if_pos e, h]
theorem ansF_off {l m : Nat} {st : Tl} {s : Bs} (e : ¬ s.length = l) : ansF l m st s = .ret ([], st) := by unfold ansF; rw [if_neg e]
theorem ansP_hit {l : Nat} {st : Tl} {s v : Bs} (e : s.length = l) (h : st.lookup s = some v) : ansP l st s = .ret (v, st) := by unfold ansP; rw [if_pos e, h]
theorem ansP_miss {l : Nat} {st : Tl} {s : Bs} (e : s.length = l) (h : st.lookup s = none) : ansP l st s = .node (leftOf l st).length fun k => .ret ((leftOf l st).getD k [], st ++ [(s, (leftOf l st).getD k [])]) := by unfold ansP; rw [if_pos e, h]
theorem ansP_off {l : Nat} {st : Tl} {s : Bs} (e : ¬ s.length = l) : ansP l st s = .ret ([], st) := by unfold ansP; rw [if_neg e]
theorem ev_ret {α : Type} (a : α) (g : α → T Bool) (D : Nat) : ((T.ret a).bind g).ev D = (g a).ev D := rfl
theorem ev_node {α : Type} (n : Nat) (f : Nat → α) (g : α → T Bool) (D : Nat) : ((T.node n fun k => T.ret (f k)).bind g).ev D = (List.range n).flatMap fun k => (g (f k)).ev (D * n) := rfl
theorem evF_ask (l m : Nat) (ps : List Pt) (b : B) (hd : Bs) (kn : Tl) (D : Nat) : (play (ansF l m) (.ask ps b) hd kn).ev D =
    (ansL l m kn (made ps hd)).flatMap fun t => (play (ansF l m) b (hd ++ t) (moreL l kn (made ps hd) t)).ev (D * (ansL l m kn (made ps hd)).length) := by
  show ((ansF l m kn (made ps hd)).bind fun r => play (ansF l m) b (hd ++ r.1) r.2).ev D = _
  by_cases e : (made ps hd).length = l
  · cases h : kn.lookup (made ps hd) with
    | some v =>
      have e1 : ansL l m kn (made ps hd) = [v] := by unfold ansL; rw [if_pos e, h]
      rw [ansF_hit e h, ev_ret, e1, List.flatMap_cons, List.flatMap_nil, List.append_nil, List.length_singleton, Nat.mul_one]
      have e2 : moreL l kn (made ps hd) v = kn ++ [(made ps hd, v)] := by unfold moreL; rw [if_pos e]
      rw [e2]
      exact (evF_congr l m b _ _ _ _ (LEq.known h)).symm
    | none =>
      have e1 : ansL l m kn (made ps hd) = bstrs m := by unfold ansL; rw [if_pos e, h]
      rw [ansF_miss e h, ev_node, e1, bstrs_length, bstrs, List.flatMap_map]
      refine flatMap_congr' fun i _ => ?_
      have e2 : moreL l kn (made ps hd) (bitsN m i) = kn ++ [(made ps hd, bitsN m i)] := by unfold moreL; rw [if_pos e]
      rw [e2]
  · have e1 : ansL l m kn (made ps hd) = [[]] := by unfold ansL; rw [if_neg e]
    have e2 : moreL l kn (made ps hd) [] = kn := by unfold moreL; rw [if_neg e]
    rw [ansF_off e, ev_ret, e1, List.flatMap_cons, List.flatMap_nil, List.length_singleton, Nat.mul_one, e2]
    simp
theorem range_getD {α β : Type} (d : α) (xs : List α) (f : α → List β) : (List.range xs.length).flatMap (fun i => f (xs.getD i d)) = xs.flatMap f := by
  have h1 : (List.range xs.length).map (fun i => xs.getD i d) = xs := by
    refine List.ext_getElem (by simp) fun i h1 h2 => ?_
    simp [List.getD_eq_getElem?_getD, List.getElem?_eq_getElem h2]
  have h2 := List.flatMap_map (fun i => xs.getD i d) f (List.range xs.length)
  rw [h1] at h2
  exact h2.symm
/-- shuffles -/
theorem evP_ask (l : Nat) (ps : List Pt) (b : B) (hd : Bs) (st : Tl) (D : Nat) : (play (ansP l) (.ask ps b) hd st).ev D =
    if (made ps hd).length = l then match st.lookup (made ps hd) with
      | some v => (play (ansP l) b (hd ++ v) st).ev D
      | none => (leftOf l st).flatMap fun v => (play (ansP l) b (hd ++ v) (st ++ [(made ps hd, v)])).ev (D * (leftOf l st).length)
    else (play (ansP l) b hd st).ev D := by
  show ((ansP l st (made ps hd)).bind fun r => play (ansP l) b (hd ++ r.1) r.2).ev D = _
  by_cases e : (made ps hd).length = l
  · rw [if_pos e]
    cases h : st.lookup (made ps hd) with
    | some v => rw [ansP_hit e h, ev_ret]
    | none =>
      rw [ansP_miss e h, ev_node]
      exact range_getD [] (leftOf l st) fun v => (play (ansP l) b (hd ++ v) (st ++ [(made ps hd, v)])).ev (D * (leftOf l st).length)
  · rw [if_neg e, ansP_off e, ev_ret, List.append_nil]
end BK
/-! Breakback k27, the plain part: the swaps, round by round as the law goes through them. No program here. -/
namespace BK
abbrev Tl2 := List ((Nat × Bs) × Bs)
def hits2 (sn : Tl2) (q : Nat × Bs) : List Bs := (sn.filter fun x => x.1 == q).map (·.2)
/-- left, right, what is known, the product -/
abbrev Fd := Bs × Bs × Tl2 × Nat
def valsS (h k : Nat) (y : Fd) : List Bs := if hits2 y.2.2.1 (k, y.2.1) = [] then bstrs h else hits2 y.2.2.1 (k, y.2.1)
def nowS (k : Nat) (y : Fd) (v : Bs) : Tl2 := if hits2 y.2.2.1 (k, y.2.1) = [] then y.2.2.1 ++ [((k, y.2.1), v)] else y.2.2.1
def outS (h k : Nat) (y : Fd) (v : Bs) : Fd := (y.2.1, xorB y.1 v, nowS k y v, y.2.2.2 * (valsS h k y).length)
def expS (h k : Nat) (y : Fd) : List Fd := (valsS h k y).map (outS h k y)
def foldS (h : Nat) (ks : List Nat) (f : List Fd) : List Fd := ks.foldl (fun f k => f.flatMap (expS h k)) f
theorem foldS_app (h : Nat) : ∀ (ks : List Nat) (f g : List Fd), foldS h ks (f ++ g) = foldS h ks f ++ foldS h ks g
  | [], _, _ => rfl
  | k :: ks, f, g => by
    show foldS h ks ((f ++ g).flatMap (expS h k)) = foldS h ks (f.flatMap (expS h k)) ++ foldS h ks (g.flatMap (expS h k))
    rw [List.flatMap_append, foldS_app h ks]
theorem foldS_nil (h : Nat) : ∀ ks : List Nat, foldS h ks [] = []
  | [] => rfl
  | k :: ks => foldS_nil h ks
theorem foldS_flat (h : Nat) (ks : List Nat) : ∀ f : List Fd, foldS h ks f = f.flatMap fun y => foldS h ks [y]
  | [] => foldS_nil h ks
  | y :: r => by
    rw [List.flatMap_cons, ← foldS_flat h ks r, ← foldS_app]
    rfl
/-- the law's knowledge is the rounds' tables -/
def RelS (sn : Tl2) (sts : List Tl) : Prop := ∀ k x, hits2 sn (k, x) = (match (sts.getD k []).lookup x with | some v => [v] | none => [])
theorem hits2_app (sn : Tl2) (q0 q : Nat × Bs) (v : Bs) : hits2 (sn ++ [(q0, v)]) q = hits2 sn q ++ (if q0 = q then [v] else []) := by
  unfold hits2
  rw [List.filter_append, List.map_append]
  congr 1
  by_cases e : q0 = q
  · rw [if_pos e, List.filter_cons, if_pos (by rw [e]; exact beq_self_eq_true q)]
    rfl
  · rw [if_neg e, List.filter_cons, if_neg (fun z => e (beq_iff_eq.mp z))]
    rfl
inductive Par {α β : Type} (R : α → β → Prop) : List α → List β → Prop
  | nil : Par R [] []
  | cons {a : α} {b : β} {as : List α} {bs : List β} (h : R a b) (t : Par R as bs) : Par R (a :: as) (b :: bs)
theorem Par.app {α β : Type} {R : α → β → Prop} : ∀ {as as' : List α} {bs bs' : List β}, Par R as bs → Par R as' bs' → Par R (as ++ as') (bs ++ bs')
  | _, _, _, _, .nil, h => h
  | _, _, _, _, .cons r t, h => .cons r (t.app h)
theorem Par.imp {α β : Type} {R S : α → β → Prop} (h : ∀ a b, R a b → S a b) : ∀ {as : List α} {bs : List β}, Par R as bs → Par S as bs
  | _, _, .nil => .nil
  | _, _, .cons r t => .cons (h _ _ r) (t.imp h)
theorem Par.flat {α β γ δ : Type} {R : α → β → Prop} {S : γ → δ → Prop} {f : α → List γ} {g : β → List δ} (h : ∀ a b, R a b → Par S (f a) (g b)) : ∀ {as : List α} {bs : List β}, Par R as bs → Par S (as.flatMap f) (bs.flatMap g)
  | _, _, .nil => .nil
  | _, _, .cons r t => by
    rw [List.flatMap_cons, List.flatMap_cons]
    exact (h _ _ r).app (t.flat h)
theorem Par.map {α β γ δ : Type} {R : α → β → Prop} {S : γ → δ → Prop} {f : α → γ} {g : β → δ} (h : ∀ a b, R a b → S (f a) (g b)) : ∀ {as : List α} {bs : List β}, Par R as bs → Par S (as.map f) (bs.map g)
  | _, _, .nil => .nil
  | _, _, .cons r t => .cons (h _ _ r) (t.map h)
theorem Par.flatEq {α β γ : Type} {R : α → β → Prop} {f : α → List γ} {g : β → List γ} (h : ∀ a b, R a b → f a = g b) : ∀ {as : List α} {bs : List β}, Par R as bs → as.flatMap f = bs.flatMap g
  | _, _, .nil => rfl
  | _, _, .cons r t => by rw [List.flatMap_cons, List.flatMap_cons, h _ _ r, t.flatEq h]
theorem getD_setS {α : Type} (z x : α) (l : List α) (i j : Nat) (h : i < l.length) : (l.set i x).getD j z = if i = j then x else l.getD j z := by
  rw [List.getD_eq_getElem?_getD, List.getElem?_set]
  by_cases e : i = j
  · rw [if_pos e, if_pos e, if_pos h]; rfl
  · rw [if_neg e, if_neg e, List.getD_eq_getElem?_getD]
theorem RelS.add {sn : Tl2} {sts : List Tl} {k : Nat} {x v : Bs} (h : RelS sn sts) (hk : k < sts.length) (hm : (sts.getD k []).lookup x = none) :
    RelS (sn ++ [((k, x), v)]) (sts.set k (sts.getD k [] ++ [(x, v)])) := by
  intro k' x'
  rw [hits2_app, h k' x', getD_setS _ _ _ _ _ hk]
  by_cases ek : k = k'
  · subst ek
    rw [if_pos rfl, lookup_app1]
    by_cases ex : x = x'
    · subst ex
      rw [hm, if_pos rfl]
      simp
    · rw [if_neg (fun z => ex (by injection z))]
      cases (sts.getD k []).lookup x' with
      | some u => simp
      | none =>
        have : ¬ x' = x := fun z => ex z.symm
        simp [this]
  · rw [if_neg (fun z => ek (by injection z)), if_neg ek]
    simp
def Vl (h : Nat) (sts : List Tl) : Prop := ∀ k x v, (sts.getD k []).lookup x = some v → v.length = h
def Lf (h : Nat) (sts : List Tl) (k den : Nat) (y : Fd) (l : Dr × ((Bs × Bs) × List Tl)) : Prop := y.1 = l.2.1.1 ∧ y.2.1 = l.2.1.2 ∧ y.2.2.2 = prodD den l.1 ∧ RelS y.2.2.1 (sts.take k ++ l.2.2) ∧ (sts.take k ++ l.2.2).length = sts.length ∧ Vl h (sts.take k ++ l.2.2)
theorem drop_cons {sts : List Tl} {k : Nat} (hk : k < sts.length) : sts.drop k = sts.getD k [] :: sts.drop (k + 1) := by
  rw [List.drop_eq_getElem_cons hk, List.getD_eq_getElem?_getD, List.getElem?_eq_getElem hk]
  rfl
theorem take_getD {sts : List Tl} {k : Nat} (hk : k < sts.length) : sts.take k ++ [sts.getD k []] = sts.take (k + 1) := by
  rw [List.take_add_one, List.getElem?_eq_getElem hk, List.getD_eq_getElem?_getD, List.getElem?_eq_getElem hk]
  rfl
theorem goS_lvs (h : Nat) (t : Tl) (ts : List Tl) (a b : Bs) : (goS h (t :: ts) a b).lvs = (ansF h h t b).lvs.flatMap fun l => (goS h ts b (xorB a l.2.1)).lvs.map fun m => (l.1 ++ m.1, m.2.1, l.2.2 :: m.2.2) := by
  rw [goS, lvs_bind]
  congr 1
  funext l
  rw [lvs_bind, List.map_flatMap]
  simp only [T.lvs, List.map_cons, List.map_nil, List.append_nil]
  induction (goS h ts b (xorB a l.2.1)).lvs with
  | nil => rfl
  | cons x r ih => rw [List.flatMap_cons, List.map_cons, ih]; rfl
theorem Par.same {α γ δ : Type} {S : γ → δ → Prop} {f : α → List γ} {g : α → List δ} : ∀ {l : List α}, (∀ a, a ∈ l → Par S (f a) (g a)) → Par S (l.flatMap f) (l.flatMap g)
  | [], _ => .nil
  | a :: r, h => by
    rw [List.flatMap_cons, List.flatMap_cons]
    exact (h a List.mem_cons_self).app (Par.same fun x hx => h x (List.mem_cons_of_mem _ hx))
theorem takeS {α : Type} (x : α) : ∀ (l : List α) (i : Nat), i < l.length → (l.set i x).take (i + 1) = l.take i ++ [x]
  | [], i, h => absurd h (Nat.not_lt_zero i)
  | a :: r, 0, _ => rfl
  | a :: r, i + 1, h => by rw [List.set_cons_succ, List.take_succ_cons, List.take_succ_cons, takeS x r i (by simpa using h), List.cons_append]
theorem fold_leaves (h : Nat) : ∀ (n k : Nat) (sts : List Tl) (a b : Bs) (sn : Tl2) (den : Nat), k + n = sts.length → a.length = h → b.length = h → Vl h sts → RelS sn sts → Par (Lf h sts k den) (foldS h (List.range' k n) [(a, b, sn, den)]) (goS h (sts.drop k) a b).lvs
  | 0, k, sts, a, b, sn, den, e, ha, hb, hvl, hr => by
    have e1 : sts.drop k = [] := List.drop_eq_nil_of_le (by omega)
    rw [e1]
    have e2 : sts.take k ++ [] = sts := by rw [List.append_nil, List.take_of_length_le (by omega)]
    refine .cons ⟨rfl, rfl, rfl, ?_, ?_, ?_⟩ .nil
    · show RelS sn (sts.take k ++ [])
      rw [e2]; exact hr
    · show (sts.take k ++ []).length = sts.length
      rw [e2]
    · show Vl h (sts.take k ++ [])
      rw [e2]; exact hvl
  | n + 1, k, sts, a, b, sn, den, e, ha, eb, hvl, hr => by
    have hk : k < sts.length := by omega
    rw [List.range'_succ]
    have e1 : foldS h (k :: List.range' (k + 1) n) [(a, b, sn, den)] = (expS h k (a, b, sn, den)).flatMap fun y => foldS h (List.range' (k + 1) n) [y] := by
      show foldS h (List.range' (k + 1) n) ([(a, b, sn, den)].flatMap (expS h k)) = _
      rw [List.flatMap_cons, List.flatMap_nil, List.append_nil, foldS_flat]
    rw [e1, drop_cons hk, goS_lvs]
    have hkb := hr k b
    have branch : ∀ (v : Bs) (dr : Dr) (t' : Tl) (sts' : List Tl) (sn' : Tl2) (den' : Nat), v.length = h → Vl h sts' → sts'.length = sts.length → sts'.drop (k + 1) = sts.drop (k + 1) → sts'.take (k + 1) = sts.take k ++ [t'] → RelS sn' sts' → den' = prodD den dr →
        Par (Lf h sts k den) (foldS h (List.range' (k + 1) n) [(b, xorB a v, sn', den')]) ((goS h (sts.drop (k + 1)) b (xorB a v)).lvs.map fun m => (dr ++ m.1, m.2.1, t' :: m.2.2)) := by
      intro v dr t' sts' sn' den' lv vl' l1 l2 l3 hr' hd
      have ih := fold_leaves h n (k + 1) sts' b (xorB a v) sn' den' (by omega) eb (by simp [xorB]; omega) vl' hr'
      rw [l2] at ih
      have := Par.map (S := Lf h sts k den) (f := fun y : Fd => y) (g := fun m : Dr × ((Bs × Bs) × List Tl) => (dr ++ m.1, m.2.1, t' :: m.2.2)) (fun y m hy => ?_) ih
      · rw [List.map_id'] at this
        exact this
      · obtain ⟨h1, h2, h3, h4, h5, h6⟩ := hy
        rw [l3, List.append_assoc] at h4 h5 h6
        rw [l1] at h5
        refine ⟨h1, h2, ?_, h4, h5, h6⟩
        rw [prodD_append, ← hd]; exact h3
    cases hl : (sts.getD k []).lookup b with
    | some v =>
      rw [hl] at hkb
      rw [ansF_hit eb hl]
      have ev : expS h k (a, b, sn, den) = [(b, xorB a v, sn, den)] := by
        unfold expS outS nowS valsS
        simp only [hkb]
        simp
      rw [ev]
      simp only [List.flatMap_cons, List.flatMap_nil, List.append_nil, T.lvs]
      exact branch v [] (sts.getD k []) sts sn den (hvl k b v hl) hvl rfl rfl (take_getD hk).symm hr rfl
    | none =>
      rw [hl] at hkb
      have hkb' : hits2 sn (k, b) = [] := hkb
      rw [ansF_miss eb hl]
      have ev : expS h k (a, b, sn, den) = (List.range (2 ^ h)).map fun i => (b, xorB a (bitsN h i), sn ++ [((k, b), bitsN h i)], den * 2 ^ h) := by
        unfold expS outS nowS valsS
        simp only [hkb', if_pos]
        rw [bstrs_length, bstrs, List.map_map]
        rfl
      rw [ev, List.flatMap_map]
      have el : (T.node (2 ^ h) fun k_1 => T.ret (bitsN h k_1, sts.getD k [] ++ [(b, bitsN h k_1)])).lvs = (List.range (2 ^ h)).map fun i => ([(i, 2 ^ h)], (bitsN h i, sts.getD k [] ++ [(b, bitsN h i)])) := by
        simp only [T.lvs, List.map_cons, List.map_nil]
        induction List.range (2 ^ h) with
        | nil => rfl
        | cons x r ih => rw [List.flatMap_cons, List.map_cons, ih]; rfl
      rw [el, List.flatMap_map]
      refine Par.same fun i _ => ?_
      refine branch (bitsN h i) [(i, 2 ^ h)] (sts.getD k [] ++ [(b, bitsN h i)]) (sts.set k (sts.getD k [] ++ [(b, bitsN h i)])) _ _ (bitsN_len h i) ?_ (by simp) ?_ ?_ (RelS.add hr hk hl) rfl
      · intro k' x' v' hx
        rw [getD_setS _ _ _ _ _ hk] at hx
        by_cases ek : k = k'
        · rw [if_pos ek, lookup_app1] at hx
          cases h2 : (sts.getD k []).lookup x' with
          | some u =>
            rw [h2] at hx
            cases hx
            exact hvl k x' _ h2
          | none =>
            rw [h2] at hx
            have hx' : (if x' = b then some (bitsN h i) else none) = some v' := hx
            split at hx'
            · cases hx'
              exact bitsN_len h i
            · cases hx'
        · rw [if_neg ek] at hx
          exact hvl k' x' v' hx
      · rw [List.drop_set_of_lt (Nat.lt_succ_self k)]
      · exact takeS _ _ _ hk
theorem Par.get {α β : Type} {R : α → β → Prop} : ∀ {as : List α} {bs : List β}, Par R as bs → ∀ {i : Nat} {a : α}, as[i]? = some a → ∃ b, bs[i]? = some b ∧ R a b
  | _, _, .nil, i, a, h => by simp at h
  | _, _, .cons r _, 0, a, h => by
    simp at h
    subst h
    exact ⟨_, rfl, r⟩
  | _, _, .cons _ t, i + 1, a, h => by
    obtain ⟨b, h1, h2⟩ := t.get (i := i) (by simpa using h)
    exact ⟨b, by simpa using h1, h2⟩
theorem Par.len {α β : Type} {R : α → β → Prop} : ∀ {as : List α} {bs : List β}, Par R as bs → as.length = bs.length
  | _, _, .nil => rfl
  | _, _, .cons _ t => by rw [List.length_cons, List.length_cons, t.len]
/-- the events of an ask among swaps -/
theorem ansS_off {h : Nat} {sts : List Tl} {s : Bs} (e : ¬ s.length = 2 * h) : ansS h sts s = .ret ([], sts) := by unfold ansS; rw [if_neg e]
theorem evS_off {h : Nat} {ps : List Pt} {b : B} {hd : Bs} {sts : List Tl} {D : Nat} (e : ¬ (made ps hd).length = 2 * h) : (play (ansS h) (.ask ps b) hd sts).ev D = (play (ansS h) b hd sts).ev D := by
  show ((ansS h sts (made ps hd)).bind fun r => play (ansS h) b (hd ++ r.1) r.2).ev D = _
  rw [ansS_off e, ev_ret, List.append_nil]
theorem evS_on {h : Nat} {ps : List Pt} {b : B} {hd : Bs} {sts : List Tl} {D : Nat} (e : (made ps hd).length = 2 * h) : (play (ansS h) (.ask ps b) hd sts).ev D =
    (goS h sts ((made ps hd).take h) ((made ps hd).drop h)).lvs.flatMap fun l => (play (ansS h) b (hd ++ (l.2.1.1 ++ l.2.1.2)) l.2.2).ev (D * prodD 1 l.1) := by
  show ((ansS h sts (made ps hd)).bind fun r => play (ansS h) b (hd ++ r.1) r.2).ev D = _
  have e1 : ansS h sts (made ps hd) = (goS h sts ((made ps hd).take h) ((made ps hd).drop h)).bind fun r => .ret (r.1.1 ++ r.1.2, r.2) := by unfold ansS; rw [if_pos e]
  rw [ev_bind, e1, lvs_bind, List.flatMap_assoc]
  refine flatMap_congr' fun l _ => ?_
  simp only [T.lvs, List.map_cons, List.map_nil, List.flatMap_cons, List.flatMap_nil, List.append_nil]
  rw [prodD_mul]
end BK
/-! Breakback k27, the plain part: how far apart the chances are. No program here. -/
namespace BK
theorem sumR_congr {α : Type} {f g : α → Rat} {xs : List α} (h : ∀ x, x ∈ xs → f x = g x) : sumR (xs.map f) = sumR (xs.map g) := by
  rw [List.map_congr_left h]
theorem avg_congr {n : Nat} {f g : Nat → Rat} (h : ∀ i, i < n → f i = g i) : avg n f = avg n g := by
  unfold avg
  rw [sumR_congr fun i hi => h i (List.mem_range.mp hi)]
theorem pr_ret (o : Bool) : pr (.ret o) = if o = true then 1 else 0 := rfl
theorem pr_bind_ret {α : Type} (a : α) (g : α → T Bool) : pr ((T.ret a).bind g) = pr (g a) := rfl
theorem pr_bind_node {α : Type} (n : Nat) (f : Nat → α) (g : α → T Bool) : pr ((T.node n fun k => T.ret (f k)).bind g) = avg n fun k => pr (g (f k)) := rfl
/-- no asks: the world does not matter -/
theorem prA {S S' : Type} {ans : S → Bs → T (Bs × S)} {ans' : S' → Bs → T (Bs × S')} : ∀ (b : B) (hd : Bs) (st : S) (st' : S') (d : Nat), Wf d b → qB b = 0 → pr (play ans b hd st) = pr (play ans' b hd st') := by
  intro b
  induction b with
  | say ps => intro hd st st' d _ _; rfl
  | toss n f ih =>
    intro hd st st' d ⟨e, he, w1, w2, w3⟩ hq
    show avg n _ = avg n _
    refine avg_congr fun i hi => ih i hd st st' e (w3 i hi) ?_
    have := le_maxN (f := fun i => qB (f i)) hi
    have hq' : maxN n (fun i => qB (f i)) = 0 := hq
    omega
  | look n a b ih1 ih2 =>
    intro hd st st' d ⟨e, he, _, w1, w2⟩ hq
    have hq' : max (qB a) (qB b) = 0 := hq
    show pr (if got hd n = true then play ans b hd st else play ans a hd st) = pr (if got hd n = true then play ans' b hd st' else play ans' a hd st')
    split
    · exact ih2 hd st st' e w2 (by omega)
    · exact ih1 hd st st' e w1 (by omega)
  | ask ps b ih =>
    intro hd st st' d _ hq
    have : 1 + qB b = 0 := hq
    omega
theorem leftOf_nil (l : Nat) : leftOf l [] = bstrs l := by
  unfold leftOf
  rw [List.filter_eq_self]
  intro a _
  rfl
theorem bstrs_getD {l k : Nat} (h : k < 2 ^ l) : (bstrs l).getD k [] = bitsN l k := by
  rw [bstrs, List.getD_eq_getElem?_getD, List.getElem?_map, List.getElem?_range h]
  rfl
theorem prB (l : Nat) : ∀ (b : B) (hd : Bs) (d : Nat), Wf d b → qB b ≤ 1 → pr (play (ansF l l) b hd []) = pr (play (ansP l) b hd []) := by
  intro b
  induction b with
  | say ps => intro hd d _ _; rfl
  | toss n f ih =>
    intro hd d ⟨e, he, w1, w2, w3⟩ hq
    show avg n _ = avg n _
    refine avg_congr fun i hi => ih i hd e (w3 i hi) ?_
    have := le_maxN (f := fun i => qB (f i)) hi
    have hq' : maxN n (fun i => qB (f i)) ≤ 1 := hq
    omega
  | look n a b ih1 ih2 =>
    intro hd d ⟨e, he, _, w1, w2⟩ hq
    have hq' : max (qB a) (qB b) ≤ 1 := hq
    show pr (if got hd n = true then play (ansF l l) b hd [] else play (ansF l l) a hd []) = pr (if got hd n = true then play (ansP l) b hd [] else play (ansP l) a hd [])
    split
    · exact ih2 hd e w2 (by omega)
    · exact ih1 hd e w1 (by omega)
  | ask ps b ih =>
    intro hd d ⟨e, he, _, w1⟩ hq
    have hq' : 1 + qB b ≤ 1 := hq
    have hq0 : qB b = 0 := by omega
    show pr ((ansF l l [] (made ps hd)).bind fun r => play (ansF l l) b (hd ++ r.1) r.2) = pr ((ansP l [] (made ps hd)).bind fun r => play (ansP l) b (hd ++ r.1) r.2)
    by_cases es : (made ps hd).length = l
    · rw [ansF_miss es rfl, ansP_miss es rfl, pr_bind_node, pr_bind_node, leftOf_nil, bstrs_length]
      refine avg_congr fun i hi => ?_
      rw [bstrs_getD hi]
      exact prA b _ _ _ e w1 hq0
    · rw [ansF_off es, ansP_off es, pr_bind_ret, pr_bind_ret]
      exact prA b _ _ _ e w1 hq0
/-! between 0 and 1 -/
theorem sumR_le {α : Type} {f g : α → Rat} : ∀ {xs : List α}, (∀ x, x ∈ xs → f x ≤ g x) → sumR (xs.map f) ≤ sumR (xs.map g)
  | [], _ => Rat.le_refl
  | a :: r, h => by
    have h1 := h a List.mem_cons_self
    have h2 := sumR_le (f := f) (g := g) (xs := r) fun x hx => h x (List.mem_cons_of_mem _ hx)
    rw [List.map_cons, List.map_cons, sumR, sumR]
    grind
theorem inv_nonneg (n : Nat) : (0 : Rat) ≤ mkRat 1 n := by
  by_cases h : n = 0
  · subst h
    decide
  · rw [Rat.le_iff, mk_num 1 h]
    have h1 : (0 : Rat).num = 0 := rfl
    have h2 : (0 : Rat).den = 1 := rfl
    rw [h1, h2]
    have : (0 : Int) ≤ 1 / ((Nat.gcd (1 : Int).natAbs n : Nat) : Int) := Int.ediv_nonneg (by decide) (Int.natCast_nonneg _)
    omega
theorem inv_mul {n : Nat} (h : n ≠ 0) : mkRat (n : Int) 1 * mkRat 1 n = 1 := by
  rw [Rat.mkRat_mul_mkRat]
  have : (1 : Rat) = mkRat 1 1 := rfl
  rw [this, Rat.mkRat_eq_iff (by omega) (by decide)]
  simp
theorem sum_const (c : Rat) : ∀ n : Nat, sumR ((List.range n).map fun _ => c) = mkRat (n : Int) 1 * c
  | 0 => by
    have : mkRat ((0 : Nat) : Int) 1 = 0 := rfl
    rw [this, Rat.zero_mul]
    rfl
  | n + 1 => by
    rw [List.range_succ, List.map_append, sumR_app, sum_const c n]
    have e : mkRat ((n + 1 : Nat) : Int) 1 = mkRat (n : Int) 1 + 1 := by
      have h1 : (1 : Rat) = mkRat 1 1 := rfl
      rw [h1, mk_add_same (by decide)]
      rfl
    rw [e, Rat.add_mul, Rat.one_mul]
    show _ + (c + 0) = _
    rw [Rat.add_zero]
theorem avg_le {n : Nat} {f g : Nat → Rat} (h : ∀ i, i < n → f i ≤ g i) : avg n f ≤ avg n g :=
  Rat.mul_le_mul_of_nonneg_right (sumR_le fun i hi => h i (List.mem_range.mp hi)) (inv_nonneg n)
theorem avg_const {n : Nat} (hn : n ≠ 0) (c : Rat) : avg n (fun _ => c) = c := by
  unfold avg
  rw [sum_const, Rat.mul_comm (mkRat (n : Int) 1), Rat.mul_assoc, inv_mul hn, Rat.mul_one]
theorem sumR_add {α : Type} (f g : α → Rat) : ∀ xs : List α, sumR (xs.map fun x => f x + g x) = sumR (xs.map f) + sumR (xs.map g)
  | [] => by show (0 : Rat) = 0 + 0; rw [Rat.add_zero]
  | a :: r => by
    rw [List.map_cons, List.map_cons, List.map_cons, sumR, sumR, sumR, sumR_add f g r]
    grind
theorem avg_add (n : Nat) (f g : Nat → Rat) : avg n (fun i => f i + g i) = avg n f + avg n g := by
  unfold avg
  rw [sumR_add, Rat.add_mul]
/-- at most c apart -/
def Apart (c x y : Rat) : Prop := x ≤ y + c ∧ y ≤ x + c
theorem avg_apart {n : Nat} (hn : n ≠ 0) {c : Rat} {f g : Nat → Rat} (h : ∀ i, i < n → Apart c (f i) (g i)) : Apart c (avg n f) (avg n g) := by
  constructor
  · have := avg_le (f := f) (g := fun i => g i + c) fun i hi => (h i hi).1
    rw [avg_add, avg_const hn] at this
    exact this
  · have := avg_le (f := g) (g := fun i => f i + c) fun i hi => (h i hi).2
    rw [avg_add, avg_const hn] at this
    exact this
theorem pr_01 : ∀ (t : T Bool), t.Pos → 0 ≤ pr t ∧ pr t ≤ 1 := by
  intro t
  induction t with
  | ret o => intro _; rw [pr_ret]; cases o <;> decide
  | node n f ih =>
    intro hp
    have hn : n ≠ 0 := Nat.ne_of_gt hp.1
    show 0 ≤ avg n _ ∧ avg n _ ≤ 1
    constructor
    · have := avg_le (n := n) (f := fun _ => (0 : Rat)) (g := fun i => pr (f i)) fun i hi => (ih i (hp.2 i hi)).1
      rw [avg_const hn] at this
      exact this
    · have := avg_le (n := n) (f := fun i => pr (f i)) (g := fun _ => (1 : Rat)) fun i hi => (ih i (hp.2 i hi)).2
      rw [avg_const hn] at this
      exact this
end BK
/-! Breakback k27, the plain part: one entry known. No program here. -/
namespace BK
theorem avg1 (f : Nat → Rat) : avg 1 f = f 0 := by
  have h : mkRat 1 1 = 1 := rfl
  simp only [avg, List.range_succ, List.range_zero, List.nil_append, List.map_cons, List.map_nil, sumR, h]
  grind
theorem avg2 (f : Nat → Rat) : avg 2 f = (f 0 + f 1) / 2 := by
  have h : mkRat 1 2 = 1 / 2 := by decide +kernel
  simp only [avg, List.range_succ, List.range_zero, List.nil_append, List.cons_append, List.map_cons, List.map_nil, sumR, h]
  grind
theorem avg3 (f : Nat → Rat) : avg 3 f = (f 0 + f 1 + f 2) / 3 := by
  have h : mkRat 1 3 = 1 / 3 := by decide +kernel
  simp only [avg, List.range_succ, List.range_zero, List.nil_append, List.cons_append, List.map_cons, List.map_nil, sumR, h]
  grind
theorem avg4 (f : Nat → Rat) : avg 4 f = (f 0 + f 1 + f 2 + f 3) / 4 := by
  have h : mkRat 1 4 = 1 / 4 := by decide +kernel
  simp only [avg, List.range_succ, List.range_zero, List.nil_append, List.cons_append, List.map_cons, List.map_nil, sumR, h]
  grind
/-- all answers against those that are left but for v -/
theorem left_apart1 {v : Bs} (hv : v ∈ bstrs 1) (K : Bs → Rat) (h : ∀ w, 0 ≤ K w ∧ K w ≤ 1) (s : Bs) : Apart (1 / 2) (avg (2 ^ 1) fun k => K (bitsN 1 k)) (avg (leftOf 1 [(s, v)]).length fun k => K ((leftOf 1 [(s, v)]).getD k [])) := by
  have e : bstrs 1 = [[false], [true]] := by decide
  rw [e] at hv
  have b0 : bitsN 1 0 = [false] := by decide
  have b1 : bitsN 1 1 = [true] := by decide
  have h0 := h [false]
  have h1 := h [true]
  simp only [List.mem_cons, List.not_mem_nil, or_false] at hv
  rcases hv with rfl | rfl
  · have el : leftOf 1 [(s, [false])] = [[true]] := by show (bstrs 1).filter (fun w => !([[false]] : List Bs).contains w) = _; decide
    rw [el]
    show Apart _ (avg 2 _) (avg 1 _)
    rw [avg2, avg1, b0, b1]
    show Apart _ _ (K [true])
    constructor <;> grind
  · have el : leftOf 1 [(s, [true])] = [[false]] := by show (bstrs 1).filter (fun w => !([[true]] : List Bs).contains w) = _; decide
    rw [el]
    show Apart _ (avg 2 _) (avg 1 _)
    rw [avg2, avg1, b0, b1]
    show Apart _ _ (K [false])
    constructor <;> grind
theorem left_apart2 {v : Bs} (hv : v ∈ bstrs 2) (K : Bs → Rat) (h : ∀ w, 0 ≤ K w ∧ K w ≤ 1) (s : Bs) : Apart (1 / 4) (avg (2 ^ 2) fun k => K (bitsN 2 k)) (avg (leftOf 2 [(s, v)]).length fun k => K ((leftOf 2 [(s, v)]).getD k [])) := by
  have e : bstrs 2 = [[false, false], [false, true], [true, false], [true, true]] := by decide
  rw [e] at hv
  have b0 : bitsN 2 0 = [false, false] := by decide
  have b1 : bitsN 2 1 = [false, true] := by decide
  have b2 : bitsN 2 2 = [true, false] := by decide
  have b3 : bitsN 2 3 = [true, true] := by decide
  have h0 := h [false, false]
  have h1 := h [false, true]
  have h2 := h [true, false]
  have h3 := h [true, true]
  simp only [List.mem_cons, List.not_mem_nil, or_false] at hv
  rcases hv with rfl | rfl | rfl | rfl
  · have el : leftOf 2 [(s, [false, false])] = [[false, true], [true, false], [true, true]] := by show (bstrs 2).filter (fun w => !([[false, false]] : List Bs).contains w) = _; decide
    rw [el]
    show Apart _ (avg 4 _) (avg 3 _)
    rw [avg4, avg3, b0, b1, b2, b3]
    show Apart _ _ ((K [false, true] + K [true, false] + K [true, true]) / 3)
    constructor <;> grind
  · have el : leftOf 2 [(s, [false, true])] = [[false, false], [true, false], [true, true]] := by show (bstrs 2).filter (fun w => !([[false, true]] : List Bs).contains w) = _; decide
    rw [el]
    show Apart _ (avg 4 _) (avg 3 _)
    rw [avg4, avg3, b0, b1, b2, b3]
    show Apart _ _ ((K [false, false] + K [true, false] + K [true, true]) / 3)
    constructor <;> grind
  · have el : leftOf 2 [(s, [true, false])] = [[false, false], [false, true], [true, true]] := by show (bstrs 2).filter (fun w => !([[true, false]] : List Bs).contains w) = _; decide
    rw [el]
    show Apart _ (avg 4 _) (avg 3 _)
    rw [avg4, avg3, b0, b1, b2, b3]
    show Apart _ _ ((K [false, false] + K [false, true] + K [true, true]) / 3)
    constructor <;> grind
  · have el : leftOf 2 [(s, [true, true])] = [[false, false], [false, true], [true, false]] := by show (bstrs 2).filter (fun w => !([[true, true]] : List Bs).contains w) = _; decide
    rw [el]
    show Apart _ (avg 4 _) (avg 3 _)
    rw [avg4, avg3, b0, b1, b2, b3]
    show Apart _ _ ((K [false, false] + K [false, true] + K [true, false]) / 3)
    constructor <;> grind
end BK
/-! Breakback k27, the plain part: permutations against functions. No program here. -/
namespace BK
def eL (l : Nat) : Rat := if l = 1 then 1 / 2 else 1 / 4
theorem eL_pos (l : Nat) : 0 ≤ eL l := by
  unfold eL
  split <;> decide +kernel
theorem apart_eq {c x y : Rat} (hc : 0 ≤ c) (h : x = y) : Apart c x y := by
  subst h
  constructor <;> grind
theorem left_apart {l : Nat} (h1 : 1 ≤ l) (h2 : l ≤ 2) {v : Bs} (hv : v ∈ bstrs l) (K : Bs → Rat) (h : ∀ w, 0 ≤ K w ∧ K w ≤ 1) (s : Bs) : Apart (eL l) (avg (2 ^ l) fun k => K (bitsN l k)) (avg (leftOf l [(s, v)]).length fun k => K ((leftOf l [(s, v)]).getD k [])) := by
  have : l = 1 ∨ l = 2 := by omega
  rcases this with rfl | rfl
  · exact left_apart1 hv K h s
  · exact left_apart2 hv K h s
theorem play_pos0 {S : Type} {ans : S → Bs → T (Bs × S)} : ∀ (b : B) (hd : Bs) (st : S) (d : Nat), Wf d b → qB b = 0 → (play ans b hd st).Pos := by
  intro b
  induction b with
  | say ps => intro hd st d _ _; trivial
  | toss n f ih =>
    intro hd st d ⟨e, he, w1, w2, w3⟩ hq
    refine ⟨w1, fun i hi => ih i hd st e (w3 i hi) ?_⟩
    have := le_maxN (f := fun i => qB (f i)) hi
    have hq' : maxN n (fun i => qB (f i)) = 0 := hq
    omega
  | look n a b ih1 ih2 =>
    intro hd st d ⟨e, he, _, w1, w2⟩ hq
    have hq' : max (qB a) (qB b) = 0 := hq
    show T.Pos (if got hd n = true then play ans b hd st else play ans a hd st)
    split
    · exact ih2 hd st e w2 (by omega)
    · exact ih1 hd st e w1 (by omega)
  | ask ps b ih =>
    intro hd st d _ hq
    have : 1 + qB b = 0 := hq
    omega
theorem prD {l : Nat} (h1 : 1 ≤ l) (h2 : l ≤ 2) {s v : Bs} (hv : v ∈ bstrs l) : ∀ (b : B) (hd : Bs) (d : Nat), Wf d b → qB b ≤ 1 → Apart (eL l) (pr (play (ansF l l) b hd [(s, v)])) (pr (play (ansP l) b hd [(s, v)])) := by
  intro b
  induction b with
  | say ps => intro hd d _ _; exact apart_eq (eL_pos l) rfl
  | toss n f ih =>
    intro hd d ⟨e, he, w1, w2, w3⟩ hq
    show Apart _ (avg n _) (avg n _)
    refine avg_apart (by omega) fun i hi => ih i hd e (w3 i hi) ?_
    have := le_maxN (f := fun i => qB (f i)) hi
    have hq' : maxN n (fun i => qB (f i)) ≤ 1 := hq
    omega
  | look n a b ih1 ih2 =>
    intro hd d ⟨e, he, _, w1, w2⟩ hq
    have hq' : max (qB a) (qB b) ≤ 1 := hq
    show Apart _ (pr (if got hd n = true then play (ansF l l) b hd [(s, v)] else play (ansF l l) a hd [(s, v)])) (pr (if got hd n = true then play (ansP l) b hd [(s, v)] else play (ansP l) a hd [(s, v)]))
    split
    · exact ih2 hd e w2 (by omega)
    · exact ih1 hd e w1 (by omega)
  | ask ps b ih =>
    intro hd d ⟨e, he, _, w1⟩ hq
    have hq' : 1 + qB b ≤ 1 := hq
    have hq0 : qB b = 0 := by omega
    show Apart _ (pr ((ansF l l [(s, v)] (made ps hd)).bind fun r => play (ansF l l) b (hd ++ r.1) r.2)) (pr ((ansP l [(s, v)] (made ps hd)).bind fun r => play (ansP l) b (hd ++ r.1) r.2))
    by_cases es : (made ps hd).length = l
    · cases hk : ([(s, v)] : Tl).lookup (made ps hd) with
      | some u =>
        rw [ansF_hit es hk, ansP_hit es hk, pr_bind_ret, pr_bind_ret]
        exact apart_eq (eL_pos l) (prA b _ _ _ e w1 hq0)
      | none =>
        rw [ansF_miss es hk, ansP_miss es hk, pr_bind_node, pr_bind_node]
        have K0 : ∀ w : Bs, 0 ≤ pr (play (ansF l l) b (hd ++ w) []) ∧ pr (play (ansF l l) b (hd ++ w) []) ≤ 1 := fun w => pr_01 _ (play_pos0 b _ _ e w1 hq0)
        have := left_apart h1 h2 hv (fun w => pr (play (ansF l l) b (hd ++ w) [])) K0 s
        have e1 : (avg (2 ^ l) fun k => pr (play (ansF l l) b (hd ++ bitsN l k) ([(s, v)] ++ [(made ps hd, bitsN l k)]))) = avg (2 ^ l) fun k => pr (play (ansF l l) b (hd ++ bitsN l k) []) := avg_congr fun i _ => prA b _ _ _ e w1 hq0
        have e2 : (avg (leftOf l [(s, v)]).length fun k => pr (play (ansP l) b (hd ++ (leftOf l [(s, v)]).getD k []) ([(s, v)] ++ [(made ps hd, (leftOf l [(s, v)]).getD k [])]))) = avg (leftOf l [(s, v)]).length fun k => pr (play (ansF l l) b (hd ++ (leftOf l [(s, v)]).getD k []) []) := avg_congr fun i _ => prA b _ _ _ e w1 hq0
        rw [e1, e2]
        exact this
    · rw [ansF_off es, ansP_off es, pr_bind_ret, pr_bind_ret]
      exact apart_eq (eL_pos l) (prA b _ _ _ e w1 hq0)
theorem prC {l : Nat} (h1 : 1 ≤ l) (h2 : l ≤ 2) : ∀ (b : B) (hd : Bs) (d : Nat), Wf d b → qB b ≤ 2 → Apart (eL l) (pr (play (ansF l l) b hd [])) (pr (play (ansP l) b hd [])) := by
  intro b
  induction b with
  | say ps => intro hd d _ _; exact apart_eq (eL_pos l) rfl
  | toss n f ih =>
    intro hd d ⟨e, he, w1, w2, w3⟩ hq
    show Apart _ (avg n _) (avg n _)
    refine avg_apart (by omega) fun i hi => ih i hd e (w3 i hi) ?_
    have := le_maxN (f := fun i => qB (f i)) hi
    have hq' : maxN n (fun i => qB (f i)) ≤ 2 := hq
    omega
  | look n a b ih1 ih2 =>
    intro hd d ⟨e, he, _, w1, w2⟩ hq
    have hq' : max (qB a) (qB b) ≤ 2 := hq
    show Apart _ (pr (if got hd n = true then play (ansF l l) b hd [] else play (ansF l l) a hd [])) (pr (if got hd n = true then play (ansP l) b hd [] else play (ansP l) a hd []))
    split
    · exact ih2 hd e w2 (by omega)
    · exact ih1 hd e w1 (by omega)
  | ask ps b ih =>
    intro hd d ⟨e, he, _, w1⟩ hq
    have hq' : 1 + qB b ≤ 2 := hq
    have hq1 : qB b ≤ 1 := by omega
    show Apart _ (pr ((ansF l l [] (made ps hd)).bind fun r => play (ansF l l) b (hd ++ r.1) r.2)) (pr ((ansP l [] (made ps hd)).bind fun r => play (ansP l) b (hd ++ r.1) r.2))
    by_cases es : (made ps hd).length = l
    · rw [ansF_miss es rfl, ansP_miss es rfl, pr_bind_node, pr_bind_node, leftOf_nil, bstrs_length]
      have hp : 2 ^ l ≠ 0 := Nat.ne_of_gt (Nat.pow_pos (by decide))
      refine avg_apart hp fun i hi => ?_
      rw [bstrs_getD hi]
      have hm : bitsN l i ∈ bstrs l := List.mem_map.mpr ⟨i, List.mem_range.mpr hi, rfl⟩
      exact prD h1 h2 hm b _ e w1 hq1
    · rw [ansF_off es, ansP_off es, pr_bind_ret, pr_bind_ret]
      exact apart_eq (eL_pos l) (prB l b _ e w1 hq1)
end BK
/-! Breakback k27, the plain part: three rounds of swaps. No program here. -/
namespace BK
theorem pr_bind_bind {α β : Type} (t : T α) (g : α → T β) (k : β → T Bool) : (t.bind g).bind k = t.bind fun a => (g a).bind k := by
  induction t with
  | ret a => rfl
  | node n f ih => show T.node n _ = T.node n _; congr 1; funext i; exact ih i
theorem goOne (ts : List Tl) (a b : Bool) (k : (Bs × Bs) × List Tl → T Bool) : pr ((goS 1 ([] :: ts) [a] [b]).bind k) =
    (pr ((goS 1 ts [b] [a]).bind fun q => k (q.1, [([b], [false])] :: q.2)) + pr ((goS 1 ts [b] [!a]).bind fun q => k (q.1, [([b], [true])] :: q.2))) / 2 := by
  have m : ansF 1 1 [] [b] = .node (2 ^ 1) fun k => .ret (bitsN 1 k, [] ++ [([b], bitsN 1 k)]) := ansF_miss rfl rfl
  have b0 : bitsN 1 0 = [false] := by decide
  have b1 : bitsN 1 1 = [true] := by decide
  have p : (2 : Nat) ^ 1 = 2 := rfl
  have x0 : xorB [a] [false] = [a] := by cases a <;> rfl
  have x1 : xorB [a] [true] = [!a] := by cases a <;> rfl
  rw [goS, m, pr_bind_bind, pr_bind_node, p, avg2]
  simp only [b0, b1, x0, x1, pr_bind_bind]
  rfl
theorem go3 (a b : Bool) (k : (Bs × Bs) × List Tl → T Bool) (K : Bs → Rat) (hk : ∀ x y st, pr (k (([x], [y]), st)) = K [x, y]) :
    pr ((goS 1 [[], [], []] [a] [b]).bind k) = avg 4 fun i => K (bitsN 2 i) := by
  have b0 : bitsN 2 0 = [false, false] := by decide
  have b1 : bitsN 2 1 = [false, true] := by decide
  have b2 : bitsN 2 2 = [true, false] := by decide
  have b3 : bitsN 2 3 = [true, true] := by decide
  have z : ∀ (x y : Bool) (k : (Bs × Bs) × List Tl → T Bool), (goS 1 [] [x] [y]).bind k = k (([x], [y]), []) := fun _ _ _ => rfl
  rw [avg4, b0, b1, b2, b3]
  simp only [goOne, z, hk]
  cases a <;> cases b <;> simp only [Bool.not_false, Bool.not_true] <;> grind
theorem prS : ∀ (b : B) (hd : Bs) (d : Nat), Wf d b → qB b ≤ 1 → pr (play (ansF 2 2) b hd []) = pr (play (ansS 1) b hd [[], [], []]) := by
  intro b
  induction b with
  | say ps => intro hd d _ _; rfl
  | toss n f ih =>
    intro hd d ⟨e, he, w1, w2, w3⟩ hq
    show avg n _ = avg n _
    refine avg_congr fun i hi => ih i hd e (w3 i hi) ?_
    have := le_maxN (f := fun i => qB (f i)) hi
    have hq' : maxN n (fun i => qB (f i)) ≤ 1 := hq
    omega
  | look n a b ih1 ih2 =>
    intro hd d ⟨e, he, _, w1, w2⟩ hq
    have hq' : max (qB a) (qB b) ≤ 1 := hq
    show pr (if got hd n = true then play (ansF 2 2) b hd [] else play (ansF 2 2) a hd []) = pr (if got hd n = true then play (ansS 1) b hd [[], [], []] else play (ansS 1) a hd [[], [], []])
    split
    · exact ih2 hd e w2 (by omega)
    · exact ih1 hd e w1 (by omega)
  | ask ps b ih =>
    intro hd d ⟨e, he, _, w1⟩ hq
    have hq' : 1 + qB b ≤ 1 := hq
    have hq0 : qB b = 0 := by omega
    show pr ((ansF 2 2 [] (made ps hd)).bind fun r => play (ansF 2 2) b (hd ++ r.1) r.2) = pr ((ansS 1 [[], [], []] (made ps hd)).bind fun r => play (ansS 1) b (hd ++ r.1) r.2)
    by_cases es : (made ps hd).length = 2
    · generalize made ps hd = ms at es
      obtain ⟨x, y, rfl⟩ : ∃ x y, ms = [x, y] := by
        match ms, es with
        | [x, y], _ => exact ⟨x, y, rfl⟩
      rw [ansF_miss es rfl, pr_bind_node]
      have e1 : ansS 1 [[], [], []] [x, y] = (goS 1 [[], [], []] [x] [y]).bind fun r => .ret (r.1.1 ++ r.1.2, r.2) := rfl
      rw [e1, pr_bind_bind]
      have := go3 x y (fun r => play (ansS 1) b (hd ++ (r.1.1 ++ r.1.2)) r.2) (fun w => pr (play (ansF 2 2) b (hd ++ w) [])) fun u v st => prA b _ _ _ e w1 hq0
      refine Eq.trans ?_ this.symm
      exact avg_congr fun i _ => prA b _ _ _ e w1 hq0
    · rw [ansF_off es, ansS_off (by omega), pr_bind_ret, pr_bind_ret]
      exact prA b _ _ _ e w1 hq0
end BK
/-! Breakback k27: how the plain data stand in the heap; frames. -/
namespace BK
open PySem PySem.Spec PyProof.Rows L2 He
/-! ### texts of bits -/
def sgn (b : Bool) : Nat := if b = true then 49 else 48
def bS (x : Bs) : Str := ⟨(x.map sgn).toArray⟩
theorem bS_nil : (("" : Str)) = bS [] := by decide +kernel
theorem bS_0 : (("0" : Str)) = bS [false] := by decide +kernel
theorem bS_1 : (("1" : Str)) = bS [true] := by decide +kernel
theorem bS_len (x : Bs) : (bS x).length = x.length := by simp [bS, Str.length]
theorem bS_app (x y : Bs) : bS x ++ bS y = bS (x ++ y) := by
  show Str.append (bS x) (bS y) = _
  simp [bS, Str.append]
theorem sgn_inj {a b : Bool} (h : sgn a = sgn b) : a = b := by
  cases a <;> cases b <;> first | rfl | exact absurd h (by decide)
theorem map_sgn_inj : ∀ {x y : Bs}, x.map sgn = y.map sgn → x = y
  | [], [], _ => rfl
  | [], _ :: _, h => by simp at h
  | _ :: _, [], h => by simp at h
  | a :: x, b :: y, h => by
    simp only [List.map_cons, List.cons.injEq] at h
    rw [sgn_inj h.1, map_sgn_inj h.2]
theorem bS_inj {x y : Bs} (h : bS x = bS y) : x = y := by
  have e : (x.map sgn).toArray = (y.map sgn).toArray := congrArg Str.cps h
  exact map_sgn_inj (by simpa using e)
theorem bS_ne {x y : Bs} (h : x ≠ y) : bS x ≠ bS y := fun e => h (bS_inj e)
theorem bS_dec (x y : Bs) : decide (V.str (bS x) = V.str (bS y)) = decide (x = y) := by
  by_cases e : x = y
  · subst e
    simp
  · have : ¬ V.str (bS x) = V.str (bS y) := fun z => e (bS_inj (V.str.inj z))
    simp [e, this]
theorem bS_cps (x : Bs) : (bS x).cps.toList = x.map sgn := by simp [bS]
theorem bS_one (b : Bool) : (⟨#[sgn b]⟩ : Str) = bS [b] := by simp [bS]
theorem bS_at {x : Bs} {i : Nat} (h : i < x.length) : atI (bS x).cps.toList (i : Int) = some (sgn (x.getD i false)) := by
  refine atI_nat ?_
  rw [bS_cps, List.getElem?_map, List.getElem?_eq_getElem h]
  simp [List.getD_eq_getElem?_getD, List.getElem?_eq_getElem h]
theorem ne_str {a b : Str} (h : a ≠ b) : decide (V.str a = V.str b) = false := by
  have : ¬ V.str a = V.str b := fun z => h (V.str.inj z)
  simp [this]
theorem eq_str (a : Str) : decide (V.str a = V.str a) = true := by simp
theorem sz {n : Nat} (h : n ≤ 100000) : n ≤ sizeLine := Nat.le_trans h (by decide)
theorem szl {n : Nat} (h : n ≤ 100000) : n < sizeLine := Nat.lt_of_le_of_lt h (by decide)
/-! ### frames -/
/-- nothing that stood is changed but at M; tuples stand -/
def Fr (M : List Addr) (H H' : Hp) : Prop := (∀ b o, H b = some o → b ∉ M → H' b = some o) ∧ ∀ b xs, H b = some (.tup xs) → H' b = some (.tup xs)
def isTup : HO → Bool
  | .tup _ => true
  | _ => false
theorem Fr.refl (M : List Addr) (H : Hp) : Fr M H H := ⟨fun _ _ h _ => h, fun _ _ h => h⟩
theorem Fr.trans' {M N : List Addr} {H H1 H2 : Hp} (a : Fr M H H1) (b : Fr N H1 H2) (h : ∀ x, x ∈ N → x ∈ M ∨ H x = none) : Fr M H H2 :=
  ⟨fun x o e hx => b.1 x o (a.1 x o e hx) fun hn => (h x hn).elim hx fun z => (by rw [z] at e; cases e), fun x xs e => b.2 x xs (a.2 x xs e)⟩
theorem Fr.trans {M : List Addr} {H H1 H2 : Hp} (a : Fr M H H1) (b : Fr M H1 H2) : Fr M H H2 := a.trans' b fun _ h => .inl h
theorem Fr.mono {M N : List Addr} {H H1 : Hp} (a : Fr M H H1) (h : ∀ x, x ∈ M → x ∈ N) : Fr N H H1 := ⟨fun x o e hx => a.1 x o e fun z => hx (h x z), a.2⟩
theorem Fr.of0 {M : List Addr} {H H1 : Hp} (a : Fr [] H H1) : Fr M H H1 := a.mono fun _ h => nomatch h
theorem Fr.after {M : List Addr} {H H1 H2 : Hp} (a : Fr [] H H1) (b : Fr M H1 H2) : Fr M H H2 := a.of0.trans b
theorem Fr.new {M : List Addr} {H : Hp} {p : Addr} {o : HO} (h : H p = none) : Fr M H (upd H p o) :=
  ⟨fun x u e _ => by rw [upd_ne (ne_of_none e h)]; exact e, fun x u e => by rw [upd_ne (ne_of_none e h)]; exact e⟩
theorem Fr.put {M : List Addr} {H : Hp} {p : Addr} {o u : HO} (hp : p ∈ M) (h : H p = some o) (ht : isTup o = false) : Fr M H (upd H p u) :=
  ⟨fun x v e hx => (by rw [upd_ne (show x ≠ p from fun z => hx (by rw [z]; exact hp))]; exact e), fun x xs e => by
    rw [upd_ne]
    · exact e
    · intro z
      rw [z, h] at e
      cases e
      cases ht⟩
theorem Fr.one {M : List Addr} {H H1 : Hp} {p : Addr} {o : HO} (a : Fr M H H1) (h : H p = some o) (hp : p ∉ M) : H1 p = some o := a.1 p o h hp
theorem Fr.at {H H1 : Hp} {p : Addr} {o : HO} (a : Fr [] H H1) (h : H p = some o) : H1 p = some o := a.1 p o h (by simp)
theorem Fr.free {H H1 : Hp} {p : Addr} (a : Fr [] H H1) (h : H1 p = none) : H p = none := by
  cases e : H p with
  | none => rfl
  | some o =>
    rw [a.at e] at h
    cases h
theorem Fr.seq {K : PySem.W.Frag} {H H' : Hp} {a : Addr} {xs : List V} (e : Fr [] H H') (h : SqL K H a xs) : SqL K H' a xs := by
  rcases h with (h | ⟨o, h⟩) | h
  · exact .inl (.inl (e.at h))
  · exact .inl (.inr ⟨o, e.at h⟩)
  · exact .inr h
theorem Fr.same {H H' : Hp} (e : Fr [] H H') : Same H H' := fun b o h => e.at h
theorem SqL.at {K : PySem.W.Frag} {H : Hp} {a : Addr} {xs : List V} (h : H a = some (.lst xs)) : SqL K H a xs := .inl (.inl h)
theorem SqT.at {K : PySem.W.Frag} {H : Hp} {a : Addr} {xs : List V} (h : H a = some (.tup xs)) : SqT K H a xs := .inl (.inl h)
/-- two of unlike contents -/
theorem apart {H : Hp} {a b : Addr} {o u : HO} (h : H a = some o) (h' : H b = some u) (d : o ≠ u) : a ≠ b := ne_of h h' d
theorem Fr.own {M : List Addr} {H H' : Hp} {D : Addr} {o : HO} (a : Fr M H H') (h : H D = none) : Fr M H (upd H' D o) :=
  ⟨fun x u e hx => (by rw [upd_ne (ne_of_none e h)]; exact a.1 x u e hx), fun x u e => (by rw [upd_ne (ne_of_none e h)]; exact a.2 x u e)⟩
/-! ### comprehensions whose turns leave the heap but for new objects -/
theorem lc_fil {J : It} {n : Nat} {G : Hp → Prop} {Y : Nat → Hp → V → Hp → Prop} (w : Walk J n G Y) {g : TG} {tt : TT} {te : TE} {vs : List Nat} {σ : L2.St} {H1 : Hp} {D : Addr} {Qd : Hp → Prop} (keep : Nat → Bool) (f : Nat → V)
    (hD : H1 D = none) (hn : n ≤ 100000) (hG : ∀ H', Fr [] H1 H' → G H')
    (hs : ∀ (i : Nat) (x : V) (H H' : Hp), i < n → Fr [] H1 H → Y i H x H' → ∀ (R : V → Hp → Prop) (S : Hp → Prop), (keep i = true → ∀ H4, Fr [] H H4 → R (f i) H4) → (keep i = false → ∀ H4, Fr [] H H4 → S H4) →
      g x (wipe σ vs) H' fun σ2 H2 => wipe σ2 vs = wipe σ vs ∧ tt σ2 H2 fun b H3 => if b = true then te σ2 H3 R else S H3)
    (hd : ∀ H', Fr [] H1 H' → H' D = some (.lst (((List.range n).filter keep).map f)) → Qd H') :
    ∃ W : Nat → Nat → Hp → Prop, (∃ m, W 0 m (upd H1 D (.lst []))) ∧ ∀ i m H, W i m H →
      (J.stop i H ∧ Qd H) ∨ (J.go i H ∧ ∃ Nx : Hp → Prop, (∀ H', Nx H' → ∃ m', m' < m ∧ W (i + 1) m' H') ∧ ∀ x H', J.yld i H x H' → g x (wipe σ vs) H' fun σ2 H2 => wipe σ2 vs = wipe σ vs ∧ tt σ2 H2 fun b H3 =>
        if b = true then te σ2 H3 fun y H4 => ∃ acc, H4 D = some (.lst acc) ∧ acc.length < sizeLine ∧ Nx (upd H4 D (.lst (acc ++ [y]))) else Nx H3) := by
  refine lc_it w (fun i H => Fr [] H1 H ∧ i ≤ n ∧ H D = some (.lst (((List.range i).filter keep).map f))) ⟨Fr.new hD, Nat.zero_le _, upd_same⟩ (fun i H _ p => hG H p.1) ?_ (fun H p => hd H p.1 p.2.2)
  intro i x H H' hi p y
  obtain ⟨fr, _, hl⟩ := p
  refine hs i x H H' hi fr y _ _ (fun hk H4 f4 => ?_) (fun hk H4 f4 => ?_)
  · refine ⟨_, f4.at hl, ?_, (fr.trans f4).own hD, hi, ?_⟩
    · rw [List.length_map]
      exact Nat.lt_of_le_of_lt (List.length_filter_le _ _) (by rw [List.length_range]; exact szl (by omega))
    · rw [upd_same, List.range_succ, List.filter_append, List.map_append]
      simp [hk]
  · refine ⟨fr.trans f4, hi, ?_⟩
    rw [f4.at hl, List.range_succ, List.filter_append, List.map_append]
    simp [hk]
theorem yesT {σ : L2.St} {H : Hp} {te : TE} {R : V → Hp → Prop} {S : Hp → Prop} (h : te σ H R) : tYes σ H fun b H3 => if b = true then te σ H3 R else S H3 := by
  show if true = true then te σ H R else S H
  rw [if_pos rfl]
  exact h
theorem fil_true (n : Nat) : (List.range n).filter (fun _ => true) = List.range n := List.filter_eq_self.mpr fun _ _ => rfl
/-- .. each item is kept -/
theorem lc_map {J : It} {n : Nat} {G : Hp → Prop} {Y : Nat → Hp → V → Hp → Prop} (w : Walk J n G Y) {g : TG} {tt : TT} {te : TE} {vs : List Nat} {σ : L2.St} {H1 : Hp} {D : Addr} {Qd : Hp → Prop} (f : Nat → V)
    (hD : H1 D = none) (hn : n ≤ 100000) (hG : ∀ H', Fr [] H1 H' → G H')
    (hs : ∀ (i : Nat) (x : V) (H H' : Hp), i < n → Fr [] H1 H → Y i H x H' → ∀ (R : V → Hp → Prop) (S : Hp → Prop), (∀ H4, Fr [] H H4 → R (f i) H4) →
      g x (wipe σ vs) H' fun σ2 H2 => wipe σ2 vs = wipe σ vs ∧ tt σ2 H2 fun b H3 => if b = true then te σ2 H3 R else S H3)
    (hd : ∀ H', Fr [] H1 H' → H' D = some (.lst ((List.range n).map f)) → Qd H') :
    ∃ W : Nat → Nat → Hp → Prop, (∃ m, W 0 m (upd H1 D (.lst []))) ∧ ∀ i m H, W i m H →
      (J.stop i H ∧ Qd H) ∨ (J.go i H ∧ ∃ Nx : Hp → Prop, (∀ H', Nx H' → ∃ m', m' < m ∧ W (i + 1) m' H') ∧ ∀ x H', J.yld i H x H' → g x (wipe σ vs) H' fun σ2 H2 => wipe σ2 vs = wipe σ vs ∧ tt σ2 H2 fun b H3 =>
        if b = true then te σ2 H3 fun y H4 => ∃ acc, H4 D = some (.lst acc) ∧ acc.length < sizeLine ∧ Nx (upd H4 D (.lst (acc ++ [y]))) else Nx H3) :=
  lc_fil w (fun _ => true) f hD hn hG (fun i x H H' hi fr y R S h1 _ => hs i x H H' hi fr y R S (h1 rfl)) fun H' fr h => hd H' fr (by rw [h, fil_true])
theorem range_map_get {α : Type} (d : α) (F : α → V) (xs : List α) : (List.range xs.length).map (fun i => F (xs.getD i d)) = xs.map F := by
  refine List.ext_getElem (by simp) fun i h1 h2 => ?_
  have h3 : i < xs.length := by simpa using h2
  simp [List.getD_eq_getElem?_getD, List.getElem?_eq_getElem h3]
theorem range_map_const (n : Nat) (v : V) : (List.range n).map (fun _ => v) = List.replicate n v := by
  induction n with
  | zero => rfl
  | succ n ih => rw [List.range_succ, List.map_append, ih, List.replicate_succ']; rfl
theorem all_rep (n : Nat) : (List.replicate n true).all id = true := by
  induction n with
  | zero => rfl
  | succ n ih => rw [List.replicate_succ]; simpa using ih
/-! ### breakers in the heap -/
def ptV : Pt → V
  | .sg b => .str (bS [b])
  | .nm n => .int n
def Tups (H H' : Hp) : Prop := ∀ b xs, H b = some (.tup xs) → H' b = some (.tup xs)
def IsB (H : Hp) : V → B → Prop
  | v, .say ps => ∃ a p, v = .ref a ∧ H a = some (.tup [.str "say", .ref p]) ∧ H p = some (.tup (ps.map ptV))
  | v, .toss n f => ∃ a p xs, v = .ref a ∧ H a = some (.tup [.str "toss", .ref p]) ∧ H p = some (.tup xs) ∧ xs.length = n ∧ ∀ i, i < n → ∃ x, xs[i]? = some x ∧ IsB H x (f i)
  | v, .look n b c => ∃ a x y, v = .ref a ∧ H a = some (.tup [.str "look", .int n, x, y]) ∧ IsB H x b ∧ IsB H y c
  | v, .ask ps b => ∃ a p x, v = .ref a ∧ H a = some (.tup [.str "ask", .ref p, x]) ∧ H p = some (.tup (ps.map ptV)) ∧ IsB H x b
theorem IsB.mono {H H' : Hp} (t : Tups H H') : ∀ {b : B} {v : V}, IsB H v b → IsB H' v b := by
  intro b
  induction b with
  | say ps =>
    intro v ⟨a, p, e, h1, h2⟩
    exact ⟨a, p, e, t _ _ h1, t _ _ h2⟩
  | toss n f ih =>
    intro v ⟨a, p, xs, e, h1, h2, h3, h4⟩
    refine ⟨a, p, xs, e, t _ _ h1, t _ _ h2, h3, fun i hi => ?_⟩
    obtain ⟨x, h5, h6⟩ := h4 i hi
    exact ⟨x, h5, ih i h6⟩
  | look n b c ih1 ih2 =>
    intro v ⟨a, x, y, e, h1, h2, h3⟩
    exact ⟨a, x, y, e, t _ _ h1, ih1 h2, ih2 h3⟩
  | ask ps b ih =>
    intro v ⟨a, p, x, e, h1, h2, h3⟩
    exact ⟨a, p, x, e, t _ _ h1, t _ _ h2, ih h3⟩
theorem IsB.fr {M : List Addr} {H H' : Hp} {b : B} {v : V} (h : IsB H v b) (t : Fr M H H') : IsB H' v b := h.mono t.2
end BK
/-! Breakback k27: small checks. -/
namespace BK
open PySem PySem.Spec PyProof.Rows L2 He
local macro_rules | `(tactic| walk_at "v") => `(tactic| refine ⟨_, rfl, ?_⟩)
section
variable {K : PySem.W.Frag}
theorem kt_int_int : PySem.W.kitOne K (.type "int") (.type "int") = some true := kit_ty (by decide +kernel)
theorem kt_int_bool : PySem.W.kitOne K (.type "int") (.type "bool") = some false := kit_ty (by decide +kernel)
theorem kt_int_str : PySem.W.kitOne K (.type "int") (.type "str") = some false := kit_ty (by decide +kernel)
theorem kt_str_int : PySem.W.kitOne K (.type "str") (.type "int") = some false := kit_ty (by decide +kernel)
theorem kt_str_str : PySem.W.kitOne K (.type "str") (.type "str") = some true := kit_ty (by decide +kernel)
theorem kt_bool_bool : PySem.W.kitOne K (.type "bool") (.type "bool") = some true := kit_ty (by decide +kernel)
theorem kt_tup_tup : PySem.W.kitOne K (.type "tuple") (.type "tuple") = some true := kit_ty (by decide +kernel)
end
section
variable {P : Program} {w : World} {K : PySem.W.Frag} {mg : Str → Option Value} {base : Heap}
/-- the shell: a def by its datum, its promise kept by its body -/
theorem kp_of {x : Str} {st : Stmt} {N ps : List Str} {k : Nat} {sp : Sp} (D : ∃ fd, FunD K x x (defArgs st) (defBody st) (defScope st) [] [] (ga K x) fd) (g : mg x = some (.ref (ga K x))) (S : FnScope N ps (defScope st))
    (b : ∀ (kV doc pm : Value) (an : Option Addr) (cdv ct : Value) (us : List Value), us.length = ps.length → bindArgs (PySem.W.fnOf x x (defArgs st) (defBody st) (defScope st) .none kV doc pm an cdv ct) ⟨us, []⟩ = pure (ps.zip us))
    (len : ∀ vs H Q E, sp vs H Q E → vs.length = ps.length)
    (hbody : ∀ (cdv : Value) (A : Around) (outer : List Env) (s : Shared) (H : Hp) (vs : List V) (Q : VK) (E : XK), Room k (A.deeper (envOfC x (defScope st) s.heap.objs.size (ga K x) cdv)) → sp vs H Q E →
      ∃ t, PSs (cxOf CX0 P w K mg base N x (defScope st) (ga K x) cdv A outer s H E).nox (defBody st) t ∧ t { nx := fun _ H' => Q .non H', rt := Q } (start N vs) H) : Kp P w K mg base (k + 1) x ps sp := by
  obtain ⟨fd, D⟩ := D
  exact ⟨g, D.kp, fd, FnOkOf D S len hbody, D.bindsN b⟩
/-! is_number -/
def spIsNum : Sp := fun vs H Q _ => ∃ x a b, vs = [x, .int a, .int b] ∧ ((∃ n, x = .int n ∧ Q (.bl (decide (a ≤ n) && decide (n ≤ b))) H) ∨ (∃ z, x = .str z ∧ Q (.bl false) H))
theorem k_is_number (F : Fx K w mg) : Kp P w K mg base 1 "is_number" ["value", "least", "most"] spIsNum := by
  refine kp_of F.d_is_number F.g_is_number sc_is_number (fun _ _ _ _ _ _ us hl => match us, hl with | [_, _, _], _ => rfl) (fun vs H Q E h => ?_) (fun cdv A outer s H vs Q E hr h => ?_)
  · obtain ⟨x, a, b, rfl, _⟩ := h
    rfl
  · obtain ⟨x, a, b, rfl, h⟩ := h
    refine ⟨_, (pss_one (ps_ret (pe_and (pe_callB call_isi (by rfl) F.b_isinstance (by decide +kernel) (pa_cons (pv 0) (pa_cons (pe_bltn (v := .ty "int") rfl F.b_int (by decide +kernel) rfl) pa_nil))) (pe_and (pe_not (pe_callB call_isi (by rfl) F.b_isinstance (by decide +kernel) (pa_cons (pv 0) (pa_cons (pe_bltn (v := .ty "bool") rfl F.b_bool (by decide +kernel) rfl) pa_nil)))) (pe_one (pe_chain op_le op_le (pv 1) (pv 0) (pv 2))))))), ?_⟩
    rcases h with ⟨n, rfl, q⟩ | ⟨z, rfl, q⟩
    · refine ⟨_, rfl, _, _, _, _, _, rfl, .ty _, .base (.int n), kt_int_int, _, rfl, iteT ?_⟩
      refine ⟨_, rfl, _, _, _, _, _, rfl, .ty _, .base (.int n), kt_int_bool, _, rfl, _, rfl, iteT ?_⟩
      refine ⟨_, rfl, _, rfl, _, _, rfl, rfl, _, rfl, ite2 (fun e => ?_) (fun e => ?_)⟩
      · refine ⟨_, rfl, _, _, rfl, rfl, ?_⟩
        rw [e] at q
        exact q
      · have e' : decide (a ≤ n) = false := by simpa using e
        rw [e'] at q
        exact q
    · exact ⟨_, rfl, _, _, _, _, _, rfl, .ty _, .base (.str z), kt_str_int, _, rfl, iteF q⟩
/-! is_bits -/
def spIsBits : Sp := fun vs H Q _ => ∃ (x : V) (n : Nat), vs = [x, .int n] ∧ ((∃ y : Bs, y.length ≤ 1000 ∧ x = .str (bS y) ∧ ∀ H', Fr [] H H' → Q (.bl (decide (y.length = n))) H') ∨ (∃ i, x = .int i ∧ Q (.bl false) H))
theorem c49 (b : Bool) : decide (sgn b ∈ ("01" : Str).cps.toList) = true := by cases b <;> decide +kernel
theorem dec_nat (a b : Nat) : decide (V.int (a : Int) = V.int (b : Int)) = decide (a = b) := by
  by_cases e : a = b
  · subst e; simp
  · have : ¬ V.int (a : Int) = V.int (b : Int) := fun z => e (by injection z; omega)
    simp [e, this]
theorem k_is_bits (F : Fx K w mg) : Kp P w K mg base 1 "is_bits" ["value", "length"] spIsBits := by
  refine kp_of F.d_is_bits F.g_is_bits sc_is_bits (fun _ _ _ _ _ _ us hl => match us, hl with | [_, _], _ => rfl) (fun vs H Q E h => ?_) (fun cdv A outer s H vs Q E hr h => ?_)
  · obtain ⟨x, n, rfl, _⟩ := h
    rfl
  · obtain ⟨x, n, rfl, h⟩ := h
    refine ⟨_, (pss_one (ps_ret (pe_and (pe_callB call_isi (by rfl) F.b_isinstance (by decide +kernel) (pa_cons (pv 0) (pa_cons (pe_bltn (v := .ty "str") rfl F.b_str (by decide +kernel) rfl) pa_nil))) (pe_and (pe_cmpR op_eq (pe_callB call_len_str (by rfl) F.b_len (by decide +kernel) (pa_cons (pv 0) pa_nil)) (pv 1) (nomark _)) (pe_one (pe_callB (cr_all rfl) (by rfl) F.b_all (by decide +kernel) (pa_cons (pe_lc (own := [("sign", 2)]) (g := gName 2) rfl sc_is_bits.nd (pi_str (pv 0)) (blkOk_by (own := [("sign", 2)]) (N := N_is_bits) (sc := defScope s_is_bits) (by decide +kernel)) (fun _ _ _ _ _ => (pg_name (i := 2) sc_is_bits.nd rfl (Or.inl rfl))) (fun _ _ _ _ _ => pts_nil) (fun _ _ _ _ _ => (pe_cmpR op_in_sign (pv 2) pe_str (by rfl)))) pa_nil))))))), ?_⟩
    rcases h with ⟨y, hl, rfl, q⟩ | ⟨i, rfl, q⟩
    · refine ⟨_, rfl, _, _, _, _, _, rfl, .ty _, .base (.str _), kt_str_str, _, rfl, iteT ?_⟩
      refine ⟨_, rfl, _, rfl, (by rw [bS_len]; exact sz (by omega)), _, rfl, rfl, _, rfl, ?_⟩
      rw [bS_len, dec_nat]
      refine ite2 (fun e => ?_) (fun e => ?_)
      · rw [e] at q
        refine ⟨_, rfl, _, rfl, fun D hD => lc_map walk_str (fun _ => .bl true) hD (by rw [show (bS y).cps.size = y.length from bS_len y]; omega) (fun _ _ => trivial) (fun i x H1 H2 hi fr hy R S hR => ?_) (fun H' fr h => ?_)⟩
        · obtain ⟨rfl, c, hc, rfl⟩ := hy
          have e2 : c = sgn (y.getD i false) := by
            have : (bS y).cps.toList[i]? = some c := by simpa using hc
            rw [bS_cps, List.getElem?_map] at this
            cases h3 : y[i]? with
            | none => rw [h3] at this; cases this
            | some b =>
              rw [h3] at this
              rw [List.getD_eq_getElem?_getD, h3]
              exact (Option.some.inj this).symm
          subst e2
          refine ⟨rfl, yesT ⟨_, rfl, _, _, rfl, rfl, ?_⟩⟩
          rw [c49]
          exact hR _ (Fr.refl _ _)
        · rw [range_map_const] at h
          refine ⟨D, List.replicate (bS y).cps.size true, rfl, ?_, ?_⟩
          · rw [List.map_replicate]
            exact SqL.at h
          · rw [all_rep]
            exact q _ fr
      · have e' : decide (y.length = n) = false := by simpa using e
        rw [e'] at q
        exact q _ (Fr.refl _ _)
    · exact ⟨_, rfl, _, _, _, _, _, rfl, .ty _, .base (.int i), kt_int_str, _, rfl, iteF q⟩
/-! is_row -/
def rowV (y : Bs) : V := .str (bS y)
def spIsRow (K : PySem.W.Frag) : Sp := fun vs H Q _ => ∃ (p : Addr) (rows : List Bs) (n : Nat), vs = [.ref p, .int rows.length, .int n] ∧ H p = some (.tup (rows.map rowV)) ∧ rows.length ≤ 1000 ∧ n ≤ 1000 ∧ (∀ y, y ∈ rows → y.length = n) ∧ ∀ H', Fr [] H H' → Q (.bl true) H'
theorem k_is_row (F : Fx K w mg) : Kp P w K mg base 2 "is_row" ["value", "many", "length"] (spIsRow K) := by
  have k_is_bits : Kp P w K mg base 1 _ _ _ := k_is_bits F
  refine kp_of F.d_is_row F.g_is_row sc_is_row (fun _ _ _ _ _ _ us hl => match us, hl with | [_, _, _], _ => rfl) (fun vs H Q E h => ?_) (fun cdv A outer s H vs Q E hr h => ?_)
  · obtain ⟨p, rows, n, rfl, _⟩ := h
    rfl
  · obtain ⟨p, rows, n, rfl, hp, hl, hn, hr2, q⟩ := h
    refine ⟨_, (pss_one (ps_ret (pe_and (pe_callB call_isi (by rfl) F.b_isinstance (by decide +kernel) (pa_cons (pv 0) (pa_cons (pe_bltn (v := .ty "tuple") rfl F.b_tuple (by decide +kernel) rfl) pa_nil))) (pe_and (pe_cmpR op_eq (pe_callB call_len_seq (by rfl) F.b_len (by decide +kernel) (pa_cons (pv 0) pa_nil)) (pv 1) (nomark _)) (pe_one (pe_callB (cr_all rfl) (by rfl) F.b_all (by decide +kernel) (pa_cons (pe_lc (own := [("one", 3)]) (g := gName 3) rfl sc_is_row.nd (pi_tup (pv 0)) (blkOk_by (own := [("one", 3)]) (N := N_is_row) (sc := defScope s_is_row) (by decide +kernel)) (fun _ _ _ _ _ => (pg_name (i := 3) sc_is_row.nd rfl (Or.inl rfl))) (fun _ _ _ _ _ => pts_nil) (fun _ _ _ _ _ => (pe_k k_is_bits (hr.mono (by decide)) (pa_cons (pv 3) (pa_cons (pv 2) pa_nil))))) pa_nil))))))), ?_⟩
    refine ⟨_, rfl, _, _, _, _, _, rfl, .ty _, .base (.tup hp), kt_tup_tup, _, rfl, iteT ?_⟩
    refine ⟨_, rfl, p, _, rfl, .inr (SqT.at hp), _, rfl, rfl, _, rfl, ?_⟩
    rw [List.length_map, dec_nat, decide_eq_true rfl]
    refine iteT ⟨_, rfl, p, rfl, ⟨_, SqT.at hp⟩, fun D hD => lc_map (walk_tup (xs := rows.map rowV)) (fun _ => .bl true) hD (by simpa using (by omega : rows.length ≤ 100000)) (fun H' f => SqT.at (f.at hp)) (fun i x H1 H2 hi fr hy R S hR => ?_) (fun H' fr h => ?_)⟩
    · obtain ⟨rfl, hx⟩ := hy
      have hi' : i < rows.length := by simpa using hi
      rw [List.getElem?_map, List.getElem?_eq_getElem hi'] at hx
      have hx' := Option.some.inj hx
      subst hx'
      refine ⟨rfl, yesT ⟨_, rfl, _, rfl, _, n, rfl, .inl ⟨rows[i], ?_, rfl, fun H' f => ?_⟩⟩⟩
      · rw [hr2 _ (List.getElem_mem hi')]; exact hn
      · rw [hr2 _ (List.getElem_mem hi'), decide_eq_true rfl]
        exact hR _ f
    · rw [range_map_const] at h
      refine ⟨D, List.replicate (rows.map rowV).length true, rfl, ?_, ?_⟩
      · rw [List.map_replicate]
        exact SqL.at h
      · rw [all_rep]
        exact q _ fr
end
end BK
/-! Breakback k27: checks of blocks and breakers. -/
namespace BK
open PySem PySem.Spec PyProof.Rows L2 He
theorem iteFd {c : Bool} {A B : Prop} (h : c = false) (k : B) : if c = true then A else B := by
  subst h
  exact iteF k
theorem iteTd {c : Bool} {A B : Prop} (h : c = true) (k : A) : if c = true then A else B := by
  subst h
  exact iteT k
section
variable {P : Program} {w : World} {K : PySem.W.Frag} {mg : Str → Option Value} {base : Heap}
/-! is_truth -/
def spIsTruth : Sp := fun vs H Q _ => ∃ b : Bool, vs = [.bl b] ∧ Q (.bl true) H
theorem k_is_truth (F : Fx K w mg) : Kp P w K mg base 1 "is_truth" ["value"] spIsTruth := by
  refine kp_of F.d_is_truth F.g_is_truth sc_is_truth (fun _ _ _ _ _ _ us hl => match us, hl with | [_], _ => rfl) (fun vs H Q E h => ?_) (fun cdv A outer s H vs Q E hr h => ?_)
  · obtain ⟨b, rfl, _⟩ := h
    rfl
  · obtain ⟨b, rfl, q⟩ := h
    refine ⟨_, (pss_one (ps_ret (pe_callB call_isi (by rfl) F.b_isinstance (by decide +kernel) (pa_cons (pv 0) (pa_cons (pe_bltn (v := .ty "bool") rfl F.b_bool (by decide +kernel) rfl) pa_nil))))), ?_⟩
    exact ⟨_, rfl, _, _, _, _, _, rfl, .ty _, .base (.bl b), kt_bool_bool, q⟩
/-! is_function -/
structure IsFn (H : Hp) (a : Addr) (l : Nat) : Prop where
  at_ : ∃ r k0 k1 : Addr, ∃ rows0 rows1 : List Bs, H a = some (.tup [.str "function", .int 1, .int l, .int l, .ref r]) ∧ H r = some (.tup [.ref k0, .ref k1]) ∧
    H k0 = some (.tup (rows0.map rowV)) ∧ H k1 = some (.tup (rows1.map rowV)) ∧ rows0.length = 2 ^ l ∧ rows1.length = 2 ^ l ∧ (∀ y, y ∈ rows0 → y.length = l) ∧ ∀ y, y ∈ rows1 → y.length = l
def spIsFunction : Sp := fun vs H Q _ => ∃ (a : Addr) (l : Nat), vs = [.ref a] ∧ IsFn H a l ∧ 1 ≤ l ∧ l ≤ 2 ∧ ∀ H', Fr [] H H' → Q (.bl true) H'
theorem shl1 (l : Nat) : (1 : Int) * 2 ^ ((l : Nat) : Int).toNat = ((2 ^ l : Nat) : Int) := by
  rw [Int.one_mul, Int.toNat_natCast]
  simp
theorem k_is_function (F : Fx K w mg) : Kp P w K mg base 3 "is_function" ["block"] spIsFunction := by
  have k_is_number : Kp P w K mg base 1 _ _ _ := k_is_number F
  have k_is_row : Kp P w K mg base 2 _ _ _ := k_is_row F
  refine kp_of F.d_is_function F.g_is_function sc_is_function (fun _ _ _ _ _ _ us hl => match us, hl with | [_], _ => rfl) (fun vs H Q E h => ?_) (fun cdv A outer s H vs Q E hr h => ?_)
  · obtain ⟨a, l, rfl, _⟩ := h
    rfl
  · obtain ⟨a, l, rfl, ⟨r, k0, k1, rows0, rows1, ha, h_r, h0, h1, e0, e1, f0, f1⟩, l1, l2, q⟩ := h
    refine ⟨_, (pss_cons (ps_if (PW.pt (pw_or (pt_not (pt_val (pe_callB call_isi (by rfl) F.b_isinstance (by decide +kernel) (pa_cons (pv 0) (pa_cons (pe_bltn (v := .ty "tuple") rfl F.b_tuple (by decide +kernel) rfl) pa_nil))))) (pw_or (pt_cmpR op_ne (pe_callB call_len_seq (by rfl) F.b_len (by decide +kernel) (pa_cons (pv 0) pa_nil)) pe_int (nomark _)) (pw_or1 (pt_cmpR op_ne (pe_ix (r := rIxT K) ix_tup (pv 0) pe_int (fun _ _ => rfl)) pe_str (nomark _))))))
          (pss_one (ps_ret pe_bl))
          pss_nil)
        (pss_cons (ps_if (PW.pt (pw_or (pt_not (pt_val (pe_k k_is_number (hr.mono (by decide)) (pa_cons (pe_ix (r := rIxT K) ix_tup (pv 0) pe_int (fun _ _ => rfl)) (pa_cons pe_int (pa_cons pe_int pa_nil)))))) (pw_or (pt_not (pt_val (pe_k k_is_number (hr.mono (by decide)) (pa_cons (pe_ix (r := rIxT K) ix_tup (pv 0) pe_int (fun _ _ => rfl)) (pa_cons pe_int (pa_cons pe_int pa_nil)))))) (pw_or1 (pt_cmpR op_gt (pe_op op_add (pe_ix (r := rIxT K) ix_tup (pv 0) pe_int (fun _ _ => rfl)) (pe_ix (r := rIxT K) ix_tup (pv 0) pe_int (fun _ _ => rfl))) pe_int (nomark _))))))
          (pss_one (ps_ret pe_bl))
          pss_nil)
        (pss_cons (ps_if (PW.pt (pw_or (pt_not (pt_val (pe_k k_is_number (hr.mono (by decide)) (pa_cons (pe_ix (r := rIxT K) ix_tup (pv 0) pe_int (fun _ _ => rfl)) (pa_cons pe_int (pa_cons (pe_globI F.i_MOST_LENGTH) pa_nil)))))) (pw_or1 (pt_not (pt_val (pe_callB call_isi (by rfl) F.b_isinstance (by decide +kernel) (pa_cons (pe_ix (r := rIxT K) ix_tup (pv 0) pe_int (fun _ _ => rfl)) (pa_cons (pe_bltn (v := .ty "tuple") rfl F.b_tuple (by decide +kernel) rfl) pa_nil))))))))
          (pss_one (ps_ret pe_bl))
          pss_nil)
        (pss_one (ps_ret (pe_and (pe_cmpR op_eq (pe_callB call_len_seq (by rfl) F.b_len (by decide +kernel) (pa_cons (pe_ix (r := rIxT K) ix_tup (pv 0) pe_int (fun _ _ => rfl)) pa_nil)) (pe_op op_shl pe_int (pe_ix (r := rIxT K) ix_tup (pv 0) pe_int (fun _ _ => rfl))) (nomark _)) (pe_one (pe_callB (cr_all rfl) (by rfl) F.b_all (by decide +kernel) (pa_cons (pe_lc (own := [("one", 1)]) (g := gName 1) rfl sc_is_function.nd (pi_tup (pe_ix (r := rIxT K) ix_tup (pv 0) pe_int (fun _ _ => rfl))) (blkOk_by (own := [("one", 1)]) (N := N_is_function) (sc := defScope s_is_function) (by decide +kernel)) (fun _ _ _ _ _ => (pg_name (i := 1) sc_is_function.nd rfl (Or.inl rfl))) (fun _ _ _ _ _ => pts_nil) (fun _ _ _ _ _ => (pe_k k_is_row (hr.mono (by decide)) (pa_cons (pv 1) (pa_cons (pe_op op_shl pe_int (pe_ix (r := rIxT K) ix_tup (pv 0) pe_int (fun _ _ => rfl))) (pa_cons (pe_ix (r := rIxT K) ix_tup (pv 0) pe_int (fun _ _ => rfl)) pa_nil)))))) pa_nil))))))))), ?_⟩
    refine ⟨_, rfl, _, _, _, _, _, rfl, .ty _, .base (.tup ha), kt_tup_tup, _, rfl, iteFd rfl ?_⟩
    refine ⟨_, rfl, a, _, rfl, .inr (SqT.at ha), rfl, _, rfl, iteFd rfl ?_⟩
    refine ⟨_, rfl, a, _, 0, _, rfl, rfl, SqT.at ha, atI_nat (j := 0) rfl, rfl, _, rfl, iteFd (by simp) ?_⟩
    refine ⟨_, rfl, a, _, 1, _, rfl, rfl, SqT.at ha, atI_nat (j := 1) rfl, _, _, _, rfl, .inl ⟨1, rfl, _, rfl, iteFd rfl ?_⟩⟩
    refine ⟨_, rfl, a, _, 2, _, rfl, rfl, SqT.at ha, atI_nat (j := 2) rfl, _, _, _, rfl, .inl ⟨l, rfl, _, rfl, iteFd ?_ ?_⟩⟩
    · have h1 : (1 : Int) ≤ l := by omega
      have h2 : (l : Int) ≤ 8 := by omega
      simp [h1, h2]
    refine ⟨_, rfl, a, _, 1, _, rfl, rfl, SqT.at ha, atI_nat (j := 1) rfl, _, rfl, a, _, 2, _, rfl, rfl, SqT.at ha, atI_nat (j := 2) rfl, _, _, rfl, rfl, _, _, rfl, rfl, _, rfl, iteFd ?_ ?_⟩
    · have h1 : ¬ (12 : Int) < 1 + l := by omega
      simp [h1]
    refine ⟨_, rfl, a, _, 3, _, rfl, rfl, SqT.at ha, atI_nat (j := 3) rfl, _, _, _, rfl, .inl ⟨l, rfl, _, rfl, iteFd ?_ ?_⟩⟩
    · have h1 : (1 : Int) ≤ l := by omega
      have h2 : (l : Int) ≤ 40 := by omega
      simp [h1, h2]
    refine ⟨_, rfl, a, _, 4, _, rfl, rfl, SqT.at ha, atI_nat (j := 4) rfl, _, _, _, _, _, rfl, .ty _, .base (.tup h_r), kt_tup_tup, _, rfl, iteFd rfl ?_⟩
    refine ⟨_, rfl, a, _, 4, _, rfl, rfl, SqT.at ha, atI_nat (j := 4) rfl, r, _, rfl, .inr (SqT.at h_r), _, rfl, a, _, 1, _, rfl, rfl, SqT.at ha, atI_nat (j := 1) rfl, _, _, rfl, rfl, ⟨by decide, by decide, by decide⟩, rfl, _, rfl, iteTd rfl ?_⟩
    refine ⟨_, rfl, a, _, 4, _, rfl, rfl, SqT.at ha, atI_nat (j := 4) rfl, r, rfl, ⟨_, SqT.at h_r⟩, fun D hD => lc_map (walk_tup (xs := [.ref k0, .ref k1])) (fun _ => .bl true) hD (by simp) (fun H' f => SqT.at (f.at h_r)) (fun i x H1 H2 hi fr hy R S hR => ?_) (fun H' fr h => ?_)⟩
    · obtain ⟨rfl, hx⟩ := hy
      have ha2 := fr.at ha
      have key : ∃ (k : Addr) (rows : List Bs), x = .ref k ∧ H2 k = some (.tup (rows.map rowV)) ∧ rows.length = 2 ^ l ∧ ∀ y, y ∈ rows → y.length = l := by
        match i, hi with
        | 0, _ => exact ⟨k0, rows0, (Option.some.inj hx).symm, fr.at h0, e0, f0⟩
        | 1, _ => exact ⟨k1, rows1, (Option.some.inj hx).symm, fr.at h1, e1, f1⟩
      obtain ⟨k, rows, rfl, hk, ek, fk⟩ := key
      refine ⟨rfl, yesT ⟨_, rfl, _, rfl, a, _, 2, _, rfl, rfl, SqT.at ha2, atI_nat (j := 2) rfl, _, _, rfl, rfl, ⟨by omega, by omega, by decide⟩, _, rfl, a, _, 3, _, rfl, rfl, SqT.at ha2, atI_nat (j := 3) rfl, k, rows, l, ?_, hk, ?_, by omega, fk, fun H' f => hR _ f⟩⟩
      · show [V.ref k, V.int ((1 : Int) * 2 ^ ((l : Nat) : Int).toNat), V.int (l : Int)] = _
        rw [shl1, ek]
      · rw [ek]
        have : l = 1 ∨ l = 2 := by omega
        rcases this with rfl | rfl <;> decide
    · rw [range_map_const] at h
      refine ⟨D, List.replicate 2 true, rfl, ?_, ?_⟩
      · rw [List.map_replicate]
        exact SqL.at h
      · rw [all_rep]
        exact q _ fr
/-! are_parts -/
def spAreParts : Sp := fun vs H Q _ => ∃ (p : Addr) (ps : List Pt), vs = [.ref p] ∧ H p = some (.tup (ps.map ptV)) ∧ PtsOk ps ∧ ∀ H', Fr [] H H' → Q (.bl true) H'
theorem k_are_parts (F : Fx K w mg) : Kp P w K mg base 2 "are_parts" ["value"] spAreParts := by
  have k_is_number : Kp P w K mg base 1 _ _ _ := k_is_number F
  have k_is_bits : Kp P w K mg base 1 _ _ _ := k_is_bits F
  refine kp_of F.d_are_parts F.g_are_parts sc_are_parts (fun _ _ _ _ _ _ us hl => match us, hl with | [_], _ => rfl) (fun vs H Q E h => ?_) (fun cdv A outer s H vs Q E hr h => ?_)
  · obtain ⟨p, ps, rfl, _⟩ := h
    rfl
  · obtain ⟨p, ps, rfl, hp, ⟨hl, hok⟩, q⟩ := h
    refine ⟨_, (pss_cons (ps_if (pt_not (pt_val (pe_callB call_isi (by rfl) F.b_isinstance (by decide +kernel) (pa_cons (pv 0) (pa_cons (pe_bltn (v := .ty "tuple") rfl F.b_tuple (by decide +kernel) rfl) pa_nil)))))
          (pss_one (ps_ret pe_bl))
          pss_nil)
        (pss_cons (ps_for PassesOwn.never rfl (pi_tup (pv 0)) (pg_name (i := 1) sc_are_parts.nd rfl (Or.inl rfl))
          (pss_one (ps_if (PW.pt (pw_and (pt_not (pt_val (pe_k k_is_bits (hr.mono (by decide)) (pa_cons (pv 1) (pa_cons pe_int pa_nil))))) (pw_and1 (pt_not (pt_val (pe_k k_is_number (hr.mono (by decide)) (pa_cons (pv 1) (pa_cons pe_int (pa_cons (pe_globI F.i_MOST_BIT) pa_nil)))))))))
            (pss_one (ps_ret pe_bl))
            pss_nil)))
        (pss_one (ps_ret pe_bl)))), ?_⟩
    refine ⟨_, rfl, _, _, _, _, _, rfl, .ty _, .base (.tup hp), kt_tup_tup, _, rfl, iteFd rfl ?_⟩
    refine ⟨_, rfl, p, rfl, ⟨_, SqT.at hp⟩, for_tup (xs := ps.map ptV) (fun i σ H' => Fr [] H H' ∧ ∃ y, σ = [some (.ref p), y]) ⟨Fr.refl _ _, none, rfl⟩ (fun i σ H' _ h => SqT.at (h.1.at hp)) (fun i x σ H' hx h => ?_) (fun σ H' h => q H' h.1)⟩
    obtain ⟨fr, y, rfl⟩ := h
    rw [List.getElem?_map] at hx
    cases hi : ps[i]? with
    | none => rw [hi] at hx; cases hx
    | some pt =>
      rw [hi] at hx
      have hx' := Option.some.inj hx
      subst hx'
      have hm := hok pt (List.mem_of_getElem? hi)
      cases pt with
      | sg b =>
        refine ⟨_, rfl, _, 1, rfl, .inl ⟨[b], by simp, rfl, fun H1 f => ⟨_, rfl, iteFd rfl ?_⟩⟩⟩
        exact iteFd rfl ⟨fr.trans f, _, rfl⟩
      | nm n =>
        refine ⟨_, rfl, _, 1, rfl, .inr ⟨n, rfl, _, rfl, iteTd rfl ?_⟩⟩
        refine ⟨_, rfl, _, _, _, rfl, .inl ⟨n, rfl, _, rfl, iteFd ?_ ⟨fr, _, rfl⟩⟩⟩
        have h1 : (0 : Int) ≤ n := by omega
        have h2 : (n : Int) ≤ 9999 := by have : n ≤ 9999 := hm; omega
        simp [h1, h2]
/-! has_plain_word -/
def spHasWord : Sp := fun vs H Q _ => ∃ (v : V) (b : B), vs = [v] ∧ IsB H v b ∧ Q (.bl true) H
theorem IsB.word {H : Hp} {v : V} {b : B} (h : IsB H v b) : ∃ (a : Addr) (z : Str) (r : List V), v = .ref a ∧ H a = some (.tup (.str z :: r)) ∧ (z = ("say" : Str) ∨ z = ("toss" : Str) ∨ z = ("look" : Str) ∨ z = ("ask" : Str)) := by
  cases b with
  | say ps => obtain ⟨a, p, e, h1, _⟩ := h; exact ⟨a, _, _, e, h1, .inl rfl⟩
  | toss n f => obtain ⟨a, p, xs, e, h1, _⟩ := h; exact ⟨a, _, _, e, h1, .inr (.inl rfl)⟩
  | look n b c => obtain ⟨a, x, y, e, h1, _⟩ := h; exact ⟨a, _, _, e, h1, .inr (.inr (.inl rfl))⟩
  | ask ps b => obtain ⟨a, p, x, e, h1, _⟩ := h; exact ⟨a, _, _, e, h1, .inr (.inr (.inr rfl))⟩
theorem inW1 : inV (.str "say") [.str "say", .str "toss", .str "look", .str "ask"] = true := by decide +kernel
theorem inW2 : inV (.str "toss") [.str "say", .str "toss", .str "look", .str "ask"] = true := by decide +kernel
theorem inW3 : inV (.str "look") [.str "say", .str "toss", .str "look", .str "ask"] = true := by decide +kernel
theorem inW4 : inV (.str "ask") [.str "say", .str "toss", .str "look", .str "ask"] = true := by decide +kernel
theorem k_has_plain_word (F : Fx K w mg) : Kp P w K mg base 1 "has_plain_word" ["value"] spHasWord := by
  refine kp_of F.d_has_plain_word F.g_has_plain_word sc_has_plain_word (fun _ _ _ _ _ _ us hl => match us, hl with | [_], _ => rfl) (fun vs H Q E h => ?_) (fun cdv A outer s H vs Q E hr h => ?_)
  · obtain ⟨v, b, rfl, _⟩ := h
    rfl
  · obtain ⟨v, b, rfl, hb, q⟩ := h
    obtain ⟨a, z, r, rfl, ha, hz⟩ := hb.word
    refine ⟨_, (pss_one (ps_ret (pe_and (pe_callB call_isi (by rfl) F.b_isinstance (by decide +kernel) (pa_cons (pv 0) (pa_cons (pe_bltn (v := .ty "tuple") rfl F.b_tuple (by decide +kernel) rfl) pa_nil))) (pe_and (pe_cmpR op_gt (pe_callB call_len_seq (by rfl) F.b_len (by decide +kernel) (pa_cons (pv 0) pa_nil)) pe_int (nomark _)) (pe_and (pe_callB call_isi (by rfl) F.b_isinstance (by decide +kernel) (pa_cons (pe_ix (r := rIxT K) ix_tup (pv 0) pe_int (fun _ _ => rfl)) (pa_cons (pe_bltn (v := .ty "str") rfl F.b_str (by decide +kernel) rfl) pa_nil))) (pe_one (pe_cmpR (r := rIn K false) op_in_seq (pe_ix (r := rIxT K) ix_tup (pv 0) pe_int (fun _ _ => rfl)) (pe_glob (v := .ref (ga K "PLAIN_WORDS")) rfl F.g_PLAIN_WORDS rfl) (by rfl)))))))), ?_⟩
    refine ⟨_, rfl, _, _, _, _, _, rfl, .ty _, .base (.tup ha), kt_tup_tup, _, rfl, iteT ?_⟩
    refine ⟨_, rfl, a, _, rfl, .inr (SqT.at ha), _, _, rfl, rfl, _, rfl, iteTd ?_ ?_⟩
    · have : (0 : Int) < ((V.str z :: r).length : Int) := by rw [List.length_cons]; omega
      exact decide_eq_true this
    refine ⟨_, rfl, a, _, 0, _, rfl, rfl, SqT.at ha, atI_nat (j := 0) rfl, _, _, _, _, _, rfl, .ty _, .base (.str z), kt_str_str, _, rfl, iteT ?_⟩
    refine ⟨_, rfl, a, _, 0, _, rfl, rfl, SqT.at ha, atI_nat (j := 0) rfl, _, _, rfl, .inr (F.t_PLAIN_WORDS _), rfl, rfl, ?_⟩
    rcases hz with rfl | rfl | rfl | rfl
    · rw [inW1]; exact q
    · rw [inW2]; exact q
    · rw [inW3]; exact q
    · rw [inW4]; exact q
end
end BK
/-! Breakback k27: check_breaker, check_game. -/
namespace BK
open PySem PySem.Spec PyProof.Rows L2 He
theorem paired_ix {α β : Type} {F : α → β → Prop} : ∀ {xs : List α} {ys : List β}, xs.length = ys.length → (∀ (i : Nat) x y, xs[i]? = some x → ys[i]? = some y → F x y) → Paired F xs ys
  | [], [], _, _ => .nil
  | [], _ :: _, h, _ => by simp at h
  | _ :: _, [], h, _ => by simp at h
  | x :: xs, y :: ys, h, k => .cons (k 0 x y rfl rfl) (paired_ix (by simpa using h) fun i a b ha hb => k (i + 1) a b (by simpa using ha) (by simpa using hb))
theorem kidsP {H : Hp} {xs : List V} {n : Nat} {f : Nat → B} (hl : xs.length = n) (h : ∀ i, i < n → ∃ x, xs[i]? = some x ∧ IsB H x (f i)) : Paired (IsB H) xs ((List.range n).map f) := by
  refine paired_ix (by simp [hl]) fun i x y hx hy => ?_
  rw [List.getElem?_map] at hy
  by_cases hi : i < n
  · rw [List.getElem?_range hi] at hy
    have e : f i = y := Option.some.inj hy
    subst e
    obtain ⟨x', h1, h2⟩ := h i hi
    rw [hx] at h1
    cases h1
    exact h2
  · have : xs[i]? = none := List.getElem?_eq_none_iff.mpr (by omega)
    rw [this] at hx
    cases hx
theorem cutV1 (x : V) (r : List V) : cutV (x :: r) (some 1) none = r := by
  unfold cutV
  rw [show HT.sIx (x :: r).length 0 (some 1) = min 1 (x :: r).length from HT.sIx_nat (x :: r).length 0 1, HT.sIx_none]
  rw [show min 1 (x :: r).length = 1 by rw [List.length_cons]; omega]
  simp
theorem sIx1 (x : V) (r : List V) : HT.sIx (x :: r).length 0 (some 1) ≠ 0 := by
  rw [show HT.sIx (x :: r).length 0 (some 1) = min 1 (x :: r).length from HT.sIx_nat (x :: r).length 0 1, List.length_cons]
  omega
theorem d_say_say : decide (V.str "say" = V.str "say") = true := by decide +kernel
theorem d_toss_say : decide (V.str "toss" = V.str "say") = false := by decide +kernel
theorem d_toss_toss : decide (V.str "toss" = V.str "toss") = true := by decide +kernel
theorem d_look_say : decide (V.str "look" = V.str "say") = false := by decide +kernel
theorem d_look_toss : decide (V.str "look" = V.str "toss") = false := by decide +kernel
theorem d_look_look : decide (V.str "look" = V.str "look") = true := by decide +kernel
theorem d_ask_say : decide (V.str "ask" = V.str "say") = false := by decide +kernel
theorem d_ask_toss : decide (V.str "ask" = V.str "toss") = false := by decide +kernel
theorem d_ask_look : decide (V.str "ask" = V.str "look") = false := by decide +kernel
theorem d_ask_ask : decide (V.str "ask" = V.str "ask") = true := by decide +kernel
section
variable {P : Program} {w : World} {K : PySem.W.Frag} {mg : Str → Option Value} {base : Heap}
/-! inner_plain -/
def spInner : Sp := fun vs H Q _ => ∃ (v : V) (b : B) (d : Nat), vs = [v] ∧ IsB H v b ∧ Wf d b ∧ ∀ H' p xs, Fr [] H H' → H' p = some (.tup xs) → Paired (IsB H') xs (kids b) → Q (.ref p) H'
theorem k_inner_plain (F : Fx K w mg) : Kp P w K mg base 3 "inner_plain" ["breaker"] spInner := by
  have k_is_number : Kp P w K mg base 1 _ _ _ := k_is_number F
  have k_are_parts : Kp P w K mg base 2 _ _ _ := k_are_parts F
  refine kp_of F.d_inner_plain F.g_inner_plain sc_inner_plain (fun _ _ _ _ _ _ us hl => match us, hl with | [_], _ => rfl) (fun vs H Q E h => ?_) (fun cdv A outer s H vs Q E hr h => ?_)
  · obtain ⟨v, b, d, rfl, _⟩ := h
    rfl
  · obtain ⟨v, b, d, rfl, hb, wf, q⟩ := h
    obtain ⟨a, z, r, rfl, ha, hz⟩ := hb.word
    refine ⟨_, (pss_cons (ps_if (PW.pt (pw_and (pt_val (pe_callB call_isi (by rfl) F.b_isinstance (by decide +kernel) (pa_cons (pv 0) (pa_cons (pe_bltn (v := .ty "tuple") rfl F.b_tuple (by decide +kernel) rfl) pa_nil)))) (pw_and (pt_cmpR op_gt (pe_callB call_len_seq (by rfl) F.b_len (by decide +kernel) (pa_cons (pv 0) pa_nil)) pe_int (nomark _)) (pw_and1 (pt_val (pe_callB call_isi (by rfl) F.b_isinstance (by decide +kernel) (pa_cons (pe_ix (r := rIxT K) ix_tup (pv 0) pe_int (fun _ _ => rfl)) (pa_cons (pe_bltn (v := .ty "str") rfl F.b_str (by decide +kernel) rfl) pa_nil))))))))
          (pss_cons (ps_par (i := 1) (j := 2) (by rfl) sc_inner_plain.nd rfl rfl (by decide) rfl rfl (pa_cons (pe_ix (r := rIxT K) ix_tup (pv 0) pe_int (fun _ _ => rfl)) (pa_cons (pe_slice sl_tupA (pv 0) (po_some pe_int) po_none) pa_nil)) (by rfl))
          (pss_cons (ps_if (PW.pt (pw_and (pt_cmpR op_eq (pv 1) pe_str (nomark _)) (pw_and (pt_cmpR op_eq (pe_callB call_len_seq (by rfl) F.b_len (by decide +kernel) (pa_cons (pv 2) pa_nil)) pe_int (nomark _)) (pw_and1 (pt_val (pe_k k_are_parts (hr.mono (by decide)) (pa_cons (pe_ix (r := rIxT K) ix_tup (pv 2) pe_int (fun _ _ => rfl)) pa_nil)))))))
            (pss_one (ps_ret (pe_tup pa_nil)))
            pss_nil)
          (pss_cons (ps_if (PW.pt (pw_and (pt_cmpR op_eq (pv 1) pe_str (nomark _)) (pw_and (pt_cmpR op_eq (pe_callB call_len_seq (by rfl) F.b_len (by decide +kernel) (pa_cons (pv 2) pa_nil)) pe_int (nomark _)) (pw_and (pt_val (pe_callB call_isi (by rfl) F.b_isinstance (by decide +kernel) (pa_cons (pe_ix (r := rIxT K) ix_tup (pv 2) pe_int (fun _ _ => rfl)) (pa_cons (pe_bltn (v := .ty "tuple") rfl F.b_tuple (by decide +kernel) rfl) pa_nil)))) (pw_and1 (pt_chain op_le op_le pe_int (pe_callB call_len_seq (by rfl) F.b_len (by decide +kernel) (pa_cons (pe_ix (r := rIxT K) ix_tup (pv 2) pe_int (fun _ _ => rfl)) pa_nil)) (pe_globI F.i_MOST_TOSSED)))))))
            (pss_one (ps_ret (pe_ix (r := rIxT K) ix_tup (pv 2) pe_int (fun _ _ => rfl))))
            pss_nil)
          (pss_cons (ps_if (PW.pt (pw_and (pt_cmpR op_eq (pv 1) pe_str (nomark _)) (pw_and (pt_cmpR op_eq (pe_callB call_len_seq (by rfl) F.b_len (by decide +kernel) (pa_cons (pv 2) pa_nil)) pe_int (nomark _)) (pw_and1 (pt_val (pe_k k_is_number (hr.mono (by decide)) (pa_cons (pe_ix (r := rIxT K) ix_tup (pv 2) pe_int (fun _ _ => rfl)) (pa_cons pe_int (pa_cons (pe_globI F.i_MOST_BIT) pa_nil)))))))))
            (pss_one (ps_ret (pe_slice sl_tupA (pv 2) (po_some pe_int) po_none)))
            pss_nil)
          (pss_one (ps_if (PW.pt (pw_and (pt_cmpR op_eq (pv 1) pe_str (nomark _)) (pw_and (pt_cmpR op_eq (pe_callB call_len_seq (by rfl) F.b_len (by decide +kernel) (pa_cons (pv 2) pa_nil)) pe_int (nomark _)) (pw_and1 (pt_val (pe_k k_are_parts (hr.mono (by decide)) (pa_cons (pe_ix (r := rIxT K) ix_tup (pv 2) pe_int (fun _ _ => rfl)) pa_nil)))))))
            (pss_one (ps_ret (pe_slice sl_tupA (pv 2) (po_some pe_int) po_none)))
            pss_nil))))))
          pss_nil)
        (pss_one ps_never)), ?_⟩
    refine ⟨_, rfl, _, _, _, _, _, rfl, .ty _, .base (.tup ha), kt_tup_tup, _, rfl, iteT ?_⟩
    refine ⟨_, rfl, a, _, rfl, .inr (SqT.at ha), _, _, rfl, rfl, _, rfl, iteTd ?_ ?_⟩
    · have : (0 : Int) < ((V.str z :: r).length : Int) := by rw [List.length_cons]; omega
      exact decide_eq_true this
    refine ⟨_, rfl, a, _, 0, _, rfl, rfl, SqT.at ha, atI_nat (j := 0) rfl, _, _, _, _, _, rfl, .ty _, .base (.str z), kt_str_str, _, rfl, iteT ?_⟩
    refine ⟨_, rfl, a, _, 0, _, rfl, rfl, SqT.at ha, atI_nat (j := 0) rfl, _, rfl, 1, rfl, a, _, rfl, SqT.at ha, fun e => absurd e.1 (sIx1 _ _), fun _ t nt => ?_⟩
    rw [cutV1]
    have fr : Fr [] H (upd H t (.tup r)) := Fr.new nt
    have ht : (upd H t (.tup r)) t = some (.tup r) := upd_same
    have hb2 := hb.fr fr
    generalize upd H t (.tup r) = H1 at fr ht hb2
    refine ⟨_, _, rfl, ?_⟩
    cases b with
    | say ps =>
      obtain ⟨a', p, e, h1, h2⟩ := hb2
      cases e
      rw [fr.at ha] at h1
      cases h1
      refine ⟨_, rfl, rfl, _, rfl, iteTd d_say_say ?_⟩
      refine ⟨_, rfl, t, _, rfl, .inr (SqT.at ht), rfl, _, rfl, iteTd rfl ?_⟩
      refine ⟨_, rfl, t, _, 0, _, rfl, rfl, SqT.at ht, atI_nat (j := 0) rfl, p, ps, rfl, h2, wf, fun H2 f2 => ⟨_, rfl, iteT ?_⟩⟩
      refine ⟨by decide, fun u nu => q _ u [] ((fr.trans f2).trans (Fr.new nu)) upd_same .nil⟩
    | toss n f =>
      obtain ⟨a', p, xs, e, h1, h2, h3, h4⟩ := hb2
      cases e
      rw [fr.at ha] at h1
      cases h1
      obtain ⟨e', rfl, w1, w2, w3⟩ := wf
      refine ⟨_, rfl, rfl, _, rfl, iteFd d_toss_say (iteF ?_)⟩
      refine ⟨_, rfl, rfl, _, rfl, iteTd d_toss_toss ?_⟩
      refine ⟨_, rfl, t, _, rfl, .inr (SqT.at ht), rfl, _, rfl, iteTd rfl ?_⟩
      refine ⟨_, rfl, t, _, 0, _, rfl, rfl, SqT.at ht, atI_nat (j := 0) rfl, _, _, _, _, _, rfl, .ty _, .base (.tup h2), kt_tup_tup, _, rfl, iteT ?_⟩
      refine ⟨_, rfl, t, _, 0, _, rfl, rfl, SqT.at ht, atI_nat (j := 0) rfl, p, _, rfl, .inr (SqT.at h2), _, _, rfl, rfl, _, rfl, iteTd ?_ ?_⟩
      · exact decide_eq_true (by omega)
      refine ⟨_, _, rfl, rfl, _, rfl, iteTd ?_ ?_⟩
      · exact decide_eq_true (by omega)
      refine ⟨_, rfl, t, _, 0, _, rfl, rfl, SqT.at ht, atI_nat (j := 0) rfl, q _ p xs fr h2 (kidsP h3 h4)⟩
    | look n b c =>
      obtain ⟨a', x, y, e, h1, h2, h3⟩ := hb2
      cases e
      rw [fr.at ha] at h1
      cases h1
      obtain ⟨e', rfl, w1, w2, w3⟩ := wf
      refine ⟨_, rfl, rfl, _, rfl, iteFd d_look_say (iteF ?_)⟩
      refine ⟨_, rfl, rfl, _, rfl, iteFd d_look_toss (iteF ?_)⟩
      refine ⟨_, rfl, rfl, _, rfl, iteTd d_look_look ?_⟩
      refine ⟨_, rfl, t, _, rfl, .inr (SqT.at ht), rfl, _, rfl, iteTd rfl ?_⟩
      refine ⟨_, rfl, t, _, 0, _, rfl, rfl, SqT.at ht, atI_nat (j := 0) rfl, _, _, _, rfl, .inl ⟨n, rfl, _, rfl, iteTd ?_ ?_⟩⟩
      · have h1 : (0 : Int) ≤ n := by omega
        have h2 : (n : Int) ≤ 9999 := by omega
        simp [h1, h2]
      refine ⟨_, rfl, 1, rfl, t, _, rfl, SqT.at ht, fun e => absurd e.1 (sIx1 _ _), fun _ u nu => ?_⟩
      rw [cutV1]
      have f2 : Fr [] H1 (upd H1 u (.tup [x, y])) := Fr.new nu
      exact q _ u [x, y] (fr.trans f2) upd_same (.cons (h2.fr f2) (.cons (h3.fr f2) .nil))
    | ask ps b =>
      obtain ⟨a', p, x, e, h1, h2, h3⟩ := hb2
      cases e
      rw [fr.at ha] at h1
      cases h1
      obtain ⟨e', rfl, w1, w2⟩ := wf
      refine ⟨_, rfl, rfl, _, rfl, iteFd d_ask_say (iteF ?_)⟩
      refine ⟨_, rfl, rfl, _, rfl, iteFd d_ask_toss (iteF ?_)⟩
      refine ⟨_, rfl, rfl, _, rfl, iteFd d_ask_look (iteF ?_)⟩
      refine ⟨_, rfl, rfl, _, rfl, iteTd d_ask_ask ?_⟩
      refine ⟨_, rfl, t, _, rfl, .inr (SqT.at ht), rfl, _, rfl, iteTd rfl ?_⟩
      refine ⟨_, rfl, t, _, 0, _, rfl, rfl, SqT.at ht, atI_nat (j := 0) rfl, p, ps, rfl, h2, w1, fun H2 f2 => ⟨_, rfl, iteT ?_⟩⟩
      refine ⟨_, rfl, 1, rfl, t, _, rfl, SqT.at (f2.at ht), fun e => absurd e.1 (sIx1 _ _), fun _ u nu => ?_⟩
      rw [cutV1]
      have f3 : Fr [] H2 (upd H2 u (.tup [x])) := Fr.new nu
      exact q _ u [x] ((fr.trans f2).trans f3) upd_same (.cons (h3.fr (f2.trans f3)) .nil)
/-! check_plain -/
def IsT (H : Hp) (u : V) (x : B × Nat) : Prop := ∃ (t : Addr) (v : V), u = .ref t ∧ H t = some (.tup [v, .int x.2]) ∧ IsB H v x.1
theorem IsT.fr {M : List Addr} {H H' : Hp} {u : V} {x : B × Nat} (h : IsT H u x) (f : Fr M H H') : IsT H' u x := by
  obtain ⟨t, v, e, h1, h2⟩ := h
  exact ⟨t, v, e, f.2 _ _ h1, h2.fr f⟩
theorem Paired.get {α β : Type} {F : α → β → Prop} : ∀ {xs : List α} {ys : List β} {i : Nat} {x : α} {y : β}, Paired F xs ys → xs[i]? = some x → ys[i]? = some y → F x y
  | _, _, _, _, _, .nil, h, _ => by simp at h
  | _, _, 0, _, _, .cons r _, h, k => by
    simp at h k
    subst h k
    exact r
  | _, _, i + 1, _, _, .cons _ t, h, k => Paired.get (i := i) t (by simpa using h) (by simpa using k)
theorem paired_app {α β : Type} {F : α → β → Prop} : ∀ {xs xs2 : List α} {ys ys2 : List β}, Paired F xs ys → Paired F xs2 ys2 → Paired F (xs ++ xs2) (ys ++ ys2)
  | _, _, _, _, .nil, h => h
  | _, _, _, _, .cons r t, h => .cons r (paired_app t h)
theorem paired_map {α β : Type} {F G : α → β → Prop} (h : ∀ a b, F a b → G a b) : ∀ {xs : List α} {ys : List β}, Paired F xs ys → Paired G xs ys
  | _, _, .nil => .nil
  | _, _, .cons r t => .cons (h _ _ r) (paired_map h t)
theorem paired_snoc {α β : Type} {F : α → β → Prop} {xs : List α} {ys : List β} (h : Paired F xs ys) (hn : 0 < xs.length) : ∃ xs' x ys' y, xs = xs' ++ [x] ∧ ys = ys' ++ [y] ∧ Paired F xs' ys' ∧ F x y := by
  induction h with
  | nil => simp at hn
  | @cons a b l1 l2 r t ih =>
    by_cases h0 : 0 < l1.length
    · obtain ⟨xs', x, ys', y, e1, e2, h1, h2⟩ := ih h0
      exact ⟨a :: xs', x, b :: ys', y, by rw [e1]; rfl, by rw [e2]; rfl, .cons r h1, h2⟩
    · have e1 : l1 = [] := List.length_eq_zero_iff.mp (by omega)
      have e2 : l2 = [] := List.length_eq_zero_iff.mp (by have := Paired.length t; omega)
      subst e1 e2
      exact ⟨[], a, [], b, rfl, rfl, .nil, r⟩
def sB (bs : List (B × Nat)) : Nat := (bs.map fun x => bsz x.1).sum
theorem sB_app (a b : List (B × Nat)) : sB (a ++ b) = sB a + sB b := by simp [sB]
theorem sB_kids (b : B) (d : Nat) : sB ((kids b).map fun c => (c, d)) + (kids b).length = bsz b := by
  rw [bsz_kids b, sB, List.map_map]
  induction kids b with
  | nil => rfl
  | cons c r ih =>
    simp only [List.map_cons, List.sum_cons, List.length_cons, Function.comp_apply] at ih ⊢
    omega
def spCheckPlain : Sp := fun vs H Q _ => ∃ (v : V) (b : B) (d : Nat), vs = [v] ∧ IsB H v b ∧ Wf d b ∧ d ≤ 3 ∧ ∀ H', Fr [] H H' → Q .non H'
theorem bdd_le {d : Nat} (h : d ≤ 3) : bdd d ≤ 1884 := by
  match d, h with
  | 0, _ => decide
  | 1, _ => decide
  | 2, _ => decide
  | 3, _ => decide
theorem k_check_plain (F : Fx K w mg) : Kp P w K mg base 4 "check_plain" ["breaker"] spCheckPlain := by
  have k_inner_plain : Kp P w K mg base 3 _ _ _ := k_inner_plain F
  refine kp_of F.d_check_plain F.g_check_plain sc_check_plain (fun _ _ _ _ _ _ us hl => match us, hl with | [_], _ => rfl) (fun vs H Q E h => ?_) (fun cdv A outer s H vs Q E hr h => ?_)
  · obtain ⟨v, b, d, rfl, _⟩ := h
    rfl
  · obtain ⟨v, b, d, rfl, hb, wf, hd, q⟩ := h
    have hN : bsz b ≤ 1884 := Nat.le_trans (bsz_le wf) (bdd_le hd)
    refine ⟨_, (pss_cons (ps_set (i := 1) sc_check_plain.nd rfl (Or.inl rfl) (pe_lst (pa_cons (pe_tup (pa_cons (pv 0) (pa_cons pe_int pa_nil))) pa_nil)))
        (pss_cons (ps_set (i := 2) sc_check_plain.nd rfl (Or.inl rfl) pe_int)
        (pss_one (ps_while PassesOwn.never (pt_cmpR op_gt (pe_callB call_len_seq (by rfl) F.b_len (by decide +kernel) (pa_cons (pv 1) pa_nil)) pe_int (nomark _))
          (pss_cons (ps_asg (pe_bm0 PySem.F.plainAttrs_list PySem.F.slot_list_pop PySem.F.type_list_pop mt_pop (pv 1)) (pg_tupK (K := K) (n := 2) (by rfl) (pgs_cons (pg_name (i := 3) sc_check_plain.nd rfl (Or.inl rfl)) (pgs_cons (pg_name (i := 4) sc_check_plain.nd rfl (Or.inr rfl)) pgs_nil))))
          (pss_cons (ps_set (i := 5) sc_check_plain.nd rfl (Or.inl rfl) (pe_k k_inner_plain (hr.mono (by decide)) (pa_cons (pv 3) pa_nil)))
          (pss_cons (ps_aug (i := 2) sc_check_plain.nd rfl (Or.inl rfl) (pe_callB call_len_seq (by rfl) F.b_len (by decide +kernel) (pa_cons (pv 5) pa_nil)) ip_add)
          (pss_cons (ps_if (PW.pt (pw_or (pt_cmpR op_gt (pv 4) (pe_globI F.i_MOST_DEPTH) (nomark _)) (pw_or1 (pt_cmpR op_gt (pv 2) (pe_globI F.i_MOST_WITHIN) (nomark _)))))
            (pss_one ps_never)
            pss_nil)
          (pss_one (ps_expr (pe_bm PySem.F.plainAttrs_list PySem.F.slot_list_extend PySem.F.type_list_extend mt_extend (pv 1) (pa_cons (pe_lc (own := [("other", 6)]) (g := gName 6) rfl sc_check_plain.nd (pi_tup (pv 5)) (blkOk_by (own := [("other", 6)]) (N := N_check_plain) (sc := defScope s_check_plain) (by decide +kernel)) (fun _ _ _ _ _ => (pg_name (i := 6) sc_check_plain.nd rfl (Or.inl rfl))) (fun _ _ _ _ _ => pts_nil) (fun _ _ _ _ _ => (pe_tup (pa_cons (pv 6) (pa_cons (pe_op op_add (pv 4) pe_int) pa_nil))))) pa_nil)))))))))))), ?_⟩
    refine ⟨_, rfl, sz (by simp), fun t nt => ⟨sz (by simp), fun l nl => ?_⟩⟩
    have f1 : Fr [] H (upd H t (.tup [v, .int 1])) := Fr.new nt
    have nl0 : H l = none := f1.free nl
    refine ⟨fun m σ H' => ∃ (ws : List V) (bs : List (B × Nat)) (k : Nat) (y3 y4 y5 y6 : Option V), σ = [some v, some (.ref l), some (.int k), y3, y4, y5, y6] ∧ Fr [] H H' ∧ H' l = some (.lst ws) ∧ Paired (IsT H') ws bs ∧
      (∀ x, x ∈ bs → ∃ e, Wf e x.1 ∧ x.2 + e ≤ 60) ∧ k + sB bs = bsz b ∧ m = sB bs + bs.length ∧ m ≤ 1885, ⟨_, [.ref t], [(b, 1)], 0, none, none, none, none, rfl, f1.own nl0, upd_same, ?_, ?_, ?_, rfl, ?_⟩, ?_⟩
    · refine .cons ⟨t, v, rfl, ?_, hb.fr (f1.own nl0)⟩ .nil
      rw [upd_ne (ne_of_none upd_same nl)]
      exact upd_same
    · intro x hx
      have e : x = (b, 1) := by simpa using hx
      subst e
      exact ⟨d, wf, by show 1 + d ≤ 60; omega⟩
    · simp [sB]
    · simp [sB]; omega
    · intro m σ H' hW
      obtain ⟨ws, bs, k, y3, y4, y5, y6, rfl, fr, hl, hp, hwf, hk, hm, hm2⟩ := hW
      refine ⟨_, rfl, l, _, rfl, .inl (SqL.at hl), _, _, rfl, rfl, _, rfl, ?_⟩
      by_cases h0 : 0 < ws.length
      · have hc : decide ((0 : Int) < (ws.length : Int)) = true := decide_eq_true (by omega)
        rw [hc]
        refine iteT ?_
        obtain ⟨ws', u, bs', x, rfl, rfl, hp', t2, v2, rfl, ht2, hb2⟩ := paired_snoc hp h0
        obtain ⟨e, wfx, he⟩ := hwf x (by simp)
        rw [sB_app] at hk hm
        have hsx : sB [x] = bsz x.1 := by simp [sB]
        rw [hsx] at hk hm
        rw [List.length_append, List.length_singleton] at hm
        have hlen : ws'.length = bs'.length := Paired.length hp'
        refine ⟨fun σ' H'' => ∃ (ws : List V) (bs : List (B × Nat)) (k : Nat) (y3 y4 y5 y6 : Option V), σ' = [some v, some (.ref l), some (.int k), y3, y4, y5, y6] ∧ Fr [] H H'' ∧ H'' l = some (.lst ws) ∧ Paired (IsT H'') ws bs ∧
          (∀ x, x ∈ bs → ∃ e, Wf e x.1 ∧ x.2 + e ≤ 60) ∧ k + sB bs = bsz b ∧ sB bs + bs.length < m, fun σ' H'' ⟨ws, bs, k, y3, y4, y5, y6, z1, z2, z3, z4, z5, z6, z7⟩ => ⟨_, z7, ws, bs, k, y3, y4, y5, y6, z1, z2, z3, z4, z5, z6, rfl, by omega⟩, ?_⟩
        refine ⟨_, rfl, .inl ⟨rfl, _, SqL.at hl⟩, l, _, .ref t2, rfl, rfl, hl, by simp, ?_⟩
        rw [List.dropLast_concat]
        have f2 : Fr [] H (upd H' l (.lst ws')) := fr.own nl0
        have f2t : ∀ {t : Addr} {xs : List V}, H' t = some (.tup xs) → (upd H' l (.lst ws')) t = some (.tup xs) := fun {t xs} h => by
          rw [upd_ne (apart h hl (fun z => by cases z))]
          exact h
        have hT : Tups H' (upd H' l (.lst ws')) := fun _ _ h => f2t h
        have ht2' := hT _ _ ht2
        have hb2' := hb2.mono hT
        have hp2 : Paired (IsT (upd H' l (.lst ws'))) ws' bs' := paired_map (fun u x ⟨t, v, e1, e2, e3⟩ => ⟨t, v, e1, hT _ _ e2, e3.mono hT⟩) hp'
        have hl2 : (upd H' l (.lst ws')) l = some (.lst ws') := upd_same
        generalize upd H' l (.lst ws') = H2 at f2 ht2' hb2' hp2 hl2
        refine ⟨t2, [v2, .int x.2], rfl, SqT.at ht2', rfl, v2, [.int x.2], rfl, .int x.2, [], rfl, rfl, ?_⟩
        refine ⟨_, rfl, v2, x.1, e, rfl, hb2', wfx, fun H3 p xs f3 hxs hks => ?_⟩
        have hkl : xs.length = (kids x.1).length := Paired.length hks
        have hsk := sB_kids x.1 (x.2 + 1)
        refine ⟨_, rfl, _, rfl, p, _, rfl, .inr (SqT.at hxs), _, _, rfl, rfl, ?_⟩
        refine ⟨_, rfl, _, _, rfl, rfl, _, rfl, iteFd ?_ ?_⟩
        · have : ¬ (60 : Int) < x.2 := by omega
          simp [this]
        refine ⟨_, rfl, _, _, rfl, rfl, _, rfl, iteFd ?_ ?_⟩
        · have : ¬ (2000 : Int) < k + xs.length := by omega
          simp [this]
        have hl3 := f3.at hl2
        refine ⟨_, rfl, .inl ⟨rfl, _, SqL.at hl3⟩, _, rfl, p, rfl, ⟨_, SqT.at hxs⟩, fun D hD => lc_it (walk_tup (xs := xs)) (fun i H' => Fr [] H3 H' ∧ ∃ acc, H' D = some (.lst acc) ∧ Paired (IsT H') acc (((kids x.1).take i).map fun c => (c, x.2 + 1)))
          ⟨Fr.new hD, [], upd_same, .nil⟩ (fun i H' _ h => SqT.at (h.1.at hxs)) (fun i y H4 H5 hi h hy => ?_) (fun H4 h => ?_)⟩
        · obtain ⟨f4, acc, ha, hpa⟩ := h
          obtain ⟨rfl, hy⟩ := hy
          have hi' : i < (kids x.1).length := by omega
          have hbc : IsB H3 y (kids x.1)[i] := Paired.get hks hy (List.getElem?_eq_getElem hi')
          refine ⟨rfl, yesT ⟨_, rfl, _, rfl, _, _, rfl, rfl, sz (by simp), fun t5 n5 => ?_⟩⟩
          have f5 : Fr [] H5 (upd H5 t5 (.tup [y, .int ((x.2 : Int) + 1)])) := Fr.new n5
          have hal : acc.length ≤ 10000 := by
            have := Paired.length hpa
            rw [this, List.length_map, List.length_take]
            have : (kids x.1).length ≤ bsz x.1 := by omega
            omega
          refine ⟨acc, f5.at ha, szl (by omega), ?_, ?_⟩
          · exact (f4.trans f5).own hD
          · refine ⟨_, upd_same, ?_⟩
            have f6 : Tups H5 (upd (upd H5 t5 (.tup [y, .int ((x.2 : Int) + 1)])) D (.lst (acc ++ [.ref t5]))) := fun b xs h => by
              rw [upd_ne (apart (f5.at h) (f5.at ha) (fun z => by cases z))]
              exact f5.at h
            rw [List.take_add_one, List.getElem?_eq_getElem hi', List.map_append]
            refine paired_app (paired_map (fun u x ⟨t, v, e1, e2, e3⟩ => ⟨t, v, e1, f6 _ _ e2, e3.mono f6⟩) hpa) (.cons ⟨t5, y, rfl, ?_, (hbc.fr f4).mono f6⟩ .nil)
            rw [upd_ne (ne_of_none ha n5).symm]
            rw [upd_same]
            rfl
        · obtain ⟨f4, acc, ha, hpa⟩ := h
          have htake : (kids x.1).take xs.length = kids x.1 := List.take_of_length_le (by omega)
          rw [htake] at hpa
          have hl4 := f4.at hl3
          have hal : acc.length = (kids x.1).length := by
            have := Paired.length hpa
            rw [this, List.length_map]
          refine ⟨l, D, ws', acc, rfl, rfl, hl4, ha, sz (by omega), ?_⟩
          have hT4 : Tups H4 (upd H4 l (.lst (ws' ++ acc))) := fun b xs h => by
            rw [upd_ne (apart h hl4 (fun z => by cases z))]
            exact h
          refine ⟨ws' ++ acc, bs' ++ (kids x.1).map (fun c => (c, x.2 + 1)), k + xs.length, _, _, _, _, rfl, ?_, upd_same, ?_, ?_, ?_, ?_⟩
          · exact (f2.trans (f3.trans f4)).own nl0
          · refine paired_app (paired_map (fun u x h => ?_) hp2) (paired_map (fun u x ⟨t, v, e1, e2, e3⟩ => ⟨t, v, e1, hT4 _ _ e2, e3.mono hT4⟩) hpa)
            obtain ⟨t, v, e1, e2, e3⟩ := h.fr (f3.trans f4)
            exact ⟨t, v, e1, hT4 _ _ e2, e3.mono hT4⟩
          · intro z hz
            rcases List.mem_append.mp hz with hz | hz
            · exact hwf z (List.mem_append_left _ hz)
            · obtain ⟨c, hc, rfl⟩ := List.mem_map.mp hz
              obtain ⟨e1, he1, hw1⟩ := wf_kids wfx c hc
              exact ⟨e1, hw1, by show x.2 + 1 + e1 ≤ 60; omega⟩
          · rw [sB_app]; omega
          · rw [sB_app, List.length_append, List.length_map]; omega
      · have hc : decide ((0 : Int) < (ws.length : Int)) = false := decide_eq_false (by omega)
        rw [hc]
        exact iteF (q H' fr)
end
end BK
/-! Breakback k27: check_breaker, check_game. -/
namespace BK
open PySem PySem.Spec PyProof.Rows L2 He
def IsG (H : Hp) (a : Addr) : Gm → Prop
  | .fn l => ∃ t, H a = some (.tup [.str "function", .ref t, .bl false]) ∧ IsFn H t l
  | .perm l => H a = some (.tup [.str "permutation", .int l])
  | .swaps r => H a = some (.tup [.str "swaps", .int 1, .int r])
theorem IsFn.mono {H H' : Hp} {a : Addr} {l : Nat} (t : Tups H H') (h : IsFn H a l) : IsFn H' a l := by
  obtain ⟨r, k0, k1, rows0, rows1, h1, h2, h3, h4, h5⟩ := h.at_
  exact ⟨r, k0, k1, rows0, rows1, t _ _ h1, t _ _ h2, t _ _ h3, t _ _ h4, h5⟩
theorem IsG.mono {H H' : Hp} {a : Addr} {g : Gm} (t : Tups H H') (h : IsG H a g) : IsG H' a g := by
  cases g with
  | fn l => obtain ⟨u, h1, h2⟩ := h; exact ⟨u, t _ _ h1, h2.mono t⟩
  | perm l => exact t _ _ h
  | swaps r => exact t _ _ h
theorem d_fn_perm : decide (V.str "function" = V.str "permutation") = false := by decide +kernel
theorem d_fn_swaps : decide (V.str "function" = V.str "swaps") = false := by decide +kernel
theorem d_perm_perm : decide (V.str "permutation" = V.str "permutation") = true := by decide +kernel
theorem d_swaps_perm : decide (V.str "swaps" = V.str "permutation") = false := by decide +kernel
theorem d_swaps_swaps : decide (V.str "swaps" = V.str "swaps") = true := by decide +kernel
theorem d_fn_secrets : decide (V.str "function" = V.str "secrets") = false := by decide +kernel
theorem in_fn : inV (.str "function") [.str "function", .str "marks", .str "secrets"] = true := by decide +kernel
section
variable {P : Program} {w : World} {K : PySem.W.Frag} {mg : Str → Option Value} {base : Heap}
/-! check_breaker -/
def spCheckBreaker : Sp := fun vs H Q _ => ∃ (v : V) (b : B) (d : Nat), vs = [v] ∧ IsB H v b ∧ Wf d b ∧ d ≤ 3 ∧ ∀ H', Fr [] H H' → Q .non H'
theorem k_check_breaker (F : Fx K w mg) : Kp P w K mg base 5 "check_breaker" ["breaker"] spCheckBreaker := by
  have k_has_plain_word : Kp P w K mg base 1 _ _ _ := k_has_plain_word F
  have k_check_plain : Kp P w K mg base 4 _ _ _ := k_check_plain F
  refine kp_of F.d_check_breaker F.g_check_breaker sc_check_breaker (fun _ _ _ _ _ _ us hl => match us, hl with | [_], _ => rfl) (fun vs H Q E h => ?_) (fun cdv A outer s H vs Q E hr h => ?_)
  · obtain ⟨v, b, d, rfl, _⟩ := h
    rfl
  · obtain ⟨v, b, d, rfl, hb, wf, hd, q⟩ := h
    refine ⟨_, (pss_cons (ps_set (i := 1) sc_check_breaker.nd rfl (Or.inl rfl) pe_int)
        (pss_cons (ps_set (i := 2) sc_check_breaker.nd rfl (Or.inl rfl) pe_non)
        (pss_cons (ps_while PassesOwn.never (pt_not (pt_val (pe_k k_has_plain_word (hr.mono (by decide)) (pa_cons (pv 0) pa_nil))))
          pss_dead)
        (pss_one (ps_expr (pe_k k_check_plain (hr.mono (by decide)) (pa_cons (pv 0) pa_nil))))))), ?_⟩
    refine ⟨fun m σ H' => σ = [some v, some (.int 0), some .non] ∧ H' = H, ⟨0, rfl, rfl⟩, fun m σ H' hW => ?_⟩
    obtain ⟨rfl, rfl⟩ := hW
    refine ⟨_, rfl, v, b, rfl, hb, _, rfl, iteFd rfl ?_⟩
    exact ⟨_, rfl, v, b, d, rfl, hb, wf, hd, fun H' f => q H' f⟩
/-! is_right -/
def spIsRight : Sp := fun vs H Q _ => ∃ (a : Addr) (g : Gm), vs = [.ref a] ∧ IsG H a g ∧ g.ok ∧ ∀ H', Fr [] H H' → Q (.bl true) H'
theorem num_ok {i a b : Int} (h1 : a ≤ i) (h2 : i ≤ b) : (decide (a ≤ i) && decide (i ≤ b)) = true := by simp [h1, h2]
theorem k_is_right (F : Fx K w mg) : Kp P w K mg base 4 "is_right" ["game"] spIsRight := by
  have k_is_number : Kp P w K mg base 1 _ _ _ := k_is_number F
  have k_is_truth : Kp P w K mg base 1 _ _ _ := k_is_truth F
  have k_is_function : Kp P w K mg base 3 _ _ _ := k_is_function F
  refine kp_of F.d_is_right F.g_is_right sc_is_right (fun _ _ _ _ _ _ us hl => match us, hl with | [_], _ => rfl) (fun vs H Q E h => ?_) (fun cdv A outer s H vs Q E hr h => ?_)
  · obtain ⟨a, g, rfl, _⟩ := h
    rfl
  · obtain ⟨a, g, rfl, hg, ok, q⟩ := h
    refine ⟨_, (pss_cons (ps_par (i := 1) (j := 2) (by rfl) sc_is_right.nd rfl rfl (by decide) rfl rfl (pa_cons (pe_ix (r := rIxT K) ix_tup (pv 0) pe_int (fun _ _ => rfl)) (pa_cons (pe_slice sl_tupA (pv 0) (po_some pe_int) po_none) pa_nil)) (by rfl))
        (pss_cons (ps_if (pt_cmpR op_eq (pv 1) pe_str (nomark _))
          (pss_one (ps_ret (pe_k k_is_number (hr.mono (by decide)) (pa_cons (pe_ix (r := rIxT K) ix_tup (pv 2) pe_int (fun _ _ => rfl)) (pa_cons pe_int (pa_cons pe_int pa_nil))))))
          pss_nil)
        (pss_cons (ps_if (pt_cmpR op_eq (pv 1) pe_str (nomark _))
          (pss_one (ps_ret (pe_and (pe_k k_is_number (hr.mono (by decide)) (pa_cons (pe_ix (r := rIxT K) ix_tup (pv 2) pe_int (fun _ _ => rfl)) (pa_cons pe_int (pa_cons pe_int pa_nil)))) (pe_one (pe_k k_is_number (hr.mono (by decide)) (pa_cons (pe_ix (r := rIxT K) ix_tup (pv 2) pe_int (fun _ _ => rfl)) (pa_cons pe_int (pa_cons pe_int pa_nil))))))))
          pss_nil)
        (pss_cons (ps_if (pt_cmpR (r := rIn K false) op_in_seq (pv 1) (pe_tup (pa_cons pe_str (pa_cons pe_str (pa_cons pe_str pa_nil)))) (by rfl))
          (pss_cons (ps_set (i := 3) sc_is_right.nd rfl (Or.inl rfl) (pe_and (pe_k k_is_function (hr.mono (by decide)) (pa_cons (pe_ix (r := rIxT K) ix_tup (pv 2) pe_int (fun _ _ => rfl)) pa_nil)) (pe_one (pe_k k_is_truth (hr.mono (by decide)) (pa_cons (pe_ix (r := rIxT K) ix_tup (pv 2) pe_int (fun _ _ => rfl)) pa_nil)))))
          (pss_one (ps_ret (pe_and (pv 3) (pe_one (pe_or (pe_cmpR op_ne (pv 1) pe_str (nomark _)) (pe_one pe_dead)))))))
          pss_nil)
        pss_dead)))), ?_⟩
    cases g with
    | fn l =>
      obtain ⟨tb, ha, hf⟩ := hg
      refine ⟨_, rfl, a, _, 0, _, rfl, rfl, SqT.at ha, atI_nat (j := 0) rfl, _, rfl, 1, rfl, a, _, rfl, SqT.at ha, fun e => absurd e.1 (sIx1 _ _), fun _ t nt => ?_⟩
      rw [cutV1]
      have fr : Fr [] H (upd H t (.tup [.ref tb, .bl false])) := Fr.new nt
      have ht : (upd H t (.tup [.ref tb, .bl false])) t = some (.tup [.ref tb, .bl false]) := upd_same
      have hf2 := hf.mono fr.2
      generalize upd H t (.tup [.ref tb, .bl false]) = H1 at fr ht hf2
      refine ⟨_, _, rfl, ?_⟩
      refine ⟨_, rfl, rfl, _, rfl, iteFd d_fn_perm ?_⟩
      refine ⟨_, rfl, rfl, _, rfl, iteFd d_fn_swaps ?_⟩
      refine ⟨_, rfl, sz (by simp), fun u nu => ⟨u, _, rfl, .inr (SqT.at upd_same), rfl, rfl, _, rfl, iteTd in_fn ?_⟩⟩
      have f2 : Fr [] H1 (upd H1 u (.tup [.str "function", .str "marks", .str "secrets"])) := Fr.new nu
      refine ⟨_, rfl, t, _, 0, _, rfl, rfl, SqT.at (f2.at ht), atI_nat (j := 0) rfl, tb, l, rfl, hf2.mono f2.2, ok.1, ok.2, fun H3 f3 => ⟨_, rfl, iteT ?_⟩⟩
      refine ⟨_, rfl, t, _, 1, _, rfl, rfl, SqT.at (f3.at (f2.at ht)), atI_nat (j := 1) rfl, false, rfl, ?_⟩
      refine ⟨_, rfl, _, rfl, iteT ⟨_, rfl, rfl, _, rfl, iteTd ?_ ?_⟩⟩
      · rw [d_fn_secrets]; rfl
      · exact q _ (fr.trans (f2.trans f3))
    | perm l =>
      have ha : H a = some (.tup [.str "permutation", .int l]) := hg
      refine ⟨_, rfl, a, _, 0, _, rfl, rfl, SqT.at ha, atI_nat (j := 0) rfl, _, rfl, 1, rfl, a, _, rfl, SqT.at ha, fun e => absurd e.1 (sIx1 _ _), fun _ t nt => ?_⟩
      rw [cutV1]
      refine ⟨_, _, rfl, ?_⟩
      refine ⟨_, rfl, rfl, _, rfl, iteTd d_perm_perm ?_⟩
      refine ⟨_, rfl, t, _, 0, _, rfl, rfl, SqT.at upd_same, atI_nat (j := 0) rfl, _, _, _, rfl, .inl ⟨l, rfl, ?_⟩⟩
      rw [num_ok (by have := ok.1; omega) (by have := ok.2; omega)]
      exact q _ (Fr.new nt)
    | swaps r =>
      have ha : H a = some (.tup [.str "swaps", .int 1, .int r]) := hg
      refine ⟨_, rfl, a, _, 0, _, rfl, rfl, SqT.at ha, atI_nat (j := 0) rfl, _, rfl, 1, rfl, a, _, rfl, SqT.at ha, fun e => absurd e.1 (sIx1 _ _), fun _ t nt => ?_⟩
      rw [cutV1]
      refine ⟨_, _, rfl, ?_⟩
      refine ⟨_, rfl, rfl, _, rfl, iteFd d_swaps_perm ?_⟩
      refine ⟨_, rfl, rfl, _, rfl, iteTd d_swaps_swaps ?_⟩
      refine ⟨_, rfl, t, _, 0, _, rfl, rfl, SqT.at upd_same, atI_nat (j := 0) rfl, _, _, _, rfl, .inl ⟨1, rfl, _, rfl, iteTd rfl ?_⟩⟩
      refine ⟨_, rfl, t, _, 1, _, rfl, rfl, SqT.at upd_same, atI_nat (j := 1) rfl, _, _, _, rfl, .inl ⟨r, rfl, ?_⟩⟩
      rw [num_ok (by have := ok.1; omega) (by have := ok.2; omega)]
      exact q _ (Fr.new nt)
/-! check_game -/
def spCheckGame : Sp := fun vs H Q _ => ∃ (a : Addr) (g : Gm), vs = [.ref a] ∧ IsG H a g ∧ g.ok ∧ ∀ H', Fr [] H H' → Q .non H'
theorem IsG.word {H : Hp} {a : Addr} {g : Gm} (F : Fx K w mg) (h : IsG H a g) : ∃ (z : Str) (r : List V), H a = some (.tup (.str z :: r)) ∧ ∃ t, PySem.W.nsIn K (ga K "SIZES") z = some (some (.int ((r.length : Int) + 1) t)) := by
  cases g with
  | fn l => obtain ⟨u, h1, _⟩ := h; exact ⟨_, _, h1, F.v_function⟩
  | perm l => exact ⟨_, _, h, F.v_permutation⟩
  | swaps r => exact ⟨_, _, h, F.v_swaps⟩
theorem k_check_game (F : Fx K w mg) : Kp P w K mg base 5 "check_game" ["game"] spCheckGame := by
  have k_is_right : Kp P w K mg base 4 _ _ _ := k_is_right F
  refine kp_of F.d_check_game F.g_check_game sc_check_game (fun _ _ _ _ _ _ us hl => match us, hl with | [_], _ => rfl) (fun vs H Q E h => ?_) (fun cdv A outer s H vs Q E hr h => ?_)
  · obtain ⟨a, g, rfl, _⟩ := h
    rfl
  · obtain ⟨a, g, rfl, hg, ok, q⟩ := h
    obtain ⟨z, r, ha, tk, hz⟩ := hg.word F
    obtain ⟨es, n, KD⟩ := F.kd_SIZES
    refine ⟨_, (pss_cons (ps_if (PW.pt (pw_or (pt_not (pt_val (pe_callB call_isi (by rfl) F.b_isinstance (by decide +kernel) (pa_cons (pv 0) (pa_cons (pe_bltn (v := .ty "tuple") rfl F.b_tuple (by decide +kernel) rfl) pa_nil))))) (pw_or (pt_cmpR op_eq (pe_callB call_len_seq (by rfl) F.b_len (by decide +kernel) (pa_cons (pv 0) pa_nil)) pe_int (nomark _)) (pw_or (pt_not (pt_val (pe_callB call_isi (by rfl) F.b_isinstance (by decide +kernel) (pa_cons (pe_ix (r := rIxT K) ix_tup (pv 0) pe_int (fun _ _ => rfl)) (pa_cons (pe_bltn (v := .ty "str") rfl F.b_str (by decide +kernel) rfl) pa_nil))))) (pw_or1 (pt_cmpR (op_notIn_kdE F.kd_SIZES) (pe_ix (r := rIxT K) ix_tup (pv 0) pe_int (fun _ _ => rfl)) (pe_glob (v := .ref (ga K "SIZES")) rfl F.g_SIZES rfl) (by rfl)))))))
          (pss_one ps_never)
          pss_nil)
        (pss_one (ps_if (PW.pt (pw_or (pt_cmpR op_ne (pe_callB call_len_seq (by rfl) F.b_len (by decide +kernel) (pa_cons (pv 0) pa_nil)) (pe_ix ix_kdict (pe_glob (v := .ref (ga K "SIZES")) rfl F.g_SIZES rfl) (pe_ix (r := rIxT K) ix_tup (pv 0) pe_int (fun _ _ => rfl)) (fun _ _ => rfl)) (nomark _)) (pw_or1 (pt_not (pt_val (pe_k k_is_right (hr.mono (by decide)) (pa_cons (pv 0) pa_nil)))))))
          (pss_one ps_never)
          pss_nil))), ?_⟩
    refine ⟨_, rfl, _, _, _, _, _, rfl, .ty _, .base (.tup ha), kt_tup_tup, _, rfl, iteFd rfl ?_⟩
    refine ⟨_, rfl, a, _, rfl, .inr (SqT.at ha), rfl, _, rfl, iteFd ?_ ?_⟩
    · have : ¬ V.int ((V.str z :: r).length : Int) = V.int 0 := fun e => by
        have e2 := V.int.inj e
        rw [List.length_cons] at e2
        omega
      exact decide_eq_false this
    refine ⟨_, rfl, a, _, 0, _, rfl, rfl, SqT.at ha, atI_nat (j := 0) rfl, _, _, _, _, _, rfl, .ty _, .base (.str z), kt_str_str, _, rfl, iteFd rfl ?_⟩
    refine ⟨_, rfl, a, _, 0, _, rfl, rfl, SqT.at ha, atI_nat (j := 0) rfl, z, _, rfl, rfl, hz, _, rfl, iteFd rfl ?_⟩
    refine ⟨_, rfl, a, _, rfl, .inr (SqT.at ha), _, rfl, a, _, 0, _, rfl, rfl, SqT.at ha, atI_nat (j := 0) rfl, _, z, .int ((r.length : Int) + 1), rfl, rfl, ⟨es, n, _, KD.at_, KD.lit, hz, ⟨tk, rfl⟩⟩, rfl, _, rfl, iteFd ?_ ?_⟩
    · have : V.int ((V.str z :: r).length : Int) = V.int ((r.length : Int) + 1) := by rw [List.length_cons]; rfl
      rw [decide_eq_true this]
      rfl
    exact ⟨_, rfl, a, g, rfl, hg, ok, fun H' f => ⟨_, rfl, iteFd rfl (q H' f)⟩⟩
end
end BK
/-! Breakback k27: bits, the tape, strings made of parts. -/
namespace BK
open PySem PySem.Spec PyProof.Rows L2 He
section
variable {P : Program} {w : World} {K : PySem.W.Frag} {mg : Str → Option Value} {base : Heap}
theorem km_of {C m qual : Str} {st : Stmt} {N ps : List Str} {k : Nat} {sp : Sp} (D : ∃ fd, FunD K m qual (defArgs st) (defBody st) (defScope st) [] [] (ma K (ga K C) m) fd) (c : Cls K (ga K C)) (g : Meth K (ga K C) m (ma K (ga K C) m)) (S : FnScope N ps (defScope st))
    (b : ∀ (kV doc pm : Value) (an : Option Addr) (cdv ct : Value) (us : List Value), us.length = ps.length → bindArgs (PySem.W.fnOf m qual (defArgs st) (defBody st) (defScope st) .none kV doc pm an cdv ct) ⟨us, []⟩ = pure (ps.zip us))
    (len : ∀ vs H Q E, sp vs H Q E → vs.length = ps.length)
    (hbody : ∀ (cdv : Value) (A : Around) (outer : List Env) (s : Shared) (H : Hp) (vs : List V) (Q : VK) (E : XK), Room k (A.deeper (envOfC qual (defScope st) s.heap.objs.size (ma K (ga K C) m) cdv)) → sp vs H Q E →
      ∃ t, PSs (cxOf CX0 P w K mg base N qual (defScope st) (ma K (ga K C) m) cdv A outer s H E).nox (defBody st) t ∧ t { nx := fun _ H' => Q .non H', rt := Q } (start N vs) H) : Km P w K mg base (k + 1) C m ps sp := by
  obtain ⟨fd, D⟩ := D
  exact ⟨c, g, fd, FnOkOf D S len hbody, D.bindsN b⟩
theorem ki_of {C qual : Str} {st : Stmt} {N ps : List Str} {k : Nat} {sp : Sp} (D : ∃ fd, FunD K "__init__" qual (defArgs st) (defBody st) (defScope st) [] [] (ma K (ga K C) "__init__") fd) (g : mg C = some (.ref (ga K C))) (mk : Mk K (ga K C) (ma K (ga K C) "__init__")) (S : FnScope N ps (defScope st))
    (b : ∀ (kV doc pm : Value) (an : Option Addr) (cdv ct : Value) (us : List Value), us.length = ps.length → bindArgs (PySem.W.fnOf "__init__" qual (defArgs st) (defBody st) (defScope st) .none kV doc pm an cdv ct) ⟨us, []⟩ = pure (ps.zip us))
    (len : ∀ vs H Q E, sp vs H Q E → vs.length = ps.length)
    (hbody : ∀ (cdv : Value) (A : Around) (outer : List Env) (s : Shared) (H : Hp) (vs : List V) (Q : VK) (E : XK), Room k (A.deeper (envOfC qual (defScope st) s.heap.objs.size (ma K (ga K C) "__init__") cdv)) → sp vs H Q E →
      ∃ t, PSs (cxOf CX0 P w K mg base N qual (defScope st) (ma K (ga K C) "__init__") cdv A outer s H E).nox (defBody st) t ∧ t { nx := fun _ H' => Q .non H', rt := Q } (start N vs) H) : Ki P w K mg base (k + 1) C ps sp := by
  obtain ⟨fd, D⟩ := D
  exact ⟨g, mk, fd, FnOkOf D S len hbody, D.bindsN b⟩
/-! bits -/
def nI (n : Nat) : V := .int n
def oneV (b : Bool) : V := .str (bS [b])
theorem join_ones : ∀ xs : Bs, Txt.join ("" : Str) (xs.map fun b => bS [b]) = bS xs := by
  intro xs
  rw [TL.join_eq, bS_nil]
  induction xs with
  | nil => rfl
  | cons a r ih =>
    cases r with
    | nil => rfl
    | cons b r =>
      show bS [a] ++ bS [] ++ Str.join (bS []) ((b :: r).map fun b => bS [b]) = _
      rw [ih, bS_app, bS_app]
      rfl
theorem ones_len (xs : Bs) : ((xs.map fun b => bS [b]).map (·.length)).sum = xs.length := by
  induction xs with
  | nil => rfl
  | cons a r ih =>
    rw [List.map_cons, List.map_cons, List.sum_cons, ih, bS_len]
    simp
    omega
theorem one_if (b : Bool) : (if b = true then V.str "1" else V.str "0") = oneV b := by
  cases b
  · rw [if_neg (by decide), bS_0]; rfl
  · rw [if_pos rfl, bS_1]; rfl
theorem par_dec (m : Nat) : decide (V.int ((m : Int) % 2) = V.int 1) = (m % 2 == 1) := by
  rw [dec_int]
  by_cases e : m % 2 = 1
  · have : (m : Int) % 2 = 1 := by omega
    rw [e, this]
    rfl
  · have e0 : m % 2 = 0 := by omega
    have : (m : Int) % 2 = 0 := by omega
    rw [e0, this]
    rfl
def spBits : Sp := fun vs H Q _ => ∃ (l k : Nat), vs = [.int l, .int k] ∧ l ≤ 100 ∧ ∀ H', Fr [] H H' → Q (.str (bS (bitsN l k))) H'
theorem k_bits (F : Fx K w mg) : Kp P w K mg base 1 "bits" ["length", "number"] spBits := by
  refine kp_of F.d_bits F.g_bits sc_bits (fun _ _ _ _ _ _ us hl => match us, hl with | [_, _], _ => rfl) (fun vs H Q E h => ?_) (fun cdv A outer s H vs Q E hr h => ?_)
  · obtain ⟨l, k, rfl, _⟩ := h
    rfl
  · obtain ⟨l, k, rfl, hl, q⟩ := h
    refine ⟨_, (pss_cons (ps_set (i := 2) sc_bits.nd rfl (Or.inl rfl) (pe_lst pa_nil))
        (pss_cons (ps_for PassesOwn.never rfl (pi_range1 (by rfl) F.b_range (pa_cons (pv 0) pa_nil)) (pg_name (i := 3) sc_bits.nd rfl (Or.inl rfl))
          (pss_cons (ps_expr (pe_bm PySem.F.plainAttrs_list PySem.F.slot_list_append PySem.F.type_list_append mt_append (pv 2) (pa_cons (pe_ifExp (pt_cmpR op_eq (pe_op op_mod (pv 1) pe_int) pe_int (nomark _)) pe_str pe_str) pa_nil)))
          (pss_one (ps_set (i := 1) sc_bits.nd rfl (Or.inl rfl) (pe_op op_fdiv (pv 1) pe_int)))))
        (pss_one (ps_ret (pe_join pe_str (pe_revL (pv 2))))))), ?_⟩
    refine ⟨sz (by simp), fun o no => ?_⟩
    refine ⟨_, rfl, _, rfl, by omega, by omega, for_range (lo := 0) (n := ((l : Nat) : Int).toNat) (fun i σ H' => ∃ y, σ = [some (.int l), some (.int (k / 2 ^ i : Nat)), some (.ref o), y] ∧ Fr [] H H' ∧ H' o = some (.lst ((lsb i k).map oneV)))
      ⟨none, by simp; rfl, Fr.new no, upd_same⟩ (fun i σ H' hi h => ?_) (fun σ H' h => ?_)⟩
    · obtain ⟨y, rfl, fr, ho⟩ := h
      have e2 := par_dec (k / 2 ^ i)
      refine ⟨_, rfl, .inl ⟨rfl, _, SqL.at ho⟩, _, rfl, _, _, rfl, rfl, (by show (0 : Int) < 2; decide), rfl, _, rfl, ?_⟩
      rw [e2]
      have e3 : ((k / 2 ^ i : Nat) : Int) / 2 = ((k / 2 ^ (i + 1) : Nat) : Int) := by
        rw [Nat.pow_succ, ← Nat.div_div_eq_div_mul]
        omega
      cases hb : ((k / 2 ^ i) % 2 == 1) with
      | true =>
        refine iteT ⟨o, _, _, rfl, rfl, ho, szl (by rw [List.length_map, lsb_len]; omega), ?_⟩
        refine ⟨_, rfl, _, _, rfl, rfl, ⟨by decide, by decide⟩, some (.int (0 + (i : Int))), ?_, fr.own no, ?_⟩
        · rw [← e3]; rfl
        · rw [upd_same, lsb_succ, List.map_append, hb]
          show some (HO.lst (_ ++ [V.str "1"])) = _
          rw [bS_1]
          rfl
      | false =>
        refine iteF ⟨o, _, _, rfl, rfl, ho, szl (by rw [List.length_map, lsb_len]; omega), ?_⟩
        refine ⟨_, rfl, _, _, rfl, rfl, ⟨by decide, by decide⟩, some (.int (0 + (i : Int))), ?_, fr.own no, ?_⟩
        · rw [← e3]; rfl
        · rw [upd_same, lsb_succ, List.map_append, hb]
          show some (HO.lst (_ ++ [V.str "0"])) = _
          rw [bS_0]
          rfl
    · obtain ⟨y, rfl, fr, ho⟩ := h
      rw [Int.toNat_natCast] at ho
      refine ⟨⟨_, rfl⟩, _, rfl, o, _, rfl, SqL.at ho, fun p np => ?_⟩
      refine ⟨_, p, (bitsN l k).map (fun b => bS [b]), rfl, rfl, .inl (SqL.at ?_), ?_, ?_⟩
      · rw [upd_same, List.map_map, bitsN, List.map_reverse]
        rfl
      · rw [ones_len, List.length_map, bitsN_len]
        have : (("" : Str)).length = 0 := by decide +kernel
        rw [this]
        omega
      · rw [join_ones]
        exact q _ (fr.trans (Fr.new np))
end
end BK
/-! Breakback k27: the tape, strings made of parts. -/
namespace BK
open PySem PySem.Spec PyProof.Rows L2 He
/-- a draw that was made -/
def IsD (H : Hp) (u : V) (x : Nat × Nat) : Prop := ∃ t : Addr, u = .ref t ∧ H t = some (.tup [.int x.1, .int x.2])
theorem IsD.mono {H H' : Hp} (t : Tups H H') {u : V} {x : Nat × Nat} (h : IsD H u x) : IsD H' u x := by
  obtain ⟨a, e, h⟩ := h
  exact ⟨a, e, t _ _ h⟩
/-- a Tape stands at tp, its draws' list at d -/
structure TapeAt (K : PySem.W.Frag) (H : Hp) (tp d : Addr) (cs : List Nat) (ds : Dr) : Prop where
  ex : ∃ (dx c : Addr) (ts : List V), H tp = some (.ins (ga K "Tape") dx (f_Tape (.ref c) (.ref d))) ∧ H c = some (.lst (cs.map nI)) ∧ H d = some (.lst ts) ∧ Paired (IsD H) ts ds ∧ c ≠ d ∧ ds.length ≤ 1000
theorem TapeAt.fr {K : PySem.W.Frag} {H H' : Hp} {tp d : Addr} {cs : List Nat} {ds : Dr} {M : List Addr} (h : TapeAt K H tp d cs ds) (f : Fr M H H') (hM : ∀ a, a ∈ M → (∃ o, H a = some o ∧ (∀ C dx fs, o ≠ .ins C dx fs) ∧ ∀ xs, o ≠ .lst xs) ∨ H a = none) : TapeAt K H' tp d cs ds := by
  obtain ⟨dx, c, ts, h1, h2, h3, h4, h5, h6⟩ := h.ex
  refine ⟨dx, c, ts, f.1 _ _ h1 fun z => ?_, f.1 _ _ h2 fun z => ?_, f.1 _ _ h3 fun z => ?_, paired_map (fun u x h => h.mono f.2) h4, h5, h6⟩
  · rcases hM _ z with ⟨o, e, n1, _⟩ | e
    · rw [h1] at e; cases e; exact n1 _ _ _ rfl
    · rw [h1] at e; cases e
  · rcases hM _ z with ⟨o, e, _, n2⟩ | e
    · rw [h2] at e; cases e; exact n2 _ rfl
    · rw [h2] at e; cases e
  · rcases hM _ z with ⟨o, e, _, n2⟩ | e
    · rw [h3] at e; cases e; exact n2 _ rfl
    · rw [h3] at e; cases e
theorem TapeAt.fr0 {K : PySem.W.Frag} {H H' : Hp} {tp d : Addr} {cs : List Nat} {ds : Dr} (h : TapeAt K H tp d cs ds) (f : Fr [] H H') : TapeAt K H' tp d cs ds := h.fr f fun _ z => nomatch z
theorem TapeAt.at_d {K : PySem.W.Frag} {H : Hp} {tp d : Addr} {cs : List Nat} {ds : Dr} (h : TapeAt K H tp d cs ds) : ∃ ts, H d = some (.lst ts) := by
  obtain ⟨dx, c, ts, h1, h2, h3, h4, h5, h6⟩ := h.ex
  exact ⟨ts, h3⟩
section
variable {P : Program} {w : World} {K : PySem.W.Frag} {mg : Str → Option Value} {base : Heap}
/-! Tape -/
def spTapeInit (K : PySem.W.Frag) : Sp := fun vs H Q _ => ∃ (x dx c0 : Addr) (cs : List Nat), vs = [.ref x, .ref c0] ∧ H x = some (.ins (ga K "Tape") dx []) ∧ SqL K H c0 (cs.map nI) ∧
  ∀ (H' : Hp) (d : Addr), Fr [x] H H' → H d = none → TapeAt K H' x d cs [] → Q .non H'
theorem k_Tape_init (F : Fx K w mg) : Ki P w K mg base 1 "Tape" ["self", "choices"] (spTapeInit K) := by
  refine ki_of F.d_Tape_init F.g_Tape F.k_Tape sc_Tape_init (fun _ _ _ _ _ _ us hl => match us, hl with | [_, _], _ => rfl) (fun vs H Q E h => ?_) (fun cdv A outer s H vs Q E hr h => ?_)
  · obtain ⟨x, dx, c0, cs, rfl, _⟩ := h
    rfl
  · obtain ⟨x, dx, c0, cs, rfl, hx, hc, q⟩ := h
    refine ⟨_, (pss_cons (ps_fld (pv 0) (pe_callTy call_list_of (by rfl) F.b_list (by decide +kernel) (pa_cons (pv 1) pa_nil)) rfl)
        (pss_one (ps_fld (pv 0) (pe_lst pa_nil) rfl))), ?_⟩
    refine ⟨_, rfl, c0, _, rfl, .inl hc, fun c nc => ?_⟩
    have f1 : Fr [x] H (upd H c (.lst (cs.map nI))) := Fr.new nc
    have hx1 : (upd H c (.lst (cs.map nI))) x = some (.ins (ga K "Tape") dx []) := by rw [upd_ne (ne_of_none hx nc)]; exact hx
    have hcc : (upd H c (.lst (cs.map nI))) c = some (.lst (cs.map nI)) := upd_same
    generalize upd H c (.lst (cs.map nI)) = H1 at f1 hx1 hcc
    refine ⟨_, rfl, x, _, dx, _, rfl, hx1, F.c_Tape, F.n_Tape_choices, (by show 0 < 1000; decide), ?_⟩
    have f2 : Fr [x] H1 (upd H1 x (.ins (ga K "Tape") dx (putF "choices" (.ref c) []))) := Fr.put (by simp) hx1 rfl
    have nxc : c ≠ x := apart hcc hx1 (fun z => by cases z)
    have hc2 : (upd H1 x (.ins (ga K "Tape") dx (putF "choices" (.ref c) []))) c = some (.lst (cs.map nI)) := by rw [upd_ne nxc]; exact hcc
    have hx2 : (upd H1 x (.ins (ga K "Tape") dx (putF "choices" (.ref c) []))) x = some (.ins (ga K "Tape") dx (putF "choices" (.ref c) [])) := upd_same
    generalize upd H1 x (.ins (ga K "Tape") dx (putF "choices" (.ref c) [])) = H2 at f2 hc2 hx2
    refine ⟨sz (by simp), fun d nd => ?_⟩
    have ndx : x ≠ d := ne_of_none hx2 nd
    have ndc : c ≠ d := ne_of_none hc2 nd
    refine ⟨_, rfl, x, _, dx, _, rfl, (by rw [upd_ne ndx]; exact hx2), F.c_Tape, F.n_Tape_draws, (by show 1 < 1000; decide), ?_⟩
    have f12 := f1.trans f2
    have hd0 : H d = none := by
      cases e : H d with
      | none => rfl
      | some o =>
        have := f12.1 d o e (by simp; exact fun z => ndx z.symm)
        rw [nd] at this
        cases this
    refine q _ d (f12.trans ((Fr.new nd).trans (Fr.put (o := .ins (ga K "Tape") dx (putF "choices" (.ref c) [])) (by simp) (by rw [upd_ne ndx]; exact hx2) rfl))) hd0 ⟨dx, c, [], ?_, ?_, ?_, .nil, ndc, by simp⟩
    · rw [upd_same, mk_Tape]
    · rw [upd_ne nxc, upd_ne ndc]; exact hc2
    · rw [upd_ne ndx.symm, upd_same]
def spDraw (K : PySem.W.Frag) : Sp := fun vs H Q _ => ∃ (tp d : Addr) (cs : List Nat) (ds : Dr) (n : Nat), vs = [.ref tp, .int n] ∧ TapeAt K H tp d cs ds ∧ cs.getD ds.length 0 < n ∧ ds.length ≤ 900 ∧
  ∀ H', Fr [d] H H' → TapeAt K H' tp d cs (ds ++ [(cs.getD ds.length 0, n)]) → Q (.int (cs.getD ds.length 0 : Nat)) H'
theorem k_Tape_draw (F : Fx K w mg) : Km P w K mg base 1 "Tape" "draw" ["self", "many"] (spDraw K) := by
  refine km_of F.d_Tape_draw F.c_Tape F.m_Tape_draw sc_Tape_draw (fun _ _ _ _ _ _ us hl => match us, hl with | [_, _], _ => rfl) (fun vs H Q E h => ?_) (fun cdv A outer s H vs Q E hr h => ?_)
  · obtain ⟨tp, d, cs, ds, n, rfl, _⟩ := h
    rfl
  · obtain ⟨tp, d, cs, ds, n, rfl, ⟨dx, c, ts, h1, h2, h3, h4, h5, h6⟩, hv, hl, q⟩ := h
    have hts : ts.length = ds.length := Paired.length h4
    refine ⟨_, (pss_cons (ps_set (i := 2) sc_Tape_draw.nd rfl (Or.inl rfl) (pe_callB call_len_seq (by rfl) F.b_len (by decide +kernel) (pa_cons (pe_fldK (K := K) (pv 0) rfl) pa_nil)))
        (pss_cons (ps_set (i := 3) sc_Tape_draw.nd rfl (Or.inl rfl) (pe_ifExp (pt_cmpR op_lt (pv 2) (pe_callB call_len_seq (by rfl) F.b_len (by decide +kernel) (pa_cons (pe_fldK (K := K) (pv 0) rfl) pa_nil)) (nomark _)) (pe_ix (r := rIxL K) ix_list (pe_fldK (K := K) (pv 0) rfl) (pv 2) (fun _ _ => rfl)) pe_int))
        (pss_cons (ps_if (pt_not (pt_chain op_le op_lt pe_int (pv 3) (pv 1)))
          (pss_one ps_never)
          pss_nil)
        (pss_cons (ps_expr (pe_bm PySem.F.plainAttrs_list PySem.F.slot_list_append PySem.F.type_list_append mt_append (pe_fldK (K := K) (pv 0) rfl) (pa_cons (pe_tup (pa_cons (pv 3) (pa_cons (pv 1) pa_nil))) pa_nil)))
        (pss_one (ps_ret (pv 3))))))), ?_⟩
    refine ⟨_, rfl, tp, _, dx, _, _, rfl, h1, F.c_Tape, F.n_Tape_draws, lk_Tape_draws, d, _, rfl, .inl (SqL.at h3), ?_⟩
    refine ⟨_, rfl, _, rfl, tp, _, dx, _, _, rfl, h1, F.c_Tape, F.n_Tape_choices, lk_Tape_choices, c, _, rfl, .inl (SqL.at h2), _, _, rfl, rfl, _, rfl, ?_⟩
    have key : ∀ v : V, v = .int (cs.getD ds.length 0 : Nat) → tSeq (tIfS (tNot (tTest (tChain (rI0 fun i j => V.bl (decide (i ≤ j))) (rI0 fun i j => V.bl (decide (i < j))) (tC (V.int 0)) (tVar 3) (tVar 1)))) (fun D σ H => tNever D σ H) tNext) (tSeq (tDrop (tBM K "list" rAppend (tFld K (tVar 0) "draws") (tCons (tTup (tCons (tVar 3) (tCons (tVar 1) tNil))) tNil))) (tRet (tVar 3))) { nx := fun _ H' => Q .non H', rt := Q } [some (.ref tp), some (.int n), some (.int ts.length), some v] H := by
      intro v hv2
      subst hv2
      refine ⟨_, rfl, _, _, rfl, rfl, _, rfl, iteTd ?_ ?_⟩
      · exact decide_eq_true (by omega)
      refine ⟨_, rfl, _, _, rfl, rfl, _, rfl, iteFd ?_ ?_⟩
      · have : ((cs.getD ds.length 0 : Nat) : Int) < (n : Int) := by omega
        rw [decide_eq_true this]
        rfl
      refine ⟨_, rfl, tp, _, dx, _, _, rfl, h1, F.c_Tape, F.n_Tape_draws, lk_Tape_draws, .inl ⟨rfl, _, SqL.at h3⟩, _, rfl, _, rfl, sz (by simp), fun t nt => ?_⟩
      have f1 : Fr [d] H (upd H t (.tup [.int (cs.getD ds.length 0 : Nat), .int n])) := Fr.new nt
      have g1 : ∀ {a : Addr} {o : HO}, H a = some o → (upd H t (.tup [.int (cs.getD ds.length 0 : Nat), .int n])) a = some o := fun {a o} h => by rw [upd_ne (ne_of_none h nt)]; exact h
      have ht : (upd H t (.tup [.int (cs.getD ds.length 0 : Nat), .int n])) t = some (.tup [.int (cs.getD ds.length 0 : Nat), .int n]) := upd_same
      have k1 := g1 h1
      have k2 := g1 h2
      have k3 := g1 h3
      generalize upd H t (.tup [.int (cs.getD ds.length 0 : Nat), .int n]) = H1 at f1 ht k1 k2 k3
      refine ⟨d, ts, .ref t, rfl, rfl, k3, szl (by omega), ?_⟩
      have f2 : Fr [d] H1 (upd H1 d (.lst (ts ++ [.ref t]))) := Fr.put (by simp) k3 rfl
      refine ⟨_, rfl, q _ (f1.trans f2) ⟨dx, c, ts ++ [.ref t], ?_, ?_, upd_same, ?_, h5, ?_⟩⟩
      · rw [upd_ne (apart k1 k3 (fun z => by cases z))]; exact k1
      · rw [upd_ne h5]; exact k2
      · exact paired_app (paired_map (fun u x h => h.mono (f1.trans f2).2) h4) (.cons ⟨t, rfl, f2.2 _ _ ht⟩ .nil)
      · rw [List.length_append]; simp; omega
    by_cases hi : ds.length < cs.length
    · refine iteTd (decide_eq_true ?_) ?_
      · rw [List.length_map, hts]; omega
      · refine ⟨_, rfl, tp, _, dx, _, _, rfl, h1, F.c_Tape, F.n_Tape_choices, lk_Tape_choices, _, rfl, c, _, (ts.length : Nat), .int (cs.getD ds.length 0 : Nat), rfl, rfl, SqL.at h2, atI_nat ?_, key _ rfl⟩
        rw [hts, List.getElem?_map, List.getElem?_eq_getElem hi, List.getD_eq_getElem?_getD, List.getElem?_eq_getElem hi]
        rfl
    · refine iteFd (decide_eq_false ?_) (key _ ?_)
      · rw [List.length_map, hts]; omega
      · rw [List.getD_eq_getElem?_getD, List.getElem?_eq_none_iff.mpr (by omega)]
        rfl
end
end BK
/-! Breakback k27: strings off the tape, strings made of parts. -/
namespace BK
open PySem PySem.Spec PyProof.Rows L2 He
section
variable {P : Program} {w : World} {K : PySem.W.Frag} {mg : Str → Option Value} {base : Heap}
def spString (K : PySem.W.Frag) : Sp := fun vs H Q _ => ∃ (tp d : Addr) (cs : List Nat) (ds : Dr) (m : Nat), vs = [.ref tp, .int m] ∧ TapeAt K H tp d cs ds ∧ cs.getD ds.length 0 < 2 ^ m ∧ ds.length ≤ 900 ∧ m ≤ 20 ∧
  ∀ H', Fr [d] H H' → TapeAt K H' tp d cs (ds ++ [(cs.getD ds.length 0, 2 ^ m)]) → Q (.str (bS (bitsN m (cs.getD ds.length 0)))) H'
theorem k_Tape_string (F : Fx K w mg) : Km P w K mg base 2 "Tape" "string" ["self", "length"] (spString K) := by
  have k_bits : Kp P w K mg base 1 _ _ _ := k_bits F
  have k_Tape_draw : Km P w K mg base 1 _ _ _ _ := k_Tape_draw F
  refine km_of F.d_Tape_string F.c_Tape F.m_Tape_string sc_Tape_string (fun _ _ _ _ _ _ us hl => match us, hl with | [_, _], _ => rfl) (fun vs H Q E h => ?_) (fun cdv A outer s H vs Q E hr h => ?_)
  · obtain ⟨tp, d, cs, ds, m, rfl, _⟩ := h
    rfl
  · obtain ⟨tp, d, cs, ds, m, rfl, ht, hv, hl, hm, q⟩ := h
    obtain ⟨dx, c, ts, h1, _⟩ := id ht.ex
    refine ⟨_, (pss_one (ps_ret (pe_k k_bits (hr.mono (by decide)) (pa_cons (pv 1) (pa_cons (pe_km (pv 0) k_Tape_draw (hr.mono (by decide)) (pa_cons (pe_op op_shl pe_int (pv 1)) pa_nil)) pa_nil))))), ?_⟩
    refine ⟨_, rfl, _, rfl, tp, dx, _, rfl, h1, no_Tape_draw, _, rfl, _, _, rfl, rfl, ⟨by omega, by omega, by decide⟩, tp, d, cs, ds, 2 ^ m, ?_, ht, hv, hl, fun H' f ht' => ?_⟩
    · show [V.ref tp, V.int ((1 : Int) * 2 ^ ((m : Nat) : Int).toNat)] = _
      rw [shl1]
    · exact ⟨m, cs.getD ds.length 0, rfl, by omega, fun H2 f2 => q _ (f.trans f2.of0) (ht'.fr0 f2)⟩
/-! made_string -/
def spMade : Sp := fun vs H Q _ => ∃ (p : Addr) (ps : List Pt) (hd : Bs), vs = [.ref p, .str (bS hd)] ∧ H p = some (.tup (ps.map ptV)) ∧ ps.length ≤ 100 ∧ hd.length ≤ 1000 ∧ Q (.str (bS (made ps hd))) H
theorem made_len (ps : List Pt) (hd : Bs) : (made ps hd).length = ps.length := by simp [made]
theorem made_take {ps : List Pt} {hd : Bs} {i : Nat} {p : Pt} (h : ps[i]? = some p) : made (ps.take (i + 1)) hd = made (ps.take i) hd ++ [p.val hd] := by
  rw [List.take_add_one, h]
  simp [made]
theorem got_in {hd : Bs} {n : Nat} (h : ¬ n < hd.length) : got hd n = false := by
  rw [got, List.getD_eq_getElem?_getD, List.getElem?_eq_none_iff.mpr (by omega)]
  rfl
theorem k_made_string (F : Fx K w mg) : Kp P w K mg base 1 "made_string" ["parts", "handed"] spMade := by
  refine kp_of F.d_made_string F.g_made_string sc_made_string (fun _ _ _ _ _ _ us hl => match us, hl with | [_, _], _ => rfl) (fun vs H Q E h => ?_) (fun cdv A outer s H vs Q E hr h => ?_)
  · obtain ⟨p, ps, hd, rfl, _⟩ := h
    rfl
  · obtain ⟨p, ps, hd, rfl, hp, hl, hh, q⟩ := h
    refine ⟨_, (pss_cons (ps_set (i := 2) sc_made_string.nd rfl (Or.inl rfl) pe_str)
        (pss_cons (ps_for PassesOwn.never rfl (pi_tup (pv 0)) (pg_name (i := 3) sc_made_string.nd rfl (Or.inl rfl))
          (pss_one (ps_if (pt_val (pe_callB call_isi (by rfl) F.b_isinstance (by decide +kernel) (pa_cons (pv 3) (pa_cons (pe_bltn (v := .ty "str") rfl F.b_str (by decide +kernel) rfl) pa_nil))))
            (pss_one (ps_set (i := 2) sc_made_string.nd rfl (Or.inl rfl) (pe_op op_add_str (pv 2) (pv 3))))
            (pss_one (ps_set (i := 2) sc_made_string.nd rfl (Or.inl rfl) (pe_op op_add_str (pv 2) (pe_ifExp (pt_cmpR op_lt (pv 3) (pe_callB call_len_str (by rfl) F.b_len (by decide +kernel) (pa_cons (pv 1) pa_nil)) (nomark _)) (pe_ix ix_str (pv 1) (pv 3) (fun _ _ => rfl)) pe_str)))))))
        (pss_one (ps_ret (pv 2))))), ?_⟩
    refine ⟨_, rfl, p, rfl, ⟨_, SqT.at hp⟩, for_tup (xs := ps.map ptV) (fun i σ H' => H' = H ∧ ∃ y, σ = [some (.ref p), some (.str (bS hd)), some (.str (bS (made (ps.take i) hd))), y]) ⟨rfl, none, ?_⟩ (fun i σ H' _ h => by rw [h.1]; exact SqT.at hp) (fun i x σ H' hx h => ?_) (fun σ H' h => ?_)⟩
    · rw [List.take_zero]
      show _ = [some (V.ref p), some (V.str (bS hd)), some (V.str (bS [])), none]
      rw [← bS_nil]
      rfl
    · obtain ⟨rfl, y, rfl⟩ := h
      rw [List.getElem?_map] at hx
      cases hi : ps[i]? with
      | none => rw [hi] at hx; cases hx
      | some pt =>
        rw [hi] at hx
        have hx' := Option.some.inj hx
        subst hx'
        have hlen : (made (ps.take i) hd).length ≤ 100 := by rw [made_len, List.length_take]; omega
        have e := made_take (hd := hd) hi
        have fin : ∀ b : Bool, b = pt.val hd → bS (made (ps.take i) hd) ++ bS [b] = bS (made (ps.take (i + 1)) hd) := by
          intro b hb
          rw [e, bS_app, hb]
        cases pt with
        | sg b =>
          refine ⟨_, rfl, _, _, _, _, _, rfl, .ty _, .base (.str _), kt_str_str, _, rfl, iteT ?_⟩
          refine ⟨_, rfl, _, rfl, _, _, rfl, rfl, ?_, rfl, some (ptV (.sg b)), ?_⟩
          · rw [bS_len, bS_len]; exact sz (by simp; omega)
          · rw [← fin b rfl]; rfl
        | nm n =>
          refine ⟨_, rfl, _, _, _, _, _, rfl, .ty _, .base (.int _), kt_int_str, _, rfl, iteF ?_⟩
          refine ⟨_, rfl, _, rfl, _, rfl, _, rfl, (by rw [bS_len]; exact sz (by omega)), _, _, rfl, rfl, _, rfl, ?_⟩
          by_cases hn : n < hd.length
          · refine iteTd (decide_eq_true (by rw [bS_len]; omega)) ⟨_, rfl, _, rfl, _, (n : Nat), _, rfl, rfl, (by rw [bS_len]; exact sz (by omega)), bS_at hn, ?_⟩
            rw [bS_one]
            refine ⟨_, _, rfl, rfl, ?_, rfl, some (ptV (.nm n)), ?_⟩
            · rw [bS_len, bS_len]; exact sz (by simp; omega)
            · rw [← fin _ rfl]; rfl
          · refine iteFd (decide_eq_false (by rw [bS_len]; omega)) ?_
            refine ⟨_, _, rfl, rfl, ?_, rfl, some (ptV (.nm n)), ?_⟩
            · rw [bS_0, bS_len, bS_len]; exact sz (by simp; omega)
            · rw [← fin false (got_in hn).symm, bS_0]; rfl
    · obtain ⟨rfl, y, rfl⟩ := h
      rw [List.take_of_length_le (by simp)]
      exact ⟨_, rfl, q⟩
end
end BK
/-! Breakback k27: any function. -/
namespace BK
open PySem PySem.Spec PyProof.Rows L2 He
def toldK (st : Tl) : List (Key × V) := st.map fun x => (Sum.inr (bS x.1), rowV x.2)
theorem told_val (s : Bs) : ∀ st : Tl, valV (toldK st) (Sum.inr (bS s)) = (st.lookup s).map rowV
  | [] => rfl
  | (a, b) :: r => by
    have ih := told_val s r
    rw [List.lookup_cons]
    by_cases e : s = a
    · subst e
      have h1 : (s == s) = true := by simp
      rw [h1]
      exact valV_pos rfl
    · have h1 : (s == a) = false := by simpa using e
      rw [h1]
      refine Eq.trans (valV_neg ?_) ih
      intro z
      exact e (bS_inj (Sum.inr.inj z)).symm
theorem told_put {st : Tl} {s v : Bs} (h : st.lookup s = none) : putK (toldK st) (Sum.inr (bS s)) (rowV v) = toldK (st ++ [(s, v)]) := by
  rw [putK_new]
  · simp [toldK]
  · rw [told_val, h]; rfl
theorem lookup_app {st : Tl} {s v : Bs} (h : st.lookup s = none) : (st ++ [(s, v)]).lookup s = some v := by
  induction st with
  | nil => simp [List.lookup_cons]
  | cons x r ih =>
    obtain ⟨a, b⟩ := x
    rw [List.lookup_cons] at h
    rw [List.cons_append, List.lookup_cons]
    split at h
    · cases h
    · exact ih h
theorem TapeAt.dict {K : PySem.W.Frag} {H : Hp} {tp d td : Addr} {cs : List Nat} {ds : Dr} {kvs : List (Key × V)} {u : HO} (h : TapeAt K H tp d cs ds) (e : H td = some (.dK kvs)) : TapeAt K (upd H td u) tp d cs ds :=
  h.fr (M := [td]) (Fr.put (by simp) e rfl) fun a ha => by
    have ea : a = td := by simpa using ha
    subst ea
    exact .inl ⟨_, e, fun _ _ _ z => (by cases z), fun _ z => (by cases z)⟩
def AnyAt (K : PySem.W.Frag) (H : Hp) (wd tp td : Addr) (l m : Nat) (st : Tl) : Prop :=
  (∃ dx, H wd = some (.ins (ga K "AnyWorld") dx (f_AnyWorld (.ref tp) (.int l) (.int m) (.ref td)))) ∧ H td = some (.dK (toldK st))
section
variable {P : Program} {w : World} {K : PySem.W.Frag} {mg : Str → Option Value} {base : Heap}
theorem Fr.no {M : List Addr} {H H1 : Hp} {a : Addr} (f : Fr M H H1) (h : H1 a = none) (hM : a ∉ M) : H a = none := by
  cases e : H a with
  | none => rfl
  | some o =>
    have := f.1 a o e hM
    rw [h] at this
    cases this
def spAnyInit (K : PySem.W.Frag) : Sp := fun vs H Q _ => ∃ (x dx tp : Addr) (l m : Nat), vs = [.ref x, .ref tp, .int l, .int m] ∧ H x = some (.ins (ga K "AnyWorld") dx []) ∧
  ∀ (H' : Hp) (td : Addr), Fr [x] H H' → H td = none → AnyAt K H' x tp td l m [] → Q .non H'
theorem k_AnyWorld_init (F : Fx K w mg) : Ki P w K mg base 1 "AnyWorld" ["self", "tape", "l", "m"] (spAnyInit K) := by
  refine ki_of F.d_AnyWorld_init F.g_AnyWorld F.k_AnyWorld sc_AnyWorld_init (fun _ _ _ _ _ _ us hl => match us, hl with | [_, _, _, _], _ => rfl) (fun vs H Q E h => ?_) (fun cdv A outer s H vs Q E hr h => ?_)
  · obtain ⟨x, dx, tp, l, m, rfl, _⟩ := h
    rfl
  · obtain ⟨x, dx, tp, l, m, rfl, hx, q⟩ := h
    refine ⟨_, (pss_cons (ps_fld (pv 0) (pv 1) rfl)
        (pss_cons (ps_fld (pv 0) (pv 2) rfl)
        (pss_cons (ps_fld (pv 0) (pv 3) rfl)
        (pss_one (ps_fld (pv 0) pe_dnewK rfl))))), ?_⟩
    refine ⟨_, rfl, _, rfl, x, _, dx, _, rfl, hx, F.c_AnyWorld, F.n_AnyWorld_tape, (by show 0 < 1000; decide), ?_⟩
    refine ⟨_, rfl, _, rfl, x, _, dx, _, rfl, upd_same, F.c_AnyWorld, F.n_AnyWorld_l, (by show 1 < 1000; decide), ?_⟩
    refine ⟨_, rfl, _, rfl, x, _, dx, _, rfl, upd_same, F.c_AnyWorld, F.n_AnyWorld_m, (by show 2 < 1000; decide), fun td nd => ?_⟩
    have f1 : Fr [x] H (upd (upd (upd H x (.ins (ga K "AnyWorld") dx (putF "tape" (.ref tp) []))) x (.ins (ga K "AnyWorld") dx (putF "l" (.int l) (putF "tape" (.ref tp) [])))) x (.ins (ga K "AnyWorld") dx (putF "m" (.int m) (putF "l" (.int l) (putF "tape" (.ref tp) []))))) :=
      (Fr.put (by simp) hx rfl).trans ((Fr.put (by simp) upd_same rfl).trans (Fr.put (by simp) upd_same rfl))
    have hx1 : (upd (upd (upd H x (.ins (ga K "AnyWorld") dx (putF "tape" (.ref tp) []))) x (.ins (ga K "AnyWorld") dx (putF "l" (.int l) (putF "tape" (.ref tp) [])))) x (.ins (ga K "AnyWorld") dx (putF "m" (.int m) (putF "l" (.int l) (putF "tape" (.ref tp) []))))) x = some (.ins (ga K "AnyWorld") dx (putF "m" (.int m) (putF "l" (.int l) (putF "tape" (.ref tp) [])))) := upd_same
    generalize (upd (upd (upd H x (.ins (ga K "AnyWorld") dx (putF "tape" (.ref tp) []))) x (.ins (ga K "AnyWorld") dx (putF "l" (.int l) (putF "tape" (.ref tp) [])))) x (.ins (ga K "AnyWorld") dx (putF "m" (.int m) (putF "l" (.int l) (putF "tape" (.ref tp) []))))) = H1 at f1 hx1 nd
    have ndx : x ≠ td := ne_of_none hx1 nd
    refine ⟨_, rfl, x, _, dx, _, rfl, (by rw [upd_ne ndx]; exact hx1), F.c_AnyWorld, F.n_AnyWorld_told, (by show 3 < 1000; decide), ?_⟩
    refine q _ td (f1.trans ((Fr.new nd).trans (Fr.put (o := .ins (ga K "AnyWorld") dx (putF "m" (.int m) (putF "l" (.int l) (putF "tape" (.ref tp) [])))) (by simp) (by rw [upd_ne ndx]; exact hx1) rfl))) (f1.no nd (by simp; exact ndx.symm)) ⟨⟨dx, ?_⟩, ?_⟩
    · rw [upd_same, mk_AnyWorld]
    · rw [upd_ne ndx.symm, upd_same]
      rfl
def spAny (K : PySem.W.Frag) : Sp := fun vs H Q _ => ∃ (wd tp d td : Addr) (cs : List Nat) (ds : Dr) (l m : Nat) (st : Tl) (s : Bs), vs = [.ref wd, .str (bS s)] ∧ TapeAt K H tp d cs ds ∧ AnyAt K H wd tp td l m st ∧
  s.length ≤ 1000 ∧ m ≤ 20 ∧ ds.length ≤ 900 ∧ st.length ≤ 1000 ∧ (ansF l m st s).Val (cs.drop ds.length) ∧
  ∀ H', Fr [d, td] H H' → TapeAt K H' tp d cs (ds ++ ((ansF l m st s).run (cs.drop ds.length)).1) → AnyAt K H' wd tp td l m ((ansF l m st s).run (cs.drop ds.length)).2.2 → Q (.str (bS ((ansF l m st s).run (cs.drop ds.length)).2.1)) H'
theorem dec_natne (a b : Nat) : (!decide (V.int (a : Int) = V.int (b : Int))) = !decide (a = b) := by rw [dec_nat]
theorem k_AnyWorld_answer (F : Fx K w mg) : Km P w K mg base 3 "AnyWorld" "answer" ["self", "string"] (spAny K) := by
  have k_Tape_string : Km P w K mg base 2 _ _ _ _ := k_Tape_string F
  refine km_of F.d_AnyWorld_answer F.c_AnyWorld F.m_AnyWorld_answer sc_AnyWorld_answer (fun _ _ _ _ _ _ us hl => match us, hl with | [_, _], _ => rfl) (fun vs H Q E h => ?_) (fun cdv A outer s H vs Q E hr h => ?_)
  · obtain ⟨wd, tp, d, td, cs, ds, l, m, st, s, rfl, _⟩ := h
    rfl
  · obtain ⟨wd, tp, d, td, cs, ds, l, m, st, s, rfl, ht, ⟨⟨dx, h1⟩, h2⟩, hs, hm, hl, hst, hv, q⟩ := h
    have hu := hu_of hr
    refine ⟨_, (pss_cons (ps_if (pt_cmpR op_ne (pe_callB call_len_str (by rfl) F.b_len (by decide +kernel) (pa_cons (pv 1) pa_nil)) (pe_fldK (K := K) (pv 0) rfl) (nomark _))
          (pss_one (ps_ret pe_str))
          pss_nil)
        (pss_cons (ps_if (pt_cmp (pc_dnotin hu (pv 1) (pe_fldK (K := K) (pv 0) rfl)))
          (pss_one (ps_dput hu (pe_fldK (K := K) (pv 0) rfl) (pv 1) (pe_km (pe_fldK (K := K) (pv 0) rfl) k_Tape_string (hr.mono (by decide)) (pa_cons (pe_fldK (K := K) (pv 0) rfl) pa_nil)) rfl))
          pss_nil)
        (pss_one (ps_ret (pe_dget hu (pe_fldK (K := K) (pv 0) rfl) (pv 1) (fun _ _ => rfl)))))), ?_⟩
    refine ⟨_, rfl, _, rfl, (by rw [bS_len]; exact sz (by omega)), _, rfl, wd, _, dx, _, _, rfl, h1, F.c_AnyWorld, F.n_AnyWorld_l, lk_AnyWorld_l, rfl, _, rfl, ?_⟩
    rw [bS_len, dec_natne]
    by_cases e : s.length = l
    · refine iteFd (by rw [decide_eq_true e]; rfl) ?_
      refine ⟨_, rfl, _, rfl, wd, _, dx, _, _, rfl, h1, F.c_AnyWorld, F.n_AnyWorld_told, lk_AnyWorld_told, td, _, rfl, DGet.k (k := Sum.inr (bS s)) h2, _, rfl, ?_⟩
      rw [told_val]
      cases hk : st.lookup s with
      | some v =>
        have ea : ansF l m st s = .ret (v, st) := by unfold ansF; rw [if_pos e, hk]
        rw [ea] at q
        refine iteF ?_
        refine ⟨_, rfl, wd, _, dx, _, _, rfl, h1, F.c_AnyWorld, F.n_AnyWorld_told, lk_AnyWorld_told, _, rfl, td, rowV v, rfl, ?_, ?_⟩
        · have := DGet.k (k := Sum.inr (bS s)) h2
          rw [told_val, hk] at this
          exact this
        · refine q H (Fr.refl _ _) ?_ ⟨⟨dx, h1⟩, h2⟩
          simpa [T.run] using ht
      | none =>
        have ea : ansF l m st s = .node (2 ^ m) fun k => .ret (bitsN m k, st ++ [(s, bitsN m k)]) := by unfold ansF; rw [if_pos e, hk]
        rw [ea] at q hv
        simp only [T.run, T.Val, head_drop] at q hv
        refine iteT ?_
        obtain ⟨dxt, c, ts, t1, _⟩ := id ht.ex
        refine ⟨_, rfl, wd, _, dx, _, _, rfl, h1, F.c_AnyWorld, F.n_AnyWorld_tape, lk_AnyWorld_tape, tp, dxt, _, rfl, t1, no_Tape_string, ?_⟩
        refine ⟨_, rfl, wd, _, dx, _, _, rfl, h1, F.c_AnyWorld, F.n_AnyWorld_m, lk_AnyWorld_m, tp, d, cs, ds, m, rfl, ht, hv.1, hl, hm, fun H1 f1 ht1 => ?_⟩
        obtain ⟨ts0, hd0⟩ := ht.at_d
        have nwd : wd ≠ d := apart h1 hd0 (fun z => by cases z)
        have ntd : td ≠ d := apart h2 hd0 (fun z => by cases z)
        have h1' := f1.1 _ _ h1 (by simp; exact nwd)
        have h2' := f1.1 _ _ h2 (by simp; exact ntd)
        refine ⟨_, rfl, wd, _, dx, _, _, rfl, h1', F.c_AnyWorld, F.n_AnyWorld_told, lk_AnyWorld_told, _, rfl, td, _, rfl, DPut.k (k := Sum.inr (bS s)) h2' (szl (by rw [toldK, List.length_map]; omega)), ?_⟩
        have f2 : Fr [d, td] H1 (upd H1 td (.dK (putK (toldK st) (Sum.inr (bS s)) (rowV (bitsN m (cs.getD ds.length 0)))))) := Fr.put (by simp) h2' rfl
        have nwt : wd ≠ td := apart h1' h2' (fun z => by cases z)
        have h3 : (upd H1 td (.dK (putK (toldK st) (Sum.inr (bS s)) (rowV (bitsN m (cs.getD ds.length 0)))))) td = some (.dK (toldK (st ++ [(s, bitsN m (cs.getD ds.length 0))]))) := by rw [upd_same, told_put hk]
        have h4 : (upd H1 td (.dK (putK (toldK st) (Sum.inr (bS s)) (rowV (bitsN m (cs.getD ds.length 0)))))) wd = some (.ins (ga K "AnyWorld") dx (f_AnyWorld (.ref tp) (.int l) (.int m) (.ref td))) := by rw [upd_ne nwt]; exact h1'
        have ht2 : TapeAt K (upd H1 td (.dK (putK (toldK st) (Sum.inr (bS s)) (rowV (bitsN m (cs.getD ds.length 0)))))) tp d cs (ds ++ [(cs.getD ds.length 0, 2 ^ m)]) :=
          ht1.dict h2'
        refine ⟨_, rfl, wd, _, dx, _, _, rfl, h4, F.c_AnyWorld, F.n_AnyWorld_told, lk_AnyWorld_told, _, rfl, td, rowV (bitsN m (cs.getD ds.length 0)), rfl, ?_, ?_⟩
        · have := DGet.k (k := Sum.inr (bS s)) h3
          rw [told_val, lookup_app hk] at this
          exact this
        · exact q _ ((f1.mono (by simp)).trans f2) ht2 ⟨⟨dx, h4⟩, h3⟩
    · refine iteTd (by rw [decide_eq_false e]; rfl) ?_
      have ea : ansF l m st s = .ret ([], st) := by unfold ansF; rw [if_neg e]
      rw [ea] at q
      have := q H (Fr.refl _ _) (by simpa [T.run] using ht) ⟨⟨dx, h1⟩, h2⟩
      show Q (.str ("" : Str)) H
      rw [bS_nil]
      exact this
end
end BK
/-! Breakback k27: rules that the hand layer lacks: zip of two texts, list(d.values()), sorted(d) of any length, C() without an own __init__. -/
namespace BK
open PySem PySem.Spec PyProof.Rows L2
/-! ### zip of two texts -/
def ItzS (a b : Str) : It :=
  ⟨fun i H => i < a.cps.size ∧ i < b.cps.size,
    fun i H v H' => ∃ T c d, v = .ref T ∧ H T = none ∧ H' = upd H T (.tup [.str ⟨#[c]⟩, .str ⟨#[d]⟩]) ∧ a.cps[i]? = some c ∧ b.cps[i]? = some d,
    fun i H => i = min a.cps.size b.cps.size⟩
theorem turn_zipS {P : Program} {w : World} {K : PySem.W.Frag} {elts : List Expr} {kk : Nat} {tpos : Pos} {a b : Str} {t1 t2 : Tok} {z TI TO i1 i2 : Addr} (S : ZipSep2 z TI TO i1 i2 [i1] [i2]) :
    Turn P w K (.Tuple elts kk tpos) (ItzS a b) [z, TI, TO, i1, i2] z (fun i h => IsZip h z TI TO .none ∧ IsTupOf2 h TI (.ref i1) (.ref i2) ∧ (∃ x y, IsTupOf2 h TO x y) ∧ h.IsStrIter i1 (strIterType a) a t1 i ∧ h.IsStrIter i2 (strIterType b) b t2 i) where
  mem := by simp
  obj := fun i h st c hc => by
    obtain ⟨hz, hTI, ⟨x, y, hTO⟩, ⟨o1, e1, _, d1⟩, ⟨o2, e2, _, d2⟩⟩ := st
    have e' : c = z ∨ c = TI ∨ c = TO ∨ c = i1 ∨ c = i2 := by simpa using hc
    rcases e' with q | q | q | q | q
    · rw [q]; exact ⟨_, hz, fun v q => nomatch q⟩
    · rw [q]; exact ⟨_, hTI, fun v q => nomatch q⟩
    · rw [q]; exact ⟨_, hTO, fun v q => nomatch q⟩
    · rw [q]; exact ⟨o1, e1, fun v q => by rw [d1] at q; cases q⟩
    · rw [q]; exact ⟨o2, e2, fun v q => by rw [d2] at q; cases q⟩
  keep := fun i h h' st k => by
    obtain ⟨hz, hTI, ⟨x, y, hTO⟩, ⟨o1, e1, c1, d1⟩, ⟨o2, e2, c2, d2⟩⟩ := st
    exact ⟨k z (by simp) _ hz, k TI (by simp) _ hTI, ⟨x, y, k TO (by simp) _ hTO⟩, ⟨o1, k i1 (by simp) o1 e1, c1, d1⟩, ⟨o2, k i2 (by simp) o2 e2, c2, d2⟩⟩
  item := by
    intro X hP hw hK hc i pins s σ H E I hf st hg
    subst hP hw hK
    obtain ⟨hz, hTI, ⟨x0, y0, hTO⟩, h1, h2⟩ := st
    obtain ⟨g1, g2⟩ := hg
    have hh : X.A.in1.handled = none := I.ok.hd hc
    have hzl : z < s.heap.objs.size := Heap.lt_size hz
    refine wpAny_pyNext_zipD2_item S (Draws.text hh i1 a t1) (Draws.text hh i2 b t2) hz hTI hTO h1 h2 g1 g2 fun x1 x2 h' tk p1 p2 z' TO' h1' h2' hT hsz hk => ?_
    obtain ⟨c, u1, ec, rfl⟩ := p1
    obtain ⟨d, u2, ed, rfl⟩ := p2
    refine ⟨_, rfl, wpAny_letOwnedTupleGo_zip (s := { s with heap := h', toks := tk }) z' fun h'' z'' sb => ?_⟩
    have hT2 : h''.get? s.heap.objs.size = some { cls := .type "tuple", data := .seq #[.str ⟨#[c]⟩ u1, .str ⟨#[d]⟩ u2] } := (sb.2 _ (Nat.ne_of_gt hzl)).trans hT
    have new : ObjOk X.prog X.w (upd H s.heap.objs.size (.tup [.str ⟨#[c]⟩, .str ⟨#[d]⟩])) h'' s.heap.objs.size (.tup [.str ⟨#[c]⟩, .str ⟨#[d]⟩]) :=
      ⟨by show 2 ≤ sizeLine; decide, [.str ⟨#[c]⟩ u1, .str ⟨#[d]⟩ u2], .cons ⟨_, rfl⟩ (.cons ⟨_, rfl⟩ .nil), ⟨_, hT2, rfl, _, rfl⟩⟩
    have I1 : Inv X pins σ (upd H s.heap.objs.size (.tup [.str ⟨#[c]⟩, .str ⟨#[d]⟩])) { s with heap := h'', toks := tk } :=
      I.turnedNew (t' := tk) (ch := [z, TI, TO, i1, i2]) (fun c o hb q => (sb.2 c (fun q' => hb (by simp [q']))).trans (hk c o (fun q' => hb (by simp [q'])) (fun q' => hb (by simp [q'])) (fun q' => hb (by simp [q'])) (fun q' => hb (by simp [q'])) q)) hf (Nat.le_refl _) new
    refine ⟨.ref s.heap.objs.size, _, I1, rfl, ⟨_, c, d, rfl, I.hok.fresh (Nat.le_refl _), rfl, ec, ed⟩, ⟨z'', ?_, ⟨.str ⟨#[c]⟩ u1, .str ⟨#[d]⟩ u2, ?_⟩, ?_, ?_⟩, fun c hcm => ?_⟩
    · exact (sb.2 _ S.TIz).trans (hk _ _ S.TIz S.TITO S.TIi1 S.TIi2 hTI)
    · exact (sb.2 _ S.TOz).trans TO'
    · obtain ⟨o, e, c1, d1⟩ := h1'
      exact ⟨o, (sb.2 _ S.zi1.symm).trans e, c1, d1⟩
    · obtain ⟨o, e, c1, d1⟩ := h2'
      exact ⟨o, (sb.2 _ S.zi2.symm).trans e, c1, d1⟩
    · have hlt : c < s.heap.objs.size := by
        have e' : c = z ∨ c = TI ∨ c = TO ∨ c = i1 ∨ c = i2 := by simpa using hcm
        rcases e' with q | q | q | q | q
        · rw [q]; exact hzl
        · rw [q]; exact Heap.lt_size hTI
        · rw [q]; exact Heap.lt_size hTO
        · rw [q]; obtain ⟨_, e1, _⟩ := h1; exact Heap.lt_size e1
        · rw [q]; obtain ⟨_, e2, _⟩ := h2; exact Heap.lt_size e2
      rw [upd_ne (Nat.ne_of_lt hlt)]
      exact (hf c hcm).1
  done := by
    intro X hP hw hK hc i pins s σ H E I hf st hg
    subst hP hw hK
    obtain ⟨hz, hTI, ⟨x0, y0, hTO⟩, h1, h2⟩ := st
    have hh : X.A.in1.handled = none := I.ok.hd hc
    have hg' : i = min a.cps.size b.cps.size := hg
    exact wpAny_pyNext_zipD2_end S (Draws.text hh i1 a t1) (Draws.text hh i2 b t2) hz hTI hTO h1 h2 (by omega) (by omega) (by omega) fun h' tk hk => ⟨rfl, I.turnedL (t' := tk) (ch := [z, TI, TO, i1, i2]) (fun c o hb q =>
      hk c o (fun q' => hb (by simp [q'])) (fun q' => hb (by simp [q'])) (fun q' => hb (by simp [q'])) (fun q' => hb (by simp [q'])) q) hf⟩
  self := fun A i s Q E st h => wpAny_pyIter_zip st.1 h
def iZipS (ta : TA) : TI := fun σ H R => ta σ H fun vs H1 => ∃ a b, vs = [.str a, .str b] ∧ R (ItzS a b) H1
theorem pi_zipS {X : Cx} {e e2 : Expr} {ta : TA} {p pos tpos : Pos} {elts : List Expr} {kk : Nat} (hg : Gl X "zip") (hm : X.mg "zip" = none) (ha : PA X [e, e2] ta)
    (hs : starEach [e, e2] X.env = (false, eval e X.env) :: starEach [e2] X.env := by rfl) (hpl : (backTo pos (starEach [e2] X.env)).any (·.1) = false := by rfl) :
    PI X (.Tuple elts kk tpos) (.Call (.Name "zip" p) [e, e2] [] pos) (iZipS ta) := by
  refine ⟨fun pins s σ H R I h => ?_⟩
  refine Call_ (ld_blt I hg hm PyProof.Rows.boot_zip (PyProof.Rows.callWith_type1 (thn (ha.run pos pins s σ H _ I h) fun us s1 ⟨vs, H1, I1, r1, q1⟩ => ?_) hs hpl))
  obtain ⟨a, b, ex, q⟩ := q1
  subst ex
  cases r1 with
  | cons r rr =>
    cases rr with
    | cons r' rr =>
      cases rr
      obtain ⟨t1, rfl⟩ := r
      obtain ⟨t2, rfl⟩ := r'
      refine zip_begins2 (begins_text a t1) (begins_text b t2) trivial trivial fun h' hz hTI hTO h1 h2 hsz hk => wpAny_pyIter_zip hz ?_
      have I2 : Inv X pins σ H1 { s1 with heap := h' } := I1.kept (t' := s1.toks) hk
      have D : ZipSep2 (s1.heap.objs.size + 4) (s1.heap.objs.size + 2) (s1.heap.objs.size + 3) s1.heap.objs.size (s1.heap.objs.size + 1) [s1.heap.objs.size] [s1.heap.objs.size + 1] := zip_sep2 (fp1 := []) (fp2 := []) (fun _ h => nomatch h) (fun _ h => nomatch h)
      refine ⟨s1.heap.objs.size + 4, [s1.heap.objs.size + 4, s1.heap.objs.size + 2, s1.heap.objs.size + 3, s1.heap.objs.size, s1.heap.objs.size + 1], _, _, H1, rfl, I2, turn_zipS (t1 := t1) (t2 := t2) D, ⟨hz, hTI, ⟨_, _, hTO⟩, ⟨_, h1, rfl, rfl⟩, ⟨_, h2, rfl, rfl⟩⟩, fun c hcm => ?_, q⟩
      have e' : c = s1.heap.objs.size + 4 ∨ c = s1.heap.objs.size + 2 ∨ c = s1.heap.objs.size + 3 ∨ c = s1.heap.objs.size ∨ c = s1.heap.objs.size + 1 := by simpa using hcm
      have hle : s1.heap.objs.size ≤ c := by
        rcases e' with z | z | z | z | z
        · rw [z]; exact Nat.le_add_right _ _
        · rw [z]; exact Nat.le_add_right _ _
        · rw [z]; exact Nat.le_add_right _ _
        · rw [z]; exact Nat.le_refl _
        · rw [z]; exact Nat.le_add_right _ _
      exact I1.fpOk hle (I1.hok.fresh hle)
theorem walk_zipS {a b : Str} : Walk (ItzS a b) (min a.cps.size b.cps.size) (fun _ => True) (fun i H v H' => ∃ T c d, v = .ref T ∧ H T = none ∧ H' = upd H T (.tup [.str ⟨#[c]⟩, .str ⟨#[d]⟩]) ∧ a.cps[i]? = some c ∧ b.cps[i]? = some d) :=
  ⟨fun i H hi _ => ⟨by omega, by omega⟩, fun _ _ => rfl, fun _ _ _ _ _ _ y => y⟩
/-! ### list(d.values()) -/
def viewHO (p a : Addr) : HO := .ext fun h => h.get? p = some { cls := .type "dict_values", data := .fields #[.ref a] }
def rValues : V → List V → Hp → VK → Prop := fun x vs H Q => ∃ (a : Addr) (kvs : List (Key × V)), x = .ref a ∧ vs = [] ∧ H a = some (.dK kvs) ∧ ∀ p, H p = none → Q (.ref p) (upd H p (viewHO p a))
theorem mtd_values {X : Cx} : MtR X "dict.values" rValues := by
  intro pins s σ H x vs v us Q I rx rv h
  obtain ⟨a, kvs, ex, ev, e, q⟩ := h
  subst ex ev
  obtain rfl : v = Value.ref a := rx
  have hus := rv.zero
  subst hus
  obtain ⟨z, lo, vs, rel, dd⟩ := dk_of I.hok e
  refine call_meetsIn PySem.F.slot_dict_values dd.typeIs PySem.F.entry_dict_values (PySem.F.args_dict_values_1 _) (meets_dict_values (mixKind X.prog X.w) a lo) ⟨⟨vs, dd⟩, ?_⟩
  refine ⟨.ref s.heap.objs.size, upd H s.heap.objs.size (viewHO s.heap.objs.size a), I.laid (t' := s.toks) (fun b o q => Heap.get?_push_of_some _ q) (Nat.le_refl _) ?_, rfl, q _ (I.hok.fresh (Nat.le_refl _))⟩
  exact ⟨Heap.get?_push_size _ rfl, ⟨_, Heap.get?_push_size _ rfl⟩, fun h1 h2 p k => k _ p⟩
theorem call_listV {X : Cx} (hcalm : X.calm = true) : CallR X (.type "list") (fun xs H Q => ∃ (p a : Addr) (kvs : List (Key × V)), xs = [.ref p] ∧ H p = some (viewHO p a) ∧ H a = some (.dK kvs) ∧ ∀ q, H q = none → Q (.ref q) (upd H q (.lst (kvs.map (·.2))))) := by
  intro pins s σ H xs us Q I r q
  obtain ⟨p, a, kvs, ex, hp, hd, q⟩ := q
  subst ex
  obtain ⟨u, eu, rx⟩ := vals1 r
  subst eu
  cases rx
  obtain ⟨z, lo, vs, rel, dd⟩ := dk_of I.hok hd
  obtain ⟨ep, hat⟩ := dd.dictAt
  have hv : s.heap.get? p = some { cls := .type "dict_values", data := .fields #[.ref a] } := (I.hok p _ hp).1
  refine PySem.W.kdl_call (PySem.W.kdl_values (knd := mixKind X.prog X.w) (kvs := vs) (ep := ep)) (I.ok.hd hcalm) ⟨⟨_, hv, rfl, rfl⟩, hat⟩ (by rw [← rel.length]; exact z) fun h' tk acc c' hk hD hacc => ?_
  have e1 : acc.toList = vs.map (·.2) := PySem.W.kdl_vals_eq acc.toList (by rw [Array.length_toList]; exact hacc.1) fun j v e => hacc.2 j v (by rw [← Array.getElem?_toList]; exact e)
  have hvals : ∀ {kvs : List (Key × V)} {vs : List (Key × Value)}, KV kvs vs → Vals (kvs.map (·.2)) (vs.map (·.2)) := by
    intro kvs vs r
    induction r with
    | nil => exact .nil
    | cons r _ ih => exact .cons r.2 ih
  refine ⟨.ref s.heap.objs.size, upd H s.heap.objs.size (.lst (kvs.map (·.2))), I.laid (t' := tk) hk (Nat.le_refl _)
    (show ObjOk X.prog X.w _ _ _ (.lst (kvs.map (·.2))) from ⟨by rw [List.length_map]; exact z, acc.toList, c', by rw [e1]; exact hvals rel, by rw [Array.toArray_toList]; exact hD⟩), rfl, q _ (I.hok.fresh (Nat.le_refl _))⟩
/-! ### sorted(d), int keys, any length -/
theorem call_sortedDA {X : Cx} (hcalm : X.calm = true) : CallR X (.builtin "sorted") (fun xs H Q => ∃ (a : Addr) (kvs : List (Key × V)) (ks : List Int), xs = [.ref a] ∧ Rd H a (.dK kvs) ∧ kvs.map (·.1) = ks.map Sum.inl ∧
    ∀ (ys : List Int) (p : Addr), ys.Perm ks → ys.Pairwise (· ≤ ·) → H p = none → Q (.ref p) (upd H p (.lst (ys.map V.int)))) := by
  intro pins s σ H xs us Q I r q
  obtain ⟨a, kvs, ks, ex, hd, hks, q⟩ := q
  subst ex
  obtain ⟨u, eu, rx⟩ := vals1 r
  subst eu
  cases rx
  obtain ⟨z, lo, vs, rel, dd⟩ := dk_rd I.hok hd
  obtain ⟨ep, hat⟩ := dd.dictAt
  have hkeys : vs.map (·.1) = ks.map Sum.inl := rel.keys.symm.trans hks
  have hl : vs.length = ks.length := by
    have e := congrArg List.length hkeys
    rw [List.length_map, List.length_map] at e
    exact e
  have h16 : vs.length ≤ sizeLine := by rw [← rel.length]; exact z
  refine Calls.call_function_entry PyProof.Rows.kind_sorted PyProof.Rows.plain_sorted PyProof.Rows.entry_sorted (PyProof.Rows.args_sorted1 _) ?_
  unfold Builtin.«sorted»
  refine wpAny_bind (m := checkCount "sorted" 1 1 _) (wpAny_pure ?_)
  refine wpAny_bind (PySem.W.kdu_collect (A := X.A.in1) (PySem.W.kdl_dict (knd := mixKind X.prog X.w) (kvs := vs) (ep := ep) lo) (I.ok.hd hcalm) hat h16 fun h' tk acc hk hacc => ?_)
  have hal : acc.toList.length = ks.length := by rw [Array.length_toList, hacc.1, hl]
  have hS : IntsAre acc.toList ks := ints_each hal fun j v e => by
    obtain ⟨k, x, e1, e2⟩ := hacc.2 j v (by rw [← Array.getElem?_toList]; exact e)
    have e3 : (vs.map (·.1))[j]? = some k := by rw [List.getElem?_map, e1]; rfl
    rw [hkeys, List.getElem?_map] at e3
    cases e4 : ks[j]? with
    | none => rw [e4] at e3; cases e3
    | some y =>
      rw [e4] at e3
      have e5 : Sum.inl y = k := Option.some.inj e3
      subst e5
      rcases keyIs_shape (show keyIs (Sum.inl y) v = true from e2) with ⟨i, t, ek, ev⟩ | ⟨z, t, ek, ev⟩
      · cases ek
        exact ⟨y, t, rfl, ev⟩
      · cases ek
  have I1 : Inv X pins σ H { s with heap := h', toks := tk } := I.kept hk
  have hlz : acc.toList.length ≤ sizeLine := by rw [hal, ← hl]; exact h16
  refine wpAny_bind (wpAny_newList ?_ hlz)
  have hoL : (h'.push (seqObj "list" acc.toList.toArray 0)).get? h'.objs.size = some (seqObj "list" acc.toList.toArray 0) := Heap.get?_push_size _ rfl
  show wpAny _ _ _ _ _ { s with heap := h'.push (seqObj "list" acc.toList.toArray 0), toks := tk }
  refine wpAny_bind (wpAny_holding (wpAny_call_entry PyProof.Rows.slot_list_sort ⟨_, hoL, rfl⟩ PyProof.Rows.entry_list_sort
    (SrtO.list_sort_ord (s := { s with heap := h'.push (seqObj "list" acc.toList.toArray 0), toks := tk }) SrtO.swo_int hoL hlz (fun h2 => SrtO.ints_sortable hS h2) fun out h1 h2 => ⟨.none, rfl, ?_⟩) (PyProof.Rows.args_list_sort _)))
  obtain ⟨k1, k2, k3⟩ := SrtO.ints_out hS h1 h2
  obtain ⟨e', he'⟩ := PyProof.Rows.sortedHeap_at (vs := acc.toList) (out := out.toArray) hoL
  have hlen : ((out.map SrtO.iv).map V.int).length ≤ sizeLine := by
    rw [List.length_map, k2.length_eq, ← hal]
    exact hlz
  refine wpAny_pure ⟨_, rfl, .ref h'.objs.size, upd H h'.objs.size (.lst ((out.map SrtO.iv).map V.int)), I1.laid (t' := tk) (fun b u e => ?_) (Nat.le_refl _)
    (show ObjOk X.prog X.w _ _ _ (.lst ((out.map SrtO.iv).map V.int)) from ⟨hlen, out, e', vals_of_ints k1, he'⟩), rfl, q _ _ k2 k3 (I1.hok.fresh (Nat.le_refl _))⟩
  have hb : b < h'.objs.size := Heap.lt_size e
  rw [PyProof.Rows.sortedHeap_old (Nat.ne_of_lt hb) (by rw [size_push']; exact Nat.lt_succ_of_lt hb)]
  exact Heap.get?_push_of_some _ e
/-! ### C() without an own __init__ -/
theorem pe_make00 {X : Cx} {C : Addr} {x : Str} {p pos : Pos} (hm : PySem.W.makesIn X.K C = true) (hi : PySem.W.findIn X.K (.ref C) "__init__" = some (some (.builtin "object.__init__"))) (hk : PySem.W.keepIn X.K (.ref C) = true) (hg : Gl X x) (hv : X.mg x = some (.ref C))
    (hdb : (x == ("__debug__" : Str)) = false := by decide) : PE X (.Call (.Name x p) [] [] pos) (fun _ H Q => ∀ y dx, H y = none → H dx = none → dx ≠ y → Q (.ref y) (upd (upd H dx (.own y)) y (.ins C dx []))) := by
  refine ⟨fun pins s σ H Q I h => ?_⟩
  refine wpAny_Call_Name_kw (ld_glob I hg hv ?_ hdb)
  have hq := h (s.heap.objs.size + 1) s.heap.objs.size (I.hok.fresh (Nat.le_succ _)) (I.hok.fresh (Nat.le_refl _)) (Nat.ne_of_lt (Nat.lt_succ_self _))
  have I2 := Inv.made (C := C) I
  have Y := PySem.W.makes_of (M := model X.prog X.w) I.kIn hm
  refine PySem.W.callWith_K0 I.kIn hk (wpAny_call (make_map0 I.kIn hm hi (fun self => PySem.W.Looks.of_pure (PySem.W.oi_bind self)) ?_))
  have hx : ((s.heap.push PySem.W.emptyDict).push (PySem.W.instObj C s.heap.objs.size)).get? (s.heap.objs.size + 1) = some (PySem.W.instObj C s.heap.objs.size) := by
    have z := Heap.get?_push_size (s.heap.push PySem.W.emptyDict) (o := PySem.W.instObj C s.heap.objs.size) rfl
    rwa [Heap.size_push] at z
  have t1 : PySem.W.Looks (model X.prog X.w) ((s.heap.push PySem.W.emptyDict).push (PySem.W.instObj C s.heap.objs.size)) (typeOf (.ref (s.heap.objs.size + 1))) (.ref C) := (PySem.W.Looks.ld hx).andThen .now
  have t2 : PySem.W.Looks (model X.prog X.w) ((s.heap.push PySem.W.emptyDict).push (PySem.W.instObj C s.heap.objs.size)) (isInstance (.ref (s.heap.objs.size + 1)) (.type "object")) true := t1.andThen (Y.top.keeps fun b o e => Heap.get?_push_of_some _ (Heap.get?_push_of_some _ e))
  refine codeAny_call_builtin PySem.W.oi_plain PySem.W.entry_oi (@PySem.W.check_slot (model X.prog X.w) _ _ _ "object.__init__" "object" "__init__" (.ref (s.heap.objs.size + 1)) [] [] _ PySem.W.oi_kind PySem.W.oi_split t2 (PySem.W.oi_args (.ref (s.heap.objs.size + 1))) ?_)
  rw [PySem.W.oi_run]
  exact wpAny_pure (And.intro rfl ⟨V.ref (s.heap.objs.size + 1), _, I2, rfl, hq⟩)
/-! ### list(d.values()), as it is called -/
def rListV : List V → Hp → VK → Prop := fun xs H Q => ∃ (p a : Addr) (kvs : List (Key × V)), xs = [.ref p] ∧ H p = some (viewHO p a) ∧ H a = some (.dK kvs) ∧ ∀ q, H q = none → Q (.ref q) (upd H q (.lst (kvs.map (·.2))))
theorem pe_listVals {X : Cx} {K : PySem.W.Frag} {o : Expr} {to : TE} {p pos apos cpos : Pos} (hcalm : X.calm = true) (hm : X.mg "list" = none) (ho : PE X o to) (hK : X.K = K := by rfl) (hg : Gl X "list" := by rfl)
    (hbase : attributeBase o "values" X.env (eval o X.env) = eval o X.env := by rfl) (hline : (apos.endLine == cpos.line) = true := by rfl) :
    PE X (.Call (.Name "list" p) [.Call (.Attribute o "values" apos) [] [] cpos] [] pos) (tCB rListV (tCons (tBM0 K "dict" rValues to) tNil)) := by
  subst hK
  exact pe_callTy (call_listV hcalm) hg hm (by decide +kernel) (pa_cons (pe_bm0 PySem.F.plainAttrs_dict PySem.F.slot_dict_values PySem.F.type_dict_values mtd_values ho hbase hline) pa_nil)
end BK
/-! Breakback k27: xor, permutations. -/
namespace BK
open PySem PySem.Spec PyProof.Rows L2 He
section
variable {P : Program} {w : World} {K : PySem.W.Frag} {mg : Str → Option Value} {base : Heap}
/-! xor -/
theorem sgn_dec (a b : Bool) : decide (V.str ⟨#[sgn a]⟩ = V.str ⟨#[sgn b]⟩) = (a == b) := by
  rw [bS_one, bS_one, bS_dec]
  cases a <;> cases b <;> rfl
theorem xorB_map (a b : Bs) : (List.range (min a.length b.length)).map (fun i => oneV (a.getD i false != b.getD i false)) = (xorB a b).map oneV := by
  refine List.ext_getElem (by simp [xorB]) fun i h1 h2 => ?_
  have h3 : i < a.length ∧ i < b.length := by simpa [Nat.lt_min] using h1
  simp [xorB, List.getD_eq_getElem?_getD, List.getElem?_eq_getElem h3.1, List.getElem?_eq_getElem h3.2]
theorem xorB_len (a b : Bs) : (xorB a b).length = min a.length b.length := by simp [xorB]
theorem bS_get {x : Bs} {i c : Nat} (h : (bS x).cps[i]? = some c) : c = sgn (x.getD i false) := by
  have : (bS x).cps.toList[i]? = some c := by simpa using h
  rw [bS_cps, List.getElem?_map] at this
  cases h3 : x[i]? with
  | none => rw [h3] at this; cases this
  | some b =>
    rw [h3] at this
    rw [List.getD_eq_getElem?_getD, h3]
    exact (Option.some.inj this).symm
def spXor : Sp := fun vs H Q _ => ∃ (a b : Bs), vs = [.str (bS a), .str (bS b)] ∧ a.length ≤ 1000 ∧ ∀ H', Fr [] H H' → Q (.str (bS (xorB a b))) H'
theorem k_xor (F : Fx K w mg) : Kp P w K mg base 1 "xor" ["first", "second"] spXor := by
  refine kp_of F.d_xor F.g_xor sc_xor (fun _ _ _ _ _ _ us hl => match us, hl with | [_, _], _ => rfl) (fun vs H Q E h => ?_) (fun cdv A outer s H vs Q E hr h => ?_)
  · obtain ⟨a, b, rfl, _⟩ := h
    rfl
  · obtain ⟨a, b, rfl, hl, q⟩ := h
    refine ⟨_, (pss_one (ps_ret (pe_join pe_str (pe_lc (own := [("one", 2), ("two", 3)]) rfl sc_xor.nd (pi_zipS (by rfl) F.b_zip (pa_cons (pv 0) (pa_cons (pv 1) pa_nil))) (blkOk_by (own := [("one", 2), ("two", 3)]) (N := N_xor) (sc := defScope s_xor) (by decide +kernel)) (fun _ _ _ _ _ => (pg_tupK (K := K) (n := 2) (by rfl) (pgs_cons (pg_name (i := 2) sc_xor.nd rfl (Or.inl rfl)) (pgs_cons (pg_name (i := 3) sc_xor.nd rfl (Or.inl rfl)) pgs_nil)))) (fun _ _ _ _ _ => pts_nil) (fun _ _ _ _ _ => (pe_ifExp (pt_cmpR op_eq (pv 2) (pv 3) (nomark _)) pe_str pe_str)))))), ?_⟩
    refine ⟨⟨_, rfl⟩, _, rfl, _, rfl, bS a, bS b, rfl, fun D hD => lc_map walk_zipS (fun i => oneV (a.getD i false != b.getD i false)) hD ?_ (fun _ _ => trivial) (fun i x H1 H2 hi fr hy R S hR => ?_) (fun H' fr h => ?_)⟩
    · have e1 : (bS a).cps.size = a.length := bS_len a
      omega
    · obtain ⟨T, c, d, rfl, hT, rfl, hc, hd⟩ := hy
      have ec := bS_get hc
      have ed := bS_get hd
      subst ec ed
      refine ⟨T, _, rfl, SqT.at upd_same, rfl, _, _, rfl, _, _, rfl, rfl, rfl, yesT ⟨_, rfl, _, rfl, rfl, _, rfl, ?_⟩⟩
      rw [sgn_dec]
      have e2 := one_if (a.getD i false != b.getD i false)
      have f1 : Fr [] H1 (upd H1 T (.tup [.str ⟨#[sgn (a.getD i false)]⟩, .str ⟨#[sgn (b.getD i false)]⟩])) := Fr.new hT
      cases e : (a.getD i false == b.getD i false) with
      | true =>
        refine iteT ?_
        have := hR _ f1
        rw [show (a.getD i false != b.getD i false) = false from by rw [bne, e]; rfl] at this
        show R (V.str "0") _
        rw [bS_0]
        exact this
      | false =>
        refine iteF ?_
        have := hR _ f1
        rw [show (a.getD i false != b.getD i false) = true from by rw [bne, e]; rfl] at this
        show R (V.str "1") _
        rw [bS_1]
        exact this
    · have e1 : min (bS a).cps.size (bS b).cps.size = min a.length b.length := by rw [show (bS a).cps.size = a.length from bS_len a, show (bS b).cps.size = b.length from bS_len b]
      rw [e1, xorB_map] at h
      refine ⟨_, D, (xorB a b).map (fun b => bS [b]), rfl, rfl, .inl (SqL.at ?_), ?_, ?_⟩
      · rw [h, List.map_map]; rfl
      · rw [ones_len, List.length_map, xorB_len]
        have : (("" : Str)).length = 0 := by decide +kernel
        rw [this]
        refine sz ?_
        omega
      · rw [join_ones]
        exact q _ fr
/-! PermutationWorld -/
def PermAt (K : PySem.W.Frag) (H : Hp) (wd tp td : Addr) (l : Nat) (st : Tl) : Prop :=
  (∃ dx, H wd = some (.ins (ga K "PermutationWorld") dx (f_PermutationWorld (.ref tp) (.int l) (.ref td)))) ∧ H td = some (.dK (toldK st))
def spPermInit (K : PySem.W.Frag) : Sp := fun vs H Q _ => ∃ (x dx tp : Addr) (l : Nat), vs = [.ref x, .ref tp, .int l] ∧ H x = some (.ins (ga K "PermutationWorld") dx []) ∧
  ∀ (H' : Hp) (td : Addr), Fr [x] H H' → H td = none → PermAt K H' x tp td l [] → Q .non H'
theorem k_PermutationWorld_init (F : Fx K w mg) : Ki P w K mg base 1 "PermutationWorld" ["self", "tape", "l"] (spPermInit K) := by
  refine ki_of F.d_PermutationWorld_init F.g_PermutationWorld F.k_PermutationWorld sc_PermutationWorld_init (fun _ _ _ _ _ _ us hl => match us, hl with | [_, _, _], _ => rfl) (fun vs H Q E h => ?_) (fun cdv A outer s H vs Q E hr h => ?_)
  · obtain ⟨x, dx, tp, l, rfl, _⟩ := h
    rfl
  · obtain ⟨x, dx, tp, l, rfl, hx, q⟩ := h
    refine ⟨_, (pss_cons (ps_fld (pv 0) (pv 1) rfl)
        (pss_cons (ps_fld (pv 0) (pv 2) rfl)
        (pss_one (ps_fld (pv 0) pe_dnewK rfl)))), ?_⟩
    refine ⟨_, rfl, _, rfl, x, _, dx, _, rfl, hx, F.c_PermutationWorld, F.n_PermutationWorld_tape, (by show 0 < 1000; decide), ?_⟩
    have f1 : Fr [x] H (upd H x (.ins (ga K "PermutationWorld") dx (putF "tape" (.ref tp) []))) := Fr.put (by simp) hx rfl
    have hx1 : (upd H x (.ins (ga K "PermutationWorld") dx (putF "tape" (.ref tp) []))) x = some (.ins (ga K "PermutationWorld") dx (putF "tape" (.ref tp) [])) := upd_same
    generalize (upd H x (.ins (ga K "PermutationWorld") dx (putF "tape" (.ref tp) []))) = H1 at f1 hx1
    refine ⟨_, rfl, _, rfl, x, _, dx, _, rfl, hx1, F.c_PermutationWorld, F.n_PermutationWorld_l, (by show 1 < 1000; decide), ?_⟩
    have f2 : Fr [x] H (upd H1 x (.ins (ga K "PermutationWorld") dx (putF "l" (.int l) (putF "tape" (.ref tp) [])))) := f1.trans (Fr.put (by simp) hx1 rfl)
    have hx2 : (upd H1 x (.ins (ga K "PermutationWorld") dx (putF "l" (.int l) (putF "tape" (.ref tp) [])))) x = some (.ins (ga K "PermutationWorld") dx (putF "l" (.int l) (putF "tape" (.ref tp) []))) := upd_same
    generalize (upd H1 x (.ins (ga K "PermutationWorld") dx (putF "l" (.int l) (putF "tape" (.ref tp) [])))) = H2 at f2 hx2
    intro td nd
    have ndx : x ≠ td := ne_of_none hx2 nd
    refine ⟨_, rfl, x, _, dx, _, rfl, (by rw [upd_ne ndx]; exact hx2), F.c_PermutationWorld, F.n_PermutationWorld_told, (by show 2 < 1000; decide), ?_⟩
    refine q _ td (f2.trans ((Fr.new nd).trans (Fr.put (o := .ins (ga K "PermutationWorld") dx (putF "l" (.int l) (putF "tape" (.ref tp) []))) (by simp) (by rw [upd_ne ndx]; exact hx2) rfl))) (f2.no nd (by simp; exact ndx.symm)) ⟨⟨dx, ?_⟩, ?_⟩
    · rw [upd_same, mk_PermutationWorld]
    · rw [upd_ne ndx.symm, upd_same]
      rfl
theorem eqV_rows (a v : Bs) : eqV (rowV a) (rowV v) = (v == a) := by
  show (bS a == bS v) = (v == a)
  by_cases e : v = a
  · subst e; simp
  · rw [beq_eq_false_iff_ne.mpr e, beq_eq_false_iff_ne.mpr (bS_ne (fun z => e z.symm))]
theorem inV_rows (v : Bs) (xs : List Bs) : inV (rowV v) (xs.map rowV) = xs.contains v := by
  induction xs with
  | nil => rfl
  | cons a r ih =>
    have e1 : inV (rowV v) ((a :: r).map rowV) = (eqV (rowV a) (rowV v) || inV (rowV v) (r.map rowV)) := rfl
    rw [e1, ih, List.contains_cons, eqV_rows]
theorem flat_rows (xs : List Bs) : (xs.map rowV).all flatV = true := by
  induction xs with
  | nil => rfl
  | cons a r ih => rw [List.map_cons, List.all_cons, ih]; rfl
theorem toldK_vals (st : Tl) : (toldK st).map (·.2) = (st.map (·.2)).map rowV := by simp [toldK]
theorem bstrs_len (l : Nat) : (bstrs l).length = 2 ^ l := by simp [bstrs]
theorem fil_get {α : Type} (d : α) (xs : List α) (p : α → Bool) : ((List.range xs.length).filter fun i => p (xs.getD i d)).map (fun i => xs.getD i d) = xs.filter p := by
  have h1 : (List.range xs.length).map (fun i => xs.getD i d) = xs := by
    refine List.ext_getElem (by simp) fun i h1 h2 => ?_
    simp [List.getD_eq_getElem?_getD, List.getElem?_eq_getElem h2]
  have h2 := List.filter_map (p := p) (f := fun i => xs.getD i d) (l := List.range xs.length)
  rw [h1] at h2
  exact h2.symm
theorem fil_getF {α β : Type} (F : α → β) (d : α) (xs : List α) (p : α → Bool) : ((List.range xs.length).filter fun i => p (xs.getD i d)).map (fun i => F (xs.getD i d)) = (xs.filter p).map F := by
  rw [← fil_get d xs p, List.map_map]
  rfl
def spPerm (K : PySem.W.Frag) : Sp := fun vs H Q _ => ∃ (wd tp d td : Addr) (cs : List Nat) (ds : Dr) (l : Nat) (st : Tl) (s : Bs), vs = [.ref wd, .str (bS s)] ∧ TapeAt K H tp d cs ds ∧ PermAt K H wd tp td l st ∧
  s.length ≤ 1000 ∧ l ≤ 2 ∧ ds.length ≤ 900 ∧ st.length ≤ 1000 ∧ (ansP l st s).Val (cs.drop ds.length) ∧
  ∀ H', Fr [d, td] H H' → TapeAt K H' tp d cs (ds ++ ((ansP l st s).run (cs.drop ds.length)).1) → PermAt K H' wd tp td l ((ansP l st s).run (cs.drop ds.length)).2.2 → Q (.str (bS ((ansP l st s).run (cs.drop ds.length)).2.1)) H'
theorem k_PermutationWorld_answer (F : Fx K w mg) : Km P w K mg base 3 "PermutationWorld" "answer" ["self", "string"] (spPerm K) := by
  have k_bits : Kp P w K mg base 1 _ _ _ := k_bits F
  have k_Tape_draw : Km P w K mg base 1 _ _ _ _ := k_Tape_draw F
  refine km_of F.d_PermutationWorld_answer F.c_PermutationWorld F.m_PermutationWorld_answer sc_PermutationWorld_answer (fun _ _ _ _ _ _ us hl => match us, hl with | [_, _], _ => rfl) (fun vs H Q E h => ?_) (fun cdv A outer s H vs Q E hr h => ?_)
  · obtain ⟨wd, tp, d, td, cs, ds, l, st, s, rfl, _⟩ := h
    rfl
  · obtain ⟨wd, tp, d, td, cs, ds, l, st, s, rfl, ht, ⟨⟨dx, h1⟩, h2⟩, hs, hm, hl, hst, hv, q⟩ := h
    have hu := hu_of hr
    refine ⟨_, (pss_cons (ps_if (pt_cmpR op_ne (pe_callB call_len_str (by rfl) F.b_len (by decide +kernel) (pa_cons (pv 1) pa_nil)) (pe_fldK (K := K) (pv 0) rfl) (nomark _))
          (pss_one (ps_ret pe_str))
          pss_nil)
        (pss_cons (ps_if (pt_cmp (pc_dnotin hu (pv 1) (pe_fldK (K := K) (pv 0) rfl)))
          (pss_cons (ps_set (i := 2) sc_PermutationWorld_answer.nd rfl (Or.inr rfl) (pe_listVals rfl F.b_list (pe_fldK (K := K) (pv 0) rfl)))
          (pss_cons (ps_setLc (i := 3) (own := [("value", 4)]) (g := gName 4) rfl sc_PermutationWorld_answer.nd rfl rfl (sw_true rfl rfl rfl (by decide +kernel)) (pi_list (pe_lc (own := [("k", 5)]) (g := gName 5) rfl sc_PermutationWorld_answer.nd (pi_range1 (by rfl) F.b_range (pa_cons (pe_op op_shl pe_int (pe_fldK (K := K) (pv 0) rfl)) pa_nil)) (blkOk_by (own := [("k", 5)]) (N := N_PermutationWorld_answer) (sc := defScope s_PermutationWorld_answer) (by decide +kernel)) (fun _ _ _ _ _ => (pg_name (i := 5) sc_PermutationWorld_answer.nd rfl (Or.inl rfl))) (fun _ _ _ _ _ => pts_nil) (fun _ _ _ _ _ => (pe_k k_bits (hr.mono (by decide)) (pa_cons (pe_fldK (K := K) (pv 0) rfl) (pa_cons (pv 5) pa_nil)))))) (blkOk_by (own := [("value", 4)]) (N := N_PermutationWorld_answer) (sc := defScope s_PermutationWorld_answer) (by decide +kernel)) (fun _ _ _ _ _ => (pg_name (i := 4) sc_PermutationWorld_answer.nd rfl (Or.inl rfl))) (fun _ _ _ _ _ => pts_one (pt_cmpR (r := rIn K true) op_notIn_seq (pv 4) (pv 2) (by rfl))) (fun _ _ _ _ _ => (pv 4)))
          (pss_one (ps_dput hu (pe_fldK (K := K) (pv 0) rfl) (pv 1) (pe_ix (r := rIxL K) ix_list (pv 3) (pe_km (pe_fldK (K := K) (pv 0) rfl) k_Tape_draw (hr.mono (by decide)) (pa_cons (pe_callB call_len_seq (by rfl) F.b_len (by decide +kernel) (pa_cons (pv 3) pa_nil)) pa_nil)) (fun _ _ => rfl)) rfl))))
          pss_nil)
        (pss_one (ps_ret (pe_dget hu (pe_fldK (K := K) (pv 0) rfl) (pv 1) (fun _ _ => rfl)))))), ?_⟩
    refine ⟨_, rfl, _, rfl, (by rw [bS_len]; exact sz (by omega)), _, rfl, wd, _, dx, _, _, rfl, h1, F.c_PermutationWorld, F.n_PermutationWorld_l, lk_PermutationWorld_l, rfl, _, rfl, ?_⟩
    rw [bS_len, dec_natne]
    by_cases e : s.length = l
    · refine iteFd (by rw [decide_eq_true e]; rfl) ?_
      refine ⟨_, rfl, _, rfl, wd, _, dx, _, _, rfl, h1, F.c_PermutationWorld, F.n_PermutationWorld_told, lk_PermutationWorld_told, td, _, rfl, DGet.k (k := Sum.inr (bS s)) h2, _, rfl, ?_⟩
      rw [told_val]
      cases hk : st.lookup s with
      | some v =>
        have ea : ansP l st s = .ret (v, st) := by unfold ansP; rw [if_pos e, hk]
        rw [ea] at q
        refine iteF ?_
        refine ⟨_, rfl, wd, _, dx, _, _, rfl, h1, F.c_PermutationWorld, F.n_PermutationWorld_told, lk_PermutationWorld_told, _, rfl, td, rowV v, rfl, ?_, ?_⟩
        · have := DGet.k (k := Sum.inr (bS s)) h2
          rw [told_val, hk] at this
          exact this
        · refine q H (Fr.refl _ _) ?_ ⟨⟨dx, h1⟩, h2⟩
          simpa [T.run] using ht
      | none =>
        have ea : ansP l st s = .node (leftOf l st).length fun k => .ret ((leftOf l st).getD k [], st ++ [(s, (leftOf l st).getD k [])]) := by unfold ansP; rw [if_pos e, hk]
        rw [ea] at q hv
        simp only [T.run, T.Val, head_drop] at q hv
        refine iteT ?_
        obtain ⟨dxt, c, ts, t1, _⟩ := id ht.ex
        refine ⟨_, rfl, wd, _, dx, _, _, rfl, h1, F.c_PermutationWorld, F.n_PermutationWorld_told, lk_PermutationWorld_told, .inr (.inr (.inl ⟨rfl, .inl ⟨_, h2⟩⟩)), td, _, rfl, rfl, h2, fun p np => ⟨p, td, _, rfl, upd_same, (by rw [upd_ne (ne_of_none h2 np)]; exact h2), fun g ng => ?_⟩⟩
        have f1 : Fr [] H (upd (upd H p (viewHO p td)) g (.lst ((toldK st).map (·.2)))) := (Fr.new np).trans (Fr.new ng)
        have hg : (upd (upd H p (viewHO p td)) g (.lst ((toldK st).map (·.2)))) g = some (.lst ((st.map (·.2)).map rowV)) := by rw [upd_same, toldK_vals]
        generalize (upd (upd H p (viewHO p td)) g (.lst ((toldK st).map (·.2)))) = H1 at f1 hg
        have g1 := f1.at h1
        refine ⟨_, rfl, wd, _, dx, _, _, rfl, g1, F.c_PermutationWorld, F.n_PermutationWorld_l, lk_PermutationWorld_l, _, _, rfl, rfl, ⟨by omega, by omega, by decide⟩, ?_⟩
        have e2 : (1 : Int) * 2 ^ ((l : Nat) : Int).toNat = ((2 ^ l : Nat) : Int) := shl1 l
        have b2 : 2 ^ l ≤ 4 := Nat.le_trans (Nat.pow_le_pow_right (by decide) hm) (by decide)
        refine ⟨_, rfl, (by rw [e2]; exact Int.le_trans (by decide) (Int.natCast_nonneg _)), (by rw [e2]; exact Int.lt_of_le_of_lt (Int.ofNat_le.mpr b2) (by decide)), fun D nD => lc_map walk_range (fun k => rowV (bitsN l k)) nD (by rw [e2, Int.toNat_natCast]; omega) (fun _ _ => trivial) (fun i x G1 G2 hi fr hy R S hR => ?_) (fun H2 f2 hD => ?_)⟩
        · obtain ⟨rfl, rfl⟩ := hy
          exact ⟨rfl, yesT ⟨_, rfl, wd, _, dx, _, _, rfl, fr.at g1, F.c_PermutationWorld, F.n_PermutationWorld_l, lk_PermutationWorld_l, _, rfl, l, i, by simp, by omega, fun H' f => hR _ f⟩⟩
        · rw [e2, Int.toNat_natCast] at hD
          have hD2 : H2 D = some (.lst ((bstrs l).map rowV)) := by rw [hD, bstrs, List.map_map]; rfl
          refine ⟨D, rfl, ⟨_, SqL.at hD2⟩, fun D2 nD2 => lc_fil (walk_list (xs := (bstrs l).map rowV)) (fun i => !(st.map (·.2)).contains ((bstrs l).getD i [])) (fun i => rowV ((bstrs l).getD i [])) nD2 (by rw [List.length_map, bstrs_len]; omega) (fun H' f => SqL.at (f.at hD2)) (fun i x G1 G2 hi fr hy R S h1 h2 => ?_) (fun H3 f3 hD3 => ?_)⟩
          · obtain ⟨rfl, hx⟩ := hy
            have hi' : i < (bstrs l).length := by simpa using hi
            rw [List.getElem?_map, List.getElem?_eq_getElem hi'] at hx
            have hx' := Option.some.inj hx
            subst hx'
            have e5 : (bstrs l)[i] = (bstrs l).getD i [] := by rw [List.getD_eq_getElem?_getD, List.getElem?_eq_getElem hi']; rfl
            rw [e5]
            refine ⟨rfl, _, rfl, _, rfl, g, _, rfl, .inl (SqL.at ((f2.trans fr).at hg)), rfl, flat_rows _, ?_⟩
            rw [inV_rows]
            refine ⟨_, rfl, ?_⟩
            cases e6 : (st.map (·.2)).contains ((bstrs l).getD i []) with
            | true =>
              refine iteFd rfl ?_
              exact h2 (by rw [e6]; rfl) _ (Fr.refl _ _)
            | false =>
              refine iteTd rfl ⟨_, rfl, ?_⟩
              exact h1 (by rw [e6]; rfl) _ (Fr.refl _ _)
          · rw [List.length_map, fil_getF rowV [] (bstrs l) (fun v => !(st.map (·.2)).contains v)] at hD3
            have hD4 : H3 D2 = some (.lst ((leftOf l st).map rowV)) := hD3
            have f13 : Fr [] H H3 := f1.trans (f2.trans f3)
            refine ⟨_, rfl, _, rfl, wd, _, dx, _, _, rfl, f13.at h1, F.c_PermutationWorld, F.n_PermutationWorld_tape, lk_PermutationWorld_tape, tp, dxt, _, rfl, f13.at t1, no_Tape_draw, _, rfl, D2, _, rfl, .inl (SqL.at hD4), tp, d, cs, ds, (leftOf l st).length, by rw [List.length_map]; rfl, ht.fr0 f13, hv.1, hl, fun H4 f4 ht4 => ?_⟩
            obtain ⟨ts0, hd0⟩ := ht.at_d
            have n1 : D2 ≠ d := fun z => by rw [z, (f1.trans f2).at hd0] at nD2; cases nD2
            have nwd : wd ≠ d := apart h1 hd0 (fun z => by cases z)
            have ntd : td ≠ d := apart h2 hd0 (fun z => by cases z)
            have h1' := f4.1 _ _ (f13.at h1) (by simp; exact nwd)
            have h2' := f4.1 _ _ (f13.at h2) (by simp; exact ntd)
            have hD5 := f4.1 _ _ hD4 (by simp; exact n1)
            have hget : (leftOf l st)[cs.getD ds.length 0]? = some ((leftOf l st).getD (cs.getD ds.length 0) []) := by
              rw [List.getD_eq_getElem?_getD (l := leftOf l st), List.getElem?_eq_getElem hv.1]; rfl
            refine ⟨D2, _, _, rowV ((leftOf l st).getD (cs.getD ds.length 0) []), rfl, rfl, SqL.at hD5, atI_nat (by rw [List.getElem?_map, hget]; rfl), ?_⟩
            generalize hr2 : (leftOf l st).getD (cs.getD ds.length 0) [] = rv at q
            refine ⟨_, rfl, wd, _, dx, _, _, rfl, h1', F.c_PermutationWorld, F.n_PermutationWorld_told, lk_PermutationWorld_told, _, rfl, td, _, rfl, DPut.k (k := Sum.inr (bS s)) h2' (szl (by rw [toldK, List.length_map]; omega)), ?_⟩
            have f5 : Fr [d, td] H4 (upd H4 td (.dK (putK (toldK st) (Sum.inr (bS s)) (rowV rv)))) := Fr.put (by simp) h2' rfl
            have nwt : wd ≠ td := apart h1' h2' (fun z => by cases z)
            have h3 : (upd H4 td (.dK (putK (toldK st) (Sum.inr (bS s)) (rowV rv)))) td = some (.dK (toldK (st ++ [(s, rv)]))) := by rw [upd_same, told_put hk]
            have h4 : (upd H4 td (.dK (putK (toldK st) (Sum.inr (bS s)) (rowV rv)))) wd = some (.ins (ga K "PermutationWorld") dx (f_PermutationWorld (.ref tp) (.int l) (.ref td))) := by rw [upd_ne nwt]; exact h1'
            have ht2 : TapeAt K (upd H4 td (.dK (putK (toldK st) (Sum.inr (bS s)) (rowV rv)))) tp d cs (ds ++ [(cs.getD ds.length 0, (leftOf l st).length)]) := ht4.dict h2'
            refine ⟨_, rfl, wd, _, dx, _, _, rfl, h4, F.c_PermutationWorld, F.n_PermutationWorld_told, lk_PermutationWorld_told, _, rfl, td, rowV rv, rfl, ?_, ?_⟩
            · have := DGet.k (k := Sum.inr (bS s)) h3
              rw [told_val, lookup_app hk] at this
              exact this
            · exact q _ ((f13.of0.trans (f4.mono (by simp))).trans f5) ht2 ⟨⟨dx, h4⟩, h3⟩
    · refine iteTd (by rw [decide_eq_false e]; rfl) ?_
      have ea : ansP l st s = .ret ([], st) := by unfold ansP; rw [if_neg e]
      rw [ea] at q
      have := q H (Fr.refl _ _) (by simpa [T.run] using ht) ⟨⟨dx, h1⟩, h2⟩
      show Q (.str ("" : Str)) H
      rw [bS_nil]
      exact this
end
end BK
/-! Breakback k27: swaps. -/
namespace BK
open PySem PySem.Spec PyProof.Rows L2 He
theorem AnyAt.fr {K : PySem.W.Frag} {H H' : Hp} {M : List Addr} {wd tp td : Addr} {l m : Nat} {st : Tl} (h : AnyAt K H wd tp td l m st) (f : Fr M H H') (h1 : ∀ o, H wd = some o → wd ∉ M) (h2 : td ∉ M) : AnyAt K H' wd tp td l m st := by
  obtain ⟨⟨dx, a⟩, b⟩ := h
  exact ⟨⟨dx, f.1 _ _ a (h1 _ a)⟩, f.1 _ _ b h2⟩
theorem made_fr {H : Hp} {x dx : Addr} {o : HO} (h1 : H x = none) (h2 : H dx = none) (d : dx ≠ x) : Fr [] H (upd (upd H dx (.own x)) x o) := by
  refine (Fr.new h2).trans (Fr.new ?_)
  rw [upd_ne d.symm]
  exact h1
theorem ins_ne {H : Hp} {a b C C' dx dx' : Addr} {fs fs' : List (Str × V)} (h : H a = some (.ins C dx fs)) (h' : H b = some (.ins C' dx' fs')) (l : fs.length ≠ fs'.length) : a ≠ b :=
  apart h h' fun z => by injection z with _ _ z; exact l (congrArg List.length z)
def SwapAt (K : PySem.W.Frag) (H : Hp) (wd tp d : Addr) (h : Nat) (fl : Addr) (as tds : List Addr) (sts : List Tl) : Prop :=
  ∃ (dx : Addr), fl ≠ d ∧ H wd = some (.ins (ga K "SwapWorld") dx (f_SwapWorld (.int h) (.ref fl))) ∧ H fl = some (.lst (as.map V.ref)) ∧ as.length = sts.length ∧ tds.length = sts.length ∧ tds.Nodup ∧
    ∀ j, j < sts.length → AnyAt K H (as.getD j 0) tp (tds.getD j 0) h h (sts.getD j [])
section
variable {P : Program} {w : World} {K : PySem.W.Frag} {mg : Str → Option Value} {base : Heap}
def spSwapInit (K : PySem.W.Frag) : Sp := fun vs H Q _ => ∃ (x dx tp d : Addr) (ts : List V) (h r : Nat), vs = [.ref x, .ref tp, .int h, .int r] ∧ H x = some (.ins (ga K "SwapWorld") dx []) ∧ H d = some (.lst ts) ∧ r ≤ 10 ∧
  ∀ (H' : Hp) (fl : Addr) (as tds : List Addr), Fr [x] H H' → H fl = none → (∀ t, t ∈ as → H t = none) → (∀ t, t ∈ tds → H t = none) → SwapAt K H' x tp d h fl as tds (List.replicate r []) → Q .non H'
theorem k_SwapWorld_init (F : Fx K w mg) : Ki P w K mg base 3 "SwapWorld" ["self", "tape", "h", "rounds"] (spSwapInit K) := by
  have k_AnyWorld_init : Ki P w K mg base 1 _ _ _ := k_AnyWorld_init F
  refine ki_of F.d_SwapWorld_init F.g_SwapWorld F.k_SwapWorld sc_SwapWorld_init (fun _ _ _ _ _ _ us hl => match us, hl with | [_, _, _, _], _ => rfl) (fun vs H Q E h => ?_) (fun cdv A outer s H vs Q E hr h => ?_)
  · obtain ⟨x, dx, tp, d, ts, h, r, rfl, _⟩ := h
    rfl
  · obtain ⟨x, dx, tp, d, ts, h, r, rfl, hx, hd0, hr10, q⟩ := h
    refine ⟨_, (pss_cons (ps_fld (pv 0) (pv 2) rfl)
        (pss_one (ps_fld (pv 0) (pe_lc (own := [("_", 4)]) (g := gName 4) rfl sc_SwapWorld_init.nd (pi_range1 (by rfl) F.b_range (pa_cons (pv 3) pa_nil)) (blkOk_by (own := [("_", 4)]) (N := N_SwapWorld_init) (sc := defScope s_SwapWorld_init) (by decide +kernel)) (fun _ _ _ _ _ => (pg_name (i := 4) sc_SwapWorld_init.nd rfl (Or.inl rfl))) (fun _ _ _ _ _ => pts_nil) (fun _ _ _ _ _ => (pe_kiK k_AnyWorld_init (hr.mono (by decide)) (pa_cons (pv 1) (pa_cons (pv 2) (pa_cons (pv 2) pa_nil)))))) rfl))), ?_⟩
    refine ⟨_, rfl, _, rfl, x, _, dx, _, rfl, hx, F.c_SwapWorld, F.n_SwapWorld_h, (by show 0 < 1000; decide), ?_⟩
    have f1 : Fr [x] H (upd H x (.ins (ga K "SwapWorld") dx (putF "h" (.int h) []))) := Fr.put (by simp) hx rfl
    have hx1 : (upd H x (.ins (ga K "SwapWorld") dx (putF "h" (.int h) []))) x = some (.ins (ga K "SwapWorld") dx (putF "h" (.int h) [])) := upd_same
    generalize (upd H x (.ins (ga K "SwapWorld") dx (putF "h" (.int h) []))) = H1 at f1 hx1
    refine ⟨_, rfl, _, rfl, by omega, by omega, fun D hD => lc_it walk_range (fun i G => Fr [] H1 G ∧ ∃ as tds : List Addr, as.length = i ∧ tds.length = i ∧ tds.Nodup ∧ (∀ t, t ∈ tds → H t = none) ∧ (∀ t, t ∈ as → H t = none) ∧ G D = some (.lst (as.map V.ref)) ∧ (∀ j, j < i → AnyAt K G (as.getD j 0) tp (tds.getD j 0) h h []))
      ⟨Fr.new hD, [], [], rfl, rfl, .nil, (fun _ z => nomatch z), (fun _ z => nomatch z), upd_same, fun j hj => absurd hj (Nat.not_lt_zero j)⟩ (fun _ _ _ _ => trivial) ?_ (fun G p => ?_)⟩
    · intro i x0 G G' hi p y
      obtain ⟨rfl, rfl⟩ := y
      obtain ⟨fr, as, tds, ha, ht, hn, hno, hno2, hl, hA⟩ := p
      refine ⟨rfl, yesT ⟨_, rfl, _, rfl, _, rfl, fun z dz nz ndz ne => ?_⟩⟩
      have m1 := made_fr (o := .ins (ga K "AnyWorld") dz []) nz ndz ne
      refine ⟨z, dz, tp, h, h, rfl, upd_same, fun G2 td fG ntd hA2 => ⟨rfl, ?_⟩⟩
      have m2 : Fr [] G' G2 := m1.trans' fG fun a ha => by
        have : a = z := by simpa using ha
        rw [this]; exact .inr nz
      have ntd' : G' td = none := m1.free ntd
      have hDz : D ≠ z := ne_of_none hl nz
      refine ⟨as.map V.ref, m2.at hl, szl (by rw [List.length_map, ha]; omega), (fr.trans m2).own hD, as ++ [z], tds ++ [td], (by simp [ha]), (by simp [ht]), ?_, ?_, ?_, ?_, ?_⟩
      · rw [List.nodup_append]
        refine ⟨hn, by simp, fun a ha' b hb e => ?_⟩
        have eb : b = td := by simpa using hb
        subst eb
        subst e
        obtain ⟨j, hj, ej⟩ := List.getElem_of_mem ha'
        have := (hA j (by omega)).2
        rw [List.getD_eq_getElem?_getD (l := tds), List.getElem?_eq_getElem hj, Option.getD_some, ej, ntd'] at this
        cases this
      · intro t hmem
        rcases List.mem_append.mp hmem with hm | hm
        · exact hno t hm
        · have : t = td := by simpa using hm
          subst this
          refine f1.no (fr.free ntd') ?_
          intro zz
          have e1 : t = x := by simpa using zz
          subst e1
          have := fr.at hx1
          rw [ntd'] at this
          cases this
      · intro t hmem
        rcases List.mem_append.mp hmem with hm | hm
        · exact hno2 t hm
        · have : t = z := by simpa using hm
          subst this
          refine f1.no (fr.free nz) ?_
          intro zz
          have e1 : t = x := by simpa using zz
          subst e1
          have := fr.at hx1
          rw [nz] at this
          cases this
      · rw [upd_same, List.map_append]; rfl
      · intro j hj
        have fD : Fr [] G' (upd G2 D (.lst (as.map V.ref ++ [V.ref z]))) → True := fun _ => trivial
        have key : ∀ {a : Addr} {o : HO}, G2 a = some o → a ≠ D → (upd G2 D (.lst (as.map V.ref ++ [V.ref z]))) a = some o := fun {a o} e n => by rw [upd_ne n]; exact e
        by_cases e : j < i
        · obtain ⟨⟨dj, b1⟩, b2⟩ := hA j e
          have g1 : (as ++ [z]).getD j 0 = as.getD j 0 := by simp [List.getD_eq_getElem?_getD, List.getElem?_append_left (show j < as.length by omega)]
          have g2 : (tds ++ [td]).getD j 0 = tds.getD j 0 := by simp [List.getD_eq_getElem?_getD, List.getElem?_append_left (show j < tds.length by omega)]
          rw [g1, g2]
          exact ⟨⟨dj, key (m2.at b1) (apart b1 hl (fun z => by cases z))⟩, key (m2.at b2) (apart b2 hl (fun z => by cases z))⟩
        · have ej : j = i := by omega
          subst ej
          obtain ⟨⟨dj, b1⟩, b2⟩ := hA2
          have g1 : (as ++ [z]).getD j 0 = z := by simp [List.getD_eq_getElem?_getD, ← ha]
          have g2 : (tds ++ [td]).getD j 0 = td := by simp [List.getD_eq_getElem?_getD, ← ht]
          rw [g1, g2]
          exact ⟨⟨dj, key b1 hDz.symm⟩, key b2 (ne_of_none hl ntd').symm⟩
    · obtain ⟨fr, as, tds, ha, ht, hn, hno, hno2, hl, hA⟩ := p
      rw [Int.toNat_natCast] at ha ht hA
      refine ⟨_, rfl, x, _, dx, _, rfl, fr.at hx1, F.c_SwapWorld, F.n_SwapWorld_functions, (by show 1 < 1000; decide), ?_⟩
      have hx2 := fr.at hx1
      have f3 : Fr [x] G (upd G x (.ins (ga K "SwapWorld") dx (putF "functions" (.ref D) (putF "h" (.int h) [])))) := Fr.put (by simp) hx2 rfl
      have nDx : D ≠ x := apart hl hx2 (fun z => by cases z)
      refine q _ D as tds ((f1.trans fr.of0).trans f3) (f1.no hD (by simp; exact nDx)) hno2 hno ⟨dx, (fun z => by
        have := f1.1 _ _ hd0 (by simp; exact (apart hx hd0 (fun z => by cases z)).symm)
        rw [← z, hD] at this
        cases this), ?_, ?_, (by simp [ha]), (by simp [ht]), hn, fun j hj => ?_⟩
      · rw [upd_same, mk_SwapWorld]
      · rw [upd_ne nDx]; exact hl
      · have hj' : j < r := by simpa using hj
        have e : (List.replicate r ([] : Tl)).getD j [] = [] := by simp [List.getD_eq_getElem?_getD, List.getElem?_replicate, hj']
        rw [e]
        obtain ⟨⟨dj, b1⟩, b2⟩ := hA j hj'
        refine AnyAt.fr ⟨⟨dj, b1⟩, b2⟩ f3 (fun o ho => ?_) ?_
        · exact fun z => ins_ne b1 hx2 (show (4 : Nat) ≠ 1 from by decide) (List.mem_singleton.mp z)
        · simp
          exact apart b2 hx2 (fun z => by cases z)
theorem take_min {α : Type} (h n : Nat) (xs : List α) (e : xs.length ≤ n) : xs.take (min h n) = xs.take h := by
  by_cases l : h ≤ n
  · rw [Nat.min_eq_left l]
  · rw [Nat.min_eq_right (by omega), List.take_of_length_le e, List.take_of_length_le (by omega)]
theorem cut_lo {s : Bs} {h : Nat} : cutS (bS s) none (some ((h : Nat) : Int)) = bS (s.take h) := by
  rw [cutS, HT.sIx_none, HT.sIx_nat, bS_cps, bS_len, Nat.sub_zero, List.drop_zero, take_min _ _ _ (by simp), ← List.map_take]
  rfl
theorem cut_hi {s : Bs} {h : Nat} : cutS (bS s) (some ((h : Nat) : Int)) none = bS (s.drop h) := by
  rw [cutS, HT.sIx_none, HT.sIx_nat, bS_cps, bS_len]
  have e : List.take (s.length - min h s.length) (List.drop (min h s.length) (s.map sgn)) = (s.drop h).map sgn := by
    rw [List.take_of_length_le (by simp), List.map_drop]
    by_cases l : h ≤ s.length
    · rw [Nat.min_eq_left l]
    · rw [Nat.min_eq_right (by omega), List.drop_of_length_le (by simp), List.drop_of_length_le (by simp; omega)]
  rw [e]
  rfl
theorem drop_set1 {α : Type} (x : α) : ∀ (l : List α) (i : Nat), (l.set i x).drop (i + 1) = l.drop (i + 1)
  | [], i => by simp
  | a :: r, 0 => rfl
  | a :: r, i + 1 => by rw [List.set_cons_succ, List.drop_succ_cons, List.drop_succ_cons, drop_set1 x r i]
theorem take_set1 {α : Type} (x : α) : ∀ (l : List α) (i : Nat), i < l.length → (l.set i x).take (i + 1) = l.take i ++ [x]
  | [], i, h => absurd h (Nat.not_lt_zero i)
  | a :: r, 0, _ => rfl
  | a :: r, i + 1, h => by rw [List.set_cons_succ, List.take_succ_cons, List.take_succ_cons, take_set1 x r i (by simpa using h), List.cons_append]
theorem nodup_ne : ∀ {l : List Addr}, l.Nodup → ∀ {i j : Nat}, i < j → j < l.length → l.getD i 0 ≠ l.getD j 0
  | [], _, i, j, _, h => absurd h (Nat.not_lt_zero j)
  | x :: r, n, 0, j + 1, _, h => by
    have h' : j < r.length := by simpa using h
    rw [List.getD_cons_zero, List.getD_cons_succ]
    intro e
    have : x ∈ r := by
      rw [e, List.getD_eq_getElem?_getD, List.getElem?_eq_getElem h']
      exact List.getElem_mem h'
    exact (List.nodup_cons.mp n).1 this
  | x :: r, n, i + 1, j + 1, l, h => by
    rw [List.getD_cons_succ, List.getD_cons_succ]
    exact nodup_ne (List.nodup_cons.mp n).2 (by omega) (by simpa using h)
theorem getD_mem {l : List Addr} {j : Nat} (h : j < l.length) : l.getD j 0 ∈ l := by
  rw [List.getD_eq_getElem?_getD, List.getElem?_eq_getElem h]
  exact List.getElem_mem h
theorem drop_getD {α : Type} (z : α) : ∀ (l : List α) (i : Nat), i < l.length → l.drop i = l.getD i z :: l.drop (i + 1)
  | [], i, h => absurd h (Nat.not_lt_zero i)
  | a :: r, 0, _ => rfl
  | a :: r, i + 1, h => by rw [List.drop_succ_cons, List.getD_cons_succ, List.drop_succ_cons, drop_getD z r i (by simpa using h)]
theorem getD_set1 {α : Type} (z x : α) (l : List α) (i j : Nat) (h : i < l.length) : (l.set i x).getD j z = if i = j then x else l.getD j z := by
  rw [List.getD_eq_getElem?_getD, List.getElem?_set]
  by_cases e : i = j
  · rw [if_pos e, if_pos e, if_pos h]; rfl
  · rw [if_neg e, if_neg e, List.getD_eq_getElem?_getD]
theorem goS_cons_run {h : Nat} {st : Tl} {ts : List Tl} {a b : Bs} {cs : List Nat} : (goS h (st :: ts) a b).run cs =
    (((ansF h h st b).run cs).1 ++ ((goS h ts b (xorB a ((ansF h h st b).run cs).2.1)).run (cs.drop ((ansF h h st b).run cs).1.length)).1,
      ((goS h ts b (xorB a ((ansF h h st b).run cs).2.1)).run (cs.drop ((ansF h h st b).run cs).1.length)).2.1, ((ansF h h st b).run cs).2.2 :: ((goS h ts b (xorB a ((ansF h h st b).run cs).2.1)).run (cs.drop ((ansF h h st b).run cs).1.length)).2.2) := by
  rw [goS, run_bind, run_bind]
  simp [T.run]
theorem goS_cons_val {h : Nat} {st : Tl} {ts : List Tl} {a b : Bs} {cs : List Nat} (v : (goS h (st :: ts) a b).Val cs) :
    (ansF h h st b).Val cs ∧ (goS h ts b (xorB a ((ansF h h st b).run cs).2.1)).Val (cs.drop ((ansF h h st b).run cs).1.length) := by
  rw [goS] at v
  have v1 := (Val_bind _ _ _).mp v
  exact ⟨v1.1, ((Val_bind _ _ _).mp v1.2).1⟩
def spSwap (K : PySem.W.Frag) : Sp := fun vs H Q _ => ∃ (wd tp d fl : Addr) (as tds : List Addr) (cs : List Nat) (ds : Dr) (h : Nat) (sts : List Tl) (s : Bs), vs = [.ref wd, .str (bS s)] ∧ TapeAt K H tp d cs ds ∧ SwapAt K H wd tp d h fl as tds sts ∧
  s.length ≤ 1000 ∧ h ≤ 20 ∧ ds.length ≤ 800 ∧ sts.length ≤ 10 ∧ (∀ x, x ∈ sts → x.length ≤ 1000) ∧ (ansS h sts s).Val (cs.drop ds.length) ∧
  ∀ H', Fr (d :: tds) H H' → TapeAt K H' tp d cs (ds ++ ((ansS h sts s).run (cs.drop ds.length)).1) → SwapAt K H' wd tp d h fl as tds ((ansS h sts s).run (cs.drop ds.length)).2.2 → Q (.str (bS ((ansS h sts s).run (cs.drop ds.length)).2.1)) H'
theorem k_SwapWorld_answer (F : Fx K w mg) : Km P w K mg base 4 "SwapWorld" "answer" ["self", "string"] (spSwap K) := by
  have k_AnyWorld_answer : Km P w K mg base 3 _ _ _ _ := k_AnyWorld_answer F
  have k_xor : Kp P w K mg base 1 _ _ _ := k_xor F
  refine km_of F.d_SwapWorld_answer F.c_SwapWorld F.m_SwapWorld_answer sc_SwapWorld_answer (fun _ _ _ _ _ _ us hl => match us, hl with | [_, _], _ => rfl) (fun vs H Q E h => ?_) (fun cdv A outer s0 H vs Q E hr h => ?_)
  · obtain ⟨wd, tp, d, fl, as, tds, cs, ds, h, sts, s, rfl, _⟩ := h
    rfl
  · obtain ⟨wd, tp, d, fl, as, tds, cs, ds, h, sts, s, rfl, ht, hsw, hs, hm, hl, hst, hsz, hv, q⟩ := h
    obtain ⟨dx, hfd, h1, h2, ha, htd, hn, hA⟩ := id hsw
    refine ⟨_, (pss_cons (ps_if (pt_cmpR op_ne (pe_callB call_len_str (by rfl) F.b_len (by decide +kernel) (pa_cons (pv 1) pa_nil)) (pe_op op_mul pe_int (pe_fldK (K := K) (pv 0) rfl)) (nomark _))
          (pss_one (ps_ret pe_str))
          pss_nil)
        (pss_cons (ps_par (i := 2) (j := 3) (by rfl) sc_SwapWorld_answer.nd rfl rfl (by decide) rfl rfl (pa_cons (pe_slice sl_str (pv 1) po_none (po_some (pe_fldK (K := K) (pv 0) rfl))) (pa_cons (pe_slice sl_str (pv 1) (po_some (pe_fldK (K := K) (pv 0) rfl)) po_none) pa_nil)) (by rfl))
        (pss_cons (ps_for PassesOwn.never rfl (pi_list (pe_fldK (K := K) (pv 0) rfl)) (pg_name (i := 4) sc_SwapWorld_answer.nd rfl (Or.inl rfl))
          (pss_one (ps_par (i := 2) (j := 3) (by rfl) sc_SwapWorld_answer.nd rfl rfl (by decide) rfl rfl (pa_cons (pv 3) (pa_cons (pe_k k_xor (hr.mono (by decide)) (pa_cons (pv 2) (pa_cons (pe_km (pv 4) k_AnyWorld_answer (hr.mono (by decide)) (pa_cons (pv 3) pa_nil)) pa_nil))) pa_nil)) (by rfl))))
        (pss_one (ps_ret (pe_op op_add_str (pv 2) (pv 3))))))), ?_⟩
    refine ⟨_, rfl, _, rfl, (by rw [bS_len]; exact sz (by omega)), _, rfl, wd, _, dx, _, _, rfl, h1, F.c_SwapWorld, F.n_SwapWorld_h, lk_SwapWorld_h, _, _, rfl, rfl, .inl ⟨by decide, by decide⟩, rfl, _, rfl, ?_⟩
    have e2 : (2 : Int) * (h : Int) = ((2 * h : Nat) : Int) := by omega
    by_cases e : s.length = 2 * h
    · refine iteFd (by show (!decide (V.int ((bS s).length : Int) = V.int (2 * (h : Int)))) = false; rw [bS_len, e2, dec_natne, decide_eq_true e]; rfl) ?_
      have ea : ansS h sts s = (goS h sts (s.take h) (s.drop h)).bind fun r => .ret (r.1.1 ++ r.1.2, r.2) := by unfold ansS; rw [if_pos e]
      rw [ea] at q hv
      rw [run_bind] at q
      simp only [T.run, List.append_nil] at q
      have hv1 := (Val_bind _ _ _).mp hv
      have hv2 := hv1.1
      generalize hR : (goS h sts (s.take h) (s.drop h)).run (cs.drop ds.length) = R at q
      refine ⟨_, rfl, _, rfl, wd, _, dx, _, _, rfl, h1, F.c_SwapWorld, F.n_SwapWorld_h, lk_SwapWorld_h, ?_⟩
      refine ⟨_, rfl, _, rfl, (by rw [bS_len]; exact sz (by omega)), _, rfl, _, rfl, wd, _, dx, _, _, rfl, h1, F.c_SwapWorld, F.n_SwapWorld_h, lk_SwapWorld_h, _, rfl, _, rfl, (by rw [bS_len]; exact sz (by omega)), _, _, rfl, ?_⟩
      rw [cut_lo, cut_hi]
      have htl : ∀ t, t ∈ tds → ∃ kvs, H t = some (.dK kvs) := by
        intro t hmem
        obtain ⟨j, hj, ej⟩ := List.getElem_of_mem hmem
        have := (hA j (by omega)).2
        rw [List.getD_eq_getElem?_getD (l := tds), List.getElem?_eq_getElem hj, Option.getD_some, ej] at this
        exact ⟨_, this⟩
      obtain ⟨ts0, hd0⟩ := ht.at_d
      have nwd : wd ∉ d :: tds := by
        intro z
        rcases List.mem_cons.mp z with z | z
        · exact apart h1 hd0 (fun z => by cases z) z
        · obtain ⟨kvs, hk⟩ := htl _ z
          rw [h1] at hk
          cases hk
      have nfl : fl ∉ d :: tds := by
        intro z
        rcases List.mem_cons.mp z with z | z
        · exact hfd z
        · obtain ⟨kvs, hk⟩ := htl _ z
          rw [h2] at hk
          cases hk
      refine ⟨_, rfl, wd, _, dx, _, _, rfl, h1, F.c_SwapWorld, F.n_SwapWorld_functions, lk_SwapWorld_functions, fl, rfl, ⟨_, SqL.at h2⟩, for_list (xs := as.map V.ref) (fun i σ H' =>
        ∃ (y : Option V) (a b : Bs) (cur : List Tl) (ds' : Dr), σ = [some (.ref wd), some (.str (bS s)), some (.str (bS a)), some (.str (bS b)), y] ∧ Fr (d :: tds) H H' ∧ TapeAt K H' tp d cs ds' ∧ cur.length = sts.length ∧
          (∀ j, j < sts.length → AnyAt K H' (as.getD j 0) tp (tds.getD j 0) h h (cur.getD j [])) ∧ (goS h (cur.drop i) a b).Val (cs.drop ds'.length) ∧ ds' ++ ((goS h (cur.drop i) a b).run (cs.drop ds'.length)).1 = ds ++ R.1 ∧
          ((goS h (cur.drop i) a b).run (cs.drop ds'.length)).2.1 = R.2.1 ∧ cur.take i ++ ((goS h (cur.drop i) a b).run (cs.drop ds'.length)).2.2 = R.2.2 ∧ a.length ≤ 1000 ∧ b.length ≤ 1000 ∧ ds'.length ≤ 800 + i ∧ ∀ x, x ∈ cur.drop i → x.length ≤ 1000)
        ⟨none, s.take h, s.drop h, sts, ds, rfl, Fr.refl _ _, ht, rfl, hA, hv2, (by rw [List.drop_zero, hR]), (by rw [List.drop_zero, hR]), (by rw [List.drop_zero, hR]; rfl), (by simp; omega), (by simp; omega), (by omega), (by rw [List.drop_zero]; exact hsz)⟩
        (fun i σ H' _ p => ?_) (fun i x σ H' hx p => ?_) (fun σ H' p => ?_)⟩
      · obtain ⟨y, a, b, cur, ds', rfl, f, _⟩ := p
        exact SqL.at (f.1 _ _ h2 nfl)
      · obtain ⟨y, a, b, cur, ds', rfl, f, ht', hcl, hA', hv', r1, r2, r3, la, lb, ld, lx⟩ := p
        have hi : i < as.length := by
          have := List.getElem?_eq_some_iff.mp hx
          obtain ⟨z, _⟩ := this
          simpa using z
        have hi2 : i < sts.length := by omega
        have hx' : x = .ref (as.getD i 0) := by
          rw [List.getElem?_map, List.getElem?_eq_getElem hi] at hx
          rw [List.getD_eq_getElem?_getD, List.getElem?_eq_getElem hi]
          exact (Option.some.inj hx).symm
        subst hx'
        rw [drop_getD [] cur i (by omega)] at hv' r1 r2 r3 lx
        rw [goS_cons_run] at r1 r2 r3
        obtain ⟨v1, v2⟩ := goS_cons_val hv'
        obtain ⟨⟨dj, b1⟩, b2⟩ := hA' i hi2
        refine ⟨_, rfl, _, rfl, _, rfl, _, dj, _, rfl, b1, no_AnyWorld_answer, _, rfl, _, tp, d, _, cs, ds', h, h, _, b, rfl, ht', ⟨⟨dj, b1⟩, b2⟩, lb, hm, by omega, lx _ List.mem_cons_self, v1, fun H2 f2 ht2 hA2 => ?_⟩
        refine ⟨a, _, rfl, la, fun H3 f3 => ⟨_, _, rfl, ?_⟩⟩
        have hlen := ansF_len h h (cur.getD i []) b (cs.drop ds'.length)
        generalize (ansF h h (cur.getD i []) b).run (cs.drop ds'.length) = rF at r1 r2 r3 v2 ht2 hA2 hlen
        have ed : cs.drop (ds' ++ rF.1).length = (cs.drop ds'.length).drop rF.1.length := by rw [List.length_append, List.drop_drop]
        have hi3 : i < cur.length := by omega
        refine ⟨some (.ref (as.getD i 0)), b, xorB a rF.2.1, cur.set i rF.2.2, ds' ++ rF.1, rfl, ?_, ht2.fr0 f3, by rw [List.length_set]; exact hcl, fun j hj => ?_, ?_, ?_, ?_, ?_, lb, ?_, ?_, ?_⟩
        · refine (f.trans (f2.mono fun z hz => ?_)).trans f3.of0
          rcases List.mem_cons.mp hz with e1 | e1
          · rw [e1]; exact List.mem_cons_self
          · have e3 : z = tds.getD i 0 := by simpa using e1
            rw [e3]
            exact List.mem_cons_of_mem _ (getD_mem (by omega))
        · rw [getD_set1 _ _ _ _ _ hi3]
          by_cases eij : i = j
          · subst eij
            rw [if_pos rfl]
            exact hA2.fr f3 (fun _ _ z => nomatch z) (fun z => nomatch z)
          · rw [if_neg eij]
            obtain ⟨ts1, hd1⟩ := ht'.at_d
            obtain ⟨⟨dk, c1⟩, c2⟩ := hA' j hj
            refine (AnyAt.fr ⟨⟨dk, c1⟩, c2⟩ f2 (fun o ho z => ?_) (fun z => ?_)).fr f3 (fun _ _ z => nomatch z) (fun z => nomatch z)
            · rcases List.mem_cons.mp z with e1 | e1
              · exact apart c1 hd1 (fun z => by cases z) e1
              · have e3 : as.getD j 0 = tds.getD i 0 := List.mem_singleton.mp e1
                exact apart c1 b2 (fun z => by cases z) e3
            · rcases List.mem_cons.mp z with e1 | e1
              · exact apart c2 hd1 (fun z => by cases z) e1
              · have e3 : tds.getD j 0 = tds.getD i 0 := List.mem_singleton.mp e1
                rcases Nat.lt_or_gt_of_ne eij with l | l
                · exact nodup_ne hn l (by omega) e3.symm
                · exact nodup_ne hn l (by omega) e3
        · rw [drop_set1, ed]; exact v2
        · rw [drop_set1, ed, List.append_assoc]; exact r1
        · rw [drop_set1, ed]; exact r2
        · rw [drop_set1, ed, take_set1 _ _ _ hi3, List.append_assoc]; exact r3
        · rw [xorB_len]; omega
        · rw [List.length_append]; omega
        · rw [drop_set1]; exact fun x hx => lx x (List.mem_cons_of_mem _ hx)
      · obtain ⟨y, a, b, cur, ds', rfl, f, ht', hcl, hA', hv', r1, r2, r3, la, lb, ld, lx⟩ := p
        have e9 : cur.drop (as.map V.ref).length = [] := List.drop_eq_nil_of_le (by rw [List.length_map]; omega)
        have e8 : cur.take (as.map V.ref).length = cur := List.take_of_length_le (by rw [List.length_map]; omega)
        rw [e9] at r1 r2 r3
        rw [e8] at r3
        simp only [goS, T.run, List.append_nil] at r1 r2 r3
        subst r3
        have e7 : R.2.1.1 = a ∧ R.2.1.2 = b := by rw [← r2]; exact ⟨rfl, rfl⟩
        rw [e7.1, e7.2, ← r1] at q
        refine ⟨_, rfl, _, rfl, _, _, rfl, rfl, ?_, ?_⟩
        · rw [bS_len, bS_len]; exact sz (by omega)
        · rw [bS_app]
          refine q H' f ht' ⟨dx, hfd, f.1 _ _ h1 nwd, f.1 _ _ h2 nfl, by omega, by omega, hn, fun j hj => hA' j (by omega)⟩
    · refine iteTd (by show (!decide (V.int ((bS s).length : Int) = V.int (2 * (h : Int)))) = true; rw [bS_len, e2, dec_natne, decide_eq_false e]; rfl) ?_
      have ea : ansS h sts s = .ret ([], sts) := by unfold ansS; rw [if_neg e]
      rw [ea] at q
      have := q H (Fr.refl _ _) (by simpa [T.run] using ht) hsw
      show Q (.str ("" : Str)) H
      rw [bS_nil]
      exact this
end
end BK
/-! Breakback k27: a world in general; what notes it; Stopped. -/
namespace BK
open PySem PySem.Spec PyProof.Rows L2 He
/-- a world: its class, its answers as a tree of draws, how it stands (own: its objects), its size -/
structure Wd (K : PySem.W.Frag) where
  S : Type
  C : Str
  ans : S → Bs → T (Bs × S)
  At : Hp → Addr → Addr → Addr → List Addr → S → Prop
  good : S → Nat → Prop
def spWorld {K : PySem.W.Frag} (W : Wd K) : Sp := fun vs H Q _ => ∃ (wd tp d : Addr) (own : List Addr) (cs : List Nat) (ds : Dr) (st : W.S) (s : Bs), vs = [.ref wd, .str (bS s)] ∧ TapeAt K H tp d cs ds ∧ W.At H wd tp d own st ∧
  s.length ≤ 1000 ∧ ds.length ≤ 700 ∧ W.good st ds.length ∧ (W.ans st s).Val (cs.drop ds.length) ∧
  ∀ H', Fr (d :: own) H H' → TapeAt K H' tp d cs (ds ++ ((W.ans st s).run (cs.drop ds.length)).1) → W.At H' wd tp d own ((W.ans st s).run (cs.drop ds.length)).2.2 → Q (.str (bS ((W.ans st s).run (cs.drop ds.length)).2.1)) H'
/-- what is asked of a world -/
structure WOk {K : PySem.W.Frag} (P : Program) (w : World) (mg : Str → Option Value) (base : Heap) (W : Wd K) : Prop where
  km : Km P w K mg base 4 W.C "answer" ["self", "string"] (spWorld W)
  cls : ∀ {H wd tp d own st}, W.At H wd tp d own st → ∃ dx fs, H wd = some (.ins (ga K W.C) dx fs) ∧ fs.lookup ("answer" : Str) = none
  fr : ∀ {H H' N wd tp d own st}, W.At H wd tp d own st → Fr N H H' → (∀ a, a ∈ N → a ∉ own) → W.At H' wd tp d own st
  ex : ∀ {H wd tp d own st}, W.At H wd tp d own st → ∀ a, a ∈ own → ∃ o, H a = some o
  len : ∀ st s cs n, W.good st n → n ≤ 700 → ((W.ans st s).run cs).1.length ≤ 4 ∧ ((W.ans st s).run cs).2.1.length ≤ 40 ∧ W.good ((W.ans st s).run cs).2.2 (n + ((W.ans st s).run cs).1.length)
  mono : ∀ {st n m}, W.good st n → n ≤ m → W.good st m
def NotesAt (K : PySem.W.Frag) (H : Hp) (nt wd ka : Addr) (k : Nat) : Prop := (∃ dn, H nt = some (.ins (ga K "Notes") dn (f_Notes (.ref wd) (.ref ka)))) ∧ ∃ rs, H ka = some (.lst rs) ∧ rs.length ≤ k
theorem NotesAt.fr {K : PySem.W.Frag} {H H' : Hp} {N : List Addr} {nt wd ka : Addr} {k : Nat} (h : NotesAt K H nt wd ka k) (f : Fr N H H') (h1 : nt ∉ N) (h2 : ka ∉ N) : NotesAt K H' nt wd ka k := by
  obtain ⟨⟨dn, a⟩, rs, b, c⟩ := h
  exact ⟨⟨dn, f.1 _ _ a h1⟩, rs, f.1 _ _ b h2, c⟩
/-- how the notes and the tape lie: apart from what the world changes -/
structure Env (K : PySem.W.Frag) (H : Hp) (nt ka tp d : Addr) (own : List Addr) : Prop where
  n1 : nt ∉ d :: own
  n2 : ka ∉ d :: own
  n3 : tp ∉ ka :: d :: own
  nd : d ∉ own
  off : ∃ dx c, H tp = some (.ins (ga K "Tape") dx (f_Tape (.ref c) (.ref d))) ∧ ka ≠ c
theorem Env.fr {K : PySem.W.Frag} {H H' : Hp} {nt ka tp d : Addr} {own N : List Addr} (h : Env K H nt ka tp d own) (f : Fr N H H') (hN : ∀ a, a ∈ N → a ∈ ka :: d :: own) : Env K H' nt ka tp d own := by
  obtain ⟨dx, c, h1, h2⟩ := h.off
  exact ⟨h.n1, h.n2, h.n3, h.nd, dx, c, f.1 _ _ h1 (fun z => h.n3 (hN _ z)), h2⟩
theorem TapeAt.app {K : PySem.W.Frag} {H : Hp} {nt ka tp d : Addr} {own : List Addr} {cs : List Nat} {ds : Dr} {u : HO} {rs : List V} (h : TapeAt K H tp d cs ds) (e : Env K H nt ka tp d own) (hk : H ka = some (.lst rs)) : TapeAt K (upd H ka u) tp d cs ds := by
  obtain ⟨dx, c, h1, h2⟩ := e.off
  obtain ⟨dx', c', ts, t1, t2, t3, t4, t5, t6⟩ := h.ex
  have ec : c' = c := by
    rw [t1] at h1
    injection h1 with h1
    injection h1 with _ _ h1
    simp only [f_Tape, List.cons.injEq, Prod.mk.injEq, V.ref.injEq] at h1
    exact h1.1.2
  subst ec
  have nkd : ka ≠ d := fun z => e.n2 (by rw [z]; exact List.mem_cons_self)
  have f : Fr [ka] H (upd H ka u) := Fr.put (by simp) hk rfl
  refine ⟨dx', c', ts, ?_, ?_, ?_, paired_map (fun u x h => h.mono f.2) t4, t5, t6⟩
  · rw [upd_ne (apart t1 hk (fun z => by cases z))]; exact t1
  · rw [upd_ne h2.symm]; exact t2
  · rw [upd_ne nkd.symm]; exact t3
section
variable {P : Program} {w : World} {K : PySem.W.Frag} {mg : Str → Option Value} {base : Heap}
/-! Notes -/
def spNotesInit (K : PySem.W.Frag) : Sp := fun vs H Q _ => ∃ (x dx wd : Addr), vs = [.ref x, .ref wd] ∧ H x = some (.ins (ga K "Notes") dx []) ∧
  ∀ (H' : Hp) (ka : Addr), Fr [x] H H' → H ka = none → NotesAt K H' x wd ka 0 → Q .non H'
theorem k_Notes_init (F : Fx K w mg) : Ki P w K mg base 1 "Notes" ["self", "world"] (spNotesInit K) := by
  refine ki_of F.d_Notes_init F.g_Notes F.k_Notes sc_Notes_init (fun _ _ _ _ _ _ us hl => match us, hl with | [_, _], _ => rfl) (fun vs H Q E h => ?_) (fun cdv A outer s H vs Q E hr h => ?_)
  · obtain ⟨x, dx, wd, rfl, _⟩ := h
    rfl
  · obtain ⟨x, dx, wd, rfl, hx, q⟩ := h
    refine ⟨_, (pss_cons (ps_fld (pv 0) (pv 1) rfl)
        (pss_one (ps_fld (pv 0) (pe_lst pa_nil) rfl))), ?_⟩
    refine ⟨_, rfl, _, rfl, x, _, dx, _, rfl, hx, F.c_Notes, F.n_Notes_world, (by show 0 < 1000; decide), ?_⟩
    have f1 : Fr [x] H (upd H x (.ins (ga K "Notes") dx (putF "world" (.ref wd) []))) := Fr.put (by simp) hx rfl
    have hx1 : (upd H x (.ins (ga K "Notes") dx (putF "world" (.ref wd) []))) x = some (.ins (ga K "Notes") dx (putF "world" (.ref wd) [])) := upd_same
    generalize (upd H x (.ins (ga K "Notes") dx (putF "world" (.ref wd) []))) = H1 at f1 hx1
    refine ⟨sz (by simp), fun d nd => ?_⟩
    have ndx : x ≠ d := ne_of_none hx1 nd
    refine ⟨_, rfl, x, _, dx, _, rfl, (by rw [upd_ne ndx]; exact hx1), F.c_Notes, F.n_Notes_asked, (by show 1 < 1000; decide), ?_⟩
    refine q _ d (f1.trans ((Fr.new nd).trans (Fr.put (o := .ins (ga K "Notes") dx (putF "world" (.ref wd) [])) (by simp) (by rw [upd_ne ndx]; exact hx1) rfl))) (f1.no nd (by simp; exact ndx.symm)) ⟨⟨dx, ?_⟩, [], ?_, by simp⟩
    · rw [upd_same, mk_Notes]
    · rw [upd_ne ndx.symm, upd_same]
def spNotes {K : PySem.W.Frag} (W : Wd K) : Sp := fun vs H Q _ => ∃ (nt ka wd tp d : Addr) (own : List Addr) (k : Nat) (cs : List Nat) (ds : Dr) (st : W.S) (s : Bs), vs = [.ref nt, .str (bS s)] ∧ NotesAt K H nt wd ka k ∧ Env K H nt ka tp d own ∧ k ≤ 900 ∧ TapeAt K H tp d cs ds ∧ W.At H wd tp d own st ∧
  s.length ≤ 1000 ∧ ds.length ≤ 700 ∧ W.good st ds.length ∧ (W.ans st s).Val (cs.drop ds.length) ∧
  ∀ H', Fr (ka :: d :: own) H H' → NotesAt K H' nt wd ka (k + 1) → TapeAt K H' tp d cs (ds ++ ((W.ans st s).run (cs.drop ds.length)).1) → W.At H' wd tp d own ((W.ans st s).run (cs.drop ds.length)).2.2 → Q (.str (bS ((W.ans st s).run (cs.drop ds.length)).2.1)) H'
theorem k_Notes_answer (F : Fx K w mg) {W : Wd K} (O : WOk P w mg base W) : Km P w K mg base 5 "Notes" "answer" ["self", "string"] (spNotes W) := by
  have k_W_answer : Km P w K mg base 4 _ _ _ _ := O.km
  refine km_of F.d_Notes_answer F.c_Notes F.m_Notes_answer sc_Notes_answer (fun _ _ _ _ _ _ us hl => match us, hl with | [_, _], _ => rfl) (fun vs H Q E h => ?_) (fun cdv A outer s0 H vs Q E hr h => ?_)
  · obtain ⟨nt, ka, wd, tp, d, own, k, cs, ds, st, s, rfl, _⟩ := h
    rfl
  · obtain ⟨nt, ka, wd, tp, d, own, k, cs, ds, st, s, rfl, ⟨⟨dn, h1⟩, rs, h2, hk⟩, en, hk9, ht, hW, hs, hl, hg, hv, q⟩ := h
    obtain ⟨dx, fs, w1, w2⟩ := O.cls hW
    refine ⟨_, (pss_cons (ps_set (i := 2) sc_Notes_answer.nd rfl (Or.inl rfl) (pe_km (pe_fldK (K := K) (pv 0) rfl) k_W_answer (hr.mono (by decide)) (pa_cons (pv 1) pa_nil)))
        (pss_cons (ps_expr (pe_bm PySem.F.plainAttrs_list PySem.F.slot_list_append PySem.F.type_list_append mt_append (pe_fldK (K := K) (pv 0) rfl) (pa_cons (pe_tup (pa_cons (pv 1) (pa_cons (pv 2) pa_nil))) pa_nil)))
        (pss_one (ps_ret (pv 2))))), ?_⟩
    refine ⟨_, rfl, nt, _, dn, _, _, rfl, h1, F.c_Notes, F.n_Notes_world, lk_Notes_world, wd, dx, fs, rfl, w1, w2, _, rfl, wd, tp, d, own, cs, ds, st, s, rfl, ht, hW, hs, hl, hg, hv, fun H1 f1 ht1 hW1 => ?_⟩
    have g1 := f1.1 _ _ h1 en.n1
    have g2 := f1.1 _ _ h2 en.n2
    have en1 := en.fr f1 (fun a ha => List.mem_cons_of_mem _ ha)
    refine ⟨_, rfl, nt, _, dn, _, _, rfl, g1, F.c_Notes, F.n_Notes_asked, lk_Notes_asked, .inl ⟨rfl, _, SqL.at g2⟩, _, rfl, _, rfl, sz (by simp), fun t nt' => ?_⟩
    generalize hr2 : (W.ans st s).run (cs.drop ds.length) = R at q ht1 hW1
    have f2 : Fr [] H1 (upd H1 t (.tup [.str (bS s), .str (bS R.2.1)])) := Fr.new nt'
    have g3 := f2.at g1
    have g4 := f2.at g2
    have en2 := en1.fr f2 (fun a ha => nomatch ha)
    generalize upd H1 t (.tup [.str (bS s), .str (bS R.2.1)]) = H2 at f2 g3 g4 en2
    refine ⟨ka, rs, .ref t, rfl, rfl, g4, szl (by omega), ?_⟩
    have f3 : Fr [ka] H2 (upd H2 ka (.lst (rs ++ [.ref t]))) := Fr.put (by simp) g4 rfl
    have h12 : H ka = some (.lst rs) := h2
    refine ⟨_, rfl, q _ (((f1.mono (fun a ha => List.mem_cons_of_mem _ ha)).trans f2.of0).trans (f3.mono (by simp))) ⟨⟨dn, ?_⟩, rs ++ [.ref t], upd_same, ?_⟩ ((ht1.fr0 f2).app en2 g4) ?_⟩
    · rw [upd_ne (apart g3 g4 (fun z => by cases z))]; exact g3
    · rw [List.length_append]; simp; omega
    · refine O.fr (O.fr hW1 f2 (fun a ha => nomatch ha)) f3 fun a ha => ?_
      have : a = ka := by simpa using ha
      rw [this]
      exact fun z => en.n2 (List.mem_cons_of_mem _ z)
/-! Stopped -/
def spStoppedInit (K : PySem.W.Frag) : Sp := fun vs H Q _ => ∃ (x dx wd : Addr), vs = [.ref x, .ref wd] ∧ H x = some (.ins (ga K "Stopped") dx []) ∧
  ∀ (H' : Hp), Fr [x] H H' → H' x = some (.ins (ga K "Stopped") dx (f_Stopped (.ref wd))) → Q .non H'
theorem k_Stopped_init (F : Fx K w mg) : Ki P w K mg base 1 "Stopped" ["self", "world"] (spStoppedInit K) := by
  refine ki_of F.d_Stopped_init F.g_Stopped F.k_Stopped sc_Stopped_init (fun _ _ _ _ _ _ us hl => match us, hl with | [_, _], _ => rfl) (fun vs H Q E h => ?_) (fun cdv A outer s H vs Q E hr h => ?_)
  · obtain ⟨x, dx, wd, rfl, _⟩ := h
    rfl
  · obtain ⟨x, dx, wd, rfl, hx, q⟩ := h
    refine ⟨_, (pss_one (ps_fld (pv 0) (pv 1) rfl)), ?_⟩
    refine ⟨_, rfl, _, rfl, x, _, dx, _, rfl, hx, F.c_Stopped, F.n_Stopped_world, (by show 0 < 1000; decide), ?_⟩
    refine q _ (Fr.put (by simp) hx rfl) ?_
    rw [upd_same, mk_Stopped]
def spStopped (K : PySem.W.Frag) : Sp := fun vs H Q _ => ∃ (x dx wd dn : Addr) (fs : List (Str × V)), vs = [.ref x] ∧ H x = some (.ins (ga K "Stopped") dx (f_Stopped (.ref wd))) ∧ H wd = some (.ins (ga K "Notes") dn fs) ∧ Q (.bl false) H
theorem k_Stopped_now (F : Fx K w mg) : Km P w K mg base 1 "Stopped" "now" ["self"] (spStopped K) := by
  refine km_of F.d_Stopped_now F.c_Stopped F.m_Stopped_now sc_Stopped_now (fun _ _ _ _ _ _ us hl => match us, hl with | [_], _ => rfl) (fun vs H Q E h => ?_) (fun cdv A outer s H vs Q E hr h => ?_)
  · obtain ⟨x, dx, wd, dn, fs, rfl, _⟩ := h
    rfl
  · obtain ⟨x, dx, wd, dn, fs, rfl, h1, h2, q⟩ := h
    refine ⟨_, (pss_one (ps_ret (pe_and (pe_callB call_isi (by rfl) F.b_isinstance (by decide +kernel) (pa_cons (pe_fldK (K := K) (pv 0) rfl) (pa_cons (pe_glob (v := .ref (ga K "OnetimeWorld")) rfl F.g_OnetimeWorld rfl) pa_nil))) (pe_one pe_dead)))), ?_⟩
    refine ⟨_, rfl, x, _, dx, _, _, rfl, h1, F.c_Stopped, F.n_Stopped_world, lk_Stopped_world, ?_⟩
    refine ⟨_, _, _, _, _, rfl, .own _, .base (.ins h2 F.c_Notes F.oc_Notes F.og_Notes F.ot_Notes F.om_Notes), F.o_Notes, ?_⟩
    exact ⟨_, rfl, iteF q⟩
end
end BK
/-! Breakback k27: a plain breaker run. -/
namespace BK
open PySem PySem.Spec PyProof.Rows L2 He
section
variable {P : Program} {w : World} {K : PySem.W.Frag} {mg : Str → Option Value} {base : Heap}
/-- all that stands when a breaker is run -/
structure Stand {K : PySem.W.Frag} (W : Wd K) (H : Hp) (nt ka wd tp d : Addr) (own : List Addr) (cs : List Nat) (ds : Dr) (st : W.S) (k : Nat) : Prop where
  notes : NotesAt K H nt wd ka k
  env : Env K H nt ka tp d own
  tape : TapeAt K H tp d cs ds
  at_ : W.At H wd tp d own st
  good : W.good st ds.length
theorem Stand.fr {W : Wd K} (O : WOk P w mg base W) {H H' : Hp} {nt ka wd tp d : Addr} {own : List Addr} {cs : List Nat} {ds : Dr} {st : W.S} {k : Nat} (h : Stand W H nt ka wd tp d own cs ds st k) (f : Fr [] H H') : Stand W H' nt ka wd tp d own cs ds st k :=
  ⟨h.notes.fr f (fun z => nomatch z) (fun z => nomatch z), h.env.fr f (fun _ z => nomatch z), h.tape.fr0 f, O.fr h.at_ f (fun _ z => nomatch z), h.good⟩
theorem own_d {W : Wd K} (O : WOk P w mg base W) {H : Hp} {nt ka wd tp d : Addr} {own : List Addr} {cs : List Nat} {ds : Dr} {st : W.S} {k : Nat} (S : Stand W H nt ka wd tp d own cs ds st k) : d ∉ own := S.env.nd
theorem len1 {cs : List Nat} {ds : Dr} {x : Nat × Nat} : cs.drop (ds ++ [x]).length = (cs.drop ds.length).tail := by
  rw [List.length_append, List.tail_drop]
  rfl
def spRunPlain {K : PySem.W.Frag} (W : Wd K) : Sp := fun vs H Q _ => ∃ (bv : V) (nt ka wd tp d : Addr) (own : List Addr) (k e : Nat) (cs : List Nat) (ds : Dr) (st : W.S) (hd : Bs) (b : B), vs = [bv, .ref tp, .str (bS hd), .ref nt] ∧ IsB H bv b ∧ Wf e b ∧
  Stand W H nt ka wd tp d own cs ds st k ∧ hd.length + 40 * e ≤ 400 ∧ ds.length + 4 * e ≤ 400 ∧ k + e ≤ 900 ∧ (play W.ans b hd st).Val (cs.drop ds.length) ∧
  ∀ (H' : Hp) (said : Bs), Fr (ka :: d :: own) H H' → NotesAt K H' nt wd ka 900 → TapeAt K H' tp d cs (ds ++ ((play W.ans b hd st).run (cs.drop ds.length)).1) → ((play W.ans b hd st).run (cs.drop ds.length)).2 = (said == [true]) → Q (.str (bS said)) H'
theorem k_run_plain (F : Fx K w mg) {W : Wd K} (O : WOk P w mg base W) : Kp P w K mg base 6 "run_plain" ["breaker", "tape", "challenge", "world"] (spRunPlain W) := by
  have k_W_answer : Km P w K mg base 5 _ _ _ _ := k_Notes_answer F O
  have k_Stopped_init : Ki P w K mg base 1 _ _ _ := k_Stopped_init F
  have k_Stopped_now : Km P w K mg base 1 _ _ _ _ := k_Stopped_now F
  have k_Tape_draw : Km P w K mg base 1 _ _ _ _ := k_Tape_draw F
  have k_made_string : Kp P w K mg base 1 _ _ _ := k_made_string F
  refine kp_of F.d_run_plain F.g_run_plain sc_run_plain (fun _ _ _ _ _ _ us hl => match us, hl with | [_, _, _, _], _ => rfl) (fun vs H Q E h => ?_) (fun cdv A outer s0 H vs Q E hr h => ?_)
  · obtain ⟨bv, nt, ka, wd, tp, d, own, k, e, cs, ds, st, hd, b, rfl, _⟩ := h
    rfl
  · obtain ⟨bv, nt, ka, wd, tp, d, own, k, e, cs, ds, st, hd, b, rfl, hb, wf, S, l1, l2, l3, hv, q⟩ := h
    refine ⟨_, (pss_cons (ps_set (i := 4) sc_run_plain.nd rfl (Or.inl rfl) (pv 2))
        (pss_cons (ps_set (i := 5) sc_run_plain.nd rfl (Or.inl rfl) (pe_kiK k_Stopped_init (hr.mono (by decide)) (pa_cons (pv 3) pa_nil)))
        (pss_cons (ps_while PassesOwn.never (pt_cmpR op_ne (pe_ix (r := rIxT K) ix_tup (pv 0) pe_int (fun _ _ => rfl)) pe_str (nomark _))
          (pss_one (ps_if (pt_cmpR op_eq (pe_ix (r := rIxT K) ix_tup (pv 0) pe_int (fun _ _ => rfl)) pe_str (nomark _))
            (pss_one (ps_set (i := 0) sc_run_plain.nd rfl (Or.inl rfl) (pe_ix (r := rIxT K) ix_tup (pe_ix (r := rIxT K) ix_tup (pv 0) pe_int (fun _ _ => rfl)) (pe_km (pv 1) k_Tape_draw (hr.mono (by decide)) (pa_cons (pe_callB call_len_seq (by rfl) F.b_len (by decide +kernel) (pa_cons (pe_ix (r := rIxT K) ix_tup (pv 0) pe_int (fun _ _ => rfl)) pa_nil)) pa_nil)) (fun _ _ => rfl))))
            (pss_one (ps_if (pt_cmpR op_eq (pe_ix (r := rIxT K) ix_tup (pv 0) pe_int (fun _ _ => rfl)) pe_str (nomark _))
              (pss_one (ps_set (i := 0) sc_run_plain.nd rfl (Or.inl rfl) (pe_ifExp (pt_cmpR op_eq (pe_k k_made_string (hr.mono (by decide)) (pa_cons (pe_tup (pa_cons (pe_ix (r := rIxT K) ix_tup (pv 0) pe_int (fun _ _ => rfl)) pa_nil)) (pa_cons (pv 4) pa_nil))) pe_str (nomark _)) (pe_ix (r := rIxT K) ix_tup (pv 0) pe_int (fun _ _ => rfl)) (pe_ix (r := rIxT K) ix_tup (pv 0) pe_int (fun _ _ => rfl)))))
              (pss_cons (ps_set (i := 4) sc_run_plain.nd rfl (Or.inl rfl) (pe_op op_add_str (pv 4) (pe_km (pv 3) k_W_answer (hr.mono (by decide)) (pa_cons (pe_k k_made_string (hr.mono (by decide)) (pa_cons (pe_ix (r := rIxT K) ix_tup (pv 0) pe_int (fun _ _ => rfl)) (pa_cons (pv 4) pa_nil))) pa_nil))))
              (pss_cons (ps_if (pt_val (pe_km0 (pv 5) k_Stopped_now (hr.mono (by decide))))
                (pss_one (ps_ret pe_str))
                pss_nil)
              (pss_one (ps_set (i := 0) sc_run_plain.nd rfl (Or.inl rfl) (pe_ix (r := rIxT K) ix_tup (pv 0) pe_int (fun _ _ => rfl)))))))))))
        (pss_one (ps_ret (pe_k k_made_string (hr.mono (by decide)) (pa_cons (pe_ix (r := rIxT K) ix_tup (pv 0) pe_int (fun _ _ => rfl)) (pa_cons (pv 4) pa_nil)))))))), ?_⟩
    generalize hR : (play W.ans b hd st).run (cs.drop ds.length) = R at q
    refine ⟨_, rfl, _, rfl, fun x dx nx ndx ne => ⟨x, dx, nt, rfl, upd_same, fun H1 f1 hx1 => ⟨rfl, ?_⟩⟩⟩
    have m1 := made_fr (o := .ins (ga K "Stopped") dx []) nx ndx ne
    have f2 : Fr [] H H1 := m1.trans' f1 fun a ha => by
      have : a = x := by simpa using ha
      rw [this]; exact .inr nx
    obtain ⟨rs0, hk0, _⟩ := S.notes.2
    obtain ⟨ts0, hd0⟩ := S.tape.at_d
    have nxM : x ∉ ka :: d :: own := by
      intro z
      rcases List.mem_cons.mp z with z | z
      · rw [z, hk0] at nx; cases nx
      rcases List.mem_cons.mp z with z | z
      · rw [z, hd0] at nx; cases nx
      · obtain ⟨o, ho⟩ := O.ex S.at_ _ z
        rw [ho] at nx; cases nx
    refine ⟨fun m σ G => ∃ (bv : V) (b : B) (hd : Bs) (st : W.S) (ds' : Dr) (k : Nat) (c0 : V), σ = [some bv, some (.ref tp), some c0, some (.ref nt), some (.str (bS hd)), some (.ref x)] ∧ IsB G bv b ∧ Wf m b ∧ Stand W G nt ka wd tp d own cs ds' st k ∧
      hd.length + 40 * m ≤ 400 ∧ ds'.length + 4 * m ≤ 400 ∧ k + m ≤ 900 ∧ Fr (ka :: d :: own) H G ∧ G x = some (.ins (ga K "Stopped") dx (f_Stopped (.ref nt))) ∧ (play W.ans b hd st).Val (cs.drop ds'.length) ∧
      ds' ++ ((play W.ans b hd st).run (cs.drop ds'.length)).1 = ds ++ R.1 ∧ ((play W.ans b hd st).run (cs.drop ds'.length)).2 = R.2,
      ⟨e, bv, b, hd, st, ds, k, _, rfl, hb.fr f2, wf, S.fr O f2, l1, l2, l3, f2.of0, hx1, hv, by rw [hR], by rw [hR]⟩, fun m σ G inv => ?_⟩
    clear hv hR hb wf S l1 l2 l3
    obtain ⟨bv, b, hd, st, ds', k, c0, rfl, hb, wf, S, l1, l2, l3, fr, hx, hv, r1, r2⟩ := inv
    cases b with
    | say ps =>
      obtain ⟨a, p, rfl, h1, h2⟩ := hb
      refine ⟨_, rfl, a, _, 0, _, rfl, rfl, SqT.at h1, atI_nat (j := 0) rfl, rfl, _, rfl, iteFd (by rw [d_say_say]; rfl) ?_⟩
      refine ⟨_, rfl, a, _, 1, _, rfl, rfl, SqT.at h1, atI_nat (j := 1) rfl, _, rfl, p, ps, hd, rfl, h2, wf.1, by omega, ?_⟩
      simp only [play, T.run, List.append_nil] at r1 r2
      refine q G _ fr ?_ (r1 ▸ S.tape) r2.symm
      obtain ⟨n1, rs, n2, n3⟩ := S.notes
      exact ⟨n1, rs, n2, by omega⟩
    | toss n f =>
      obtain ⟨a, p, xs, rfl, h1, h2, h3, h4⟩ := hb
      obtain ⟨e', rfl, w1, w2, w3⟩ := wf
      refine ⟨_, rfl, a, _, 0, _, rfl, rfl, SqT.at h1, atI_nat (j := 0) rfl, rfl, _, rfl, iteTd (by rw [d_toss_say]; rfl) ⟨fun σ' H' => ∃ m', m' < e' + 1 ∧ _, fun _ _ h => h, ?_⟩⟩
      refine ⟨_, rfl, a, _, 0, _, rfl, rfl, SqT.at h1, atI_nat (j := 0) rfl, rfl, _, rfl, iteTd d_toss_toss ?_⟩
      simp only [play, T.run, T.Val, head_drop] at r1 r2 hv
      obtain ⟨dxt, ct, tst, t1, _⟩ := id S.tape.ex
      refine ⟨_, rfl, a, _, 1, _, rfl, rfl, SqT.at h1, atI_nat (j := 1) rfl, _, rfl, tp, dxt, _, rfl, t1, no_Tape_draw, _, rfl, a, _, 1, _, rfl, rfl, SqT.at h1, atI_nat (j := 1) rfl, p, _, rfl, .inr (SqT.at h2), tp, d, cs, ds', n, ?_, S.tape, hv.1, by omega, fun G1 f3 ht1 => ?_⟩
      · rw [h3]; rfl
      obtain ⟨x1, h5, h6⟩ := h4 _ hv.1
      refine ⟨p, _, _, x1, rfl, rfl, SqT.at (f3.2 _ _ h2), atI_nat h5, e', Nat.lt_succ_self _, x1, f (cs.getD ds'.length 0), hd, st, ds' ++ [(cs.getD ds'.length 0, n)], k, c0, rfl, h6.fr f3, w3 _ hv.1, ?_, by omega, ?_, by omega, fr.trans (f3.mono (by simp)), ?_, ?_, ?_, ?_⟩
      · obtain ⟨n1, rs, n2, n3⟩ := S.notes
        refine ⟨S.notes.fr f3 (fun z => S.env.n1 (by rw [List.mem_singleton.mp z]; exact List.mem_cons_self)) (fun z => S.env.n2 (by rw [List.mem_singleton.mp z]; exact List.mem_cons_self)), S.env.fr f3 (fun z hz => by rw [List.mem_singleton.mp hz]; simp), ht1, O.fr S.at_ f3 (fun z hz => by rw [List.mem_singleton.mp hz]; exact own_d O S), O.mono S.good (by rw [List.length_append]; omega)⟩
      · rw [List.length_append]; simp; omega
      · exact f3.1 _ _ hx (fun z => nxM (List.mem_cons_of_mem _ (by rw [List.mem_singleton.mp z]; exact List.mem_cons_self)))
      · rw [len1]; exact hv.2
      · rw [len1, List.append_assoc]; exact r1
      · rw [len1]; exact r2
    | look n b c =>
      obtain ⟨a, x1, x2, rfl, h1, h2, h3⟩ := hb
      obtain ⟨e', rfl, w1, w2, w3⟩ := wf
      refine ⟨_, rfl, a, _, 0, _, rfl, rfl, SqT.at h1, atI_nat (j := 0) rfl, rfl, _, rfl, iteTd (by rw [d_look_say]; rfl) ⟨fun σ' H' => ∃ m', m' < e' + 1 ∧ _, fun _ _ h => h, ?_⟩⟩
      refine ⟨_, rfl, a, _, 0, _, rfl, rfl, SqT.at h1, atI_nat (j := 0) rfl, rfl, _, rfl, iteFd d_look_toss ?_⟩
      refine ⟨_, rfl, a, _, 0, _, rfl, rfl, SqT.at h1, atI_nat (j := 0) rfl, rfl, _, rfl, iteTd d_look_look ?_⟩
      refine ⟨_, rfl, a, _, 1, _, rfl, rfl, SqT.at h1, atI_nat (j := 1) rfl, sz (by simp), fun t nt' => ⟨_, rfl, t, [.nm n], hd, rfl, upd_same, by simp, by omega, rfl, _, rfl, ?_⟩⟩
      have f3 : Fr [] G (upd G t (.tup [.int n])) := Fr.new nt'
      have h1' := f3.at h1
      have hx' := f3.at hx
      have S' := S.fr O f3
      have h2' := h2.fr f3
      have h3' := h3.fr f3
      have fr' := fr.trans f3.of0
      have em : made [.nm n] hd = [got hd n] := rfl
      rw [em, bS_0, bS_dec]
      generalize upd G t (.tup [.int n]) = G1 at f3 h1' hx' S' h2' h3' fr'
      simp only [play] at hv r1 r2
      cases hg : got hd n with
      | true =>
        rw [if_pos hg] at hv r1 r2
        refine iteFd (by simp) ⟨_, rfl, a, _, 3, _, rfl, rfl, SqT.at h1', atI_nat (j := 3) rfl, e', Nat.lt_succ_self _, x2, c, hd, st, ds', k, c0, rfl, h3', w3, S', by omega, by omega, by omega, fr', hx', hv, r1, r2⟩
      | false =>
        rw [if_neg (by rw [hg]; decide)] at hv r1 r2
        refine iteTd (by simp) ⟨_, rfl, a, _, 2, _, rfl, rfl, SqT.at h1', atI_nat (j := 2) rfl, e', Nat.lt_succ_self _, x1, b, hd, st, ds', k, c0, rfl, h2', w2, S', by omega, by omega, by omega, fr', hx', hv, r1, r2⟩
    | ask ps b =>
      obtain ⟨a, p, x1, rfl, h1, h2, h3⟩ := hb
      obtain ⟨e', rfl, w1, w2⟩ := wf
      refine ⟨_, rfl, a, _, 0, _, rfl, rfl, SqT.at h1, atI_nat (j := 0) rfl, rfl, _, rfl, iteTd (by rw [d_ask_say]; rfl) ⟨fun σ' H' => ∃ m', m' < e' + 1 ∧ _, fun _ _ h => h, ?_⟩⟩
      refine ⟨_, rfl, a, _, 0, _, rfl, rfl, SqT.at h1, atI_nat (j := 0) rfl, rfl, _, rfl, iteFd d_ask_toss ?_⟩
      refine ⟨_, rfl, a, _, 0, _, rfl, rfl, SqT.at h1, atI_nat (j := 0) rfl, rfl, _, rfl, iteFd d_ask_look ?_⟩
      simp only [play] at hv r1 r2
      have hv1 := (Val_bind _ _ _).mp hv
      rw [run_bind] at r1 r2
      have hlen := O.len st (made ps hd) (cs.drop ds'.length) ds'.length S.good (by omega)
      obtain ⟨⟨dn, hN⟩, rs, hrs⟩ := id S.notes
      have lm : (made ps hd).length ≤ 1000 := by rw [made_len]; have := w1.1; omega
      refine ⟨_, rfl, _, rfl, nt, dn, _, rfl, hN, no_Notes_answer, _, rfl, a, _, 1, _, rfl, rfl, SqT.at h1, atI_nat (j := 1) rfl, _, rfl, p, ps, hd, rfl, h2, w1.1, by omega, nt, ka, wd, tp, d, own, k, cs, ds', st, made ps hd, rfl, S.notes, S.env, by omega, S.tape, S.at_, lm, by omega, S.good, hv1.1, fun G1 f3 hN1 ht1 hW1 => ?_⟩
      have hv2 := hv1.2
      generalize (W.ans st (made ps hd)).run (cs.drop ds'.length) = rA at r1 r2 hlen ht1 hW1 hv2
      refine ⟨_, _, rfl, rfl, ?_, ?_⟩
      · rw [bS_len, bS_len]; exact sz (by omega)
      rw [bS_app]
      have hx' := f3.1 _ _ hx nxM
      obtain ⟨dn1, hN1'⟩ := hN1.1
      have ed : cs.drop (ds' ++ rA.1).length = (cs.drop ds'.length).drop rA.1.length := by rw [List.length_append, List.drop_drop]
      refine ⟨_, rfl, x, dx, _, rfl, hx', no_Stopped_now, x, dx, nt, dn1, _, rfl, hx', hN1', _, rfl, iteF ?_⟩
      refine ⟨_, rfl, a, _, 2, _, rfl, rfl, SqT.at (f3.2 _ _ h1), atI_nat (j := 2) rfl, e', Nat.lt_succ_self _, x1, b, hd ++ rA.2.1, rA.2.2, ds' ++ rA.1, k + 1, c0, rfl, h3.fr f3, w2, ⟨hN1, S.env.fr f3 (fun _ z => z), ht1, hW1, ?_⟩, ?_, ?_, by omega, fr.trans f3, hx', ?_, ?_, ?_⟩
      · rw [List.length_append]; exact hlen.2.2
      · rw [List.length_append]; omega
      · rw [List.length_append]; omega
      · rw [ed]; exact hv2
      · rw [ed, List.append_assoc]; exact r1
      · rw [ed]; exact r2
end
end BK
/-! Breakback k27: the three worlds are worlds. -/
namespace BK
open PySem PySem.Spec PyProof.Rows L2 He
def goodT (st : Tl) (n : Nat) : Prop := st.length ≤ n ∧ ∀ x, x ∈ st → x.2.length ≤ 20
theorem lookup_mem {st : Tl} {s v : Bs} (h : st.lookup s = some v) : ∃ x, x ∈ st ∧ x.2 = v := by
  induction st with
  | nil => cases h
  | cons y r ih =>
    obtain ⟨a, b⟩ := y
    rw [List.lookup_cons] at h
    split at h
    · exact ⟨(a, b), List.mem_cons_self, Option.some.inj h⟩
    · obtain ⟨x, h1, h2⟩ := ih h
      exact ⟨x, List.mem_cons_of_mem _ h1, h2⟩
theorem goodT.mono {st : Tl} {n m : Nat} (h : goodT st n) (l : n ≤ m) : goodT st m := ⟨Nat.le_trans h.1 l, h.2⟩
theorem ansF_good {l m : Nat} {st : Tl} {s : Bs} {cs : List Nat} {n : Nat} (hm : m ≤ 20) (h : goodT st n) :
    ((ansF l m st s).run cs).1.length ≤ 1 ∧ ((ansF l m st s).run cs).2.1.length ≤ 20 ∧ goodT ((ansF l m st s).run cs).2.2 (n + ((ansF l m st s).run cs).1.length) := by
  refine ⟨ansF_len _ _ _ _ _, (ansF_al l m hm h.2 s cs).1, ?_, (ansF_al l m hm h.2 s cs).2⟩
  unfold ansF
  split
  · split
    · exact Nat.le_trans h.1 (Nat.le_add_right _ _)
    · have := h.1
      simp [T.run]
      omega
  · exact Nat.le_trans h.1 (Nat.le_add_right _ _)
theorem leftOf_len {l : Nat} {st : Tl} {v : Bs} (h : v ∈ leftOf l st) : v.length = l := by
  have h1 := (List.mem_filter.mp h).1
  rw [bstrs, List.mem_map] at h1
  obtain ⟨k, _, rfl⟩ := h1
  exact bitsN_len l k
theorem leftOf_getD {l k : Nat} {st : Tl} : ((leftOf l st).getD k []).length ≤ l := by
  rw [List.getD_eq_getElem?_getD]
  cases h : (leftOf l st)[k]? with
  | none => exact Nat.zero_le _
  | some v => exact Nat.le_of_eq (leftOf_len (List.mem_of_getElem? h))
theorem ansP_good {l : Nat} {st : Tl} {s : Bs} {cs : List Nat} {n : Nat} (hm : l ≤ 20) (h : goodT st n) :
    ((ansP l st s).run cs).1.length ≤ 1 ∧ ((ansP l st s).run cs).2.1.length ≤ 20 ∧ goodT ((ansP l st s).run cs).2.2 (n + ((ansP l st s).run cs).1.length) := by
  unfold ansP
  split
  · split
    · rename_i v hv
      obtain ⟨x, h1, h2⟩ := lookup_mem hv
      exact ⟨by simp [T.run], by rw [← h2]; exact h.2 x h1, h.mono (Nat.le_add_right _ _)⟩
    · have := h.1
      refine ⟨by simp [T.run], Nat.le_trans leftOf_getD hm, by simp [T.run]; omega, fun x hx => ?_⟩
      simp only [T.run, List.mem_append, List.mem_singleton] at hx
      rcases hx with hx | rfl
      · exact h.2 x hx
      · exact Nat.le_trans leftOf_getD hm
  · exact ⟨by simp [T.run], Nat.zero_le _, h.mono (Nat.le_add_right _ _)⟩
theorem goS_good {h : Nat} (hh : h ≤ 20) : ∀ (sts : List Tl) (a b : Bs) (cs : List Nat) (n : Nat), a.length ≤ 20 → b.length ≤ 20 → (∀ st, st ∈ sts → goodT st n) →
    ((goS h sts a b).run cs).1.length ≤ sts.length ∧ ((goS h sts a b).run cs).2.1.1.length ≤ 20 ∧ ((goS h sts a b).run cs).2.1.2.length ≤ 20 ∧ ((goS h sts a b).run cs).2.2.length = sts.length ∧
      ∀ st, st ∈ ((goS h sts a b).run cs).2.2 → goodT st (n + ((goS h sts a b).run cs).1.length)
  | [], a, b, cs, n, ha, hb, hg => ⟨Nat.le_refl _, ha, hb, rfl, fun st z => nomatch z⟩
  | t :: ts, a, b, cs, n, ha, hb, hg => by
    have g1 := ansF_good (l := h) (m := h) (s := b) (cs := cs) hh (hg t List.mem_cons_self)
    rw [goS_cons_run]
    generalize (ansF h h t b).run cs = r at g1
    have g2 := goS_good hh ts b (xorB a r.2.1) (cs.drop r.1.length) n hb (by rw [xorB_len]; omega) (fun st z => hg st (List.mem_cons_of_mem _ z))
    generalize (goS h ts b (xorB a r.2.1)).run (cs.drop r.1.length) = u at g2
    obtain ⟨a1, a2, a3⟩ := g1
    obtain ⟨b1, b2, b3, b4, b5⟩ := g2
    refine ⟨?_, b2, b3, ?_, fun st z => ?_⟩
    · simp only [List.length_append, List.length_cons]; omega
    · simp only [List.length_cons, b4]
    · rcases List.mem_cons.mp z with z | z
      · rw [z]; exact a3.mono (by simp only [List.length_append]; omega)
      · exact (b5 st z).mono (by simp only [List.length_append]; omega)
section
variable {P : Program} {w : World} {K : PySem.W.Frag} {mg : Str → Option Value} {base : Heap}
theorem Km.mono {j k : Nat} {C m : Str} {ps : List Str} {sp : Sp} (h : Km P w K mg base j C m ps sp) (l : j ≤ k) : Km P w K mg base k C m ps sp := by
  obtain ⟨a, b, fd, c, d⟩ := h
  exact ⟨a, b, fd, c.mono l, d⟩
theorem Ki.mono {j k : Nat} {C : Str} {ps : List Str} {sp : Sp} (h : Ki P w K mg base j C ps sp) (l : j ≤ k) : Ki P w K mg base k C ps sp := by
  obtain ⟨a, b, fd, c, d⟩ := h
  exact ⟨a, b, fd, c.mono l, d⟩
/-! any function -/
def wF (K : PySem.W.Frag) (l : Nat) : Wd K where
  S := Tl
  C := "AnyWorld"
  ans := ansF l l
  At := fun H wd tp d own st => ∃ td, own = [wd, td] ∧ AnyAt K H wd tp td l l st
  good := goodT
theorem wF_ok (F : Fx K w mg) {l : Nat} (hl : l ≤ 2) : WOk P w mg base (wF K l) where
  km := Km.mono (j := 3) (Km.imp (k_AnyWorld_answer F) fun vs H Q E h => by
    obtain ⟨wd, tp, d, own, cs, ds, st, s, rfl, ht, ⟨td, rfl, hA⟩, hs, hd, hg, hv, q⟩ := h
    have := hg.1
    exact ⟨wd, tp, d, td, cs, ds, l, l, st, s, rfl, ht, hA, hs, by omega, by omega, by omega, hv, fun H' f t a => q H' (f.mono (by simp)) t ⟨td, rfl, a⟩⟩) (by decide)
  cls := fun {H wd tp d own st} h => by
    obtain ⟨td, rfl, ⟨dx, h1⟩, h2⟩ := h
    exact ⟨dx, _, h1, no_AnyWorld_answer⟩
  fr := fun {H H' N wd tp d own st} h f hN => by
    obtain ⟨td, rfl, hA⟩ := h
    exact ⟨td, rfl, hA.fr f (fun o ho z => hN _ z (by simp)) (fun z => hN _ z (by simp))⟩
  ex := fun {H wd tp d own st} h a ha => by
    obtain ⟨td, rfl, ⟨dx, h1⟩, h2⟩ := h
    rcases List.mem_cons.mp ha with e | e
    · rw [e]; exact ⟨_, h1⟩
    · rw [List.mem_singleton.mp e]; exact ⟨_, h2⟩
  len := fun st s cs n hg hn => by
    have g := ansF_good (l := l) (m := l) (s := s) (cs := cs) (by omega) hg
    exact ⟨Nat.le_trans g.1 (by decide), Nat.le_trans g.2.1 (by decide), g.2.2⟩
  mono := fun h l => h.mono l
/-! permutations -/
def wP (K : PySem.W.Frag) (l : Nat) : Wd K where
  S := Tl
  C := "PermutationWorld"
  ans := ansP l
  At := fun H wd tp d own st => ∃ td, own = [wd, td] ∧ PermAt K H wd tp td l st
  good := goodT
theorem wP_ok (F : Fx K w mg) {l : Nat} (hl : l ≤ 2) : WOk P w mg base (wP K l) where
  km := Km.mono (j := 3) (Km.imp (k_PermutationWorld_answer F) fun vs H Q E h => by
    obtain ⟨wd, tp, d, own, cs, ds, st, s, rfl, ht, ⟨td, rfl, hA⟩, hs, hd, hg, hv, q⟩ := h
    have := hg.1
    exact ⟨wd, tp, d, td, cs, ds, l, st, s, rfl, ht, hA, hs, by omega, by omega, by omega, hv, fun H' f t a => q H' (f.mono (by simp)) t ⟨td, rfl, a⟩⟩) (by decide)
  cls := fun {H wd tp d own st} h => by
    obtain ⟨td, rfl, ⟨dx, h1⟩, h2⟩ := h
    exact ⟨dx, _, h1, no_PermutationWorld_answer⟩
  fr := fun {H H' N wd tp d own st} h f hN => by
    obtain ⟨td, rfl, ⟨dx, h1⟩, h2⟩ := h
    exact ⟨td, rfl, ⟨dx, f.1 _ _ h1 (fun z => hN _ z (by simp))⟩, f.1 _ _ h2 (fun z => hN _ z (by simp))⟩
  ex := fun {H wd tp d own st} h a ha => by
    obtain ⟨td, rfl, ⟨dx, h1⟩, h2⟩ := h
    rcases List.mem_cons.mp ha with e | e
    · rw [e]; exact ⟨_, h1⟩
    · rw [List.mem_singleton.mp e]; exact ⟨_, h2⟩
  len := fun st s cs n hg hn => by
    have g := ansP_good (l := l) (s := s) (cs := cs) (by omega) hg
    exact ⟨Nat.le_trans g.1 (by decide), Nat.le_trans g.2.1 (by decide), g.2.2⟩
  mono := fun h l => h.mono l
/-! swaps -/
def wS (K : PySem.W.Frag) (r : Nat) : Wd K where
  S := List Tl
  C := "SwapWorld"
  ans := ansS 1
  At := fun H wd tp d own st => ∃ fl as tds, own = wd :: fl :: (as ++ tds) ∧ SwapAt K H wd tp d 1 fl as tds st
  good := fun sts n => sts.length = r ∧ ∀ st, st ∈ sts → goodT st n
theorem wS_ok (F : Fx K w mg) {r : Nat} (hr : r ≤ 4) : WOk P w mg base (wS K r) where
  km := (k_SwapWorld_answer F).imp fun vs H Q E h => by
    obtain ⟨wd, tp, d, own, cs, ds, st, s, rfl, ht, ⟨fl, as, tds, rfl, hA⟩, hs, hd, hg, hv, q⟩ := h
    obtain ⟨h1, h2⟩ := id hg
    refine ⟨wd, tp, d, fl, as, tds, cs, ds, 1, st, s, rfl, ht, hA, hs, by decide, by omega, by omega, fun x hx => ?_, hv, fun H' f t a => q H' (f.mono (fun z hz => ?_)) t ⟨fl, as, tds, rfl, a⟩⟩
    · have := (h2 x hx).1
      omega
    · rcases List.mem_cons.mp hz with e | e
      · rw [e]; exact List.mem_cons_self
      · exact List.mem_cons_of_mem _ (List.mem_cons_of_mem _ (List.mem_cons_of_mem _ (List.mem_append_right _ e)))
  cls := fun {H wd tp d own st} h => by
    obtain ⟨fl, as, tds, rfl, dx, h0, h1, h2, _⟩ := h
    exact ⟨dx, _, h1, no_SwapWorld_answer⟩
  fr := fun {H H' N wd tp d own st} h f hN => by
    obtain ⟨fl, as, tds, rfl, dx, h0, h1, h2, h3, h4, h5, h6⟩ := h
    refine ⟨fl, as, tds, rfl, dx, h0, f.1 _ _ h1 (fun z => hN _ z (by simp)), f.1 _ _ h2 (fun z => hN _ z (by simp)), h3, h4, h5, fun j hj => ?_⟩
    refine (h6 j hj).fr f (fun o ho z => hN _ z ?_) (fun z => hN _ z ?_)
    · exact List.mem_cons_of_mem _ (List.mem_cons_of_mem _ (List.mem_append_left _ (getD_mem (by omega))))
    · exact List.mem_cons_of_mem _ (List.mem_cons_of_mem _ (List.mem_append_right _ (getD_mem (by omega))))
  ex := fun {H wd tp d own st} h a ha => by
    obtain ⟨fl, as, tds, rfl, dx, h0, h1, h2, h3, h4, h5, h6⟩ := h
    rcases List.mem_cons.mp ha with e | ha
    · rw [e]; exact ⟨_, h1⟩
    rcases List.mem_cons.mp ha with e | ha
    · rw [e]; exact ⟨_, h2⟩
    rcases List.mem_append.mp ha with ha | ha
    · obtain ⟨j, hj, ej⟩ := List.getElem_of_mem ha
      obtain ⟨⟨dj, a1⟩, a2⟩ := h6 j (by omega)
      rw [List.getD_eq_getElem?_getD (l := as), List.getElem?_eq_getElem hj, Option.getD_some, ej] at a1
      exact ⟨_, a1⟩
    · obtain ⟨j, hj, ej⟩ := List.getElem_of_mem ha
      obtain ⟨a1, a2⟩ := h6 j (by omega)
      rw [List.getD_eq_getElem?_getD (l := tds), List.getElem?_eq_getElem hj, Option.getD_some, ej] at a2
      exact ⟨_, a2⟩
  len := fun st s cs n hg hn => by
    obtain ⟨h1, h2⟩ := hg
    show ((ansS 1 st s).run cs).1.length ≤ 4 ∧ ((ansS 1 st s).run cs).2.1.length ≤ 40 ∧ (((ansS 1 st s).run cs).2.2.length = r ∧ ∀ x, x ∈ ((ansS 1 st s).run cs).2.2 → goodT x (n + ((ansS 1 st s).run cs).1.length))
    unfold ansS
    split
    · rename_i e
      have g := goS_good (h := 1) (by decide) st (s.take 1) (s.drop 1) cs n (by simp; omega) (by simp; omega) h2
      rw [run_bind]
      simp only [T.run, List.append_nil]
      obtain ⟨g1, g2, g3, g4, g5⟩ := g
      exact ⟨by omega, by rw [List.length_append]; omega, by omega, g5⟩
    · exact ⟨by simp [T.run], by simp [T.run], by simp [T.run]; exact h1, fun x hx => (h2 x hx).mono (Nat.le_add_right _ _)⟩
  mono := fun h l => ⟨h.1, fun st hs => (h.2 st hs).mono l⟩
end
end BK
/-! Breakback k27: the table of a game. -/
namespace BK
open PySem PySem.Spec PyProof.Rows L2 He
def Gm.kind : Gm → Str
  | .fn _ => "function"
  | .perm _ => "permutation"
  | .swaps _ => "swaps"
def wG (K : PySem.W.Frag) : Gm → Wd K
  | .fn l => wF K l
  | .perm l => wP K l
  | .swaps r => wS K r
def i0 (K : PySem.W.Frag) : (g : Gm) → (wG K g).S
  | .fn _ => ([] : Tl)
  | .perm _ => ([] : Tl)
  | .swaps r => List.replicate r ([] : Tl)
theorem tree_eq (K : PySem.W.Frag) (g : Gm) (b : B) : g.tree b = play (wG K g).ans b [] (i0 K g) := by cases g <;> rfl
theorem i0_good (K : PySem.W.Frag) (g : Gm) : (wG K g).good (i0 K g) 0 := by
  cases g with
  | fn l => exact ⟨Nat.le_refl _, fun x z => nomatch z⟩
  | perm l => exact ⟨Nat.le_refl _, fun x z => nomatch z⟩
  | swaps r =>
    refine ⟨List.length_replicate, fun st hs => ?_⟩
    rw [(List.mem_replicate.mp hs).2]
    exact ⟨Nat.le_refl _, fun x z => nomatch z⟩
section
variable {P : Program} {w : World} {K : PySem.W.Frag} {mg : Str → Option Value} {base : Heap}
theorem wG_ok (F : Fx K w mg) {g : Gm} (h : g.ok) : WOk P w mg base (wG K g) := by
  cases g with
  | fn l => exact wF_ok F h.2
  | perm l => exact wP_ok F h.2
  | swaps r => exact wS_ok F h.2
/-! function_world -/
def spFnWorld (K : PySem.W.Frag) : Sp := fun vs H Q _ => ∃ (tp blk : Addr) (l : Nat), vs = [.ref tp, .ref blk, .bl false] ∧ IsFn H blk l ∧
  ∀ (H' : Hp) (wd td : Addr), Fr [] H H' → H wd = none → H td = none → AnyAt K H' wd tp td l l [] → Q (.ref wd) H'
theorem k_function_world (F : Fx K w mg) : Kp P w K mg base 3 "function_world" ["tape", "block", "real"] (spFnWorld K) := by
  have k_AnyWorld_init : Ki P w K mg base 1 _ _ _ := k_AnyWorld_init F
  refine kp_of F.d_function_world F.g_function_world sc_function_world (fun _ _ _ _ _ _ us hl => match us, hl with | [_, _, _], _ => rfl) (fun vs H Q E h => ?_) (fun cdv A outer s H vs Q E hr h => ?_)
  · obtain ⟨tp, blk, l, rfl, _⟩ := h
    rfl
  · obtain ⟨tp, blk, l, rfl, ⟨r, k0, k1, rows0, rows1, hb, _⟩, q⟩ := h
    refine ⟨_, (pss_one (ps_ret (pe_ifExp (pt_val (pv 2)) pe_dead (pe_kiK k_AnyWorld_init (hr.mono (by decide)) (pa_cons (pv 0) (pa_cons (pe_ix (r := rIxT K) ix_tup (pv 1) pe_int (fun _ _ => rfl)) (pa_cons (pe_ix (r := rIxT K) ix_tup (pv 1) pe_int (fun _ _ => rfl)) pa_nil))))))), ?_⟩
    refine ⟨_, rfl, _, rfl, iteF ?_⟩
    refine ⟨_, rfl, _, rfl, blk, _, 2, _, rfl, rfl, SqT.at hb, atI_nat (j := 2) rfl, _, rfl, blk, _, 3, _, rfl, rfl, SqT.at hb, atI_nat (j := 3) rfl, fun x dx nx ndx ne => ?_⟩
    have m1 := made_fr (o := .ins (ga K "AnyWorld") dx []) nx ndx ne
    refine ⟨x, dx, tp, l, l, rfl, upd_same, fun H' td f ntd hA => ⟨rfl, ?_⟩⟩
    exact q H' x td (m1.trans' f fun a ha => by rw [List.mem_singleton.mp ha]; exact .inr nx) nx (m1.free ntd) hA
/-! Table.begin_asks -/
def TabAt (K : PySem.W.Frag) (H : Hp) (tb gt tp : Addr) (g : Gm) (wv : V) : Prop := ∃ dx, H tb = some (.ins (ga K "Table") dx (f_Table (.ref gt) (.ref tp) (.str g.kind) (.str "") wv .non))
def spBegin (K : PySem.W.Frag) : Sp := fun vs H Q _ => ∃ (tb gt tp d : Addr) (g : Gm) (wv : V) (ts : List V), vs = [.ref tb] ∧ TabAt K H tb gt tp g wv ∧ IsG H gt g ∧ g.ok ∧ H d = some (.lst ts) ∧
  ∀ (H' : Hp) (wd : Addr) (own : List Addr), Fr [tb] H H' → (∀ a, a ∈ own → H a = none) → TabAt K H' tb gt tp g (.ref wd) → (wG K g).At H' wd tp d own (i0 K g) → Q .non H'
theorem k_Table_begin_asks (F : Fx K w mg) : Km P w K mg base 5 "Table" "begin_asks" ["self"] (spBegin K) := by
  have k_PermutationWorld_init : Ki P w K mg base 1 _ _ _ := k_PermutationWorld_init F
  have k_SwapWorld_init : Ki P w K mg base 3 _ _ _ := k_SwapWorld_init F
  have k_function_world : Kp P w K mg base 3 _ _ _ := k_function_world F
  refine km_of F.d_Table_begin_asks F.c_Table F.m_Table_begin_asks sc_Table_begin_asks (fun _ _ _ _ _ _ us hl => match us, hl with | [_], _ => rfl) (fun vs H Q E h => ?_) (fun cdv A outer s H vs Q E hr h => ?_)
  · obtain ⟨tb, gt, tp, d, g, wv, ts, rfl, _⟩ := h
    rfl
  · obtain ⟨tb, gt, tp, d, g, wv, ts, rfl, ⟨dx, ht⟩, hg, ok, hd, q⟩ := h
    refine ⟨_, (pss_cons (ps_par (i := 1) (j := 2) (by rfl) sc_Table_begin_asks.nd rfl rfl (by decide) rfl rfl (pa_cons (pe_fldK (K := K) (pv 0) rfl) (pa_cons (pe_fldK (K := K) (pv 0) rfl) pa_nil)) (by rfl))
        (pss_one (ps_if (pt_cmpR op_eq (pe_fldK (K := K) (pv 0) rfl) pe_str (nomark _))
          (pss_one (ps_fld (pv 0) (pe_kiK k_PermutationWorld_init (hr.mono (by decide)) (pa_cons (pv 2) (pa_cons (pe_ix (r := rIxT K) ix_tup (pv 1) pe_int (fun _ _ => rfl)) pa_nil))) rfl))
          (pss_one (ps_if (pt_cmpR op_eq (pe_fldK (K := K) (pv 0) rfl) pe_str (nomark _))
            (pss_one (ps_fld (pv 0) (pe_kiK k_SwapWorld_init (hr.mono (by decide)) (pa_cons (pv 2) (pa_cons (pe_ix (r := rIxT K) ix_tup (pv 1) pe_int (fun _ _ => rfl)) (pa_cons (pe_ix (r := rIxT K) ix_tup (pv 1) pe_int (fun _ _ => rfl)) pa_nil)))) rfl))
            (pss_cons (ps_fld (pv 0) (pe_k k_function_world (hr.mono (by decide)) (pa_cons (pv 2) (pa_cons (pe_ix (r := rIxT K) ix_tup (pv 1) pe_int (fun _ _ => rfl)) (pa_cons (pe_ix (r := rIxT K) ix_tup (pv 1) pe_int (fun _ _ => rfl)) pa_nil)))) rfl)
            (pss_one (ps_if (pt_cmpR op_eq (pe_fldK (K := K) (pv 0) rfl) pe_str (nomark _))
              pss_dead
              pss_nil)))))))), ?_⟩
    refine ⟨_, rfl, tb, _, dx, _, _, rfl, ht, F.c_Table, F.n_Table_game, lk_Table_game, _, rfl, tb, _, dx, _, _, rfl, ht, F.c_Table, F.n_Table_tape, lk_Table_tape, _, _, rfl, ?_⟩
    refine ⟨_, rfl, tb, _, dx, _, _, rfl, ht, F.c_Table, F.n_Table_kind, lk_Table_kind, rfl, _, rfl, ?_⟩
    have ntb : ∀ a, H a = none → a ≠ tb := fun a ha z => by rw [z, ht] at ha; cases ha
    cases g with
    | perm l =>
      have ha : H gt = some (.tup [.str "permutation", .int l]) := hg
      refine iteTd d_perm_perm ?_
      refine ⟨_, rfl, _, rfl, gt, _, 1, _, rfl, rfl, SqT.at ha, atI_nat (j := 1) rfl, fun x dx2 nx ndx ne => ?_⟩
      have m1 := made_fr (o := .ins (ga K "PermutationWorld") dx2 []) nx ndx ne
      refine ⟨x, dx2, tp, l, rfl, upd_same, fun H1 td f ntd hA => ⟨rfl, ?_⟩⟩
      have f1 : Fr [] H H1 := m1.trans' f fun a ha => by rw [List.mem_singleton.mp ha]; exact .inr nx
      refine ⟨_, rfl, tb, _, dx, _, rfl, f1.at ht, F.c_Table, F.n_Table_world, (by show 6 < 1000; decide), ?_⟩
      have f2 : Fr [tb] H1 (upd H1 tb (.ins (ga K "Table") dx (putF "world" (.ref x) (f_Table (.ref gt) (.ref tp) (.str (Gm.perm l).kind) (.str "") wv .non)))) := Fr.put (by simp) (f1.at ht) rfl
      obtain ⟨⟨dp, a1⟩, a2⟩ := hA
      have n2 : td ≠ tb := ntb td (m1.free ntd)
      refine q _ x [x, td] (f1.of0.trans f2) (fun a ha => ?_) ⟨dx, by rw [upd_same, pt_Table_world]⟩ ⟨td, rfl, ⟨dp, f2.1 _ _ a1 (by simp; exact ntb x nx)⟩, f2.1 _ _ a2 (by simp; exact n2)⟩
      rcases List.mem_cons.mp ha with e | e
      · rw [e]; exact nx
      · rw [List.mem_singleton.mp e]; exact m1.free ntd
    | swaps r =>
      have ha : H gt = some (.tup [.str "swaps", .int 1, .int r]) := hg
      refine iteFd d_swaps_perm ?_
      refine ⟨_, rfl, tb, _, dx, _, _, rfl, ht, F.c_Table, F.n_Table_kind, lk_Table_kind, rfl, _, rfl, iteTd d_swaps_swaps ?_⟩
      refine ⟨_, rfl, _, rfl, gt, _, 1, _, rfl, rfl, SqT.at ha, atI_nat (j := 1) rfl, _, rfl, gt, _, 2, _, rfl, rfl, SqT.at ha, atI_nat (j := 2) rfl, fun x dx2 nx ndx ne => ?_⟩
      have m1 := made_fr (o := .ins (ga K "SwapWorld") dx2 []) nx ndx ne
      have hd1 : d ≠ x := ne_of_none hd nx
      refine ⟨x, dx2, tp, d, ts, 1, r, rfl, upd_same, m1.at hd, by have := ok.2; omega, fun H1 fl as tds f nfl nas ntds hA => ⟨rfl, ?_⟩⟩
      have f1 : Fr [] H H1 := m1.trans' f fun a ha => by rw [List.mem_singleton.mp ha]; exact .inr nx
      refine ⟨_, rfl, tb, _, dx, _, rfl, f1.at ht, F.c_Table, F.n_Table_world, (by show 6 < 1000; decide), ?_⟩
      have f2 : Fr [tb] H1 (upd H1 tb (.ins (ga K "Table") dx (putF "world" (.ref x) (f_Table (.ref gt) (.ref tp) (.str (Gm.swaps r).kind) (.str "") wv .non)))) := Fr.put (by simp) (f1.at ht) rfl
      have hno : ∀ a, a ∈ x :: fl :: (as ++ tds) → H a = none := fun a ha => by
        rcases List.mem_cons.mp ha with e | ha
        · rw [e]; exact nx
        rcases List.mem_cons.mp ha with e | ha
        · rw [e]; exact m1.free nfl
        rcases List.mem_append.mp ha with ha | ha
        · exact m1.free (nas a ha)
        · exact m1.free (ntds a ha)
      refine q _ x (x :: fl :: (as ++ tds)) (f1.of0.trans f2) hno ⟨dx, by rw [upd_same, pt_Table_world]⟩ ?_
      exact (wS_ok (P := P) (base := base) F ok.2).fr (N := [tb]) ⟨fl, as, tds, rfl, hA⟩ f2 fun a ha z => ntb a (hno a z) (List.mem_singleton.mp ha)
    | fn l =>
      obtain ⟨u, ha, hf⟩ := hg
      refine iteFd d_fn_perm ?_
      refine ⟨_, rfl, tb, _, dx, _, _, rfl, ht, F.c_Table, F.n_Table_kind, lk_Table_kind, rfl, _, rfl, iteFd d_fn_swaps ?_⟩
      refine ⟨_, rfl, _, rfl, gt, _, 1, _, rfl, rfl, SqT.at ha, atI_nat (j := 1) rfl, _, rfl, gt, _, 2, _, rfl, rfl, SqT.at ha, atI_nat (j := 2) rfl, tp, u, l, rfl, hf, fun H1 x td f1 nx ntd hA => ?_⟩
      refine ⟨_, rfl, tb, _, dx, _, rfl, f1.at ht, F.c_Table, F.n_Table_world, (by show 6 < 1000; decide), ?_⟩
      have f2 : Fr [tb] H1 (upd H1 tb (.ins (ga K "Table") dx (putF "world" (.ref x) (f_Table (.ref gt) (.ref tp) (.str (Gm.fn l).kind) (.str "") wv .non)))) := Fr.put (by simp) (f1.at ht) rfl
      have hN : ∀ a, a ∈ [x, td] → H a = none := fun a ha => by
        rcases List.mem_cons.mp ha with e | e
        · rw [e]; exact nx
        · rw [List.mem_singleton.mp e]; exact ntd
      refine ⟨_, rfl, tb, _, dx, _, _, rfl, upd_same, F.c_Table, F.n_Table_kind, (by rw [pt_Table_world]; exact lk_Table_kind), rfl, _, rfl, iteFd d_fn_secrets ?_⟩
      refine q _ x [x, td] (f1.of0.trans f2) hN ⟨dx, by rw [upd_same, pt_Table_world]⟩ ?_
      exact (wF_ok (P := P) (base := base) F ok.2).fr (N := [tb]) ⟨td, rfl, hA⟩ f2 fun a ha z => ntb a (hN a z) (List.mem_singleton.mp ha)
end
end BK
/-! Breakback k27: a game is played. -/
namespace BK
open PySem PySem.Spec PyProof.Rows L2 He
theorem IsG.head {H : Hp} {a : Addr} {g : Gm} (h : IsG H a g) : ∃ r, H a = some (.tup (.str g.kind :: r)) := by
  cases g with
  | fn l => obtain ⟨u, h1, _⟩ := h; exact ⟨_, h1⟩
  | perm l => exact ⟨_, h⟩
  | swaps r => exact ⟨_, h⟩
theorem kinds {p : Str → Prop} (h1 : p "function") (h2 : p "permutation") (h3 : p "swaps") (g : Gm) : p g.kind := by
  cases g
  · exact h1
  · exact h2
  · exact h3
theorem in_kinds (g : Gm) : inV (.str g.kind) [.str "permutation", .str "swaps", .str "function", .str "marks", .str "secrets"] = true :=
  kinds (p := fun z => inV (.str z) [.str "permutation", .str "swaps", .str "function", .str "marks", .str "secrets"] = true) (by decide +kernel) (by decide +kernel) (by decide +kernel) g
theorem kd_marks (g : Gm) : decide (V.str g.kind = V.str "marks") = false := kinds (p := fun z => decide (V.str z = V.str "marks") = false) (by decide +kernel) (by decide +kernel) (by decide +kernel) g
theorem kd_next (g : Gm) : decide (V.str g.kind = V.str "next") = false := kinds (p := fun z => decide (V.str z = V.str "next") = false) (by decide +kernel) (by decide +kernel) (by decide +kernel) g
theorem kd_hard (g : Gm) : decide (V.str g.kind = V.str "hard") = false := kinds (p := fun z => decide (V.str z = V.str "hard") = false) (by decide +kernel) (by decide +kernel) (by decide +kernel) g
theorem kd_inverse (g : Gm) : decide (V.str g.kind = V.str "inverse") = false := kinds (p := fun z => decide (V.str z = V.str "inverse") = false) (by decide +kernel) (by decide +kernel) (by decide +kernel) g
theorem kd_onetime (g : Gm) : decide (V.str g.kind = V.str "onetime") = false := kinds (p := fun z => decide (V.str z = V.str "onetime") = false) (by decide +kernel) (by decide +kernel) (by decide +kernel) g
section
variable {P : Program} {w : World} {K : PySem.W.Frag} {mg : Str → Option Value} {base : Heap}
def spTableInit (K : PySem.W.Frag) : Sp := fun vs H Q _ => ∃ (x dx gt tp d : Addr) (g : Gm) (ts : List V), vs = [.ref x, .ref gt, .ref tp] ∧ H x = some (.ins (ga K "Table") dx []) ∧ IsG H gt g ∧ g.ok ∧ H d = some (.lst ts) ∧
  ∀ (H' : Hp) (wd : Addr) (own : List Addr), Fr [x] H H' → (∀ a, a ∈ own → H a = none) → TabAt K H' x gt tp g (.ref wd) → (wG K g).At H' wd tp d own (i0 K g) → Q .non H'
theorem k_Table_init (F : Fx K w mg) : Ki P w K mg base 6 "Table" ["self", "game", "tape"] (spTableInit K) := by
  have k_Table_begin_asks : Km P w K mg base 5 _ _ _ _ := k_Table_begin_asks F
  refine ki_of F.d_Table_init F.g_Table F.k_Table sc_Table_init (fun _ _ _ _ _ _ us hl => match us, hl with | [_, _, _], _ => rfl) (fun vs H Q E h => ?_) (fun cdv A outer s H vs Q E hr h => ?_)
  · obtain ⟨x, dx, gt, tp, d, g, ts, rfl, _⟩ := h
    rfl
  · obtain ⟨x, dx, gt, tp, d, g, ts, rfl, hx, hg, ok, hd, q⟩ := h
    obtain ⟨r, hgt⟩ := hg.head
    refine ⟨_, (pss_cons (ps_fld (pv 0) (pv 1) rfl)
        (pss_cons (ps_fld (pv 0) (pv 2) rfl)
        (pss_cons (ps_fld (pv 0) (pe_ix (r := rIxT K) ix_tup (pv 1) pe_int (fun _ _ => rfl)) rfl)
        (pss_cons (ps_fld (pv 0) pe_str rfl)
        (pss_cons (ps_fld (pv 0) (pe_make00 F.x_Silent.1 F.x_Silent.2.1 F.x_Silent.2.2 (by rfl) F.g_Silent) rfl)
        (pss_cons (ps_fld (pv 0) pe_non rfl)
        (pss_one (ps_if (pt_cmpR (r := rIn K false) op_in_seq (pe_fldK (K := K) (pv 0) rfl) (pe_tup (pa_cons pe_str (pa_cons pe_str (pa_cons pe_str (pa_cons pe_str (pa_cons pe_str pa_nil)))))) (by rfl))
          (pss_one (ps_expr (pe_km0 (pv 0) k_Table_begin_asks (hr.mono (by decide)))))
          pss_dead)))))))), ?_⟩
    have step : ∀ {H1 : Hp} {fs : List (Str × V)} {f : Str} {v : V}, Fr [x] H H1 → H1 x = some (.ins (ga K "Table") dx fs) → Fr [x] H (upd H1 x (.ins (ga K "Table") dx (putF f v fs))) ∧ (upd H1 x (.ins (ga K "Table") dx (putF f v fs))) x = some (.ins (ga K "Table") dx (putF f v fs)) :=
      fun f1 h1 => ⟨f1.trans (Fr.put (by simp) h1 rfl), upd_same⟩
    have ndx : d ≠ x := (apart hx hd (fun z => by cases z)).symm
    refine ⟨_, rfl, _, rfl, x, _, dx, _, rfl, hx, F.c_Table, F.n_Table_game, (by show 0 < 1000; decide), ?_⟩
    obtain ⟨f1, h1⟩ := step (f := "game") (v := .ref gt) (Fr.refl _ H) hx
    generalize upd H x _ = H1 at f1 h1
    refine ⟨_, rfl, _, rfl, x, _, dx, _, rfl, h1, F.c_Table, F.n_Table_tape, (by show 1 < 1000; decide), ?_⟩
    obtain ⟨f2, h2⟩ := step (f := "tape") (v := .ref tp) f1 h1
    generalize upd H1 x _ = H2 at f2 h2
    refine ⟨_, rfl, gt, _, 0, _, rfl, rfl, SqT.at (f2.2 _ _ hgt), atI_nat (j := 0) rfl, _, rfl, x, _, dx, _, rfl, h2, F.c_Table, F.n_Table_kind, (by show 2 < 1000; decide), ?_⟩
    obtain ⟨f3, h3⟩ := step (f := "kind") (v := .str g.kind) f2 h2
    generalize upd H2 x _ = H3 at f3 h3
    refine ⟨_, rfl, x, _, dx, _, rfl, h3, F.c_Table, F.n_Table_challenge, (by show 3 < 1000; decide), ?_⟩
    obtain ⟨f4, h4⟩ := step (f := "challenge") (v := .str "") f3 h3
    generalize upd H3 x _ = H4 at f4 h4
    intro y dy ny ndy ney
    have m1 := made_fr (o := .ins (ga K "Silent") dy []) ny ndy ney
    have f5 := f4.trans m1.of0
    have h5 := m1.at h4
    generalize upd (upd H4 dy (.own y)) y (.ins (ga K "Silent") dy []) = H5 at f5 h5
    refine ⟨_, rfl, x, _, dx, _, rfl, h5, F.c_Table, F.n_Table_world, (by show 4 < 1000; decide), ?_⟩
    obtain ⟨f6, h6⟩ := step (f := "world") (v := .ref y) f5 h5
    generalize upd H5 x _ = H6 at f6 h6
    refine ⟨_, rfl, x, _, dx, _, rfl, h6, F.c_Table, F.n_Table_secret, (by show 5 < 1000; decide), ?_⟩
    obtain ⟨f7, h7⟩ := step (f := "secret") (v := .non) f6 h6
    generalize upd H6 x _ = H7 at f7 h7
    rw [mk_Table] at h7
    refine ⟨_, rfl, x, _, dx, _, _, rfl, h7, F.c_Table, F.n_Table_kind, lk_Table_kind, sz (by simp), fun u nu => ⟨u, _, rfl, .inr (SqT.at upd_same), rfl, rfl, _, rfl, iteTd (in_kinds g) ?_⟩⟩
    have f8 : Fr [] H7 (upd H7 u (.tup [.str "permutation", .str "swaps", .str "function", .str "marks", .str "secrets"])) := Fr.new nu
    generalize upd H7 u _ = H8 at f8
    have h8 := f8.at h7
    have f78 := f7.trans f8.of0
    refine ⟨_, rfl, x, dx, _, rfl, h8, no_Table_begin_asks, x, gt, tp, d, g, .ref y, ts, rfl, ⟨dx, h8⟩, hg.mono f78.2, ok, f78.1 _ _ hd (by simp; exact ndx), fun H' wd own f hn ht hA => ?_⟩
    refine q H' wd own (f78.trans f) (fun a ha => ?_) ht hA
    have := hn a ha
    exact f78.no this (fun z => by rw [List.mem_singleton.mp z, h8] at this; cases this)
def spHasWon (K : PySem.W.Frag) : Sp := fun vs H Q _ => ∃ (tb gt tp : Addr) (g : Gm) (wv av : V) (said : Bs), vs = [.ref tb, .str (bS said), av] ∧ TabAt K H tb gt tp g wv ∧ Q (.bl (said == [true])) H
theorem k_Table_has_won (F : Fx K w mg) : Km P w K mg base 1 "Table" "has_won" ["self", "said", "asked"] (spHasWon K) := by
  refine km_of F.d_Table_has_won F.c_Table F.m_Table_has_won sc_Table_has_won (fun _ _ _ _ _ _ us hl => match us, hl with | [_, _, _], _ => rfl) (fun vs H Q E h => ?_) (fun cdv A outer s H vs Q E hr h => ?_)
  · obtain ⟨tb, gt, tp, g, wv, av, said, rfl, _⟩ := h
    rfl
  · obtain ⟨tb, gt, tp, g, wv, av, said, rfl, ⟨dx, ht⟩, q⟩ := h
    refine ⟨_, (pss_cons (ps_if (pt_cmpR op_eq (pe_fldK (K := K) (pv 0) rfl) pe_str (nomark _))
          pss_dead
          pss_nil)
        (pss_cons (ps_if (PW.pt (pw_or (pt_cmpR op_eq (pe_fldK (K := K) (pv 0) rfl) pe_str (nomark _)) (pw_or1 (pt_cmpR op_eq (pe_fldK (K := K) (pv 0) rfl) pe_str (nomark _)))))
          pss_dead
          pss_nil)
        (pss_cons (ps_if (pt_cmpR op_eq (pe_fldK (K := K) (pv 0) rfl) pe_str (nomark _))
          pss_dead
          pss_nil)
        (pss_cons (ps_if (pt_cmpR op_eq (pe_fldK (K := K) (pv 0) rfl) pe_str (nomark _))
          pss_dead
          pss_nil)
        (pss_one (ps_ret (pe_cmpR op_eq (pv 1) pe_str (nomark _)))))))), ?_⟩
    refine ⟨_, rfl, tb, _, dx, _, _, rfl, ht, F.c_Table, F.n_Table_kind, lk_Table_kind, rfl, _, rfl, iteFd (kd_marks g) ?_⟩
    refine ⟨_, rfl, tb, _, dx, _, _, rfl, ht, F.c_Table, F.n_Table_kind, lk_Table_kind, rfl, _, rfl, iteFd (kd_next g) ?_⟩
    refine ⟨_, rfl, tb, _, dx, _, _, rfl, ht, F.c_Table, F.n_Table_kind, lk_Table_kind, rfl, _, rfl, iteFd (kd_hard g) ?_⟩
    refine ⟨_, rfl, tb, _, dx, _, _, rfl, ht, F.c_Table, F.n_Table_kind, lk_Table_kind, rfl, _, rfl, iteFd (kd_inverse g) ?_⟩
    refine ⟨_, rfl, tb, _, dx, _, _, rfl, ht, F.c_Table, F.n_Table_kind, lk_Table_kind, rfl, _, rfl, iteFd (kd_onetime g) ?_⟩
    refine ⟨_, rfl, rfl, ?_⟩
    rw [bS_1, bS_dec]
    have e : decide (said = [true]) = (said == [true]) := by
      by_cases z : said = [true]
      · rw [z]; rfl
      · rw [decide_eq_false z, beq_eq_false_iff_ne.mpr z]
    rw [e]
    exact q
def spPlayInit (K : PySem.W.Frag) : Sp := fun vs H Q _ => ∃ (x dx : Addr) (o s dr av : V), vs = [.ref x, o, s, dr, av] ∧ H x = some (.ins (ga K "Play") dx []) ∧
  ∀ (H' : Hp), Fr [x] H H' → H' x = some (.ins (ga K "Play") dx (f_Play o s dr av)) → Q .non H'
theorem k_Play_init (F : Fx K w mg) : Ki P w K mg base 1 "Play" ["self", "outcome", "said", "draws", "asked"] (spPlayInit K) := by
  refine ki_of F.d_Play_init F.g_Play F.k_Play sc_Play_init (fun _ _ _ _ _ _ us hl => match us, hl with | [_, _, _, _, _], _ => rfl) (fun vs H Q E h => ?_) (fun cdv A outer s H vs Q E hr h => ?_)
  · obtain ⟨x, dx, o, s, dr, av, rfl, _⟩ := h
    rfl
  · obtain ⟨x, dx, o, sv, dr, av, rfl, hx, q⟩ := h
    refine ⟨_, (pss_cons (ps_fld (pv 0) (pv 1) rfl)
        (pss_cons (ps_fld (pv 0) (pv 2) rfl)
        (pss_cons (ps_fld (pv 0) (pv 3) rfl)
        (pss_one (ps_fld (pv 0) (pv 4) rfl))))), ?_⟩
    have step : ∀ {H1 : Hp} {fs : List (Str × V)} {f : Str} {v : V}, Fr [x] H H1 → H1 x = some (.ins (ga K "Play") dx fs) → Fr [x] H (upd H1 x (.ins (ga K "Play") dx (putF f v fs))) ∧ (upd H1 x (.ins (ga K "Play") dx (putF f v fs))) x = some (.ins (ga K "Play") dx (putF f v fs)) :=
      fun f1 h1 => ⟨f1.trans (Fr.put (by simp) h1 rfl), upd_same⟩
    refine ⟨_, rfl, _, rfl, x, _, dx, _, rfl, hx, F.c_Play, F.n_Play_outcome, (by show 0 < 1000; decide), ?_⟩
    obtain ⟨f1, h1⟩ := step (f := "outcome") (v := o) (Fr.refl _ H) hx
    generalize upd H x _ = H1 at f1 h1
    refine ⟨_, rfl, _, rfl, x, _, dx, _, rfl, h1, F.c_Play, F.n_Play_said, (by show 1 < 1000; decide), ?_⟩
    obtain ⟨f2, h2⟩ := step (f := "said") (v := sv) f1 h1
    generalize upd H1 x _ = H2 at f2 h2
    refine ⟨_, rfl, _, rfl, x, _, dx, _, rfl, h2, F.c_Play, F.n_Play_draws, (by show 2 < 1000; decide), ?_⟩
    obtain ⟨f3, h3⟩ := step (f := "draws") (v := dr) f2 h2
    generalize upd H2 x _ = H3 at f3 h3
    refine ⟨_, rfl, _, rfl, x, _, dx, _, rfl, h3, F.c_Play, F.n_Play_asked, (by show 3 < 1000; decide), ?_⟩
    obtain ⟨f4, h4⟩ := step (f := "asked") (v := av) f3 h3
    rw [mk_Play] at f4 h4
    rw [mk_Play]
    exact q _ f4 h4
theorem k_run_breaker (F : Fx K w mg) {W : Wd K} (O : WOk P w mg base W) : Kp P w K mg base 7 "run_breaker" ["breaker", "tape", "challenge", "world"] (spRunPlain W) := by
  have k_run_plain : Kp P w K mg base 6 _ _ _ := k_run_plain F O
  refine kp_of F.d_run_breaker F.g_run_breaker sc_run_breaker (fun _ _ _ _ _ _ us hl => match us, hl with | [_, _, _, _], _ => rfl) (fun vs H Q E h => ?_) (fun cdv A outer s H vs Q E hr h => ?_)
  · obtain ⟨bv, nt, ka, wd, tp, d, own, k, e, cs, ds, st, hd, b, rfl, _⟩ := h
    rfl
  · obtain ⟨bv, nt, ka, wd, tp, d, own, k, e, cs, ds, st, hd, b, rfl, hb, wf, S, l1, l2, l3, hv, q⟩ := h
    refine ⟨_, (pss_cons (ps_if (pt_cmpR (op_in_kdE F.kd_RUNS) (pe_ix (r := rIxT K) ix_tup (pv 0) pe_int (fun _ _ => rfl)) (pe_glob (v := .ref (ga K "RUNS")) rfl F.g_RUNS rfl) (by rfl))
          pss_dead
          pss_nil)
        (pss_one (ps_ret (pe_k k_run_plain (hr.mono (by decide)) (pa_cons (pv 0) (pa_cons (pv 1) (pa_cons (pv 2) (pa_cons (pv 3) pa_nil)))))))), ?_⟩
    have fin : spRunPlain W [bv, .ref tp, .str (bS hd), .ref nt] H Q E0 := ⟨bv, nt, ka, wd, tp, d, own, k, e, cs, ds, st, hd, b, rfl, hb, wf, S, l1, l2, l3, hv, q⟩
    have hw : ∃ (a : Addr) (z : Str) (r : List V), bv = .ref a ∧ H a = some (.tup (.str z :: r)) ∧ PySem.W.nsIn K (ga K "RUNS") z = some none := by
      cases b with
      | say ps => obtain ⟨a, p, e1, h1, _⟩ := hb; exact ⟨a, _, _, e1, h1, F.r_say⟩
      | toss n f => obtain ⟨a, p, xs, e1, h1, _⟩ := hb; exact ⟨a, _, _, e1, h1, F.r_toss⟩
      | look n b c => obtain ⟨a, x, y, e1, h1, _⟩ := hb; exact ⟨a, _, _, e1, h1, F.r_look⟩
      | ask ps b => obtain ⟨a, p, x, e1, h1, _⟩ := hb; exact ⟨a, _, _, e1, h1, F.r_ask⟩
    obtain ⟨a, z, r, e1, h1, hz⟩ := hw
    subst e1
    refine ⟨_, rfl, a, _, 0, _, rfl, rfl, SqT.at h1, atI_nat (j := 0) rfl, z, _, rfl, rfl, hz, _, rfl, iteFd rfl ?_⟩
    exact ⟨_, rfl, _, rfl, _, rfl, _, rfl, fin⟩
end
end BK
/-! Breakback k27: a game is played once. -/
namespace BK
open PySem PySem.Spec PyProof.Rows L2 He
section
variable {P : Program} {w : World} {K : PySem.W.Frag} {mg : Str → Option Value} {base : Heap}
def PlayAt (K : PySem.W.Frag) (H : Hp) (z : Addr) (R : Dr × Bool) : Prop := ∃ (dx d : Addr) (s a : V) (ts : List V), H z = some (.ins (ga K "Play") dx (f_Play (.int (if R.2 = true then 1 else 0)) s (.ref d) a)) ∧ H d = some (.lst ts) ∧ Paired (IsD H) ts R.1 ∧ R.1.length ≤ 1000
def spPlayed (K : PySem.W.Frag) (g : Gm) (b : B) : Sp := fun vs H Q _ => ∃ (gt c0 : Addr) (bv : V) (cs : List Nat) (e : Nat), vs = [.ref gt, bv, .ref c0] ∧ IsG H gt g ∧ IsB H bv b ∧ Wf e b ∧ e ≤ 8 ∧ SqL K H c0 (cs.map nI) ∧ (g.tree b).Val cs ∧
  ∀ (H' : Hp) (z : Addr), Fr [] H H' → PlayAt K H' z ((g.tree b).run cs) → Q (.ref z) H'
theorem k_played (F : Fx K w mg) : Kp P w K mg base 8 "played" ["game", "breaker", "choices"] (fun vs H Q E => ∃ (g : Gm) (b : B), g.ok ∧ spPlayed K g b vs H Q E) := by
  have k_Tape_init : Ki P w K mg base 1 _ _ _ := k_Tape_init F
  have k_Table_init : Ki P w K mg base 6 _ _ _ := k_Table_init F
  have k_Notes_init : Ki P w K mg base 1 _ _ _ := k_Notes_init F
  have k_Table_has_won : Km P w K mg base 1 _ _ _ _ := k_Table_has_won F
  have k_Play_init : Ki P w K mg base 1 _ _ _ := k_Play_init F
  refine kp_of F.d_played F.g_played sc_played (fun _ _ _ _ _ _ us hl => match us, hl with | [_, _, _], _ => rfl) (fun vs H Q E h => ?_) (fun cdv A outer s H vs Q E hr h => ?_)
  · obtain ⟨g, b, ok, gt, c0, bv, cs, e, rfl, _⟩ := h
    rfl
  · obtain ⟨g, b, ok, gt, c0, bv, cs, e, rfl, hg, hb, wf, he, hc, hv, q⟩ := h
    have O : WOk P w mg base (wG K g) := wG_ok F ok
    have k_run_breaker : Kp P w K mg base 7 _ _ _ := k_run_breaker F O
    rw [tree_eq K] at hv q
    refine ⟨_, (pss_cons (ps_set (i := 3) sc_played.nd rfl (Or.inl rfl) (pe_kiK k_Tape_init (hr.mono (by decide)) (pa_cons (pv 2) pa_nil)))
        (pss_cons (ps_set (i := 4) sc_played.nd rfl (Or.inl rfl) (pe_kiK k_Table_init (hr.mono (by decide)) (pa_cons (pv 0) (pa_cons (pv 3) pa_nil))))
        (pss_cons (ps_set (i := 5) sc_played.nd rfl (Or.inl rfl) (pe_kiK k_Notes_init (hr.mono (by decide)) (pa_cons (pe_fldK (K := K) (pv 4) rfl) pa_nil)))
        (pss_cons (ps_set (i := 6) sc_played.nd rfl (Or.inl rfl) (pe_k k_run_breaker (hr.mono (by decide)) (pa_cons (pv 1) (pa_cons (pv 3) (pa_cons (pe_fldK (K := K) (pv 4) rfl) (pa_cons (pv 5) pa_nil))))))
        (pss_cons (ps_set (i := 7) sc_played.nd rfl (Or.inl rfl) (pe_callTy call_int1 (by rfl) F.b_int (by decide +kernel) (pa_cons (pe_km (pv 4) k_Table_has_won (hr.mono (by decide)) (pa_cons (pv 6) (pa_cons (pe_fldK (K := K) (pv 5) rfl) pa_nil))) pa_nil)))
        (pss_one (ps_ret (pe_kiK k_Play_init (hr.mono (by decide)) (pa_cons (pv 7) (pa_cons (pv 6) (pa_cons (pe_fldK (K := K) (pv 3) rfl) (pa_cons (pe_fldK (K := K) (pv 5) rfl) pa_nil)))))))))))), ?_⟩
    refine ⟨_, rfl, fun x dx nx ndx ne => ?_⟩
    have m1 := made_fr (o := .ins (ga K "Tape") dx []) nx ndx ne
    refine ⟨x, dx, c0, cs, rfl, upd_same, m1.seq hc, fun H1 d f nd hT => ⟨rfl, ?_⟩⟩
    have f1 : Fr [] H H1 := m1.trans' f fun a ha => by rw [List.mem_singleton.mp ha]; exact .inr nx
    have nd0 := m1.free nd
    clear f nd m1
    obtain ⟨dt, ct, ts, t1, t2, t3, t4, t5, t6⟩ := id hT.ex
    refine ⟨_, rfl, _, rfl, fun y dy ny ndy ney => ?_⟩
    have m2 := made_fr (o := .ins (ga K "Table") dy []) ny ndy ney
    have hg1 := hg.mono (f1.trans m2).2
    refine ⟨y, dy, gt, x, d, g, ts, rfl, upd_same, hg1, ok, m2.at t3, fun H2 wd own f hn htb hW => ⟨rfl, ?_⟩⟩
    have f2 : Fr [] H1 H2 := m2.trans' f fun a ha => by rw [List.mem_singleton.mp ha]; exact .inr ny
    have hn1 : ∀ a, a ∈ own → H1 a = none := fun a ha => m2.free (hn a ha)
    have nyo : y ∉ own := fun z => by have := hn _ z; rw [upd_same] at this; cases this
    clear f hn m2 hg1
    obtain ⟨dyy, hy2⟩ := htb
    refine ⟨_, rfl, y, _, dyy, _, _, rfl, hy2, F.c_Table, F.n_Table_world, lk_Table_world, fun n dn nn ndn nen => ?_⟩
    have m3 := made_fr (o := .ins (ga K "Notes") dn []) nn ndn nen
    refine ⟨n, dn, wd, rfl, upd_same, fun H3 ka f nka hN => ⟨rfl, ?_⟩⟩
    have f3 : Fr [] H2 H3 := m3.trans' f fun a ha => by rw [List.mem_singleton.mp ha]; exact .inr nn
    have nka2 := m3.free nka
    clear f nka m3
    have f12 := f1.trans f2
    have f123 := f12.trans f3
    have f23 := f2.trans f3
    have hy3 := f3.at hy2
    have hexo : ∀ a, a ∈ own → ∃ o, H2 a = some o := O.ex hW
    have hd2 := f2.at t3
    have hx2 := f2.at t1
    have hc2 := f2.at t2
    have ndo : d ∉ own := fun z => by have := hn1 _ z; rw [t3] at this; cases this
    have nxo : x ∉ own := fun z => by have := hn1 _ z; rw [t1] at this; cases this
    have env : Env K H3 n ka x d own := by
      refine ⟨fun z => ?_, fun z => ?_, fun z => ?_, ndo, dt, ct, f23.at t1, fun z => ?_⟩
      · rcases List.mem_cons.mp z with z | z
        · rw [z, hd2] at nn; cases nn
        · obtain ⟨o, ho⟩ := hexo _ z
          rw [nn] at ho; cases ho
      · rcases List.mem_cons.mp z with z | z
        · rw [z, hd2] at nka2; cases nka2
        · obtain ⟨o, ho⟩ := hexo _ z
          rw [nka2] at ho; cases ho
      · rcases List.mem_cons.mp z with z | z
        · rw [← z, hx2] at nka2; cases nka2
        rcases List.mem_cons.mp z with z | z
        · exact apart t1 t3 (fun z => by cases z) z
        · exact nxo z
      · rw [z, hc2] at nka2; cases nka2
    have S : Stand (wG K g) H3 n ka wd x d own cs [] (i0 K g) 0 := ⟨hN, env, hT.fr0 f23, O.fr hW f3 (fun _ z => nomatch z), i0_good K g⟩
    refine ⟨_, rfl, _, rfl, _, rfl, y, _, dyy, _, _, rfl, hy3, F.c_Table, F.n_Table_challenge, lk_Table_challenge, _, rfl, bv, n, ka, wd, x, d, own, 0, e, cs, [], i0 K g, [], b, by rw [← bS_nil]; rfl, hb.fr f123, wf, S, by simp; omega, by simp; omega, by omega, hv, fun H4 said f4 hN4 ht4 hsaid => ?_⟩
    have nyM : y ∉ ka :: d :: own := by
      intro z
      rcases List.mem_cons.mp z with z | z
      · rw [← z, hy2] at nka2; cases nka2
      rcases List.mem_cons.mp z with z | z
      · rw [z, t3] at ny; cases ny
      · exact nyo z
    have hy4 := f4.1 _ _ hy3 nyM
    obtain ⟨⟨dn4, hn4⟩, _⟩ := hN4
    refine ⟨_, rfl, y, dyy, _, rfl, hy4, no_Table_has_won, _, rfl, _, rfl, n, _, dn4, _, _, rfl, hn4, F.c_Notes, F.n_Notes_asked, lk_Notes_asked, y, gt, x, g, _, _, said, rfl, ⟨dyy, hy4⟩, .inr ⟨_, rfl, ?_⟩⟩
    obtain ⟨dt4, ct4, ts4, u1, u2, u3, u4, u5, u6⟩ := id ht4.ex
    refine ⟨_, rfl, _, rfl, _, rfl, x, _, dt4, _, _, rfl, u1, F.c_Tape, F.n_Tape_draws, lk_Tape_draws, _, rfl, n, _, dn4, _, _, rfl, hn4, F.c_Notes, F.n_Notes_asked, lk_Notes_asked, fun z dz nz ndz nez => ?_⟩
    have m5 := made_fr (o := .ins (ga K "Play") dz []) nz ndz nez
    refine ⟨z, dz, _, _, _, _, rfl, upd_same, fun H5 f hz5 => ⟨rfl, ?_⟩⟩
    have f5 : Fr [] H4 H5 := m5.trans' f fun a ha => by rw [List.mem_singleton.mp ha]; exact .inr nz
    refine q H5 z ((f123.trans' f4 fun a ha => .inr ?_).trans f5) ⟨dz, d, .str (bS said), .ref ka, ts4, ?_, f5.at u3, paired_map (fun u x h => h.mono f5.2) u4, u6⟩
    · rcases List.mem_cons.mp ha with e1 | ha
      · rw [e1]; exact f12.free nka2
      rcases List.mem_cons.mp ha with e1 | ha
      · rw [e1]; exact nd0
      · exact f1.free (hn1 _ ha)
    · rw [← hsaid] at hz5
      exact hz5
end
end BK
/-! Breakback k27: fractions, the next choices. -/
namespace BK
open PySem PySem.Spec PyProof.Rows L2 He
def ratV (x : Rat) : List V := [.int x.num, .int x.den]
section
variable {P : Program} {w : World} {K : PySem.W.Frag} {mg : Str → Option Value} {base : Heap}
def spFrac : Sp := fun vs H Q _ => ∃ (a : Int) (b : Nat), vs = [.int a, .int b] ∧ b ≠ 0 ∧ b < 2 ^ 600 ∧ ∀ p, H p = none → Q (.ref p) (upd H p (.tup (ratV (mkRat a b))))
theorem k_fraction (F : Fx K w mg) : Kp P w K mg base 1 "fraction" ["numerator", "denominator"] spFrac := by
  refine kp_of F.d_fraction F.g_fraction sc_fraction (fun _ _ _ _ _ _ us hl => match us, hl with | [_, _], _ => rfl) (fun vs H Q E h => ?_) (fun cdv A outer s H vs Q E hr h => ?_)
  · obtain ⟨a, b, rfl, _⟩ := h
    rfl
  · obtain ⟨a, b, rfl, hb, hb2, q⟩ := h
    refine ⟨_, (pss_cons (ps_set (i := 2) sc_fraction.nd rfl (Or.inl rfl) (pe_callBfun cr_gcd (by rfl) F.g_gcd (pa_cons (pv 0) (pa_cons (pv 1) pa_nil))))
        (pss_cons (ps_if (pt_cmpR op_lt (pv 1) pe_int (nomark _))
          (pss_one (ps_set (i := 2) sc_fraction.nd rfl (Or.inl rfl) (pe_un un_neg (pv 2))))
          pss_nil)
        (pss_one (ps_ret (pe_tup (pa_cons (pe_op op_fdivW (pv 0) (pv 2)) (pa_cons (pe_op op_fdivW (pv 1) (pv 2)) pa_nil))))))), ?_⟩
    have hg0 : 0 < Nat.gcd a.natAbs b := Nat.gcd_pos_of_pos_right _ (Nat.pos_of_ne_zero hb)
    have hgb : Nat.gcd a.natAbs b ≤ b := Nat.gcd_le_right _ (Nat.pos_of_ne_zero hb)
    have hW : ∀ i : Int, CDivW i ((Nat.gcd a.natAbs ((b : Nat) : Int).natAbs : Nat) : Int) := fun i => wide_div (b := 600) (by rw [Int.natAbs_natCast]; omega) (by rw [Int.natAbs_natCast, Int.natAbs_natCast]; omega) (by decide) (by decide)
    refine ⟨_, rfl, _, rfl, a, b, rfl, ?_⟩
    refine ⟨_, rfl, _, _, rfl, rfl, _, rfl, iteFd (decide_eq_false (by omega)) ?_⟩
    refine ⟨_, rfl, _, rfl, _, _, rfl, rfl, hW _, _, rfl, _, rfl, _, _, rfl, rfl, hW _, sz (by simp), fun p np => ?_⟩
    have := q p np
    rw [ratV, mk_num a hb, mk_den a hb] at this
    rw [Int.natAbs_natCast]
    exact this
def spAdd : Sp := fun vs H Q _ => ∃ (p1 p2 : Addr) (x y : Rat), vs = [.ref p1, .ref p2] ∧ H p1 = some (.tup (ratV x)) ∧ H p2 = some (.tup (ratV y)) ∧ x.num.natAbs < 2 ^ 120 ∧ y.num.natAbs < 2 ^ 120 ∧ x.den < 2 ^ 120 ∧ y.den < 2 ^ 120 ∧ ∀ p, H p = none → Q (.ref p) (upd H p (.tup (ratV (x + y))))
theorem k_add (F : Fx K w mg) : Kp P w K mg base 2 "add" ["first", "second"] spAdd := by
  have k_fraction : Kp P w K mg base 1 _ _ _ := k_fraction F
  refine kp_of F.d_add F.g_add sc_add (fun _ _ _ _ _ _ us hl => match us, hl with | [_, _], _ => rfl) (fun vs H Q E h => ?_) (fun cdv A outer s H vs Q E hr h => ?_)
  · obtain ⟨p1, p2, x, y, rfl, _⟩ := h
    rfl
  · obtain ⟨p1, p2, x, y, rfl, h1, h2, b1, b2, b3, b4, q⟩ := h
    refine ⟨_, (pss_one (ps_ret (pe_k k_fraction (hr.mono (by decide)) (pa_cons (pe_op op_add (pe_op op_mulW (pe_ix (r := rIxT K) ix_tup (pv 0) pe_int (fun _ _ => rfl)) (pe_ix (r := rIxT K) ix_tup (pv 1) pe_int (fun _ _ => rfl))) (pe_op op_mulW (pe_ix (r := rIxT K) ix_tup (pv 1) pe_int (fun _ _ => rfl)) (pe_ix (r := rIxT K) ix_tup (pv 0) pe_int (fun _ _ => rfl)))) (pa_cons (pe_op op_mulW (pe_ix (r := rIxT K) ix_tup (pv 0) pe_int (fun _ _ => rfl)) (pe_ix (r := rIxT K) ix_tup (pv 1) pe_int (fun _ _ => rfl))) pa_nil))))), ?_⟩
    have ix0 : ∀ z : Rat, atI (ratV z) ((0 : Nat) : Int) = some (.int z.num) := fun z => atI_nat (j := 0) rfl
    have ix1 : ∀ z : Rat, atI (ratV z) ((1 : Nat) : Int) = some (.int z.den) := fun z => atI_nat (j := 1) rfl
    have w1 : CMulW x.num y.den := wide_mul (a := 120) (b := 120) b1 (by rw [Int.natAbs_natCast]; exact b4) (by decide) (by decide) (by decide)
    have w2 : CMulW y.num x.den := wide_mul (a := 120) (b := 120) b2 (by rw [Int.natAbs_natCast]; exact b3) (by decide) (by decide) (by decide)
    have w3 : CMulW (x.den : Int) (y.den : Int) := wide_mul (a := 120) (b := 120) (by rw [Int.natAbs_natCast]; exact b3) (by rw [Int.natAbs_natCast]; exact b4) (by decide) (by decide) (by decide)
    refine ⟨_, rfl, p1, _, 0, _, rfl, rfl, SqT.at h1, ix0 x, _, rfl, p2, _, 1, _, rfl, rfl, SqT.at h2, ix1 y, _, _, rfl, rfl, w1, ?_⟩
    refine ⟨_, rfl, p2, _, 0, _, rfl, rfl, SqT.at h2, ix0 y, _, rfl, p1, _, 1, _, rfl, rfl, SqT.at h1, ix1 x, _, _, rfl, rfl, w2, ?_⟩
    refine ⟨_, _, rfl, rfl, ?_⟩
    refine ⟨_, rfl, p1, _, 1, _, rfl, rfl, SqT.at h1, ix1 x, _, rfl, p2, _, 1, _, rfl, rfl, SqT.at h2, ix1 y, _, _, rfl, rfl, w3, ?_⟩
    refine ⟨x.num * y.den + y.num * x.den, x.den * y.den, ?_, Nat.mul_ne_zero x.den_nz y.den_nz, ?_, fun p np => ?_⟩
    · rw [Int.natCast_mul]; rfl
    · have : x.den * y.den < 2 ^ 120 * 2 ^ 120 := Nat.mul_lt_mul'' b3 b4
      exact Nat.lt_of_lt_of_le this (by rw [← Nat.pow_add]; exact Nat.pow_le_pow_right (by decide) (by decide))
    · have := q p np
      rw [Rat.add_def'] at this
      exact this
def spNext (K : PySem.W.Frag) : Sp := fun vs H Q _ => ∃ (d : Addr) (ts : List V) (ds : Dr), vs = [.ref d] ∧ H d = some (.lst ts) ∧ Paired (IsD H) ts ds ∧ ds.length ≤ 1000 ∧
  (∀ (H' : Hp) (p : Addr) (cs : List Nat), nxt ds = some cs → Fr [] H H' → H' p = some (.lst (cs.map nI)) → Q (.ref p) H') ∧ (nxt ds = none → ∀ H', Fr [] H H' → Q .non H')
theorem paired_get {α β : Type} {R : α → β → Prop} : ∀ {xs : List α} {ys : List β}, Paired R xs ys → ∀ (i : Nat) (z : β), i < ys.length → ∃ x, xs[i]? = some x ∧ R x (ys.getD i z)
  | _, _, .nil, i, z, h => absurd h (Nat.not_lt_zero i)
  | _, _, .cons r _, 0, z, _ => ⟨_, rfl, r⟩
  | _, _, .cons _ t, i + 1, z, h => paired_get t i z (by simpa using h)
theorem k_next_choices (F : Fx K w mg) : Kp P w K mg base 1 "next_choices" ["draws"] (spNext K) := by
  refine kp_of F.d_next_choices F.g_next_choices sc_next_choices (fun _ _ _ _ _ _ us hl => match us, hl with | [_], _ => rfl) (fun vs H Q E h => ?_) (fun cdv A outer s H vs Q E hr h => ?_)
  · obtain ⟨d, ts, ds, rfl, _⟩ := h
    rfl
  · obtain ⟨d, ts, ds, rfl, hd, hp, hl, q1, q2⟩ := h
    have hts : ts.length = ds.length := Paired.length hp
    rw [← nxtAt_eq] at q1 q2
    refine ⟨_, (pss_cons (ps_for PassesOwn.never rfl (pi_revR (by rfl) F.b_reversed (prg_1 (by rfl) F.b_range (pe_callB call_len_seq (by rfl) F.b_len (by decide +kernel) (pa_cons (pv 0) pa_nil)))) (pg_name (i := 1) sc_next_choices.nd rfl (Or.inl rfl))
          (pss_cons (ps_asg (pe_ix (r := rIxL K) ix_list (pv 0) (pv 1) (fun _ _ => rfl)) (pg_tupK (K := K) (n := 2) (by rfl) (pgs_cons (pg_name (i := 2) sc_next_choices.nd rfl (Or.inl rfl)) (pgs_cons (pg_name (i := 3) sc_next_choices.nd rfl (Or.inl rfl)) pgs_nil))))
          (pss_one (ps_if (pt_cmpR op_lt (pe_op op_add (pv 2) pe_int) (pv 3) (nomark _))
            (pss_one (ps_ret (pe_op op_cat (pe_lc (own := [("one", 4), ("_", 5)]) rfl sc_next_choices.nd (pi_list (pe_slice sl_list (pv 0) po_none (po_some (pv 1)))) (blkOk_by (own := [("one", 4), ("_", 5)]) (N := N_next_choices) (sc := defScope s_next_choices) (by decide +kernel)) (fun _ _ _ _ _ => (pg_tupK (K := K) (n := 2) (by rfl) (pgs_cons (pg_name (i := 4) sc_next_choices.nd rfl (Or.inl rfl)) (pgs_cons (pg_name (i := 5) sc_next_choices.nd rfl (Or.inl rfl)) pgs_nil)))) (fun _ _ _ _ _ => pts_nil) (fun _ _ _ _ _ => (pv 4))) (pe_lst (pa_cons (pe_op op_add (pv 2) pe_int) pa_nil)))))
            pss_nil))))
        (pss_one (ps_ret pe_non))), ?_⟩
    refine ⟨_, rfl, d, _, rfl, .inl (SqL.at hd), _, rfl, by omega, by omega, by omega, by omega, ?_⟩
    have e0 : ((ts.length : Int) - 0).toNat = ds.length := by omega
    rw [e0]
    refine for_rangeC (fun i σ H' => H' = H ∧ i ≤ ds.length ∧ nxtAt ds (ds.length - i) = nxtAt ds ds.length ∧ ∃ a b c e f, σ = [some (.ref d), a, b, c, e, f]) ⟨rfl, Nat.zero_le _, rfl, none, none, none, none, none, rfl⟩ (fun i σ H' hi h => ?_) (fun σ H' h => ?_)
    · obtain ⟨rfl, hi2, hn, a, b, c, e, f, rfl⟩ := h
      have eat : (0 : Int) + ((ds.length : Nat) : Int) - 1 + ((i : Nat) : Int) * -1 = ((ds.length - 1 - i : Nat) : Int) := by omega
      rw [eat]
      have hk : ds.length - i = (ds.length - 1 - i) + 1 := by omega
      rw [hk, nxtAt_succ] at hn
      generalize hat : ds.length - 1 - i = at' at hn
      have hlt : at' < ds.length := by omega
      obtain ⟨u, hu1, t, rfl, ht⟩ := paired_get hp at' (0, 0) hlt
      refine ⟨_, rfl, _, rfl, d, _, _, _, rfl, rfl, SqL.at hd, atI_nat hu1, t, _, rfl, SqT.at ht, rfl, _, _, rfl, _, _, rfl, rfl, ?_⟩
      refine ⟨_, rfl, _, _, rfl, rfl, _, rfl, _, _, rfl, rfl, _, rfl, ?_⟩
      by_cases hlt2 : (ds.getD at' (0, 0)).1 + 1 < (ds.getD at' (0, 0)).2
      · rw [if_pos hlt2] at hn
        refine iteTd (decide_eq_true (by omega)) ?_
        have ecut : cutV ts none (some ((at' : Nat) : Int)) = ts.take at' := by
          rw [cutV, HT.sIx_none, HT.sIx_nat, Nat.sub_zero, List.drop_zero, take_min _ _ _ (Nat.le_refl _)]
        refine ⟨_, rfl, _, rfl, _, rfl, d, ts, rfl, SqL.at hd, fun p np => ?_⟩
        rw [ecut]
        have f1 : Fr [] H' (upd H' p (.lst (ts.take at'))) := Fr.new np
        have hp1 : (upd H' p (.lst (ts.take at'))) p = some (.lst (ts.take at')) := upd_same
        generalize upd H' p (.lst (ts.take at')) = H1 at f1 hp1
        have elen : (ts.take at').length = at' := by rw [List.length_take]; omega
        refine ⟨p, rfl, ⟨_, SqL.at hp1⟩, fun D nD => lc_map (walk_list (xs := ts.take at')) (fun j => nI (ds.getD j (0, 0)).1) nD (by omega) (fun G f => SqL.at (f.at hp1)) (fun j x G G' hj fr hy R S hR => ?_) (fun H2 f2 hD => ?_)⟩
        · obtain ⟨rfl, hx⟩ := hy
          obtain ⟨u, hu, t2, rfl, ht2⟩ := paired_get hp j (0, 0) (by omega)
          rw [List.getElem?_take_of_lt (by omega), hu] at hx
          cases hx
          exact ⟨t2, _, rfl, SqT.at ((f1.trans fr).2 _ _ ht2), rfl, _, _, rfl, _, _, rfl, rfl, rfl, yesT ⟨_, rfl, hR _ (Fr.refl _ _)⟩⟩
        · rw [elen] at hD
          have eD : (List.range at').map (fun j => nI (ds.getD j (0, 0)).1) = ((ds.take at').map (·.1)).map nI := by
            rw [List.map_map]
            refine List.ext_getElem (by simp; omega) fun j h1 h2 => ?_
            have h3 : j < ds.length := by simp at h1; omega
            simp [List.getD_eq_getElem?_getD, List.getElem?_eq_getElem h3]
          rw [eD] at hD
          refine ⟨_, rfl, _, _, rfl, rfl, sz (by simp), fun p2 np2 => ?_⟩
          refine ⟨D, p2, _, _, rfl, rfl, (by rw [upd_ne (ne_of_none hD np2)]; exact hD), upd_same, sz (by simp; omega), fun p3 np3 => ?_⟩
          refine q1 _ p3 _ hn.symm ((f1.trans f2).trans ((Fr.new np2).trans (Fr.new np3))) ?_
          rw [upd_same, List.map_append]
          rfl
      · rw [if_neg hlt2] at hn
        refine iteFd (decide_eq_false (by omega)) ⟨rfl, by omega, ?_, _, _, _, _, _, rfl⟩
        rw [show ds.length - (i + 1) = at' from by omega]
        exact hn
    · obtain ⟨rfl, _, hn, _⟩ := h
      rw [Nat.sub_self] at hn
      exact q2 hn.symm H' (Fr.refl _ _)
end
end BK
/-! Breakback k27: the ways. -/
namespace BK
open PySem PySem.Spec PyProof.Rows L2 He
def toD (l : Nt) : List (Key × V) := l.map fun p => (Sum.inl (p.1 : Int), V.int p.2)
theorem toD_get (D : Nat) : ∀ l : Nt, (valV (toD l) (Sum.inl (D : Int))).getD (.int 0) = .int (cnt D l)
  | [] => rfl
  | (e, c) :: r => by
    rw [cnt]
    by_cases h : e = D
    · subst h
      rw [if_pos rfl]
      have : valV (toD ((e, c) :: r)) (Sum.inl (e : Int)) = some (V.int c) := valV_pos rfl
      rw [this]
      rfl
    · rw [if_neg h]
      have : valV (toD ((e, c) :: r)) (Sum.inl (D : Int)) = valV (toD r) (Sum.inl (D : Int)) := valV_neg (fun z => h (by have := Sum.inl.inj z; omega))
      rw [this, toD_get D r]
theorem toD_in {D : Nat} : ∀ {l : Nt}, D ∈ l.map (·.1) → valV (toD l) (Sum.inl (D : Int)) = some (.int (cnt D l))
  | [], h => by simp at h
  | (e, c) :: r, h => by
    rw [cnt]
    by_cases he : e = D
    · subst he
      rw [if_pos rfl]
      exact valV_pos rfl
    · rw [if_neg he]
      have : valV (toD ((e, c) :: r)) (Sum.inl (D : Int)) = valV (toD r) (Sum.inl (D : Int)) := valV_neg (fun z => he (by have := Sum.inl.inj z; omega))
      rw [this]
      refine toD_in ?_
      rw [List.map_cons] at h
      rcases List.mem_cons.mp h with z | z
      · exact absurd z.symm he
      · exact z
theorem note_new {D : Nat} : ∀ {l : Nt}, D ∉ l.map (·.1) → note D l = l ++ [(D, 1)] ∧ cnt D l = 0
  | [], _ => ⟨rfl, rfl⟩
  | (e, c) :: r, h => by
    rw [List.map_cons] at h
    have he : ¬ e = D := fun z => h (by rw [z]; exact List.mem_cons_self)
    obtain ⟨h1, h2⟩ := note_new (D := D) (l := r) fun z => h (List.mem_cons_of_mem _ z)
    rw [note, if_neg he, cnt, if_neg he, h1]
    exact ⟨rfl, h2⟩
theorem map_same {D : Nat} {v : V} : ∀ {l : Nt}, D ∉ l.map (·.1) → (toD l).map (fun kv => if kv.1 = Sum.inl (D : Int) then (kv.1, v) else kv) = toD l
  | [], _ => rfl
  | (e, c) :: r, h => by
    rw [List.map_cons] at h
    have he : ¬ ((Sum.inl (e : Int) : Key) = Sum.inl (D : Int)) := fun z => h (by have := Sum.inl.inj z; rw [show D = e from by omega]; exact List.mem_cons_self)
    have ih := map_same (D := D) (v := v) (l := r) fun z => h (List.mem_cons_of_mem _ z)
    show (if (Sum.inl (e : Int) : Key) = Sum.inl (D : Int) then _ else _) :: (toD r).map _ = _
    rw [if_neg he, ih]
    rfl
theorem map_put {D : Nat} : ∀ {l : Nt}, (l.map (·.1)).Nodup → D ∈ l.map (·.1) → (toD l).map (fun kv => if kv.1 = Sum.inl (D : Int) then (kv.1, V.int ((cnt D l : Int) + 1)) else kv) = toD (note D l)
  | [], _, h => by simp at h
  | (e, c) :: r, hn, h => by
    rw [List.map_cons, List.nodup_cons] at hn
    rw [List.map_cons] at h
    by_cases he : e = D
    · subst he
      have e1 := map_same (D := e) (v := V.int ((c : Int) + 1)) (l := r) hn.1
      rw [note, if_pos rfl, cnt, if_pos rfl]
      show (if (Sum.inl (e : Int) : Key) = Sum.inl (e : Int) then _ else _) :: (toD r).map _ = _
      rw [if_pos rfl, e1]
      rfl
    · have he2 : ¬ ((Sum.inl (e : Int) : Key) = Sum.inl (D : Int)) := fun z => he (by have := Sum.inl.inj z; omega)
      have ih := map_put (D := D) (l := r) hn.2 (by
        rcases List.mem_cons.mp h with z | z
        · exact absurd z.symm he
        · exact z)
      rw [note, if_neg he, cnt, if_neg he]
      show (if (Sum.inl (e : Int) : Key) = Sum.inl (D : Int) then _ else _) :: (toD r).map _ = _
      rw [if_neg he2, ih]
      rfl
theorem toD_any {D : Nat} {l : Nt} : ((toD l).any fun kv => decide (kv.1 = Sum.inl (D : Int))) = true ↔ D ∈ l.map (·.1) := by
  rw [List.any_eq_true]
  constructor
  · rintro ⟨kv, h1, h2⟩
    rw [toD, List.mem_map] at h1
    obtain ⟨p, h3, rfl⟩ := h1
    have := Sum.inl.inj (of_decide_eq_true h2)
    exact List.mem_map.mpr ⟨p, h3, by omega⟩
  · intro h
    obtain ⟨p, h3, rfl⟩ := List.mem_map.mp h
    exact ⟨_, List.mem_map.mpr ⟨p, h3, rfl⟩, decide_eq_true rfl⟩
theorem toD_put {D : Nat} {l : Nt} (hn : (l.map (·.1)).Nodup) : putK (toD l) (Sum.inl (D : Int)) (.int ((cnt D l : Int) + 1)) = toD (note D l) := by
  unfold putK
  by_cases h : D ∈ l.map (·.1)
  · rw [if_pos (toD_any.mpr h), map_put hn h]
  · rw [if_neg (fun z => h (toD_any.mp z))]
    obtain ⟨h1, h2⟩ := note_new h
    rw [h1, h2, toD, toD, List.map_append]
    rfl
theorem toD_len (l : Nt) : (toD l).length = l.length := List.length_map ..
theorem szl2 {n : Nat} (h : n ≤ 300000) : n < sizeLine := Nat.lt_of_le_of_lt h (by decide)
section
variable {P : Program} {w : World} {K : PySem.W.Frag} {mg : Str → Option Value} {base : Heap}
def WaysAt (K : PySem.W.Frag) (H : Hp) (y wn : Addr) (many : Nat) (l : Nt) : Prop := (∃ dx, H y = some (.ins (ga K "Ways") dx (f_Ways (.int 300000) (.int many) (.ref wn)))) ∧ H wn = some (.dK (toD l))
def spCount (K : PySem.W.Frag) : Sp := fun vs H Q _ => ∃ (y wn z : Addr) (many : Nat) (l : Nt) (R : Dr × Bool), vs = [.ref y, .ref z] ∧ WaysAt K H y wn many l ∧ PlayAt K H z R ∧ many + 1 ≤ 300000 ∧ l.length ≤ 300000 ∧ (l.map (·.1)).Nodup ∧ (∀ x, x ∈ R.1 → x.2 ≤ 300000) ∧
  ∀ H', Fr [y, wn] H H' → WaysAt K H' y wn (many + 1) (if R.2 = true then note (prodD 1 R.1) l else l) → Q .non H'
theorem k_Ways_count (F : Fx K w mg) : Km P w K mg base 1 "Ways" "count" ["self", "play"] (spCount K) := by
  refine km_of F.d_Ways_count F.c_Ways F.m_Ways_count sc_Ways_count (fun _ _ _ _ _ _ us hl => match us, hl with | [_, _], _ => rfl) (fun vs H Q E h => ?_) (fun cdv A outer s H vs Q E hr h => ?_)
  · obtain ⟨y, wn, z, many, l, R, rfl, _⟩ := h
    rfl
  · obtain ⟨y, wn, z, many, l, R, rfl, ⟨⟨dx, h1⟩, h2⟩, ⟨dz, d, sv, av, ts, p1, p2, p3, p4⟩, hm, hl, hn, hR, q⟩ := h
    have hu := hu_of hr
    refine ⟨_, (pss_cons (ps_fldaug (pv 0) pe_int in_add)
        (pss_cons (ps_set (i := 2) sc_Ways_count.nd rfl (Or.inl rfl) pe_int)
        (pss_cons (ps_for PassesOwn.never rfl (pi_list (pe_fldK (K := K) (pv 1) rfl)) (pg_tupK (K := K) (n := 2) (by rfl) (pgs_cons (pg_name (i := 3) sc_Ways_count.nd rfl (Or.inl rfl)) (pgs_cons (pg_name (i := 4) sc_Ways_count.nd rfl (Or.inl rfl)) pgs_nil)))
          (pss_cons (ps_if (pt_cmpR op_gt (pv 4) (pe_fldK (K := K) (pv 0) rfl) (nomark _))
            (pss_one ps_never)
            pss_nil)
          (pss_one (ps_set (i := 2) sc_Ways_count.nd rfl (Or.inl rfl) (pe_op op_mul (pv 2) (pv 4))))))
        (pss_cons (ps_if (pt_cmpR op_gt (pe_fldK (K := K) (pv 0) rfl) (pe_fldK (K := K) (pv 0) rfl) (nomark _))
          (pss_one ps_never)
          pss_nil)
        (pss_one (ps_if (pt_cmpR op_eq (pe_fldK (K := K) (pv 1) rfl) pe_int (nomark _))
          (pss_one (ps_dput hu (pe_fldK (K := K) (pv 0) rfl) (pv 2) (pe_op op_add (pe_dget2 hu (pe_fldK (K := K) (pv 0) rfl) (pv 2) pe_int ⟨rfl, rfl, rfl, rfl⟩) pe_int) rfl))
          pss_nil)))))), ?_⟩
    refine ⟨_, rfl, y, _, dx, _, _, rfl, h1, F.c_Ways, F.n_Ways_many, lk_Ways_many, _, _, rfl, rfl, dx, _, h1, (by show 3 < 1000; decide), ?_⟩
    have f1 : Fr [y, wn] H (upd H y (.ins (ga K "Ways") dx (putF "many" (.int ((many : Int) + 1)) (f_Ways (.int 300000) (.int many) (.ref wn))))) := Fr.put (by simp) h1 rfl
    have nyz : y ≠ z := ins_ne h1 p1 (show (3 : Nat) ≠ 4 from by decide)
    have nyw : wn ≠ y := apart h2 h1 (fun z => by cases z)
    have nyd : d ≠ y := apart p2 h1 (fun z => by cases z)
    have g1 : (upd H y (.ins (ga K "Ways") dx (putF "many" (.int ((many : Int) + 1)) (f_Ways (.int 300000) (.int many) (.ref wn))))) y = some (.ins (ga K "Ways") dx (f_Ways (.int 300000) (.int ((many + 1 : Nat) : Int)) (.ref wn))) := by rw [upd_same, pt_Ways_many]; rfl
    have g2 : (upd H y (.ins (ga K "Ways") dx (putF "many" (.int ((many : Int) + 1)) (f_Ways (.int 300000) (.int many) (.ref wn))))) wn = some (.dK (toD l)) := by rw [upd_ne nyw]; exact h2
    have g3 : (upd H y (.ins (ga K "Ways") dx (putF "many" (.int ((many : Int) + 1)) (f_Ways (.int 300000) (.int many) (.ref wn))))) z = some (.ins (ga K "Play") dz (f_Play (.int (if R.2 = true then 1 else 0)) sv (.ref d) av)) := by rw [upd_ne nyz.symm]; exact p1
    have g4 : (upd H y (.ins (ga K "Ways") dx (putF "many" (.int ((many : Int) + 1)) (f_Ways (.int 300000) (.int many) (.ref wn))))) d = some (.lst ts) := by rw [upd_ne nyd]; exact p2
    have g5 : Paired (IsD (upd H y (.ins (ga K "Ways") dx (putF "many" (.int ((many : Int) + 1)) (f_Ways (.int 300000) (.int many) (.ref wn)))))) ts R.1 := paired_map (fun u x h => h.mono f1.2) p3
    generalize (upd H y (.ins (ga K "Ways") dx (putF "many" (.int ((many : Int) + 1)) (f_Ways (.int 300000) (.int many) (.ref wn))))) = H1 at f1 g1 g2 g3 g4 g5
    have hts : ts.length = R.1.length := Paired.length g5
    refine ⟨_, rfl, z, _, dz, _, _, rfl, g3, F.c_Play, F.n_Play_draws, lk_Play_draws, d, rfl, ⟨_, SqL.at g4⟩, for_list (xs := ts) (fun i σ H' => H' = H1 ∧ ∃ a b, σ = [some (.ref y), some (.ref z), some (.int (prodD 1 (R.1.take i) : Nat)), a, b]) ⟨rfl, none, none, rfl⟩ (fun i σ H' _ h => by rw [h.1]; exact SqL.at g4) (fun i x σ H' hx h => ?_) (fun σ H' h => ?_)⟩
    · obtain ⟨rfl, a, b, rfl⟩ := h
      have hi : i < R.1.length := by
        obtain ⟨hlt, _⟩ := List.getElem?_eq_some_iff.mp hx
        omega
      obtain ⟨u, hu1, t, rfl, ht⟩ := paired_get g5 i (0, 0) hi
      rw [hu1] at hx
      cases hx
      have hmem : R.1.getD i (0, 0) ∈ R.1 := by rw [List.getD_eq_getElem?_getD, List.getElem?_eq_getElem hi]; exact List.getElem_mem hi
      have hle := hR _ hmem
      refine ⟨t, _, rfl, SqT.at ht, rfl, _, _, rfl, _, _, rfl, rfl, ?_⟩
      refine ⟨_, rfl, _, rfl, y, _, dx, _, _, rfl, g1, F.c_Ways, F.n_Ways_most, lk_Ways_most, _, _, rfl, rfl, _, rfl, iteFd (decide_eq_false (by omega)) ?_⟩
      refine ⟨_, rfl, _, rfl, _, _, rfl, rfl, .inr ⟨by omega, by omega⟩, rfl, some (.int (R.1.getD i (0, 0)).1), some (.int (R.1.getD i (0, 0)).2), ?_⟩
      have ep : prodD 1 (R.1.take (i + 1)) = prodD 1 (R.1.take i) * (R.1.getD i (0, 0)).2 := by
        rw [List.take_add_one, List.getElem?_eq_getElem hi, Option.toList_some, prodD_append, List.getD_eq_getElem?_getD, List.getElem?_eq_getElem hi]
        rfl
      rw [ep, Int.natCast_mul]
      rfl
    · obtain ⟨rfl, a, b, rfl⟩ := h
      rw [List.take_of_length_le (by omega)]
      refine ⟨_, rfl, y, _, dx, _, _, rfl, g1, F.c_Ways, F.n_Ways_many, lk_Ways_many, _, rfl, y, _, dx, _, _, rfl, g1, F.c_Ways, F.n_Ways_most, lk_Ways_most, _, _, rfl, rfl, _, rfl, iteFd (decide_eq_false (by omega)) ?_⟩
      refine ⟨_, rfl, z, _, dz, _, _, rfl, g3, F.c_Play, F.n_Play_outcome, lk_Play_outcome, rfl, _, rfl, ?_⟩
      cases hR2 : R.2 with
      | false =>
        refine iteFd (by decide +kernel) ?_
        rw [hR2] at q
        exact q _ f1 ⟨⟨dx, g1⟩, g2⟩
      | true =>
        refine iteTd (by decide +kernel) ?_
        rw [hR2] at q
        refine ⟨_, rfl, y, _, dx, _, _, rfl, g1, F.c_Ways, F.n_Ways_won, lk_Ways_won, wn, rfl, .inl ⟨_, .inl g2⟩, _, rfl, _, DGet.k (k := Sum.inl (prodD 1 R.1 : Int)) g2, ?_⟩
        have eg := toD_get (prodD 1 R.1) l
        generalize valV (toD l) (Sum.inl (prodD 1 R.1 : Int)) = ov at eg
        refine ⟨_, _, eg, rfl, _, rfl, y, _, dx, _, _, rfl, g1, F.c_Ways, F.n_Ways_won, lk_Ways_won, _, rfl, wn, _, rfl, DPut.k (k := Sum.inl (prodD 1 R.1 : Int)) g2 (szl2 (by rw [toD_len]; exact hl)), ?_⟩
        refine q _ (f1.trans (Fr.put (by simp) g2 rfl)) ⟨⟨dx, ?_⟩, ?_⟩
        · rw [upd_ne (apart g1 g2 (fun z => by cases z))]; exact g1
        · rw [upd_same, toD_put hn]
          rfl
end
end BK
/-! Breakback k27: the chance. -/
namespace BK
open PySem PySem.Spec PyProof.Rows L2 He
abbrev MM : Nat := 720720 ^ 3
theorem MM_ne : MM ≠ 0 := by decide
def gF (l : Nt) (y : Int) : Rat := mkRat (cnt y.toNat l) y.toNat
theorem sum_small {l : Nt} {ys : List Int} (hk : ∀ y, y ∈ ys → y.toNat ∣ MM) (hc : ∀ D, cnt D l ≤ 300000) (hl : ys.length ≤ 300000) : (sumR (ys.map (gF l))).num.natAbs < 2 ^ 120 ∧ (sumR (ys.map (gF l))).den < 2 ^ 120 := by
  obtain ⟨k, e, b⟩ := sum_over (n := 300000) MM_ne (ys.map fun y => (y.toNat, cnt y.toNat l)) (fun p hp => by
    obtain ⟨y, hy, rfl⟩ := List.mem_map.mp hp
    exact ⟨hk y hy, hc _⟩)
  rw [List.map_map] at e
  have e2 : sumR (ys.map (gF l)) = mkRat (k : Int) MM := e
  rw [List.length_map] at b
  have b2 : ys.length * (300000 * MM) ≤ 300000 * (300000 * MM) := Nat.mul_le_mul_right _ hl
  have b3 : 300000 * (300000 * MM) < 2 ^ 120 := by decide
  rw [e2]
  refine ⟨Nat.lt_of_le_of_lt (mk_num_le (n := k) MM_ne (by rw [Int.natAbs_natCast]; exact Nat.le_refl _)) (by omega), Nat.lt_of_le_of_lt (mk_den_le (n := MM) MM_ne (Nat.le_refl _)) (by decide)⟩
theorem cnt_le {D n : Nat} : ∀ {l : Nt}, (∀ p, p ∈ l → p.2 ≤ n) → cnt D l ≤ n
  | [], _ => Nat.zero_le _
  | (e, c) :: r, h => by
    rw [cnt]
    split
    · exact h (e, c) List.mem_cons_self
    · exact cnt_le fun p hp => h p (List.mem_cons_of_mem _ hp)
section
variable {P : Program} {w : World} {K : PySem.W.Frag} {mg : Str → Option Value} {base : Heap}
def spWChance (K : PySem.W.Frag) : Sp := fun vs H Q _ => ∃ (y wn : Addr) (many : Nat) (l : Nt), vs = [.ref y] ∧ WaysAt K H y wn many l ∧ (l.map (·.1)).Nodup ∧ (∀ p, p ∈ l → p.1 ∣ MM ∧ p.2 ≤ 300000) ∧ l.length ≤ 300000 ∧
  ∀ (H' : Hp) (p : Addr), Fr [] H H' → H' p = some (.tup (ratV (sumR (l.map fr1)))) → Q (.ref p) H'
theorem k_Ways_chance (F : Fx K w mg) : Km P w K mg base 3 "Ways" "chance" ["self"] (spWChance K) := by
  have k_add : Kp P w K mg base 2 _ _ _ := k_add F
  have k_fraction : Kp P w K mg base 1 _ _ _ := k_fraction F
  refine km_of F.d_Ways_chance F.c_Ways F.m_Ways_chance sc_Ways_chance (fun _ _ _ _ _ _ us hl => match us, hl with | [_], _ => rfl) (fun vs H Q E h => ?_) (fun cdv A outer s H vs Q E hr h => ?_)
  · obtain ⟨y, wn, many, l, rfl, _⟩ := h
    rfl
  · obtain ⟨y, wn, many, l, rfl, ⟨⟨dx, h1⟩, h2⟩, hn, hl, hlen, q⟩ := h
    have hu := hu_of hr
    refine ⟨_, (pss_cons (ps_set (i := 1) sc_Ways_chance.nd rfl (Or.inl rfl) (pe_tup (pa_cons pe_int (pa_cons pe_int pa_nil))))
        (pss_cons (ps_for PassesOwn.never rfl (pi_list (pe_callB (call_sortedDA rfl) (by rfl) F.b_sorted (by decide +kernel) (pa_cons (pe_fldK (K := K) (pv 0) rfl) pa_nil))) (pg_name (i := 2) sc_Ways_chance.nd rfl (Or.inl rfl))
          (pss_one (ps_set (i := 1) sc_Ways_chance.nd rfl (Or.inl rfl) (pe_k k_add (hr.mono (by decide)) (pa_cons (pv 1) (pa_cons (pe_k k_fraction (hr.mono (by decide)) (pa_cons (pe_dget hu (pe_fldK (K := K) (pv 0) rfl) (pv 2) (fun _ _ => rfl)) (pa_cons (pv 2) pa_nil))) pa_nil))))))
        (pss_one (ps_ret (pv 1))))), ?_⟩
    refine ⟨sz (by simp), fun t0 nt0 => ?_⟩
    have f0 : Fr [] H (upd H t0 (.tup [.int 0, .int 1])) := Fr.new nt0
    have ht0 : (upd H t0 (.tup [.int 0, .int 1])) t0 = some (.tup (ratV 0)) := upd_same
    have g1 := f0.at h1
    have g2 := f0.at h2
    generalize upd H t0 (.tup [.int 0, .int 1]) = H0 at f0 ht0 g1 g2
    refine ⟨_, rfl, y, _, dx, _, _, rfl, g1, F.c_Ways, F.n_Ways_won, lk_Ways_won, wn, _, l.map (fun p => (p.1 : Int)), rfl, .inl g2, by rw [toD, List.map_map, List.map_map]; rfl, fun ys p hp hs np => ?_⟩
    have f1 : Fr [] H0 (upd H0 p (.lst (ys.map V.int))) := Fr.new np
    have hpl : (upd H0 p (.lst (ys.map V.int))) p = some (.lst (ys.map V.int)) := upd_same
    have f01 := f0.trans f1
    have ht1 := f1.at ht0
    have k1 := f1.at g1
    have k2 := f1.at g2
    generalize upd H0 p (.lst (ys.map V.int)) = H1 at f1 hpl f01 ht1 k1 k2
    have hmem : ∀ z, z ∈ ys → ∃ D, z = ((D : Nat) : Int) ∧ D ∈ l.map (·.1) := fun z hz => by
      obtain ⟨x, hx, rfl⟩ := List.mem_map.mp (hp.mem_iff.mp hz)
      exact ⟨x.1, rfl, List.mem_map.mpr ⟨x, hx, rfl⟩⟩
    have hdvd : ∀ z, z ∈ ys → z.toNat ∣ MM := fun z hz => by
      obtain ⟨D, rfl, hD⟩ := hmem z hz
      obtain ⟨x, hx, rfl⟩ := List.mem_map.mp hD
      rw [Int.toNat_natCast]
      exact (hl x hx).1
    have hcnt : ∀ D, cnt D l ≤ 300000 := fun D => cnt_le fun p hp => (hl p hp).2
    have hyl : ys.length ≤ 300000 := by rw [hp.length_eq, List.length_map]; exact hlen
    refine ⟨p, rfl, ⟨_, SqL.at hpl⟩, for_list (xs := ys.map V.int) (fun i σ H' => Fr [] H1 H' ∧ ∃ t a, σ = [some (.ref y), some (.ref t), a] ∧ H' t = some (.tup (ratV (sumR ((ys.take i).map (gF l)))))) ⟨Fr.refl _ _, t0, none, rfl, ht1⟩ (fun i σ H' _ h => SqL.at (h.1.at hpl)) (fun i x σ H' hx h => ?_) (fun σ H' h => ?_)⟩
    · obtain ⟨f2, t, a, rfl, ht⟩ := h
      rw [List.getElem?_map] at hx
      cases hy : ys[i]? with
      | none => rw [hy] at hx; cases hx
      | some z =>
        rw [hy] at hx
        cases hx
        have hz : z ∈ ys := List.mem_of_getElem? hy
        obtain ⟨D, rfl, hD⟩ := hmem z hz
        have hDM : D ∣ MM := hdvd _ hz
        have hD0 : D ≠ 0 := fun e => by rw [e] at hDM; exact MM_ne (Nat.eq_zero_of_zero_dvd hDM)
        have hDle : D ≤ MM := Nat.le_of_dvd (Nat.pos_of_ne_zero MM_ne) hDM
        have egt : DGet H' wn (V.int (D : Int)) (some (V.int (cnt D l))) := by
          have := DGet.k (k := Sum.inl (D : Int)) (f2.at k2)
          rw [toD_in hD] at this
          exact this
        refine ⟨_, rfl, _, rfl, y, _, dx, _, _, rfl, f2.at k1, F.c_Ways, F.n_Ways_won, lk_Ways_won, _, rfl, wn, _, rfl, egt, _, rfl, cnt D l, D, rfl, hD0, Nat.lt_of_le_of_lt hDle (by decide), fun u nu => ?_⟩
        obtain ⟨s1, s2⟩ := sum_small (l := l) (ys := ys.take i) (fun y hy => hdvd y (List.mem_of_mem_take hy)) hcnt (by rw [List.length_take]; omega)
        have f3 : Fr [] H' (upd H' u (.tup (ratV (mkRat (cnt D l) D)))) := Fr.new nu
        refine ⟨t, u, _, mkRat (cnt D l) D, rfl, f3.at ht, upd_same, s1, ?_, s2, ?_, fun v nv => ?_⟩
        · exact Nat.lt_of_le_of_lt (mk_num_le (n := 300000) hD0 (by rw [Int.natAbs_natCast]; exact hcnt D)) (by decide)
        · exact Nat.lt_of_le_of_lt (mk_den_le hD0 hDle) (by decide)
        · refine ⟨f2.trans (f3.trans (Fr.new nv)), v, _, rfl, ?_⟩
          rw [upd_same, List.take_add_one, hy, List.map_append, sumR_app]
          show some (HO.tup (ratV (_ + mkRat (cnt D l) D))) = some (HO.tup (ratV (_ + (mkRat (cnt ((D : Int)).toNat l) ((D : Int)).toNat + 0))))
          rw [Rat.add_zero, Int.toNat_natCast]
    · obtain ⟨f2, t, a, rfl, ht⟩ := h
      rw [List.length_map, List.take_of_length_le (Nat.le_refl _)] at ht
      refine ⟨_, rfl, q H' t (f01.trans f2) ?_⟩
      rw [ht, sumR_perm (gF l) hp, ← sum_keys hn, List.map_map, List.map_map]
      rfl
end
end BK
/-! Breakback k27: all ways. -/
namespace BK
open PySem PySem.Spec PyProof.Rows L2 He
structure TreeOk (t : T Bool) : Prop where
  pos : t.Pos
  few : t.lvs.length ≤ 300000
  each : ∀ l, l ∈ t.lvs → (∀ x, x ∈ l.1 → x.2 ≤ 300000) ∧ prodD 1 l.1 ∣ MM
theorem evs_len : ∀ pre : List (Dr × Bool), (pre.flatMap (evOf 1)).length ≤ pre.length
  | [] => Nat.le_refl _
  | l :: r => by
    have := evs_len r
    rw [List.flatMap_cons, List.length_append, List.length_cons]
    have : (evOf 1 l).length ≤ 1 := by unfold evOf; split <;> simp
    omega
theorem notes_step (pre : List (Dr × Bool)) (l : Dr × Bool) : notes ((pre ++ [l]).flatMap (evOf 1)) = if l.2 = true then note (prodD 1 l.1) (notes (pre.flatMap (evOf 1))) else notes (pre.flatMap (evOf 1)) := by
  rw [List.flatMap_append]
  simp only [List.flatMap_cons, List.flatMap_nil, List.append_nil]
  unfold evOf
  split
  · rw [notes_app]
  · rw [List.append_nil]
theorem fr_less {H H' : Hp} {x a : Addr} (f : Fr [x, a] H H') (h : H a = none) : Fr [x] H H' := by
  refine ⟨fun b o e hb => f.1 b o e fun z => ?_, f.2⟩
  rcases List.mem_cons.mp z with z | z
  · exact hb (by rw [z]; exact List.mem_singleton.mpr rfl)
  · rw [List.mem_singleton.mp z, h] at e
    cases e
section
variable {P : Program} {w : World} {K : PySem.W.Frag} {mg : Str → Option Value} {base : Heap}
theorem WaysAt.fr {H H' : Hp} {y wn : Addr} {many : Nat} {l : Nt} (h : WaysAt K H y wn many l) (f : Fr [] H H') : WaysAt K H' y wn many l := by
  obtain ⟨⟨dx, a⟩, b⟩ := h
  exact ⟨⟨dx, f.at a⟩, f.at b⟩
def spWaysInit (K : PySem.W.Frag) (g : Gm) (b : B) : Sp := fun vs H Q _ => ∃ (x dx gt : Addr) (bv : V) (e : Nat), vs = [.ref x, .ref gt, bv, .int 300000] ∧ H x = some (.ins (ga K "Ways") dx []) ∧ IsG H gt g ∧ IsB H bv b ∧ Wf e b ∧ e ≤ 8 ∧
  ∀ (H' : Hp) (wn : Addr), Fr [x] H H' → H wn = none → WaysAt K H' x wn (g.tree b).lvs.length (notes ((g.tree b).ev 1)) → Q .non H'
theorem k_Ways_init (F : Fx K w mg) : Ki P w K mg base 9 "Ways" ["self", "game", "breaker", "most"] (fun vs H Q E => ∃ (g : Gm) (b : B), g.ok ∧ TreeOk (g.tree b) ∧ spWaysInit K g b vs H Q E) := by
  have k_played : Kp P w K mg base 8 _ _ _ := k_played F
  have k_Ways_count : Km P w K mg base 1 _ _ _ _ := k_Ways_count F
  have k_next_choices : Kp P w K mg base 1 _ _ _ := k_next_choices F
  refine ki_of F.d_Ways_init F.g_Ways F.k_Ways sc_Ways_init (fun _ _ _ _ _ _ us hl => match us, hl with | [_, _, _, _], _ => rfl) (fun vs H Q E h => ?_) (fun cdv A outer s H vs Q E hr h => ?_)
  · obtain ⟨g, b, ok, tok, x, dx, gt, bv, e, rfl, _⟩ := h
    rfl
  · obtain ⟨g, b, ok, tok, x, dx, gt, bv, e, rfl, hx, hg, hb, wf, he, q⟩ := h
    have step : ∀ {H1 : Hp} {fs : List (Str × V)} {f : Str} {v : V}, Fr [x] H H1 → H1 x = some (.ins (ga K "Ways") dx fs) → Fr [x] H (upd H1 x (.ins (ga K "Ways") dx (putF f v fs))) ∧ (upd H1 x (.ins (ga K "Ways") dx (putF f v fs))) x = some (.ins (ga K "Ways") dx (putF f v fs)) :=
      fun f1 h1 => ⟨f1.trans (Fr.put (by simp) h1 rfl), upd_same⟩
    refine ⟨_, (pss_cons (ps_fld (pv 0) (pv 3) rfl)
        (pss_cons (ps_fld (pv 0) pe_int rfl)
        (pss_cons (ps_fld (pv 0) pe_dnewK rfl)
        (pss_cons (ps_set (i := 4) sc_Ways_init.nd rfl (Or.inl rfl) (pe_lst pa_nil))
        (pss_one (ps_while PassesOwn.never (pt_cmpR op_notN (pv 4) pe_non (nomark _))
          (pss_cons (ps_set (i := 5) sc_Ways_init.nd rfl (Or.inl rfl) (pe_k k_played (hr.mono (by decide)) (pa_cons (pv 1) (pa_cons (pv 2) (pa_cons (pv 4) pa_nil)))))
          (pss_cons (ps_expr (pe_km (pv 0) k_Ways_count (hr.mono (by decide)) (pa_cons (pv 5) pa_nil)))
          (pss_one (ps_set (i := 4) sc_Ways_init.nd rfl (Or.inl rfl) (pe_k k_next_choices (hr.mono (by decide)) (pa_cons (pe_fldK (K := K) (pv 5) rfl) pa_nil)))))))))))), ?_⟩
    refine ⟨_, rfl, _, rfl, x, _, dx, _, rfl, hx, F.c_Ways, F.n_Ways_most, (by show 0 < 1000; decide), ?_⟩
    obtain ⟨f1, h1⟩ := step (f := "most") (v := .int 300000) (Fr.refl _ H) hx
    generalize upd H x _ = H1 at f1 h1
    refine ⟨_, rfl, x, _, dx, _, rfl, h1, F.c_Ways, F.n_Ways_many, (by show 1 < 1000; decide), ?_⟩
    obtain ⟨f2, h2⟩ := step (f := "many") (v := .int 0) f1 h1
    generalize upd H1 x _ = H2 at f2 h2
    intro wn nwn
    have nx : x ≠ wn := ne_of_none h2 nwn
    refine ⟨_, rfl, x, _, dx, _, rfl, (by rw [upd_ne nx]; exact h2), F.c_Ways, F.n_Ways_won, (by show 2 < 1000; decide), ?_⟩
    have f3 : Fr [x] H (upd (upd H2 wn (.dK [])) x (.ins (ga K "Ways") dx (putF "won" (.ref wn) (putF "many" (.int 0) (putF "most" (.int 300000) []))))) :=
      f2.trans ((Fr.new nwn).trans (Fr.put (o := .ins (ga K "Ways") dx (putF "many" (.int 0) (putF "most" (.int 300000) []))) (by simp) (by rw [upd_ne nx]; exact h2) rfl))
    have hW : WaysAt K (upd (upd H2 wn (.dK [])) x (.ins (ga K "Ways") dx (putF "won" (.ref wn) (putF "many" (.int 0) (putF "most" (.int 300000) []))))) x wn 0 [] := ⟨⟨dx, by rw [upd_same, mk_Ways]; rfl⟩, by rw [upd_ne nx.symm, upd_same]; rfl⟩
    have nwn0 : H wn = none := f2.no nwn (by simp; exact nx.symm)
    generalize (upd (upd H2 wn (.dK [])) x (.ins (ga K "Ways") dx (putF "won" (.ref wn) (putF "many" (.int 0) (putF "most" (.int 300000) []))))) = H3 at f3 hW
    refine ⟨sz (by simp), fun c0 nc0 => ?_⟩
    have f4 : Fr [] H3 (upd H3 c0 (.lst [])) := Fr.new nc0
    have fxw : Fr [x, wn] H (upd H3 c0 (.lst [])) := (f3.trans f4.of0).mono (by simp)
    refine ⟨fun m σ G => ∃ (pre rest : List (Dr × Bool)) (o : Option (List Nat)) (cv : V) (pv : Option V), (g.tree b).lvs = pre ++ rest ∧ m = rest.length ∧ Chn (g.tree b) rest o ∧ σ = [some (.ref x), some (.ref gt), some bv, some (.int 300000), some cv, pv] ∧
      (∀ cs, o = some cs → ∃ c, cv = .ref c ∧ SqL K G c (cs.map nI)) ∧ (o = none → cv = .non) ∧ WaysAt K G x wn pre.length (notes (pre.flatMap (evOf 1))) ∧ Fr [x, wn] H G,
      ⟨_, [], (g.tree b).lvs, some [], .ref c0, none, rfl, rfl, chn_all tok.pos, rfl, fun cs e => ?_, fun e => (nomatch e), hW.fr f4, fxw⟩, fun m σ G inv => ?_⟩
    · cases e
      exact ⟨c0, rfl, SqL.at upd_same⟩
    · obtain ⟨pre, rest, o, cv, pv, hlv, rfl, hch, rfl, hs1, hs2, hWG, fG⟩ := inv
      cases rest with
      | nil =>
        have ho : o = none := hch
        have ecv := hs2 ho
        subst ecv
        refine ⟨_, rfl, rfl, _, rfl, iteFd (by decide +kernel) ?_⟩
        rw [List.append_nil] at hlv
        rw [← hlv, ← ev_lvs] at hWG
        refine q G wn (fr_less fG nwn0) nwn0 hWG
      | cons l r =>
        obtain ⟨cs, ho, hv, hrun, hch2⟩ := hch
        obtain ⟨c, ecv, hc⟩ := hs1 cs ho
        subst ecv
        have hmem : l ∈ (g.tree b).lvs := by rw [hlv]; simp
        obtain ⟨t1, t2⟩ := tok.each l hmem
        have hlen : pre.length + 1 ≤ 300000 := by have := tok.few; rw [hlv] at this; simp at this; omega
        refine ⟨_, rfl, rfl, _, rfl, iteTd (by simp) ⟨fun σ' H' => ∃ m', m' < (l :: r).length ∧ _, fun _ _ h => h, ?_⟩⟩
        refine ⟨_, rfl, _, rfl, _, rfl, g, b, ok, gt, c, bv, cs, e, rfl, hg.mono fG.2, hb.fr fG, wf, he, hc, hv, fun G1 z f5 hP => ?_⟩
        rw [hrun] at hP
        have nok := notes_okN (pre.flatMap (evOf 1))
        have evl := evs_len pre
        obtain ⟨⟨dx1, hx1⟩, hw1⟩ := hWG.fr f5
        refine ⟨_, rfl, x, dx1, _, rfl, hx1, no_Ways_count, _, rfl, x, wn, z, pre.length, _, l, rfl, ⟨⟨dx1, hx1⟩, hw1⟩, hP, hlen, Nat.le_trans nok.len (by omega), nok.nodup, t1, fun G2 f6 hW2 => ?_⟩
        obtain ⟨dz, d, sv, av, ts, p1, p2, p3, p4⟩ := hP
        have nz : z ∉ [x, wn] := by
          intro zz
          rcases List.mem_cons.mp zz with e1 | e1
          · exact ins_ne p1 hx1 (show (4 : Nat) ≠ 3 from by decide) e1
          · exact apart p1 hw1 (fun z => by cases z) (List.mem_singleton.mp e1)
        have ndd : d ∉ [x, wn] := by
          intro zz
          rcases List.mem_cons.mp zz with e1 | e1
          · exact apart p2 hx1 (fun z => by cases z) e1
          · exact apart p2 hw1 (fun z => by cases z) (List.mem_singleton.mp e1)
        have p1' := f6.1 _ _ p1 nz
        have p2' := f6.1 _ _ p2 ndd
        have fG2 := (fG.trans f5.of0).trans f6
        rw [← notes_step] at hW2
        have hlv2 : (g.tree b).lvs = (pre ++ [l]) ++ r := by rw [hlv, List.append_assoc]; rfl
        have el : pre.length + 1 = (pre ++ [l]).length := by simp
        rw [el] at hW2
        refine ⟨_, rfl, z, _, dz, _, _, rfl, p1', F.c_Play, F.n_Play_draws, lk_Play_draws, d, ts, l.1, rfl, p2', paired_map (fun u x h => h.mono f6.2) p3, p4, fun G3 c2 cs2 hn f7 hc2 => ?_, fun hn G3 f7 => ?_⟩
        · exact ⟨r.length, Nat.lt_succ_self _, pre ++ [l], r, _, .ref c2, _, hlv2, rfl, hch2, rfl, fun cs' e => (by rw [hn] at e; cases e; exact ⟨c2, rfl, SqL.at hc2⟩), fun e => (by rw [hn] at e; cases e), hW2.fr f7, fG2.trans f7.of0⟩
        · exact ⟨r.length, Nat.lt_succ_self _, pre ++ [l], r, _, .non, _, hlv2, rfl, hch2, rfl, fun cs' e => (by rw [hn] at e; cases e), fun _ => rfl, hW2.fr f7, fG2.trans f7.of0⟩
end
end BK
/-! Breakback k27: chance. -/
namespace BK
open PySem PySem.Spec PyProof.Rows L2 He
/-- a def with defaults that are all taken -/
def Kd (P : Program) (w : World) (K : PySem.W.Frag) (mg : Str → Option Value) (base : Heap) (k : Nat) (x : Str) (ps : List Str) (dvs : List V) (sp : Sp) : Prop :=
  mg x = some (.ref (ga K x)) ∧ PySem.W.keepIn K (.ref (ga K x)) = true ∧ ∃ fd ds, FnOk P w K mg base CX0 k (ga K x) fd ps sp ∧ Vals dvs ds ∧ Binds K fd ps ds
theorem pe_kd {X : Cx} {k : Nat} {x : Str} {ps : List Str} {dvs : List V} {sp : Sp} {p pos : Pos} {e : Expr} {es : List Expr} {t : TA} (c : Kd X.prog X.w X.K X.mg X.base k x ps dvs sp) (hr : Room k X.A) (ha : PA X (e :: es) t) (hg : Gl X x := by rfl) (hdb : (x == ("__debug__" : Str)) = false := by decide)
    (he : starEach (e :: es) X.env = (false, eval e X.env) :: starEach es X.env := by rfl) (hpl : (backTo pos (starEach es X.env)).any (·.1) = false := by rfl) : PE X (.Call (.Name x p) (e :: es) [] pos) (tCall sp dvs E0 t) := by
  obtain ⟨h1, h2, fd, ds, h3, h4, h5⟩ := c
  exact pe_call h3 hr hg h1 h2 h5 h4 pass0 ha hdb he hpl
section
variable {P : Program} {w : World} {K : PySem.W.Frag} {mg : Str → Option Value} {base : Heap}
def spWaysOf (K : PySem.W.Frag) (g : Gm) (b : B) : Sp := fun vs H Q _ => ∃ (gt : Addr) (bv : V) (e : Nat), vs = [.ref gt, bv, .int 300000] ∧ IsG H gt g ∧ IsB H bv b ∧ Wf e b ∧ e ≤ 3 ∧
  ∀ (H' : Hp) (x wn : Addr), Fr [] H H' → WaysAt K H' x wn (g.tree b).lvs.length (notes ((g.tree b).ev 1)) → Q (.ref x) H'
theorem k_ways_of (F : Fx K w mg) : Kp P w K mg base 11 "ways_of" ["game", "breaker", "most"] (fun vs H Q E => ∃ (g : Gm) (b : B), g.ok ∧ TreeOk (g.tree b) ∧ spWaysOf K g b vs H Q E) := by
  have k_check_game : Kp P w K mg base 5 _ _ _ := k_check_game F
  have k_check_breaker : Kp P w K mg base 5 _ _ _ := k_check_breaker F
  have k_Ways_init : Ki P w K mg base 9 _ _ _ := k_Ways_init F
  refine kp_of F.d_ways_of F.g_ways_of sc_ways_of (fun _ _ _ _ _ _ us hl => match us, hl with | [_, _, _], _ => rfl) (fun vs H Q E h => ?_) (fun cdv A outer s H vs Q E hr h => ?_)
  · obtain ⟨g, b, ok, tok, gt, bv, e, rfl, _⟩ := h
    rfl
  · obtain ⟨g, b, ok, tok, gt, bv, e, rfl, hg, hb, wf, he, q⟩ := h
    refine ⟨_, (pss_cons (ps_expr (pe_k k_check_game (hr.mono (by decide)) (pa_cons (pv 0) pa_nil)))
        (pss_cons (ps_expr (pe_k k_check_breaker (hr.mono (by decide)) (pa_cons (pv 1) pa_nil)))
        (pss_one (ps_ret (pe_kiK k_Ways_init (hr.mono (by decide)) (pa_cons (pv 0) (pa_cons (pv 1) (pa_cons (pv 2) pa_nil)))))))), ?_⟩
    refine ⟨_, rfl, gt, g, rfl, hg, ok, fun H1 f1 => ?_⟩
    refine ⟨_, rfl, bv, b, e, rfl, hb.fr f1, wf, he, fun H2 f2 => ?_⟩
    refine ⟨_, rfl, _, rfl, _, rfl, fun x dx nx ndx ne => ?_⟩
    have m3 := made_fr (o := .ins (ga K "Ways") dx []) nx ndx ne
    have f12 := f1.trans f2
    refine ⟨g, b, ok, tok, x, dx, gt, bv, e, rfl, upd_same, hg.mono (f12.trans m3).2, hb.fr (f12.trans m3), wf, by omega, fun H3 wn f3 nwn hW => ⟨rfl, q H3 x wn (f12.trans (m3.trans' f3 fun a ha => ?_)) hW⟩⟩
    rw [List.mem_singleton.mp ha]
    exact .inr nx
def spChance (g : Gm) (b : B) : Sp := fun vs H Q _ => ∃ (gt : Addr) (bv : V) (e : Nat), vs = [.ref gt, bv, .int 300000] ∧ IsG H gt g ∧ IsB H bv b ∧ Wf e b ∧ e ≤ 3 ∧
  ∀ (H' : Hp) (p : Addr), Fr [] H H' → H' p = some (.tup (ratV (pr1 ((g.tree b).ev 1)))) → Q (.ref p) H'
theorem ev_ok {t : T Bool} (tok : TreeOk t) : (t.ev 1).length ≤ 300000 ∧ ∀ D, D ∈ t.ev 1 → D ∣ MM ∧ D ≠ 0 := by
  rw [ev_lvs]
  refine ⟨Nat.le_trans (evs_len _) tok.few, fun D hD => ?_⟩
  obtain ⟨l, hl, hD⟩ := List.mem_flatMap.mp hD
  have e := (tok.each l hl).2
  unfold evOf at hD
  split at hD
  · rw [List.mem_singleton.mp hD]
    exact ⟨e, fun z => by rw [z] at e; exact MM_ne (Nat.eq_zero_of_zero_dvd e)⟩
  · cases hD
theorem k_chance (F : Fx K w mg) : Kd P w K mg base 12 "chance" ["game", "breaker", "most"] [.int 300000] (fun vs H Q E => ∃ (g : Gm) (b : B), g.ok ∧ TreeOk (g.tree b) ∧ spChance g b vs H Q E) := by
  have k_ways_of : Kp P w K mg base 11 _ _ _ := k_ways_of F
  have k_Ways_chance : Km P w K mg base 3 _ _ _ _ := k_Ways_chance F
  obtain ⟨fd, D⟩ := F.d_chance
  obtain ⟨ds, hds, hb⟩ := D.binds0 (ps := ["game", "breaker", "most"]) 2 (by simp) (by simp) (fun Da doc pm an cdv ct us ks hl hk => match us, ks, hl, hk with | [a, b], [c], _, _ => ⟨_, _, _, _, _, _, rfl, rfl, rfl⟩)
  refine ⟨F.g_chance, D.kp, fd, ds, FnOkOf D sc_chance (fun vs H Q E h => ?_) (fun cdv A outer s H vs Q E hr h => ?_), hds, hb⟩
  · obtain ⟨g, b, ok, tok, gt, bv, e, rfl, _⟩ := h
    rfl
  · obtain ⟨g, b, ok, tok, gt, bv, e, rfl, hg, hb, wf, he, q⟩ := h
    obtain ⟨v1, v2⟩ := ev_ok tok
    have nok := notes_okN ((g.tree b).ev 1)
    refine ⟨_, (pss_one (ps_ret (pe_km0 (pe_k k_ways_of (hr.mono (by decide)) (pa_cons (pv 0) (pa_cons (pv 1) (pa_cons (pv 2) pa_nil)))) k_Ways_chance (hr.mono (by decide))))), ?_⟩
    refine ⟨_, rfl, _, rfl, _, rfl, g, b, ok, tok, gt, bv, e, rfl, hg, hb, wf, he, fun H1 x wn f1 hW => ?_⟩
    obtain ⟨dx, hx⟩ := hW.1
    refine ⟨x, dx, _, rfl, hx, no_Ways_chance, x, wn, _, _, rfl, hW, nok.nodup, fun p hp => ⟨(v2 _ (nok.keys _ (List.mem_map.mpr ⟨p, hp, rfl⟩))).1, Nat.le_trans (nok.cnts p hp) v1⟩, Nat.le_trans nok.len v1, fun H2 p f2 hp => ?_⟩
    rw [sum_notes fun D hD => (v2 D hD).2] at hp
    exact q H2 p (f1.trans f2) hp
end
end BK
/-! Breakback k27: the law's tape. -/
namespace BK
open PySem PySem.Spec PyProof.Rows L2 He
def kv (c : Addr) (a g l s t : Int) : List (Key × V) := [(Sum.inr "cells", .ref c), (Sum.inr "at", .int a), (Sum.inr "great", .int g), (Sum.inr "left", .int l), (Sum.inr "seed", .int s), (Sum.inr "turn", .int t)]
section
variable {c tp : Addr} {a g l s t x : Int} {H : Hp}
theorem gt_cells (h : H tp = some (.dK (kv c a g l s t))) : DGet H tp (.str "cells") (some (.ref c)) := by
  have e : valV (kv c a g l s t) (Sum.inr "cells") = some (.ref c) := by kernel_rfl
  have := DGet.k (k := Sum.inr "cells") h
  rw [e] at this
  exact this
theorem gt_at (h : H tp = some (.dK (kv c a g l s t))) : DGet H tp (.str "at") (some (.int a)) := by
  have e : valV (kv c a g l s t) (Sum.inr "at") = some (.int a) := by kernel_rfl
  have := DGet.k (k := Sum.inr "at") h
  rw [e] at this
  exact this
theorem gt_great (h : H tp = some (.dK (kv c a g l s t))) : DGet H tp (.str "great") (some (.int g)) := by
  have e : valV (kv c a g l s t) (Sum.inr "great") = some (.int g) := by kernel_rfl
  have := DGet.k (k := Sum.inr "great") h
  rw [e] at this
  exact this
theorem gt_left (h : H tp = some (.dK (kv c a g l s t))) : DGet H tp (.str "left") (some (.int l)) := by
  have e : valV (kv c a g l s t) (Sum.inr "left") = some (.int l) := by kernel_rfl
  have := DGet.k (k := Sum.inr "left") h
  rw [e] at this
  exact this
theorem gt_seed (h : H tp = some (.dK (kv c a g l s t))) : DGet H tp (.str "seed") (some (.int s)) := by
  have e : valV (kv c a g l s t) (Sum.inr "seed") = some (.int s) := by kernel_rfl
  have := DGet.k (k := Sum.inr "seed") h
  rw [e] at this
  exact this
theorem gt_turn (h : H tp = some (.dK (kv c a g l s t))) : DGet H tp (.str "turn") (some (.int t)) := by
  have e : valV (kv c a g l s t) (Sum.inr "turn") = some (.int t) := by kernel_rfl
  have := DGet.k (k := Sum.inr "turn") h
  rw [e] at this
  exact this
theorem kv_len : (kv c a g l s t).length < sizeLine := szl (by simp [kv])
theorem pu_at (h : H tp = some (.dK (kv c a g l s t))) : DPut H tp (.str "at") (.int x) (upd H tp (.dK (kv c x g l s t))) := by
  have e : putK (kv c a g l s t) (Sum.inr "at") (.int x) = kv c x g l s t := by kernel_rfl
  have := DPut.k (k := Sum.inr "at") (v := .int x) h kv_len
  rw [e] at this
  exact this
theorem pu_great (h : H tp = some (.dK (kv c a g l s t))) : DPut H tp (.str "great") (.int x) (upd H tp (.dK (kv c a x l s t))) := by
  have e : putK (kv c a g l s t) (Sum.inr "great") (.int x) = kv c a x l s t := by kernel_rfl
  have := DPut.k (k := Sum.inr "great") (v := .int x) h kv_len
  rw [e] at this
  exact this
theorem pu_left (h : H tp = some (.dK (kv c a g l s t))) : DPut H tp (.str "left") (.int x) (upd H tp (.dK (kv c a g x s t))) := by
  have e : putK (kv c a g l s t) (Sum.inr "left") (.int x) = kv c a g x s t := by kernel_rfl
  have := DPut.k (k := Sum.inr "left") (v := .int x) h kv_len
  rw [e] at this
  exact this
theorem pu_seed (h : H tp = some (.dK (kv c a g l s t))) : DPut H tp (.str "seed") (.int x) (upd H tp (.dK (kv c a g l x t))) := by
  have e : putK (kv c a g l s t) (Sum.inr "seed") (.int x) = kv c a g l x t := by kernel_rfl
  have := DPut.k (k := Sum.inr "seed") (v := .int x) h kv_len
  rw [e] at this
  exact this
theorem pu_turn (h : H tp = some (.dK (kv c a g l s t))) : DPut H tp (.str "turn") (.int x) (upd H tp (.dK (kv c a g l s x))) := by
  have e : putK (kv c a g l s t) (Sum.inr "turn") (.int x) = kv c a g l s x := by kernel_rfl
  have := DPut.k (k := Sum.inr "turn") (v := .int x) h kv_len
  rw [e] at this
  exact this
end
/-- the law's tape stands at tp, its cells at c -/
def LT (H : Hp) (tp c : Addr) (ns : List Int) : Prop := ∃ (a : Nat) (g l s t : Int), H tp = some (.dK (kv c a g l s t)) ∧ H c = some (.lst (ns.map V.int)) ∧ a ≤ ns.length
theorem LT.fr {H H' : Hp} {M : List Addr} {tp c : Addr} {ns : List Int} (h : LT H tp c ns) (f : Fr M H H') (h1 : tp ∉ M) (h2 : c ∉ M) : LT H' tp c ns := by
  obtain ⟨a, g, l, s, t, e1, e2, e3⟩ := h
  exact ⟨a, g, l, s, t, f.1 _ _ e1 h1, f.1 _ _ e2 h2, e3⟩
theorem LT.fr0 {H H' : Hp} {tp c : Addr} {ns : List Int} (h : LT H tp c ns) (f : Fr [] H H') : LT H' tp c ns := h.fr f (fun z => nomatch z) (fun z => nomatch z)
theorem fr_sqT {K : PySem.W.Frag} {H H' : Hp} {a : Addr} {xs : List V} (e : Fr [] H H') (h : SqT K H a xs) : SqT K H' a xs := by
  rcases h with (h | ⟨o, h⟩) | h
  · exact .inl (.inl (e.at h))
  · exact .inl (.inr ⟨o, e.at h⟩)
  · exact .inr h
section
variable {P : Program} {w : World} {K : PySem.W.Frag} {mg : Str → Option Value} {base : Heap}
theorem seqJ {c : TT} {tb te rest : TS} {D : Ends} {σ : L2.St} {H : Hp} (Inv : L2.St → Hp → Prop) (key : ∀ σ H, Inv σ H → rest D σ H) (main : ∀ N : L2.St → Hp → Prop, (∀ σ H, Inv σ H → N σ H) → tIfS c tb te { D with nx := N } σ H) : tSeq (tIfS c tb te) rest D σ H := main _ key
def spMixed : Sp := fun vs H Q _ => ∃ (a b : Int), vs = [.int a, .int b] ∧ ∀ r : Int, Q (.int r) H
theorem k_law_mixed (F : Fx K w mg) : Kp P w K mg base 1 "_law_mixed" ["_law_number_here", "_law_turn"] spMixed := by
  refine kp_of F.d_law_mixed F.g__law_mixed sc_law_mixed (fun _ _ _ _ _ _ us hl => match us, hl with | [_, _], _ => rfl) (fun vs H Q E h => ?_) (fun cdv A outer s H vs Q E hr h => ?_)
  · obtain ⟨a, b, rfl, _⟩ := h
    rfl
  · obtain ⟨a, b, rfl, q⟩ := h
    refine ⟨_, (pss_cons (ps_set (i := 2) sc_law_mixed.nd rfl (Or.inl rfl) (pe_op op_mod (pe_callTy call_int1 (by rfl) F.b_int (by decide +kernel) (pa_cons (pe_op op_add (pe_op op_add (pe_op op_mul (pv 0) pe_int) (pe_op op_mul (pv 1) pe_int)) pe_int) pa_nil)) pe_int))
        (pss_cons (ps_set (i := 3) sc_law_mixed.nd rfl (Or.inl rfl) (pe_op op_mod (pe_callTy call_int1 (by rfl) F.b_int (by decide +kernel) (pa_cons (pe_op op_add (pe_op op_add (pe_op op_mul (pv 2) pe_int) (pe_op op_fdiv (pv 2) pe_int)) (pe_op op_mul (pv 1) pe_int)) pa_nil)) pe_int))
        (pss_one (ps_ret (pe_op op_mod (pe_callTy call_int1 (by rfl) F.b_int (by decide +kernel) (pa_cons (pe_op op_add (pe_op op_mul (pv 3) (pv 3)) (pe_op op_fdiv (pv 2) pe_int)) pa_nil)) pe_int))))), ?_⟩
    refine ⟨_, rfl, _, _, rfl, rfl, .inr ⟨by decide, by decide⟩, _, rfl, _, _, rfl, rfl, .inr ⟨by decide, by decide⟩, _, _, rfl, rfl, _, _, rfl, rfl, .inl ⟨_, rfl, _, _, rfl, rfl, ?_⟩⟩
    refine ⟨(by show (0 : Int) < _; decide), _, rfl, _, _, rfl, rfl, .inr ⟨by decide, by decide⟩, _, rfl, _, _, rfl, rfl, ⟨by decide, by decide⟩, _, _, rfl, rfl, _, rfl, _, _, rfl, rfl, .inr ⟨by decide, by decide⟩, _, _, rfl, rfl, .inl ⟨_, rfl, _, _, rfl, rfl, (by show (0 : Int) < _; decide), ?_⟩⟩
    generalize h1 : (a * 48271 + b * 69621 + 11) % 2147483647 = x
    generalize h2 : (x * 16807 + x / 127773 + b * 271) = y
    have h3 : 0 ≤ y % 1000003 ∧ y % 1000003 < 1000003 := ⟨Int.emod_nonneg _ (by decide), Int.emod_lt_of_pos _ (by decide)⟩
    exact ⟨_, rfl, _, rfl, _, _, rfl, rfl, .inl ⟨by omega, by omega⟩, _, rfl, _, _, rfl, rfl, ⟨by decide, by decide⟩, _, _, rfl, rfl, .inl ⟨_, rfl, _, _, rfl, rfl, (by show (0 : Int) < _; decide), q _⟩⟩
def spLTape (K : PySem.W.Frag) : Sp := fun vs H Q _ => ∃ (sc : Addr) (ns : List Int), vs = [.ref sc] ∧ (SqL K H sc (ns.map V.int) ∨ SqT K H sc (ns.map V.int)) ∧ ∀ (H' : Hp) (tp c : Addr), Fr [] H H' → LT H' tp c ns → tp ≠ c → Q (.ref tp) H'
theorem k_law_tape (F : Fx K w mg) : Kp P w K mg base 1 "_law_tape" ["_law_script"] (spLTape K) := by
  refine kp_of F.d_law_tape F.g__law_tape sc_law_tape (fun _ _ _ _ _ _ us hl => match us, hl with | [_], _ => rfl) (fun vs H Q E h => ?_) (fun cdv A outer s H vs Q E hr h => ?_)
  · obtain ⟨sc, ns, rfl, _⟩ := h
    rfl
  · obtain ⟨sc, ns, rfl, hs, q⟩ := h
    refine ⟨_, (pss_one (ps_ret (pe_disp (pps_cons pe_str (pe_callTy call_list_of (by rfl) F.b_list (by decide +kernel) (pa_cons (pv 0) pa_nil)) (pps_cons pe_str pe_int (pps_cons pe_str pe_int (pps_cons pe_str pe_int (pps_cons pe_str pe_int (pps_cons pe_str pe_int pps_nil)))))) (by rfl) (by rfl) (fun z => by cases z) (by decide)))), ?_⟩
    intro p np
    have f1 : Fr [] H (upd H p (.dK [])) := Fr.new np
    have hp : (upd H p (.dK [])) p = some (.dK []) := upd_same
    have hs1 : SqL K (upd H p (.dK [])) sc (ns.map V.int) ∨ SqT K (upd H p (.dK [])) sc (ns.map V.int) := hs.imp (fun z => f1.seq z) (fun z => fr_sqT f1 z)
    have e0 : upd H p (.dK []) = upd H p (.dK []) := rfl
    generalize hH1 : upd H p (.dK []) = H1 at f1 hp hs1
    refine ⟨_, rfl, sc, _, rfl, hs1, fun c nc => ?_⟩
    have f2 : Fr [] H1 (upd H1 c (.lst (ns.map V.int))) := Fr.new nc
    have ncp : p ≠ c := ne_of_none hp nc
    have hc : (upd H1 c (.lst (ns.map V.int))) c = some (.lst (ns.map V.int)) := upd_same
    have hp2 := f2.at hp
    generalize upd H1 c (.lst (ns.map V.int)) = H2 at f2 hc hp2
    have em : mergeK ([] : List (Key × V)) (kv c 0 0 0 7 0) = kv c 0 0 0 7 0 := by kernel_rfl
    refine ⟨hp2, kv c 0 0 0 7 0, rfl, by simp [kv], ?_⟩
    rw [em]
    have f3 : Fr [p] H2 (upd H2 p (.dK (kv c 0 0 0 7 0))) := Fr.put (by simp) hp2 rfl
    refine q _ p c ?_ ⟨0, 0, 0, 7, 0, upd_same, by rw [upd_ne ncp.symm]; exact hc, Nat.zero_le _⟩ ncp
    exact (f1.trans f2).trans' f3 fun a ha => by rw [List.mem_singleton.mp ha]; exact .inr np
def spLDraw : Sp := fun vs H Q _ => ∃ (tp c : Addr) (ns : List Int) (n : Nat), vs = [.ref tp, .int n] ∧ LT H tp c ns ∧ tp ≠ c ∧ 0 < n ∧ ∀ (H' : Hp) (r : Nat), Fr [tp] H H' → LT H' tp c ns → r < n → Q (.int r) H'
theorem k_law_draw (F : Fx K w mg) : Kp P w K mg base 2 "_law_draw" ["_law_tape_here", "_law_many"] spLDraw := by
  have k_law_mixed : Kp P w K mg base 1 _ _ _ := k_law_mixed F
  refine kp_of F.d_law_draw F.g__law_draw sc_law_draw (fun _ _ _ _ _ _ us hl => match us, hl with | [_, _], _ => rfl) (fun vs H Q E h => ?_) (fun cdv A outer s H vs Q E hr h => ?_)
  · obtain ⟨tp, c, ns, n, rfl, _⟩ := h
    rfl
  · obtain ⟨tp, c, ns, n, rfl, ⟨a, g, l, sd, t, h1, hc, ha⟩, ntc, hn, q⟩ := h
    have hu := hu_of hr
    have fin : ∀ (H' : Hp) (i : Int), Fr [tp] H H' → LT H' tp c ns → Q (.int (i % n)) H' := fun H' i f hl => by
      have e1 : 0 ≤ i % (n : Int) := Int.emod_nonneg _ (by omega)
      have e2 : i % (n : Int) < n := Int.emod_lt_of_pos _ (by omega)
      have := q H' (i % (n : Int)).toNat f hl (by omega)
      rw [Int.toNat_of_nonneg e1] at this
      exact this
    have st : ∀ {H1 : Hp} {a' : Nat} {g' l' s' t' : Int} {kvs : List (Key × V)}, Fr [tp] H H1 → H1 tp = some (.dK kvs) → H1 c = some (.lst (ns.map V.int)) → Fr [tp] H (upd H1 tp (.dK (kv c a' g' l' s' t'))) ∧ (upd H1 tp (.dK (kv c a' g' l' s' t'))) tp = some (.dK (kv c a' g' l' s' t')) ∧ (upd H1 tp (.dK (kv c a' g' l' s' t'))) c = some (.lst (ns.map V.int)) :=
      fun f e1 e2 => ⟨f.trans (Fr.put (by simp) e1 rfl), upd_same, by rw [upd_ne ntc.symm]; exact e2⟩
    refine ⟨_, (pss_cons (ps_dput hu (pv 0) pe_str (pe_op op_add (pe_dget hu (pv 0) pe_str (fun _ _ => rfl)) pe_int) rfl)
        (pss_cons (ps_if (PW.pt (pw_and (pt_cmpR op_eq (pe_dget hu (pv 0) pe_str (fun _ _ => rfl)) pe_int (nomark _)) (pw_and1 (pt_cmpR op_lt (pe_dget hu (pv 0) pe_str (fun _ _ => rfl)) (pe_callB call_len_seq (by rfl) F.b_len (by decide +kernel) (pa_cons (pe_dget hu (pv 0) pe_str (fun _ _ => rfl)) pa_nil)) (nomark _)))))
          (pss_cons (ps_set (i := 2) sc_law_draw.nd rfl (Or.inl rfl) (pe_ix (r := rIxL K) ix_list (pe_dget hu (pv 0) pe_str (fun _ _ => rfl)) (pe_dget hu (pv 0) pe_str (fun _ _ => rfl)) (fun _ _ => rfl)))
          (pss_cons (ps_dput hu (pv 0) pe_str (pe_op op_add (pe_dget hu (pv 0) pe_str (fun _ _ => rfl)) pe_int) rfl)
          (pss_cons (ps_dput hu (pv 0) pe_str (pe_k k_law_mixed (hr.mono (by decide)) (pa_cons (pe_op op_add (pe_dget hu (pv 0) pe_str (fun _ _ => rfl)) (pv 2)) (pa_cons (pe_dget hu (pv 0) pe_str (fun _ _ => rfl)) pa_nil))) rfl)
          (pss_cons (ps_dput hu (pv 0) pe_str pe_int rfl)
          (pss_one (ps_if (pt_cmpR op_ge (pv 2) (pe_op op_pow pe_int pe_int) (nomark _))
            (pss_cons (ps_dput hu (pv 0) pe_str (pv 2) rfl)
            (pss_one (ps_dput hu (pv 0) pe_str pe_int rfl)))
            pss_nil))))))
          pss_nil)
        (pss_cons (ps_if (pt_cmpR op_gt (pe_dget hu (pv 0) pe_str (fun _ _ => rfl)) pe_int (nomark _))
          (pss_one (ps_dput hu (pv 0) pe_str (pe_op op_sub (pe_dget hu (pv 0) pe_str (fun _ _ => rfl)) pe_int) rfl))
          pss_nil)
        (pss_cons (ps_if (pt_cmpR op_eq (pe_dget hu (pv 0) pe_str (fun _ _ => rfl)) pe_int (nomark _))
          (pss_one (ps_ret (pe_op op_mod (pe_callTy call_int1 (by rfl) F.b_int (by decide +kernel) (pa_cons (pe_k k_law_mixed (hr.mono (by decide)) (pa_cons (pe_dget hu (pv 0) pe_str (fun _ _ => rfl)) (pa_cons (pe_dget hu (pv 0) pe_str (fun _ _ => rfl)) pa_nil))) pa_nil)) (pv 1))))
          pss_nil)
        (pss_cons (ps_set (i := 3) sc_law_draw.nd rfl (Or.inl rfl) (pe_op op_mod (pe_callTy call_int1 (by rfl) F.b_int (by decide +kernel) (pa_cons (pe_dget hu (pv 0) pe_str (fun _ _ => rfl)) pa_nil)) pe_int))
        (pss_cons (ps_dput hu (pv 0) pe_str (pe_op op_fdiv (pe_dget hu (pv 0) pe_str (fun _ _ => rfl)) pe_int) rfl)
        (pss_cons (ps_if (PW.pt (pw_or (pt_cmpR op_eq (pe_dget hu (pv 0) pe_str (fun _ _ => rfl)) pe_int (nomark _)) (pw_or1 (pt_cmpR op_eq (pe_dget hu (pv 0) pe_str (fun _ _ => rfl)) pe_int (nomark _)))))
          (pss_cons (ps_dput hu (pv 0) pe_str pe_int rfl)
          (pss_one (ps_dput hu (pv 0) pe_str pe_int rfl)))
          pss_nil)
        (pss_one (ps_ret (pe_op op_mod (pe_callTy call_int1 (by rfl) F.b_int (by decide +kernel) (pa_cons (pv 3) pa_nil)) (pv 1))))))))))), ?_⟩
    refine ⟨_, rfl, tp, _, rfl, gt_turn h1, _, _, rfl, rfl, _, rfl, tp, _, rfl, pu_turn h1, ?_⟩
    obtain ⟨f1, h2, hc2⟩ := st (a' := a) (g' := g) (l' := l) (s' := sd) (t' := t + 1) (Fr.refl _ H) h1 hc
    generalize upd H tp _ = H1 at f1 h2 hc2
    try dsimp only
    refine seqJ (fun σ G => ∃ (a2 : Nat) (g2 l2 s2 t2 : Int) (v2 : Option V), σ = [some (.ref tp), some (.int n), v2, none] ∧ Fr [tp] H G ∧ G tp = some (.dK (kv c a2 g2 l2 s2 t2)) ∧ G c = some (.lst (ns.map V.int)) ∧ a2 ≤ ns.length) (fun σ G h => ?_) (fun N hN => ?_)
    · obtain ⟨a2, g2, l2, s2, t2, v2, rfl, f, e1, e2, e3⟩ := h
      try dsimp only
      refine seqJ (fun σ G => ∃ (a2 : Nat) (g2 l2 s2 t2 : Int), σ = [some (.ref tp), some (.int n), v2, none] ∧ Fr [tp] H G ∧ G tp = some (.dK (kv c a2 g2 l2 s2 t2)) ∧ G c = some (.lst (ns.map V.int)) ∧ a2 ≤ ns.length) (fun σ G h => ?_) (fun N hN => ?_)
      · clear f e1 e2 e3
        obtain ⟨a2, g2, l2, s2, t2, rfl, f, e1, e2, e3⟩ := h
        refine ⟨_, rfl, tp, _, rfl, gt_great e1, rfl, _, rfl, ite2 (fun _ => ?_) (fun _ => ?_)⟩
        · exact ⟨_, rfl, tp, _, rfl, gt_seed e1, _, rfl, tp, _, rfl, gt_turn e1, _, _, rfl, fun r => .inl ⟨_, rfl, _, rfl, _, _, rfl, rfl, (by show (0 : Int) < (n : Int); omega), fin _ _ f ⟨_, _, _, _, _, e1, e2, e3⟩⟩⟩
        · refine ⟨_, rfl, tp, _, rfl, gt_great e1, .inl ⟨_, rfl, _, _, rfl, rfl, (by show (0 : Int) < _; decide), ?_⟩⟩
          refine ⟨_, rfl, tp, _, rfl, gt_great e1, _, _, rfl, rfl, ⟨by decide, by decide⟩, _, rfl, tp, _, rfl, pu_great e1, ?_⟩
          obtain ⟨f3, h3, hc3⟩ := st (a' := a2) (g' := g2 / 1009) (l' := l2) (s' := s2) (t' := t2) f e1 e2
          generalize upd _ tp _ = H3 at f3 h3 hc3
          try dsimp only
          refine seqJ (fun σ G => ∃ (a2 : Nat) (g2 l2 s2 t2 x : Int), σ = [some (.ref tp), some (.int n), v2, some (.int x)] ∧ Fr [tp] H G ∧ G tp = some (.dK (kv c a2 g2 l2 s2 t2)) ∧ G c = some (.lst (ns.map V.int)) ∧ a2 ≤ ns.length) (fun σ G h => ?_) (fun N hN => ?_)
          · obtain ⟨a4, g4, l4, s4, t4, x, rfl, f4, h4, hc4, e4⟩ := h
            exact ⟨_, rfl, .inl ⟨_, rfl, _, rfl, _, _, rfl, rfl, (by show (0 : Int) < (n : Int); omega), fin _ _ f4 ⟨_, _, _, _, _, h4, hc4, e4⟩⟩⟩
          · have body : tSeq (sDPut (tVar 0) (tC (.str "great")) (tC (.int 0))) (sDPut (tVar 0) (tC (.str "left")) (tC (.int 0))) { nx := N, rt := Q } [some (.ref tp), some (.int n), v2, some (.int (g2 % 1009))] H3 := by
              refine ⟨_, rfl, tp, _, rfl, pu_great h3, ?_⟩
              obtain ⟨f5, h5, hc5⟩ := st (a' := a2) (g' := 0) (l' := l2) (s' := s2) (t' := t2) f3 h3 hc3
              generalize upd _ tp _ = H5 at f5 h5 hc5
              refine ⟨_, rfl, tp, _, rfl, pu_left h5, ?_⟩
              obtain ⟨f6, h6, hc6⟩ := st (a' := a2) (g' := 0) (l' := 0) (s' := s2) (t' := t2) f5 h5 hc5
              generalize upd _ tp _ = H6 at f6 h6 hc6
              exact hN _ _ ⟨a2, _, _, _, _, _, rfl, f6, h6, hc6, e3⟩
            refine ⟨_, rfl, tp, _, rfl, gt_great h3, rfl, _, rfl, ite2 (fun _ => ?_) (fun _ => ?_)⟩
            · exact body
            · refine ⟨_, rfl, tp, _, rfl, gt_left h3, rfl, _, rfl, ite2 (fun _ => body) (fun _ => ?_)⟩
              exact hN _ _ ⟨a2, _, _, _, _, _, rfl, f3, h3, hc3, e3⟩
      · refine ⟨_, rfl, tp, _, rfl, gt_left e1, _, _, rfl, rfl, _, rfl, ite2 (fun _ => ?_) (fun _ => ?_)⟩
        · refine ⟨_, rfl, tp, _, rfl, gt_left e1, _, _, rfl, rfl, _, rfl, tp, _, rfl, pu_left e1, ?_⟩
          obtain ⟨f3, h3, hc3⟩ := st (a' := a2) (g' := g2) (l' := l2 - 1) (s' := s2) (t' := t2) f e1 e2
          exact hN _ _ ⟨a2, _, _, _, _, rfl, f3, h3, hc3, e3⟩
        · exact hN _ _ ⟨a2, _, _, _, _, rfl, f, e1, e2, e3⟩
    · have no : N [some (.ref tp), some (.int n), none, none] H1 := hN _ _ ⟨a, _, _, _, _, none, rfl, f1, h2, hc2, ha⟩
      refine ⟨_, rfl, tp, _, rfl, gt_left h2, rfl, _, rfl, ite2 (fun _ => ?_) (fun _ => no)⟩
      refine ⟨_, rfl, tp, _, rfl, gt_at h2, _, rfl, tp, _, rfl, gt_cells h2, c, _, rfl, .inl (SqL.at hc2), _, _, rfl, rfl, _, rfl, ite2 (fun hlt => ?_) (fun _ => no)⟩
      have hlt2 : a < ns.length := by
        have := of_decide_eq_true hlt
        rw [List.length_map] at this
        omega
      refine ⟨_, rfl, tp, _, rfl, gt_cells h2, _, rfl, tp, _, rfl, gt_at h2, c, _, _, .int (ns.getD a 0), rfl, rfl, SqL.at hc2, atI_nat (by rw [List.getElem?_map, List.getElem?_eq_getElem hlt2, List.getD_eq_getElem?_getD, List.getElem?_eq_getElem hlt2]; rfl), ?_⟩
      refine ⟨_, rfl, tp, _, rfl, gt_at h2, _, _, rfl, rfl, _, rfl, tp, _, rfl, pu_at h2, ?_⟩
      obtain ⟨f3, h3, hc3⟩ := st (a' := a + 1) (g' := g) (l' := l) (s' := sd) (t' := t + 1) f1 h2 hc2
      have ea : ((a + 1 : Nat) : Int) = (a : Int) + 1 := by omega
      rw [ea] at f3 h3 hc3
      generalize upd H1 tp _ = H3 at f3 h3 hc3
      refine ⟨_, rfl, tp, _, rfl, gt_seed h3, _, rfl, _, _, rfl, rfl, _, rfl, tp, _, rfl, gt_at h3, _, _, rfl, fun r => ⟨_, rfl, tp, _, rfl, pu_seed h3, ?_⟩⟩
      obtain ⟨f4, h4, hc4⟩ := st (a' := a + 1) (g' := g) (l' := l) (s' := r) (t' := t + 1) f3 h3 hc3
      rw [ea] at f4 h4 hc4
      generalize upd H3 tp _ = H4 at f4 h4 hc4
      refine ⟨_, rfl, tp, _, rfl, pu_left h4, ?_⟩
      obtain ⟨f5, h5, hc5⟩ := st (a' := a + 1) (g' := g) (l' := 4) (s' := r) (t' := t + 1) f4 h4 hc4
      rw [ea] at f5 h5 hc5
      generalize upd H4 tp _ = H5 at f5 h5 hc5
      refine ⟨_, rfl, _, _, rfl, rfl, ⟨by decide, by decide, by decide⟩, _, _, rfl, rfl, _, rfl, ite2 (fun _ => ?_) (fun _ => ?_)⟩
      · refine ⟨_, rfl, _, rfl, tp, _, rfl, pu_great h5, ?_⟩
        obtain ⟨f6, h6, hc6⟩ := st (a' := a + 1) (g' := ns.getD a 0) (l' := 4) (s' := r) (t' := t + 1) f5 h5 hc5
        rw [ea] at f6 h6 hc6
        generalize upd H5 tp _ = H6 at f6 h6 hc6
        refine ⟨_, rfl, tp, _, rfl, pu_left h6, ?_⟩
        obtain ⟨f7, h7, hc7⟩ := st (a' := a + 1) (g' := ns.getD a 0) (l' := 60) (s' := r) (t' := t + 1) f6 h6 hc6
        rw [ea] at f7 h7 hc7
        generalize upd H6 tp _ = H7 at f7 h7 hc7
        rw [← ea] at h7
        exact hN _ _ ⟨a + 1, _, _, _, _, _, rfl, f7, h7, hc7, hlt2⟩
      · rw [← ea] at h5
        exact hN _ _ ⟨a + 1, _, _, _, _, _, rfl, f5, h5, hc5, hlt2⟩
end
end BK
/-! Breakback k27: the law's small defs. -/
namespace BK
open PySem PySem.Spec PyProof.Rows L2 He
section
variable {P : Program} {w : World} {K : PySem.W.Frag} {mg : Str → Option Value} {base : Heap}
def spLPick : Sp := fun vs H Q _ => ∃ (tp c rw : Addr) (ns : List Int) (xs : List V), vs = [.ref tp, .ref rw] ∧ LT H tp c ns ∧ tp ≠ c ∧ H rw = some (.lst xs) ∧ 0 < xs.length ∧ ∀ (H' : Hp) (v : V), Fr [tp] H H' → LT H' tp c ns → v ∈ xs → Q v H'
theorem k_law_pick (F : Fx K w mg) : Kp P w K mg base 3 "_law_pick" ["_law_tape_here", "_law_row"] spLPick := by
  have k_law_draw : Kp P w K mg base 2 _ _ _ := k_law_draw F
  refine kp_of F.d_law_pick F.g__law_pick sc_law_pick (fun _ _ _ _ _ _ us hl => match us, hl with | [_, _], _ => rfl) (fun vs H Q E h => ?_) (fun cdv A outer s H vs Q E hr h => ?_)
  · obtain ⟨tp, c, rw, ns, xs, rfl, _⟩ := h
    rfl
  · obtain ⟨tp, c, rw, ns, xs, rfl, hT, ntc, hrw, hx, q⟩ := h
    refine ⟨_, (pss_one (ps_ret (pe_ix (r := rIxL K) ix_list (pv 1) (pe_k k_law_draw (hr.mono (by decide)) (pa_cons (pv 0) (pa_cons (pe_callB call_len_seq (by rfl) F.b_len (by decide +kernel) (pa_cons (pv 1) pa_nil)) pa_nil))) (fun _ _ => rfl)))), ?_⟩
    obtain ⟨a, g, l, sd, t, h1, _⟩ := id hT
    refine ⟨_, rfl, _, rfl, _, rfl, rw, _, rfl, .inl (SqL.at hrw), tp, c, ns, xs.length, rfl, hT, ntc, hx, fun H' r f hT' hlt => ?_⟩
    have hrw' := f.1 _ _ hrw (by simp; exact (apart h1 hrw (fun z => by cases z)).symm)
    exact ⟨rw, xs, r, xs[r], rfl, rfl, SqL.at hrw', atI_nat (List.getElem?_eq_getElem hlt), q H' _ f hT' (List.getElem_mem hlt)⟩
/-! _law_bits -/
theorem dig (b : Nat) (h : b < 2) : Str.ofString (toString ((b : Nat) : Int)) = bS [b == 1] := by
  match b, h with
  | 0, _ => decide +kernel
  | 1, _ => decide +kernel
theorem bitsN_succ (i k : Nat) : bitsN (i + 1) k = ((k / 2 ^ i) % 2 == 1) :: bitsN i k := by
  rw [bitsN, lsb_succ, List.reverse_append]
  rfl
theorem shr_nat (k i : Nat) : (k : Int) / 2 ^ ((0 : Int) + (i : Int)).toNat % 2 = ((k / 2 ^ i % 2 : Nat) : Int) := by
  have e : ((0 : Int) + (i : Int)).toNat = i := by omega
  rw [e, Int.natCast_emod, Int.natCast_ediv, Int.natCast_pow]
  rfl
def spLBits : Sp := fun vs H Q _ => ∃ (l k : Nat), vs = [.int l, .int k] ∧ l ≤ 100 ∧ Q (.str (bS (bitsN l k))) H
theorem k_law_bits (F : Fx K w mg) : Kp P w K mg base 1 "_law_bits" ["_law_length", "_law_number_here"] spLBits := by
  refine kp_of F.d_law_bits F.g__law_bits sc_law_bits (fun _ _ _ _ _ _ us hl => match us, hl with | [_, _], _ => rfl) (fun vs H Q E h => ?_) (fun cdv A outer s H vs Q E hr h => ?_)
  · obtain ⟨l, k, rfl, _⟩ := h
    rfl
  · obtain ⟨l, k, rfl, hl, q⟩ := h
    refine ⟨_, (pss_cons (ps_set (i := 2) sc_law_bits.nd rfl (Or.inl rfl) pe_str)
        (pss_cons (ps_for PassesOwn.never rfl (pi_range1 (by rfl) F.b_range (pa_cons (pv 0) pa_nil)) (pg_name (i := 3) sc_law_bits.nd rfl (Or.inl rfl))
          (pss_one (ps_set (i := 2) sc_law_bits.nd rfl (Or.inl rfl) (pe_op op_add_str (pe_callTy call_str_int (by rfl) F.b_str (by decide +kernel) (pa_cons (pe_op op_mod (pe_callTy call_int1 (by rfl) F.b_int (by decide +kernel) (pa_cons (pe_op op_shr (pv 1) (pv 3)) pa_nil)) pe_int) pa_nil)) (pv 2)))))
        (pss_one (ps_ret (pv 2))))), ?_⟩
    refine ⟨_, rfl, _, rfl, by omega, by omega, for_range (lo := 0) (n := ((l : Nat) : Int).toNat) (fun i σ H' => H' = H ∧ ∃ y, σ = [some (.int l), some (.int k), some (.str (bS (bitsN i k))), y]) ⟨rfl, none, ?_⟩ (fun i σ H' hi h => ?_) (fun σ H' h => ?_)⟩
    · show _ = [some (V.int l), some (V.int k), some (V.str (bS [])), none]
      rw [← bS_nil]
      rfl
    · obtain ⟨rfl, y, rfl⟩ := h
      refine ⟨_, rfl, _, rfl, _, _, rfl, rfl, (by show (0 : Int) ≤ 0 + (i : Int); omega), .inl ⟨_, rfl, _, _, rfl, rfl, (by show (0 : Int) < 2; decide), ?_⟩⟩
      show ∃ j : Int, [V.int ((k : Int) / 2 ^ ((0 : Int) + (i : Int)).toNat % 2)] = [V.int j] ∧ _
      rw [shr_nat]
      have hb : k / 2 ^ i % 2 < 2 := Nat.mod_lt _ (by decide)
      refine ⟨_, rfl, ?_, _, rfl, _, _, rfl, rfl, ?_, rfl, some (.int (0 + (i : Int))), ?_⟩
      · rw [Int.natAbs_natCast]
        exact Nat.lt_of_le_of_lt (Nat.log2_le_self _) (by omega)
      · rw [dig _ hb, bS_len, bS_len, bitsN_len]
        exact sz (by simp; omega)
      · rw [dig _ hb, bS_app, bitsN_succ]
        rfl
    · obtain ⟨rfl, y, rfl⟩ := h
      rw [Int.toNat_natCast]
      exact ⟨_, rfl, q⟩
/-! _law_string -/
def spLString : Sp := fun vs H Q _ => ∃ (tp c : Addr) (ns : List Int) (l : Nat), vs = [.ref tp, .int l] ∧ LT H tp c ns ∧ tp ≠ c ∧ l ≤ 100 ∧ ∀ (H' : Hp) (y : Bs), Fr [tp] H H' → LT H' tp c ns → y.length = l → Q (.str (bS y)) H'
theorem k_law_string (F : Fx K w mg) : Kp P w K mg base 3 "_law_string" ["_law_tape_here", "_law_length"] spLString := by
  have k_law_draw : Kp P w K mg base 2 _ _ _ := k_law_draw F
  refine kp_of F.d_law_string F.g__law_string sc_law_string (fun _ _ _ _ _ _ us hl => match us, hl with | [_, _], _ => rfl) (fun vs H Q E h => ?_) (fun cdv A outer s H vs Q E hr h => ?_)
  · obtain ⟨tp, c, ns, l, rfl, _⟩ := h
    rfl
  · obtain ⟨tp, c, ns, l, rfl, hT, ntc, hl, q⟩ := h
    refine ⟨_, (pss_one (ps_ret (pe_join pe_str (pe_lc (own := [("_law_k", 2)]) (g := gName 2) rfl sc_law_string.nd (pi_range1 (by rfl) F.b_range (pa_cons (pv 1) pa_nil)) (blkOk_by (own := [("_law_k", 2)]) (N := N_law_string) (sc := defScope s_law_string) (by decide +kernel)) (fun _ _ _ _ _ => (pg_name (i := 2) sc_law_string.nd rfl (Or.inl rfl))) (fun _ _ _ _ _ => pts_nil) (fun _ _ _ _ _ => (pe_ix ix_str pe_str (pe_k k_law_draw (hr.mono (by decide)) (pa_cons (pv 0) (pa_cons pe_int pa_nil))) (fun _ _ => rfl))))))), ?_⟩
    refine ⟨⟨_, rfl⟩, _, rfl, _, rfl, by omega, by omega, fun D hD => lc_it walk_range (fun i G => Fr [tp] H G ∧ LT G tp c ns ∧ ∃ y : Bs, y.length = i ∧ G D = some (.lst (y.map oneV))) ?_ (fun _ _ _ _ => trivial) ?_ (fun G p => ?_)⟩
    · exact ⟨Fr.new hD, hT.fr0 (Fr.new hD), [], rfl, upd_same⟩
    · intro i x G G' hi p y
      obtain ⟨rfl, rfl⟩ := y
      obtain ⟨fr, hG, ys, hy, hl2⟩ := p
      refine ⟨rfl, yesT ⟨_, rfl, tp, c, ns, 2, rfl, hG, ntc, by decide, fun G2 r f hG2 hr2 => ?_⟩⟩
      have hDtp : D ≠ tp := by
        obtain ⟨a, g, l', sd, t, h1, _⟩ := hG
        exact apart hl2 h1 (fun z => by cases z)
      have hl3 := f.1 _ _ hl2 (by simp; exact hDtp)
      have hix : atI ("01" : Str).cps.toList ((r : Nat) : Int) = some (sgn (r == 1)) := by
        match r, hr2 with
        | 0, _ => decide +kernel
        | 1, _ => decide +kernel
      refine ⟨_, r, _, rfl, rfl, by decide +kernel, hix, ys.map oneV, hl3, szl (by rw [List.length_map]; omega), (fr.trans f).own hD, ?_, ys ++ [r == 1], by simp [hy], ?_⟩
      · have hDc : D ≠ c := fun z => by
          obtain ⟨a, g, l', sd, t, h1, h2, _⟩ := hT
          rw [z, h2] at hD
          cases hD
        obtain ⟨a, g, l', sd, t, h1, h2, h3⟩ := hG2
        exact ⟨a, g, l', sd, t, by rw [upd_ne hDtp.symm]; exact h1, by rw [upd_ne hDc.symm]; exact h2, h3⟩
      · rw [upd_same, List.map_append, bS_one]
        rfl
    · obtain ⟨fr, hG, ys, hy, hl2⟩ := p
      rw [Int.toNat_natCast] at hy
      refine ⟨_, D, ys.map (fun b => bS [b]), rfl, rfl, .inl (SqL.at ?_), ?_, ?_⟩
      · rw [hl2, List.map_map]; rfl
      · rw [ones_len, List.length_map]
        have : (("" : Str)).length = 0 := by decide +kernel
        rw [this]
        refine sz ?_
        omega
      · rw [join_ones]
        exact q _ ys fr hG hy
/-! _law_xor -/
def spLXor : Sp := fun vs H Q _ => ∃ (a b : Bs), vs = [.str (bS a), .str (bS b)] ∧ a.length ≤ b.length ∧ b.length ≤ 1000 ∧ ∀ H', Fr [] H H' → Q (.str (bS (xorB a b))) H'
theorem k_law_xor (F : Fx K w mg) : Kp P w K mg base 1 "_law_xor" ["_law_first", "_law_second"] spLXor := by
  refine kp_of F.d_law_xor F.g__law_xor sc_law_xor (fun _ _ _ _ _ _ us hl => match us, hl with | [_, _], _ => rfl) (fun vs H Q E h => ?_) (fun cdv A outer s H vs Q E hr h => ?_)
  · obtain ⟨a, b, rfl, _⟩ := h
    rfl
  · obtain ⟨a, b, rfl, hab, hb, q⟩ := h
    refine ⟨_, (pss_one (ps_ret (pe_join pe_str (pe_lc (own := [("_law_k", 2)]) (g := gName 2) rfl sc_law_xor.nd (pi_range1 (by rfl) F.b_range (pa_cons (pe_callB call_len_str (by rfl) F.b_len (by decide +kernel) (pa_cons (pv 0) pa_nil)) pa_nil)) (blkOk_by (own := [("_law_k", 2)]) (N := N_law_xor) (sc := defScope s_law_xor) (by decide +kernel)) (fun _ _ _ _ _ => (pg_name (i := 2) sc_law_xor.nd rfl (Or.inl rfl))) (fun _ _ _ _ _ => pts_nil) (fun _ _ _ _ _ => (pe_ix ix_str pe_str (pe_callTy call_int1 (by rfl) F.b_int (by decide +kernel) (pa_cons (pe_cmpR op_ne (pe_ix ix_str (pv 0) (pv 2) (fun _ _ => rfl)) (pe_ix ix_str (pv 1) (pv 2) (fun _ _ => rfl)) (nomark _)) pa_nil)) (fun _ _ => rfl))))))), ?_⟩
    refine ⟨⟨_, rfl⟩, _, rfl, _, rfl, (by rw [bS_len]; exact sz (by omega)), _, rfl, (by rw [bS_len]; omega), (by rw [bS_len]; omega), fun D hD => lc_map walk_range (fun i => oneV (a.getD i false != b.getD i false)) hD (by rw [bS_len]; omega) (fun _ _ => trivial) (fun i x G G' hi fr hy R S hR => ?_) (fun G f h => ?_)⟩
    · obtain ⟨rfl, rfl⟩ := hy
      rw [bS_len, Int.toNat_natCast] at hi
      have e0 : (0 : Int) + (i : Int) = (i : Int) := by omega
      refine ⟨rfl, yesT ⟨_, rfl, _, rfl, _, _, _, rfl, rfl, (by rw [bS_len]; exact sz (by omega)), (by rw [e0]; exact bS_at hi), _, rfl, _, rfl, _, _, _, rfl, rfl, (by rw [bS_len]; exact sz (by omega)), (by rw [e0]; exact bS_at (by omega)), rfl, .inr ⟨_, rfl, ?_⟩⟩⟩
      rw [sgn_dec]
      have hix : ∀ z : Bool, atI ("01" : Str).cps.toList (if z = true then 1 else 0) = some (sgn z) := by
        intro z
        cases z <;> decide +kernel
      refine ⟨_, _, _, rfl, rfl, by decide +kernel, hix _, ?_⟩
      rw [bS_one]
      exact hR _ (Fr.refl _ _)
    · rw [bS_len, Int.toNat_natCast] at h
      have em : min a.length b.length = a.length := by omega
      rw [← em, xorB_map] at h
      refine ⟨_, D, (xorB a b).map (fun b => bS [b]), rfl, rfl, .inl (SqL.at ?_), ?_, ?_⟩
      · rw [h, List.map_map]; rfl
      · rw [ones_len, List.length_map, xorB_len]
        have : (("" : Str)).length = 0 := by decide +kernel
        rw [this]
        refine sz ?_
        omega
      · rw [join_ones]
        exact q _ f
end
end BK
/-! Breakback k27: the law's fractions. -/
namespace BK
open PySem PySem.Spec PyProof.Rows L2 He
section
variable {P : Program} {w : World} {K : PySem.W.Frag} {mg : Str → Option Value} {base : Heap}
def spLFrac : Sp := fun vs H Q _ => ∃ (a : Int) (b : Nat), vs = [.int a, .int b] ∧ b ≠ 0 ∧ b < 2 ^ 300 ∧ a.natAbs < 2 ^ 300 ∧ ∀ p, H p = none → Q (.ref p) (upd H p (.tup (ratV (mkRat a b))))
theorem k_law_fraction (F : Fx K w mg) : Kp P w K mg base 1 "_law_fraction" ["_law_over", "_law_under"] spLFrac := by
  refine kp_of F.d_law_fraction F.g__law_fraction sc_law_fraction (fun _ _ _ _ _ _ us hl => match us, hl with | [_, _], _ => rfl) (fun vs H Q E h => ?_) (fun cdv A outer s H vs Q E hr h => ?_)
  · obtain ⟨a, b, rfl, _⟩ := h
    rfl
  · obtain ⟨a, b, rfl, hb, hb2, ha2, q⟩ := h
    refine ⟨_, (pss_cons (ps_set (i := 2) sc_law_fraction.nd rfl (Or.inl rfl) (pe_callB call_abs (by rfl) F.b_abs (by decide +kernel) (pa_cons (pv 0) pa_nil)))
        (pss_cons (ps_set (i := 3) sc_law_fraction.nd rfl (Or.inl rfl) (pv 1))
        (pss_cons (ps_for PassesOwn.never rfl (pi_range1 (by rfl) F.b_range (pa_cons pe_int pa_nil)) (pg_name (i := 4) sc_law_fraction.nd rfl (Or.inl rfl))
          (pss_cons (ps_if (pt_cmpR op_eq (pv 2) pe_int (nomark _))
            (pss_one ps_break)
            pss_nil)
          (pss_cons (ps_set (i := 5) sc_law_fraction.nd rfl (Or.inl rfl) (pe_op op_mod (pe_callTy call_int1 (by rfl) F.b_int (by decide +kernel) (pa_cons (pv 3) pa_nil)) (pv 2)))
          (pss_cons (ps_set (i := 3) sc_law_fraction.nd rfl (Or.inl rfl) (pv 2))
          (pss_one (ps_set (i := 2) sc_law_fraction.nd rfl (Or.inl rfl) (pv 5)))))))
        (pss_one (ps_ret (pe_tup (pa_cons (pe_op op_fdivW (pv 0) (pv 3)) (pa_cons (pe_op op_fdivW (pv 1) (pv 3)) pa_nil)))))))), ?_⟩
    have eabs : (if a < 0 then -a else a) = ((a.natAbs : Nat) : Int) := by split <;> omega
    have hfin : ∀ (σ : L2.St) (y z : Option V), σ = [some (.int a), some (.int b), some (.int 0), some (.int (Nat.gcd a.natAbs b : Nat)), y, z] → tRet (tTup (tCons (tOp (rI CDivW fun i j => .int (i / j)) (tVar 0) (tVar 3)) (tCons (tOp (rI CDivW fun i j => .int (i / j)) (tVar 1) (tVar 3)) tNil))) { nx := fun _ H' => Q .non H', rt := Q } σ H := by
      intro σ y z e
      subst e
      have hg0 : 0 < Nat.gcd a.natAbs b := Nat.gcd_pos_of_pos_right _ (Nat.pos_of_ne_zero hb)
      have hgb : Nat.gcd a.natAbs b ≤ b := Nat.gcd_le_right _ (Nat.pos_of_ne_zero hb)
      have hW : ∀ i : Int, CDivW i ((Nat.gcd a.natAbs b : Nat) : Int) := fun i => wide_div (b := 300) (by omega) (by rw [Int.natAbs_natCast]; omega) (by decide) (by decide)
      refine ⟨_, rfl, _, rfl, _, _, rfl, rfl, hW _, _, rfl, _, rfl, _, _, rfl, rfl, hW _, sz (by simp), fun p np => ?_⟩
      have := q p np
      rw [ratV, mk_num a hb, mk_den a hb] at this
      exact this
    refine ⟨_, rfl, a, rfl, ?_⟩
    rw [eabs]
    refine ⟨_, rfl, _, rfl, by decide, by decide, for_range (lo := 0) (n := (4000 : Int).toNat) (fun i σ H' => H' = H ∧ ∃ (x y : Nat) (y4 y5 : Option V), σ = [some (.int a), some (.int b), some (.int x), some (.int y), y4, y5] ∧ Nat.gcd x y = Nat.gcd a.natAbs b ∧ 0 < y ∧ ((i = 0 ∧ x < 2 ^ 300 ∧ y < 2 ^ 300) ∨ (x < y ∧ x * y * 2 ^ i < 2 ^ 602)))
      ⟨rfl, a.natAbs, b, none, none, rfl, rfl, Nat.pos_of_ne_zero hb, .inl ⟨rfl, ha2, hb2⟩⟩ (fun i σ H' hi h => ?_) (fun σ H' h => ?_)⟩
    · obtain ⟨rfl, x, y, y4, y5, rfl, hg, hy, hB⟩ := h
      by_cases hx : x = 0
      · subst hx
        refine ⟨_, rfl, rfl, _, rfl, iteTd (by decide +kernel) ?_⟩
        rw [Nat.gcd_zero_left] at hg
        subst hg
        exact hfin _ _ _ rfl
      · refine ⟨_, rfl, rfl, _, rfl, iteFd (decide_eq_false (fun e => hx (by injection e; omega))) ?_⟩
        refine ⟨_, rfl, .inl ⟨_, rfl, _, rfl, _, _, rfl, rfl, (by show (0 : Int) < (x : Int); omega), ?_⟩⟩
        have hmod : ((y : Int) % (x : Int)) = ((y % x : Nat) : Int) := by rw [Int.natCast_emod]
        refine ⟨_, rfl, _, rfl, rfl, y % x, x, some (.int (0 + (i : Int))), some (.int ((y : Int) % (x : Int))), ?_, ?_, Nat.pos_of_ne_zero hx, .inr ⟨Nat.mod_lt _ (Nat.pos_of_ne_zero hx), ?_⟩⟩
        · rw [← hmod]; rfl
        · rw [← Nat.gcd_rec]; exact hg
        · have hpos : 0 < 2 ^ i := Nat.pow_pos (by decide)
          have hxp := Nat.pos_of_ne_zero hx
          rcases hB with ⟨h0, h1, h2⟩ | ⟨h1, h2⟩
          · subst h0
            have h3 : (y % x) * x ≤ y * x := Nat.mul_le_mul_right _ (Nat.mod_le _ _)
            have h4 : y * x < 2 ^ 300 * 2 ^ 300 := Nat.mul_lt_mul'' h2 h1
            rw [← Nat.pow_add] at h4
            have h5 : (2 : Nat) ^ 602 = 2 ^ (300 + 300) * 4 := by rw [← Nat.pow_add (m := 600) (n := 2)]
            have h6 : (y % x) * x * 2 ^ (0 + 1) = (y % x) * x * 2 := rfl
            rw [h6, h5]
            omega
          · have h3 : 2 * (y % x) ≤ y := by
              have e1 := Nat.div_add_mod y x
              have e2 : y % x < x := Nat.mod_lt _ hxp
              have e3 : 1 ≤ y / x := (Nat.one_le_div_iff hxp).mpr (Nat.le_of_lt h1)
              have e4 : x * 1 ≤ x * (y / x) := Nat.mul_le_mul_left _ e3
              omega
            have h4 : (y % x) * x * 2 ^ (i + 1) = (2 * (y % x)) * x * 2 ^ i := by
              rw [Nat.pow_succ]
              simp only [Nat.mul_assoc, Nat.mul_comm, Nat.mul_left_comm]
            rw [h4]
            have h5 : (2 * (y % x)) * x * 2 ^ i ≤ y * x * 2 ^ i := Nat.mul_le_mul_right _ (Nat.mul_le_mul_right _ h3)
            rw [Nat.mul_comm y x] at h5
            omega
    · obtain ⟨rfl, x, y, y4, y5, rfl, hg, hy, hB⟩ := h
      have hx : x = 0 := by
        rcases hB with ⟨h0, _⟩ | ⟨h1, h2⟩
        · cases h0
        · by_cases hx : x = 0
          · exact hx
          · exfalso
            have h3 : 1 ≤ x * y := Nat.mul_pos (Nat.pos_of_ne_zero hx) hy
            have h4 : 1 * 2 ^ ((4000 : Int).toNat) ≤ x * y * 2 ^ ((4000 : Int).toNat) := Nat.mul_le_mul_right _ h3
            have h5 : (2 : Nat) ^ 602 ≤ 2 ^ ((4000 : Int).toNat) := Nat.pow_le_pow_right (by decide) (by decide)
            rw [Nat.one_mul] at h4
            exact absurd (Nat.lt_of_lt_of_le h2 (Nat.le_trans h5 h4)) (Nat.lt_irrefl _)
      subst hx
      rw [Nat.gcd_zero_left] at hg
      subst hg
      exact hfin _ _ _ rfl
/-! _law_sum, _law_less, _law_note, _law_within, _law_is -/
theorem take_sum {l : Nt} {i : Nat} {p : Nat × Nat} (h : l[i]? = some p) : sumR ((l.take (i + 1)).map fr1) = sumR ((l.take i).map fr1) + mkRat p.2 p.1 := by
  rw [List.take_add_one, h, List.map_append, sumR_app]
  show _ + (mkRat p.2 p.1 + 0) = _
  rw [Rat.add_zero]
theorem sum_small2 {l : Nt} (hl : ∀ p, p ∈ l → p.1 ∣ MM ∧ p.2 ≤ 300000) (hlen : l.length ≤ 300000) : (sumR (l.map fr1)).num.natAbs < 2 ^ 120 ∧ (sumR (l.map fr1)).den < 2 ^ 120 := by
  obtain ⟨k, e, b⟩ := sum_over (n := 300000) MM_ne l hl
  have b2 : l.length * (300000 * MM) ≤ 300000 * (300000 * MM) := Nat.mul_le_mul_right _ hlen
  have b3 : 300000 * (300000 * MM) < 2 ^ 120 := by decide
  rw [e]
  refine ⟨Nat.lt_of_le_of_lt (mk_num_le (n := k) MM_ne (by rw [Int.natAbs_natCast]; exact Nat.le_refl _)) (by omega), Nat.lt_of_le_of_lt (mk_den_le (n := MM) MM_ne (Nat.le_refl _)) (by decide)⟩
theorem unlock_fr {H H' : Hp} {cd : Addr} {od : Obj} {kvs : List (Key × V)} (h : H cd = some (.dK kvs)) (f : Fr [] (upd H cd (.frz od (.dK kvs))) H') : Fr [] H (upd H' cd (.dK kvs)) := by
  refine ⟨fun b o e _ => ?_, fun b xs e => ?_⟩
  · by_cases hb : b = cd
    · rw [hb, upd_same, ← h, ← hb, e]
    · rw [upd_ne hb]
      exact f.at (by rw [upd_ne hb]; exact e)
  · have hb : b ≠ cd := fun z => by rw [z, h] at e; cases e
    rw [upd_ne hb]
    exact f.2 _ _ (by rw [upd_ne hb]; exact e)
def spLSum : Sp := fun vs H Q _ => ∃ (cd : Addr) (l : Nt), vs = [.ref cd] ∧ H cd = some (.dK (toD l)) ∧ (l.map (·.1)).Nodup ∧ (∀ p, p ∈ l → p.1 ∣ MM ∧ p.2 ≤ 300000) ∧ l.length ≤ 300000 ∧ ∀ (H' : Hp) (p : Addr), Fr [] H H' → H' p = some (.tup (ratV (sumR (l.map fr1)))) → Q (.ref p) H'
theorem k_law_sum (F : Fx K w mg) : Kp P w K mg base 2 "_law_sum" ["_law_counts"] spLSum := by
  have k_law_fraction : Kp P w K mg base 1 _ _ _ := k_law_fraction F
  refine kp_of F.d_law_sum F.g__law_sum sc_law_sum (fun _ _ _ _ _ _ us hl => match us, hl with | [_], _ => rfl) (fun vs H Q E h => ?_) (fun cdv A outer s H vs Q E hr h => ?_)
  · obtain ⟨cd, l, rfl, _⟩ := h
    rfl
  · obtain ⟨cd, l, rfl, hcd, hn, hl, hlen, q⟩ := h
    have hu := hu_of hr
    refine ⟨_, (pss_cons (ps_set (i := 1) sc_law_sum.nd rfl (Or.inl rfl) pe_int)
        (pss_cons (ps_set (i := 2) sc_law_sum.nd rfl (Or.inl rfl) pe_int)
        (pss_cons (ps_lock (ps_for PassesOwn.never rfl (pi_keys (pv 0)) (pg_name (i := 3) sc_law_sum.nd rfl (Or.inl rfl))
          (pss_cons (ps_set (i := 1) sc_law_sum.nd rfl (Or.inl rfl) (pe_op op_add (pe_op op_mulW (pv 1) (pv 3)) (pe_op op_mulW (pe_dget hu (pv 0) (pv 3) (fun _ _ => rfl)) (pv 2))))
          (pss_cons (ps_set (i := 2) sc_law_sum.nd rfl (Or.inl rfl) (pe_op op_mulW (pv 2) (pv 3)))
          (pss_one (ps_asg (pe_k k_law_fraction (hr.mono (by decide)) (pa_cons (pv 1) (pa_cons (pv 2) pa_nil))) (pg_tupK (K := K) (n := 2) (by rfl) (pgs_cons (pg_name (i := 1) sc_law_sum.nd rfl (Or.inl rfl)) (pgs_cons (pg_name (i := 2) sc_law_sum.nd rfl (Or.inl rfl)) pgs_nil)))))))))
        (pss_one (ps_ret (pe_tup (pa_cons (pv 1) (pa_cons (pv 2) pa_nil)))))))), ?_⟩
    refine ⟨cd, _, hcd, ?_, fun od => ?_⟩
    · trivial
    have hfz : (upd H cd (.frz od (.dK (toD l)))) cd = some (.frz od (.dK (toD l))) := upd_same
    have hun : ∀ H', Fr [] (upd H cd (.frz od (.dK (toD l)))) H' → Fr [] H (upd H' cd (.dK (toD l))) := fun H' f => unlock_fr hcd f
    generalize upd H cd (.frz od (.dK (toD l))) = H1 at hfz hun
    refine ⟨_, rfl, cd, od, rfl, .inl ⟨_, hfz, ?_⟩⟩
    refine for_it walk_keys (fun i σ H' => Fr [] H1 H' ∧ ∃ y, σ = [some (.ref cd), some (.int (sumR ((l.take i).map fr1)).num), some (.int (sumR ((l.take i).map fr1)).den), y]) ⟨Fr.refl _ _, none, rfl⟩ (fun i σ H' _ h => h.1.at hfz) (fun i x σ H' H'' hi h hy => ?_) (fun σ H' h => ?_)
    · obtain ⟨f, y, rfl⟩ := h
      obtain ⟨rfl, k, v, hk, rfl⟩ := hy
      rw [toD, List.getElem?_map] at hk
      cases hp : l[i]? with
      | none => rw [hp] at hk; cases hk
      | some p =>
        rw [hp] at hk
        have hk2 := Option.some.inj hk
        injection hk2 with hk3 hk4
        subst hk3
        have hpm : p ∈ l := List.mem_of_getElem? hp
        obtain ⟨d1, d2⟩ := hl p hpm
        have hD0 : p.1 ≠ 0 := fun e => by rw [e] at d1; exact MM_ne (Nat.eq_zero_of_zero_dvd d1)
        have hDle : p.1 < 2 ^ 60 := Nat.lt_of_le_of_lt (Nat.le_of_dvd (Nat.pos_of_ne_zero MM_ne) d1) (by decide)
        obtain ⟨s1, s2⟩ := sum_small2 (l := l.take i) (fun q hq => hl q (List.mem_of_mem_take hq)) (by rw [List.length_take]; omega)
        have egt : DGet H'' cd (kV (Sum.inl (p.1 : Int))) (some (V.int (p.2 : Int))) := by
          have h1 := toD_in (D := p.1) (l := l) (List.mem_map.mpr ⟨p, hpm, rfl⟩)
          rw [cnt_mem hn p hpm] at h1
          rw [← h1]
          exact .inl ⟨_, _, .inr ⟨od, f.at hfz⟩, rfl, rfl⟩
        have e1 := take_sum hp
        generalize sumR ((l.take i).map fr1) = x at s1 s2 e1
        have w1 : CMulW x.num (p.1 : Int) := wide_mul (a := 120) (b := 60) s1 (by rw [Int.natAbs_natCast]; exact hDle) (by decide) (by decide) (by decide)
        have w2 : CMulW (p.2 : Int) (x.den : Int) := wide_mul (a := 20) (b := 120) (by rw [Int.natAbs_natCast]; exact Nat.lt_of_le_of_lt d2 (by decide)) (by rw [Int.natAbs_natCast]; exact s2) (by decide) (by decide) (by decide)
        have w3 : CMulW (x.den : Int) (p.1 : Int) := wide_mul (a := 120) (b := 60) (by rw [Int.natAbs_natCast]; exact s2) (by rw [Int.natAbs_natCast]; exact hDle) (by decide) (by decide) (by decide)
        have b1 : (x.num * (p.1 : Int)).natAbs < 2 ^ 180 := wide_lt (a := 120) (b := 60) s1 (by rw [Int.natAbs_natCast]; exact hDle)
        have b2 : ((p.2 : Int) * (x.den : Int)).natAbs < 2 ^ 140 := wide_lt (a := 20) (b := 120) (by rw [Int.natAbs_natCast]; exact Nat.lt_of_le_of_lt d2 (by decide)) (by rw [Int.natAbs_natCast]; exact s2)
        have b3 : x.den * p.1 < 2 ^ 180 := by
          have : x.den * p.1 < 2 ^ 120 * 2 ^ 60 := Nat.mul_lt_mul'' s2 hDle
          rw [← Nat.pow_add] at this
          exact this
        have b4 : (x.num * (p.1 : Int) + (p.2 : Int) * (x.den : Int)).natAbs < 2 ^ 300 := by
          have h1 : (x.num * (p.1 : Int) + (p.2 : Int) * (x.den : Int)).natAbs ≤ (x.num * (p.1 : Int)).natAbs + ((p.2 : Int) * (x.den : Int)).natAbs := Int.natAbs_add_le _ _
          have h2 : (2 : Nat) ^ 180 + 2 ^ 140 < 2 ^ 300 := by decide
          omega
        have b5 : x.den * p.1 < 2 ^ 300 := Nat.lt_of_lt_of_le b3 (by decide)
        refine ⟨_, rfl, _, rfl, _, _, rfl, rfl, w1, _, rfl, _, rfl, cd, _, rfl, egt, _, rfl, _, _, rfl, rfl, w2, _, _, rfl, rfl, ?_⟩
        refine ⟨_, rfl, _, rfl, _, _, rfl, rfl, w3, ?_⟩
        refine ⟨_, rfl, _, rfl, x.num * (p.1 : Int) + (p.2 : Int) * (x.den : Int), x.den * p.1, ?_, Nat.mul_ne_zero x.den_nz hD0, b5, b4, fun u nu => ?_⟩
        · rw [Int.natCast_mul]; rfl
        · refine ⟨u, _, rfl, SqT.at upd_same, rfl, _, _, rfl, _, _, rfl, rfl, f.trans (Fr.new nu), some (.int (p.1 : Int)), ?_⟩
          have e2 : mkRat (x.num * (p.1 : Int) + (p.2 : Int) * (x.den : Int)) (x.den * p.1) = x + mkRat p.2 p.1 := by
            rw [← Rat.mkRat_add_mkRat _ _ x.den_nz hD0, mk_self]
          rw [e1, ← e2]
          rfl
    · obtain ⟨f, y, rfl⟩ := h
      rw [toD_len, List.take_of_length_le (Nat.le_refl _)]
      refine ⟨f.at hfz, ?_⟩
      exact ⟨_, rfl, _, rfl, sz (by simp), fun p np => q _ p ((hun H' f).trans (Fr.new np)) upd_same⟩
def spLLess : Sp := fun vs H Q _ => ∃ (p1 p2 : Addr) (x y : Rat), vs = [.ref p1, .ref p2] ∧ H p1 = some (.tup (ratV x)) ∧ H p2 = some (.tup (ratV y)) ∧ x.num.natAbs < 2 ^ 120 ∧ y.num.natAbs < 2 ^ 120 ∧ x.den < 2 ^ 120 ∧ y.den < 2 ^ 120 ∧ ∀ p, H p = none → Q (.ref p) (upd H p (.tup (ratV (x - y))))
theorem k_law_less (F : Fx K w mg) : Kp P w K mg base 2 "_law_less" ["_law_first", "_law_second"] spLLess := by
  have k_law_fraction : Kp P w K mg base 1 _ _ _ := k_law_fraction F
  refine kp_of F.d_law_less F.g__law_less sc_law_less (fun _ _ _ _ _ _ us hl => match us, hl with | [_, _], _ => rfl) (fun vs H Q E h => ?_) (fun cdv A outer s H vs Q E hr h => ?_)
  · obtain ⟨p1, p2, x, y, rfl, _⟩ := h
    rfl
  · obtain ⟨p1, p2, x, y, rfl, h1, h2, b1, b2, b3, b4, q⟩ := h
    refine ⟨_, (pss_one (ps_ret (pe_k k_law_fraction (hr.mono (by decide)) (pa_cons (pe_op op_sub (pe_op op_mulW (pe_ix (r := rIxT K) ix_tup (pv 0) pe_int (fun _ _ => rfl)) (pe_ix (r := rIxT K) ix_tup (pv 1) pe_int (fun _ _ => rfl))) (pe_op op_mulW (pe_ix (r := rIxT K) ix_tup (pv 1) pe_int (fun _ _ => rfl)) (pe_ix (r := rIxT K) ix_tup (pv 0) pe_int (fun _ _ => rfl)))) (pa_cons (pe_op op_mulW (pe_ix (r := rIxT K) ix_tup (pv 0) pe_int (fun _ _ => rfl)) (pe_ix (r := rIxT K) ix_tup (pv 1) pe_int (fun _ _ => rfl))) pa_nil))))), ?_⟩
    have ix0 : ∀ z : Rat, atI (ratV z) ((0 : Nat) : Int) = some (.int z.num) := fun z => atI_nat (j := 0) rfl
    have ix1 : ∀ z : Rat, atI (ratV z) ((1 : Nat) : Int) = some (.int z.den) := fun z => atI_nat (j := 1) rfl
    have w1 : CMulW x.num y.den := wide_mul (a := 120) (b := 120) b1 (by rw [Int.natAbs_natCast]; exact b4) (by decide) (by decide) (by decide)
    have w2 : CMulW y.num x.den := wide_mul (a := 120) (b := 120) b2 (by rw [Int.natAbs_natCast]; exact b3) (by decide) (by decide) (by decide)
    have w3 : CMulW (x.den : Int) (y.den : Int) := wide_mul (a := 120) (b := 120) (by rw [Int.natAbs_natCast]; exact b3) (by rw [Int.natAbs_natCast]; exact b4) (by decide) (by decide) (by decide)
    refine ⟨_, rfl, p1, _, 0, _, rfl, rfl, SqT.at h1, ix0 x, _, rfl, p2, _, 1, _, rfl, rfl, SqT.at h2, ix1 y, _, _, rfl, rfl, w1, ?_⟩
    refine ⟨_, rfl, p2, _, 0, _, rfl, rfl, SqT.at h2, ix0 y, _, rfl, p1, _, 1, _, rfl, rfl, SqT.at h1, ix1 x, _, _, rfl, rfl, w2, ?_⟩
    refine ⟨_, _, rfl, rfl, ?_⟩
    refine ⟨_, rfl, p1, _, 1, _, rfl, rfl, SqT.at h1, ix1 x, _, rfl, p2, _, 1, _, rfl, rfl, SqT.at h2, ix1 y, _, _, rfl, rfl, w3, ?_⟩
    have c1 : (x.num * (y.den : Int)).natAbs < 2 ^ 240 := wide_lt (a := 120) (b := 120) b1 (by rw [Int.natAbs_natCast]; exact b4)
    have c2 : (y.num * (x.den : Int)).natAbs < 2 ^ 240 := wide_lt (a := 120) (b := 120) b2 (by rw [Int.natAbs_natCast]; exact b3)
    have c3 : x.den * y.den < 2 ^ 240 := by
      have : x.den * y.den < 2 ^ 120 * 2 ^ 120 := Nat.mul_lt_mul'' b3 b4
      rw [← Nat.pow_add] at this
      exact this
    refine ⟨x.num * y.den - y.num * x.den, x.den * y.den, ?_, Nat.mul_ne_zero x.den_nz y.den_nz, Nat.lt_of_lt_of_le c3 (by decide), ?_, fun p np => ?_⟩
    · rw [Int.natCast_mul]; rfl
    · have h1 : (x.num * (y.den : Int) - y.num * (x.den : Int)).natAbs ≤ (x.num * (y.den : Int)).natAbs + (y.num * (x.den : Int)).natAbs := Int.natAbs_sub_le _ _
      have h2 : (2 : Nat) ^ 240 + 2 ^ 240 < 2 ^ 300 := by decide
      omega
    · have := q p np
      rw [Rat.sub_def'] at this
      exact this
def spLWithin : Sp := fun vs H Q _ => ∃ (p1 p2 : Addr) (x y : Rat) (a b : Int), vs = [.ref p1, .ref p2, .int a, .int b] ∧ H p1 = some (.tup (ratV x)) ∧ H p2 = some (.tup (ratV y)) ∧ x.num.natAbs < 2 ^ 120 ∧ y.num.natAbs < 2 ^ 120 ∧ x.den < 2 ^ 120 ∧ y.den < 2 ^ 120 ∧ a.natAbs < 100 ∧ b.natAbs < 100 ∧
  (x - y).num.natAbs < 2 ^ 300 ∧ (x - y).den < 2 ^ 300 ∧ ∀ H', Fr [] H H' → Q (.bl (decide ((((x - y).num.natAbs : Nat) : Int) * b ≤ a * ((x - y).den : Int)))) H'
theorem k_law_within (F : Fx K w mg) : Kp P w K mg base 3 "_law_within" ["_law_one", "_law_other", "_law_over", "_law_under"] spLWithin := by
  have k_law_less : Kp P w K mg base 2 _ _ _ := k_law_less F
  refine kp_of F.d_law_within F.g__law_within sc_law_within (fun _ _ _ _ _ _ us hl => match us, hl with | [_, _, _, _], _ => rfl) (fun vs H Q E h => ?_) (fun cdv A outer s H vs Q E hr h => ?_)
  · obtain ⟨p1, p2, x, y, a, b, rfl, _⟩ := h
    rfl
  · obtain ⟨p1, p2, x, y, a, b, rfl, h1, h2, b1, b2, b3, b4, ba, bb, b5, b6, q⟩ := h
    refine ⟨_, (pss_cons (ps_set (i := 4) sc_law_within.nd rfl (Or.inl rfl) (pe_k k_law_less (hr.mono (by decide)) (pa_cons (pv 0) (pa_cons (pv 1) pa_nil))))
        (pss_one (ps_ret (pe_cmpR op_le (pe_op op_mulW (pe_callB call_abs (by rfl) F.b_abs (by decide +kernel) (pa_cons (pe_ix (r := rIxT K) ix_tup (pv 4) pe_int (fun _ _ => rfl)) pa_nil)) (pv 3)) (pe_op op_mulW (pv 2) (pe_ix (r := rIxT K) ix_tup (pv 4) pe_int (fun _ _ => rfl))) (nomark _))))), ?_⟩
    refine ⟨_, rfl, _, rfl, p1, p2, x, y, rfl, h1, h2, b1, b2, b3, b4, fun p np => ?_⟩
    have ix0 : ∀ z : Rat, atI (ratV z) ((0 : Nat) : Int) = some (.int z.num) := fun z => atI_nat (j := 0) rfl
    have ix1 : ∀ z : Rat, atI (ratV z) ((1 : Nat) : Int) = some (.int z.den) := fun z => atI_nat (j := 1) rfl
    refine ⟨_, rfl, p, _, 0, _, rfl, rfl, SqT.at upd_same, ix0 _, _, rfl, ?_⟩
    have eabs : (if (x - y).num < 0 then -(x - y).num else (x - y).num) = (((x - y).num.natAbs : Nat) : Int) := by split <;> omega
    rw [eabs]
    have w1 : CMulW (((x - y).num.natAbs : Nat) : Int) b := wide_mul (a := 300) (b := 100) (by rw [Int.natAbs_natCast]; exact b5) (Nat.lt_of_lt_of_le bb (by decide)) (by decide) (by decide) (by decide)
    have w2 : CMulW a ((x - y).den : Int) := wide_mul (a := 100) (b := 300) (Nat.lt_of_lt_of_le ba (by decide)) (by rw [Int.natAbs_natCast]; exact b6) (by decide) (by decide) (by decide)
    refine ⟨_, rfl, _, _, rfl, rfl, w1, _, rfl, _, rfl, p, _, 1, _, rfl, rfl, SqT.at upd_same, ix1 _, _, _, rfl, rfl, w2, _, _, rfl, rfl, ?_⟩
    exact q _ (Fr.new np)
def spLNote : Sp := fun vs H Q _ => ∃ (cd : Addr) (l : Nt) (D : Nat), vs = [.ref cd, .int D] ∧ H cd = some (.dK (toD l)) ∧ (l.map (·.1)).Nodup ∧ l.length ≤ 300000 ∧ ∀ H', Fr [cd] H H' → H' cd = some (.dK (toD (note D l))) → Q .non H'
theorem k_law_note (F : Fx K w mg) : Kp P w K mg base 1 "_law_note" ["_law_counts", "_law_den"] spLNote := by
  refine kp_of F.d_law_note F.g__law_note sc_law_note (fun _ _ _ _ _ _ us hl => match us, hl with | [_, _], _ => rfl) (fun vs H Q E h => ?_) (fun cdv A outer s H vs Q E hr h => ?_)
  · obtain ⟨cd, l, D, rfl, _⟩ := h
    rfl
  · obtain ⟨cd, l, D, rfl, hcd, hn, hlen, q⟩ := h
    have hu := hu_of hr
    refine ⟨_, (pss_one (ps_dput hu (pv 0) (pv 1) (pe_op op_add (pe_dget2 hu (pv 0) (pv 1) pe_int ⟨rfl, rfl, rfl, rfl⟩) pe_int) rfl)), ?_⟩
    have eg := toD_get D l
    refine ⟨_, rfl, cd, rfl, .inl ⟨_, .inl hcd⟩, _, rfl, _, DGet.k (k := Sum.inl (D : Int)) hcd, ?_⟩
    generalize valV (toD l) (Sum.inl (D : Int)) = ov at eg
    refine ⟨_, _, eg, rfl, _, rfl, _, rfl, cd, _, rfl, DPut.k (k := Sum.inl (D : Int)) hcd (szl2 (by rw [toD_len]; exact hlen)), ?_⟩
    refine q _ (Fr.put (by simp) hcd rfl) ?_
    rw [upd_same, toD_put hn]
end
end BK
/-! Breakback k27: the law's parts and breakers. -/
namespace BK
open PySem PySem.Spec PyProof.Rows L2 He
theorem LT.put {H : Hp} {tp c o : Addr} {ns : List Int} {acc : List V} {u : HO} (h : LT H tp c ns) (ho : H o = some (.lst acc)) (n : o ≠ c) : LT (upd H o u) tp c ns := by
  obtain ⟨a, g, l, s, t, e1, e2, e3⟩ := h
  exact ⟨a, g, l, s, t, by rw [upd_ne (apart e1 ho (fun z => by cases z))]; exact e1, by rw [upd_ne n.symm]; exact e2, e3⟩
theorem LT.ne {H : Hp} {tp c o : Addr} {ns : List Int} {acc : List V} (h : LT H tp c ns) (ho : H o = some (.lst acc)) : o ≠ tp := by
  obtain ⟨a, g, l, s, t, e1, e2, e3⟩ := h
  exact apart ho e1 (fun z => by cases z)
theorem LT.nc {H : Hp} {tp c o : Addr} {ns : List Int} (h : LT H tp c ns) (ho : H o = none) : o ≠ tp ∧ o ≠ c := by
  obtain ⟨a, g, l, s, t, e1, e2, e3⟩ := h
  refine ⟨fun z => ?_, fun z => ?_⟩
  · rw [z, e1] at ho
    cases ho
  · rw [z, e2] at ho
    cases ho
theorem ixNn {n j : Nat} (hj : j < n) : ixN n (j : Int) = some j := by
  unfold ixN
  rw [if_pos (by omega), if_pos (by omega)]
  simp
section
variable {P : Program} {w : World} {K : PySem.W.Frag} {mg : Str → Option Value} {base : Heap}
def spLParts : Sp := fun vs H Q _ => ∃ (tp c : Addr) (ns : List Int) (n seen : Nat), vs = [.ref tp, .int n, .int seen] ∧ LT H tp c ns ∧ tp ≠ c ∧ n ≤ 10 ∧ seen ≤ 100 ∧
  ∀ (H' : Hp) (p : Addr) (ps : List Pt), Fr [tp] H H' → LT H' tp c ns → H' p = some (.tup (ps.map ptV)) → PtsOk ps → Q (.ref p) H'
theorem k_law_parts (F : Fx K w mg) : Kp P w K mg base 4 "_law_parts" ["_law_tape_here", "_law_size", "_law_seen"] spLParts := by
  have k_law_draw : Kp P w K mg base 2 _ _ _ := k_law_draw F
  have k_law_pick : Kp P w K mg base 3 _ _ _ := k_law_pick F
  refine kp_of F.d_law_parts F.g__law_parts sc_law_parts (fun _ _ _ _ _ _ us hl => match us, hl with | [_, _, _], _ => rfl) (fun vs H Q E h => ?_) (fun cdv A outer s H vs Q E hr h => ?_)
  · obtain ⟨tp, c, ns, n, seen, rfl, _⟩ := h
    rfl
  · obtain ⟨tp, c, ns, n, seen, rfl, hT, ntc, hn, hs, q⟩ := h
    refine ⟨_, (pss_cons (ps_set (i := 3) sc_law_parts.nd rfl (Or.inl rfl) (pe_lst pa_nil))
        (pss_cons (ps_for PassesOwn.never rfl (pi_range1 (by rfl) F.b_range (pa_cons (pv 1) pa_nil)) (pg_name (i := 4) sc_law_parts.nd rfl (Or.inl rfl))
          (pss_cons (ps_expr (pe_bm PySem.F.plainAttrs_list PySem.F.slot_list_append PySem.F.type_list_append mt_append (pv 3) (pa_cons (pe_k k_law_pick (hr.mono (by decide)) (pa_cons (pv 0) (pa_cons (pe_lst (pa_cons pe_str (pa_cons pe_str (pa_cons (pe_k k_law_draw (hr.mono (by decide)) (pa_cons (pv 0) (pa_cons (pe_op op_add (pv 2) pe_int) pa_nil))) (pa_cons (pe_k k_law_draw (hr.mono (by decide)) (pa_cons (pv 0) (pa_cons (pe_op op_add (pv 2) pe_int) pa_nil))) pa_nil))))) pa_nil))) pa_nil)))
          (pss_one (ps_if (pt_cmpR op_eq (pe_k k_law_draw (hr.mono (by decide)) (pa_cons (pv 0) (pa_cons pe_int pa_nil))) pe_int (nomark _))
            (pss_one (ps_asg (pe_k k_law_draw (hr.mono (by decide)) (pa_cons (pv 0) (pa_cons pe_int pa_nil))) (pg_sub (pv 3) (pv 4) set_list)))
            pss_nil))))
        (pss_one (ps_ret (pe_callTy call_tuple_of (by rfl) F.b_tuple (by decide +kernel) (pa_cons (pv 3) pa_nil)))))), ?_⟩
    refine ⟨sz (by simp), fun o no => ?_⟩
    obtain ⟨no1, no2⟩ := hT.nc no
    refine ⟨_, rfl, _, rfl, by omega, by omega, for_range (lo := 0) (n := ((n : Nat) : Int).toNat) (fun i σ G => ∃ (y : Option V) (ps : List Pt), σ = [some (.ref tp), some (.int n), some (.int seen), some (.ref o), y] ∧ Fr [tp] H G ∧ LT G tp c ns ∧ G o = some (.lst (ps.map ptV)) ∧ ps.length = i ∧ ∀ p, p ∈ ps → PtOk p)
      ⟨none, [], rfl, Fr.new no, hT.fr0 (Fr.new no), upd_same, rfl, fun _ z => nomatch z⟩ (fun i σ G hi h => ?_) (fun σ G h => ?_)⟩
    · obtain ⟨y, ps, rfl, f, hT, ho, hl, hok⟩ := h
      refine ⟨_, rfl, .inl ⟨rfl, _, SqL.at ho⟩, _, rfl, ?_⟩
      refine ⟨_, rfl, _, rfl, _, _, rfl, rfl, tp, c, ns, seen + 2, rfl, hT, ntc, by omega, fun G1 r1 f1 hT1 l1 => ?_⟩
      refine ⟨_, rfl, _, rfl, _, _, rfl, rfl, tp, c, ns, seen + 2, rfl, hT1, ntc, by omega, fun G2 r2 f2 hT2 l2 => ?_⟩
      refine ⟨sz (by simp), fun rw nrw => ?_⟩
      have f3 : Fr [tp] G2 (upd G2 rw (.lst [.str "0", .str "1", .int r1, .int r2])) := Fr.new nrw
      refine ⟨tp, c, rw, ns, _, rfl, hT2.fr0 (Fr.new nrw), ntc, upd_same, by simp, fun G4 v f4 hT4 hv => ?_⟩
      have hpt : ∃ pt, v = ptV pt ∧ PtOk pt := by
        simp only [List.mem_cons, List.not_mem_nil, or_false] at hv
        rcases hv with rfl | rfl | rfl | rfl
        · exact ⟨.sg false, by rw [bS_0]; rfl, trivial⟩
        · exact ⟨.sg true, by rw [bS_1]; rfl, trivial⟩
        · exact ⟨.nm r1, rfl, show r1 ≤ 9999 by omega⟩
        · exact ⟨.nm r2, rfl, show r2 ≤ 9999 by omega⟩
      obtain ⟨pt, rfl, hptok⟩ := hpt
      have f14 := ((f1.trans f2).trans f3).trans f4
      have nmo : o ∉ [tp] := by simp; exact no1
      have ho4 := f14.1 _ _ ho nmo
      have hll : (ps.map ptV).length = i := by rw [List.length_map]; exact hl
      have hi' : i < n := by simpa using hi
      refine ⟨o, ps.map ptV, ptV pt, rfl, rfl, ho4, szl (by omega), ?_⟩
      have ho5 : (upd G4 o (.lst (ps.map ptV ++ [ptV pt]))) o = some (.lst ((ps ++ [pt]).map ptV)) := by rw [upd_same, List.map_append]; rfl
      have hT5 : LT (upd G4 o (.lst (ps.map ptV ++ [ptV pt]))) tp c ns := hT4.put ho4 no2
      have f5 : Fr [tp] H (upd G4 o (.lst (ps.map ptV ++ [ptV pt]))) := (f.trans f14).own no
      generalize upd G4 o (.lst (ps.map ptV ++ [ptV pt])) = G5 at ho5 hT5 f5
      refine ⟨_, rfl, tp, c, ns, 30, rfl, hT5, ntc, by decide, fun G6 r6 f6 hT6 l6 => ⟨rfl, _, rfl, ite2 (fun _ => ?_) (fun _ => ?_)⟩⟩
      · refine ⟨_, rfl, tp, c, ns, 10000, rfl, hT6, ntc, by decide, fun G7 r7 f7 hT7 l7 => ?_⟩
        have ho7 := (f6.trans f7).1 _ _ ho5 nmo
        refine ⟨_, rfl, _, rfl, o, _, _, i, rfl, rfl, ho7, ?_, ?_⟩
        · have e0 : (0 : Int) + (i : Int) = (i : Int) := by omega
          rw [List.length_map, List.length_append, hl]
          exact (congrArg (ixN _) e0).trans (ixNn (by simp))
        · have eset : ((ps ++ [pt]).map ptV).set i (.int r7) = (ps ++ [Pt.nm r7]).map ptV := by
            rw [List.map_append, List.map_append, List.set_append_right _ _ (by omega), hll, Nat.sub_self]
            rfl
          refine ⟨some (.int (0 + (i : Int))), ps ++ [.nm r7], rfl, ((f5.trans f6).trans f7).own no, hT7.put ho7 no2, by rw [upd_same, eset], by simp [hl], fun p hp => ?_⟩
          rcases List.mem_append.mp hp with hp | hp
          · exact hok p hp
          · rw [List.mem_singleton.mp hp]; exact show r7 ≤ 9999 by omega
      · refine ⟨some (.int (0 + (i : Int))), ps ++ [pt], rfl, f5.trans f6, hT6, f6.1 _ _ ho5 nmo, by simp [hl], fun p hp => ?_⟩
        rcases List.mem_append.mp hp with hp | hp
        · exact hok p hp
        · rw [List.mem_singleton.mp hp]; exact hptok
    · obtain ⟨y, ps, rfl, f, hT, ho, hl, hok⟩ := h
      rw [Int.toNat_natCast] at hl
      refine ⟨_, rfl, o, _, rfl, .inl ⟨SqL.at ho, fun p np => ?_⟩⟩
      exact q _ p ps (f.trans (Fr.new np)) (hT.fr0 (Fr.new np)) upd_same ⟨by omega, hok⟩
def spLSay : Sp := fun vs H Q _ => ∃ (tp c : Addr) (ns : List Int) (n seen : Nat), vs = [.ref tp, .int n, .int seen] ∧ LT H tp c ns ∧ tp ≠ c ∧ n ≤ 10 ∧ seen ≤ 100 ∧
  ∀ (H' : Hp) (v : V) (ps : List Pt), Fr [tp] H H' → LT H' tp c ns → IsB H' v (.say ps) → PtsOk ps → Q v H'
theorem k_law_say (F : Fx K w mg) : Kp P w K mg base 5 "_law_say" ["_law_tape_here", "_law_said", "_law_seen"] spLSay := by
  have k_law_draw : Kp P w K mg base 2 _ _ _ := k_law_draw F
  have k_law_parts : Kp P w K mg base 4 _ _ _ := k_law_parts F
  refine kp_of F.d_law_say F.g__law_say sc_law_say (fun _ _ _ _ _ _ us hl => match us, hl with | [_, _, _], _ => rfl) (fun vs H Q E h => ?_) (fun cdv A outer s H vs Q E hr h => ?_)
  · obtain ⟨tp, c, ns, n, seen, rfl, _⟩ := h
    rfl
  · obtain ⟨tp, c, ns, n, seen, rfl, hT, ntc, hn, hs, q⟩ := h
    refine ⟨_, (pss_cons (ps_set (i := 3) sc_law_say.nd rfl (Or.inl rfl) (pv 1))
        (pss_cons (ps_if (pt_cmpR op_eq (pe_k k_law_draw (hr.mono (by decide)) (pa_cons (pv 0) (pa_cons pe_int pa_nil))) pe_int (nomark _))
          (pss_one (ps_set (i := 3) sc_law_say.nd rfl (Or.inl rfl) (pe_k k_law_draw (hr.mono (by decide)) (pa_cons (pv 0) (pa_cons pe_int pa_nil)))))
          pss_nil)
        (pss_one (ps_ret (pe_tup (pa_cons pe_str (pa_cons (pe_k k_law_parts (hr.mono (by decide)) (pa_cons (pv 0) (pa_cons (pv 3) (pa_cons (pv 2) pa_nil)))) pa_nil))))))), ?_⟩
    refine ⟨_, rfl, ?_⟩
    try dsimp only
    refine seqJ (fun σ G => ∃ m : Nat, σ = [some (.ref tp), some (.int n), some (.int seen), some (.int m)] ∧ Fr [tp] H G ∧ LT G tp c ns ∧ m ≤ 10) (fun σ G h => ?_) (fun N hN => ?_)
    · obtain ⟨m, rfl, f, hT, hm⟩ := h
      refine ⟨_, rfl, _, rfl, _, rfl, tp, c, ns, m, seen, rfl, hT, ntc, hm, hs, fun G1 p ps f1 hT1 hp hok => ?_⟩
      refine ⟨sz (by simp), fun t nt => ?_⟩
      have f2 : Fr [] G1 (upd G1 t (.tup [.str "say", .ref p])) := Fr.new nt
      exact q _ (.ref t) ps ((f.trans f1).trans f2.of0) (hT1.fr0 f2) ⟨t, p, rfl, upd_same, f2.at hp⟩ hok
    · refine ⟨_, rfl, tp, c, ns, 9, rfl, hT, ntc, by decide, fun G1 r f1 hT1 l1 => ⟨rfl, _, rfl, ite2 (fun _ => ?_) (fun _ => ?_)⟩⟩
      · exact ⟨_, rfl, tp, c, ns, 4, rfl, hT1, ntc, by decide, fun G2 r2 f2 hT2 l2 => hN _ _ ⟨r2, rfl, f1.trans f2, hT2, by omega⟩⟩
      · exact hN _ _ ⟨n, rfl, f1, hT1, hn⟩
end
end BK
/-! Breakback k27: the law's breakers. -/
namespace BK
open PySem PySem.Spec PyProof.Rows L2 He
section
variable {P : Program} {w : World} {K : PySem.W.Frag} {mg : Str → Option Value} {base : Heap}
theorem seqIf {cc : TT} {t u rest : TS} {D : Ends} {σ : L2.St} {H : Hp} (R : Bool → Hp → Prop) (h1 : ∀ G, R true G → t { D with nx := rest D } σ G) (h2 : ∀ G, R false G → u { D with nx := rest D } σ G) (hc : ∀ Q : Bool → Hp → Prop, (∀ b G, R b G → Q b G) → cc σ H Q) : tSeq (tIfS cc t u) rest D σ H :=
  hc _ fun b G r => by
    cases b with
    | true => exact iteT (h1 G r)
    | false => exact iteF (h2 G r)
theorem tAndV_any {ta tb : TE} {σ : L2.St} {H : Hp} {Q : VK} (h : ∀ k : Bool, Q (.bl k) H) (ha : ∀ Q' : VK, (∀ k : Bool, Q' (.bl k) H) → ta σ H Q') (hb : ∀ Q' : VK, (∀ k : Bool, Q' (.bl k) H) → tb σ H Q') : tAndV ta tb σ H Q :=
  ha _ fun k => ⟨k, rfl, ite2 (fun _ => hb _ h) (fun _ => h false)⟩
theorem f37_none {H G : Hp} {tp D : Addr} (h : G D = none) (f : Fr [tp] H G) (n : D ≠ tp) : H D = none := f.no h (fun z => n (List.mem_singleton.mp z))
theorem nx_of {D : Ends} {σ : L2.St} {H : Hp} (h : D.nx σ H) : tNext D σ H := h
def Br (H : Hp) (n q : Nat) (v : V) (b : B) : Prop := IsB H v b ∧ Wf n b ∧ qB b ≤ q
theorem Br.fr {M : List Addr} {H H' : Hp} {n q : Nat} {v : V} {b : B} (h : Br H n q v b) (f : Fr M H H') : Br H' n q v b := ⟨h.1.fr f, h.2⟩
def spLBr : Nat → Sp
  | 0 => fun _ _ _ _ => False
  | n + 1 => fun vs H Q _ => ∃ (tp c sh : Addr) (ns : List Int) (m q l seen : Nat), vs = [.ref tp, .int m, .int q, .ref sh] ∧ m ≤ n ∧ LT H tp c ns ∧ tp ≠ c ∧ H sh = some (.tup [.int l, .int 1, .int seen]) ∧ l ≤ 8 ∧ seen ≤ 100 ∧
    ∀ (H' : Hp) (v : V) (b : B), Fr [tp] H H' → LT H' tp c ns → Br H' n q v b → Q v H'
theorem k_law_breaker (F : Fx K w mg) : ∀ n : Nat, Kp P w K mg base (6 + n) "_law_breaker" ["_law_tape_here", "_law_depth", "_law_asks_here", "_law_shape"] (spLBr n)
  | 0 => by
    obtain ⟨fd, D⟩ := F.d_law_breaker
    exact ⟨F.g__law_breaker, D.kp, fd, FnOkOf (k := 5) D sc_law_breaker (fun vs H Q E h => h.elim) (fun cdv A outer s H vs Q E hr h => h.elim), D.bindsN (fun _ _ _ _ _ _ us hl => match us, hl with | [_, _, _, _], _ => rfl)⟩
  | n + 1 => by
    have k_law_breaker : Kp P w K mg base (6 + n) _ _ _ := k_law_breaker F n
    have k_law_draw : Kp P w K mg base 2 _ _ _ := k_law_draw F
    have k_law_pick : Kp P w K mg base 3 _ _ _ := k_law_pick F
    have k_law_parts : Kp P w K mg base 4 _ _ _ := k_law_parts F
    have k_law_say : Kp P w K mg base 5 _ _ _ := k_law_say F
    refine kp_of (k := 6 + n) F.d_law_breaker F.g__law_breaker sc_law_breaker (fun _ _ _ _ _ _ us hl => match us, hl with | [_, _, _, _], _ => rfl) (fun vs H Q E h => ?_) (fun cdv A outer s H vs Q E hr h => ?_)
    · obtain ⟨tp, c, sh, ns, m, q, l, seen, rfl, _⟩ := h
      rfl
    · obtain ⟨tp, c, sh, ns, m, qq, l, seen, rfl, hmn, hT, ntc, hsh, hl8, hseen, q⟩ := h
      refine ⟨_, (pss_cons (ps_asg (pv 3) (pg_tupK (K := K) (n := 3) (by rfl) (pgs_cons (pg_name (i := 4) sc_law_breaker.nd rfl (Or.inl rfl)) (pgs_cons (pg_name (i := 5) sc_law_breaker.nd rfl (Or.inl rfl)) (pgs_cons (pg_name (i := 6) sc_law_breaker.nd rfl (Or.inl rfl)) pgs_nil)))))
          (pss_cons (ps_set (i := 7) sc_law_breaker.nd rfl (Or.inl rfl) (pe_k k_law_draw (hr.mono (by omega)) (pa_cons (pv 0) (pa_cons pe_int pa_nil))))
          (pss_cons (ps_if (PW.pt (pw_or (pt_cmpR op_eq (pv 1) pe_int (nomark _)) (pw_or1 (pt_cmpR op_eq (pv 7) pe_int (nomark _)))))
            (pss_one (ps_ret (pe_k k_law_say (hr.mono (by omega)) (pa_cons (pv 0) (pa_cons (pv 5) (pa_cons (pv 6) pa_nil))))))
            pss_nil)
          (pss_cons (ps_if (PW.pt (pw_or (pt_cmpR (r := rIn K false) op_in_seq (pv 7) (pe_tup (pa_cons pe_int (pa_cons pe_int pa_nil))) (by rfl)) (pw_or1 (PW.pt (pw_and (pt_cmpR op_gt (pv 7) pe_int (nomark _)) (pw_and1 (pt_cmpR op_eq (pv 2) pe_int (nomark _))))))))
            (pss_cons (ps_set (i := 8) sc_law_breaker.nd rfl (Or.inl rfl) (pe_k k_law_breaker (hr.mono (by omega)) (pa_cons (pv 0) (pa_cons (pe_op op_sub (pv 1) pe_int) (pa_cons (pv 2) (pa_cons (pv 3) pa_nil))))))
            (pss_one (ps_ret (pe_tup (pa_cons pe_str (pa_cons (pe_k k_law_draw (hr.mono (by omega)) (pa_cons (pv 0) (pa_cons (pe_op op_add (pv 6) pe_int) pa_nil))) (pa_cons (pv 8) (pa_cons (pe_k k_law_breaker (hr.mono (by omega)) (pa_cons (pv 0) (pa_cons (pe_op op_sub (pv 1) pe_int) (pa_cons (pv 2) (pa_cons (pv 3) pa_nil))))) pa_nil))))))))
            pss_nil)
          (pss_cons (ps_if (pt_cmpR op_eq (pv 7) pe_int (nomark _))
            (pss_cons (ps_set (i := 9) sc_law_breaker.nd rfl (Or.inl rfl) (pe_op op_add pe_int (pe_k k_law_draw (hr.mono (by omega)) (pa_cons (pv 0) (pa_cons (pe_k k_law_pick (hr.mono (by omega)) (pa_cons (pv 0) (pa_cons (pe_lst (pa_cons pe_int (pa_cons pe_int (pa_cons pe_int (pa_cons (pe_ix (r := rIxL K) ix_list (pe_lst (pa_cons pe_int (pa_cons pe_int pa_nil))) (pe_callTy call_int1 (by rfl) F.b_int (by decide +kernel) (pa_cons (pe_and (pe_cmpR op_eq (pv 1) pe_int (nomark _)) (pe_and (pe_cmpR op_eq (pv 2) pe_int (nomark _)) (pe_one (pe_cmpR op_lt (pv 6) pe_int (nomark _))))) pa_nil)) (fun _ _ => rfl)) pa_nil))))) pa_nil))) pa_nil)))))
            (pss_one (ps_ret (pe_tup (pa_cons pe_str (pa_cons (pe_callTy call_tuple_of (by rfl) F.b_tuple (by decide +kernel) (pa_cons (pe_lc (own := [("_law_k", 11)]) (g := gName 11) rfl sc_law_breaker.nd (pi_range1 (by rfl) F.b_range (pa_cons (pv 9) pa_nil)) (blkOk_by (own := [("_law_k", 11)]) (N := N_law_breaker) (sc := defScope s_law_breaker) (by decide +kernel)) (fun _ _ _ _ _ => (pg_name (i := 11) sc_law_breaker.nd rfl (Or.inl rfl))) (fun _ _ _ _ _ => pts_nil) (fun _ _ _ _ _ => (pe_k k_law_breaker (hr.mono (by omega)) (pa_cons (pv 0) (pa_cons (pe_op op_sub (pv 1) pe_int) (pa_cons (pv 2) (pa_cons (pv 3) pa_nil))))))) pa_nil)) pa_nil))))))
            pss_nil)
          (pss_cons (ps_set (i := 10) sc_law_breaker.nd rfl (Or.inl rfl) (pv 4))
          (pss_cons (ps_if (pt_cmpR op_eq (pe_k k_law_draw (hr.mono (by omega)) (pa_cons (pv 0) (pa_cons pe_int pa_nil))) pe_int (nomark _))
            (pss_one (ps_set (i := 10) sc_law_breaker.nd rfl (Or.inl rfl) (pe_k k_law_draw (hr.mono (by omega)) (pa_cons (pv 0) (pa_cons (pe_op op_add (pv 4) pe_int) pa_nil)))))
            pss_nil)
          (pss_one (ps_ret (pe_tup (pa_cons pe_str (pa_cons (pe_k k_law_parts (hr.mono (by omega)) (pa_cons (pv 0) (pa_cons (pv 10) (pa_cons (pv 6) pa_nil)))) (pa_cons (pe_k k_law_breaker (hr.mono (by omega)) (pa_cons (pv 0) (pa_cons (pe_op op_sub (pv 1) pe_int) (pa_cons (pe_op op_sub (pv 2) pe_int) (pa_cons (pv 3) pa_nil))))) pa_nil))))))))))))), ?_⟩
      refine ⟨_, rfl, sh, _, rfl, SqT.at hsh, rfl, _, _, rfl, _, _, rfl, _, _, rfl, rfl, ?_⟩
      refine ⟨_, rfl, tp, c, ns, 7, rfl, hT, ntc, by decide, fun G1 kind f1 hT1 lk => ?_⟩
      have say : ∀ G, Fr [tp] H G → LT G tp c ns → ∀ (Q' : VK), (∀ v G', Q v G' → Q' v G') → spLSay [.ref tp, .int ((1 : Nat) : Int), .int seen] G Q' E0 := fun G f hT Q' hQ => ⟨tp, c, ns, 1, seen, rfl, hT, ntc, by decide, hseen, fun G2 v ps f2 hT2 hB hok => hQ _ _ (q _ v (.say ps) (f.trans f2) hT2 ⟨hB, hok, Nat.zero_le _⟩)⟩
      have sayT : ∀ (Q' : Bool → Hp → Prop), (∀ b G, (Fr [tp] H G ∧ LT G tp c ns ∧ (b = false → m ≠ 0 ∧ kind ≠ 0)) → Q' b G) → (tOr (tTest (tOp rEq (tVar 1) (tC (.int 0)))) (tTest (tOp rEq (tVar 7) (tC (.int 0))))) [some (.ref tp), some (.int m), some (.int qq), some (.ref sh), some (.int l), some (.int 1), some (.int seen), some (.int kind), none, none, none, none] G1 Q' := fun Q' hQ =>
        ⟨_, rfl, rfl, _, rfl, ite2 (fun _ => hQ _ _ ⟨f1, hT1, fun e => nomatch e⟩) (fun e => ⟨_, rfl, rfl, _, rfl, hQ _ _ ⟨f1, hT1, fun e9 => ⟨fun hn => e (decide_eq_true (by rw [hn]; rfl)), fun hk => of_decide_eq_false e9 (by rw [hk]; rfl)⟩⟩⟩)⟩
      try dsimp only
      refine seqIf (fun b G => Fr [tp] H G ∧ LT G tp c ns ∧ (b = false → m ≠ 0 ∧ kind ≠ 0)) (fun G h => ?_) (fun G h => ?_) sayT
      · exact ⟨_, rfl, _, rfl, _, rfl, say G h.1 h.2.1 _ (fun _ _ z => z)⟩
      obtain ⟨f2, hT2, hn⟩ := h
      obtain ⟨m', rfl⟩ : ∃ m', m = m' + 1 := ⟨m - 1, by have := (hn rfl).1; omega⟩
      obtain ⟨n', rfl⟩ : ∃ n', n = n' + 1 := ⟨n - 1, by omega⟩
      have hk0 := (hn rfl).2
      clear hn say sayT
      have cb : ∀ (G : Hp) (q' : Nat) (Q' : VK), Fr [tp] H G → LT G tp c ns → (∀ G' v b, Fr [tp] G G' → LT G' tp c ns → Br G' n' q' v b → Q' v G') → spLBr (n' + 1) [.ref tp, .int (((m' + 1 : Nat) : Int) - 1), .int q', .ref sh] G Q' E0 := fun G q' Q' f hT h =>
        ⟨tp, c, sh, ns, m', q', l, seen, by rw [show (((m' + 1 : Nat) : Int) - 1) = (m' : Int) from by omega], by omega, hT, ntc, f.2 _ _ hsh, hl8, hseen, h⟩
      have lookT : ∀ (Q' : Bool → Hp → Prop), (∀ b G3, (Fr [tp] H G3 ∧ LT G3 tp c ns ∧ (b = false → kind ≠ 3 → qq ≠ 0)) → Q' b G3) → (tOr (tTest (tOp (rIn K false) (tVar 7) (tTup (tCons (tC (.int 1)) (tCons (tC (.int 2)) tNil))))) (tAnd (tTest (tOp (rI0 fun i j => V.bl (decide (j < i))) (tVar 7) (tC (.int 3)))) (tTest (tOp rEq (tVar 2) (tC (.int 0)))))) [some (.ref tp), some (.int ((m' + 1 : Nat) : Int)), some (.int qq), some (.ref sh), some (.int l), some (.int 1), some (.int seen), some (.int kind), none, none, none, none] G Q' := by
        intro Q' hQ
        refine ⟨_, rfl, sz (by simp), fun u nu => ⟨u, _, rfl, .inr (SqT.at upd_same), rfl, rfl, _, rfl, ?_⟩⟩
        have f3 : Fr [] G (upd G u (.tup [.int 1, .int 2])) := Fr.new nu
        have f4 := f2.trans f3.of0
        have hT4 := hT2.fr0 f3
        refine ite2 (fun _ => hQ _ _ ⟨f4, hT4, fun e => nomatch e⟩) (fun e1 => ?_)
        refine ⟨_, rfl, _, _, rfl, rfl, _, rfl, ite2 (fun e2 => ?_) (fun e2 => hQ _ _ ⟨f4, hT4, fun _ h3 => ?_⟩)⟩
        · refine ⟨_, rfl, rfl, _, rfl, hQ _ _ ⟨f4, hT4, fun e3 _ h3 => of_decide_eq_false e3 (by rw [h3]; rfl)⟩⟩
        · have h4 : ¬ 3 < kind := fun z => e2 (decide_eq_true (by omega))
          have h5 : kind = 1 ∨ kind = 2 := by omega
          rcases h5 with h5 | h5
          · exact absurd (show inV (.int ((kind : Nat) : Int)) [.int 1, .int 2] = true by rw [h5]; decide +kernel) e1
          · exact absurd (show inV (.int ((kind : Nat) : Int)) [.int 1, .int 2] = true by rw [h5]; decide +kernel) e1
      refine seqIf (fun b G3 => Fr [tp] H G3 ∧ LT G3 tp c ns ∧ (b = false → kind ≠ 3 → qq ≠ 0)) (fun G3 h => ?_) (fun G3 h => ?_) lookT
      · obtain ⟨f3, hT3, _⟩ := h
        refine ⟨_, rfl, _, rfl, _, _, rfl, rfl, _, rfl, _, rfl, cb G3 qq _ f3 hT3 fun G4 v4 b4 f4 hT4 h4 => ?_⟩
        refine ⟨_, rfl, _, rfl, _, _, rfl, rfl, tp, c, ns, seen + 1, rfl, hT4, ntc, by omega, fun G5 r5 f5 hT5 l5 => ?_⟩
        refine ⟨_, rfl, _, rfl, _, rfl, _, _, rfl, rfl, _, rfl, _, rfl, cb G5 qq _ ((f3.trans f4).trans f5) hT5 fun G6 v6 b6 f6 hT6 h6 => ⟨sz (by simp), fun t nt => ?_⟩⟩
        have f7 : Fr [] G6 (upd G6 t (.tup [.str "look", .int r5, v4, v6])) := Fr.new nt
        have fa := (((f3.trans f4).trans f5).trans f6).trans f7.of0
        refine q _ (.ref t) (.look r5 b4 b6) fa (hT6.fr0 f7) ⟨⟨t, v4, v6, rfl, upd_same, h4.1.fr (((f5.trans f6)).trans f7.of0), h6.1.fr f7⟩, ⟨n', rfl, by omega, h4.2.1, h6.2.1⟩, ?_⟩
        exact Nat.max_le.mpr ⟨h4.2.2, h6.2.2⟩
      obtain ⟨f3, hT3, hkq⟩ := h
      have hkq := hkq rfl
      clear lookT
      refine nx_of ?_
      try dsimp only
      refine seqIf (fun b G => G = G3 ∧ (b = false → kind ≠ 3)) (fun G4 h => ?_) (fun G4 h => ?_) (fun Q' hQ => ⟨_, rfl, rfl, _, rfl, hQ _ _ ⟨rfl, fun e h3 => of_decide_eq_false e (by rw [h3]; rfl)⟩⟩)
      · obtain ⟨rfl, _⟩ := h
        refine ⟨_, rfl, _, rfl, sz (by simp), fun o2 no2 => ?_⟩
        have f4 : Fr [] G4 (upd G4 o2 (.lst [.int 3, .int 12])) := Fr.new no2
        have ho2 : (upd G4 o2 (.lst [.int 3, .int 12])) o2 = some (.lst [.int 3, .int 12]) := upd_same
        have hT4 := hT3.fr0 f4
        generalize upd G4 o2 (.lst [.int 3, .int 12]) = G5 at f4 ho2 hT4
        refine tAndV_any (fun k => ?_) (fun Q' h => ⟨_, rfl, rfl, h _⟩) (fun Q' h => tAndV_any h (fun Q' h => ⟨_, rfl, rfl, h _⟩) (fun Q' h => ⟨_, rfl, _, _, rfl, rfl, h _⟩))
        have idx : ∃ v : Nat, (v = 3 ∨ v = 12) ∧ atI [V.int 3, V.int 12] (if k = true then 1 else 0) = some (.int v) := by
          cases k
          · exact ⟨3, .inl rfl, rfl⟩
          · exact ⟨12, .inr rfl, rfl⟩
        obtain ⟨v, hv, hix⟩ := idx
        refine .inr ⟨k, rfl, o2, _, _, .int v, rfl, rfl, SqL.at ho2, hix, sz (by simp), fun rw nrw => ?_⟩
        have f5 : Fr [] G5 (upd G5 rw (.lst [.int 3, .int 3, .int 3, .int v])) := Fr.new nrw
        refine ⟨tp, c, rw, ns, _, rfl, hT4.fr0 f5, ntc, upd_same, by simp, fun G6 x f6 hT6 hx => ?_⟩
        have hm : ∃ m : Nat, x = .int m ∧ (m = 3 ∨ m = 12) := by
          simp only [List.mem_cons, List.not_mem_nil, or_false] at hx
          rcases hx with rfl | rfl | rfl | rfl
          · exact ⟨3, rfl, .inl rfl⟩
          · exact ⟨3, rfl, .inl rfl⟩
          · exact ⟨3, rfl, .inl rfl⟩
          · exact ⟨v, rfl, hv⟩
        obtain ⟨m, rfl, hm⟩ := hm
        refine ⟨tp, c, ns, m, rfl, hT6, ntc, by omega, fun G7 r f7 hT7 hr => ?_⟩
        have f37 := (((f3.trans f4.of0).trans f5.of0).trans f6).trans f7
        have e1 : (1 : Int) + (r : Int) = ((r + 1 : Nat) : Int) := by omega
        refine ⟨_, _, rfl, rfl, ?_⟩
        refine ⟨_, rfl, _, rfl, by omega, by omega, fun D hD => lc_it walk_range (fun i G => Fr [tp] H G ∧ LT G tp c ns ∧ ∃ (vs : List V) (bs : List B), Paired (Br G n' qq) vs bs ∧ bs.length = i ∧ G D = some (.lst vs))
          ⟨f37.trans (Fr.new hD), hT7.fr0 (Fr.new hD), [], [], .nil, rfl, upd_same⟩ (fun _ _ _ _ => trivial) ?_ (fun G p => ?_)⟩
        · intro i x G G' hi p y
          obtain ⟨rfl, rfl⟩ := y
          obtain ⟨fG, hTG, vs, bs, hp, hl, hDl⟩ := p
          refine ⟨rfl, yesT ⟨_, rfl, _, rfl, _, _, rfl, rfl, _, rfl, _, rfl, cb _ qq _ fG hTG fun G8 v8 b8 f8 hT8 h8 => ?_⟩⟩
          have hDtp := hTG.ne hDl
          have hD8 := f8.1 _ _ hDl (by simp; exact hDtp)
          have hlv : vs.length = i := by rw [Paired.length hp]; exact hl
          have hDn := (hT7.nc hD).2
          have fD : Fr [tp] G7 (upd G8 D (.lst (vs ++ [v8]))) → True := fun _ => trivial
          refine ⟨vs, hD8, szl (by omega), ?_, hT8.put hD8 hDn, vs ++ [v8], bs ++ [b8], ?_, by simp [hl], upd_same⟩
          · refine (fG.trans f8).own ?_
            exact f37_none hD f37 hDtp
          · have hup : Tups G8 (upd G8 D (.lst (vs ++ [v8]))) := fun b xs e => by
              rw [upd_ne (fun z => by rw [z, hD8] at e; cases e)]
              exact e
            exact paired_app (paired_map (fun a b h => ⟨(h.1.fr f8).mono hup, h.2⟩) hp) (.cons ⟨h8.1.mono hup, h8.2⟩ .nil)
        · obtain ⟨fG, hTG, vs, bs, hp, hl, hDl⟩ := p
          have hl2 : bs.length = r + 1 := by rw [hl]; omega
          have hlv : vs.length = r + 1 := by rw [Paired.length hp]; exact hl2
          refine ⟨D, vs, rfl, .inl ⟨SqL.at hDl, fun p np => ⟨sz (by simp), fun t nt => ?_⟩⟩⟩
          have g1 : Fr [] G (upd G p (.tup vs)) := Fr.new np
          have g2 : Fr [] (upd G p (.tup vs)) (upd (upd G p (.tup vs)) t (.tup [.str "toss", .ref p])) := Fr.new nt
          have g12 := g1.trans g2
          have hget : ∀ i, i < r + 1 → ∃ x, vs[i]? = some x ∧ Br G n' qq x (bs.getD i (.say [])) := fun i hi => paired_get hp i (.say []) (by omega)
          refine q _ (.ref t) (.toss (r + 1) fun i => bs.getD i (.say [])) (fG.trans g12.of0) (hTG.fr0 g12) ⟨⟨t, p, vs, rfl, upd_same, g2.at upd_same, hlv, fun i hi => ?_⟩, ⟨n', rfl, by omega, by omega, fun i hi => ?_⟩, maxN_le fun i hi => ?_⟩
          · obtain ⟨x, h1, h2⟩ := hget i hi
            exact ⟨x, h1, h2.1.fr g12⟩
          · obtain ⟨x, h1, h2⟩ := hget i hi
            exact h2.2.1
          · obtain ⟨x, h1, h2⟩ := hget i hi
            exact h2.2.2
      obtain ⟨rfl, hk3⟩ := h
      have hq0 := hkq (hk3 rfl)
      obtain ⟨q1, rfl⟩ : ∃ q1, qq = q1 + 1 := ⟨qq - 1, by omega⟩
      refine ⟨_, rfl, ?_⟩
      try dsimp only
      refine seqJ (fun σ G => ∃ m : Nat, σ = [some (.ref tp), some (.int ((m' + 1 : Nat) : Int)), some (.int ((q1 + 1 : Nat) : Int)), some (.ref sh), some (.int l), some (.int 1), some (.int seen), some (.int kind), none, none, some (.int m), none] ∧ Fr [tp] H G ∧ LT G tp c ns ∧ m ≤ 10) (fun σ G h => ?_) (fun N hN => ?_)
      · obtain ⟨m, rfl, f4, hT4, hm⟩ := h
        refine ⟨_, rfl, _, rfl, _, rfl, tp, c, ns, m, seen, rfl, hT4, ntc, hm, hseen, fun G5 p ps f5 hT5 hp hok => ?_⟩
        have eq1 : (((q1 + 1 : Nat) : Int) - 1) = (q1 : Int) := by omega
        refine ⟨_, rfl, _, rfl, _, _, rfl, rfl, _, rfl, _, _, rfl, rfl, _, rfl, ?_⟩
        show spLBr (n' + 1) [.ref tp, .int (((m' + 1 : Nat) : Int) - 1), .int (((q1 + 1 : Nat) : Int) - 1), .ref sh] G5 _ E0
        rw [eq1]
        refine cb G5 q1 _ (f4.trans f5) hT5 fun G6 v6 b6 f6 hT6 h6 => ⟨sz (by simp), fun t nt => ?_⟩
        have f7 : Fr [] G6 (upd G6 t (.tup [.str "ask", .ref p, v6])) := Fr.new nt
        refine q _ (.ref t) (.ask ps b6) (((f4.trans f5).trans f6).trans f7.of0) (hT6.fr0 f7) ⟨⟨t, p, v6, rfl, upd_same, (f6.trans f7.of0).2 _ _ hp, h6.1.fr f7⟩, ⟨n', rfl, hok, h6.2.1⟩, ?_⟩
        have := h6.2.2
        show 1 + qB b6 ≤ q1 + 1
        omega
      · refine ⟨_, rfl, tp, c, ns, 9, rfl, hT3, ntc, by decide, fun G5 r5 f5 hT5 l5 => ⟨rfl, _, rfl, ite2 (fun _ => ?_) (fun _ => ?_)⟩⟩
        · exact ⟨_, rfl, _, rfl, _, _, rfl, rfl, tp, c, ns, l + 2, rfl, hT5, ntc, by omega, fun G6 r6 f6 hT6 l6 => hN _ _ ⟨r6, rfl, (f3.trans f5).trans f6, hT6, by omega⟩⟩
        · exact hN _ _ ⟨l, rfl, f3.trans f5, hT5, by omega⟩
end
end BK
/-! Breakback k27: the law's strings made, functions, asks. -/
namespace BK
open PySem PySem.Spec PyProof.Rows L2 He
section
variable {P : Program} {w : World} {K : PySem.W.Frag} {mg : Str → Option Value} {base : Heap}
theorem k_law_made (F : Fx K w mg) : Kp P w K mg base 1 "_law_made" ["_law_parts_here", "_law_handed"] spMade := by
  refine kp_of F.d_law_made F.g__law_made sc_law_made (fun _ _ _ _ _ _ us hl => match us, hl with | [_, _], _ => rfl) (fun vs H Q E h => ?_) (fun cdv A outer s H vs Q E hr h => ?_)
  · obtain ⟨p, ps, hd, rfl, _⟩ := h
    rfl
  · obtain ⟨p, ps, hd, rfl, hp, hl, hh, q⟩ := h
    refine ⟨_, (pss_cons (ps_set (i := 2) sc_law_made.nd rfl (Or.inl rfl) pe_str)
        (pss_cons (ps_for PassesOwn.never rfl (pi_tup (pv 0)) (pg_name (i := 3) sc_law_made.nd rfl (Or.inl rfl))
          (pss_one (ps_if (pt_val (pe_callB call_isi (by rfl) F.b_isinstance (by decide +kernel) (pa_cons (pv 3) (pa_cons (pe_bltn (v := .ty "str") rfl F.b_str (by decide +kernel) rfl) pa_nil))))
            (pss_one (ps_set (i := 2) sc_law_made.nd rfl (Or.inl rfl) (pe_op op_add_str (pv 2) (pv 3))))
            (pss_one (ps_if (pt_cmpR op_lt (pv 3) (pe_callB call_len_str (by rfl) F.b_len (by decide +kernel) (pa_cons (pv 1) pa_nil)) (nomark _))
              (pss_one (ps_set (i := 2) sc_law_made.nd rfl (Or.inl rfl) (pe_op op_add_str (pv 2) (pe_ix ix_str (pv 1) (pv 3) (fun _ _ => rfl)))))
              (pss_one (ps_set (i := 2) sc_law_made.nd rfl (Or.inl rfl) (pe_op op_add_str (pv 2) pe_str))))))))
        (pss_one (ps_ret (pv 2))))), ?_⟩
    refine ⟨_, rfl, p, rfl, ⟨_, SqT.at hp⟩, for_tup (xs := ps.map ptV) (fun i σ H' => H' = H ∧ ∃ y, σ = [some (.ref p), some (.str (bS hd)), some (.str (bS (made (ps.take i) hd))), y]) ⟨rfl, none, ?_⟩ (fun i σ H' _ h => by rw [h.1]; exact SqT.at hp) (fun i x σ H' hx h => ?_) (fun σ H' h => ?_)⟩
    · rw [List.take_zero]
      show _ = [some (V.ref p), some (V.str (bS hd)), some (V.str (bS [])), none]
      rw [← bS_nil]
      rfl
    · obtain ⟨rfl, y, rfl⟩ := h
      rw [List.getElem?_map] at hx
      cases hi : ps[i]? with
      | none => rw [hi] at hx; cases hx
      | some pt =>
        rw [hi] at hx
        have hx' := Option.some.inj hx
        subst hx'
        have hlen : (made (ps.take i) hd).length ≤ 100 := by rw [made_len, List.length_take]; omega
        have e := made_take (hd := hd) hi
        have fin : ∀ b : Bool, b = pt.val hd → bS (made (ps.take i) hd) ++ bS [b] = bS (made (ps.take (i + 1)) hd) := by
          intro b hb
          rw [e, bS_app, hb]
        cases pt with
        | sg b =>
          refine ⟨_, rfl, _, _, _, _, _, rfl, .ty _, .base (.str _), kt_str_str, _, rfl, iteT ?_⟩
          refine ⟨_, rfl, _, rfl, _, _, rfl, rfl, ?_, rfl, some (ptV (.sg b)), ?_⟩
          · rw [bS_len, bS_len]; exact sz (by simp; omega)
          · rw [← fin b rfl]; rfl
        | nm n =>
          refine ⟨_, rfl, _, _, _, _, _, rfl, .ty _, .base (.int _), kt_int_str, _, rfl, iteF ?_⟩
          by_cases hn : n < hd.length
          · refine ⟨_, rfl, _, rfl, _, rfl, (by rw [bS_len]; exact sz (by omega)), _, _, rfl, rfl, _, rfl, iteTd (decide_eq_true (by rw [bS_len]; omega)) ?_⟩
            refine ⟨_, rfl, _, rfl, _, rfl, _, (n : Nat), _, rfl, rfl, (by rw [bS_len]; exact sz (by omega)), bS_at hn, ?_⟩
            rw [bS_one]
            refine ⟨_, _, rfl, rfl, ?_, rfl, some (ptV (.nm n)), ?_⟩
            · rw [bS_len, bS_len]; exact sz (by simp; omega)
            · rw [← fin _ rfl]; rfl
          · refine ⟨_, rfl, _, rfl, _, rfl, (by rw [bS_len]; exact sz (by omega)), _, _, rfl, rfl, _, rfl, iteFd (decide_eq_false (by rw [bS_len]; omega)) ?_⟩
            refine ⟨_, rfl, _, _, rfl, rfl, ?_, rfl, some (ptV (.nm n)), ?_⟩
            · rw [bS_0, bS_len, bS_len]; exact sz (by simp; omega)
            · rw [← fin false (got_in hn).symm, bS_0]; rfl
    · obtain ⟨rfl, y, rfl⟩ := h
      rw [List.take_of_length_le (by simp)]
      exact ⟨_, rfl, q⟩
/-! _law_strings -/
def spLStrings : Sp := fun vs H Q _ => ∃ (l : Nat), vs = [.int l] ∧ l ≤ 2 ∧ ∀ (H' : Hp) (D : Addr), Fr [] H H' → H D = none → H' D = some (.lst ((bstrs l).map rowV)) → Q (.ref D) H'
theorem k_law_strings (F : Fx K w mg) : Kp P w K mg base 2 "_law_strings" ["_law_length"] spLStrings := by
  have k_law_bits : Kp P w K mg base 1 _ _ _ := k_law_bits F
  refine kp_of F.d_law_strings F.g__law_strings sc_law_strings (fun _ _ _ _ _ _ us hl => match us, hl with | [_], _ => rfl) (fun vs H Q E h => ?_) (fun cdv A outer s H vs Q E hr h => ?_)
  · obtain ⟨l, rfl, _⟩ := h
    rfl
  · obtain ⟨l, rfl, hl, q⟩ := h
    refine ⟨_, (pss_one (ps_ret (pe_lc (own := [("_law_number_here", 1)]) (g := gName 1) rfl sc_law_strings.nd (pi_range1 (by rfl) F.b_range (pa_cons (pe_op op_shl pe_int (pv 0)) pa_nil)) (blkOk_by (own := [("_law_number_here", 1)]) (N := N_law_strings) (sc := defScope s_law_strings) (by decide +kernel)) (fun _ _ _ _ _ => (pg_name (i := 1) sc_law_strings.nd rfl (Or.inl rfl))) (fun _ _ _ _ _ => pts_nil) (fun _ _ _ _ _ => (pe_k k_law_bits (hr.mono (by decide)) (pa_cons (pv 0) (pa_cons (pv 1) pa_nil))))))), ?_⟩
    have e2 : (1 : Int) * 2 ^ ((l : Nat) : Int).toNat = ((2 ^ l : Nat) : Int) := shl1 l
    have b2 : 2 ^ l ≤ 4 := Nat.le_trans (Nat.pow_le_pow_right (by decide) hl) (by decide)
    refine ⟨_, rfl, _, _, rfl, rfl, ⟨by omega, by omega, by decide⟩, _, rfl, (by rw [e2]; exact Int.le_trans (by decide) (Int.natCast_nonneg _)), (by rw [e2]; exact Int.lt_of_le_of_lt (Int.ofNat_le.mpr b2) (by decide)), fun D nD => lc_map walk_range (fun k => rowV (bitsN l k)) nD (by rw [e2, Int.toNat_natCast]; omega) (fun _ _ => trivial) (fun i x G1 G2 hi fr hy R S hR => ?_) (fun H2 f2 hD => ?_)⟩
    · obtain ⟨rfl, rfl⟩ := hy
      exact ⟨rfl, yesT ⟨_, rfl, _, rfl, l, i, by simp, by omega, hR _ (Fr.refl _ _)⟩⟩
    · rw [e2, Int.toNat_natCast] at hD
      refine q H2 D f2 nD ?_
      rw [hD, bstrs, List.map_map]
      rfl
/-! _law_is -/
def spLIs : Sp := fun vs H Q _ => ∃ (p1 p2 : Addr) (x : Rat), vs = [.ref p1, .ref p2] ∧ H p1 = some (.tup (ratV x)) ∧ H p2 = some (.tup (ratV x)) ∧ Q (.bl true) H
theorem k_law_is (F : Fx K w mg) : Kp P w K mg base 1 "_law_is" ["_law_actual", "_law_due"] spLIs := by
  refine kp_of F.d_law_is F.g__law_is sc_law_is (fun _ _ _ _ _ _ us hl => match us, hl with | [_, _], _ => rfl) (fun vs H Q E h => ?_) (fun cdv A outer s H vs Q E hr h => ?_)
  · obtain ⟨p1, p2, x, rfl, _⟩ := h
    rfl
  · obtain ⟨p1, p2, x, rfl, h1, h2, q⟩ := h
    refine ⟨_, (pss_cons (ps_if (PW.pt (pw_or (pt_not (pt_val (pe_callB call_isi (by rfl) F.b_isinstance (by decide +kernel) (pa_cons (pv 0) (pa_cons (pe_bltn (v := .ty "tuple") rfl F.b_tuple (by decide +kernel) rfl) pa_nil))))) (pw_or1 (pt_cmpR op_ne (pe_callB call_len_seq (by rfl) F.b_len (by decide +kernel) (pa_cons (pv 0) pa_nil)) pe_int (nomark _)))))
          (pss_one (ps_ret pe_bl))
          pss_nil)
        (pss_cons (ps_for PassesOwn.never rfl (pi_tup (pv 0)) (pg_name (i := 2) sc_law_is.nd rfl (Or.inl rfl))
          (pss_one (ps_if (PW.pt (pw_or (pt_not (pt_val (pe_callB call_isi (by rfl) F.b_isinstance (by decide +kernel) (pa_cons (pv 2) (pa_cons (pe_bltn (v := .ty "int") rfl F.b_int (by decide +kernel) rfl) pa_nil))))) (pw_or1 (pt_val (pe_callB call_isi (by rfl) F.b_isinstance (by decide +kernel) (pa_cons (pv 2) (pa_cons (pe_bltn (v := .ty "bool") rfl F.b_bool (by decide +kernel) rfl) pa_nil)))))))
            (pss_one (ps_ret pe_bl))
            pss_nil)))
        (pss_one (ps_ret (pe_cmpR (r := rEqD K) (op_eqD hr.units) (pv 0) (pv 1) (nomark _)))))), ?_⟩
    refine ⟨_, rfl, _, _, _, _, _, rfl, .ty _, .base (.tup h1), kt_tup_tup, _, rfl, iteFd rfl ?_⟩
    refine ⟨_, rfl, p1, _, rfl, .inr (SqT.at h1), rfl, _, rfl, iteFd rfl ?_⟩
    refine ⟨_, rfl, p1, rfl, ⟨_, SqT.at h1⟩, for_tup (xs := ratV x) (fun i σ H' => H' = H ∧ ∃ y, σ = [some (.ref p1), some (.ref p2), y]) ⟨rfl, none, rfl⟩ (fun i σ H' _ h => by rw [h.1]; exact SqT.at h1) (fun i z σ H' hz h => ?_) (fun σ H' h => ?_)⟩
    · obtain ⟨rfl, y, rfl⟩ := h
      have hzi : ∃ j : Int, z = .int j := by
        have := List.mem_of_getElem? hz
        simp only [ratV, List.mem_cons, List.not_mem_nil, or_false] at this
        rcases this with rfl | rfl
        · exact ⟨_, rfl⟩
        · exact ⟨_, rfl⟩
      obtain ⟨j, rfl⟩ := hzi
      refine ⟨_, rfl, _, _, _, _, _, rfl, .ty _, .base (.int j), kt_int_int, _, rfl, iteFd rfl ?_⟩
      exact ⟨_, rfl, _, _, _, _, _, rfl, .ty _, .base (.int j), kt_int_bool, _, rfl, iteF ⟨rfl, _, rfl⟩⟩
    · obtain ⟨rfl, y, rfl⟩ := h
      have d1 : ∀ p, H' p = some (.tup (ratV x)) → Dp K H' (.ref p) (.tuple [.int x.num, .int x.den]) := fun p hp => .tup (SqT.at hp) (.cons (.int _) (.cons (.int _) .nil))
      refine ⟨_, rfl, _, rfl, _, _, d1 _ h1, d1 _ h2, rfl, rfl, ?_⟩
      have e : PyData.eqv (.tuple [.int x.num, .int x.den]) (.tuple [.int x.num, .int x.den]) = true := by
        simp [PyData.eqv, PyData.eqvAll]
      rw [e]
      exact q
/-! _law_function -/
def RowsAt (l : Nat) (H : Hp) (v : V) (rows : List Bs) : Prop := ∃ k : Addr, v = .ref k ∧ H k = some (.tup (rows.map rowV)) ∧ rows.length = 2 ^ l ∧ ∀ y, y ∈ rows → y.length = l
theorem RowsAt.mono {l : Nat} {H H' : Hp} (t : Tups H H') {v : V} {rows : List Bs} (h : RowsAt l H v rows) : RowsAt l H' v rows := by
  obtain ⟨k, e, h1, h2⟩ := h
  exact ⟨k, e, t _ _ h1, h2⟩
def spLFn : Sp := fun vs H Q _ => ∃ (tp c : Addr) (ns : List Int) (l : Nat), vs = [.ref tp, .int 1, .int l, .int l] ∧ LT H tp c ns ∧ tp ≠ c ∧ l ≤ 2 ∧ ∀ (H' : Hp) (a : Addr), Fr [tp] H H' → LT H' tp c ns → IsFn H' a l → Q (.ref a) H'
theorem k_law_function (F : Fx K w mg) : Kp P w K mg base 4 "_law_function" ["_law_tape_here", "_law_n", "_law_l", "_law_m"] spLFn := by
  have k_law_string : Kp P w K mg base 3 _ _ _ := k_law_string F
  refine kp_of F.d_law_function F.g__law_function sc_law_function (fun _ _ _ _ _ _ us hl => match us, hl with | [_, _, _, _], _ => rfl) (fun vs H Q E h => ?_) (fun cdv A outer s H vs Q E hr h => ?_)
  · obtain ⟨tp, c, ns, l, rfl, _⟩ := h
    rfl
  · obtain ⟨tp, c, ns, l, rfl, hT, ntc, hl, q⟩ := h
    have e2 : (1 : Int) * 2 ^ ((l : Nat) : Int).toNat = ((2 ^ l : Nat) : Int) := shl1 l
    have b2 : 2 ^ l ≤ 4 := Nat.le_trans (Nat.pow_le_pow_right (by decide) hl) (by decide)
    refine ⟨_, (pss_cons (ps_set (i := 4) sc_law_function.nd rfl (Or.inl rfl) (pe_lst pa_nil))
        (pss_cons (ps_for PassesOwn.never rfl (pi_range1 (by rfl) F.b_range (pa_cons (pe_op op_shl pe_int (pv 1)) pa_nil)) (pg_name (i := 5) sc_law_function.nd rfl (Or.inl rfl))
          (pss_one (ps_expr (pe_bm PySem.F.plainAttrs_list PySem.F.slot_list_append PySem.F.type_list_append mt_append (pv 4) (pa_cons (pe_callTy call_tuple_of (by rfl) F.b_tuple (by decide +kernel) (pa_cons (pe_lc (own := [("_law_k", 6)]) (g := gName 6) rfl sc_law_function.nd (pi_range1 (by rfl) F.b_range (pa_cons (pe_op op_shl pe_int (pv 2)) pa_nil)) (blkOk_by (own := [("_law_k", 6)]) (N := N_law_function) (sc := defScope s_law_function) (by decide +kernel)) (fun _ _ _ _ _ => (pg_name (i := 6) sc_law_function.nd rfl (Or.inl rfl))) (fun _ _ _ _ _ => pts_nil) (fun _ _ _ _ _ => (pe_k k_law_string (hr.mono (by decide)) (pa_cons (pv 0) (pa_cons (pv 3) pa_nil))))) pa_nil)) pa_nil)))))
        (pss_one (ps_ret (pe_tup (pa_cons pe_str (pa_cons (pv 1) (pa_cons (pv 2) (pa_cons (pv 3) (pa_cons (pe_callTy call_tuple_of (by rfl) F.b_tuple (by decide +kernel) (pa_cons (pv 4) pa_nil)) pa_nil)))))))))), ?_⟩
    refine ⟨sz (by simp), fun o no => ?_⟩
    obtain ⟨no1, no2⟩ := hT.nc no
    refine ⟨_, rfl, _, _, rfl, rfl, ⟨by decide, by decide, by decide⟩, _, rfl, by decide, by decide, for_range (lo := 0) (n := ((1 : Int) * 2 ^ (1 : Int).toNat).toNat) (fun i σ G => ∃ (y : Option V) (vs : List V) (rs : List (List Bs)), σ = [some (.ref tp), some (.int 1), some (.int l), some (.int l), some (.ref o), y, none] ∧ Fr [tp] H G ∧ LT G tp c ns ∧ G o = some (.lst vs) ∧ Paired (RowsAt l G) vs rs ∧ rs.length = i)
      ⟨none, [], [], rfl, Fr.new no, hT.fr0 (Fr.new no), upd_same, .nil, rfl⟩ (fun i σ G hi h => ?_) (fun σ G h => ?_)⟩
    · obtain ⟨y, vs, rs, rfl, f, hT, ho, hp, hl2⟩ := h
      have hlv : vs.length = i := by rw [Paired.length hp]; exact hl2
      have hi2 : i < 2 := hi
      refine ⟨_, rfl, .inl ⟨rfl, _, SqL.at ho⟩, _, rfl, _, _, rfl, rfl, ⟨by omega, by omega, by decide⟩, _, rfl, (by rw [e2]; exact Int.le_trans (by decide) (Int.natCast_nonneg _)), (by rw [e2]; exact Int.lt_of_le_of_lt (Int.ofNat_le.mpr b2) (by decide)), fun D hD => lc_it walk_range (fun j G2 => Fr [tp] G G2 ∧ LT G2 tp c ns ∧ ∃ ys : List Bs, ys.length = j ∧ (∀ y, y ∈ ys → y.length = l) ∧ G2 D = some (.lst (ys.map rowV)))
        ⟨Fr.new hD, hT.fr0 (Fr.new hD), [], rfl, (fun _ z => nomatch z), upd_same⟩ (fun _ _ _ _ => trivial) ?_ (fun G2 p => ?_)⟩
      · intro j x G2 G2' hj p y
        obtain ⟨rfl, rfl⟩ := y
        obtain ⟨f2, hT2, ys, hy, hyl, hDl⟩ := p
        rw [e2, Int.toNat_natCast] at hj
        refine ⟨rfl, yesT ⟨_, rfl, _, rfl, tp, c, ns, l, rfl, hT2, ntc, by omega, fun G3 y3 f3 hT3 l3 => ?_⟩⟩
        have hD3 := f3.1 _ _ hDl (by simp; exact hT2.ne hDl)
        refine ⟨ys.map rowV, hD3, szl (by rw [List.length_map]; omega), (f2.trans f3).own hD, hT3.put hD3 (hT.nc hD).2, ys ++ [y3], by simp [hy], fun z hz => ?_, ?_⟩
        · rcases List.mem_append.mp hz with hz | hz
          · exact hyl z hz
          · rw [List.mem_singleton.mp hz]; exact l3
        · rw [upd_same, List.map_append]; rfl
      · obtain ⟨f2, hT2, ys, hy, hyl, hDl⟩ := p
        rw [e2, Int.toNat_natCast] at hy
        refine ⟨D, _, rfl, .inl ⟨SqL.at hDl, fun p np => ?_⟩⟩
        have f3 : Fr [] G2 (upd G2 p (.tup (ys.map rowV))) := Fr.new np
        have fa := f2.trans f3.of0
        have ho3 := fa.1 _ _ ho (by simp; exact no1)
        have hT3 := hT2.fr0 f3
        have hp3 : (upd G2 p (.tup (ys.map rowV))) p = some (.tup (ys.map rowV)) := upd_same
        generalize upd G2 p (.tup (ys.map rowV)) = G4 at f3 fa ho3 hT3 hp3
        refine ⟨o, vs, .ref p, rfl, rfl, ho3, szl (by omega), ?_⟩
        have hup : Tups G4 (upd G4 o (.lst (vs ++ [.ref p]))) := fun b xs e => by
          rw [upd_ne (fun z => by rw [z, ho3] at e; cases e)]
          exact e
        refine ⟨some (.int (0 + (i : Int))), vs ++ [.ref p], rs ++ [ys], rfl, (f.trans fa).own no, hT3.put ho3 no2, upd_same, paired_app (paired_map (fun a b h => (h.mono fa.2).mono hup) hp) (.cons ⟨p, rfl, hup _ _ hp3, hy, hyl⟩ .nil), by simp [hl2]⟩
    · obtain ⟨y, vs, rs, rfl, f, hT, ho, hp, hl2⟩ := h
      have hl2 : rs.length = 2 := hl2
      obtain ⟨r0, r1, rfl⟩ : ∃ r0 r1, rs = [r0, r1] := by
        match rs, hl2 with
        | [a, b], _ => exact ⟨a, b, rfl⟩
      cases hp with
      | cons h0 hp =>
        cases hp with
        | cons h1 hp =>
          cases hp
          obtain ⟨k0, rfl, a1, a2, a3⟩ := h0
          obtain ⟨k1, rfl, b1, b2, b3⟩ := h1
          refine ⟨_, rfl, _, rfl, _, rfl, _, rfl, o, _, rfl, .inl ⟨SqL.at ho, fun p np => ⟨sz (by simp), fun t nt => ?_⟩⟩⟩
          have g1 : Fr [] G (upd G p (.tup [.ref k0, .ref k1])) := Fr.new np
          have g2 : Fr [] (upd G p (.tup [.ref k0, .ref k1])) (upd (upd G p (.tup [.ref k0, .ref k1])) t (.tup [.str "function", .int 1, .int l, .int l, .ref p])) := Fr.new nt
          have g12 := g1.trans g2
          exact q _ t (f.trans g12.of0) (hT.fr0 g12) ⟨p, k0, k1, r0, r1, upd_same, g2.at upd_same, g12.at a1, g12.at b1, a2, b2, a3, b3⟩
end
end BK
/-! Breakback k27: how often a breaker asks; the answers. -/
namespace BK
open PySem PySem.Spec PyProof.Rows L2 He
section
variable {P : Program} {w : World} {K : PySem.W.Frag} {mg : Str → Option Value} {base : Heap}
def spLAsks : Nat → Sp
  | 0 => fun _ _ _ _ => False
  | n + 1 => fun vs H Q _ => ∃ (v : V) (b : B), vs = [v] ∧ IsB H v b ∧ Wf n b ∧ ∀ H', Fr [] H H' → Q (.int (qB b)) H'
theorem k_law_asks (F : Fx K w mg) : ∀ n : Nat, Kp P w K mg base (1 + n) "_law_asks" ["_law_breaker_here"] (spLAsks n)
  | 0 => by
    obtain ⟨fd, D⟩ := F.d_law_asks
    exact ⟨F.g__law_asks, D.kp, fd, FnOkOf (k := 0) D sc_law_asks (fun vs H Q E h => h.elim) (fun cdv A outer s H vs Q E hr h => h.elim), D.bindsN (fun _ _ _ _ _ _ us hl => match us, hl with | [_], _ => rfl)⟩
  | n + 1 => by
    have k_law_asks : Kp P w K mg base (1 + n) _ _ _ := k_law_asks F n
    refine kp_of (k := 1 + n) F.d_law_asks F.g__law_asks sc_law_asks (fun _ _ _ _ _ _ us hl => match us, hl with | [_], _ => rfl) (fun vs H Q E h => ?_) (fun cdv A outer s H vs Q E hr h => ?_)
    · obtain ⟨v, b, rfl, _⟩ := h
      rfl
    · obtain ⟨v, b, rfl, hb, wf, q⟩ := h
      refine ⟨_, (pss_cons (ps_if (pt_cmpR op_eq (pe_ix (r := rIxT K) ix_tup (pv 0) pe_int (fun _ _ => rfl)) pe_str (nomark _))
            (pss_one (ps_ret pe_int))
            pss_nil)
          (pss_cons (ps_if (pt_cmpR op_eq (pe_ix (r := rIxT K) ix_tup (pv 0) pe_int (fun _ _ => rfl)) pe_str (nomark _))
            (pss_one (ps_ret (pe_callB (cr_max rfl) (by rfl) F.b_max (by decide +kernel) (pa_cons (pe_lc (own := [("_law_one", 1)]) (g := gName 1) rfl sc_law_asks.nd (pi_tup (pe_ix (r := rIxT K) ix_tup (pv 0) pe_int (fun _ _ => rfl))) (blkOk_by (own := [("_law_one", 1)]) (N := N_law_asks) (sc := defScope s_law_asks) (by decide +kernel)) (fun _ _ _ _ _ => (pg_name (i := 1) sc_law_asks.nd rfl (Or.inl rfl))) (fun _ _ _ _ _ => pts_nil) (fun _ _ _ _ _ => (pe_k k_law_asks (hr.mono (by omega)) (pa_cons (pv 1) pa_nil)))) pa_nil))))
            pss_nil)
          (pss_cons (ps_if (pt_cmpR op_eq (pe_ix (r := rIxT K) ix_tup (pv 0) pe_int (fun _ _ => rfl)) pe_str (nomark _))
            (pss_one (ps_ret (pe_callB (call_max2 rfl) (by rfl) F.b_max (by decide +kernel) (pa_cons (pe_k k_law_asks (hr.mono (by omega)) (pa_cons (pe_ix (r := rIxT K) ix_tup (pv 0) pe_int (fun _ _ => rfl)) pa_nil)) (pa_cons (pe_k k_law_asks (hr.mono (by omega)) (pa_cons (pe_ix (r := rIxT K) ix_tup (pv 0) pe_int (fun _ _ => rfl)) pa_nil)) pa_nil)))))
            pss_nil)
          (pss_one (ps_ret (pe_op op_add pe_int (pe_k k_law_asks (hr.mono (by omega)) (pa_cons (pe_ix (r := rIxT K) ix_tup (pv 0) pe_int (fun _ _ => rfl)) pa_nil)))))))), ?_⟩
      cases b with
      | say ps =>
        obtain ⟨a, p, rfl, h1, h2⟩ := hb
        refine ⟨_, rfl, a, _, 0, _, rfl, rfl, SqT.at h1, atI_nat (j := 0) rfl, rfl, _, rfl, iteTd d_say_say ?_⟩
        exact q H (Fr.refl _ _)
      | toss m f =>
        obtain ⟨a, p, xs, rfl, h1, h2, h3, h4⟩ := hb
        obtain ⟨e, rfl, w1, w2, w3⟩ := wf
        refine ⟨_, rfl, a, _, 0, _, rfl, rfl, SqT.at h1, atI_nat (j := 0) rfl, rfl, _, rfl, iteFd d_toss_say ?_⟩
        refine ⟨_, rfl, a, _, 0, _, rfl, rfl, SqT.at h1, atI_nat (j := 0) rfl, rfl, _, rfl, iteTd d_toss_toss ?_⟩
        refine ⟨_, rfl, a, _, 1, _, rfl, rfl, SqT.at h1, atI_nat (j := 1) rfl, p, rfl, ⟨_, SqT.at h2⟩, fun D hD => lc_map (walk_tup (xs := xs)) (fun i => .int (qB (f i))) hD (by omega) (fun G fG => SqT.at (fG.at h2)) (fun i x G G' hi fr hy R S hR => ?_) (fun G fG hDl => ?_)⟩
        · obtain ⟨rfl, hx⟩ := hy
          obtain ⟨y, h5, h6⟩ := h4 i (by omega)
          rw [h5] at hx
          cases hx
          exact ⟨rfl, yesT ⟨_, rfl, _, f i, rfl, h6.fr fr, w3 i (by omega), fun H' f' => hR _ f'⟩⟩
        · refine ⟨D, (List.range xs.length).map (fun i => (qB (f i) : Int)), rfl, SqL.at (by rw [hDl, List.map_map]; rfl), by simp; omega, fun mx hm hle => ?_⟩
          obtain ⟨i, hi, rfl⟩ := List.mem_map.mp hm
          have hi' : i < m := by have := List.mem_range.mp hi; omega
          have e1 : qB (f i) = maxN m fun i => qB (f i) := by
            refine Nat.le_antisymm (le_maxN (f := fun i => qB (f i)) hi') (maxN_le fun j hj => ?_)
            have := hle (qB (f j) : Int) (List.mem_map.mpr ⟨j, List.mem_range.mpr (by omega), rfl⟩)
            omega
          rw [e1]
          exact q G fG
      | look m b c =>
        obtain ⟨a, x, y, rfl, h1, h2, h3⟩ := hb
        obtain ⟨e, rfl, w1, w2, w3⟩ := wf
        refine ⟨_, rfl, a, _, 0, _, rfl, rfl, SqT.at h1, atI_nat (j := 0) rfl, rfl, _, rfl, iteFd d_look_say ?_⟩
        refine ⟨_, rfl, a, _, 0, _, rfl, rfl, SqT.at h1, atI_nat (j := 0) rfl, rfl, _, rfl, iteFd d_look_toss ?_⟩
        refine ⟨_, rfl, a, _, 0, _, rfl, rfl, SqT.at h1, atI_nat (j := 0) rfl, rfl, _, rfl, iteTd d_look_look ?_⟩
        refine ⟨_, rfl, a, _, 2, _, rfl, rfl, SqT.at h1, atI_nat (j := 2) rfl, x, b, rfl, h2, w2, fun H1 f1 => ?_⟩
        refine ⟨_, rfl, a, _, 3, _, rfl, rfl, SqT.at (f1.at h1), atI_nat (j := 3) rfl, y, c, rfl, h3.fr f1, w3, fun H2 f2 => ?_⟩
        refine ⟨_, _, rfl, ?_⟩
        have e1 : (if (qB c : Int) > (qB b : Int) then (qB c : Int) else (qB b : Int)) = ((max (qB b) (qB c) : Nat) : Int) := by
          split <;> omega
        rw [e1]
        exact q H2 (f1.trans f2)
      | ask ps b =>
        obtain ⟨a, p, x, rfl, h1, h2, h3⟩ := hb
        obtain ⟨e, rfl, w1, w2⟩ := wf
        refine ⟨_, rfl, a, _, 0, _, rfl, rfl, SqT.at h1, atI_nat (j := 0) rfl, rfl, _, rfl, iteFd d_ask_say ?_⟩
        refine ⟨_, rfl, a, _, 0, _, rfl, rfl, SqT.at h1, atI_nat (j := 0) rfl, rfl, _, rfl, iteFd d_ask_toss ?_⟩
        refine ⟨_, rfl, a, _, 0, _, rfl, rfl, SqT.at h1, atI_nat (j := 0) rfl, rfl, _, rfl, iteFd d_ask_look ?_⟩
        refine ⟨_, rfl, a, _, 2, _, rfl, rfl, SqT.at h1, atI_nat (j := 2) rfl, x, b, rfl, h3, w2, fun H1 f1 => ⟨_, _, rfl, rfl, ?_⟩⟩
        have e1 : (1 : Int) + (qB b : Int) = ((1 + qB b : Nat) : Int) := by omega
        show Q (.int (1 + (qB b : Int))) H1
        rw [e1]
        exact q H1 f1
/-! what is known: pairs of texts -/
def IsPr (H : Hp) (v : V) (x : Bs × Bs) : Prop := ∃ t : Addr, v = .ref t ∧ H t = some (.tup [.str (bS x.1), .str (bS x.2)])
theorem IsPr.mono {H H' : Hp} (t : Tups H H') {v : V} {x : Bs × Bs} (h : IsPr H v x) : IsPr H' v x := by
  obtain ⟨a, e, h⟩ := h
  exact ⟨a, e, t _ _ h⟩
def Kn (H : Hp) (kn : Addr) (st : Tl) : Prop := ∃ xs : List V, H kn = some (.tup xs) ∧ Paired (IsPr H) xs st
theorem Kn.mono {H H' : Hp} (t : Tups H H') {kn : Addr} {st : Tl} (h : Kn H kn st) : Kn H' kn st := by
  obtain ⟨xs, e, h⟩ := h
  exact ⟨xs, t _ _ e, paired_map (fun a b h => h.mono t) h⟩
theorem lookup_hit {s v : Bs} : ∀ {st : Tl} {i : Nat}, (∀ j, j < i → (st.getD j ([], [])).1 ≠ s) → st[i]? = some (s, v) → st.lookup s = some v
  | [], i, _, h => by simp at h
  | (a, b) :: r, 0, _, h => by
    simp at h
    obtain ⟨rfl, rfl⟩ := h
    simp [List.lookup_cons]
  | (a, b) :: r, i + 1, hn, h => by
    have h0 : a ≠ s := hn 0 (Nat.succ_pos _)
    have : (s == a) = false := beq_eq_false_iff_ne.mpr fun z => h0 z.symm
    rw [List.lookup_cons, this]
    exact lookup_hit (i := i) (fun j hj => hn (j + 1) (by omega)) (by simpa using h)
theorem lookup_miss {s : Bs} : ∀ {st : Tl}, (∀ j, j < st.length → (st.getD j ([], [])).1 ≠ s) → st.lookup s = none
  | [], _ => rfl
  | (a, b) :: r, h => by
    have h0 : a ≠ s := h 0 (Nat.succ_pos _)
    have : (s == a) = false := beq_eq_false_iff_ne.mpr fun z => h0 z.symm
    rw [List.lookup_cons, this]
    exact lookup_miss fun j hj => h (j + 1) (by simpa using hj)
def spLAns : Sp := fun vs H Q _ => ∃ (kn sh : Addr) (l m : Nat) (st : Tl) (s : Bs), vs = [.str (bS s), .ref kn, .ref sh] ∧ Kn H kn st ∧ H sh = some (.tup [.int l, .int m, .non]) ∧ s.length ≤ 1000 ∧ m ≤ 2 ∧
  ∀ (H' : Hp) (D : Addr), Fr [] H H' → H D = none → H' D = some (.lst ((ansL l m st s).map rowV)) → Q (.ref D) H'
theorem k_law_answers (F : Fx K w mg) : Kp P w K mg base 2 "_law_answers" ["_law_string_here", "_law_known", "_law_shape"] spLAns := by
  have k_law_bits : Kp P w K mg base 1 _ _ _ := k_law_bits F
  refine kp_of F.d_law_answers F.g__law_answers sc_law_answers (fun _ _ _ _ _ _ us hl => match us, hl with | [_, _, _], _ => rfl) (fun vs H Q E h => ?_) (fun cdv A outer s H vs Q E hr h => ?_)
  · obtain ⟨kn, sh, l, m, st, s, rfl, _⟩ := h
    rfl
  · obtain ⟨kn, sh, l, m, st, s, rfl, ⟨xs, hkn, hp⟩, hsh, hs, hm, q⟩ := h
    refine ⟨_, (pss_cons (ps_asg (pv 2) (pg_tupK (K := K) (n := 3) (by rfl) (pgs_cons (pg_name (i := 3) sc_law_answers.nd rfl (Or.inl rfl)) (pgs_cons (pg_name (i := 4) sc_law_answers.nd rfl (Or.inr rfl)) (pgs_cons (pg_name (i := 5) sc_law_answers.nd rfl (Or.inl rfl)) pgs_nil)))))
        (pss_cons (ps_if (pt_cmpR op_ne (pe_callB call_len_str (by rfl) F.b_len (by decide +kernel) (pa_cons (pv 0) pa_nil)) (pv 3) (nomark _))
          (pss_one (ps_ret (pe_lst (pa_cons pe_str pa_nil))))
          pss_nil)
        (pss_cons (ps_if (pt_cmpR op_notN (pv 5) pe_non (nomark _))
          pss_dead
          pss_nil)
        (pss_cons (ps_for PassesOwn.never rfl (pi_tup (pv 1)) (pg_tupK (K := K) (n := 2) (by rfl) (pgs_cons (pg_name (i := 6) sc_law_answers.nd rfl (Or.inl rfl)) (pgs_cons (pg_name (i := 7) sc_law_answers.nd rfl (Or.inl rfl)) pgs_nil)))
          (pss_one (ps_if (pt_cmpR op_eq (pv 6) (pv 0) (nomark _))
            (pss_one (ps_ret (pe_lst (pa_cons (pv 7) pa_nil))))
            pss_nil)))
        (pss_one (ps_ret (pe_lc (own := [("_law_number_here", 8)]) (g := gName 8) rfl sc_law_answers.nd (pi_range1 (by rfl) F.b_range (pa_cons (pe_op op_shl pe_int (pv 4)) pa_nil)) (blkOk_by (own := [("_law_number_here", 8)]) (N := N_law_answers) (sc := defScope s_law_answers) (by decide +kernel)) (fun _ _ _ _ _ => (pg_name (i := 8) sc_law_answers.nd rfl (Or.inl rfl))) (fun _ _ _ _ _ => pts_nil) (fun _ _ _ _ _ => (pe_k k_law_bits (hr.mono (by decide)) (pa_cons (pv 4) (pa_cons (pv 8) pa_nil))))))))))), ?_⟩
    refine ⟨_, rfl, sh, _, rfl, SqT.at hsh, rfl, _, _, rfl, _, _, rfl, _, _, rfl, rfl, ?_⟩
    refine ⟨_, rfl, _, rfl, (by rw [bS_len]; exact sz (by omega)), _, rfl, rfl, _, rfl, ?_⟩
    rw [bS_len, dec_natne]
    by_cases e : s.length = l
    · have ea1 : ∀ v, st.lookup s = some v → ansL l m st s = [v] := fun v h => by unfold ansL; rw [if_pos e, h]
      have ea2 : st.lookup s = none → ansL l m st s = bstrs m := fun h => by unfold ansL; rw [if_pos e, h]
      refine iteFd (by rw [decide_eq_true e]; rfl) ?_
      refine ⟨_, rfl, rfl, _, rfl, iteFd (by simp) ?_⟩
      refine ⟨_, rfl, kn, rfl, ⟨_, SqT.at hkn⟩, for_tup (xs := xs) (fun i σ H' => H' = H ∧ (∀ j, j < i → (st.getD j ([], [])).1 ≠ s) ∧ ∃ y z, σ = [some (.str (bS s)), some (.ref kn), some (.ref sh), some (.int l), some (.int m), some .non, y, z, none]) ⟨rfl, fun j hj => absurd hj (Nat.not_lt_zero j), none, none, rfl⟩ (fun i σ H' _ h => by rw [h.1]; exact SqT.at hkn) (fun i x σ H' hx h => ?_) (fun σ H' h => ?_)⟩
      · obtain ⟨rfl, hno, y, z, rfl⟩ := h
        have hi : i < st.length := by
          obtain ⟨hlt, _⟩ := List.getElem?_eq_some_iff.mp hx
          rw [← Paired.length hp]
          exact hlt
        obtain ⟨u, hu, t, rfl, ht⟩ := paired_get hp i ([], []) hi
        rw [hu] at hx
        cases hx
        refine ⟨t, _, rfl, SqT.at ht, rfl, _, _, rfl, _, _, rfl, rfl, ?_⟩
        refine ⟨_, rfl, _, rfl, rfl, _, rfl, ?_⟩
        rw [bS_dec]
        by_cases e3 : (st.getD i ([], [])).1 = s
        · refine iteTd (decide_eq_true e3) ⟨_, rfl, sz (by simp), fun D hD => ?_⟩
          have hl : st.lookup s = some (st.getD i ([], [])).2 := by
            refine lookup_hit hno ?_
            rw [List.getD_eq_getElem?_getD, List.getElem?_eq_getElem hi] at e3 ⊢
            rw [← e3]
            rfl
          rw [ea1 _ hl] at q
          exact q _ D (Fr.new hD) hD upd_same
        · refine iteFd (decide_eq_false e3) ⟨rfl, fun j hj => ?_, _, _, rfl⟩
          by_cases ej : j = i
          · rw [ej]; exact e3
          · exact hno j (by omega)
      · obtain ⟨rfl, hno, y, z, rfl⟩ := h
        have hl : st.lookup s = none := lookup_miss fun j hj => hno j (by rw [Paired.length hp]; exact hj)
        rw [ea2 hl] at q
        have e2 : (1 : Int) * 2 ^ ((m : Nat) : Int).toNat = ((2 ^ m : Nat) : Int) := shl1 m
        have b2 : 2 ^ m ≤ 4 := Nat.le_trans (Nat.pow_le_pow_right (by decide) hm) (by decide)
        refine ⟨_, rfl, _, _, rfl, rfl, ⟨by omega, by omega, by decide⟩, _, rfl, (by rw [e2]; exact Int.le_trans (by decide) (Int.natCast_nonneg _)), (by rw [e2]; exact Int.lt_of_le_of_lt (Int.ofNat_le.mpr b2) (by decide)), fun D nD => lc_map walk_range (fun k => rowV (bitsN m k)) nD (by rw [e2, Int.toNat_natCast]; omega) (fun _ _ => trivial) (fun i x G1 G2 hi fr hy R S hR => ?_) (fun H2 f2 hD => ?_)⟩
        · obtain ⟨rfl, rfl⟩ := hy
          exact ⟨rfl, yesT ⟨_, rfl, _, rfl, m, i, by simp, by omega, hR _ (Fr.refl _ _)⟩⟩
        · rw [e2, Int.toNat_natCast] at hD
          refine q H2 D f2 nD ?_
          rw [hD]
          show _ = some (HO.lst ((bstrs m).map rowV))
          rw [bstrs, List.map_map]
          rfl
    · have ea : ansL l m st s = [[]] := by unfold ansL; rw [if_neg e]
      rw [ea] at q
      refine iteTd (by rw [decide_eq_false e]; rfl) ⟨sz (by simp), fun D hD => q _ D (Fr.new hD) hD ?_⟩
      rw [upd_same, bS_nil]
      rfl
end
end BK
/-! Breakback k27: the law goes through a function's answers. -/
namespace BK
open PySem PySem.Spec PyProof.Rows L2 He
theorem int_bit (b : Bool) : PySem.intText? (bS [b]) = some (if b = true then 1 else 0) := by cases b <;> decide +kernel
theorem notes_nodup (l : List Nat) : ((notes l).map (·.1)).Nodup := (notes_okN l).nodup
theorem notes_len (l : List Nat) : (notes l).length ≤ l.length := (notes_okN l).len
theorem flat_take {α β : Type} {f : α → List β} {xs : List α} {i : Nat} {x : α} (h : xs[i]? = some x) : (xs.take (i + 1)).flatMap f = (xs.take i).flatMap f ++ f x := by
  rw [List.take_add_one, h, List.flatMap_append]
  simp
theorem flat_range {β : Type} {f : Nat → List β} {i : Nat} : (List.range (i + 1)).flatMap f = (List.range i).flatMap f ++ f i := by
  rw [List.range_succ, List.flatMap_append]
  simp
theorem flat_len {α β : Type} {f : α → List β} : ∀ {xs : List α} {i : Nat}, ((xs.take i).flatMap f).length ≤ (xs.flatMap f).length
  | [], i => by simp
  | x :: r, 0 => by simp
  | x :: r, i + 1 => by
    rw [List.take_succ_cons, List.flatMap_cons, List.flatMap_cons, List.length_append, List.length_append]
    have := flat_len (f := f) (xs := r) (i := i)
    omega
theorem flat_len_at {α β : Type} {f : α → List β} {xs : List α} {i : Nat} {x : α} (h : xs[i]? = some x) : ((xs.take i).flatMap f).length + (f x).length ≤ (xs.flatMap f).length := by
  have := flat_len (f := f) (xs := xs) (i := i + 1)
  rw [flat_take h, List.length_append] at this
  exact this
theorem range_take {n i : Nat} (h : i ≤ n) : (List.range n).take i = List.range i := by
  rw [List.take_range, Nat.min_eq_left h]
theorem ansL_small {l m : Nat} {st : Tl} {s : Bs} (hm : m ≤ 2) (hst : ∀ x, x ∈ st → x.2.length ≤ 40) : (ansL l m st s).length ≤ 4 ∧ 1 ≤ (ansL l m st s).length ∧ ∀ t, t ∈ ansL l m st s → t.length ≤ 40 := by
  have b2 : 2 ^ m ≤ 4 := Nat.le_trans (Nat.pow_le_pow_right (by decide) hm) (by decide)
  have b1 : 1 ≤ 2 ^ m := Nat.pow_pos (by decide)
  unfold ansL
  split
  · split
    · rename_i v hv
      obtain ⟨x, h1, h2⟩ := lookup_mem hv
      refine ⟨by simp, by simp, fun t ht => ?_⟩
      rw [List.mem_singleton.mp ht, ← h2]
      exact hst x h1
    · rw [bstrs_len]
      refine ⟨b2, b1, fun t ht => ?_⟩
      rw [bstrs, List.mem_map] at ht
      obtain ⟨k, _, rfl⟩ := ht
      rw [bitsN_len]
      omega
  · refine ⟨by simp, by simp, fun t ht => ?_⟩
    rw [List.mem_singleton.mp ht]
    exact Nat.zero_le _
section
variable {P : Program} {w : World} {K : PySem.W.Frag} {mg : Str → Option Value} {base : Heap}
def evF (l : Nat) (b : B) (hd : Bs) (st : Tl) (D : Nat) : List Nat := (play (ansF l l) b hd st).ev D
def spLAskg : Nat → Sp
  | 0 => fun _ _ _ _ => False
  | n + 1 => fun vs H Q _ => ∃ (v : V) (kn sh cd : Addr) (l D : Nat) (hd : Bs) (b : B) (st : Tl) (done : List Nat), vs = [v, .str (bS hd), .ref kn, .int D, .ref sh, .ref cd] ∧ IsB H v b ∧ Wf n b ∧ Kn H kn st ∧ H sh = some (.tup [.int l, .int l, .non]) ∧ l ≤ 2 ∧
    H cd = some (.dK (toD (notes done))) ∧ hd.length + 40 * n ≤ 400 ∧ st.length + n ≤ 100 ∧ (∀ x, x ∈ st → x.2.length ≤ 40) ∧ (done ++ evF l b hd st D).length ≤ 300000 ∧ ∀ H', Fr [cd] H H' → H' cd = some (.dK (toD (notes (done ++ evF l b hd st D)))) → Q .non H'
theorem k_law_asking (F : Fx K w mg) : ∀ n : Nat, Kp P w K mg base (3 + n) "_law_asking" ["_law_breaker_here", "_law_handed", "_law_known", "_law_den", "_law_shape", "_law_counts"] (spLAskg n)
  | 0 => by
    obtain ⟨fd, D⟩ := F.d_law_asking
    exact ⟨F.g__law_asking, D.kp, fd, FnOkOf (k := 2) D sc_law_asking (fun vs H Q E h => h.elim) (fun cdv A outer s H vs Q E hr h => h.elim), D.bindsN (fun _ _ _ _ _ _ us hl => match us, hl with | [_, _, _, _, _, _], _ => rfl)⟩
  | n + 1 => by
    have k_law_asking : Kp P w K mg base (3 + n) _ _ _ := k_law_asking F n
    have k_law_made : Kp P w K mg base 1 _ _ _ := k_law_made F
    have k_law_note : Kp P w K mg base 1 _ _ _ := k_law_note F
    have k_law_answers : Kp P w K mg base 2 _ _ _ := k_law_answers F
    refine kp_of (k := 3 + n) F.d_law_asking F.g__law_asking sc_law_asking (fun _ _ _ _ _ _ us hl => match us, hl with | [_, _, _, _, _, _], _ => rfl) (fun vs H Q E h => ?_) (fun cdv A outer s H vs Q E hr h => ?_)
    · obtain ⟨v, kn, sh, cd, l, D, hd, b, st, done, rfl, _⟩ := h
      rfl
    · obtain ⟨v, kn, sh, cd, l, D, hd, b, st, done, rfl, hb, wf, hkn, hsh, hl, hcd, s1, s2, s3, s4, q⟩ := h
      refine ⟨_, (pss_one (ps_if (pt_cmpR op_eq (pe_ix (r := rIxT K) ix_tup (pv 0) pe_int (fun _ _ => rfl)) pe_str (nomark _))
            (pss_one (ps_if (pt_cmpR op_eq (pe_k k_law_made (hr.mono (by omega)) (pa_cons (pe_ix (r := rIxT K) ix_tup (pv 0) pe_int (fun _ _ => rfl)) (pa_cons (pv 1) pa_nil))) pe_str (nomark _))
              (pss_one (ps_expr (pe_k k_law_note (hr.mono (by omega)) (pa_cons (pv 5) (pa_cons (pv 3) pa_nil)))))
              pss_nil))
            (pss_one (ps_if (pt_cmpR op_eq (pe_ix (r := rIxT K) ix_tup (pv 0) pe_int (fun _ _ => rfl)) pe_str (nomark _))
              (pss_one (ps_for PassesOwn.never rfl (pi_tup (pe_ix (r := rIxT K) ix_tup (pv 0) pe_int (fun _ _ => rfl))) (pg_name (i := 6) sc_law_asking.nd rfl (Or.inl rfl))
                (pss_one (ps_expr (pe_k k_law_asking (hr.mono (by omega)) (pa_cons (pv 6) (pa_cons (pv 1) (pa_cons (pv 2) (pa_cons (pe_op op_mul (pv 3) (pe_callB call_len_seq (by rfl) F.b_len (by decide +kernel) (pa_cons (pe_ix (r := rIxT K) ix_tup (pv 0) pe_int (fun _ _ => rfl)) pa_nil))) (pa_cons (pv 4) (pa_cons (pv 5) pa_nil)))))))))))
              (pss_one (ps_if (pt_cmpR op_eq (pe_ix (r := rIxT K) ix_tup (pv 0) pe_int (fun _ _ => rfl)) pe_str (nomark _))
                (pss_one (ps_expr (pe_k k_law_asking (hr.mono (by omega)) (pa_cons (pe_ix (r := rIxT K) ix_tup (pv 0) (pe_op op_add pe_int (pe_callTy call_int_str (by rfl) F.b_int (by decide +kernel) (pa_cons (pe_k k_law_made (hr.mono (by omega)) (pa_cons (pe_tup (pa_cons (pe_ix (r := rIxT K) ix_tup (pv 0) pe_int (fun _ _ => rfl)) pa_nil)) (pa_cons (pv 1) pa_nil))) pa_nil))) (fun _ _ => rfl)) (pa_cons (pv 1) (pa_cons (pv 2) (pa_cons (pv 3) (pa_cons (pv 4) (pa_cons (pv 5) pa_nil)))))))))
                (pss_cons (ps_set (i := 7) sc_law_asking.nd rfl (Or.inl rfl) (pe_k k_law_made (hr.mono (by omega)) (pa_cons (pe_ix (r := rIxT K) ix_tup (pv 0) pe_int (fun _ _ => rfl)) (pa_cons (pv 1) pa_nil))))
                (pss_one (ps_for PassesOwn.never rfl (pi_list (pe_k k_law_answers (hr.mono (by omega)) (pa_cons (pv 7) (pa_cons (pv 2) (pa_cons (pv 4) pa_nil))))) (pg_name (i := 8) sc_law_asking.nd rfl (Or.inl rfl))
                  (pss_cons (ps_set (i := 9) sc_law_asking.nd rfl (Or.inl rfl) (pe_op op_mul (pv 3) (pe_callB call_len_seq (by rfl) F.b_len (by decide +kernel) (pa_cons (pe_k k_law_answers (hr.mono (by omega)) (pa_cons (pv 7) (pa_cons (pv 2) (pa_cons (pv 4) pa_nil)))) pa_nil))))
                  (pss_cons (ps_set (i := 10) sc_law_asking.nd rfl (Or.inl rfl) (pv 2))
                  (pss_cons (ps_if (pt_cmpR op_eq (pe_callB call_len_str (by rfl) F.b_len (by decide +kernel) (pa_cons (pv 7) pa_nil)) (pe_ix (r := rIxT K) ix_tup (pv 4) pe_int (fun _ _ => rfl)) (nomark _))
                    (pss_one (ps_set (i := 10) sc_law_asking.nd rfl (Or.inl rfl) (pe_op (r := rCatA K) op_catA (pv 2) (pe_tup (pa_cons (pe_tup (pa_cons (pv 7) (pa_cons (pv 8) pa_nil))) pa_nil)))))
                    pss_nil)
                  (pss_one (ps_expr (pe_k k_law_asking (hr.mono (by omega)) (pa_cons (pe_ix (r := rIxT K) ix_tup (pv 0) pe_int (fun _ _ => rfl)) (pa_cons (pe_op op_add_str (pv 1) (pv 8)) (pa_cons (pv 10) (pa_cons (pv 9) (pa_cons (pv 4) (pa_cons (pv 5) pa_nil))))))))))))))))))))), ?_⟩
      cases b with
      | say ps =>
        obtain ⟨a, p, rfl, h1, h2⟩ := hb
        refine ⟨_, rfl, a, _, 0, _, rfl, rfl, SqT.at h1, atI_nat (j := 0) rfl, rfl, _, rfl, iteTd d_say_say ?_⟩
        refine ⟨_, rfl, a, _, 1, _, rfl, rfl, SqT.at h1, atI_nat (j := 1) rfl, _, rfl, p, ps, hd, rfl, h2, wf.1, by omega, rfl, _, rfl, ?_⟩
        rw [bS_1, bS_dec]
        by_cases e : made ps hd = [true]
        · have ee : evF l (.say ps) hd st D = [D] := by
            show (if (made ps hd == [true]) = true then [D] else []) = [D]
            rw [e]; rfl
          rw [ee] at q s4
          refine iteTd (decide_eq_true e) ⟨_, rfl, _, rfl, cd, notes done, D, rfl, hcd, notes_nodup _, Nat.le_trans (notes_len done) (by rw [List.length_append] at s4; omega), fun H1 f1 hcd1 => ?_⟩
          exact q H1 f1 (by rw [notes_app]; exact hcd1)
        · have ee : evF l (.say ps) hd st D = [] := by
            show (if (made ps hd == [true]) = true then [D] else []) = []
            rw [beq_eq_false_iff_ne.mpr e]; rfl
          rw [ee, List.append_nil] at q
          exact iteFd (decide_eq_false e) (q H (Fr.refl _ _) hcd)
      | toss m f =>
        obtain ⟨a, p, xs, rfl, h1, h2, h3, h4⟩ := hb
        obtain ⟨e, rfl, w1, w2, w3⟩ := wf
        have ee : evF l (.toss m f) hd st D = (List.range m).flatMap fun i => evF l (f i) hd st (D * m) := rfl
        rw [ee] at q s4
        refine ⟨_, rfl, a, _, 0, _, rfl, rfl, SqT.at h1, atI_nat (j := 0) rfl, rfl, _, rfl, iteFd d_toss_say ?_⟩
        refine ⟨_, rfl, a, _, 0, _, rfl, rfl, SqT.at h1, atI_nat (j := 0) rfl, rfl, _, rfl, iteTd d_toss_toss ?_⟩
        refine ⟨_, rfl, a, _, 1, _, rfl, rfl, SqT.at h1, atI_nat (j := 1) rfl, p, rfl, ⟨_, SqT.at h2⟩, for_tup (xs := xs) (fun i σ G => ∃ y, σ = [some (.ref a), some (.str (bS hd)), some (.ref kn), some (.int D), some (.ref sh), some (.ref cd), y, none, none, none, none] ∧ Fr [cd] H G ∧ G cd = some (.dK (toD (notes (done ++ (List.range i).flatMap fun i => evF l (f i) hd st (D * m))))))
          ⟨none, rfl, Fr.refl _ _, by simpa using hcd⟩ (fun i σ G _ h => by obtain ⟨y, rfl, fG, hG⟩ := h; exact SqT.at (fG.2 _ _ h2)) (fun i x σ G hx h => ?_) (fun σ G h => ?_)⟩
        · obtain ⟨y, rfl, fG, hG⟩ := h
          have hi : i < m := by
            obtain ⟨hlt, _⟩ := List.getElem?_eq_some_iff.mp hx
            omega
          obtain ⟨z, h5, h6⟩ := h4 i hi
          rw [h5] at hx
          cases hx
          have hir : (List.range m)[i]? = some i := by simp [hi]
          have hlen := flat_len_at (f := fun i => evF l (f i) hd st (D * m)) hir
          rw [range_take (Nat.le_of_lt hi)] at hlen
          refine ⟨_, rfl, _, rfl, _, rfl, _, rfl, _, rfl, a, _, 1, _, rfl, rfl, SqT.at (fG.2 _ _ h1), atI_nat (j := 1) rfl, p, _, rfl, .inr (SqT.at (fG.2 _ _ h2)), _, _, rfl, rfl, .inr ⟨by omega, by omega⟩, _, rfl, _, rfl, ?_⟩
          refine ⟨_, kn, sh, cd, l, D * m, hd, f i, st, done ++ (List.range i).flatMap (fun i => evF l (f i) hd st (D * m)), ?_, h6.fr fG, w3 i hi, hkn.mono fG.2, fG.2 _ _ hsh, hl, hG, by omega, by omega, s3, ?_, fun G2 f2 hG2 => ?_⟩
          · rw [h3, Int.natCast_mul]; rfl
          · rw [List.length_append, List.length_append]
            rw [List.length_append] at s4
            omega
          · refine ⟨some _, rfl, fG.trans f2, ?_⟩
            rw [flat_range, ← List.append_assoc]
            exact hG2
        · obtain ⟨y, rfl, fG, hG⟩ := h
          rw [h3] at hG
          exact q G fG hG
      | look m b c =>
        obtain ⟨a, x, y, rfl, h1, h2, h3⟩ := hb
        obtain ⟨e, rfl, w1, w2, w3⟩ := wf
        refine ⟨_, rfl, a, _, 0, _, rfl, rfl, SqT.at h1, atI_nat (j := 0) rfl, rfl, _, rfl, iteFd d_look_say ?_⟩
        refine ⟨_, rfl, a, _, 0, _, rfl, rfl, SqT.at h1, atI_nat (j := 0) rfl, rfl, _, rfl, iteFd d_look_toss ?_⟩
        refine ⟨_, rfl, a, _, 0, _, rfl, rfl, SqT.at h1, atI_nat (j := 0) rfl, rfl, _, rfl, iteTd d_look_look ?_⟩
        refine ⟨_, rfl, _, rfl, a, _, 1, _, rfl, rfl, SqT.at h1, atI_nat (j := 1) rfl, sz (by simp), fun t nt => ⟨_, rfl, t, [.nm m], hd, rfl, upd_same, by simp, by omega, ?_⟩⟩
        have f1 : Fr [] H (upd H t (.tup [.int m])) := Fr.new nt
        have em : made [.nm m] hd = [got hd m] := rfl
        rw [em]
        have hkn1 := hkn.mono f1.2
        have h11 := f1.at h1
        have hsh1 := f1.at hsh
        have hcd1 := f1.at hcd
        have hb1 := h2.fr f1
        have hc1 := h3.fr f1
        generalize upd H t (.tup [.int m]) = H1 at f1 hkn1 h11 hsh1 hcd1 hb1 hc1
        have ee : evF l (.look m b c) hd st D = if got hd m = true then evF l c hd st D else evF l b hd st D := by
          show (if got hd m = true then play (ansF l l) c hd st else play (ansF l l) b hd st).ev D = _
          split <;> rfl
        rw [ee] at q s4
        cases hg : got hd m with
        | true =>
          rw [if_pos hg] at q s4
          exact ⟨_, _, rfl, int_bit true, by rw [bS_len]; decide, _, _, rfl, rfl, a, _, (3 : Nat), y, rfl, rfl, SqT.at h11, atI_nat (j := 3) rfl, _, rfl, _, rfl, _, rfl, _, rfl, _, rfl,
            y, kn, sh, cd, l, D, hd, c, st, done, rfl, hc1, w3, hkn1, hsh1, hl, hcd1, by omega, by omega, s3, s4, fun G2 f2 hG2 => q G2 (f1.of0.trans f2) hG2⟩
        | false =>
          rw [if_neg (by rw [hg]; decide)] at q s4
          exact ⟨_, _, rfl, int_bit false, by rw [bS_len]; decide, _, _, rfl, rfl, a, _, (2 : Nat), x, rfl, rfl, SqT.at h11, atI_nat (j := 2) rfl, _, rfl, _, rfl, _, rfl, _, rfl, _, rfl,
            x, kn, sh, cd, l, D, hd, b, st, done, rfl, hb1, w2, hkn1, hsh1, hl, hcd1, by omega, by omega, s3, s4, fun G2 f2 hG2 => q G2 (f1.of0.trans f2) hG2⟩
      | ask ps b =>
        obtain ⟨a, p, x, rfl, h1, h2, h3⟩ := hb
        obtain ⟨e, rfl, w1, w2⟩ := wf
        refine ⟨_, rfl, a, _, 0, _, rfl, rfl, SqT.at h1, atI_nat (j := 0) rfl, rfl, _, rfl, iteFd d_ask_say ?_⟩
        refine ⟨_, rfl, a, _, 0, _, rfl, rfl, SqT.at h1, atI_nat (j := 0) rfl, rfl, _, rfl, iteFd d_ask_toss ?_⟩
        refine ⟨_, rfl, a, _, 0, _, rfl, rfl, SqT.at h1, atI_nat (j := 0) rfl, rfl, _, rfl, iteFd d_ask_look ?_⟩
        refine ⟨_, rfl, a, _, 1, _, rfl, rfl, SqT.at h1, atI_nat (j := 1) rfl, _, rfl, p, ps, hd, rfl, h2, w1.1, by omega, ?_⟩
        have lm : (made ps hd).length ≤ 100 := by rw [made_len]; exact w1.1
        have ee : evF l (.ask ps b) hd st D = (ansL l l st (made ps hd)).flatMap fun t => evF l b (hd ++ t) (moreL l st (made ps hd) t) (D * (ansL l l st (made ps hd)).length) := evF_ask l l ps b hd st D
        rw [ee] at q s4
        obtain ⟨n1, n2, n3⟩ := ansL_small (l := l) (s := made ps hd) hl s3
        generalize hms : made ps hd = ms at q s4 n1 n2 n3 lm
        refine ⟨_, rfl, _, rfl, _, rfl, kn, sh, l, l, st, ms, rfl, hkn, hsh, by omega, hl, fun G D1 f1 hD1 hG => ?_⟩
        have ncd : D1 ≠ cd := fun z => by rw [z, hcd] at hD1; cases hD1
        have hcdG := f1.at hcd
        refine ⟨D1, rfl, ⟨_, SqL.at hG⟩, for_list (xs := (ansL l l st ms).map rowV) (fun i σ G => ∃ y8 y9 y10, σ = [some (.ref a), some (.str (bS hd)), some (.ref kn), some (.int D), some (.ref sh), some (.ref cd), none, some (.str (bS ms)), y8, y9, y10] ∧ Fr [cd] H G ∧ G D1 = some (.lst ((ansL l l st ms).map rowV)) ∧ G cd = some (.dK (toD (notes (done ++ ((ansL l l st ms).take i).flatMap fun t => evF l b (hd ++ t) (moreL l st ms t) (D * (ansL l l st ms).length))))))
          ⟨none, none, none, rfl, f1.of0, hG, by simpa using hcdG⟩ (fun i σ G _ h => by obtain ⟨_, _, _, rfl, _, hD, _⟩ := h; exact SqL.at hD) (fun i z σ G hx h => ?_) (fun σ G h => ?_)⟩
        · obtain ⟨y8, y9, y10, rfl, fG, hDG, hG⟩ := h
          rw [List.getElem?_map] at hx
          cases hti : (ansL l l st ms)[i]? with
          | none => rw [hti] at hx; cases hx
          | some t =>
            rw [hti] at hx
            cases hx
            have htl : t.length ≤ 40 := n3 t (List.mem_of_getElem? hti)
            have hlen := flat_len_at (f := fun t => evF l b (hd ++ t) (moreL l st ms t) (D * (ansL l l st ms).length)) hti
            refine ⟨_, rfl, _, rfl, _, rfl, _, rfl, kn, sh, l, l, st, ms, rfl, hkn.mono fG.2, fG.2 _ _ hsh, by omega, hl, fun G2 D2 f2 hD2 hG2 => ?_⟩
            refine ⟨D2, _, rfl, .inl (SqL.at hG2), _, _, rfl, rfl, .inr ⟨by rw [List.length_map]; omega, by rw [List.length_map]; omega⟩, _, rfl, ?_⟩
            have fG2 := fG.trans f2.of0
            have hcd2 := f2.at hG
            have hD12 := f2.at hDG
            have hkn2 := hkn.mono fG2.2
            have hsh2 := fG2.2 _ _ hsh
            have h12 := fG2.2 _ _ h1
            have hx2 := h3.fr fG2
            have eD : (D : Int) * ((((ansL l l st ms).map rowV).length : Nat) : Int) = ((D * (ansL l l st ms).length : Nat) : Int) := by rw [List.length_map, Int.natCast_mul]
            have key : ∀ (G3 : Hp) (kn3 : Addr), Fr [] G2 G3 → Kn G3 kn3 (moreL l st ms t) → spLAskg (e + 1) [x, .str (bS hd ++ bS t), .ref kn3, .int ((D : Int) * ((((ansL l l st ms).map rowV).length : Nat) : Int)), .ref sh, .ref cd] G3
                (fun _ G4 => ∃ y8 y9 y10, [some (.ref a), some (.str (bS hd)), some (.ref kn), some (.int D), some (.ref sh), some (.ref cd), none, some (.str (bS ms)), some (rowV t), some (V.int ((D : Int) * ((((ansL l l st ms).map rowV).length : Nat) : Int))), some (.ref kn3)] = [some (.ref a), some (.str (bS hd)), some (.ref kn), some (.int D), some (.ref sh), some (.ref cd), none, some (.str (bS ms)), y8, y9, y10] ∧ Fr [cd] H G4 ∧ G4 D1 = some (.lst ((ansL l l st ms).map rowV)) ∧ G4 cd = some (.dK (toD (notes (done ++ ((ansL l l st ms).take (i + 1)).flatMap fun t => evF l b (hd ++ t) (moreL l st ms t) (D * (ansL l l st ms).length)))))) E0 := by
              intro G3 kn3 f3 hkn3
              rw [eD, bS_app]
              have lmo : (moreL l st ms t).length ≤ st.length + 1 := by
                unfold moreL
                split <;> simp
              refine ⟨x, kn3, sh, cd, l, D * (ansL l l st ms).length, hd ++ t, b, moreL l st ms t, done ++ (((ansL l l st ms).take i).flatMap fun t => evF l b (hd ++ t) (moreL l st ms t) (D * (ansL l l st ms).length)), rfl, hx2.fr f3, w2, hkn3, f3.at hsh2, hl, f3.at hcd2, by rw [List.length_append]; omega, by omega, fun y hy => ?_, ?_, fun G4 f4 hG4 => ⟨_, _, _, rfl, (fG2.trans f3.of0).trans f4, f4.1 _ _ (f3.at hD12) (by simp; exact ncd), ?_⟩⟩
              · unfold moreL at hy
                split at hy
                · rcases List.mem_append.mp hy with hy | hy
                  · exact s3 y hy
                  · rw [List.mem_singleton.mp hy]; exact htl
                · exact s3 y hy
              · rw [List.length_append, List.length_append]
                rw [List.length_append] at s4
                omega
              · rw [flat_take hti, ← List.append_assoc]
                exact hG4
            refine ⟨_, rfl, _, rfl, (by rw [bS_len]; exact sz (by omega)), _, rfl, sh, _, 0, _, rfl, rfl, SqT.at hsh2, atI_nat (j := 0) rfl, rfl, _, rfl, ?_⟩
            rw [bS_len, dec_nat]
            have lenb : (bS hd).length + (bS t).length ≤ sizeLine := by rw [bS_len, bS_len]; exact sz (by omega)
            by_cases el : ms.length = l
            · have emo : moreL l st ms t = st ++ [(ms, t)] := if_pos el
              obtain ⟨xs, hxs, hp⟩ := hkn2
              refine iteTd (decide_eq_true el) ⟨_, rfl, _, rfl, _, rfl, sz (by simp), fun t1 nt1 => ⟨sz (by simp), fun t2 nt2 => ?_⟩⟩
              have g1 : Fr [] G2 (upd G2 t1 (.tup [.str (bS ms), rowV t])) := Fr.new nt1
              have g2 : Fr [] (upd G2 t1 (.tup [.str (bS ms), rowV t])) (upd (upd G2 t1 (.tup [.str (bS ms), rowV t])) t2 (.tup [.ref t1])) := Fr.new nt2
              have g12 := g1.trans g2
              have ht1 := g2.at (show (upd G2 t1 (.tup [.str (bS ms), rowV t])) t1 = some (.tup [.str (bS ms), rowV t]) from upd_same)
              have ht2 : (upd (upd G2 t1 (.tup [.str (bS ms), rowV t])) t2 (.tup [.ref t1])) t2 = some (.tup [.ref t1]) := upd_same
              generalize (upd (upd G2 t1 (.tup [.str (bS ms), rowV t])) t2 (.tup [.ref t1])) = G5 at g2 g12 ht1 ht2
              have lxs : xs.length = st.length := Paired.length hp
              refine ⟨kn, t2, xs, [.ref t1], rfl, rfl, SqT.at (g12.at hxs), SqT.at ht2, sz (by rw [lxs]; simp; omega), fun hx => ?_, fun _ h => (nomatch h), fun hx _ p np => ?_⟩
              · subst hx
                have hst : st = [] := List.length_eq_zero_iff.mp (by rw [← lxs]; rfl)
                have hk : Kn G5 t2 (moreL l st ms t) := by
                  rw [emo, hst]
                  exact ⟨_, ht2, .cons ⟨t1, rfl, ht1⟩ .nil⟩
                exact ⟨_, rfl, a, _, 2, _, rfl, rfl, SqT.at (g12.at h12), atI_nat (j := 2) rfl, _, rfl, _, rfl, _, _, rfl, rfl, lenb, _, rfl, _, rfl, _, rfl, _, rfl, key G5 t2 g12 hk⟩
              · have g3 : Fr [] G5 (upd G5 p (.tup (xs ++ [.ref t1]))) := Fr.new np
                have g13 := g12.trans g3
                have hk : Kn (upd G5 p (.tup (xs ++ [.ref t1]))) p (moreL l st ms t) := by
                  rw [emo]
                  exact ⟨_, upd_same, paired_app (paired_map (fun a b h => h.mono g13.2) hp) (.cons ⟨t1, rfl, g3.at ht1⟩ .nil)⟩
                exact ⟨_, rfl, a, _, 2, _, rfl, rfl, SqT.at (g13.at h12), atI_nat (j := 2) rfl, _, rfl, _, rfl, _, _, rfl, rfl, lenb, _, rfl, _, rfl, _, rfl, _, rfl, key _ p g13 hk⟩
            · have emo : moreL l st ms t = st := if_neg el
              refine iteFd (decide_eq_false el) ?_
              exact ⟨_, rfl, a, _, 2, _, rfl, rfl, SqT.at h12, atI_nat (j := 2) rfl, _, rfl, _, rfl, _, _, rfl, rfl, lenb, _, rfl, _, rfl, _, rfl, _, rfl, key G2 kn (Fr.refl _ _) (by rw [emo]; exact hkn2)⟩
        · obtain ⟨_, _, _, rfl, fG, hDG, hG⟩ := h
          rw [List.take_of_length_le (by simp)] at hG
          exact q G fG hG
end
end BK
/-! Breakback k27: the law goes through the permutations. -/
namespace BK
open PySem PySem.Spec PyProof.Rows L2 He
def hits (st : Tl) (s : Bs) : List Bs := (st.filter fun x => x.1 == s).map (·.2)
theorem hits_some {s v : Bs} : ∀ {st : Tl}, st.lookup s = some v → ∃ r, hits st s = v :: r
  | [], h => by cases h
  | (a, b) :: r, h => by
    rw [List.lookup_cons] at h
    unfold hits
    rw [List.filter_cons]
    by_cases e : s = a
    · subst e
      rw [beq_self_eq_true] at h
      rw [if_pos (beq_self_eq_true s)]
      cases h
      exact ⟨_, rfl⟩
    · rw [beq_eq_false_iff_ne.mpr e] at h
      rw [if_neg (fun z => e (beq_iff_eq.mp z).symm)]
      exact hits_some h
theorem hits_none {s : Bs} : ∀ {st : Tl}, st.lookup s = none → hits st s = []
  | [], _ => rfl
  | (a, b) :: r, h => by
    rw [List.lookup_cons] at h
    unfold hits
    rw [List.filter_cons]
    by_cases e : s = a
    · subst e
      rw [beq_self_eq_true] at h
      cases h
    · rw [beq_eq_false_iff_ne.mpr e] at h
      rw [if_neg (fun z => e (beq_iff_eq.mp z).symm)]
      exact hits_none h
def strD (x : Bs) : PyData := .str (bS x)
theorem strOk_bS (a : Bs) : PyData.strOk (bS a) = true := by
  unfold PyData.strOk
  rw [Array.all_eq_true']
  intro x hx
  have : x ∈ (bS a).cps.toList := Array.mem_toList_iff.mpr hx
  rw [bS_cps, List.mem_map] at this
  obtain ⟨b, _, rfl⟩ := this
  cases b <;> decide
theorem lay_strs (xs : List Bs) : PyData.canLayAll0 (xs.map strD) = true := by
  induction xs with
  | nil => simp [PyData.canLayAll0]
  | cons a r ih => simp [PyData.canLayAll0, PyData.canLay0, strD, ih, strOk_bS]
theorem depth_strs (xs : List Bs) : PyData.depthAll (xs.map strD) ≤ 1 := by
  induction xs with
  | nil => simp [PyData.depthAll]
  | cons a r ih => simp [PyData.depthAll, PyData.depth, strD]; omega
theorem shaped_strs (xs : List Bs) : SeqAt.shaped (.list (xs.map strD)) = true := by
  have h1 := lay_strs xs
  have h2 := depth_strs xs
  unfold SeqAt.shaped
  simp [PyData.canLay0, PyData.depth, h1]
  omega
theorem dp_strs {K : PySem.W.Frag} {H : Hp} (xs : List Bs) : DpAll K H (xs.map rowV) (xs.map strD) := by
  induction xs with
  | nil => exact .nil
  | cons a r ih => exact .cons (.str _) ih
theorem eqv_nil (xs : List Bs) : PyData.eqv (.list (xs.map strD)) (.list []) = xs.isEmpty := by
  cases xs with
  | nil => simp [PyData.eqv, PyData.eqvAll]
  | cons a r => simp [PyData.eqv, PyData.eqvAll]
section
variable {P : Program} {w : World} {K : PySem.W.Frag} {mg : Str → Option Value} {base : Heap}
def evP (l : Nat) (b : B) (hd : Bs) (st : Tl) (D : Nat) : List Nat := (play (ansP l) b hd st).ev D
def spLShuf : Nat → Sp
  | 0 => fun _ _ _ _ => False
  | n + 1 => fun vs H Q _ => ∃ (v : V) (kn cd : Addr) (l D : Nat) (hd : Bs) (b : B) (st : Tl) (done : List Nat), vs = [v, .str (bS hd), .ref kn, .int D, .int l, .ref cd] ∧ IsB H v b ∧ Wf n b ∧ Kn H kn st ∧ l ≤ 2 ∧
    H cd = some (.dK (toD (notes done))) ∧ hd.length + 40 * n ≤ 400 ∧ st.length + n ≤ 100 ∧ (∀ x, x ∈ st → x.2.length ≤ 40) ∧ (done ++ evP l b hd st D).length ≤ 300000 ∧ ∀ H', Fr [cd] H H' → H' cd = some (.dK (toD (notes (done ++ evP l b hd st D)))) → Q .non H'
theorem k_law_shuffling (F : Fx K w mg) : ∀ n : Nat, Kp P w K mg base (3 + n) "_law_shuffling" ["_law_breaker_here", "_law_handed", "_law_known", "_law_den", "_law_l", "_law_counts"] (spLShuf n)
  | 0 => by
    obtain ⟨fd, D⟩ := F.d_law_shuffling
    exact ⟨F.g__law_shuffling, D.kp, fd, FnOkOf (k := 2) D sc_law_shuffling (fun vs H Q E h => h.elim) (fun cdv A outer s H vs Q E hr h => h.elim), D.bindsN (fun _ _ _ _ _ _ us hl => match us, hl with | [_, _, _, _, _, _], _ => rfl)⟩
  | n + 1 => by
    have k_law_shuffling : Kp P w K mg base (3 + n) _ _ _ := k_law_shuffling F n
    have k_law_made : Kp P w K mg base 1 _ _ _ := k_law_made F
    have k_law_note : Kp P w K mg base 1 _ _ _ := k_law_note F
    have k_law_strings : Kp P w K mg base 2 _ _ _ := k_law_strings F
    refine kp_of (k := 3 + n) F.d_law_shuffling F.g__law_shuffling sc_law_shuffling (fun _ _ _ _ _ _ us hl => match us, hl with | [_, _, _, _, _, _], _ => rfl) (fun vs H Q E h => ?_) (fun cdv A outer s H vs Q E hr h => ?_)
    · obtain ⟨v, kn, cd, l, D, hd, b, st, done, rfl, _⟩ := h
      rfl
    · obtain ⟨v, kn, cd, l, D, hd, b, st, done, rfl, hb, wf, hkn, hl, hcd, s1, s2, s3, s4, q⟩ := h
      refine ⟨_, (pss_one (ps_if (pt_cmpR op_eq (pe_ix (r := rIxT K) ix_tup (pv 0) pe_int (fun _ _ => rfl)) pe_str (nomark _))
            (pss_one (ps_if (pt_cmpR op_eq (pe_k k_law_made (hr.mono (by omega)) (pa_cons (pe_ix (r := rIxT K) ix_tup (pv 0) pe_int (fun _ _ => rfl)) (pa_cons (pv 1) pa_nil))) pe_str (nomark _))
              (pss_one (ps_expr (pe_k k_law_note (hr.mono (by omega)) (pa_cons (pv 5) (pa_cons (pv 3) pa_nil)))))
              pss_nil))
            (pss_one (ps_if (pt_cmpR op_eq (pe_ix (r := rIxT K) ix_tup (pv 0) pe_int (fun _ _ => rfl)) pe_str (nomark _))
              (pss_one (ps_for PassesOwn.never rfl (pi_tup (pe_ix (r := rIxT K) ix_tup (pv 0) pe_int (fun _ _ => rfl))) (pg_name (i := 6) sc_law_shuffling.nd rfl (Or.inl rfl))
                (pss_one (ps_expr (pe_k k_law_shuffling (hr.mono (by omega)) (pa_cons (pv 6) (pa_cons (pv 1) (pa_cons (pv 2) (pa_cons (pe_op op_mul (pv 3) (pe_callB call_len_seq (by rfl) F.b_len (by decide +kernel) (pa_cons (pe_ix (r := rIxT K) ix_tup (pv 0) pe_int (fun _ _ => rfl)) pa_nil))) (pa_cons (pv 4) (pa_cons (pv 5) pa_nil)))))))))))
              (pss_one (ps_if (pt_cmpR op_eq (pe_ix (r := rIxT K) ix_tup (pv 0) pe_int (fun _ _ => rfl)) pe_str (nomark _))
                (pss_one (ps_expr (pe_k k_law_shuffling (hr.mono (by omega)) (pa_cons (pe_ix (r := rIxT K) ix_tup (pv 0) (pe_op op_add pe_int (pe_callTy call_int_str (by rfl) F.b_int (by decide +kernel) (pa_cons (pe_k k_law_made (hr.mono (by omega)) (pa_cons (pe_tup (pa_cons (pe_ix (r := rIxT K) ix_tup (pv 0) pe_int (fun _ _ => rfl)) pa_nil)) (pa_cons (pv 1) pa_nil))) pa_nil))) (fun _ _ => rfl)) (pa_cons (pv 1) (pa_cons (pv 2) (pa_cons (pv 3) (pa_cons (pv 4) (pa_cons (pv 5) pa_nil)))))))))
                (pss_cons (ps_set (i := 7) sc_law_shuffling.nd rfl (Or.inr rfl) (pe_k k_law_made (hr.mono (by omega)) (pa_cons (pe_ix (r := rIxT K) ix_tup (pv 0) pe_int (fun _ _ => rfl)) (pa_cons (pv 1) pa_nil))))
                (pss_cons (ps_setLc (i := 8) (own := [("_law_one", 6)]) (g := gName 6) rfl sc_law_shuffling.nd rfl rfl (sw_true rfl rfl rfl (by decide +kernel)) (pi_tup (pv 2)) (blkOk_by (own := [("_law_one", 6)]) (N := N_law_shuffling) (sc := defScope s_law_shuffling) (by decide +kernel)) (fun _ _ _ _ _ => (pg_name (i := 6) sc_law_shuffling.nd rfl (Or.inl rfl))) (fun _ _ _ _ _ => pts_one (pt_cmpR op_eq (pe_ix (r := rIxT K) ix_tup (pv 6) pe_int (fun _ _ => rfl)) (pv 7) (nomark _))) (fun _ _ _ _ _ => (pe_ix (r := rIxT K) ix_tup (pv 6) pe_int (fun _ _ => rfl))))
                (pss_one (ps_if (pt_cmpR op_ne (pe_callB call_len_str (by rfl) F.b_len (by decide +kernel) (pa_cons (pv 7) pa_nil)) (pv 4) (nomark _))
                  (pss_one (ps_expr (pe_k k_law_shuffling (hr.mono (by omega)) (pa_cons (pe_ix (r := rIxT K) ix_tup (pv 0) pe_int (fun _ _ => rfl)) (pa_cons (pv 1) (pa_cons (pv 2) (pa_cons (pv 3) (pa_cons (pv 4) (pa_cons (pv 5) pa_nil)))))))))
                  (pss_one (ps_if (pt_cmpR (r := rNeD K) (op_neD hr.units) (pv 8) (pe_lst pa_nil) (nomark _))
                    (pss_one (ps_expr (pe_k k_law_shuffling (hr.mono (by omega)) (pa_cons (pe_ix (r := rIxT K) ix_tup (pv 0) pe_int (fun _ _ => rfl)) (pa_cons (pe_op op_add_str (pv 1) (pe_ix (r := rIxL K) ix_list (pv 8) pe_int (fun _ _ => rfl))) (pa_cons (pv 2) (pa_cons (pv 3) (pa_cons (pv 4) (pa_cons (pv 5) pa_nil)))))))))
                    (pss_cons (ps_set (i := 9) sc_law_shuffling.nd rfl (Or.inr rfl) (pe_lc (own := [("_law_one", 6)]) (g := gName 6) rfl sc_law_shuffling.nd (pi_tup (pv 2)) (blkOk_by (own := [("_law_one", 6)]) (N := N_law_shuffling) (sc := defScope s_law_shuffling) (by decide +kernel)) (fun _ _ _ _ _ => (pg_name (i := 6) sc_law_shuffling.nd rfl (Or.inl rfl))) (fun _ _ _ _ _ => pts_nil) (fun _ _ _ _ _ => (pe_ix (r := rIxT K) ix_tup (pv 6) pe_int (fun _ _ => rfl)))))
                    (pss_cons (ps_setLc (i := 10) (own := [("_law_value", 11)]) (g := gName 11) rfl sc_law_shuffling.nd rfl rfl (sw_true rfl rfl rfl (by decide +kernel)) (pi_list (pe_k k_law_strings (hr.mono (by omega)) (pa_cons (pv 4) pa_nil))) (blkOk_by (own := [("_law_value", 11)]) (N := N_law_shuffling) (sc := defScope s_law_shuffling) (by decide +kernel)) (fun _ _ _ _ _ => (pg_name (i := 11) sc_law_shuffling.nd rfl (Or.inl rfl))) (fun _ _ _ _ _ => pts_one (pt_cmpR (r := rIn K true) op_notIn_seq (pv 11) (pv 9) (by rfl))) (fun _ _ _ _ _ => (pv 11)))
                    (pss_one (ps_for PassesOwn.never rfl (pi_list (pv 10)) (pg_name (i := 11) sc_law_shuffling.nd rfl (Or.inl rfl))
                      (pss_cons (ps_set (i := 12) sc_law_shuffling.nd rfl (Or.inl rfl) (pe_op (r := rCatA K) op_catA (pv 2) (pe_tup (pa_cons (pe_tup (pa_cons (pv 7) (pa_cons (pv 11) pa_nil))) pa_nil))))
                      (pss_one (ps_expr (pe_k k_law_shuffling (hr.mono (by omega)) (pa_cons (pe_ix (r := rIxT K) ix_tup (pv 0) pe_int (fun _ _ => rfl)) (pa_cons (pe_op op_add_str (pv 1) (pv 11)) (pa_cons (pv 12) (pa_cons (pe_op op_mul (pv 3) (pe_callB call_len_seq (by rfl) F.b_len (by decide +kernel) (pa_cons (pv 10) pa_nil))) (pa_cons (pv 4) (pa_cons (pv 5) pa_nil)))))))))))))))))))))))))), ?_⟩
      cases b with
      | say ps =>
        obtain ⟨a, p, rfl, h1, h2⟩ := hb
        refine ⟨_, rfl, a, _, 0, _, rfl, rfl, SqT.at h1, atI_nat (j := 0) rfl, rfl, _, rfl, iteTd d_say_say ?_⟩
        refine ⟨_, rfl, a, _, 1, _, rfl, rfl, SqT.at h1, atI_nat (j := 1) rfl, _, rfl, p, ps, hd, rfl, h2, wf.1, by omega, rfl, _, rfl, ?_⟩
        rw [bS_1, bS_dec]
        by_cases e : made ps hd = [true]
        · have ee : evP l (.say ps) hd st D = [D] := by
            show (if (made ps hd == [true]) = true then [D] else []) = [D]
            rw [e]; rfl
          rw [ee] at q s4
          refine iteTd (decide_eq_true e) ⟨_, rfl, _, rfl, cd, notes done, D, rfl, hcd, notes_nodup _, Nat.le_trans (notes_len done) (by rw [List.length_append] at s4; omega), fun H1 f1 hcd1 => ?_⟩
          exact q H1 f1 (by rw [notes_app]; exact hcd1)
        · have ee : evP l (.say ps) hd st D = [] := by
            show (if (made ps hd == [true]) = true then [D] else []) = []
            rw [beq_eq_false_iff_ne.mpr e]; rfl
          rw [ee, List.append_nil] at q
          exact iteFd (decide_eq_false e) (q H (Fr.refl _ _) hcd)
      | toss m f =>
        obtain ⟨a, p, xs, rfl, h1, h2, h3, h4⟩ := hb
        obtain ⟨e, rfl, w1, w2, w3⟩ := wf
        have ee : evP l (.toss m f) hd st D = (List.range m).flatMap fun i => evP l (f i) hd st (D * m) := rfl
        rw [ee] at q s4
        refine ⟨_, rfl, a, _, 0, _, rfl, rfl, SqT.at h1, atI_nat (j := 0) rfl, rfl, _, rfl, iteFd d_toss_say ?_⟩
        refine ⟨_, rfl, a, _, 0, _, rfl, rfl, SqT.at h1, atI_nat (j := 0) rfl, rfl, _, rfl, iteTd d_toss_toss ?_⟩
        refine ⟨_, rfl, a, _, 1, _, rfl, rfl, SqT.at h1, atI_nat (j := 1) rfl, p, rfl, ⟨_, SqT.at h2⟩, for_tup (xs := xs) (fun i σ G => ∃ y, σ = [some (.ref a), some (.str (bS hd)), some (.ref kn), some (.int D), some (.int l), some (.ref cd), y, none, none, none, none, none, none] ∧ Fr [cd] H G ∧ G cd = some (.dK (toD (notes (done ++ (List.range i).flatMap fun i => evP l (f i) hd st (D * m))))))
          ⟨none, rfl, Fr.refl _ _, by simpa using hcd⟩ (fun i σ G _ h => by obtain ⟨y, rfl, fG, hG⟩ := h; exact SqT.at (fG.2 _ _ h2)) (fun i x σ G hx h => ?_) (fun σ G h => ?_)⟩
        · obtain ⟨y, rfl, fG, hG⟩ := h
          have hi : i < m := by
            obtain ⟨hlt, _⟩ := List.getElem?_eq_some_iff.mp hx
            omega
          obtain ⟨z, h5, h6⟩ := h4 i hi
          rw [h5] at hx
          cases hx
          have hir : (List.range m)[i]? = some i := by simp [hi]
          have hlen := flat_len_at (f := fun i => evP l (f i) hd st (D * m)) hir
          rw [range_take (Nat.le_of_lt hi)] at hlen
          refine ⟨_, rfl, _, rfl, _, rfl, _, rfl, _, rfl, a, _, 1, _, rfl, rfl, SqT.at (fG.2 _ _ h1), atI_nat (j := 1) rfl, p, _, rfl, .inr (SqT.at (fG.2 _ _ h2)), _, _, rfl, rfl, .inr ⟨by omega, by omega⟩, _, rfl, _, rfl, ?_⟩
          refine ⟨_, kn, cd, l, D * m, hd, f i, st, done ++ (List.range i).flatMap (fun i => evP l (f i) hd st (D * m)), ?_, h6.fr fG, w3 i hi, hkn.mono fG.2, hl, hG, by omega, by omega, s3, ?_, fun G2 f2 hG2 => ?_⟩
          · rw [h3, Int.natCast_mul]; rfl
          · rw [List.length_append, List.length_append]
            rw [List.length_append] at s4
            omega
          · refine ⟨some _, rfl, fG.trans f2, ?_⟩
            rw [flat_range, ← List.append_assoc]
            exact hG2
        · obtain ⟨y, rfl, fG, hG⟩ := h
          rw [h3] at hG
          exact q G fG hG
      | look m b c =>
        obtain ⟨a, x, y, rfl, h1, h2, h3⟩ := hb
        obtain ⟨e, rfl, w1, w2, w3⟩ := wf
        refine ⟨_, rfl, a, _, 0, _, rfl, rfl, SqT.at h1, atI_nat (j := 0) rfl, rfl, _, rfl, iteFd d_look_say ?_⟩
        refine ⟨_, rfl, a, _, 0, _, rfl, rfl, SqT.at h1, atI_nat (j := 0) rfl, rfl, _, rfl, iteFd d_look_toss ?_⟩
        refine ⟨_, rfl, a, _, 0, _, rfl, rfl, SqT.at h1, atI_nat (j := 0) rfl, rfl, _, rfl, iteTd d_look_look ?_⟩
        refine ⟨_, rfl, _, rfl, a, _, 1, _, rfl, rfl, SqT.at h1, atI_nat (j := 1) rfl, sz (by simp), fun t nt => ⟨_, rfl, t, [.nm m], hd, rfl, upd_same, by simp, by omega, ?_⟩⟩
        have f1 : Fr [] H (upd H t (.tup [.int m])) := Fr.new nt
        have em : made [.nm m] hd = [got hd m] := rfl
        rw [em]
        have hkn1 := hkn.mono f1.2
        have h11 := f1.at h1
        have hcd1 := f1.at hcd
        have hb1 := h2.fr f1
        have hc1 := h3.fr f1
        generalize upd H t (.tup [.int m]) = H1 at f1 hkn1 h11 hcd1 hb1 hc1
        have ee : evP l (.look m b c) hd st D = if got hd m = true then evP l c hd st D else evP l b hd st D := by
          show (if got hd m = true then play (ansP l) c hd st else play (ansP l) b hd st).ev D = _
          split <;> rfl
        rw [ee] at q s4
        cases hg : got hd m with
        | true =>
          rw [if_pos hg] at q s4
          exact ⟨_, _, rfl, int_bit true, by rw [bS_len]; decide, _, _, rfl, rfl, a, _, (3 : Nat), y, rfl, rfl, SqT.at h11, atI_nat (j := 3) rfl, _, rfl, _, rfl, _, rfl, _, rfl, _, rfl,
            y, kn, cd, l, D, hd, c, st, done, rfl, hc1, w3, hkn1, hl, hcd1, by omega, by omega, s3, s4, fun G2 f2 hG2 => q G2 (f1.of0.trans f2) hG2⟩
        | false =>
          rw [if_neg (by rw [hg]; decide)] at q s4
          exact ⟨_, _, rfl, int_bit false, by rw [bS_len]; decide, _, _, rfl, rfl, a, _, (2 : Nat), x, rfl, rfl, SqT.at h11, atI_nat (j := 2) rfl, _, rfl, _, rfl, _, rfl, _, rfl, _, rfl,
            x, kn, cd, l, D, hd, b, st, done, rfl, hb1, w2, hkn1, hl, hcd1, by omega, by omega, s3, s4, fun G2 f2 hG2 => q G2 (f1.of0.trans f2) hG2⟩
      | ask ps b =>
        obtain ⟨a, p, x, rfl, h1, h2, h3⟩ := hb
        obtain ⟨e, rfl, w1, w2⟩ := wf
        refine ⟨_, rfl, a, _, 0, _, rfl, rfl, SqT.at h1, atI_nat (j := 0) rfl, rfl, _, rfl, iteFd d_ask_say ?_⟩
        refine ⟨_, rfl, a, _, 0, _, rfl, rfl, SqT.at h1, atI_nat (j := 0) rfl, rfl, _, rfl, iteFd d_ask_toss ?_⟩
        refine ⟨_, rfl, a, _, 0, _, rfl, rfl, SqT.at h1, atI_nat (j := 0) rfl, rfl, _, rfl, iteFd d_ask_look ?_⟩
        refine ⟨_, rfl, a, _, 1, _, rfl, rfl, SqT.at h1, atI_nat (j := 1) rfl, _, rfl, p, ps, hd, rfl, h2, w1.1, by omega, ?_⟩
        have lm : (made ps hd).length ≤ 100 := by rw [made_len]; exact w1.1
        have ee := evP_ask l ps b hd st D
        have ee2 : evP l (.ask ps b) hd st D = (play (ansP l) (.ask ps b) hd st).ev D := rfl
        rw [← ee2] at ee
        generalize hms : made ps hd = ms at ee lm
        obtain ⟨xs, hxs, hp⟩ := id hkn
        have lxs : xs.length = st.length := Paired.length hp
        refine ⟨_, rfl, kn, rfl, ⟨_, SqT.at hxs⟩, fun D8 hD8 => lc_fil (walk_tup (xs := xs)) (fun i => (st.getD i ([], [])).1 == ms) (fun i => rowV (st.getD i ([], [])).2) hD8 (by omega) (fun G fG => SqT.at (fG.at hxs)) (fun i x G G' hi fr hy R S r1 r2 => ?_) (fun G8 f8 hG8 => ?_)⟩
        · obtain ⟨rfl, hx⟩ := hy
          obtain ⟨u, hu, t, rfl, ht⟩ := paired_get hp i ([], []) (by omega)
          rw [hu] at hx
          cases hx
          have ht' := fr.2 _ _ ht
          refine ⟨rfl, _, rfl, t, _, 0, _, rfl, rfl, SqT.at ht', atI_nat (j := 0) rfl, _, rfl, rfl, _, rfl, ?_⟩
          rw [bS_dec]
          by_cases e3 : (st.getD i ([], [])).1 = ms
          · exact iteTd (decide_eq_true e3) ⟨_, rfl, t, _, 1, _, rfl, rfl, SqT.at ht', atI_nat (j := 1) rfl, r1 (beq_iff_eq.mpr e3) _ (Fr.refl _ _)⟩
          · exact iteFd (decide_eq_false e3) (r2 (beq_eq_false_iff_ne.mpr e3) _ (Fr.refl _ _))
        · rw [lxs, fil_getF (fun x : Bs × Bs => rowV x.2) ([], []) st (fun x => x.1 == ms)] at hG8
          have hD8v : G8 D8 = some (.lst ((hits st ms).map rowV)) := by rw [hG8, hits, List.map_map]; rfl
          clear hG8
          have hcd8 := f8.at hcd
          have h18 := f8.at h1
          have hkn8 := hkn.mono f8.2
          have hx8 := h3.fr f8
          have lenb : ∀ t : Bs, t.length ≤ 40 → (bS hd).length + (bS t).length ≤ sizeLine := fun t ht => by rw [bS_len, bS_len]; exact sz (by omega)
          refine ⟨_, rfl, _, rfl, (by rw [bS_len]; exact sz (by omega)), _, rfl, rfl, _, rfl, ?_⟩
          rw [bS_len, dec_natne]
          by_cases el : ms.length = l
          · rw [if_pos el] at ee
            refine iteFd (by rw [decide_eq_true el]; rfl) ?_
            refine ⟨_, rfl, sz (by simp), fun q0 nq0 => ⟨.list ((hits st ms).map strD), .list [], .lst (SqL.at ?_) (dp_strs _), .lst (SqL.at upd_same) .nil, shaped_strs _, rfl, _, rfl, ?_⟩⟩
            · rw [upd_ne (ne_of_none hD8v nq0)]; exact hD8v
            have f9 : Fr [] G8 (upd G8 q0 (.lst [])) := Fr.new nq0
            have hD89 := f9.at hD8v
            have f09 := f8.trans f9
            have hcd9 := f9.at hcd8
            have h19 := f9.at h18
            have hkn9 := hkn8.mono f9.2
            have hx9 := hx8.fr f9
            generalize upd G8 q0 (.lst []) = G9 at f9 hD89 f09 hcd9 h19 hkn9 hx9
            rw [eqv_nil]
            cases hlk : st.lookup ms with
            | some v =>
              obtain ⟨r, hh⟩ := hits_some hlk
              rw [hlk] at ee
              have ee3 : evP l (.ask ps b) hd st D = evP l b (hd ++ v) st D := ee
              rw [ee3] at q s4
              obtain ⟨y, hy1, hy2⟩ := lookup_mem hlk
              have hv := s3 y hy1
              rw [hy2] at hv
              rw [hh] at hD89
              refine iteTd (by rw [hh]; rfl) ?_
              refine ⟨_, rfl, a, _, 2, _, rfl, rfl, SqT.at h19, atI_nat (j := 2) rfl, _, rfl, _, rfl, D8, _, (0 : Nat), rowV v, rfl, rfl, SqL.at hD89, atI_nat (j := 0) rfl, _, _, rfl, rfl, lenb v hv, _, rfl, _, rfl, _, rfl, _, rfl, ?_⟩
              refine ⟨x, kn, cd, l, D, hd ++ v, b, st, done, by rw [← bS_app]; rfl, hx9, w2, hkn9, hl, hcd9, by rw [List.length_append]; omega, by omega, s3, s4, fun G2 f2 hG2 => q G2 (f09.of0.trans f2) hG2⟩
            | none =>
              rw [hlk] at ee
              have ee3 : evP l (.ask ps b) hd st D = (leftOf l st).flatMap fun v => evP l b (hd ++ v) (st ++ [(ms, v)]) (D * (leftOf l st).length) := ee
              rw [ee3] at q s4
              refine iteFd (by rw [hits_none hlk]; rfl) ?_
              have hxs9 := f09.at hxs
              refine ⟨_, rfl, kn, rfl, ⟨_, SqT.at hxs9⟩, fun D9 hD9 => lc_map (walk_tup (xs := xs)) (fun i => rowV (st.getD i ([], [])).2) hD9 (by omega) (fun G fG => SqT.at (fG.at hxs9)) (fun i z G G' hi fr hy R S hR => ?_) (fun G10 f10 hG10 => ?_)⟩
              · obtain ⟨rfl, hx⟩ := hy
                obtain ⟨u, hu, t, rfl, ht⟩ := paired_get hp i ([], []) (by omega)
                rw [hu] at hx
                cases hx
                exact ⟨rfl, yesT ⟨_, rfl, t, _, 1, _, rfl, rfl, SqT.at ((f09.trans fr).2 _ _ ht), atI_nat (j := 1) rfl, hR _ (Fr.refl _ _)⟩⟩
              · have hD9v : G10 D9 = some (.lst ((st.map (·.2)).map rowV)) := by
                  rw [hG10, lxs, range_map_get ([], []) (fun x : Bs × Bs => rowV x.2) st, List.map_map]
                  rfl
                clear hG10
                refine ⟨_, rfl, l, rfl, hl, fun G11 D11 f11 _ hD11 => ⟨D11, rfl, ⟨_, SqL.at hD11⟩, fun D12 hD12 => lc_fil (walk_list (xs := (bstrs l).map rowV)) (fun i => !(st.map (·.2)).contains ((bstrs l).getD i [])) (fun i => rowV ((bstrs l).getD i [])) hD12 ?_ (fun G fG => SqL.at (fG.at hD11)) (fun i z G G' hi fr hy R S r1 r2 => ?_) (fun G12 f12 hG12 => ?_)⟩⟩
                · have b2 : 2 ^ l ≤ 4 := Nat.le_trans (Nat.pow_le_pow_right (by decide) hl) (by decide)
                  rw [List.length_map, bstrs_len]; omega
                · obtain ⟨rfl, hx⟩ := hy
                  have hi' : i < (bstrs l).length := by simpa using hi
                  rw [List.getElem?_map, List.getElem?_eq_getElem hi'] at hx
                  have hx' := Option.some.inj hx
                  subst hx'
                  have e5 : (bstrs l)[i] = (bstrs l).getD i [] := by rw [List.getD_eq_getElem?_getD, List.getElem?_eq_getElem hi']; rfl
                  rw [e5]
                  refine ⟨rfl, _, rfl, _, rfl, D9, _, rfl, .inl (SqL.at ((f11.trans fr).at hD9v)), rfl, flat_rows _, ?_⟩
                  rw [inV_rows]
                  refine ⟨_, rfl, ?_⟩
                  cases e6 : (st.map (·.2)).contains ((bstrs l).getD i []) with
                  | true => exact iteFd rfl (r2 (by rw [e6]; rfl) _ (Fr.refl _ _))
                  | false => exact iteTd rfl ⟨_, rfl, r1 (by rw [e6]; rfl) _ (Fr.refl _ _)⟩
                · rw [List.length_map, fil_getF rowV [] (bstrs l) (fun v => !(st.map (·.2)).contains v)] at hG12
                  have hLv : G12 D12 = some (.lst ((leftOf l st).map rowV)) := hG12
                  clear hG12
                  have f012 := ((f09.trans f10).trans f11).trans f12
                  have hcd12 := f012.at hcd
                  have nD12 : H D12 = none := ((f09.trans f10).trans f11).free hD12
                  have ncd : D12 ≠ cd := fun z => by rw [z, hcd] at nD12; cases nD12
                  have lln : (leftOf l st).length ≤ 4 := by
                    have b2 : 2 ^ l ≤ 4 := Nat.le_trans (Nat.pow_le_pow_right (by decide) hl) (by decide)
                    have := List.length_filter_le (fun v => !(st.map (·.2)).contains v) (bstrs l)
                    rw [bstrs_len] at this
                    exact Nat.le_trans this b2
                  refine ⟨_, rfl, D12, rfl, ⟨_, SqL.at hLv⟩, for_list (xs := (leftOf l st).map rowV) (fun i σ G => ∃ y11 y12, σ = [some (.ref a), some (.str (bS hd)), some (.ref kn), some (.int D), some (.int l), some (.ref cd), none, some (.str (bS ms)), some (.ref D8), some (.ref D9), some (.ref D12), y11, y12] ∧ Fr [cd] H G ∧ G D12 = some (.lst ((leftOf l st).map rowV)) ∧ G cd = some (.dK (toD (notes (done ++ ((leftOf l st).take i).flatMap fun v => evP l b (hd ++ v) (st ++ [(ms, v)]) (D * (leftOf l st).length))))))
                    ⟨none, none, rfl, f012.of0, hLv, by simpa using hcd12⟩ (fun i σ G _ h => by obtain ⟨_, _, rfl, _, hD, _⟩ := h; exact SqL.at hD) (fun i z σ G hx h => ?_) (fun σ G h => ?_)⟩
                  · obtain ⟨y11, y12, rfl, fG, hDG, hG⟩ := h
                    rw [List.getElem?_map] at hx
                    cases hti : (leftOf l st)[i]? with
                    | none => rw [hti] at hx; cases hx
                    | some t =>
                      rw [hti] at hx
                      cases hx
                      have htl : t.length ≤ 40 := by rw [leftOf_len (List.mem_of_getElem? hti)]; omega
                      have hlen := flat_len_at (f := fun v => evP l b (hd ++ v) (st ++ [(ms, v)]) (D * (leftOf l st).length)) hti
                      have eD : (D : Int) * ((((leftOf l st).map rowV).length : Nat) : Int) = ((D * (leftOf l st).length : Nat) : Int) := by rw [List.length_map, Int.natCast_mul]
                      have key : ∀ (G3 : Hp) (kn3 : Addr), Fr [] G G3 → Kn G3 kn3 (st ++ [(ms, t)]) → spLShuf (e + 1) [x, .str (bS hd ++ bS t), .ref kn3, .int ((D : Int) * ((((leftOf l st).map rowV).length : Nat) : Int)), .int l, .ref cd] G3
                          (fun _ G4 => ∃ y11 y12, [some (.ref a), some (.str (bS hd)), some (.ref kn), some (.int D), some (.int l), some (.ref cd), none, some (.str (bS ms)), some (.ref D8), some (.ref D9), some (.ref D12), some (rowV t), some (.ref kn3)] = [some (.ref a), some (.str (bS hd)), some (.ref kn), some (.int D), some (.int l), some (.ref cd), none, some (.str (bS ms)), some (.ref D8), some (.ref D9), some (.ref D12), y11, y12] ∧ Fr [cd] H G4 ∧ G4 D12 = some (.lst ((leftOf l st).map rowV)) ∧ G4 cd = some (.dK (toD (notes (done ++ ((leftOf l st).take (i + 1)).flatMap fun v => evP l b (hd ++ v) (st ++ [(ms, v)]) (D * (leftOf l st).length)))))) E0 := by
                        intro G3 kn3 f3 hkn3
                        rw [eD, bS_app]
                        refine ⟨x, kn3, cd, l, D * (leftOf l st).length, hd ++ t, b, st ++ [(ms, t)], done ++ (((leftOf l st).take i).flatMap fun v => evP l b (hd ++ v) (st ++ [(ms, v)]) (D * (leftOf l st).length)), rfl, (h3.fr fG).fr f3, w2, hkn3, hl, f3.at hG, by rw [List.length_append]; omega, by rw [List.length_append]; simp; omega, fun y hy => ?_, ?_, fun G4 f4 hG4 => ⟨_, _, rfl, (fG.trans f3.of0).trans f4, f4.1 _ _ (f3.at hDG) (by simp; exact ncd), ?_⟩⟩
                        · rcases List.mem_append.mp hy with hy | hy
                          · exact s3 y hy
                          · rw [List.mem_singleton.mp hy]; exact htl
                        · rw [List.length_append, List.length_append]
                          rw [List.length_append] at s4
                          omega
                        · rw [flat_take hti, ← List.append_assoc]
                          exact hG4
                      have h1G := fG.2 _ _ h1
                      have hxsG := fG.2 _ _ hxs
                      refine ⟨_, rfl, _, rfl, _, rfl, sz (by simp), fun t1 nt1 => ⟨sz (by simp), fun t2 nt2 => ?_⟩⟩
                      have g1 : Fr [] G (upd G t1 (.tup [.str (bS ms), rowV t])) := Fr.new nt1
                      have g2 : Fr [] (upd G t1 (.tup [.str (bS ms), rowV t])) (upd (upd G t1 (.tup [.str (bS ms), rowV t])) t2 (.tup [.ref t1])) := Fr.new nt2
                      have g12 := g1.trans g2
                      have ht1 := g2.at (show (upd G t1 (.tup [.str (bS ms), rowV t])) t1 = some (.tup [.str (bS ms), rowV t]) from upd_same)
                      have ht2 : (upd (upd G t1 (.tup [.str (bS ms), rowV t])) t2 (.tup [.ref t1])) t2 = some (.tup [.ref t1]) := upd_same
                      have hDG5 := g12.at hDG
                      generalize (upd (upd G t1 (.tup [.str (bS ms), rowV t])) t2 (.tup [.ref t1])) = G5 at g2 g12 ht1 ht2 hDG5
                      have hpG := paired_map (fun a b h => IsPr.mono (fG.trans g12.of0).2 h) hp
                      refine ⟨kn, t2, xs, [.ref t1], rfl, rfl, SqT.at (g12.at hxsG), SqT.at ht2, sz (by rw [lxs]; simp; omega), fun hx => ?_, fun _ h => (nomatch h), fun hx _ p np => ?_⟩
                      · subst hx
                        have hst : st = [] := List.length_eq_zero_iff.mp (by rw [← lxs]; rfl)
                        have hk : Kn G5 t2 (st ++ [(ms, t)]) := by
                          rw [hst]
                          exact ⟨_, ht2, .cons ⟨t1, rfl, ht1⟩ .nil⟩
                        exact ⟨_, rfl, a, _, 2, _, rfl, rfl, SqT.at (g12.at h1G), atI_nat (j := 2) rfl, _, rfl, _, rfl, _, _, rfl, rfl, lenb t htl, _, rfl, _, rfl, _, rfl, D12, _, rfl, .inl (SqL.at hDG5), _, _, rfl, rfl, .inr ⟨by rw [List.length_map]; omega, by rw [List.length_map]; omega⟩, _, rfl, _, rfl, key G5 t2 g12 hk⟩
                      · have g3 : Fr [] G5 (upd G5 p (.tup (xs ++ [.ref t1]))) := Fr.new np
                        have g13 := g12.trans g3
                        have hk : Kn (upd G5 p (.tup (xs ++ [.ref t1]))) p (st ++ [(ms, t)]) := ⟨_, upd_same, paired_app (paired_map (fun a b h => IsPr.mono g3.2 h) hpG) (.cons ⟨t1, rfl, g3.at ht1⟩ .nil)⟩
                        exact ⟨_, rfl, a, _, 2, _, rfl, rfl, SqT.at (g13.at h1G), atI_nat (j := 2) rfl, _, rfl, _, rfl, _, _, rfl, rfl, lenb t htl, _, rfl, _, rfl, _, rfl, D12, _, rfl, .inl (SqL.at (g3.at hDG5)), _, _, rfl, rfl, .inr ⟨by rw [List.length_map]; omega, by rw [List.length_map]; omega⟩, _, rfl, _, rfl, key _ p g13 hk⟩
                  · obtain ⟨_, _, rfl, fG, hDG, hG⟩ := h
                    rw [List.take_of_length_le (by simp)] at hG
                    exact q G fG hG
          · rw [if_neg el] at ee
            have ee3 : evP l (.ask ps b) hd st D = evP l b hd st D := ee
            rw [ee3] at q s4
            refine iteTd (by rw [decide_eq_false el]; rfl) ?_
            exact ⟨_, rfl, a, _, 2, _, rfl, rfl, SqT.at h18, atI_nat (j := 2) rfl, _, rfl, _, rfl, _, rfl, _, rfl, _, rfl, x, kn, cd, l, D, hd, b, st, done, rfl, hx8, w2, hkn8, hl, hcd8, by omega, by omega, s3, s4, fun G2 f2 hG2 => q G2 (f8.of0.trans f2) hG2⟩
end
end BK
/-! Breakback k27: the law goes through the swaps. -/
namespace BK
open PySem PySem.Spec PyProof.Rows L2 He
def IsPr2 (H : Hp) (v : V) (x : (Nat × Bs) × Bs) : Prop := ∃ t u : Addr, v = .ref t ∧ H t = some (.tup [.ref u, .str (bS x.2)]) ∧ H u = some (.tup [.int x.1.1, .str (bS x.1.2)])
theorem IsPr2.mono {H H' : Hp} (t : Tups H H') {v : V} {x : (Nat × Bs) × Bs} (h : IsPr2 H v x) : IsPr2 H' v x := by
  obtain ⟨a, u, e, h1, h2⟩ := h
  exact ⟨a, u, e, t _ _ h1, t _ _ h2⟩
def Kn2 (H : Hp) (kn : Addr) (sn : Tl2) : Prop := ∃ xs : List V, H kn = some (.tup xs) ∧ Paired (IsPr2 H) xs sn
theorem Kn2.mono {H H' : Hp} (t : Tups H H') {kn : Addr} {sn : Tl2} (h : Kn2 H kn sn) : Kn2 H' kn sn := by
  obtain ⟨xs, e, h⟩ := h
  exact ⟨xs, t _ _ e, paired_map (fun a b h => h.mono t) h⟩
def FdAt (H : Hp) (v : V) (y : Fd) : Prop := ∃ t kt : Addr, v = .ref t ∧ H t = some (.tup [.str (bS y.1), .str (bS y.2.1), .ref kt, .int y.2.2.2]) ∧ Kn2 H kt y.2.2.1
theorem FdAt.mono {H H' : Hp} (t : Tups H H') {v : V} {y : Fd} (h : FdAt H v y) : FdAt H' v y := by
  obtain ⟨a, kt, e, h1, h2⟩ := h
  exact ⟨a, kt, e, t _ _ h1, h2.mono t⟩
def OutAt (H : Hp) (v : V) (y : Fd) : Prop := ∃ t kt : Addr, v = .ref t ∧ H t = some (.tup [.str (bS (y.1 ++ y.2.1)), .ref kt, .int y.2.2.2]) ∧ Kn2 H kt y.2.2.1
theorem OutAt.mono {H H' : Hp} (t : Tups H H') {v : V} {y : Fd} (h : OutAt H v y) : OutAt H' v y := by
  obtain ⟨a, kt, e, h1, h2⟩ := h
  exact ⟨a, kt, e, t _ _ h1, h2.mono t⟩
structure Us (sn : Tl2) (n : Nat) : Prop where
  one : ∀ q, (hits2 sn q).length ≤ 1
  len : ∀ x, x ∈ sn → x.2.length = 1
  few : sn.length ≤ n
def Gd (n : Nat) (y : Fd) : Prop := y.1.length = 1 ∧ y.2.1.length = 1 ∧ Us y.2.2.1 n
theorem hits2_len {sn : Tl2} {n : Nat} (h : Us sn n) {q : Nat × Bs} {v : Bs} (hv : v ∈ hits2 sn q) : v.length = 1 := by
  obtain ⟨x, hx, rfl⟩ := List.mem_map.mp hv
  exact h.len x (List.mem_filter.mp hx).1
theorem vals_ok {n k : Nat} {y : Fd} (h : Gd n y) : (valsS 1 k y).length ≤ 2 ∧ ∀ v, v ∈ valsS 1 k y → v.length = 1 ∧ Gd (n + 1) (outS 1 k y v) := by
  obtain ⟨h1, h2, h3⟩ := h
  unfold valsS outS nowS Gd
  by_cases e : hits2 y.2.2.1 (k, y.2.1) = []
  · simp only [if_pos e]
    refine ⟨by rw [bstrs_len]; decide, fun v hv => ?_⟩
    have hv1 : v.length = 1 := by
      rw [bstrs, List.mem_map] at hv
      obtain ⟨j, _, rfl⟩ := hv
      exact bitsN_len 1 j
    refine ⟨hv1, h2, by rw [xorB_len]; omega, ⟨fun q => ?_, fun x hx => ?_, ?_⟩⟩
    · rw [hits2_app]
      by_cases eq : (k, y.2.1) = q
      · rw [← eq, e, if_pos rfl]
        simp
      · rw [if_neg eq, List.append_nil]
        exact h3.one q
    · rcases List.mem_append.mp hx with hx | hx
      · exact h3.len x hx
      · rw [List.mem_singleton.mp hx]; exact hv1
    · rw [List.length_append]
      have := h3.few
      simp
      omega
  · simp only [if_neg e]
    refine ⟨Nat.le_trans (h3.one _) (by decide), fun v hv => ⟨hits2_len h3 hv, h2, by rw [xorB_len, h1, hits2_len h3 hv]; rfl, h3.one, h3.len, Nat.le_succ_of_le h3.few⟩⟩
theorem foldS_snoc (h k : Nat) (ks : List Nat) (f : List Fd) : foldS h (ks ++ [k]) f = (foldS h ks f).flatMap (expS h k) := by
  unfold foldS
  rw [List.foldl_append]
  rfl
theorem exp_len {n k : Nat} : ∀ {f : List Fd}, (∀ y, y ∈ f → Gd n y) → (f.flatMap (expS 1 k)).length ≤ 2 * f.length ∧ ∀ y, y ∈ f.flatMap (expS 1 k) → Gd (n + 1) y
  | [], _ => ⟨by simp, fun y hy => by simp at hy⟩
  | z :: r, h => by
    obtain ⟨i1, i2⟩ := exp_len (n := n) (k := k) (f := r) fun y hy => h y (List.mem_cons_of_mem _ hy)
    obtain ⟨v1, v2⟩ := vals_ok (k := k) (h z List.mem_cons_self)
    rw [List.flatMap_cons]
    refine ⟨?_, fun y hy => ?_⟩
    · rw [List.length_append, List.length_cons]
      have : (expS 1 k z).length = (valsS 1 k z).length := by simp [expS]
      omega
    · rcases List.mem_append.mp hy with hy | hy
      · obtain ⟨v, hv, rfl⟩ := List.mem_map.mp hy
        exact (v2 v hv).2
      · exact i2 y hy
theorem fold_ok {n : Nat} {x0 : Fd} (h : Gd n x0) : ∀ i, (foldS 1 (List.range i) [x0]).length ≤ 2 ^ i ∧ ∀ y, y ∈ foldS 1 (List.range i) [x0] → Gd (n + i) y
  | 0 => ⟨by simp [foldS], fun y hy => by simp [foldS] at hy; rw [hy]; exact h⟩
  | i + 1 => by
    obtain ⟨a, b⟩ := fold_ok h i
    rw [List.range_succ, foldS_snoc]
    obtain ⟨c, d⟩ := exp_len (k := i) b
    refine ⟨?_, d⟩
    rw [Nat.pow_succ]
    omega
theorem eqv_q (a b : Nat) (x y : Bs) : PyData.eqv (.tuple [.int a, .str (bS x)]) (.tuple [.int b, .str (bS y)]) = ((a, x) == (b, y)) := by
  have e1 : PyData.eqv (.tuple [.int a, .str (bS x)]) (.tuple [.int b, .str (bS y)]) = (((a : Int) == (b : Int)) && ((bS x == bS y) && true)) := by
    simp [PyData.eqv, PyData.eqvAll]
  rw [e1]
  by_cases h1 : a = b
  · by_cases h2 : x = y
    · subst h1 h2; simp
    · have h3 := bS_ne h2
      have h4 : ¬ (a, x) = (b, y) := fun z => h2 (by injection z)
      rw [beq_eq_false_iff_ne.mpr h3, beq_eq_false_iff_ne.mpr h4]
      simp
  · have h3 : ¬ (a : Int) = (b : Int) := by omega
    have h4 : ¬ (a, x) = (b, y) := fun z => h1 (by injection z)
    rw [beq_eq_false_iff_ne.mpr h3, beq_eq_false_iff_ne.mpr h4]
    rfl
theorem shaped_q (a : Int) (x : Bs) : SeqAt.shaped (.tuple [.int a, .str (bS x)]) = true := by
  unfold SeqAt.shaped
  simp [PyData.canLay0, PyData.canLayAll0, PyData.depth, PyData.depthAll, strOk_bS]
section
variable {P : Program} {w : World} {K : PySem.W.Frag} {mg : Str → Option Value} {base : Heap}
def spLSwapped : Sp := fun vs H Q _ => ∃ (kn : Addr) (r : Nat) (s : Bs) (sn : Tl2), vs = [.str (bS s), .ref kn, .int r] ∧ Kn2 H kn sn ∧ s.length = 2 ∧ r ≤ 4 ∧ Us sn 100 ∧
  ∀ (H' : Hp) (D : Addr) (vs : List V), Fr [] H H' → H D = none → H' D = some (.lst vs) → Paired (OutAt H') vs (foldS 1 (List.range r) [(s.take 1, s.drop 1, sn, 1)]) → Q (.ref D) H'
theorem k_law_swapped (F : Fx K w mg) : Kp P w K mg base 3 "_law_swapped" ["_law_string_here", "_law_known", "_law_rounds"] spLSwapped := by
  have k_law_strings : Kp P w K mg base 2 _ _ _ := k_law_strings F
  have k_law_xor : Kp P w K mg base 1 _ _ _ := k_law_xor F
  refine kp_of F.d_law_swapped F.g__law_swapped sc_law_swapped (fun _ _ _ _ _ _ us hl => match us, hl with | [_, _, _], _ => rfl) (fun vs H Q E h => ?_) (fun cdv A outer s0 H vs Q E hr h => ?_)
  · obtain ⟨kn, r, s, sn, rfl, _⟩ := h
    rfl
  · obtain ⟨kn, r, s, sn, rfl, hkn, hs, hr4, hus, q⟩ := h
    refine ⟨_, (pss_cons (ps_set (i := 3) sc_law_swapped.nd rfl (Or.inl rfl) (pe_op op_fdiv (pe_callB call_len_str (by rfl) F.b_len (by decide +kernel) (pa_cons (pv 0) pa_nil)) pe_int))
        (pss_cons (ps_set (i := 4) sc_law_swapped.nd rfl (Or.inl rfl) (pe_lst (pa_cons (pe_tup (pa_cons (pe_slice sl_str (pv 0) po_none (po_some (pv 3))) (pa_cons (pe_slice sl_str (pv 0) (po_some (pv 3)) po_none) (pa_cons (pv 1) (pa_cons pe_int pa_nil))))) pa_nil)))
        (pss_cons (ps_for PassesOwn.never rfl (pi_range1 (by rfl) F.b_range (pa_cons (pv 2) pa_nil)) (pg_name (i := 5) sc_law_swapped.nd rfl (Or.inr rfl))
          (pss_cons (ps_set (i := 6) sc_law_swapped.nd rfl (Or.inl rfl) (pe_lst pa_nil))
          (pss_cons (ps_for PassesOwn.never rfl (pi_list (pv 4)) (pg_tupK (K := K) (n := 4) (by rfl) (pgs_cons (pg_name (i := 7) sc_law_swapped.nd rfl (Or.inl rfl)) (pgs_cons (pg_name (i := 8) sc_law_swapped.nd rfl (Or.inr rfl)) (pgs_cons (pg_name (i := 9) sc_law_swapped.nd rfl (Or.inl rfl)) (pgs_cons (pg_name (i := 10) sc_law_swapped.nd rfl (Or.inl rfl)) pgs_nil)))))
            (pss_cons (ps_setLc (i := 11) (own := [("_law_one", 15)]) (g := gName 15) rfl sc_law_swapped.nd rfl rfl (sw_true rfl rfl rfl (by decide +kernel)) (pi_tup (pv 9)) (blkOk_by (own := [("_law_one", 15)]) (N := N_law_swapped) (sc := defScope s_law_swapped) (by decide +kernel)) (fun _ _ _ _ _ => (pg_name (i := 15) sc_law_swapped.nd rfl (Or.inl rfl))) (fun _ _ _ _ _ => pts_one (pt_cmpR (r := rEqD K) (op_eqD hr.units) (pe_ix (r := rIxT K) ix_tup (pv 15) pe_int (fun _ _ => rfl)) (pe_tup (pa_cons (pv 5) (pa_cons (pv 8) pa_nil))) (nomark _))) (fun _ _ _ _ _ => (pe_ix (r := rIxT K) ix_tup (pv 15) pe_int (fun _ _ => rfl))))
            (pss_cons (ps_set (i := 12) sc_law_swapped.nd rfl (Or.inl rfl) (pe_k k_law_strings (hr.mono (by decide)) (pa_cons (pv 3) pa_nil)))
            (pss_cons (ps_if (pt_cmpR (r := rNeD K) (op_neD hr.units) (pv 11) (pe_lst pa_nil) (nomark _))
              (pss_one (ps_set (i := 12) sc_law_swapped.nd rfl (Or.inl rfl) (pv 11)))
              pss_nil)
            (pss_one (ps_for PassesOwn.never rfl (pi_list (pv 12)) (pg_name (i := 13) sc_law_swapped.nd rfl (Or.inl rfl))
              (pss_cons (ps_set (i := 14) sc_law_swapped.nd rfl (Or.inl rfl) (pv 9))
              (pss_cons (ps_if (pt_cmpR (r := rEqD K) (op_eqD hr.units) (pv 11) (pe_lst pa_nil) (nomark _))
                (pss_one (ps_set (i := 14) sc_law_swapped.nd rfl (Or.inl rfl) (pe_op (r := rCatA K) op_catA (pv 9) (pe_tup (pa_cons (pe_tup (pa_cons (pe_tup (pa_cons (pv 5) (pa_cons (pv 8) pa_nil))) (pa_cons (pv 13) pa_nil))) pa_nil)))))
                pss_nil)
              (pss_one (ps_expr (pe_bm PySem.F.plainAttrs_list PySem.F.slot_list_append PySem.F.type_list_append mt_append (pv 6) (pa_cons (pe_tup (pa_cons (pv 8) (pa_cons (pe_k k_law_xor (hr.mono (by decide)) (pa_cons (pv 7) (pa_cons (pv 13) pa_nil))) (pa_cons (pv 14) (pa_cons (pe_op op_mul (pv 10) (pe_callB call_len_seq (by rfl) F.b_len (by decide +kernel) (pa_cons (pv 12) pa_nil))) pa_nil))))) pa_nil))))))))))))
          (pss_one (ps_set (i := 4) sc_law_swapped.nd rfl (Or.inl rfl) (pe_callTy call_list_of (by rfl) F.b_list (by decide +kernel) (pa_cons (pv 6) pa_nil)))))))
        (pss_one (ps_ret (pe_lc (own := [("_law_left", 7), ("_law_right", 8), ("_law_seen", 9), ("_law_den", 10)]) rfl sc_law_swapped.nd (pi_list (pv 4)) (blkOk_by (own := [("_law_left", 7), ("_law_right", 8), ("_law_seen", 9), ("_law_den", 10)]) (N := N_law_swapped) (sc := defScope s_law_swapped) (by decide +kernel)) (fun _ _ _ _ _ => (pg_tupK (K := K) (n := 4) (by rfl) (pgs_cons (pg_name (i := 7) sc_law_swapped.nd rfl (Or.inl rfl)) (pgs_cons (pg_name (i := 8) sc_law_swapped.nd rfl (Or.inl rfl)) (pgs_cons (pg_name (i := 9) sc_law_swapped.nd rfl (Or.inl rfl)) (pgs_cons (pg_name (i := 10) sc_law_swapped.nd rfl (Or.inl rfl)) pgs_nil)))))) (fun _ _ _ _ _ => pts_nil) (fun _ _ _ _ _ => (pe_tup (pa_cons (pe_op op_add_str (pv 7) (pv 8)) (pa_cons (pv 9) (pa_cons (pv 10) pa_nil))))))))))), ?_⟩
    have eh : ((s.length : Nat) : Int) / 2 = ((1 : Nat) : Int) := by rw [hs]; rfl
    refine ⟨_, rfl, _, rfl, (by rw [bS_len]; exact sz (by omega)), _, _, rfl, rfl, ⟨by decide, by decide⟩, ?_⟩
    rw [bS_len]
    show gName 3 (V.int ((s.length : Int) / 2)) _ _ _
    rw [eh]
    refine ⟨_, rfl, _, rfl, _, rfl, _, rfl, (by rw [bS_len]; exact sz (by omega)), _, rfl, _, rfl, _, rfl, _, rfl, (by rw [bS_len]; exact sz (by omega)), _, rfl, sz (by simp), fun t0 nt0 => ⟨sz (by simp), fun D0 nD0 => ?_⟩⟩
    rw [cut_lo, cut_hi] at nD0 ⊢
    generalize hx0 : ((s.take 1, s.drop 1, sn, 1) : Fd) = x0 at q
    have gx0 : Gd 100 x0 := by rw [← hx0]; exact ⟨by simp; omega, by simp; omega, hus⟩
    have f0 : Fr [] H (upd H t0 (.tup [.str (bS (s.take 1)), .str (bS (s.drop 1)), .ref kn, .int 1])) := Fr.new nt0
    have f1 : Fr [] (upd H t0 (.tup [.str (bS (s.take 1)), .str (bS (s.drop 1)), .ref kn, .int 1])) (upd (upd H t0 (.tup [.str (bS (s.take 1)), .str (bS (s.drop 1)), .ref kn, .int 1])) D0 (.lst [.ref t0])) := Fr.new nD0
    have f01 := f0.trans f1
    have hfd0 : FdAt (upd (upd H t0 (.tup [.str (bS (s.take 1)), .str (bS (s.drop 1)), .ref kn, .int 1])) D0 (.lst [.ref t0])) (.ref t0) x0 := by
      rw [← hx0]
      exact ⟨t0, kn, rfl, f1.at upd_same, hkn.mono f01.2⟩
    have hD0 : (upd (upd H t0 (.tup [.str (bS (s.take 1)), .str (bS (s.drop 1)), .ref kn, .int 1])) D0 (.lst [.ref t0])) D0 = some (.lst [.ref t0]) := upd_same
    generalize (upd (upd H t0 (.tup [.str (bS (s.take 1)), .str (bS (s.drop 1)), .ref kn, .int 1])) D0 (.lst [.ref t0])) = H1 at f1 f01 hfd0 hD0
    refine ⟨_, rfl, _, rfl, by omega, by omega, for_range (lo := 0) (n := ((r : Nat) : Int).toNat) (fun i σ G => ∃ (y5 y6 y7 y8 y9 y10 y11 y12 y13 y14 : Option V) (D4 : Addr) (vs : List V), σ = [some (.str (bS s)), some (.ref kn), some (.int r), some (.int ((1 : Nat) : Int)), some (.ref D4), y5, y6, y7, y8, y9, y10, y11, y12, y13, y14, none] ∧ Fr [] H G ∧ G D4 = some (.lst vs) ∧ Paired (FdAt G) vs (foldS 1 (List.range i) [x0]))
      ⟨none, none, none, none, none, none, none, none, none, none, D0, [.ref t0], rfl, f01, hD0, .cons hfd0 .nil⟩ (fun i σ G hi h => ?_) (fun σ G h => ?_)⟩
    · obtain ⟨y5, y6, y7, y8, y9, y10, y11, y12, y13, y14, D4, vs, rfl, fG, hD4, hp⟩ := h
      have hir : i < r := by simpa using hi
      obtain ⟨fl, fg⟩ := fold_ok gx0 i
      have fl2 : (foldS 1 (List.range i) [x0]).length ≤ 16 := Nat.le_trans fl (Nat.pow_le_pow_right (n := 2) (by decide) (by omega : i ≤ 4))
      generalize hF : foldS 1 (List.range i) [x0] = Fs at hp fl2 fg
      have ek : (0 : Int) + (i : Int) = (i : Int) := by omega
      rw [ek]
      refine ⟨sz (by simp), fun o no => ?_⟩
      have fo : Fr [] G (upd G o (.lst [])) := Fr.new no
      refine ⟨_, rfl, D4, rfl, ⟨_, SqL.at (fo.at hD4)⟩, for_list (xs := vs) (fun j σ G2 => ∃ (y7 y8 y9 y10 y11 y12 y13 y14 : Option V) (ws : List V), σ = [some (.str (bS s)), some (.ref kn), some (.int r), some (.int ((1 : Nat) : Int)), some (.ref D4), some (.int (i : Int)), some (.ref o), y7, y8, y9, y10, y11, y12, y13, y14, none] ∧ Fr [] G G2 ∧ G2 o = some (.lst ws) ∧ Paired (FdAt G2) ws ((Fs.take j).flatMap (expS 1 i)))
        ⟨y7, y8, y9, y10, y11, y12, y13, y14, [], rfl, fo, upd_same, .nil⟩ (fun j σ G2 _ h => by obtain ⟨_, _, _, _, _, _, _, _, _, rfl, f2, _⟩ := h; exact SqL.at (f2.at hD4)) (fun j x σ G2 hx h => ?_) (fun σ G2 h => ?_)⟩
      · obtain ⟨y7, y8, y9, y10, y11, y12, y13, y14, ws, rfl, f2, ho, hpw⟩ := h
        have hj : j < Fs.length := by
          obtain ⟨hlt, _⟩ := List.getElem?_eq_some_iff.mp hx
          rw [← Paired.length hp]
          exact hlt
        obtain ⟨z, hz, t, kt, rfl, ht, hkt⟩ := paired_get hp j x0 hj
        rw [hz] at hx
        cases hx
        have hyj : Fs[j]? = some (Fs.getD j x0) := by rw [List.getD_eq_getElem?_getD, List.getElem?_eq_getElem hj]; rfl
        have hyg := fg _ (List.mem_of_getElem? hyj)
        generalize Fs.getD j x0 = y at ht hkt hyj hyg
        have wsl : ws.length ≤ 200 := by
          rw [Paired.length hpw]
          obtain ⟨e1, _⟩ := exp_len (n := 100 + i) (k := i) (f := Fs.take j) fun y hy => fg y (List.mem_of_mem_take hy)
          have e2 : (Fs.take j).length ≤ 16 := by rw [List.length_take]; omega
          omega
        obtain ⟨vl2, vok⟩ := vals_ok (k := i) hyg
        have ht2 := f2.at ht
        obtain ⟨xs, hxs, hpx⟩ := hkt.mono f2.2
        obtain ⟨g1, g2, g3⟩ := hyg
        have lxs : xs.length = y.2.2.1.length := Paired.length hpx
        have few := g3.few
        refine ⟨t, _, rfl, SqT.at ht2, rfl, _, _, rfl, _, _, rfl, _, _, rfl, _, _, rfl, rfl, ?_⟩
        refine ⟨_, rfl, kt, rfl, ⟨_, SqT.at hxs⟩, fun D11 nD11 => lc_fil (walk_tup (xs := xs)) (fun m => (y.2.2.1.getD m ((0, []), [])).1 == (i, y.2.1)) (fun m => rowV (y.2.2.1.getD m ((0, []), [])).2) nD11 (by omega) (fun G f => SqT.at (f.at hxs)) (fun m x G3 G3' hm fr hy R S r1 r2 => ?_) (fun G3 f3 hG3 => ?_)⟩
        · obtain ⟨rfl, hx⟩ := hy
          obtain ⟨u, hu, t', u', rfl, ht', hu'⟩ := paired_get hpx m ((0, []), []) (by omega)
          rw [hu] at hx
          cases hx
          have ht3 := fr.2 _ _ ht'
          have hu3 := fr.2 _ _ hu'
          refine ⟨rfl, _, rfl, t', _, 0, _, rfl, rfl, SqT.at ht3, atI_nat (j := 0) rfl, _, rfl, _, rfl, sz (by simp), fun w nw => ?_⟩
          have fw : Fr [] G3' (upd G3' w (.tup [.int (i : Int), .str (bS y.2.1)])) := Fr.new nw
          refine ⟨.tuple [.int ((y.2.2.1.getD m ((0, []), [])).1.1 : Int), .str (bS (y.2.2.1.getD m ((0, []), [])).1.2)], .tuple [.int (i : Int), .str (bS y.2.1)], .tup (SqT.at (fw.at hu3)) (.cons (.int _) (.cons (.str _) .nil)), .tup (SqT.at upd_same) (.cons (.int _) (.cons (.str _) .nil)), shaped_q _ _, shaped_q _ _, _, rfl, ?_⟩
          rw [eqv_q]
          cases hq : ((y.2.2.1.getD m ((0, []), [])).1 == (i, y.2.1)) with
          | true => exact iteTd rfl ⟨_, rfl, t', _, 1, _, rfl, rfl, SqT.at (fw.at ht3), atI_nat (j := 1) rfl, r1 hq _ fw⟩
          | false => exact iteFd rfl (r2 hq _ fw)
        · rw [lxs, fil_getF (fun x : (Nat × Bs) × Bs => rowV x.2) ((0, []), []) y.2.2.1 (fun x => x.1 == (i, y.2.1))] at hG3
          have hD11 : G3 D11 = some (.lst ((hits2 y.2.2.1 (i, y.2.1)).map rowV)) := by rw [hG3, hits2, List.map_map]; rfl
          clear hG3
          refine ⟨_, rfl, 1, rfl, by decide, fun G4 D12 f4 nD12 hD12 => ?_⟩
          try dsimp only
          refine seqJ (fun σ G5 => ∃ (Dv : Addr), σ = [some (.str (bS s)), some (.ref kn), some (.int r), some (.int ((1 : Nat) : Int)), some (.ref D4), some (.int (i : Int)), some (.ref o), some (.str (bS y.1)), some (.str (bS y.2.1)), some (.ref kt), some (.int y.2.2.2), some (.ref D11), some (.ref Dv), y13, y14, none] ∧ Fr [] G4 G5 ∧ G5 Dv = some (.lst ((valsS 1 i y).map rowV)) ∧ Dv ≠ o) (fun σ G5 h => ?_) (fun N hN => ?_)
          · obtain ⟨Dv, rfl, f5, hDv, nDo⟩ := h
            have f25 := (f3.trans f4).trans f5
            have ho5 := f25.at ho
            have hD115 := (f4.trans f5).at hD11
            have nDo2 : D11 ≠ o := fun z => by rw [z, ho] at nD11; cases nD11
            have hG5 := f2.trans f25
            refine ⟨_, rfl, Dv, rfl, ⟨_, SqL.at hDv⟩, for_list (xs := (valsS 1 i y).map rowV) (fun m σ G6 => ∃ (y13 y14 : Option V) (us : List V), σ = [some (.str (bS s)), some (.ref kn), some (.int r), some (.int ((1 : Nat) : Int)), some (.ref D4), some (.int (i : Int)), some (.ref o), some (.str (bS y.1)), some (.str (bS y.2.1)), some (.ref kt), some (.int y.2.2.2), some (.ref D11), some (.ref Dv), y13, y14, none] ∧ Fr [o] G5 G6 ∧ G6 o = some (.lst us) ∧ Paired (FdAt G6) us ((Fs.take j).flatMap (expS 1 i) ++ ((valsS 1 i y).take m).map (outS 1 i y)))
              ⟨y13, y14, ws, rfl, Fr.refl _ _, ho5, by rw [List.take_zero, List.map_nil, List.append_nil]; exact paired_map (fun a b h => h.mono f25.2) hpw⟩ (fun m σ G6 _ h => by obtain ⟨_, _, _, rfl, f6, _⟩ := h; exact SqL.at (f6.1 _ _ hDv (by simp; exact nDo))) (fun m x σ G6 hx h => ?_) (fun σ G6 h => ?_)⟩
            · obtain ⟨y13, y14, us, rfl, f6, ho6, hpu⟩ := h
              rw [List.getElem?_map] at hx
              cases hvm : (valsS 1 i y)[m]? with
              | none => rw [hvm] at hx; cases hx
              | some v =>
                rw [hvm] at hx
                cases hx
                have hm2 : m < 2 := by
                  obtain ⟨hlt, _⟩ := List.getElem?_eq_some_iff.mp hvm
                  omega
                obtain ⟨v1, _⟩ := vok v (List.mem_of_getElem? hvm)
                have usl : us.length ≤ 300 := by
                  rw [Paired.length hpu, List.length_append, List.length_map, ← Paired.length hpw, List.length_take]
                  omega
                have f56 : Tups G2 G6 := fun b xs e => f6.2 _ _ (f25.2 _ _ e)
                have hDv6 := f6.1 _ _ hDv (by simp; exact nDo)
                have hD116 := f6.1 _ _ hD115 (by simp; exact nDo2)
                refine ⟨_, rfl, ?_⟩
                try dsimp only
                refine seqJ (fun σ G7 => ∃ (kn3 : Addr), σ = [some (.str (bS s)), some (.ref kn), some (.int r), some (.int ((1 : Nat) : Int)), some (.ref D4), some (.int (i : Int)), some (.ref o), some (.str (bS y.1)), some (.str (bS y.2.1)), some (.ref kt), some (.int y.2.2.2), some (.ref D11), some (.ref Dv), some (rowV v), some (.ref kn3), none] ∧ Fr [] G6 G7 ∧ Kn2 G7 kn3 (nowS i y v)) (fun σ G7 h => ?_) (fun N hN => ?_)
                · obtain ⟨kn3, rfl, f7, hk3⟩ := h
                  have ho7 := f7.at ho6
                  refine ⟨_, rfl, .inl ⟨rfl, _, SqL.at ho7⟩, _, rfl, _, rfl, _, rfl, y.1, v, rfl, by omega, by omega, fun G8 f8 => ?_⟩
                  refine ⟨_, rfl, _, rfl, _, rfl, Dv, _, rfl, .inl (SqL.at ((f7.trans f8).at hDv6)), _, _, rfl, rfl, .inr ⟨by rw [List.length_map]; omega, by rw [List.length_map]; omega⟩, sz (by simp), fun t9 nt9 => ?_⟩
                  have f9 : Fr [] G8 (upd G8 t9 (.tup [.str (bS y.2.1), .str (bS (xorB y.1 v)), .ref kn3, .int ((y.2.2.2 : Int) * ((((valsS 1 i y).map rowV).length : Nat) : Int))])) := Fr.new nt9
                  have ho9 := (f8.trans f9).at ho7
                  have hout : FdAt (upd G8 t9 (.tup [.str (bS y.2.1), .str (bS (xorB y.1 v)), .ref kn3, .int ((y.2.2.2 : Int) * ((((valsS 1 i y).map rowV).length : Nat) : Int))])) (.ref t9) (outS 1 i y v) := by
                    refine ⟨t9, kn3, rfl, ?_, hk3.mono (f8.trans f9).2⟩
                    rw [upd_same]
                    unfold outS
                    rw [List.length_map, Int.natCast_mul]
                  have f69 := (f7.trans f8).trans f9
                  generalize upd G8 t9 _ = G9 at f9 ho9 hout f69
                  refine ⟨o, us, .ref t9, rfl, rfl, ho9, szl (by omega), ?_⟩
                  have hup : Tups G9 (upd G9 o (.lst (us ++ [.ref t9]))) := fun b xs e => by
                    rw [upd_ne (fun z => by rw [z, ho9] at e; cases e)]
                    exact e
                  refine ⟨_, _, us ++ [.ref t9], rfl, (f6.trans f69.of0).trans (Fr.put (by simp) ho9 rfl), upd_same, ?_⟩
                  rw [List.take_add_one, hvm, List.map_append, ← List.append_assoc]
                  exact paired_app (paired_map (fun a b h => (h.mono f69.2).mono hup) hpu) (.cons (hout.mono hup) .nil)
                · have hxs6 := f56 _ _ hxs
                  have hpx6 := paired_map (fun a b h => IsPr2.mono f56 h) hpx
                  refine ⟨_, rfl, sz (by simp), fun q0 nq0 => ⟨.list ((hits2 y.2.2.1 (i, y.2.1)).map strD), .list [], .lst (SqL.at ?_) (dp_strs _), .lst (SqL.at upd_same) .nil, shaped_strs _, rfl, _, rfl, ?_⟩⟩
                  · rw [upd_ne (ne_of_none hD116 nq0)]; exact hD116
                  have f7 : Fr [] G6 (upd G6 q0 (.lst [])) := Fr.new nq0
                  have hxs7 := f7.at hxs6
                  have hpx7 := paired_map (fun a b h => IsPr2.mono f7.2 h) hpx6
                  generalize upd G6 q0 (.lst []) = G7 at f7 hxs7 hpx7
                  rw [eqv_nil]
                  cases hh : hits2 y.2.2.1 (i, y.2.1) with
                  | nil =>
                    have en : nowS i y v = y.2.2.1 ++ [((i, y.2.1), v)] := if_pos hh
                    refine iteTd rfl ⟨_, rfl, _, rfl, _, rfl, sz (by simp), fun u1 nu1 => ⟨_, rfl, sz (by simp), fun u2 nu2 => ⟨sz (by simp), fun u3 nu3 => ?_⟩⟩⟩
                    have k1 : Fr [] G7 (upd G7 u1 (.tup [.int (i : Int), .str (bS y.2.1)])) := Fr.new nu1
                    have k2 : Fr [] (upd G7 u1 (.tup [.int (i : Int), .str (bS y.2.1)])) (upd (upd G7 u1 (.tup [.int (i : Int), .str (bS y.2.1)])) u2 (.tup [.ref u1, rowV v])) := Fr.new nu2
                    have hu1 := k2.at (show (upd G7 u1 (.tup [.int (i : Int), .str (bS y.2.1)])) u1 = some (.tup [.int (i : Int), .str (bS y.2.1)]) from upd_same)
                    have hu2 : (upd (upd G7 u1 (.tup [.int (i : Int), .str (bS y.2.1)])) u2 (.tup [.ref u1, rowV v])) u2 = some (.tup [.ref u1, rowV v]) := upd_same
                    have k12 := k1.trans k2
                    generalize (upd (upd G7 u1 (.tup [.int (i : Int), .str (bS y.2.1)])) u2 (.tup [.ref u1, rowV v])) = G8 at k2 hu1 hu2 k12 nu3
                    have k3 : Fr [] G8 (upd G8 u3 (.tup [.ref u2])) := Fr.new nu3
                    have hu3 : (upd G8 u3 (.tup [.ref u2])) u3 = some (.tup [.ref u2]) := upd_same
                    have k13 := k12.trans k3
                    have hpr : IsPr2 (upd G8 u3 (.tup [.ref u2])) (.ref u2) ((i, y.2.1), v) := ⟨u2, u1, rfl, k3.at hu2, k3.at hu1⟩
                    generalize upd G8 u3 (.tup [.ref u2]) = G9 at k3 hu3 k13 hpr
                    refine ⟨kt, u3, xs, [.ref u2], rfl, rfl, SqT.at (k13.at hxs7), SqT.at hu3, sz (by rw [lxs]; simp; omega), fun hx => ?_, fun _ h => (nomatch h), fun hx _ p np => ?_⟩
                    · subst hx
                      have hst : y.2.2.1 = [] := List.length_eq_zero_iff.mp (by rw [← lxs]; rfl)
                      refine hN _ _ ⟨u3, rfl, f7.trans k13, ?_⟩
                      rw [en, hst]
                      exact ⟨_, hu3, .cons hpr .nil⟩
                    · have g3' : Fr [] G9 (upd G9 p (.tup (xs ++ [.ref u2]))) := Fr.new np
                      refine hN _ _ ⟨p, rfl, (f7.trans k13).trans g3', ?_⟩
                      rw [en]
                      exact ⟨_, upd_same, paired_app (paired_map (fun a b h => IsPr2.mono (k13.trans g3').2 h) hpx7) (.cons (hpr.mono g3'.2) .nil)⟩
                  | cons a0 r0 =>
                    have en : nowS i y v = y.2.2.1 := if_neg (by rw [hh]; exact List.cons_ne_nil _ _)
                    refine iteFd rfl (hN _ _ ⟨kt, rfl, f7, ?_⟩)
                    rw [en]
                    exact ⟨xs, hxs7, hpx7⟩
            · obtain ⟨y13, y14, us, rfl, f6, ho6, hpu⟩ := h
              rw [List.length_map, List.take_of_length_le (Nat.le_refl _)] at hpu
              refine ⟨_, _, _, _, _, _, _, _, us, rfl, hG5.trans' f6 fun a ha => by rw [List.mem_singleton.mp ha]; exact .inr no, ho6, ?_⟩
              rw [flat_take hyj]
              exact hpu
          · have hD114 := f4.at hD11
            refine ⟨_, rfl, sz (by simp), fun q0 nq0 => ⟨.list ((hits2 y.2.2.1 (i, y.2.1)).map strD), .list [], .lst (SqL.at ?_) (dp_strs _), .lst (SqL.at upd_same) .nil, shaped_strs _, rfl, _, rfl, ?_⟩⟩
            · rw [upd_ne (ne_of_none hD114 nq0)]; exact hD114
            have f5 : Fr [] G4 (upd G4 q0 (.lst [])) := Fr.new nq0
            have hD115 := f5.at hD114
            have hD125 := f5.at hD12
            generalize upd G4 q0 (.lst []) = G5 at f5 hD115 hD125
            have nDo2 : D11 ≠ o := fun z => by rw [z, ho] at nD11; cases nD11
            have nDo3 : D12 ≠ o := fun z => by rw [z, f3.at ho] at nD12; cases nD12
            rw [eqv_nil]
            cases hh : hits2 y.2.2.1 (i, y.2.1) with
            | nil =>
              have ev : valsS 1 i y = bstrs 1 := if_pos hh
              exact iteFd rfl (hN _ _ ⟨D12, rfl, f5, by rw [ev]; exact hD125, nDo3⟩)
            | cons a0 r0 =>
              have ev : valsS 1 i y = hits2 y.2.2.1 (i, y.2.1) := if_neg (by rw [hh]; exact List.cons_ne_nil _ _)
              exact iteTd rfl ⟨_, rfl, hN _ _ ⟨D11, rfl, f5, by rw [ev]; exact hD115, nDo2⟩⟩
      · obtain ⟨y7, y8, y9, y10, y11, y12, y13, y14, ws, rfl, f2, ho, hpw⟩ := h
        rw [Paired.length hp, List.take_of_length_le (Nat.le_refl _)] at hpw
        refine ⟨_, rfl, o, ws, rfl, .inl (SqL.at ho), fun p np => ?_⟩
        have fp : Fr [] G2 (upd G2 p (.lst ws)) := Fr.new np
        refine ⟨_, _, _, _, _, _, _, _, _, _, p, ws, rfl, (fG.trans f2).trans fp, upd_same, ?_⟩
        rw [List.range_succ, foldS_snoc, hF]
        exact paired_map (fun a b h => h.mono fp.2) hpw
    · obtain ⟨y5, y6, y7, y8, y9, y10, y11, y12, y13, y14, D4, vs, rfl, fG, hD4, hp⟩ := h
      rw [Int.toNat_natCast] at hp
      obtain ⟨fl, fg⟩ := fold_ok gx0 r
      have fl2 : (foldS 1 (List.range r) [x0]).length ≤ 16 := Nat.le_trans fl (Nat.pow_le_pow_right (n := 2) (by decide) hr4)
      have lvs := Paired.length hp
      generalize hF : foldS 1 (List.range r) [x0] = Fs at hp fl2 fg q lvs
      refine ⟨_, rfl, D4, rfl, ⟨_, SqL.at hD4⟩, fun D nD => lc_it (walk_list (xs := vs)) (fun j G2 => Fr [] G G2 ∧ ∃ ws, G2 D = some (.lst ws) ∧ Paired (OutAt G2) ws (Fs.take j)) ⟨Fr.new nD, [], upd_same, .nil⟩ (fun j G2 _ p => SqL.at (p.1.at hD4)) ?_ (fun G2 p => ?_)⟩
      · intro j x G2 G2' hj p hy
        obtain ⟨rfl, hx⟩ := hy
        obtain ⟨f2, ws, hD, hpw⟩ := p
        have hj2 : j < Fs.length := by omega
        obtain ⟨z, hz, t, kt, rfl, ht, hkt⟩ := paired_get hp j x0 hj2
        rw [hz] at hx
        cases hx
        have hyj : Fs[j]? = some (Fs.getD j x0) := by rw [List.getD_eq_getElem?_getD, List.getElem?_eq_getElem hj2]; rfl
        obtain ⟨g1, g2, g3⟩ := fg _ (List.mem_of_getElem? hyj)
        generalize Fs.getD j x0 = y at ht hkt hyj g1 g2 g3
        have wsl : ws.length ≤ 16 := by rw [Paired.length hpw, List.length_take]; omega
        refine ⟨t, _, rfl, SqT.at (f2.at ht), rfl, _, _, rfl, _, _, rfl, _, _, rfl, _, _, rfl, rfl, rfl, yesT ⟨_, rfl, _, rfl, _, _, rfl, rfl, by rw [bS_len, bS_len]; exact sz (by omega), _, rfl, _, rfl, sz (by simp), fun u nu => ?_⟩⟩
        rw [bS_app]
        have fu : Fr [] G2' (upd G2' u (.tup [.str (bS (y.1 ++ y.2.1)), .ref kt, .int y.2.2.2])) := Fr.new nu
        have hou : OutAt (upd G2' u (.tup [.str (bS (y.1 ++ y.2.1)), .ref kt, .int y.2.2.2])) (.ref u) y := ⟨u, kt, rfl, upd_same, hkt.mono (f2.trans fu).2⟩
        have hDu := fu.at hD
        generalize upd G2' u (.tup [.str (bS (y.1 ++ y.2.1)), .ref kt, .int y.2.2.2]) = G3 at fu hou hDu
        have hup : Tups G3 (upd G3 D (.lst (ws ++ [.ref u]))) := fun b xs e => by
          rw [upd_ne (fun z => by rw [z, hDu] at e; cases e)]
          exact e
        refine ⟨ws, hDu, szl (by omega), (f2.trans fu).own nD, ws ++ [.ref u], upd_same, ?_⟩
        rw [List.take_add_one, hyj]
        exact paired_app (paired_map (fun a b h => (h.mono fu.2).mono hup) hpw) (.cons (hou.mono hup) .nil)
      · obtain ⟨f2, ws, hD, hpw⟩ := p
        rw [List.take_of_length_le (by omega)] at hpw
        exact q G2 D ws (fG.trans f2) (fG.free nD) hD hpw
end
end BK
/-! Breakback k27: the law goes through all swaps of a breaker. -/
namespace BK
open PySem PySem.Spec PyProof.Rows L2 He
theorem exp_den {n k d : Nat} {f : List Fd} (h : ∀ y, y ∈ f → Gd n y ∧ y.2.2.2 ≤ d) : ∀ y, y ∈ f.flatMap (expS 1 k) → y.2.2.2 ≤ d * 2 := by
  intro y hy
  obtain ⟨z, hz, hy⟩ := List.mem_flatMap.mp hy
  obtain ⟨v, hv, rfl⟩ := List.mem_map.mp hy
  obtain ⟨h1, h2⟩ := h z hz
  exact Nat.mul_le_mul h2 (vals_ok (k := k) h1).1
theorem fold_den {n : Nat} {a b : Bs} {sn : Tl2} (h : Gd n ((a, b, sn, 1) : Fd)) : ∀ i, ∀ y, y ∈ foldS 1 (List.range i) [(a, b, sn, 1)] → y.2.2.2 ≤ 2 ^ i
  | 0 => fun y hy => by simp [foldS] at hy; rw [hy]; exact Nat.le_refl _
  | i + 1 => fun y hy => by
    rw [List.range_succ, foldS_snoc] at hy
    rw [Nat.pow_succ]
    exact exp_den (fun z hz => ⟨(fold_ok h i).2 z hz, fold_den h i z hz⟩) y hy
section
variable {P : Program} {w : World} {K : PySem.W.Frag} {mg : Str → Option Value} {base : Heap}
def evS (b : B) (hd : Bs) (sts : List Tl) (D : Nat) : List Nat := (play (ansS 1) b hd sts).ev D
structure SwOk (sn : Tl2) (sts : List Tl) (r n : Nat) : Prop where
  us : ∃ m, Us sn m ∧ m + 4 * n ≤ 100
  rel : RelS sn sts
  vl : Vl 1 sts
  len : sts.length = r
  r4 : r ≤ 4
theorem SwOk.le {sn : Tl2} {sts : List Tl} {r n m : Nat} (h : SwOk sn sts r n) (l : m ≤ n) : SwOk sn sts r m := by
  obtain ⟨k, h1, h2⟩ := h.us
  exact ⟨⟨k, h1, by omega⟩, h.rel, h.vl, h.len, h.r4⟩
def spLSwpg : Nat → Sp
  | 0 => fun _ _ _ _ => False
  | n + 1 => fun vs H Q _ => ∃ (v : V) (kn sh cd : Addr) (rr D : Nat) (hd : Bs) (b : B) (sts : List Tl) (sn : Tl2) (done : List Nat), vs = [v, .str (bS hd), .ref kn, .int D, .ref sh, .ref cd] ∧ IsB H v b ∧ Wf n b ∧ Kn2 H kn sn ∧ H sh = some (.tup [.int 1, .int rr]) ∧ SwOk sn sts rr n ∧
    H cd = some (.dK (toD (notes done))) ∧ hd.length + 40 * n ≤ 400 ∧ (done ++ evS b hd sts D).length ≤ 300000 ∧ ∀ H', Fr [cd] H H' → H' cd = some (.dK (toD (notes (done ++ evS b hd sts D)))) → Q .non H'
theorem k_law_swapping (F : Fx K w mg) : ∀ n : Nat, Kp P w K mg base (4 + n) "_law_swapping" ["_law_breaker_here", "_law_handed", "_law_known", "_law_den", "_law_shape", "_law_counts"] (spLSwpg n)
  | 0 => by
    obtain ⟨fd, D⟩ := F.d_law_swapping
    exact ⟨F.g__law_swapping, D.kp, fd, FnOkOf (k := 3) D sc_law_swapping (fun vs H Q E h => h.elim) (fun cdv A outer s H vs Q E hr h => h.elim), D.bindsN (fun _ _ _ _ _ _ us hl => match us, hl with | [_, _, _, _, _, _], _ => rfl)⟩
  | n + 1 => by
    have k_law_swapping : Kp P w K mg base (4 + n) _ _ _ := k_law_swapping F n
    have k_law_made : Kp P w K mg base 1 _ _ _ := k_law_made F
    have k_law_note : Kp P w K mg base 1 _ _ _ := k_law_note F
    have k_law_swapped : Kp P w K mg base 3 _ _ _ := k_law_swapped F
    refine kp_of (k := 4 + n) F.d_law_swapping F.g__law_swapping sc_law_swapping (fun _ _ _ _ _ _ us hl => match us, hl with | [_, _, _, _, _, _], _ => rfl) (fun vs H Q E h => ?_) (fun cdv A outer s H vs Q E hr h => ?_)
    · obtain ⟨v, kn, sh, cd, rr, D, hd, b, sts, sn, done, rfl, _⟩ := h
      rfl
    · obtain ⟨v, kn, sh, cd, rr, D, hd, b, sts, sn, done, rfl, hb, wf, hkn, hsh, sw, hcd, s1, s4, q⟩ := h
      refine ⟨_, (pss_one (ps_if (pt_cmpR op_eq (pe_ix (r := rIxT K) ix_tup (pv 0) pe_int (fun _ _ => rfl)) pe_str (nomark _))
            (pss_one (ps_if (pt_cmpR op_eq (pe_k k_law_made (hr.mono (by omega)) (pa_cons (pe_ix (r := rIxT K) ix_tup (pv 0) pe_int (fun _ _ => rfl)) (pa_cons (pv 1) pa_nil))) pe_str (nomark _))
              (pss_one (ps_expr (pe_k k_law_note (hr.mono (by omega)) (pa_cons (pv 5) (pa_cons (pv 3) pa_nil)))))
              pss_nil))
            (pss_one (ps_if (pt_cmpR op_eq (pe_ix (r := rIxT K) ix_tup (pv 0) pe_int (fun _ _ => rfl)) pe_str (nomark _))
              (pss_one (ps_for PassesOwn.never rfl (pi_tup (pe_ix (r := rIxT K) ix_tup (pv 0) pe_int (fun _ _ => rfl))) (pg_name (i := 6) sc_law_swapping.nd rfl (Or.inl rfl))
                (pss_one (ps_expr (pe_k k_law_swapping (hr.mono (by omega)) (pa_cons (pv 6) (pa_cons (pv 1) (pa_cons (pv 2) (pa_cons (pe_op op_mul (pv 3) (pe_callB call_len_seq (by rfl) F.b_len (by decide +kernel) (pa_cons (pe_ix (r := rIxT K) ix_tup (pv 0) pe_int (fun _ _ => rfl)) pa_nil))) (pa_cons (pv 4) (pa_cons (pv 5) pa_nil)))))))))))
              (pss_one (ps_if (pt_cmpR op_eq (pe_ix (r := rIxT K) ix_tup (pv 0) pe_int (fun _ _ => rfl)) pe_str (nomark _))
                (pss_one (ps_expr (pe_k k_law_swapping (hr.mono (by omega)) (pa_cons (pe_ix (r := rIxT K) ix_tup (pv 0) (pe_op op_add pe_int (pe_callTy call_int_str (by rfl) F.b_int (by decide +kernel) (pa_cons (pe_k k_law_made (hr.mono (by omega)) (pa_cons (pe_tup (pa_cons (pe_ix (r := rIxT K) ix_tup (pv 0) pe_int (fun _ _ => rfl)) pa_nil)) (pa_cons (pv 1) pa_nil))) pa_nil))) (fun _ _ => rfl)) (pa_cons (pv 1) (pa_cons (pv 2) (pa_cons (pv 3) (pa_cons (pv 4) (pa_cons (pv 5) pa_nil)))))))))
                (pss_cons (ps_set (i := 7) sc_law_swapping.nd rfl (Or.inl rfl) (pe_k k_law_made (hr.mono (by omega)) (pa_cons (pe_ix (r := rIxT K) ix_tup (pv 0) pe_int (fun _ _ => rfl)) (pa_cons (pv 1) pa_nil))))
                (pss_one (ps_if (pt_cmpR op_ne (pe_callB call_len_str (by rfl) F.b_len (by decide +kernel) (pa_cons (pv 7) pa_nil)) (pe_op op_mul pe_int (pe_ix (r := rIxT K) ix_tup (pv 4) pe_int (fun _ _ => rfl))) (nomark _))
                  (pss_one (ps_expr (pe_k k_law_swapping (hr.mono (by omega)) (pa_cons (pe_ix (r := rIxT K) ix_tup (pv 0) pe_int (fun _ _ => rfl)) (pa_cons (pv 1) (pa_cons (pv 2) (pa_cons (pv 3) (pa_cons (pv 4) (pa_cons (pv 5) pa_nil)))))))))
                  (pss_one (ps_for PassesOwn.never rfl (pi_list (pe_k k_law_swapped (hr.mono (by omega)) (pa_cons (pv 7) (pa_cons (pv 2) (pa_cons (pe_ix (r := rIxT K) ix_tup (pv 4) pe_int (fun _ _ => rfl)) pa_nil))))) (pg_tupK (K := K) (n := 3) (by rfl) (pgs_cons (pg_name (i := 8) sc_law_swapping.nd rfl (Or.inl rfl)) (pgs_cons (pg_name (i := 9) sc_law_swapping.nd rfl (Or.inl rfl)) (pgs_cons (pg_name (i := 10) sc_law_swapping.nd rfl (Or.inl rfl)) pgs_nil))))
                    (pss_one (ps_expr (pe_k k_law_swapping (hr.mono (by omega)) (pa_cons (pe_ix (r := rIxT K) ix_tup (pv 0) pe_int (fun _ _ => rfl)) (pa_cons (pe_op op_add_str (pv 1) (pv 8)) (pa_cons (pv 9) (pa_cons (pe_op op_mul (pv 3) (pv 10)) (pa_cons (pv 4) (pa_cons (pv 5) pa_nil)))))))))))))))))))), ?_⟩
      cases b with
      | say ps =>
        obtain ⟨a, p, rfl, h1, h2⟩ := hb
        refine ⟨_, rfl, a, _, 0, _, rfl, rfl, SqT.at h1, atI_nat (j := 0) rfl, rfl, _, rfl, iteTd d_say_say ?_⟩
        refine ⟨_, rfl, a, _, 1, _, rfl, rfl, SqT.at h1, atI_nat (j := 1) rfl, _, rfl, p, ps, hd, rfl, h2, wf.1, by omega, rfl, _, rfl, ?_⟩
        rw [bS_1, bS_dec]
        by_cases e : made ps hd = [true]
        · have ee : evS (.say ps) hd sts D = [D] := by
            show (if (made ps hd == [true]) = true then [D] else []) = [D]
            rw [e]; rfl
          rw [ee] at q s4
          refine iteTd (decide_eq_true e) ⟨_, rfl, _, rfl, cd, notes done, D, rfl, hcd, notes_nodup _, Nat.le_trans (notes_len done) (by rw [List.length_append] at s4; omega), fun H1 f1 hcd1 => ?_⟩
          exact q H1 f1 (by rw [notes_app]; exact hcd1)
        · have ee : evS (.say ps) hd sts D = [] := by
            show (if (made ps hd == [true]) = true then [D] else []) = []
            rw [beq_eq_false_iff_ne.mpr e]; rfl
          rw [ee, List.append_nil] at q
          exact iteFd (decide_eq_false e) (q H (Fr.refl _ _) hcd)
      | toss m f =>
        obtain ⟨a, p, xs, rfl, h1, h2, h3, h4⟩ := hb
        obtain ⟨e, rfl, w1, w2, w3⟩ := wf
        have ee : evS (.toss m f) hd sts D = (List.range m).flatMap fun i => evS (f i) hd sts (D * m) := rfl
        rw [ee] at q s4
        refine ⟨_, rfl, a, _, 0, _, rfl, rfl, SqT.at h1, atI_nat (j := 0) rfl, rfl, _, rfl, iteFd d_toss_say ?_⟩
        refine ⟨_, rfl, a, _, 0, _, rfl, rfl, SqT.at h1, atI_nat (j := 0) rfl, rfl, _, rfl, iteTd d_toss_toss ?_⟩
        refine ⟨_, rfl, a, _, 1, _, rfl, rfl, SqT.at h1, atI_nat (j := 1) rfl, p, rfl, ⟨_, SqT.at h2⟩, for_tup (xs := xs) (fun i σ G => ∃ y, σ = [some (.ref a), some (.str (bS hd)), some (.ref kn), some (.int D), some (.ref sh), some (.ref cd), y, none, none, none, none] ∧ Fr [cd] H G ∧ G cd = some (.dK (toD (notes (done ++ (List.range i).flatMap fun i => evS (f i) hd sts (D * m))))))
          ⟨none, rfl, Fr.refl _ _, by simpa using hcd⟩ (fun i σ G _ h => by obtain ⟨y, rfl, fG, hG⟩ := h; exact SqT.at (fG.2 _ _ h2)) (fun i x σ G hx h => ?_) (fun σ G h => ?_)⟩
        · obtain ⟨y, rfl, fG, hG⟩ := h
          have hi : i < m := by
            obtain ⟨hlt, _⟩ := List.getElem?_eq_some_iff.mp hx
            omega
          obtain ⟨z, h5, h6⟩ := h4 i hi
          rw [h5] at hx
          cases hx
          have hir : (List.range m)[i]? = some i := by simp [hi]
          have hlen := flat_len_at (f := fun i => evS (f i) hd sts (D * m)) hir
          rw [range_take (Nat.le_of_lt hi)] at hlen
          refine ⟨_, rfl, _, rfl, _, rfl, _, rfl, _, rfl, a, _, 1, _, rfl, rfl, SqT.at (fG.2 _ _ h1), atI_nat (j := 1) rfl, p, _, rfl, .inr (SqT.at (fG.2 _ _ h2)), _, _, rfl, rfl, .inr ⟨by omega, by omega⟩, _, rfl, _, rfl, ?_⟩
          refine ⟨_, kn, sh, cd, rr, D * m, hd, f i, sts, sn, done ++ (List.range i).flatMap (fun i => evS (f i) hd sts (D * m)), ?_, h6.fr fG, w3 i hi, hkn.mono fG.2, fG.2 _ _ hsh, sw.le (by omega), hG, by omega, ?_, fun G2 f2 hG2 => ?_⟩
          · rw [h3, Int.natCast_mul]; rfl
          · rw [List.length_append, List.length_append]
            rw [List.length_append] at s4
            omega
          · refine ⟨some _, rfl, fG.trans f2, ?_⟩
            rw [flat_range, ← List.append_assoc]
            exact hG2
        · obtain ⟨y, rfl, fG, hG⟩ := h
          rw [h3] at hG
          exact q G fG hG
      | look m b c =>
        obtain ⟨a, x, y, rfl, h1, h2, h3⟩ := hb
        obtain ⟨e, rfl, w1, w2, w3⟩ := wf
        refine ⟨_, rfl, a, _, 0, _, rfl, rfl, SqT.at h1, atI_nat (j := 0) rfl, rfl, _, rfl, iteFd d_look_say ?_⟩
        refine ⟨_, rfl, a, _, 0, _, rfl, rfl, SqT.at h1, atI_nat (j := 0) rfl, rfl, _, rfl, iteFd d_look_toss ?_⟩
        refine ⟨_, rfl, a, _, 0, _, rfl, rfl, SqT.at h1, atI_nat (j := 0) rfl, rfl, _, rfl, iteTd d_look_look ?_⟩
        refine ⟨_, rfl, _, rfl, a, _, 1, _, rfl, rfl, SqT.at h1, atI_nat (j := 1) rfl, sz (by simp), fun t nt => ⟨_, rfl, t, [.nm m], hd, rfl, upd_same, by simp, by omega, ?_⟩⟩
        have f1 : Fr [] H (upd H t (.tup [.int m])) := Fr.new nt
        have em : made [.nm m] hd = [got hd m] := rfl
        rw [em]
        have hkn1 := hkn.mono f1.2
        have h11 := f1.at h1
        have hsh1 := f1.at hsh
        have hcd1 := f1.at hcd
        have hb1 := h2.fr f1
        have hc1 := h3.fr f1
        generalize upd H t (.tup [.int m]) = H1 at f1 hkn1 h11 hsh1 hcd1 hb1 hc1
        have ee : evS (.look m b c) hd sts D = if got hd m = true then evS c hd sts D else evS b hd sts D := by
          show (if got hd m = true then play (ansS 1) c hd sts else play (ansS 1) b hd sts).ev D = _
          split <;> rfl
        rw [ee] at q s4
        cases hg : got hd m with
        | true =>
          rw [if_pos hg] at q s4
          exact ⟨_, _, rfl, int_bit true, by rw [bS_len]; decide, _, _, rfl, rfl, a, _, (3 : Nat), y, rfl, rfl, SqT.at h11, atI_nat (j := 3) rfl, _, rfl, _, rfl, _, rfl, _, rfl, _, rfl,
            y, kn, sh, cd, rr, D, hd, c, sts, sn, done, rfl, hc1, w3, hkn1, hsh1, sw.le (by omega), hcd1, by omega, s4, fun G2 f2 hG2 => q G2 (f1.of0.trans f2) hG2⟩
        | false =>
          rw [if_neg (by rw [hg]; decide)] at q s4
          exact ⟨_, _, rfl, int_bit false, by rw [bS_len]; decide, _, _, rfl, rfl, a, _, (2 : Nat), x, rfl, rfl, SqT.at h11, atI_nat (j := 2) rfl, _, rfl, _, rfl, _, rfl, _, rfl, _, rfl,
            x, kn, sh, cd, rr, D, hd, b, sts, sn, done, rfl, hb1, w2, hkn1, hsh1, sw.le (by omega), hcd1, by omega, s4, fun G2 f2 hG2 => q G2 (f1.of0.trans f2) hG2⟩
      | ask ps b =>
        obtain ⟨a, p, x, rfl, h1, h2, h3⟩ := hb
        obtain ⟨e, rfl, w1, w2⟩ := wf
        refine ⟨_, rfl, a, _, 0, _, rfl, rfl, SqT.at h1, atI_nat (j := 0) rfl, rfl, _, rfl, iteFd d_ask_say ?_⟩
        refine ⟨_, rfl, a, _, 0, _, rfl, rfl, SqT.at h1, atI_nat (j := 0) rfl, rfl, _, rfl, iteFd d_ask_toss ?_⟩
        refine ⟨_, rfl, a, _, 0, _, rfl, rfl, SqT.at h1, atI_nat (j := 0) rfl, rfl, _, rfl, iteFd d_ask_look ?_⟩
        refine ⟨_, rfl, a, _, 1, _, rfl, rfl, SqT.at h1, atI_nat (j := 1) rfl, _, rfl, p, ps, hd, rfl, h2, w1.1, by omega, ?_⟩
        have lm : (made ps hd).length ≤ 100 := by rw [made_len]; exact w1.1
        refine ⟨_, rfl, _, rfl, (by rw [bS_len]; exact sz (by omega)), _, rfl, sh, _, 0, _, rfl, rfl, SqT.at hsh, atI_nat (j := 0) rfl, _, _, rfl, rfl, .inl ⟨by decide, by decide⟩, rfl, _, rfl, ?_⟩
        by_cases e2 : (made ps hd).length = 2
        · have ee : evS (.ask ps b) hd sts D = (goS 1 sts ((made ps hd).take 1) ((made ps hd).drop 1)).lvs.flatMap fun l => evS b (hd ++ (l.2.1.1 ++ l.2.1.2)) l.2.2 (D * prodD 1 l.1) := evS_on e2
          refine iteFd (by show (!decide (V.int ((bS (made ps hd)).length : Int) = V.int (2 * 1))) = false; rw [bS_len, e2]; rfl) ?_
          have par := fold_leaves 1 rr 0 sts ((made ps hd).take 1) ((made ps hd).drop 1) sn 1 (by rw [sw.len]; omega) (by simp; omega) (by simp; omega) sw.vl sw.rel
          rw [List.drop_zero, ← List.range_eq_range'] at par
          obtain ⟨m, us, hm⟩ := sw.us
          have gx0 : Gd m (((made ps hd).take 1, (made ps hd).drop 1, sn, 1) : Fd) := ⟨by simp; omega, by simp; omega, us⟩
          obtain ⟨fl, fg⟩ := fold_ok gx0 rr
          have fd := fold_den gx0 rr
          generalize hms : made ps hd = ms at ee par gx0 fl fg lm e2 fd
          generalize hL : (goS 1 sts (ms.take 1) (ms.drop 1)).lvs = Ls at ee par
          generalize hF : foldS 1 (List.range rr) [(ms.take 1, ms.drop 1, sn, 1)] = Fs at par fl fg fd
          have h16 : (2 : Nat) ^ rr ≤ 16 := Nat.pow_le_pow_right (n := 2) (by decide) sw.r4
          rw [ee] at q s4
          have r4 := sw.r4
          have fl2 : Fs.length ≤ 16 := Nat.le_trans fl (Nat.pow_le_pow_right (n := 2) (by decide) r4)
          refine ⟨_, rfl, _, rfl, _, rfl, sh, _, 1, _, rfl, rfl, SqT.at hsh, atI_nat (j := 1) rfl, kn, rr, ms, sn, rfl, hkn, e2, r4, ⟨us.one, us.len, Nat.le_trans us.few (by omega)⟩, fun G D1 vs f1 nD1 hD1 hpv => ?_⟩
          rw [hF] at hpv
          have ncd : D1 ≠ cd := fun z => by rw [z, hcd] at nD1; cases nD1
          refine ⟨D1, rfl, ⟨_, SqL.at hD1⟩, for_list (xs := vs) (fun i σ G2 => ∃ y8 y9 y10, σ = [some (.ref a), some (.str (bS hd)), some (.ref kn), some (.int D), some (.ref sh), some (.ref cd), none, some (.str (bS ms)), y8, y9, y10] ∧ Fr [cd] G G2 ∧ G2 cd = some (.dK (toD (notes (done ++ (Ls.take i).flatMap fun l => evS b (hd ++ (l.2.1.1 ++ l.2.1.2)) l.2.2 (D * prodD 1 l.1))))))
            ⟨none, none, none, rfl, Fr.refl _ _, by simpa using f1.at hcd⟩ (fun i σ G2 _ h => by obtain ⟨_, _, _, rfl, f2, _⟩ := h; exact SqL.at (f2.1 _ _ hD1 (by simp; exact ncd))) (fun i z σ G2 hz h => ?_) (fun σ G2 h => ?_)⟩
          · obtain ⟨y8, y9, y10, rfl, f2, hG⟩ := h
            have hi : i < Fs.length := by
              obtain ⟨hlt, _⟩ := List.getElem?_eq_some_iff.mp hz
              rw [← Paired.length hpv]
              exact hlt
            obtain ⟨z', hz', t, kt, rfl, ht, hkt⟩ := paired_get hpv i ([], [], [], 0) hi
            rw [hz'] at hz
            cases hz
            have hyj : Fs[i]? = some (Fs.getD i ([], [], [], 0)) := by rw [List.getD_eq_getElem?_getD, List.getElem?_eq_getElem hi]; rfl
            obtain ⟨g1, g2, g3⟩ := fg _ (List.mem_of_getElem? hyj)
            obtain ⟨lf, hlf, p1, p2, p3, p4, p5, p6⟩ := par.get hyj
            generalize Fs.getD i ([], [], [], 0) = y at ht hkt hyj g1 g2 g3 p1 p2 p3 p4
            rw [List.take_zero, List.nil_append] at p4 p5 p6
            have hlen := flat_len_at (f := fun l : Dr × ((Bs × Bs) × List Tl) => evS b (hd ++ (l.2.1.1 ++ l.2.1.2)) l.2.2 (D * prodD 1 l.1)) hlf
            have fT := (f1.of0.trans f2)
            refine ⟨t, _, rfl, SqT.at (f2.2 _ _ ht), rfl, _, _, rfl, _, _, rfl, _, _, rfl, rfl, ?_⟩
            refine ⟨_, rfl, a, _, 2, _, rfl, rfl, SqT.at (fT.2 _ _ h1), atI_nat (j := 2) rfl, _, rfl, _, rfl, _, _, rfl, rfl, by rw [bS_len, bS_len]; exact sz (by simp; omega), _, rfl, _, rfl, _, rfl, _, _, rfl, rfl, .inr ⟨?_, ?_⟩, _, rfl, _, rfl, ?_⟩
            · have := fd y (List.mem_of_getElem? hyj)
              omega
            · have := fd y (List.mem_of_getElem? hyj)
              omega
            · have ln : (hd ++ (lf.2.1.1 ++ lf.2.1.2)).length ≤ hd.length + 2 := by rw [← p1, ← p2]; simp; omega
              refine ⟨x, kt, sh, cd, rr, D * prodD 1 lf.1, hd ++ (lf.2.1.1 ++ lf.2.1.2), b, lf.2.2, y.2.2.1, done ++ (Ls.take i).flatMap (fun l => evS b (hd ++ (l.2.1.1 ++ l.2.1.2)) l.2.2 (D * prodD 1 l.1)), ?_, h3.fr fT, w2, hkt.mono f2.2, fT.2 _ _ hsh, ⟨⟨m + rr, g3, by omega⟩, p4, p6, p5.trans sw.len, r4⟩, hG, by omega, ?_, fun G3 f3 hG3 => ⟨_, _, _, rfl, f2.trans f3, ?_⟩⟩
              · have eb : bS hd ++ bS (y.1 ++ y.2.1) = bS (hd ++ (y.1 ++ y.2.1)) := bS_app _ _
                rw [← p1, ← p2, ← p3, Int.natCast_mul, ← eb]
                rfl
              · rw [List.length_append, List.length_append]
                rw [List.length_append] at s4
                omega
              · rw [flat_take hlf, ← List.append_assoc]
                exact hG3
          · obtain ⟨_, _, _, rfl, f2, hG⟩ := h
            rw [List.take_of_length_le (by rw [Paired.length hpv, par.len]; exact Nat.le_refl _)] at hG
            exact q G2 (f1.of0.trans f2) hG
        · have ee : evS (.ask ps b) hd sts D = evS b hd sts D := evS_off e2
          rw [ee] at q s4
          refine iteTd (by show (!decide (V.int ((bS (made ps hd)).length : Int) = V.int (2 * 1))) = true; rw [bS_len]; simp; omega) ?_
          exact ⟨_, rfl, a, _, 2, _, rfl, rfl, SqT.at h1, atI_nat (j := 2) rfl, _, rfl, _, rfl, _, rfl, _, rfl, _, rfl, x, kn, sh, cd, rr, D, hd, b, sts, sn, done, rfl, h3, w2, hkn, hsh, sw.le (by omega), hcd, by omega, s4, fun G2 f2 hG2 => q G2 f2 hG2⟩
end
end BK
/-! Breakback k27: the law. -/
namespace BK
open PySem PySem.Spec PyProof.Rows L2 He
def Near (x y : Rat) (a c : Int) : Prop := (((x - y).num.natAbs : Nat) : Int) * c ≤ a * ((x - y).den : Int)
def evG (g : Gm) (b : B) : List Nat := (g.tree b).ev 1
def prG (g : Gm) (b : B) : Rat := pr1 (evG g b)
/-- what is asked of the plain part -/
structure Laws : Prop where
  tree : ∀ (g : Gm) (b : B), g.ok → Wf 3 b → TreeOk (g.tree b)
  perm : ∀ (l : Nat) (b : B), 1 ≤ l → l ≤ 2 → Wf 3 b → qB b ≤ 2 → Near (prG (.fn l) b) (prG (.perm l) b) ((qB b : Int) * ((qB b : Int) - 1)) (2 * 2 ^ l)
  swap : ∀ (b : B), Wf 3 b → qB b ≤ 2 → Near (prG (.fn 2) b) (prG (.swaps 3) b) ((qB b : Int) * ((qB b : Int) - 1)) 2
theorem prG_small (M : Laws) {g : Gm} {b : B} (ok : g.ok) (wf : Wf 3 b) : (prG g b).num.natAbs < 2 ^ 120 ∧ (prG g b).den < 2 ^ 120 := by
  obtain ⟨v1, v2⟩ := ev_ok (M.tree g b ok wf)
  have nok := notes_okN ((g.tree b).ev 1)
  have := sum_small2 (l := notes ((g.tree b).ev 1)) (fun p hp => ⟨(v2 _ (nok.keys _ (List.mem_map.mpr ⟨p, hp, rfl⟩))).1, Nat.le_trans (nok.cnts p hp) v1⟩) (Nat.le_trans nok.len v1)
  rw [sum_notes fun D hD => (v2 D hD).2] at this
  exact this
theorem sub_small {x y : Rat} (h1 : x.num.natAbs < 2 ^ 120) (h2 : x.den < 2 ^ 120) (h3 : y.num.natAbs < 2 ^ 120) (h4 : y.den < 2 ^ 120) : (x - y).num.natAbs < 2 ^ 300 ∧ (x - y).den < 2 ^ 300 := by
  have c1 : (x.num * (y.den : Int)).natAbs < 2 ^ 240 := wide_lt (a := 120) (b := 120) h1 (by rw [Int.natAbs_natCast]; exact h4)
  have c2 : (y.num * (x.den : Int)).natAbs < 2 ^ 240 := wide_lt (a := 120) (b := 120) h3 (by rw [Int.natAbs_natCast]; exact h2)
  have c3 : x.den * y.den < 2 ^ 240 := by
    have : x.den * y.den < 2 ^ 120 * 2 ^ 120 := Nat.mul_lt_mul'' h2 h4
    rw [← Nat.pow_add] at this
    exact this
  have c4 : (x.num * (y.den : Int) - y.num * (x.den : Int)).natAbs ≤ 2 ^ 240 + 2 ^ 240 := by
    have := Int.natAbs_sub_le (x.num * (y.den : Int)) (y.num * (x.den : Int))
    omega
  have hne : x.den * y.den ≠ 0 := Nat.mul_ne_zero x.den_nz y.den_nz
  rw [Rat.sub_def']
  exact ⟨Nat.lt_of_le_of_lt (mk_num_le hne c4) (by decide), Nat.lt_of_le_of_lt (mk_den_le hne (Nat.le_of_lt c3)) (by decide)⟩
section
variable {P : Program} {w : World} {K : PySem.W.Frag} {mg : Str → Option Value} {base : Heap}
def spLaw (K : PySem.W.Frag) : Sp := fun vs H Q _ => ∃ (sc : Addr) (ns : List Int), vs = [.ref sc] ∧ (SqL K H sc (ns.map V.int) ∨ SqT K H sc (ns.map V.int)) ∧ ∀ H', Q (.bl true) H'
theorem k_law (F : Fx K w mg) (M : Laws) {fd : FuncData} (D : FunD K "law" "law" (defArgs s_law) (defBody s_law) (defScope s_law) [] [] (ga K "law") fd) : FnOk P w K mg base CX0 14 (ga K "law") fd ["_law_script"] (spLaw K) := by
  have k_law_tape : Kp P w K mg base 1 _ _ _ := k_law_tape F
  have k_law_draw : Kp P w K mg base 2 _ _ _ := k_law_draw F
  have k_law_pick : Kp P w K mg base 3 _ _ _ := k_law_pick F
  have k_law_function : Kp P w K mg base 4 _ _ _ := k_law_function F
  have k_law_breaker : Kp P w K mg base (6 + 4) _ _ _ := k_law_breaker F 4
  have k_law_asks : Kp P w K mg base (1 + 4) _ _ _ := k_law_asks F 4
  have k_law_asking : Kp P w K mg base (3 + 4) _ _ _ := k_law_asking F 4
  have k_law_shuffling : Kp P w K mg base (3 + 4) _ _ _ := k_law_shuffling F 4
  have k_law_swapping : Kp P w K mg base (4 + 4) _ _ _ := k_law_swapping F 4
  have k_law_sum : Kp P w K mg base 2 _ _ _ := k_law_sum F
  have k_law_is : Kp P w K mg base 1 _ _ _ := k_law_is F
  have k_law_within : Kp P w K mg base 3 _ _ _ := k_law_within F
  have k_chance : Kd P w K mg base 12 _ _ _ _ := k_chance F
  refine FnOkOf D sc_law (fun vs H Q E h => ?_) (fun cdv A outer s0 H vs Q E hr h => ?_)
  · obtain ⟨sc, ns, rfl, _⟩ := h
    rfl
  · obtain ⟨sc, ns, rfl, hs, q⟩ := h
    refine ⟨_, (pss_cons (ps_set (i := 1) sc_law.nd rfl (Or.inl rfl) (pe_k k_law_tape (hr.mono (by decide)) (pa_cons (pv 0) pa_nil)))
        (pss_cons (ps_set (i := 2) sc_law.nd rfl (Or.inl rfl) (pe_op op_add pe_int (pe_k k_law_draw (hr.mono (by decide)) (pa_cons (pv 1) (pa_cons pe_int pa_nil)))))
        (pss_cons (ps_set (i := 3) sc_law.nd rfl (Or.inl rfl) (pe_k k_law_function (hr.mono (by decide)) (pa_cons (pv 1) (pa_cons pe_int (pa_cons (pv 2) (pa_cons (pv 2) pa_nil))))))
        (pss_cons (ps_for PassesOwn.never rfl (pi_range1 (by rfl) F.b_range (pa_cons (pe_op op_add pe_int (pe_k k_law_draw (hr.mono (by decide)) (pa_cons (pv 1) (pa_cons pe_int pa_nil)))) pa_nil)) (pg_name (i := 4) sc_law.nd rfl (Or.inl rfl))
          (pss_cons (ps_set (i := 5) sc_law.nd rfl (Or.inl rfl) (pe_k k_law_breaker (hr.mono (by decide)) (pa_cons (pv 1) (pa_cons (pe_op op_add pe_int (pe_k k_law_draw (hr.mono (by decide)) (pa_cons (pv 1) (pa_cons pe_int pa_nil)))) (pa_cons pe_int (pa_cons (pe_tup (pa_cons (pv 2) (pa_cons pe_int (pa_cons (pe_op op_mul pe_int (pv 2)) pa_nil)))) pa_nil))))))
          (pss_cons (ps_set (i := 6) sc_law.nd rfl (Or.inl rfl) (pe_k k_law_asks (hr.mono (by decide)) (pa_cons (pv 5) pa_nil)))
          (pss_cons (ps_set (i := 7) sc_law.nd rfl (Or.inl rfl) pe_dnewK)
          (pss_cons (ps_expr (pe_k k_law_asking (hr.mono (by decide)) (pa_cons (pv 5) (pa_cons pe_str (pa_cons (pe_tup pa_nil) (pa_cons pe_int (pa_cons (pe_tup (pa_cons (pv 2) (pa_cons (pv 2) (pa_cons pe_non pa_nil)))) (pa_cons (pv 7) pa_nil))))))))
          (pss_cons (ps_set (i := 8) sc_law.nd rfl (Or.inl rfl) pe_dnewK)
          (pss_cons (ps_expr (pe_k k_law_shuffling (hr.mono (by decide)) (pa_cons (pv 5) (pa_cons pe_str (pa_cons (pe_tup pa_nil) (pa_cons pe_int (pa_cons (pv 2) (pa_cons (pv 8) pa_nil))))))))
          (pss_cons (ps_set (i := 9) sc_law.nd rfl (Or.inl rfl) (pe_tup (pa_cons (pe_k k_law_sum (hr.mono (by decide)) (pa_cons (pv 7) pa_nil)) (pa_cons (pe_k k_law_sum (hr.mono (by decide)) (pa_cons (pv 8) pa_nil)) pa_nil))))
          (pss_cons (ps_if (pt_not (pt_val (pe_k k_law_is (hr.mono (by decide)) (pa_cons (pe_kd k_chance (hr.mono (by decide)) (pa_cons (pe_tup (pa_cons pe_str (pa_cons (pv 3) (pa_cons pe_bl pa_nil)))) (pa_cons (pv 5) pa_nil))) (pa_cons (pe_ix (r := rIxT K) ix_tup (pv 9) pe_int (fun _ _ => rfl)) pa_nil)))))
            (pss_one (ps_ret pe_bl))
            pss_nil)
          (pss_cons (ps_if (PW.pt (pw_or (pt_not (pt_val (pe_k k_law_is (hr.mono (by decide)) (pa_cons (pe_kd k_chance (hr.mono (by decide)) (pa_cons (pe_tup (pa_cons pe_str (pa_cons (pv 2) pa_nil))) (pa_cons (pv 5) pa_nil))) (pa_cons (pe_ix (r := rIxT K) ix_tup (pv 9) pe_int (fun _ _ => rfl)) pa_nil))))) (pw_or1 (pt_not (pt_val (pe_k k_law_within (hr.mono (by decide)) (pa_cons (pe_ix (r := rIxT K) ix_tup (pv 9) pe_int (fun _ _ => rfl)) (pa_cons (pe_ix (r := rIxT K) ix_tup (pv 9) pe_int (fun _ _ => rfl)) (pa_cons (pe_op op_mul (pv 6) (pe_op op_sub (pv 6) pe_int)) (pa_cons (pe_op op_shl pe_int (pv 2)) pa_nil))))))))))
            (pss_one (ps_ret pe_bl))
            pss_nil)
          (pss_one (ps_if (pt_cmpR op_eq (pv 2) pe_int (nomark _))
            (pss_cons (ps_set (i := 10) sc_law.nd rfl (Or.inl rfl) (pe_k k_law_pick (hr.mono (by decide)) (pa_cons (pv 1) (pa_cons (pe_lst (pa_cons pe_int (pa_cons pe_int (pa_cons pe_int (pa_cons pe_int (pa_cons pe_int pa_nil)))))) pa_nil))))
            (pss_cons (ps_set (i := 11) sc_law.nd rfl (Or.inl rfl) pe_dnewK)
            (pss_cons (ps_expr (pe_k k_law_swapping (hr.mono (by decide)) (pa_cons (pv 5) (pa_cons pe_str (pa_cons (pe_tup pa_nil) (pa_cons pe_int (pa_cons (pe_tup (pa_cons pe_int (pa_cons (pv 10) pa_nil))) (pa_cons (pv 11) pa_nil))))))))
            (pss_cons (ps_if (pt_not (pt_val (pe_k k_law_is (hr.mono (by decide)) (pa_cons (pe_kd k_chance (hr.mono (by decide)) (pa_cons (pe_tup (pa_cons pe_str (pa_cons pe_int (pa_cons (pv 10) pa_nil)))) (pa_cons (pv 5) pa_nil))) (pa_cons (pe_k k_law_sum (hr.mono (by decide)) (pa_cons (pv 11) pa_nil)) pa_nil)))))
              (pss_one (ps_ret pe_bl))
              pss_nil)
            (pss_one (ps_if (PW.pt (pw_and (pt_cmpR op_eq (pv 10) pe_int (nomark _)) (pw_and1 (pt_not (pt_val (pe_k k_law_within (hr.mono (by decide)) (pa_cons (pe_ix (r := rIxT K) ix_tup (pv 9) pe_int (fun _ _ => rfl)) (pa_cons (pe_k k_law_sum (hr.mono (by decide)) (pa_cons (pv 11) pa_nil)) (pa_cons (pe_op op_mul (pv 6) (pe_op op_sub (pv 6) pe_int)) (pa_cons pe_int pa_nil))))))))))
              (pss_one (ps_ret pe_bl))
              pss_nil))))))
            pss_nil))))))))))))
        (pss_one (ps_ret pe_bl)))))), ?_⟩
    refine ⟨_, rfl, sc, ns, rfl, hs, fun H1 tp c f1 hT1 ntc => ?_⟩
    refine ⟨_, rfl, tp, c, ns, 2, rfl, hT1, ntc, by decide, fun H2 r0 f2 hT2 lr0 => ⟨_, _, rfl, rfl, ?_⟩⟩
    have e1 : (1 : Int) + (r0 : Int) = ((r0 + 1 : Nat) : Int) := by omega
    show gName 2 (V.int ((1 : Int) + (r0 : Int))) _ _ _
    rw [e1]
    generalize hl : r0 + 1 = l
    have l1 : 1 ≤ l := by omega
    have l2 : l ≤ 2 := by omega
    refine ⟨_, rfl, _, rfl, _, rfl, tp, c, ns, l, rfl, hT2, ntc, l2, fun H3 tb f3 hT3 hfn => ?_⟩
    refine ⟨_, rfl, tp, c, ns, 2, rfl, hT3, ntc, by decide, fun H4 r1 f4 hT4 lr1 => ⟨_, _, rfl, rfl, _, rfl, by omega, by omega, for_range (lo := 0) (n := ((1 : Int) + (r1 : Int)).toNat) (fun i σ G => ∃ y4 y5 y6 y7 y8 y9 y10 y11, σ = [some (.ref sc), some (.ref tp), some (.int l), some (.ref tb), y4, y5, y6, y7, y8, y9, y10, y11] ∧ LT G tp c ns ∧ IsFn G tb l)
      ⟨_, _, _, _, _, _, _, _, rfl, hT4, hfn.mono f4.2⟩ (fun i σ G hi h => ?_) (fun σ G h => ?_)⟩⟩
    · obtain ⟨y4, y5, y6, y7, y8, y9, y10, y11, rfl, hT, hfn⟩ := h
      refine ⟨_, rfl, _, rfl, tp, c, ns, 3, rfl, hT, ntc, by decide, fun G1 d0 g1 hT1 ld0 => ⟨_, _, rfl, rfl, _, rfl, _, rfl, _, _, rfl, rfl, .inl ⟨by decide, by decide⟩, sz (by simp), fun sh nsh => ?_⟩⟩
      have fsh : Fr [] G1 (upd G1 sh (.tup [.int l, .int 1, .int (2 * (l : Int))])) := Fr.new nsh
      have hshv : (upd G1 sh (.tup [.int l, .int 1, .int (2 * (l : Int))])) sh = some (.tup [.int l, .int 1, .int ((2 * l : Nat) : Int)]) := by
        rw [upd_same, Int.natCast_mul]
        rfl
      have hT1s := hT1.fr0 fsh
      have hfn1 := hfn.mono (g1.trans fsh.of0).2
      refine ⟨tp, c, sh, ns, d0 + 1, 2, l, 2 * l, ?_, Nat.succ_le_of_lt ld0, hT1s, ntc, hshv, by omega, by omega, fun G3 bv b g3 hT3 hB => ?_⟩
      · have e2 : ((d0 + 1 : Nat) : Int) = (1 : Int) + (d0 : Int) := by omega
        rw [e2]
        rfl
      have hfn3 := hfn1.mono g3.2
      clear hshv hT1s hfn1 fsh hT1 g1 g3 nsh
      obtain ⟨hb, wf, hq⟩ := hB
      have okF : (Gm.fn l).ok := ⟨l1, l2⟩
      have okP : (Gm.perm l).ok := ⟨l1, l2⟩
      have tokF := M.tree (.fn l) b okF wf
      have tokP := M.tree (.perm l) b okP wf
      have vF := ev_ok tokF
      have vP := ev_ok tokP
      refine ⟨_, rfl, bv, b, rfl, hb, wf, fun G4 g4 => ?_⟩
      have hb4 := hb.fr g4
      have hT4 := hT3.fr0 g4
      have hfn4 := hfn3.mono g4.2
      clear hb hT3 hfn3 g4
      intro cf ncf
      have k1 : Fr [] G4 (upd G4 cf (.dK [])) := Fr.new ncf
      have hcf : (upd G4 cf (.dK [])) cf = some (.dK (toD (notes []))) := upd_same
      have hT5 := hT4.fr0 k1
      have nfc := (hT4.nc ncf)
      have hb5 := hb4.fr k1
      have hfn5 := hfn4.mono k1.2
      generalize upd G4 cf (.dK []) = G5 at k1 hcf hT5 hb5 hfn5
      clear hb4 hT4 hfn4 k1
      refine ⟨_, rfl, sz (by simp), fun kn nkn => ⟨_, rfl, _, rfl, sz (by simp), fun sh2 nsh2 => ⟨_, rfl, ?_⟩⟩⟩
      have k2 : Fr [] G5 (upd G5 kn (.tup [])) := Fr.new nkn
      have k3 : Fr [] (upd G5 kn (.tup [])) (upd (upd G5 kn (.tup [])) sh2 (.tup [.int l, .int l, .non])) := Fr.new nsh2
      have k23 := k2.trans k3
      have hkn : (upd (upd G5 kn (.tup [])) sh2 (.tup [.int l, .int l, .non])) kn = some (.tup []) := k3.at upd_same
      have hsh2 : (upd (upd G5 kn (.tup [])) sh2 (.tup [.int l, .int l, .non])) sh2 = some (.tup [.int l, .int l, .non]) := upd_same
      refine ⟨bv, kn, sh2, cf, l, 1, [], b, [], [], by rw [← bS_nil]; rfl, hb5.fr k23, wf, ⟨[], hkn, .nil⟩, hsh2, l2, k23.at hcf, by simp, by simp, (fun _ z => nomatch z), vF.1, fun G6 g6 hG6 => ?_⟩
      have hF : G6 cf = some (.dK (toD (notes (evG (.fn l) b)))) := hG6
      have hb6 := (hb5.fr k23).fr g6
      have hT6 := (hT5.fr0 k23).fr g6 (by simp; exact nfc.1.symm) (by simp; exact nfc.2.symm)
      have hfn6 := (hfn5.mono k23.2).mono g6.2
      clear hb5 hT5 hfn5 k2 k3 k23 hkn hsh2 hcf hG6 g6
      intro cp ncp
      have k1 : Fr [] G6 (upd G6 cp (.dK [])) := Fr.new ncp
      have hcp : (upd G6 cp (.dK [])) cp = some (.dK (toD (notes []))) := upd_same
      have hT7 := hT6.fr0 k1
      have npc := (hT6.nc ncp)
      have nfp : cf ≠ cp := ne_of_none hF ncp
      have hb7 := hb6.fr k1
      have hfn7 := hfn6.mono k1.2
      have hF7 := k1.at hF
      generalize upd G6 cp (.dK []) = G7 at k1 hcp hT7 hb7 hfn7 hF7
      clear hb6 hT6 hfn6 k1 hF
      refine ⟨_, rfl, sz (by simp), fun kn nkn => ⟨_, rfl, _, rfl, ?_⟩⟩
      have k2 : Fr [] G7 (upd G7 kn (.tup [])) := Fr.new nkn
      have hkn : (upd G7 kn (.tup [])) kn = some (.tup []) := upd_same
      refine ⟨bv, kn, cp, l, 1, [], b, [], [], by rw [← bS_nil]; rfl, hb7.fr k2, wf, ⟨[], hkn, .nil⟩, l2, k2.at hcp, by simp, by simp, (fun _ z => nomatch z), vP.1, fun G8 g8 hG8 => ?_⟩
      have hP8 : G8 cp = some (.dK (toD (notes (evG (.perm l) b)))) := hG8
      have hF8 := g8.1 _ _ (k2.at hF7) (by simp; exact nfp)
      have hb8 := (hb7.fr k2).fr g8
      have hT8 := (hT7.fr0 k2).fr g8 (by simp; exact npc.1.symm) (by simp; exact npc.2.symm)
      have hfn8 := (hfn7.mono k2.2).mono g8.2
      clear hb7 hT7 hfn7 k2 hkn hcp hG8 g8 hF7
      have nts : ∀ {g : Gm}, g.ok → ∀ v : (evG g b).length ≤ 300000 ∧ ∀ D, D ∈ evG g b → D ∣ MM ∧ D ≠ 0, (∀ p, p ∈ notes (evG g b) → p.1 ∣ MM ∧ p.2 ≤ 300000) ∧ (notes (evG g b)).length ≤ 300000 ∧ sumR ((notes (evG g b)).map fr1) = prG g b := fun ok v =>
        ⟨fun p hp => ⟨(v.2 _ ((notes_okN _).keys _ (List.mem_map.mpr ⟨p, hp, rfl⟩))).1, Nat.le_trans ((notes_okN _).cnts p hp) v.1⟩, Nat.le_trans (notes_okN _).len v.1, sum_notes fun D hD => (v.2 D hD).2⟩
      obtain ⟨n1, n2, n3⟩ := nts okF vF
      obtain ⟨m1, m2, m3⟩ := nts okP vP
      refine ⟨_, rfl, cf, _, rfl, hF8, notes_nodup _, n1, n2, fun G9 p1 g9 hp1 => ?_⟩
      refine ⟨_, rfl, cp, _, rfl, g9.at hP8, notes_nodup _, m1, m2, fun G10 p2 g10 hp2 => ⟨sz (by simp), fun tt ntt => ?_⟩⟩
      rw [n3] at hp1
      rw [m3] at hp2
      have k1 : Fr [] G10 (upd G10 tt (.tup [.ref p1, .ref p2])) := Fr.new ntt
      have htt : (upd G10 tt (.tup [.ref p1, .ref p2])) tt = some (.tup [.ref p1, .ref p2]) := upd_same
      have g810 := (g9.trans g10).trans k1
      have hp1' := (g10.trans k1).at hp1
      have hp2' := k1.at hp2
      have hb11 := hb8.fr g810
      have hT11 := hT8.fr0 g810
      have hfn11 := hfn8.mono g810.2
      generalize upd G10 tt (.tup [.ref p1, .ref p2]) = G11 at k1 htt g810 hp1' hp2' hb11 hT11 hfn11
      clear hb8 hT8 hfn8 g9 g10 k1 hp1 hp2 g810 hF8 hP8
      have sF := prG_small M (g := .fn l) okF wf
      have sP := prG_small M (g := .perm l) okP wf
      -- the first test
      refine ⟨_, rfl, sz (by simp), fun gt1 ngt1 => ⟨_, rfl, ?_⟩⟩
      have k1 : Fr [] G11 (upd G11 gt1 (.tup [.str "function", .ref tb, .bl false])) := Fr.new ngt1
      have hgt : IsG (upd G11 gt1 (.tup [.str "function", .ref tb, .bl false])) gt1 (.fn l) := ⟨tb, upd_same, hfn11.mono k1.2⟩
      refine ⟨.fn l, b, okF, tokF, gt1, bv, 3, rfl, hgt, hb11.fr k1, wf, by decide, fun G12 pa g12 hpa => ?_⟩
      have k12 := k1.trans g12
      refine ⟨_, rfl, tt, _, 0, _, rfl, rfl, SqT.at (k12.at htt), atI_nat (j := 0) rfl, pa, p1, prG (.fn l) b, rfl, hpa, k12.at hp1', _, rfl, iteFd rfl ?_⟩
      have hb12 := hb11.fr k12
      have hT12 := hT11.fr0 k12
      have hfn12 := hfn11.mono k12.2
      have htt12 := k12.at htt
      have hp112 := k12.at hp1'
      have hp212 := k12.at hp2'
      clear hb11 hT11 hfn11 htt hp1' hp2' hgt hpa k1 g12 k12
      -- the second test
      refine ⟨_, rfl, sz (by simp), fun gt2 ngt2 => ⟨_, rfl, ?_⟩⟩
      have k1 : Fr [] G12 (upd G12 gt2 (.tup [.str "permutation", .int l])) := Fr.new ngt2
      refine ⟨.perm l, b, okP, tokP, gt2, bv, 3, rfl, upd_same, hb12.fr k1, wf, by decide, fun G13 pb g13 hpb => ?_⟩
      have k12 := k1.trans g13
      refine ⟨_, rfl, tt, _, 1, _, rfl, rfl, SqT.at (k12.at htt12), atI_nat (j := 1) rfl, pb, p2, prG (.perm l) b, rfl, hpb, k12.at hp212, _, rfl, iteFd rfl ?_⟩
      have hb13 := hb12.fr k12
      have hT13 := hT12.fr0 k12
      have hfn13 := hfn12.mono k12.2
      have htt13 := k12.at htt12
      have hp113 := k12.at hp112
      have hp213 := k12.at hp212
      clear hb12 hT12 hfn12 htt12 hp112 hp212 hpb k1 g13 k12
      have ss := sub_small sF.1 sF.2 sP.1 sP.2
      have e2l : (2 : Int) * 2 ^ ((l : Nat) : Int).toNat = 2 * 2 ^ l := by rw [Int.toNat_natCast]
      have hll : l = 1 ∨ l = 2 := by omega
      have hqq : qB b = 0 ∨ qB b = 1 ∨ qB b = 2 := by omega
      refine ⟨_, rfl, tt, _, 0, _, rfl, rfl, SqT.at htt13, atI_nat (j := 0) rfl, _, rfl, tt, _, 1, _, rfl, rfl, SqT.at htt13, atI_nat (j := 1) rfl, _, rfl, _, rfl, _, _, rfl, rfl, _, _, rfl, rfl, .inl ⟨by omega, by omega⟩, _, rfl, _, _, rfl, rfl, ⟨by omega, by omega, by decide⟩, ?_⟩
      refine ⟨p1, p2, prG (.fn l) b, prG (.perm l) b, (qB b : Int) * ((qB b : Int) - 1), 2 * 2 ^ ((l : Nat) : Int).toNat, rfl, hp113, hp213, sF.1, sP.1, sF.2, sP.2, ?_, ?_, ss.1, ss.2, fun G14 g14 => ⟨_, rfl, iteFd ?_ ?_⟩⟩
      · rcases hqq with h | h | h <;> rw [h] <;> decide
      · rw [e2l]
        rcases hll with h | h <;> rw [h] <;> decide
      · rw [e2l]
        have := M.perm l b l1 l2 wf hq
        rw [decide_eq_true (show (((prG (.fn l) b - prG (.perm l) b).num.natAbs : Nat) : Int) * (2 * 2 ^ l) ≤ ((qB b : Int) * ((qB b : Int) - 1)) * ((prG (.fn l) b - prG (.perm l) b).den : Int) from this)]
        rfl
      have hb14 := hb13.fr g14
      have hT14 := hT13.fr0 g14
      have hfn14 := hfn13.mono g14.2
      have htt14 := g14.at htt13
      have hp114 := g14.at hp113
      clear hb13 hT13 hfn13 htt13 hp113 hp213 g14
      refine ⟨_, rfl, rfl, _, rfl, ite2 (fun h2 => ?_) (fun _ => ⟨_, _, _, _, _, _, _, _, rfl, hT14, hfn14⟩)⟩
      have el2 : l = 2 := by
        have := of_decide_eq_true h2
        injection this with this
        omega
      refine ⟨_, rfl, sz (by simp), fun rw nrw => ⟨tp, c, rw, ns, _, rfl, hT14.fr0 (Fr.new nrw), ntc, upd_same, by simp, fun G15 x g15 hT15 hx => ?_⟩⟩
      have hx' : ∃ r : Nat, x = .int r ∧ 1 ≤ r ∧ r ≤ 4 := by
        simp only [List.mem_cons, List.not_mem_nil, or_false] at hx
        rcases hx with rfl | rfl | rfl | rfl | rfl
        · exact ⟨3, rfl, by decide, by decide⟩
        · exact ⟨3, rfl, by decide, by decide⟩
        · exact ⟨1, rfl, by decide, by decide⟩
        · exact ⟨2, rfl, by decide, by decide⟩
        · exact ⟨4, rfl, by decide, by decide⟩
      obtain ⟨r, rfl, hr1, hr4⟩ := hx'
      have gg : Fr [tp] G14 G15 := (Fr.new nrw).trans g15
      have hb15 := hb14.fr gg
      have hfn15 := hfn14.mono gg.2
      have htt15 := gg.2 _ _ htt14
      have hp115 := gg.2 _ _ hp114
      clear hb14 hT14 hfn14 htt14 hp114 gg g15
      have okS : (Gm.swaps r).ok := ⟨hr1, hr4⟩
      have tokS := M.tree (.swaps r) b okS wf
      have vS := ev_ok tokS
      have sS := prG_small M (g := .swaps r) okS wf
      obtain ⟨q1, q2, q3⟩ := nts okS vS
      intro cs ncs
      have k1 : Fr [] G15 (upd G15 cs (.dK [])) := Fr.new ncs
      have hcs : (upd G15 cs (.dK [])) cs = some (.dK (toD (notes []))) := upd_same
      have hT16 := hT15.fr0 k1
      have nsc := hT15.nc ncs
      have hb16 := hb15.fr k1
      have hfn16 := hfn15.mono k1.2
      have htt16 := k1.at htt15
      have hp116 := k1.at hp115
      generalize upd G15 cs (.dK []) = G16 at k1 hcs hT16 hb16 hfn16 htt16 hp116
      clear hb15 hT15 hfn15 htt15 hp115 k1
      refine ⟨_, rfl, sz (by simp), fun kn nkn => ⟨_, rfl, sz (by simp), fun sh3 nsh3 => ⟨_, rfl, ?_⟩⟩⟩
      have k2 : Fr [] G16 (upd G16 kn (.tup [])) := Fr.new nkn
      have k3 : Fr [] (upd G16 kn (.tup [])) (upd (upd G16 kn (.tup [])) sh3 (.tup [.int 1, .int r])) := Fr.new nsh3
      have k23 := k2.trans k3
      have hkn : (upd (upd G16 kn (.tup [])) sh3 (.tup [.int 1, .int r])) kn = some (.tup []) := k3.at upd_same
      have hsh3 : (upd (upd G16 kn (.tup [])) sh3 (.tup [.int 1, .int r])) sh3 = some (.tup [.int 1, .int r]) := upd_same
      have rep : ∀ k, (List.replicate r ([] : Tl)).getD k [] = [] := fun k => by
        rw [List.getD_eq_getElem?_getD, List.getElem?_replicate]
        split <;> rfl
      have sw0 : SwOk [] (List.replicate r ([] : Tl)) r 3 := by
        refine ⟨⟨0, ⟨(fun q => by simp [hits2]), (fun _ z => nomatch z), Nat.le_refl _⟩, by decide⟩, fun k x => ?_, fun k x v hx => ?_, List.length_replicate, hr4⟩
        · rw [rep]; rfl
        · rw [rep] at hx; cases hx
      refine ⟨bv, kn, sh3, cs, r, 1, [], b, List.replicate r [], [], [], by rw [← bS_nil]; rfl, hb16.fr k23, wf, ⟨[], hkn, .nil⟩, hsh3, sw0, k23.at hcs, by simp, vS.1, fun G17 g17 hG17 => ?_⟩
      have hS : G17 cs = some (.dK (toD (notes (evG (.swaps r) b)))) := hG17
      have fr17 : Fr [cs] G16 G17 := k23.of0.trans g17
      have hb17 := hb16.fr fr17
      have hT17 := hT16.fr fr17 (by simp; exact nsc.1.symm) (by simp; exact nsc.2.symm)
      have hfn17 := hfn16.mono fr17.2
      have htt17 := fr17.2 _ _ htt16
      have hp117 := fr17.2 _ _ hp116
      clear hb16 hT16 hfn16 htt16 hp116 k2 k3 k23 hkn hsh3 hcs hG17 g17 fr17
      -- the third test
      refine ⟨_, rfl, sz (by simp), fun gt3 ngt3 => ⟨_, rfl, ?_⟩⟩
      have k1 : Fr [] G17 (upd G17 gt3 (.tup [.str "swaps", .int 1, .int r])) := Fr.new ngt3
      refine ⟨.swaps r, b, okS, tokS, gt3, bv, 3, rfl, upd_same, hb17.fr k1, wf, by decide, fun G18 pc g18 hpc => ?_⟩
      have k12 := k1.trans g18
      have hS18 := k12.at hS
      refine ⟨_, rfl, cs, _, rfl, hS18, notes_nodup _, q1, q2, fun G19 p3 g19 hp3 => ?_⟩
      rw [q3] at hp3
      have k13 := k12.trans g19
      refine ⟨pc, p3, prG (.swaps r) b, rfl, g19.at hpc, hp3, _, rfl, iteFd rfl ?_⟩
      have hb19 := hb17.fr k13
      have hT19 := hT17.fr0 k13
      have hfn19 := hfn17.mono k13.2
      have htt19 := k13.at htt17
      have hp119 := k13.at hp117
      have hS19 := g19.at hS18
      clear hb17 hT17 hfn17 htt17 hp117 k1 k12 k13 g18 g19 hS18 hp3 hpc
      refine ⟨_, rfl, rfl, _, rfl, ite2 (fun h3 => ?_) (fun _ => iteF ⟨_, _, _, _, _, _, _, _, rfl, hT19, hfn19⟩)⟩
      have er3 : r = 3 := by
        have := of_decide_eq_true h3
        injection this with this
        omega
      refine ⟨_, rfl, tt, _, 0, _, rfl, rfl, SqT.at htt19, atI_nat (j := 0) rfl, _, rfl, cs, _, rfl, hS19, notes_nodup _, q1, q2, fun G20 p4 g20 hp4 => ?_⟩
      rw [q3] at hp4
      have ss2 := sub_small sF.1 sF.2 sS.1 sS.2
      refine ⟨_, rfl, _, rfl, _, _, rfl, rfl, _, _, rfl, rfl, .inl ⟨by omega, by omega⟩, ?_⟩
      refine ⟨p1, p4, prG (.fn l) b, prG (.swaps r) b, (qB b : Int) * ((qB b : Int) - 1), 2, rfl, g20.at hp119, hp4, sF.1, sS.1, sF.2, sS.2, ?_, by decide, ss2.1, ss2.2, fun G21 g21 => ⟨_, rfl, iteFd ?_ ?_⟩⟩
      · rcases hqq with h | h | h <;> rw [h] <;> decide
      · have := M.swap b wf hq
        rw [el2, er3, decide_eq_true (show (((prG (.fn 2) b - prG (.swaps 3) b).num.natAbs : Nat) : Int) * 2 ≤ ((qB b : Int) * ((qB b : Int) - 1)) * ((prG (.fn 2) b - prG (.swaps 3) b).den : Int) from this)]
        rfl
      · exact ⟨_, _, _, _, _, _, _, _, rfl, (hT19.fr0 g20).fr0 g21, (hfn19.mono g20.2).mono g21.2⟩
    · obtain ⟨y4, y5, y6, y7, y8, y9, y10, y11, rfl, hT, hfn⟩ := h
      exact q G
end
end BK
/-! Breakback k27: what the law asks of the plain part. -/
namespace BK
theorem near_eq {x y : Rat} {a c : Int} (h : x = y) (ha : 0 ≤ a) : Near x y a c := by
  subst h
  have e : x - x = 0 := by grind
  unfold Near
  rw [e]
  show ((0 : Nat) : Int) * c ≤ a * 1
  omega
theorem near_of {x y e : Rat} {N : Int} (hn : e.num = 1) (hd : (e.den : Int) = N) (hN : 0 < N) (h : Apart e x y) : Near x y 2 (2 * N) := by
  have h1 : x - y ≤ e := by have := h.1; grind
  have h2 : -(x - y) ≤ e := by have := h.2; grind
  rw [Rat.le_iff] at h1 h2
  rw [hn, hd] at h1 h2
  have e1 : (-(x - y)).num = -(x - y).num := Rat.neg_num _
  have e2 : (-(x - y)).den = (x - y).den := Rat.neg_den _
  rw [e1, e2] at h2
  unfold Near
  generalize (x - y).num = u at h1 h2
  generalize ((x - y).den : Int) = v at h1 h2
  have h3 : ((u.natAbs : Nat) : Int) * N ≤ v := by
    have : ((u.natAbs : Nat) : Int) = u ∨ ((u.natAbs : Nat) : Int) = -u := by omega
    rcases this with e | e <;> rw [e] <;> omega
  have h4 : ((u.natAbs : Nat) : Int) * (2 * N) = 2 * (((u.natAbs : Nat) : Int) * N) := by
    rw [Int.mul_left_comm]
  omega
theorem laws : Laws := by
  have tree : ∀ (g : Gm) (b : B), g.ok → Wf 3 b → TreeOk (g.tree b) := fun g b ok wf => by
    have f := tree_all ok wf
    exact ⟨f.pos, Nat.le_trans f.few (by decide), f.each⟩
  have pe : ∀ (g : Gm) (b : B), g.ok → Wf 3 b → prG g b = pr (g.tree b) := fun g b ok wf => by
    have := pr1_ev (g.tree b) (tree g b ok wf).pos 1 (by decide)
    have e1 : mkRat 1 1 = 1 := rfl
    rw [e1, Rat.one_mul] at this
    exact this
  refine ⟨tree, fun l b l1 l2 wf hq => ?_, fun b wf hq => ?_⟩
  · rw [pe (.fn l) b ⟨l1, l2⟩ wf, pe (.perm l) b ⟨l1, l2⟩ wf]
    have h3 : qB b = 0 ∨ qB b = 1 ∨ qB b = 2 := by omega
    rcases h3 with h | h | h
    · exact near_eq (prB l b [] 3 wf (by omega)) (by rw [h]; decide)
    · exact near_eq (prB l b [] 3 wf (by omega)) (by rw [h]; decide)
    · rw [h]
      have hA := prC l1 l2 b [] 3 wf hq
      have hl : l = 1 ∨ l = 2 := by omega
      rcases hl with rfl | rfl
      · exact near_of (e := eL 1) (N := 2 ^ 1) (by decide +kernel) (by decide +kernel) (by decide) hA
      · exact near_of (e := eL 2) (N := 2 ^ 2) (by decide +kernel) (by decide +kernel) (by decide) hA
  · rw [pe (.fn 2) b ⟨by decide, by decide⟩ wf, pe (.swaps 3) b ⟨by decide, by decide⟩ wf]
    have h3 : qB b = 0 ∨ qB b = 1 ∨ qB b = 2 := by omega
    rcases h3 with h | h | h
    · exact near_eq (prS b [] 3 wf (by omega)) (by rw [h]; decide)
    · exact near_eq (prS b [] 3 wf (by omega)) (by rw [h]; decide)
    · rw [h]
      obtain ⟨a1, a2⟩ := pr_01 _ (tree (.fn 2) b ⟨by decide, by decide⟩ wf).pos
      obtain ⟨b1, b2⟩ := pr_01 _ (tree (.swaps 3) b ⟨by decide, by decide⟩ wf).pos
      exact near_of (e := 1) (N := 1) rfl rfl (by decide) ⟨by grind, by grind⟩
end BK
/-! the end: the facts of the head make the walk's context; the law -/
namespace BK
open PySem PySem.W PySem.Calls PySem.Spec PyProof.Rows L2 He
theorem intAt_ok {K : PySem.W.Frag} {d : Addr} {x : Str} {i : Int} (h : intAt K d x i = true) : ∃ t, PySem.W.nsIn K d x = some (some (.int i t)) := by
  unfold intAt at h
  split at h
  · rename_i j t e
    have q : j = i := of_decide_eq_true h
    subst q
    exact ⟨t, e⟩
  · cases h
theorem fx {K : PySem.W.Frag} {w : World} {h : Heap} {mg : Str → Option Value} (KX : K.In h) (G : h.Ns mainGlobals mg) (c : SaysM w K) : Fx K w mg := by
  have m := c.more
  unfold ex at m
  obtain ⟨a, m⟩ := Bool.and_eq_true_iff.mp m
  obtain ⟨b, m⟩ := Bool.and_eq_true_iff.mp m
  obtain ⟨r, m⟩ := Bool.and_eq_true_iff.mp m
  obtain ⟨o, n⟩ := Bool.and_eq_true_iff.mp m
  obtain ⟨a1, a⟩ := Bool.and_eq_true_iff.mp a
  obtain ⟨a2, a⟩ := Bool.and_eq_true_iff.mp a
  obtain ⟨a3, a4⟩ := Bool.and_eq_true_iff.mp a
  obtain ⟨b1, b⟩ := Bool.and_eq_true_iff.mp b
  obtain ⟨b2, b⟩ := Bool.and_eq_true_iff.mp b
  obtain ⟨b3, b4⟩ := Bool.and_eq_true_iff.mp b
  obtain ⟨r1, r⟩ := Bool.and_eq_true_iff.mp r
  obtain ⟨r2, r⟩ := Bool.and_eq_true_iff.mp r
  obtain ⟨r3, r4⟩ := Bool.and_eq_true_iff.mp r
  obtain ⟨o1, o2⟩ := Bool.and_eq_true_iff.mp o
  obtain ⟨n1, n⟩ := Bool.and_eq_true_iff.mp n
  obtain ⟨n2, n3⟩ := Bool.and_eq_true_iff.mp n
  have z0 : mg "len" = none := He.free_ok KX G (c.t.d.fact 0 (f := .free "len") rfl)
  have z1 : mg "isinstance" = none := He.free_ok KX G (c.t.d.fact 1 (f := .free "isinstance") rfl)
  have z2 : mg "int" = none := He.free_ok KX G (c.t.d.fact 2 (f := .free "int") rfl)
  have z3 : mg "str" = none := He.free_ok KX G (c.t.d.fact 3 (f := .free "str") rfl)
  have z4 : mg "list" = none := He.free_ok KX G (c.t.d.fact 4 (f := .free "list") rfl)
  have z5 : mg "tuple" = none := He.free_ok KX G (c.t.d.fact 5 (f := .free "tuple") rfl)
  have z6 : mg "bool" = none := He.free_ok KX G (c.t.d.fact 6 (f := .free "bool") rfl)
  have z7 : mg "range" = none := He.free_ok KX G (c.t.d.fact 7 (f := .free "range") rfl)
  have z8 : mg "zip" = none := He.free_ok KX G (c.t.d.fact 8 (f := .free "zip") rfl)
  have z9 : mg "reversed" = none := He.free_ok KX G (c.t.d.fact 9 (f := .free "reversed") rfl)
  have z10 : mg "all" = none := He.free_ok KX G (c.t.d.fact 10 (f := .free "all") rfl)
  have z11 : mg "sorted" = none := He.free_ok KX G (c.t.d.fact 11 (f := .free "sorted") rfl)
  have z12 : mg "abs" = none := He.free_ok KX G (c.t.d.fact 12 (f := .free "abs") rfl)
  have z13 : mg "max" = none := He.free_ok KX G (c.t.d.fact 13 (f := .free "max") rfl)
  have z14 : ∃ t, mg "MOST_LENGTH" = some (.int 40 t) := He.int_ok KX G (c.t.d.fact 14 (f := .int "MOST_LENGTH" 40) rfl)
  have z15 : ∃ t, mg "MOST_BIT" = some (.int 9999 t) := He.int_ok KX G (c.t.d.fact 15 (f := .int "MOST_BIT" 9999) rfl)
  have z16 : ∃ t, mg "MOST_TOSSED" = some (.int 64 t) := He.int_ok KX G (c.t.d.fact 16 (f := .int "MOST_TOSSED" 64) rfl)
  have z17 : ∃ t, mg "MOST_DEPTH" = some (.int 60 t) := He.int_ok KX G (c.t.d.fact 17 (f := .int "MOST_DEPTH" 60) rfl)
  have z18 : ∃ t, mg "MOST_WITHIN" = some (.int 2000 t) := He.int_ok KX G (c.t.d.fact 18 (f := .int "MOST_WITHIN" 2000) rfl)
  have z19 : mg "PLAIN_WORDS" = some (.ref (ga K "PLAIN_WORDS")) := He.glo_ok KX G (c.t.d.fact 19 (f := .glo "PLAIN_WORDS") rfl)
  have z20 : mg "SIZES" = some (.ref (ga K "SIZES")) := He.glo_ok KX G (c.t.d.fact 20 (f := .glo "SIZES") rfl)
  have z21 : mg "RUNS" = some (.ref (ga K "RUNS")) := He.glo_ok KX G (c.t.d.fact 21 (f := .glo "RUNS") rfl)
  have z22 : mg "OnetimeWorld" = some (.ref (ga K "OnetimeWorld")) := He.glo_ok KX G (c.t.d.fact 22 (f := .glo "OnetimeWorld") rfl)
  have z23 : mg "AnyWorld" = some (.ref (ga K "AnyWorld")) := He.glo_ok KX G (c.t.d.fact 23 (f := .glo "AnyWorld") rfl)
  have z24 : mg "PermutationWorld" = some (.ref (ga K "PermutationWorld")) := He.glo_ok KX G (c.t.d.fact 24 (f := .glo "PermutationWorld") rfl)
  have z25 : mg "SwapWorld" = some (.ref (ga K "SwapWorld")) := He.glo_ok KX G (c.t.d.fact 25 (f := .glo "SwapWorld") rfl)
  have z26 : mg "Stopped" = some (.ref (ga K "Stopped")) := He.glo_ok KX G (c.t.d.fact 26 (f := .glo "Stopped") rfl)
  have z27 : mg "Tape" = some (.ref (ga K "Tape")) := He.glo_ok KX G (c.t.d.fact 27 (f := .glo "Tape") rfl)
  have z28 : mg "Play" = some (.ref (ga K "Play")) := He.glo_ok KX G (c.t.d.fact 28 (f := .glo "Play") rfl)
  have z29 : mg "Notes" = some (.ref (ga K "Notes")) := He.glo_ok KX G (c.t.d.fact 29 (f := .glo "Notes") rfl)
  have z30 : mg "Table" = some (.ref (ga K "Table")) := He.glo_ok KX G (c.t.d.fact 30 (f := .glo "Table") rfl)
  have z31 : mg "Ways" = some (.ref (ga K "Ways")) := He.glo_ok KX G (c.t.d.fact 31 (f := .glo "Ways") rfl)
  have z32 : mg "Silent" = some (.ref (ga K "Silent")) := He.glo_ok KX G (c.t.d.fact 32 (f := .glo "Silent") rfl)
  have z33 : Cls K (ga K "AnyWorld") := He.cls_ok (c.t.d.fact 33 (f := .cls "AnyWorld") rfl)
  have z34 : NoAttr K (ga K "AnyWorld") "tape" := He.noat_ok (c.t.d.fact 34 (f := .noat "AnyWorld" "tape") rfl)
  have z35 : NoAttr K (ga K "AnyWorld") "l" := He.noat_ok (c.t.d.fact 35 (f := .noat "AnyWorld" "l") rfl)
  have z36 : NoAttr K (ga K "AnyWorld") "m" := He.noat_ok (c.t.d.fact 36 (f := .noat "AnyWorld" "m") rfl)
  have z37 : NoAttr K (ga K "AnyWorld") "told" := He.noat_ok (c.t.d.fact 37 (f := .noat "AnyWorld" "told") rfl)
  have z38 : Mk K (ga K "AnyWorld") (ma K (ga K "AnyWorld") "__init__") := He.mkr_ok (c.t.d.fact 38 (f := .mkr "AnyWorld") rfl)
  have z39 : Meth K (ga K "AnyWorld") "answer" (ma K (ga K "AnyWorld") "answer") := He.meth_ok (c.t.d.fact 39 (f := .meth "AnyWorld" "answer") rfl)
  have z40 : Cls K (ga K "PermutationWorld") := He.cls_ok (c.t.d.fact 40 (f := .cls "PermutationWorld") rfl)
  have z41 : NoAttr K (ga K "PermutationWorld") "tape" := He.noat_ok (c.t.d.fact 41 (f := .noat "PermutationWorld" "tape") rfl)
  have z42 : NoAttr K (ga K "PermutationWorld") "l" := He.noat_ok (c.t.d.fact 42 (f := .noat "PermutationWorld" "l") rfl)
  have z43 : NoAttr K (ga K "PermutationWorld") "told" := He.noat_ok (c.t.d.fact 43 (f := .noat "PermutationWorld" "told") rfl)
  have z44 : Mk K (ga K "PermutationWorld") (ma K (ga K "PermutationWorld") "__init__") := He.mkr_ok (c.t.d.fact 44 (f := .mkr "PermutationWorld") rfl)
  have z45 : Meth K (ga K "PermutationWorld") "answer" (ma K (ga K "PermutationWorld") "answer") := He.meth_ok (c.t.d.fact 45 (f := .meth "PermutationWorld" "answer") rfl)
  have z46 : Cls K (ga K "SwapWorld") := He.cls_ok (c.t.d.fact 46 (f := .cls "SwapWorld") rfl)
  have z47 : NoAttr K (ga K "SwapWorld") "h" := He.noat_ok (c.t.d.fact 47 (f := .noat "SwapWorld" "h") rfl)
  have z48 : NoAttr K (ga K "SwapWorld") "functions" := He.noat_ok (c.t.d.fact 48 (f := .noat "SwapWorld" "functions") rfl)
  have z49 : Mk K (ga K "SwapWorld") (ma K (ga K "SwapWorld") "__init__") := He.mkr_ok (c.t.d.fact 49 (f := .mkr "SwapWorld") rfl)
  have z50 : Meth K (ga K "SwapWorld") "answer" (ma K (ga K "SwapWorld") "answer") := He.meth_ok (c.t.d.fact 50 (f := .meth "SwapWorld" "answer") rfl)
  have z51 : Cls K (ga K "Stopped") := He.cls_ok (c.t.d.fact 51 (f := .cls "Stopped") rfl)
  have z52 : NoAttr K (ga K "Stopped") "world" := He.noat_ok (c.t.d.fact 52 (f := .noat "Stopped" "world") rfl)
  have z53 : Mk K (ga K "Stopped") (ma K (ga K "Stopped") "__init__") := He.mkr_ok (c.t.d.fact 53 (f := .mkr "Stopped") rfl)
  have z54 : Meth K (ga K "Stopped") "now" (ma K (ga K "Stopped") "now") := He.meth_ok (c.t.d.fact 54 (f := .meth "Stopped" "now") rfl)
  have z55 : Cls K (ga K "Tape") := He.cls_ok (c.t.d.fact 55 (f := .cls "Tape") rfl)
  have z56 : NoAttr K (ga K "Tape") "choices" := He.noat_ok (c.t.d.fact 56 (f := .noat "Tape" "choices") rfl)
  have z57 : NoAttr K (ga K "Tape") "draws" := He.noat_ok (c.t.d.fact 57 (f := .noat "Tape" "draws") rfl)
  have z58 : Mk K (ga K "Tape") (ma K (ga K "Tape") "__init__") := He.mkr_ok (c.t.d.fact 58 (f := .mkr "Tape") rfl)
  have z59 : Meth K (ga K "Tape") "draw" (ma K (ga K "Tape") "draw") := He.meth_ok (c.t.d.fact 59 (f := .meth "Tape" "draw") rfl)
  have z60 : Meth K (ga K "Tape") "string" (ma K (ga K "Tape") "string") := He.meth_ok (c.t.d.fact 60 (f := .meth "Tape" "string") rfl)
  have z61 : Cls K (ga K "Play") := He.cls_ok (c.t.d.fact 61 (f := .cls "Play") rfl)
  have z62 : NoAttr K (ga K "Play") "outcome" := He.noat_ok (c.t.d.fact 62 (f := .noat "Play" "outcome") rfl)
  have z63 : NoAttr K (ga K "Play") "said" := He.noat_ok (c.t.d.fact 63 (f := .noat "Play" "said") rfl)
  have z64 : NoAttr K (ga K "Play") "draws" := He.noat_ok (c.t.d.fact 64 (f := .noat "Play" "draws") rfl)
  have z65 : NoAttr K (ga K "Play") "asked" := He.noat_ok (c.t.d.fact 65 (f := .noat "Play" "asked") rfl)
  have z66 : Mk K (ga K "Play") (ma K (ga K "Play") "__init__") := He.mkr_ok (c.t.d.fact 66 (f := .mkr "Play") rfl)
  have z67 : Cls K (ga K "Notes") := He.cls_ok (c.t.d.fact 67 (f := .cls "Notes") rfl)
  have z68 : NoAttr K (ga K "Notes") "world" := He.noat_ok (c.t.d.fact 68 (f := .noat "Notes" "world") rfl)
  have z69 : NoAttr K (ga K "Notes") "asked" := He.noat_ok (c.t.d.fact 69 (f := .noat "Notes" "asked") rfl)
  have z70 : Mk K (ga K "Notes") (ma K (ga K "Notes") "__init__") := He.mkr_ok (c.t.d.fact 70 (f := .mkr "Notes") rfl)
  have z71 : Meth K (ga K "Notes") "answer" (ma K (ga K "Notes") "answer") := He.meth_ok (c.t.d.fact 71 (f := .meth "Notes" "answer") rfl)
  have z72 : Cls K (ga K "Table") := He.cls_ok (c.t.d.fact 72 (f := .cls "Table") rfl)
  have z73 : NoAttr K (ga K "Table") "game" := He.noat_ok (c.t.d.fact 73 (f := .noat "Table" "game") rfl)
  have z74 : NoAttr K (ga K "Table") "tape" := He.noat_ok (c.t.d.fact 74 (f := .noat "Table" "tape") rfl)
  have z75 : NoAttr K (ga K "Table") "kind" := He.noat_ok (c.t.d.fact 75 (f := .noat "Table" "kind") rfl)
  have z76 : NoAttr K (ga K "Table") "challenge" := He.noat_ok (c.t.d.fact 76 (f := .noat "Table" "challenge") rfl)
  have z77 : NoAttr K (ga K "Table") "world" := He.noat_ok (c.t.d.fact 77 (f := .noat "Table" "world") rfl)
  have z78 : NoAttr K (ga K "Table") "secret" := He.noat_ok (c.t.d.fact 78 (f := .noat "Table" "secret") rfl)
  have z79 : Mk K (ga K "Table") (ma K (ga K "Table") "__init__") := He.mkr_ok (c.t.d.fact 79 (f := .mkr "Table") rfl)
  have z80 : Meth K (ga K "Table") "begin_asks" (ma K (ga K "Table") "begin_asks") := He.meth_ok (c.t.d.fact 80 (f := .meth "Table" "begin_asks") rfl)
  have z81 : Meth K (ga K "Table") "has_won" (ma K (ga K "Table") "has_won") := He.meth_ok (c.t.d.fact 81 (f := .meth "Table" "has_won") rfl)
  have z82 : Cls K (ga K "Ways") := He.cls_ok (c.t.d.fact 82 (f := .cls "Ways") rfl)
  have z83 : NoAttr K (ga K "Ways") "most" := He.noat_ok (c.t.d.fact 83 (f := .noat "Ways" "most") rfl)
  have z84 : NoAttr K (ga K "Ways") "many" := He.noat_ok (c.t.d.fact 84 (f := .noat "Ways" "many") rfl)
  have z85 : NoAttr K (ga K "Ways") "won" := He.noat_ok (c.t.d.fact 85 (f := .noat "Ways" "won") rfl)
  have z86 : Mk K (ga K "Ways") (ma K (ga K "Ways") "__init__") := He.mkr_ok (c.t.d.fact 86 (f := .mkr "Ways") rfl)
  have z87 : Meth K (ga K "Ways") "count" (ma K (ga K "Ways") "count") := He.meth_ok (c.t.d.fact 87 (f := .meth "Ways" "count") rfl)
  have z88 : Meth K (ga K "Ways") "chance" (ma K (ga K "Ways") "chance") := He.meth_ok (c.t.d.fact 88 (f := .meth "Ways" "chance") rfl)
  have z89 : Cls K (ga K "Silent") := He.cls_ok (c.t.d.fact 89 (f := .cls "Silent") rfl)
  have z90 : mg "bits" = some (.ref (ga K "bits")) := He.glo_ok KX G (c.t.d.fact 90 (f := .glo "bits") rfl)
  have z91 : mg "xor" = some (.ref (ga K "xor")) := He.glo_ok KX G (c.t.d.fact 91 (f := .glo "xor") rfl)
  have z92 : mg "is_number" = some (.ref (ga K "is_number")) := He.glo_ok KX G (c.t.d.fact 92 (f := .glo "is_number") rfl)
  have z93 : mg "is_bits" = some (.ref (ga K "is_bits")) := He.glo_ok KX G (c.t.d.fact 93 (f := .glo "is_bits") rfl)
  have z94 : mg "is_row" = some (.ref (ga K "is_row")) := He.glo_ok KX G (c.t.d.fact 94 (f := .glo "is_row") rfl)
  have z95 : mg "is_function" = some (.ref (ga K "is_function")) := He.glo_ok KX G (c.t.d.fact 95 (f := .glo "is_function") rfl)
  have z96 : mg "are_parts" = some (.ref (ga K "are_parts")) := He.glo_ok KX G (c.t.d.fact 96 (f := .glo "are_parts") rfl)
  have z97 : mg "inner_plain" = some (.ref (ga K "inner_plain")) := He.glo_ok KX G (c.t.d.fact 97 (f := .glo "inner_plain") rfl)
  have z98 : mg "check_plain" = some (.ref (ga K "check_plain")) := He.glo_ok KX G (c.t.d.fact 98 (f := .glo "check_plain") rfl)
  have z99 : mg "has_plain_word" = some (.ref (ga K "has_plain_word")) := He.glo_ok KX G (c.t.d.fact 99 (f := .glo "has_plain_word") rfl)
  have z100 : mg "check_breaker" = some (.ref (ga K "check_breaker")) := He.glo_ok KX G (c.t.d.fact 100 (f := .glo "check_breaker") rfl)
  have z101 : mg "made_string" = some (.ref (ga K "made_string")) := He.glo_ok KX G (c.t.d.fact 101 (f := .glo "made_string") rfl)
  have z102 : mg "run_plain" = some (.ref (ga K "run_plain")) := He.glo_ok KX G (c.t.d.fact 102 (f := .glo "run_plain") rfl)
  have z103 : mg "run_breaker" = some (.ref (ga K "run_breaker")) := He.glo_ok KX G (c.t.d.fact 103 (f := .glo "run_breaker") rfl)
  have z104 : mg "is_truth" = some (.ref (ga K "is_truth")) := He.glo_ok KX G (c.t.d.fact 104 (f := .glo "is_truth") rfl)
  have z105 : mg "is_right" = some (.ref (ga K "is_right")) := He.glo_ok KX G (c.t.d.fact 105 (f := .glo "is_right") rfl)
  have z106 : mg "check_game" = some (.ref (ga K "check_game")) := He.glo_ok KX G (c.t.d.fact 106 (f := .glo "check_game") rfl)
  have z107 : mg "function_world" = some (.ref (ga K "function_world")) := He.glo_ok KX G (c.t.d.fact 107 (f := .glo "function_world") rfl)
  have z108 : mg "played" = some (.ref (ga K "played")) := He.glo_ok KX G (c.t.d.fact 108 (f := .glo "played") rfl)
  have z109 : mg "fraction" = some (.ref (ga K "fraction")) := He.glo_ok KX G (c.t.d.fact 109 (f := .glo "fraction") rfl)
  have z110 : mg "add" = some (.ref (ga K "add")) := He.glo_ok KX G (c.t.d.fact 110 (f := .glo "add") rfl)
  have z111 : mg "next_choices" = some (.ref (ga K "next_choices")) := He.glo_ok KX G (c.t.d.fact 111 (f := .glo "next_choices") rfl)
  have z112 : mg "ways_of" = some (.ref (ga K "ways_of")) := He.glo_ok KX G (c.t.d.fact 112 (f := .glo "ways_of") rfl)
  have z113 : mg "chance" = some (.ref (ga K "chance")) := He.glo_ok KX G (c.t.d.fact 113 (f := .glo "chance") rfl)
  have z114 : mg "_law_mixed" = some (.ref (ga K "_law_mixed")) := He.glo_ok KX G (c.t.d.fact 114 (f := .glo "_law_mixed") rfl)
  have z115 : mg "_law_tape" = some (.ref (ga K "_law_tape")) := He.glo_ok KX G (c.t.d.fact 115 (f := .glo "_law_tape") rfl)
  have z116 : mg "_law_draw" = some (.ref (ga K "_law_draw")) := He.glo_ok KX G (c.t.d.fact 116 (f := .glo "_law_draw") rfl)
  have z117 : mg "_law_pick" = some (.ref (ga K "_law_pick")) := He.glo_ok KX G (c.t.d.fact 117 (f := .glo "_law_pick") rfl)
  have z118 : mg "_law_bits" = some (.ref (ga K "_law_bits")) := He.glo_ok KX G (c.t.d.fact 118 (f := .glo "_law_bits") rfl)
  have z119 : mg "_law_string" = some (.ref (ga K "_law_string")) := He.glo_ok KX G (c.t.d.fact 119 (f := .glo "_law_string") rfl)
  have z120 : mg "_law_xor" = some (.ref (ga K "_law_xor")) := He.glo_ok KX G (c.t.d.fact 120 (f := .glo "_law_xor") rfl)
  have z121 : mg "_law_fraction" = some (.ref (ga K "_law_fraction")) := He.glo_ok KX G (c.t.d.fact 121 (f := .glo "_law_fraction") rfl)
  have z122 : mg "_law_sum" = some (.ref (ga K "_law_sum")) := He.glo_ok KX G (c.t.d.fact 122 (f := .glo "_law_sum") rfl)
  have z123 : mg "_law_less" = some (.ref (ga K "_law_less")) := He.glo_ok KX G (c.t.d.fact 123 (f := .glo "_law_less") rfl)
  have z124 : mg "_law_note" = some (.ref (ga K "_law_note")) := He.glo_ok KX G (c.t.d.fact 124 (f := .glo "_law_note") rfl)
  have z125 : mg "_law_parts" = some (.ref (ga K "_law_parts")) := He.glo_ok KX G (c.t.d.fact 125 (f := .glo "_law_parts") rfl)
  have z126 : mg "_law_say" = some (.ref (ga K "_law_say")) := He.glo_ok KX G (c.t.d.fact 126 (f := .glo "_law_say") rfl)
  have z127 : mg "_law_breaker" = some (.ref (ga K "_law_breaker")) := He.glo_ok KX G (c.t.d.fact 127 (f := .glo "_law_breaker") rfl)
  have z128 : mg "_law_made" = some (.ref (ga K "_law_made")) := He.glo_ok KX G (c.t.d.fact 128 (f := .glo "_law_made") rfl)
  have z129 : mg "_law_function" = some (.ref (ga K "_law_function")) := He.glo_ok KX G (c.t.d.fact 129 (f := .glo "_law_function") rfl)
  have z130 : mg "_law_asking" = some (.ref (ga K "_law_asking")) := He.glo_ok KX G (c.t.d.fact 130 (f := .glo "_law_asking") rfl)
  have z131 : mg "_law_answers" = some (.ref (ga K "_law_answers")) := He.glo_ok KX G (c.t.d.fact 131 (f := .glo "_law_answers") rfl)
  have z132 : mg "_law_is" = some (.ref (ga K "_law_is")) := He.glo_ok KX G (c.t.d.fact 132 (f := .glo "_law_is") rfl)
  have z133 : mg "_law_strings" = some (.ref (ga K "_law_strings")) := He.glo_ok KX G (c.t.d.fact 133 (f := .glo "_law_strings") rfl)
  have z134 : mg "_law_shuffling" = some (.ref (ga K "_law_shuffling")) := He.glo_ok KX G (c.t.d.fact 134 (f := .glo "_law_shuffling") rfl)
  have z135 : mg "_law_swapped" = some (.ref (ga K "_law_swapped")) := He.glo_ok KX G (c.t.d.fact 135 (f := .glo "_law_swapped") rfl)
  have z136 : mg "_law_swapping" = some (.ref (ga K "_law_swapping")) := He.glo_ok KX G (c.t.d.fact 136 (f := .glo "_law_swapping") rfl)
  have z137 : mg "_law_asks" = some (.ref (ga K "_law_asks")) := He.glo_ok KX G (c.t.d.fact 137 (f := .glo "_law_asks") rfl)
  have z138 : mg "_law_within" = some (.ref (ga K "_law_within")) := He.glo_ok KX G (c.t.d.fact 138 (f := .glo "_law_within") rfl)
  have z139 : mg "law" = some (.ref (ga K "law")) := He.glo_ok KX G (c.t.d.fact 139 (f := .glo "law") rfl)
  have e1 : mg "gcd" = some (.builtin "math.gcd") := PySem.W.mg_of KX G (eqO_ok a1)
  have e2 : PySem.W.makesIn K (ga K "Silent") = true ∧ PySem.W.findIn K (.ref (ga K "Silent")) "__init__" = some (some (.builtin "object.__init__")) ∧ PySem.W.keepIn K (.ref (ga K "Silent")) = true := ⟨a2, eqO_ok a3, a4⟩
  have e3 : ∀ H : Hp, SqT K H (ga K "PLAIN_WORDS") [.str "say", .str "toss", .str "look", .str "ask"] := fun H => tupB_ok b1 H
  have e4 : ∃ es n, KDict K w (ga K "SIZES") es n := c.t.tab 0
  have e5 : ∃ es n, KDict K w (ga K "RUNS") es n := c.t.tab 1
  have y0 : ∃ fd, FunD K "bits" "bits" (defArgs s_bits) (defBody s_bits) (defScope s_bits) [] [] (ga K "bits") fd := c.t.d.def_ 0 rfl
  have y1 : ∃ fd, FunD K "xor" "xor" (defArgs s_xor) (defBody s_xor) (defScope s_xor) [] [] (ga K "xor") fd := c.t.d.def_ 1 rfl
  have y2 : ∃ fd, FunD K "is_number" "is_number" (defArgs s_is_number) (defBody s_is_number) (defScope s_is_number) [] [] (ga K "is_number") fd := c.t.d.def_ 2 rfl
  have y3 : ∃ fd, FunD K "is_bits" "is_bits" (defArgs s_is_bits) (defBody s_is_bits) (defScope s_is_bits) [] [] (ga K "is_bits") fd := c.t.d.def_ 3 rfl
  have y4 : ∃ fd, FunD K "is_row" "is_row" (defArgs s_is_row) (defBody s_is_row) (defScope s_is_row) [] [] (ga K "is_row") fd := c.t.d.def_ 4 rfl
  have y5 : ∃ fd, FunD K "is_function" "is_function" (defArgs s_is_function) (defBody s_is_function) (defScope s_is_function) [] [] (ga K "is_function") fd := c.t.d.def_ 5 rfl
  have y6 : ∃ fd, FunD K "are_parts" "are_parts" (defArgs s_are_parts) (defBody s_are_parts) (defScope s_are_parts) [] [] (ga K "are_parts") fd := c.t.d.def_ 6 rfl
  have y7 : ∃ fd, FunD K "inner_plain" "inner_plain" (defArgs s_inner_plain) (defBody s_inner_plain) (defScope s_inner_plain) [] [] (ga K "inner_plain") fd := c.t.d.def_ 7 rfl
  have y8 : ∃ fd, FunD K "check_plain" "check_plain" (defArgs s_check_plain) (defBody s_check_plain) (defScope s_check_plain) [] [] (ga K "check_plain") fd := c.t.d.def_ 8 rfl
  have y9 : ∃ fd, FunD K "has_plain_word" "has_plain_word" (defArgs s_has_plain_word) (defBody s_has_plain_word) (defScope s_has_plain_word) [] [] (ga K "has_plain_word") fd := c.t.d.def_ 9 rfl
  have y10 : ∃ fd, FunD K "check_breaker" "check_breaker" (defArgs s_check_breaker) (defBody s_check_breaker) (defScope s_check_breaker) [] [] (ga K "check_breaker") fd := c.t.d.def_ 10 rfl
  have y11 : ∃ fd, FunD K "__init__" "AnyWorld.__init__" (defArgs s_AnyWorld_init) (defBody s_AnyWorld_init) (defScope s_AnyWorld_init) [] [] (ma K (ga K "AnyWorld") "__init__") fd := c.t.d.def_ 11 rfl
  have y12 : ∃ fd, FunD K "answer" "AnyWorld.answer" (defArgs s_AnyWorld_answer) (defBody s_AnyWorld_answer) (defScope s_AnyWorld_answer) [] [] (ma K (ga K "AnyWorld") "answer") fd := c.t.d.def_ 12 rfl
  have y13 : ∃ fd, FunD K "__init__" "PermutationWorld.__init__" (defArgs s_PermutationWorld_init) (defBody s_PermutationWorld_init) (defScope s_PermutationWorld_init) [] [] (ma K (ga K "PermutationWorld") "__init__") fd := c.t.d.def_ 13 rfl
  have y14 : ∃ fd, FunD K "answer" "PermutationWorld.answer" (defArgs s_PermutationWorld_answer) (defBody s_PermutationWorld_answer) (defScope s_PermutationWorld_answer) [] [] (ma K (ga K "PermutationWorld") "answer") fd := c.t.d.def_ 14 rfl
  have y15 : ∃ fd, FunD K "__init__" "SwapWorld.__init__" (defArgs s_SwapWorld_init) (defBody s_SwapWorld_init) (defScope s_SwapWorld_init) [] [] (ma K (ga K "SwapWorld") "__init__") fd := c.t.d.def_ 15 rfl
  have y16 : ∃ fd, FunD K "answer" "SwapWorld.answer" (defArgs s_SwapWorld_answer) (defBody s_SwapWorld_answer) (defScope s_SwapWorld_answer) [] [] (ma K (ga K "SwapWorld") "answer") fd := c.t.d.def_ 16 rfl
  have y17 : ∃ fd, FunD K "made_string" "made_string" (defArgs s_made_string) (defBody s_made_string) (defScope s_made_string) [] [] (ga K "made_string") fd := c.t.d.def_ 17 rfl
  have y18 : ∃ fd, FunD K "__init__" "Stopped.__init__" (defArgs s_Stopped_init) (defBody s_Stopped_init) (defScope s_Stopped_init) [] [] (ma K (ga K "Stopped") "__init__") fd := c.t.d.def_ 18 rfl
  have y19 : ∃ fd, FunD K "now" "Stopped.now" (defArgs s_Stopped_now) (defBody s_Stopped_now) (defScope s_Stopped_now) [] [] (ma K (ga K "Stopped") "now") fd := c.t.d.def_ 19 rfl
  have y20 : ∃ fd, FunD K "run_plain" "run_plain" (defArgs s_run_plain) (defBody s_run_plain) (defScope s_run_plain) [] [] (ga K "run_plain") fd := c.t.d.def_ 20 rfl
  have y21 : ∃ fd, FunD K "run_breaker" "run_breaker" (defArgs s_run_breaker) (defBody s_run_breaker) (defScope s_run_breaker) [] [] (ga K "run_breaker") fd := c.t.d.def_ 21 rfl
  have y22 : ∃ fd, FunD K "__init__" "Tape.__init__" (defArgs s_Tape_init) (defBody s_Tape_init) (defScope s_Tape_init) [] [] (ma K (ga K "Tape") "__init__") fd := c.t.d.def_ 22 rfl
  have y23 : ∃ fd, FunD K "draw" "Tape.draw" (defArgs s_Tape_draw) (defBody s_Tape_draw) (defScope s_Tape_draw) [] [] (ma K (ga K "Tape") "draw") fd := c.t.d.def_ 23 rfl
  have y24 : ∃ fd, FunD K "string" "Tape.string" (defArgs s_Tape_string) (defBody s_Tape_string) (defScope s_Tape_string) [] [] (ma K (ga K "Tape") "string") fd := c.t.d.def_ 24 rfl
  have y25 : ∃ fd, FunD K "is_truth" "is_truth" (defArgs s_is_truth) (defBody s_is_truth) (defScope s_is_truth) [] [] (ga K "is_truth") fd := c.t.d.def_ 25 rfl
  have y26 : ∃ fd, FunD K "is_right" "is_right" (defArgs s_is_right) (defBody s_is_right) (defScope s_is_right) [] [] (ga K "is_right") fd := c.t.d.def_ 26 rfl
  have y27 : ∃ fd, FunD K "check_game" "check_game" (defArgs s_check_game) (defBody s_check_game) (defScope s_check_game) [] [] (ga K "check_game") fd := c.t.d.def_ 27 rfl
  have y28 : ∃ fd, FunD K "__init__" "Play.__init__" (defArgs s_Play_init) (defBody s_Play_init) (defScope s_Play_init) [] [] (ma K (ga K "Play") "__init__") fd := c.t.d.def_ 28 rfl
  have y29 : ∃ fd, FunD K "__init__" "Notes.__init__" (defArgs s_Notes_init) (defBody s_Notes_init) (defScope s_Notes_init) [] [] (ma K (ga K "Notes") "__init__") fd := c.t.d.def_ 29 rfl
  have y30 : ∃ fd, FunD K "answer" "Notes.answer" (defArgs s_Notes_answer) (defBody s_Notes_answer) (defScope s_Notes_answer) [] [] (ma K (ga K "Notes") "answer") fd := c.t.d.def_ 30 rfl
  have y31 : ∃ fd, FunD K "function_world" "function_world" (defArgs s_function_world) (defBody s_function_world) (defScope s_function_world) [] [] (ga K "function_world") fd := c.t.d.def_ 31 rfl
  have y32 : ∃ fd, FunD K "__init__" "Table.__init__" (defArgs s_Table_init) (defBody s_Table_init) (defScope s_Table_init) [] [] (ma K (ga K "Table") "__init__") fd := c.t.d.def_ 32 rfl
  have y33 : ∃ fd, FunD K "begin_asks" "Table.begin_asks" (defArgs s_Table_begin_asks) (defBody s_Table_begin_asks) (defScope s_Table_begin_asks) [] [] (ma K (ga K "Table") "begin_asks") fd := c.t.d.def_ 33 rfl
  have y34 : ∃ fd, FunD K "has_won" "Table.has_won" (defArgs s_Table_has_won) (defBody s_Table_has_won) (defScope s_Table_has_won) [] [] (ma K (ga K "Table") "has_won") fd := c.t.d.def_ 34 rfl
  have y35 : ∃ fd, FunD K "played" "played" (defArgs s_played) (defBody s_played) (defScope s_played) [] [] (ga K "played") fd := c.t.d.def_ 35 rfl
  have y36 : ∃ fd, FunD K "fraction" "fraction" (defArgs s_fraction) (defBody s_fraction) (defScope s_fraction) [] [] (ga K "fraction") fd := c.t.d.def_ 36 rfl
  have y37 : ∃ fd, FunD K "add" "add" (defArgs s_add) (defBody s_add) (defScope s_add) [] [] (ga K "add") fd := c.t.d.def_ 37 rfl
  have y38 : ∃ fd, FunD K "next_choices" "next_choices" (defArgs s_next_choices) (defBody s_next_choices) (defScope s_next_choices) [] [] (ga K "next_choices") fd := c.t.d.def_ 38 rfl
  have y39 : ∃ fd, FunD K "__init__" "Ways.__init__" (defArgs s_Ways_init) (defBody s_Ways_init) (defScope s_Ways_init) [] [] (ma K (ga K "Ways") "__init__") fd := c.t.d.def_ 39 rfl
  have y40 : ∃ fd, FunD K "count" "Ways.count" (defArgs s_Ways_count) (defBody s_Ways_count) (defScope s_Ways_count) [] [] (ma K (ga K "Ways") "count") fd := c.t.d.def_ 40 rfl
  have y41 : ∃ fd, FunD K "chance" "Ways.chance" (defArgs s_Ways_chance) (defBody s_Ways_chance) (defScope s_Ways_chance) [] [] (ma K (ga K "Ways") "chance") fd := c.t.d.def_ 41 rfl
  have y42 : ∃ fd, FunD K "ways_of" "ways_of" (defArgs s_ways_of) (defBody s_ways_of) (defScope s_ways_of) [] [] (ga K "ways_of") fd := c.t.d.def_ 42 rfl
  have y43 : ∃ fd, FunD K "chance" "chance" (defArgs s_chance) (defBody s_chance) (defScope s_chance) [] [("most", .int 300000)] (ga K "chance") fd := c.t.d.def_ 43 rfl
  have y44 : ∃ fd, FunD K "_law_mixed" "_law_mixed" (defArgs s_law_mixed) (defBody s_law_mixed) (defScope s_law_mixed) [] [] (ga K "_law_mixed") fd := c.t.d.def_ 44 rfl
  have y45 : ∃ fd, FunD K "_law_tape" "_law_tape" (defArgs s_law_tape) (defBody s_law_tape) (defScope s_law_tape) [] [] (ga K "_law_tape") fd := c.t.d.def_ 45 rfl
  have y46 : ∃ fd, FunD K "_law_draw" "_law_draw" (defArgs s_law_draw) (defBody s_law_draw) (defScope s_law_draw) [] [] (ga K "_law_draw") fd := c.t.d.def_ 46 rfl
  have y47 : ∃ fd, FunD K "_law_pick" "_law_pick" (defArgs s_law_pick) (defBody s_law_pick) (defScope s_law_pick) [] [] (ga K "_law_pick") fd := c.t.d.def_ 47 rfl
  have y48 : ∃ fd, FunD K "_law_bits" "_law_bits" (defArgs s_law_bits) (defBody s_law_bits) (defScope s_law_bits) [] [] (ga K "_law_bits") fd := c.t.d.def_ 48 rfl
  have y49 : ∃ fd, FunD K "_law_string" "_law_string" (defArgs s_law_string) (defBody s_law_string) (defScope s_law_string) [] [] (ga K "_law_string") fd := c.t.d.def_ 49 rfl
  have y50 : ∃ fd, FunD K "_law_xor" "_law_xor" (defArgs s_law_xor) (defBody s_law_xor) (defScope s_law_xor) [] [] (ga K "_law_xor") fd := c.t.d.def_ 50 rfl
  have y51 : ∃ fd, FunD K "_law_fraction" "_law_fraction" (defArgs s_law_fraction) (defBody s_law_fraction) (defScope s_law_fraction) [] [] (ga K "_law_fraction") fd := c.t.d.def_ 51 rfl
  have y52 : ∃ fd, FunD K "_law_sum" "_law_sum" (defArgs s_law_sum) (defBody s_law_sum) (defScope s_law_sum) [] [] (ga K "_law_sum") fd := c.t.d.def_ 52 rfl
  have y53 : ∃ fd, FunD K "_law_less" "_law_less" (defArgs s_law_less) (defBody s_law_less) (defScope s_law_less) [] [] (ga K "_law_less") fd := c.t.d.def_ 53 rfl
  have y54 : ∃ fd, FunD K "_law_note" "_law_note" (defArgs s_law_note) (defBody s_law_note) (defScope s_law_note) [] [] (ga K "_law_note") fd := c.t.d.def_ 54 rfl
  have y55 : ∃ fd, FunD K "_law_parts" "_law_parts" (defArgs s_law_parts) (defBody s_law_parts) (defScope s_law_parts) [] [] (ga K "_law_parts") fd := c.t.d.def_ 55 rfl
  have y56 : ∃ fd, FunD K "_law_say" "_law_say" (defArgs s_law_say) (defBody s_law_say) (defScope s_law_say) [] [] (ga K "_law_say") fd := c.t.d.def_ 56 rfl
  have y57 : ∃ fd, FunD K "_law_breaker" "_law_breaker" (defArgs s_law_breaker) (defBody s_law_breaker) (defScope s_law_breaker) [] [] (ga K "_law_breaker") fd := c.t.d.def_ 57 rfl
  have y58 : ∃ fd, FunD K "_law_made" "_law_made" (defArgs s_law_made) (defBody s_law_made) (defScope s_law_made) [] [] (ga K "_law_made") fd := c.t.d.def_ 58 rfl
  have y59 : ∃ fd, FunD K "_law_function" "_law_function" (defArgs s_law_function) (defBody s_law_function) (defScope s_law_function) [] [] (ga K "_law_function") fd := c.t.d.def_ 59 rfl
  have y60 : ∃ fd, FunD K "_law_asking" "_law_asking" (defArgs s_law_asking) (defBody s_law_asking) (defScope s_law_asking) [] [] (ga K "_law_asking") fd := c.t.d.def_ 60 rfl
  have y61 : ∃ fd, FunD K "_law_answers" "_law_answers" (defArgs s_law_answers) (defBody s_law_answers) (defScope s_law_answers) [] [] (ga K "_law_answers") fd := c.t.d.def_ 61 rfl
  have y62 : ∃ fd, FunD K "_law_is" "_law_is" (defArgs s_law_is) (defBody s_law_is) (defScope s_law_is) [] [] (ga K "_law_is") fd := c.t.d.def_ 62 rfl
  have y63 : ∃ fd, FunD K "_law_strings" "_law_strings" (defArgs s_law_strings) (defBody s_law_strings) (defScope s_law_strings) [] [] (ga K "_law_strings") fd := c.t.d.def_ 63 rfl
  have y64 : ∃ fd, FunD K "_law_shuffling" "_law_shuffling" (defArgs s_law_shuffling) (defBody s_law_shuffling) (defScope s_law_shuffling) [] [] (ga K "_law_shuffling") fd := c.t.d.def_ 64 rfl
  have y65 : ∃ fd, FunD K "_law_swapped" "_law_swapped" (defArgs s_law_swapped) (defBody s_law_swapped) (defScope s_law_swapped) [] [] (ga K "_law_swapped") fd := c.t.d.def_ 65 rfl
  have y66 : ∃ fd, FunD K "_law_swapping" "_law_swapping" (defArgs s_law_swapping) (defBody s_law_swapping) (defScope s_law_swapping) [] [] (ga K "_law_swapping") fd := c.t.d.def_ 66 rfl
  have y67 : ∃ fd, FunD K "_law_asks" "_law_asks" (defArgs s_law_asks) (defBody s_law_asks) (defScope s_law_asks) [] [] (ga K "_law_asks") fd := c.t.d.def_ 67 rfl
  have y68 : ∃ fd, FunD K "_law_within" "_law_within" (defArgs s_law_within) (defBody s_law_within) (defScope s_law_within) [] [] (ga K "_law_within") fd := c.t.d.def_ 68 rfl
  have y69 : ∃ fd, FunD K "law" "law" (defArgs s_law) (defBody s_law) (defScope s_law) [] [] (ga K "law") fd := c.t.d.def_ 69 rfl
  exact Fx.mk z0 z1 z2 z3 z4 z5 z6 z7 z8 z9 z10 z11 z12 z13 z14 z15 z16 z17 z18 z19 z20 z21 z22 z23 z24 z25 z26 z27 z28 z29 z30 z31 z32 z33 z34 z35 z36 z37 z38 z39 z40 z41 z42 z43 z44 z45 z46 z47 z48 z49 z50 z51 z52 z53 z54 z55 z56 z57 z58 z59 z60 z61 z62 z63 z64 z65 z66 z67 z68 z69 z70 z71 z72 z73 z74 z75 z76 z77 z78 z79 z80 z81 z82 z83 z84 z85 z86 z87 z88 z89 z90 z91 z92 z93 z94 z95 z96 z97 z98 z99 z100 z101 z102 z103 z104 z105 z106 z107 z108 z109 z110 z111 z112 z113 z114 z115 z116 z117 z118 z119 z120 z121 z122 z123 z124 z125 z126 z127 z128 z129 z130 z131 z132 z133 z134 z135 z136 z137 z138 z139 e1 e2 e3 e4 e5 (intAt_ok b2) (intAt_ok b3) (intAt_ok b4) (eqO_ok r1) (eqO_ok r2) (eqO_ok r3) (eqO_ok r4) (of_decide_eq_true o1) (eqO_ok o2) (eqO_ok n1) (of_decide_eq_true n2) (of_decide_eq_true n3) y0 y1 y2 y3 y4 y5 y6 y7 y8 y9 y10 y11 y12 y13 y14 y15 y16 y17 y18 y19 y20 y21 y22 y23 y24 y25 y26 y27 y28 y29 y30 y31 y32 y33 y34 y35 y36 y37 y38 y39 y40 y41 y42 y43 y44 y45 y46 y47 y48 y49 y50 y51 y52 y53 y54 y55 y56 y57 y58 y59 y60 y61 y62 y63 y64 y65 y66 y67 y68 y69
theorem facts {P : Program} {w : World} {K : PySem.W.Frag} {h : Heap} {mg : Str → Option Value} {f : Addr} (X : K.In h) (G : h.Ns mainGlobals mg) (hfa : mg ("law" : Str) = some (.ref f)) (c : SaysM w K) :
    ∃ fd : FuncData, (∀ (s : Shared) (v : Value), BindsTo s fd ⟨[v], []⟩ [("_law_script", v)]) ∧ ∀ base : Heap, K.In base → base.Ns mainGlobals mg → FnOk P w K mg base CX0 14 f fd ["_law_script"] (spLaw K) := by
  have F := fx X G c
  obtain ⟨fd, D⟩ := F.d_law
  have e := hfa.symm.trans F.g_law
  cases e
  have b := FunD.bindsA (ps := ["_law_script"]) D fun _ _ _ _ _ _ us hl => match us, hl with | [_], _ => rfl
  exact ⟨fd, fun s v => b s [v] rfl, fun base _ _ => k_law F laws D⟩
/-! the row's own looks, each by itself -/
noncomputable abbrev dLaw : DefRec := HandSHeadRun.topDef R.prog 123
theorem e_def : PySem.W.defOf qv R.name = some (dLaw, []) := by kernel_rfl
theorem e_the : R.prog.theDef R.name = some (dLaw.params, dLaw.body, dLaw.scope) := by kernel_rfl
theorem e_kw : kwWritten? dLaw.params.kwonlyargs dLaw.params.kw_defaults = some [] := by rfl
theorem e_wr : (!R.writes || R.records.isEmpty) = true := by decide +kernel
theorem e_ok : (chainsOk qv && opensWell R.prog && (frees R.toRowW && R.within.isEmpty)) = true := by kernel_rfl
theorem e_bare : R.prog.bare := ⟨rfl, rfl, rfl, rfl, rfl, by decide +kernel⟩
theorem e_name : dLaw.name = ("law" : PySem.Str) := by kernel_rfl
theorem e_defaults : dLaw.params.defaults = [] := by kernel_rfl
end BK
open PySem PySem.W PySem.Calls PyProof.Rows
theorem PySem.Challenge.cw_breakback_k27_permutations_and_swaps_holds : PySem.Challenge.rw_breakback_k27_permutations_and_swaps.Holds := by
  w_on; o_law
  refine HandSHeadRun.head_imp (r := OpenLaw.row PySem.Challenge.rw_breakback_k27_permutations_and_swaps) (q := BK.qv) (H := BK.hk) (ob := BK.ob) (M := 9000) (loose := BK.loose) (d := HandSHeadRun.topDef (OpenLaw.row PySem.Challenge.rw_breakback_k27_permutations_and_swaps).prog 123) (kwd := []) BK.ob_eq BK.run
    BK.e_def BK.e_the BK.e_kw BK.e_wr (by assumption) BK.e_ok BK.e_bare ?hw ?hc
  case hw => w_witness2
  case hc =>
    refine L2.walk_ofE (l := PySem.Challenge.rw_breakback_k27_permutations_and_swaps) (n := 63) (k := 14) (x := "_law_script") (CX := L2.CX0) rfl (by decide) BK.e_defaults ⟨rfl, by decide, by decide⟩ ?F (fun _ _ _ _ z => z)
    intro w mg fa h Y G hmg0
    obtain ⟨K, KX, c⟩ := Y
    have hmg : mg ("law" : PySem.Str) = some (.ref fa) := by
      rw [← BK.e_name]
      exact hmg0
    obtain ⟨fd, hb, hF⟩ := BK.facts (P := (PySem.Challenge.rw_breakback_k27_permutations_and_swaps).prog) (w := w) KX G hmg c
    exact ⟨K, fd, BK.spLaw K, KX, hb, fun H a ns hl _ hS => ⟨a, ns, rfl, Or.inl hS, fun _ => rfl⟩, hF⟩
