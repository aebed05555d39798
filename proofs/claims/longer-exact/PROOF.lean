import PyProof.Rows.All
import Wide.All
import OpenK.AllK
import Wide.FinOn
import HandS.ForMost
import HandS.Defaults
import HandS.Words
import KE.KStateDown
import Lean
import HandS.Exc
import HandS.Head0
import HandS.Head1
import HandS.Head2
import HandS.Head3
import HandS.HeadEnd
import HandS.HeadHook1
import HandS.HeadHook2
import HandS.HeadHook3
import HandS.HeadHook4
import HandS.Codes
import HandS.Style
import HandS.IsInst
import HandS.Gcd
import HandS.Wide
import HandS.RevRange
import HandS.Walk
import PySem.Challenge.RW_breakback_k18_longer_exact
set_option Elab.async false
set_option linter.all false
set_option maxRecDepth 100000
namespace Bk
open PySem PySem.Spec PyProof.Rows L2
/-! ### the text: the defs by their places -/
def top (i : Nat) : Stmt := PySem.Challenge.pw_breakback_k18_longer_exact.main.body.getD i (.Pass ⟨0, 0, 0, 0⟩)
abbrev s_bits : Stmt := top 2
abbrev s_number_of : Stmt := top 3
abbrev s_is_number : Stmt := top 16
abbrev s_is_bits : Stmt := top 17
abbrev s_is_row : Stmt := top 18
abbrev s_is_generator : Stmt := top 19
abbrev s_check_block : Stmt := top 21
abbrev s_row_at : Stmt := top 22
abbrev s_put_out : Stmt := top 24
abbrev s_longer : Stmt := top 25
abbrev s_are_parts : Stmt := top 38
abbrev s_inner_plain : Stmt := top 39
abbrev s_check_plain : Stmt := top 40
abbrev s_fits_longer : Stmt := top 41
abbrev s_fits_word : Stmt := top 44
abbrev s_has_plain_word : Stmt := top 45
abbrev s_check_breaker : Stmt := top 46
abbrev s_made_string : Stmt := top 58
abbrev s_run_plain : Stmt := top 60
abbrev s_run_longer : Stmt := top 61
abbrev s_run_breaker : Stmt := top 79
abbrev s_is_truth : Stmt := top 84
abbrev s_is_right : Stmt := top 85
abbrev s_check_game : Stmt := top 86
abbrev s_cover : Stmt := top 89
abbrev s_played : Stmt := top 92
abbrev s_fraction : Stmt := top 94
abbrev s_add : Stmt := top 95
abbrev s_less : Stmt := top 96
abbrev s_next_choices : Stmt := top 97
abbrev s_ways_of : Stmt := top 99
abbrev s_chance : Stmt := top 100
abbrev s_advantage : Stmt := top 101
abbrev s_law_mixed : Stmt := top 103
abbrev s_law_tape : Stmt := top 104
abbrev s_law_draw : Stmt := top 105
abbrev s_law_pick : Stmt := top 106
abbrev s_law_bits : Stmt := top 107
abbrev s_law_number : Stmt := top 108
abbrev s_law_string : Stmt := top 109
abbrev s_law_fraction : Stmt := top 110
abbrev s_law_sum : Stmt := top 111
abbrev s_law_less : Stmt := top 112
abbrev s_law_times : Stmt := top 113
abbrev s_law_note : Stmt := top 114
abbrev s_law_parts : Stmt := top 115
abbrev s_law_say : Stmt := top 116
abbrev s_law_breaker : Stmt := top 117
abbrev s_law_made : Stmt := top 118
abbrev s_law_silent : Stmt := top 119
abbrev s_law_silent_chance : Stmt := top 120
abbrev s_law_strings : Stmt := top 121
abbrev s_law_generator : Stmt := top 122
abbrev s_law_generator_gain : Stmt := top 123
abbrev s_law_is : Stmt := top 124
abbrev s_law_longer : Stmt := top 125
abbrev s_law_made_chance : Stmt := top 126
abbrev s_law : Stmt := top 127
abbrev s_Silent_answer : Stmt := inClass (top 48) 0
abbrev s_Stopped__init : Stmt := inClass (top 59) 0
abbrev s_Stopped_now : Stmt := inClass (top 59) 1
abbrev s_Tape__init : Stmt := inClass (top 81) 0
abbrev s_Tape_draw : Stmt := inClass (top 81) 1
abbrev s_Tape_string : Stmt := inClass (top 81) 2
abbrev s_Play__init : Stmt := inClass (top 87) 0
abbrev s_Notes__init : Stmt := inClass (top 88) 0
abbrev s_Notes_answer : Stmt := inClass (top 88) 1
abbrev s_Table__init : Stmt := inClass (top 91) 0
abbrev s_Table_begin_challenge : Stmt := inClass (top 91) 2
abbrev s_Table_has_won : Stmt := inClass (top 91) 4
abbrev s_Ways__init : Stmt := inClass (top 98) 0
abbrev s_Ways_count : Stmt := inClass (top 98) 1
abbrev s_Ways_chance : Stmt := inClass (top 98) 2
abbrev FnP (K : PySem.W.Frag) (x q : Str) (st : Stmt) (f : Addr) (fd : FuncData) : Prop := FunD K x q (defArgs st) (defBody st) (defScope st) [] [] f fd
end Bk

set_option Elab.async false
set_option linter.all false
set_option maxRecDepth 100000
set_option maxHeartbeats 0
/-! the head: facts by names, the run -/
namespace Bk
open PySem PySem.Spec PyProof.Rows L2
def d_Silent_answer : He.DefD := ⟨("Silent", some "answer"), "answer", "Silent.answer", defArgs s_Silent_answer, defBody s_Silent_answer, defScope s_Silent_answer, [], []⟩
def d_Stopped__init : He.DefD := ⟨("Stopped", some "__init__"), "__init__", "Stopped.__init__", defArgs s_Stopped__init, defBody s_Stopped__init, defScope s_Stopped__init, [], []⟩
def d_Stopped_now : He.DefD := ⟨("Stopped", some "now"), "now", "Stopped.now", defArgs s_Stopped_now, defBody s_Stopped_now, defScope s_Stopped_now, [], []⟩
def d_Tape__init : He.DefD := ⟨("Tape", some "__init__"), "__init__", "Tape.__init__", defArgs s_Tape__init, defBody s_Tape__init, defScope s_Tape__init, [], []⟩
def d_Tape_draw : He.DefD := ⟨("Tape", some "draw"), "draw", "Tape.draw", defArgs s_Tape_draw, defBody s_Tape_draw, defScope s_Tape_draw, [], []⟩
def d_Tape_string : He.DefD := ⟨("Tape", some "string"), "string", "Tape.string", defArgs s_Tape_string, defBody s_Tape_string, defScope s_Tape_string, [], []⟩
def d_Play__init : He.DefD := ⟨("Play", some "__init__"), "__init__", "Play.__init__", defArgs s_Play__init, defBody s_Play__init, defScope s_Play__init, [], []⟩
def d_Notes__init : He.DefD := ⟨("Notes", some "__init__"), "__init__", "Notes.__init__", defArgs s_Notes__init, defBody s_Notes__init, defScope s_Notes__init, [], []⟩
def d_Notes_answer : He.DefD := ⟨("Notes", some "answer"), "answer", "Notes.answer", defArgs s_Notes_answer, defBody s_Notes_answer, defScope s_Notes_answer, [], []⟩
def d_Table__init : He.DefD := ⟨("Table", some "__init__"), "__init__", "Table.__init__", defArgs s_Table__init, defBody s_Table__init, defScope s_Table__init, [], []⟩
def d_Table_begin_challenge : He.DefD := ⟨("Table", some "begin_challenge"), "begin_challenge", "Table.begin_challenge", defArgs s_Table_begin_challenge, defBody s_Table_begin_challenge, defScope s_Table_begin_challenge, [], []⟩
def d_Table_has_won : He.DefD := ⟨("Table", some "has_won"), "has_won", "Table.has_won", defArgs s_Table_has_won, defBody s_Table_has_won, defScope s_Table_has_won, [], []⟩
def d_Ways__init : He.DefD := ⟨("Ways", some "__init__"), "__init__", "Ways.__init__", defArgs s_Ways__init, defBody s_Ways__init, defScope s_Ways__init, [], []⟩
def d_Ways_count : He.DefD := ⟨("Ways", some "count"), "count", "Ways.count", defArgs s_Ways_count, defBody s_Ways_count, defScope s_Ways_count, [], []⟩
def d_Ways_chance : He.DefD := ⟨("Ways", some "chance"), "chance", "Ways.chance", defArgs s_Ways_chance, defBody s_Ways_chance, defScope s_Ways_chance, [], []⟩
def d_bits : He.DefD := ⟨("bits", none), "bits", "bits", defArgs s_bits, defBody s_bits, defScope s_bits, [], []⟩
def d_number_of : He.DefD := ⟨("number_of", none), "number_of", "number_of", defArgs s_number_of, defBody s_number_of, defScope s_number_of, [], []⟩
def d_is_number : He.DefD := ⟨("is_number", none), "is_number", "is_number", defArgs s_is_number, defBody s_is_number, defScope s_is_number, [], []⟩
def d_is_bits : He.DefD := ⟨("is_bits", none), "is_bits", "is_bits", defArgs s_is_bits, defBody s_is_bits, defScope s_is_bits, [], []⟩
def d_is_row : He.DefD := ⟨("is_row", none), "is_row", "is_row", defArgs s_is_row, defBody s_is_row, defScope s_is_row, [], []⟩
def d_is_generator : He.DefD := ⟨("is_generator", none), "is_generator", "is_generator", defArgs s_is_generator, defBody s_is_generator, defScope s_is_generator, [], []⟩
def d_check_block : He.DefD := ⟨("check_block", none), "check_block", "check_block", defArgs s_check_block, defBody s_check_block, defScope s_check_block, [], []⟩
def d_row_at : He.DefD := ⟨("row_at", none), "row_at", "row_at", defArgs s_row_at, defBody s_row_at, defScope s_row_at, [], []⟩
def d_put_out : He.DefD := ⟨("put_out", none), "put_out", "put_out", defArgs s_put_out, defBody s_put_out, defScope s_put_out, [], []⟩
def d_longer : He.DefD := ⟨("longer", none), "longer", "longer", defArgs s_longer, defBody s_longer, defScope s_longer, [], []⟩
def d_are_parts : He.DefD := ⟨("are_parts", none), "are_parts", "are_parts", defArgs s_are_parts, defBody s_are_parts, defScope s_are_parts, [], []⟩
def d_inner_plain : He.DefD := ⟨("inner_plain", none), "inner_plain", "inner_plain", defArgs s_inner_plain, defBody s_inner_plain, defScope s_inner_plain, [], []⟩
def d_check_plain : He.DefD := ⟨("check_plain", none), "check_plain", "check_plain", defArgs s_check_plain, defBody s_check_plain, defScope s_check_plain, [], []⟩
def d_fits_longer : He.DefD := ⟨("fits_longer", none), "fits_longer", "fits_longer", defArgs s_fits_longer, defBody s_fits_longer, defScope s_fits_longer, [], []⟩
def d_fits_word : He.DefD := ⟨("fits_word", none), "fits_word", "fits_word", defArgs s_fits_word, defBody s_fits_word, defScope s_fits_word, [], []⟩
def d_has_plain_word : He.DefD := ⟨("has_plain_word", none), "has_plain_word", "has_plain_word", defArgs s_has_plain_word, defBody s_has_plain_word, defScope s_has_plain_word, [], []⟩
def d_check_breaker : He.DefD := ⟨("check_breaker", none), "check_breaker", "check_breaker", defArgs s_check_breaker, defBody s_check_breaker, defScope s_check_breaker, [], []⟩
def d_made_string : He.DefD := ⟨("made_string", none), "made_string", "made_string", defArgs s_made_string, defBody s_made_string, defScope s_made_string, [], []⟩
def d_run_plain : He.DefD := ⟨("run_plain", none), "run_plain", "run_plain", defArgs s_run_plain, defBody s_run_plain, defScope s_run_plain, [], []⟩
def d_run_longer : He.DefD := ⟨("run_longer", none), "run_longer", "run_longer", defArgs s_run_longer, defBody s_run_longer, defScope s_run_longer, [], []⟩
def d_run_breaker : He.DefD := ⟨("run_breaker", none), "run_breaker", "run_breaker", defArgs s_run_breaker, defBody s_run_breaker, defScope s_run_breaker, [], []⟩
def d_is_truth : He.DefD := ⟨("is_truth", none), "is_truth", "is_truth", defArgs s_is_truth, defBody s_is_truth, defScope s_is_truth, [], []⟩
def d_is_right : He.DefD := ⟨("is_right", none), "is_right", "is_right", defArgs s_is_right, defBody s_is_right, defScope s_is_right, [], []⟩
def d_check_game : He.DefD := ⟨("check_game", none), "check_game", "check_game", defArgs s_check_game, defBody s_check_game, defScope s_check_game, [], []⟩
def d_cover : He.DefD := ⟨("cover", none), "cover", "cover", defArgs s_cover, defBody s_cover, defScope s_cover, [], []⟩
def d_played : He.DefD := ⟨("played", none), "played", "played", defArgs s_played, defBody s_played, defScope s_played, [], []⟩
def d_fraction : He.DefD := ⟨("fraction", none), "fraction", "fraction", defArgs s_fraction, defBody s_fraction, defScope s_fraction, [], []⟩
def d_add : He.DefD := ⟨("add", none), "add", "add", defArgs s_add, defBody s_add, defScope s_add, [], []⟩
def d_less : He.DefD := ⟨("less", none), "less", "less", defArgs s_less, defBody s_less, defScope s_less, [], []⟩
def d_next_choices : He.DefD := ⟨("next_choices", none), "next_choices", "next_choices", defArgs s_next_choices, defBody s_next_choices, defScope s_next_choices, [], []⟩
def d_ways_of : He.DefD := ⟨("ways_of", none), "ways_of", "ways_of", defArgs s_ways_of, defBody s_ways_of, defScope s_ways_of, [], []⟩
def d_chance : He.DefD := ⟨("chance", none), "chance", "chance", defArgs s_chance, defBody s_chance, defScope s_chance, [], [("most", .int 300000)]⟩
def d_advantage : He.DefD := ⟨("advantage", none), "advantage", "advantage", defArgs s_advantage, defBody s_advantage, defScope s_advantage, [], [("most", .int 300000)]⟩
def d_law_mixed : He.DefD := ⟨("_law_mixed", none), "_law_mixed", "_law_mixed", defArgs s_law_mixed, defBody s_law_mixed, defScope s_law_mixed, [], []⟩
def d_law_tape : He.DefD := ⟨("_law_tape", none), "_law_tape", "_law_tape", defArgs s_law_tape, defBody s_law_tape, defScope s_law_tape, [], []⟩
def d_law_draw : He.DefD := ⟨("_law_draw", none), "_law_draw", "_law_draw", defArgs s_law_draw, defBody s_law_draw, defScope s_law_draw, [], []⟩
def d_law_pick : He.DefD := ⟨("_law_pick", none), "_law_pick", "_law_pick", defArgs s_law_pick, defBody s_law_pick, defScope s_law_pick, [], []⟩
def d_law_bits : He.DefD := ⟨("_law_bits", none), "_law_bits", "_law_bits", defArgs s_law_bits, defBody s_law_bits, defScope s_law_bits, [], []⟩
def d_law_number : He.DefD := ⟨("_law_number", none), "_law_number", "_law_number", defArgs s_law_number, defBody s_law_number, defScope s_law_number, [], []⟩
def d_law_string : He.DefD := ⟨("_law_string", none), "_law_string", "_law_string", defArgs s_law_string, defBody s_law_string, defScope s_law_string, [], []⟩
def d_law_fraction : He.DefD := ⟨("_law_fraction", none), "_law_fraction", "_law_fraction", defArgs s_law_fraction, defBody s_law_fraction, defScope s_law_fraction, [], []⟩
def d_law_sum : He.DefD := ⟨("_law_sum", none), "_law_sum", "_law_sum", defArgs s_law_sum, defBody s_law_sum, defScope s_law_sum, [], []⟩
def d_law_less : He.DefD := ⟨("_law_less", none), "_law_less", "_law_less", defArgs s_law_less, defBody s_law_less, defScope s_law_less, [], []⟩
def d_law_times : He.DefD := ⟨("_law_times", none), "_law_times", "_law_times", defArgs s_law_times, defBody s_law_times, defScope s_law_times, [], []⟩
def d_law_note : He.DefD := ⟨("_law_note", none), "_law_note", "_law_note", defArgs s_law_note, defBody s_law_note, defScope s_law_note, [], []⟩
def d_law_parts : He.DefD := ⟨("_law_parts", none), "_law_parts", "_law_parts", defArgs s_law_parts, defBody s_law_parts, defScope s_law_parts, [], []⟩
def d_law_say : He.DefD := ⟨("_law_say", none), "_law_say", "_law_say", defArgs s_law_say, defBody s_law_say, defScope s_law_say, [], []⟩
def d_law_breaker : He.DefD := ⟨("_law_breaker", none), "_law_breaker", "_law_breaker", defArgs s_law_breaker, defBody s_law_breaker, defScope s_law_breaker, [], []⟩
def d_law_made : He.DefD := ⟨("_law_made", none), "_law_made", "_law_made", defArgs s_law_made, defBody s_law_made, defScope s_law_made, [], []⟩
def d_law_silent : He.DefD := ⟨("_law_silent", none), "_law_silent", "_law_silent", defArgs s_law_silent, defBody s_law_silent, defScope s_law_silent, [], []⟩
def d_law_silent_chance : He.DefD := ⟨("_law_silent_chance", none), "_law_silent_chance", "_law_silent_chance", defArgs s_law_silent_chance, defBody s_law_silent_chance, defScope s_law_silent_chance, [], []⟩
def d_law_strings : He.DefD := ⟨("_law_strings", none), "_law_strings", "_law_strings", defArgs s_law_strings, defBody s_law_strings, defScope s_law_strings, [], []⟩
def d_law_generator : He.DefD := ⟨("_law_generator", none), "_law_generator", "_law_generator", defArgs s_law_generator, defBody s_law_generator, defScope s_law_generator, [], []⟩
def d_law_generator_gain : He.DefD := ⟨("_law_generator_gain", none), "_law_generator_gain", "_law_generator_gain", defArgs s_law_generator_gain, defBody s_law_generator_gain, defScope s_law_generator_gain, [], []⟩
def d_law_is : He.DefD := ⟨("_law_is", none), "_law_is", "_law_is", defArgs s_law_is, defBody s_law_is, defScope s_law_is, [], []⟩
def d_law_longer : He.DefD := ⟨("_law_longer", none), "_law_longer", "_law_longer", defArgs s_law_longer, defBody s_law_longer, defScope s_law_longer, [], []⟩
def d_law_made_chance : He.DefD := ⟨("_law_made_chance", none), "_law_made_chance", "_law_made_chance", defArgs s_law_made_chance, defBody s_law_made_chance, defScope s_law_made_chance, [], []⟩
def d_law : He.DefD := ⟨("law", none), "law", "law", defArgs s_law, defBody s_law, defScope s_law, [], []⟩
def fn0 : List He.DefD := [d_Silent_answer, d_Stopped__init, d_Stopped_now, d_Tape__init, d_Tape_draw, d_Tape_string, d_Play__init, d_Notes__init, d_Notes_answer, d_Table__init, d_Table_begin_challenge, d_Table_has_won, d_Ways__init, d_Ways_count, d_Ways_chance, d_bits, d_number_of, d_is_number, d_is_bits, d_is_row]
def fn1 : List He.DefD := [d_is_generator, d_check_block, d_row_at, d_put_out, d_longer, d_are_parts, d_inner_plain, d_check_plain, d_fits_longer, d_fits_word, d_has_plain_word, d_check_breaker, d_made_string, d_run_plain, d_run_longer, d_run_breaker, d_is_truth, d_is_right, d_check_game, d_cover]
def fn2 : List He.DefD := [d_played, d_fraction, d_add, d_less, d_next_choices, d_ways_of, d_chance, d_advantage, d_law_mixed, d_law_tape, d_law_draw, d_law_pick, d_law_bits, d_law_number, d_law_string, d_law_fraction, d_law_sum, d_law_less, d_law_times, d_law_note]
def fn3 : List He.DefD := [d_law_parts, d_law_say, d_law_breaker, d_law_made, d_law_silent, d_law_silent_chance, d_law_strings, d_law_generator, d_law_generator_gain, d_law_is, d_law_longer, d_law_made_chance, d_law]
def fn : List He.DefD := fn0 ++ (fn1 ++ (fn2 ++ (fn3)))
def fa0 : List He.Fa := [.glo "bits", .glo "number_of", .glo "is_number", .glo "is_bits", .glo "is_row", .glo "is_generator", .glo "check_block", .glo "row_at", .glo "put_out", .glo "longer", .glo "are_parts", .glo "inner_plain", .glo "check_plain", .glo "fits_longer", .glo "fits_word", .glo "has_plain_word", .glo "check_breaker", .glo "made_string", .glo "run_plain", .glo "run_longer"]
def fa1 : List He.Fa := [.glo "run_breaker", .glo "is_truth", .glo "is_right", .glo "check_game", .glo "cover", .glo "played", .glo "fraction", .glo "add", .glo "less", .glo "next_choices", .glo "ways_of", .glo "chance", .glo "advantage", .glo "_law_mixed", .glo "_law_tape", .glo "_law_draw", .glo "_law_pick", .glo "_law_bits", .glo "_law_number", .glo "_law_string"]
def fa2 : List He.Fa := [.glo "_law_fraction", .glo "_law_sum", .glo "_law_less", .glo "_law_times", .glo "_law_note", .glo "_law_parts", .glo "_law_say", .glo "_law_breaker", .glo "_law_made", .glo "_law_silent", .glo "_law_silent_chance", .glo "_law_strings", .glo "_law_generator", .glo "_law_generator_gain", .glo "_law_is", .glo "_law_longer", .glo "_law_made_chance", .glo "law", .glo "Stopped", .glo "Tape"]
def fa3 : List He.Fa := [.glo "Play", .glo "Notes", .glo "Table", .glo "Ways", .glo "Silent", .glo "OnetimeWorld", .glo "PLAIN_WORDS", .glo "RUNS", .glo "SIZES", .free "len", .free "range", .free "isinstance", .free "all", .free "int", .free "bool", .free "str", .free "tuple", .free "abs", .free "list", .free "sorted"]
def fa4 : List He.Fa := [.free "reversed", .int "MOST_LENGTH" 40, .int "MOST_BIT" 9999, .int "MOST_TOSSED" 64, .int "MOST_DEPTH" 60, .int "MOST_LAYERS" 20, .int "MOST_WITHIN" 2000, .cls "Stopped", .cls "Tape", .cls "Play", .cls "Notes", .cls "Table", .cls "Ways", .cls "Silent", .noat "Stopped" "world", .noat "Tape" "choices", .noat "Tape" "draws", .noat "Play" "outcome", .noat "Play" "said", .noat "Play" "draws"]
def fa5 : List He.Fa := [.noat "Play" "asked", .noat "Notes" "world", .noat "Notes" "asked", .noat "Table" "game", .noat "Table" "tape", .noat "Table" "kind", .noat "Table" "challenge", .noat "Table" "world", .noat "Table" "secret", .noat "Ways" "most", .noat "Ways" "many", .noat "Ways" "won", .meth "Silent" "answer", .meth "Stopped" "now", .meth "Tape" "draw", .meth "Tape" "string", .meth "Notes" "answer", .meth "Table" "begin_challenge", .meth "Table" "has_won", .meth "Ways" "count"]
def fa6 : List He.Fa := [.meth "Ways" "chance", .mkr "Stopped", .mkr "Tape", .mkr "Play", .mkr "Notes", .mkr "Table", .mkr "Ways"]
def fa : List He.Fa := fa0 ++ (fa1 ++ (fa2 ++ (fa3 ++ (fa4 ++ (fa5 ++ (fa6))))))
def needC0 : List PySem.Str := ["Stopped", "Tape", "Play", "Notes", "Table", "Ways", "Silent", "OnetimeWorld"]
def needC : List PySem.Str := needC0
def needF0 : List PySem.Str := ["PLAIN_WORDS", "RUNS", "SIZES"]
def needF : List PySem.Str := needF0
def ts : List He.Tab := [(fun K => He.ga K "RUNS", ["counter", "cut", "bit", "longer", "tree", "marks", "secrets", "once", "opening", "onetime", "next", "guess", "hard"]), (fun K => He.ga K "SIZES", ["generator", "function", "permutation", "swaps", "marks", "secrets", "once", "opening", "next", "inverse", "onetime", "hard"])]
def ex1 (K : PySem.W.Frag) : Bool := He.eqO (PySem.W.nsIn K mainGlobals "gcd") (some (some (.builtin "math.gcd"))) && He.tupB K "PLAIN_WORDS" [.str "say", .str "toss", .str "look", .str "ask"]
def ex2 (K : PySem.W.Frag) : Bool := decide (PySem.W.kitOne K (.ref (He.ga K "Silent")) (.ref (He.ga K "OnetimeWorld")) = some false) && decide (PySem.W.kitOne K (.ref (He.ga K "Notes")) (.ref (He.ga K "OnetimeWorld")) = some false)
def ex3 (K : PySem.W.Frag) : Bool := PySem.W.makesIn K (He.ga K "Silent") && (He.eqO (PySem.W.findIn K (.ref (He.ga K "Silent")) "__init__") (some (some (.builtin "object.__init__"))) && PySem.W.keepIn K (.ref (He.ga K "Silent")))
def ex4 (K : PySem.W.Frag) : Bool := He.valsB K (He.ga K "RUNS") [("longer", .glo "run_longer")] && He.valsB K (He.ga K "SIZES") [("generator", .int 3)]
def ex5 (K : PySem.W.Frag) : Bool := He.eqO (PySem.W.nsIn K (He.ga K "RUNS") "say") (some none) && (He.eqO (PySem.W.nsIn K (He.ga K "RUNS") "toss") (some none) && (He.eqO (PySem.W.nsIn K (He.ga K "RUNS") "look") (some none) && He.eqO (PySem.W.nsIn K (He.ga K "RUNS") "ask") (some none)))
def ex6 (K : PySem.W.Frag) : Bool := He.eqO (PySem.W.findIn K (.ref (He.ga K "Silent")) "__class__") (some (some (.builtin "object.__class__"))) && (He.eqO (PySem.W.findIn K (.ref (He.ga K "Notes")) "__class__") (some (some (.builtin "object.__class__"))) && (He.eqO (PySem.W.specialIn K (.builtin "object.__class__") "__get__") (some (some (.builtin "getset_descriptor.__get__"))) && (decide (PySem.W.takesIn K (.builtin "object.__class__") = some true) && (decide (PySem.W.mroIn K (He.ga K "Silent") (.type "object") = some true) && decide (PySem.W.mroIn K (He.ga K "Notes") (.type "object") = some true)))))
def ex (K : PySem.W.Frag) : Bool := ex1 K && (ex2 K && (ex3 K && (ex4 K && (ex5 K && ex6 K))))
abbrev R : PySem.W.OpenRow := PySem.W.OpenLaw.row PySem.Challenge.rw_breakback_k18_longer_exact
/-! the part of the heap that is looked at: the needed names' objects, a def's code and keyword defaults, a class's names and its methods with their code -/
abbrev Gt : Type := Addr → Option Obj
def refsF (g : Gt) (a : Addr) : List Addr := match g a with
  | some ⟨_, _, .func fd, _⟩ => He.refV fd.code ++ He.refV fd.kwdefaults
  | some ⟨_, _, .cls cd, _⟩ => [cd.ns]
  | _ => []
def gaM (g : Gt) (x : PySem.Str) : Addr := He.ga (He.frG g [mainGlobals]) x
def as0 (g : Gt) : List Addr := mainGlobals :: (needC.map (gaM g) ++ (needC.map (gaM g)).flatMap (refsF g))
def K0 (g : Gt) : PySem.W.Frag := He.frG g (as0 g)
def aF (g : Gt) : List Addr := fn.map fun d => He.fAd (K0 g) d.at_
def asN (g : Gt) : List Addr := as0 g ++ (aF g ++ ((aF g).flatMap (refsF g) ++ needF.map (gaM g)))
def KN (g : Gt) : PySem.W.Frag := He.frG g (asN g)
def codeG (g : Gt) (cd : Value) (q : PySem.Str) : Bool := match cd with
  | .ref c => (match g c with
    | some ⟨_, _, .fields vs, _⟩ => (match vs.toList with
      | _ :: .str n _ :: _ => n == q
      | _ => false)
    | _ => false)
  | _ => false
def okG (g : Gt) (K : PySem.W.Frag) (d : He.DefD) (a : Addr) : Bool := match g a with
  | some ⟨_, _, .func fd, _⟩ => codeG g fd.code d.qual && (He.dflB K fd.defaults (d.dvs K) && He.kwdB K fd.kwdefaults (d.kws K))
  | _ => false
def fnWG (g : Gt) (a : Addr) : He.FnW := match g a with
  | some ⟨_, _, .func fd, _⟩ => some (fd.name, fd.qualname, fd.params, fd.body, fd.scope, fd.globals, fd.closure, fd.builtins)
  | _ => none
abbrev AlN : Type := Bool × (List He.FnW × List (Option (List (Option (PySem.Str × Int)))))
def obsB (g : Gt) (K : PySem.W.Frag) : Bool := (fa.all fun f => f.ok K) && (ex K && fn.all fun d => Nat.beq (He.fAd K d.at_) (He.fAd (K0 g) d.at_) && okG g K d (He.fAd (K0 g) d.at_))
def obsN (g : Gt) : AlN := (obsB g (KN g), (fn.map fun d => fnWG g (He.fAd (K0 g) d.at_), ts.map fun t => He.dicW (KN g) (t.1 (KN g))))
def valN (w : World) : AlN := (true, (fn.map He.DefD.val, ts.map fun t => some (He.keysIn w.params t.2)))
/-! what is read there is what the part holds -/
theorem frG_lookup {g : Gt} {a : Addr} : ∀ {as : List Addr}, a ∈ as → (He.frG g as).lookup a = g a
  | [], h => by cases h
  | b :: r, h => by
    unfold He.frG
    rw [List.filterMap_cons]
    by_cases e : a = b
    · subst e
      cases q : g a with
      | none =>
        show (He.frG g r).lookup a = none
        cases z : (He.frG g r).lookup a with
        | none => rfl
        | some o =>
          have := He.frG_at r z
          rw [q] at this
          cases this
      | some o =>
        show (match a == a with | true => some o | false => _) = some o
        rw [beq_self_eq_true]
    · have h2 : a ∈ r := (List.mem_cons.mp h).resolve_left e
      cases q : g b with
      | none => exact frG_lookup h2
      | some o =>
        show (match a == b with | true => some o | false => (He.frG g r).lookup a) = g a
        rw [beq_false_of_ne e]
        exact frG_lookup h2
structure SaysN (w : World) (K : PySem.W.Frag) : Prop where
  d : He.SaysD fa fn K
  tab : ts.map (fun t => He.dicW K (t.1 K)) = ts.map fun t => some (He.keysIn w.params t.2)
  more : ex K = true
theorem says_of {w : World} {g : Gt} (e : obsN g = valN w) : SaysN w (KN g) := by
  have e1 : obsB g (KN g) = true := congrArg (fun z : AlN => z.1) e
  have e2 : (fn.map fun d => fnWG g (He.fAd (K0 g) d.at_)) = fn.map He.DefD.val := congrArg (fun z : AlN => z.2.1) e
  have e3 : (ts.map fun t => He.dicW (KN g) (t.1 (KN g))) = ts.map fun t => some (He.keysIn w.params t.2) := congrArg (fun z : AlN => z.2.2) e
  obtain ⟨b1, b2⟩ := He.ba e1
  obtain ⟨b3, b4⟩ := He.ba b2
  have key : ∀ d ∈ fn, He.fnW (KN g) d.at_ = fnWG g (He.fAd (K0 g) d.at_) ∧ d.ok (KN g) = true := fun d hd => by
    obtain ⟨c1, c2⟩ := He.ba (List.all_eq_true.mp b4 d hd)
    have c3 : He.fAd (KN g) d.at_ = He.fAd (K0 g) d.at_ := Nat.eq_of_beq_eq_true c1
    have ma : He.fAd (K0 g) d.at_ ∈ aF g := List.mem_map.mpr ⟨d, hd, rfl⟩
    have l1 : (KN g).lookup (He.fAd (K0 g) d.at_) = g (He.fAd (K0 g) d.at_) := frG_lookup (List.mem_append_right _ (List.mem_append_left _ ma))
    refine ⟨?_, ?_⟩
    · unfold He.fnW fnWG
      rw [c3, l1]
      cases g (He.fAd (K0 g) d.at_) with
      | none => rfl
      | some o =>
        obtain ⟨oc, od, dt, osl⟩ := o
        cases dt <;> rfl
    · unfold He.DefD.ok
      rw [c3, l1]
      unfold okG at c2
      cases q : g (He.fAd (K0 g) d.at_) with
      | none =>
        rw [q] at c2
        cases c2
      | some o =>
        obtain ⟨oc, od, dt, osl⟩ := o
        rw [q] at c2
        cases dt with
        | func fd =>
          have c4 : (codeG g fd.code d.qual && (He.dflB (KN g) fd.defaults (d.dvs (KN g)) && He.kwdB (KN g) fd.kwdefaults (d.kws (KN g)))) = true := c2
          obtain ⟨c5, c6⟩ := He.ba c4
          have kp : PySem.W.keepIn (KN g) (.ref (He.fAd (K0 g) d.at_)) = true := by
            show (match (KN g).lookup (He.fAd (K0 g) d.at_) with
              | some ⟨_, _, .func _, _⟩ => true
              | some ⟨_, _, .cls _, _⟩ => PySem.W.specialIn (KN g) (.ref (He.fAd (K0 g) d.at_)) "__call__" == some (some (.builtin "type.__call__"))
              | _ => false) = true
            rw [l1, q]
          have kc : PySem.W.codeIn (KN g) fd.code d.qual = true := by
            unfold codeG at c5
            unfold PySem.W.codeIn
            cases hc : fd.code with
            | ref c =>
              rw [hc] at c5
              have mc : c ∈ refsF g (He.fAd (K0 g) d.at_) := by
                unfold refsF
                rw [q]
                show c ∈ He.refV fd.code ++ He.refV fd.kwdefaults
                rw [hc]
                exact List.mem_append_left _ (List.mem_singleton.mpr rfl)
              have l2 : (KN g).lookup c = g c := frG_lookup (List.mem_append_right _ (List.mem_append_right _ (List.mem_append_left _ (List.mem_flatMap.mpr ⟨_, ma, mc⟩))))
              show (match (KN g).lookup c with | some ⟨_, _, .fields vs, _⟩ => (match vs.toList with | _ :: .str n _ :: _ => n == d.qual | _ => false) | _ => false) = true
              rw [l2]
              exact c5
            | _ =>
              rw [hc] at c5
              cases c5
          rw [kp]
          show (true && (PySem.W.codeIn (KN g) fd.code d.qual && (He.dflB (KN g) fd.defaults (d.dvs (KN g)) && He.kwdB (KN g) fd.kwdefaults (d.kws (KN g))))) = true
          rw [kc, c6]
          all_goals rfl
        | _ => cases c2
  refine ⟨?_, e3, b3⟩
  show ((fa.all fun f => f.ok (KN g)) && fn.all fun d => d.ok (KN g), fn.map fun d => He.fnW (KN g) d.at_) = (true, fn.map He.DefD.val)
  have f1 : (fn.all fun d => d.ok (KN g)) = true := List.all_eq_true.mpr fun d hd => (key d hd).2
  have f2 : (fn.map fun d => He.fnW (KN g) d.at_) = fn.map He.DefD.val := by
    rw [← e2]
    exact List.map_congr_left fun d hd => (key d hd).1
  rw [b1, f1, f2]
  all_goals rfl
abbrev hk : PySem.W.Hook where
  α := AlN
  obs := fun s => obsN s.heap.get?
  val := valN
  says := fun w h => ∃ K : PySem.W.Frag, K.In h ∧ SaysN w K
  of := fun _ _ e => ⟨_, He.frG_in, says_of e⟩
  keeps := fun _ _ _ ⟨K, hK, c⟩ k => ⟨K, PySem.W.Frag.In.keeps hK k, c⟩
def ob (s : PySem.W.SharedT) : AlN := obsN (HandSHeadRun.getT s)
theorem ob_eq (s : PySem.W.SharedT) : ob s = hk.obs s.abs := by
  have e : HandSHeadRun.getT s = s.abs.heap.get? := funext (HandSHeadRun.getT_eq s)
  show obsN (HandSHeadRun.getT s) = obsN s.abs.heap.get?
  rw [e]
def lo0 : List PySem.Str := ["bits", "number_of", "xor", "parity", "BreakError", "BadBlock", "BadBreaker", "BadGame", "BadScheme", "BadChoice"]
def lo1 : List PySem.Str := ["TooMany", "MOST_LENGTH", "is_number", "is_bits", "is_row", "is_generator", "is_function", "check_block", "row_at", "value_at"]
def lo2 : List PySem.Str := ["put_out", "longer", "go_down", "half", "tree_turns", "PLAIN_WORDS", "MOST_BIT", "MOST_TOSSED", "MOST_DEPTH", "MOST_LAYERS"]
def lo3 : List PySem.Str := ["MOST_WITHIN", "MOST_ASKS", "MOST_COUNTED", "are_parts", "inner_plain", "check_plain", "fits_longer", "fits_tree", "is_length", "fits_word"]
def lo4 : List PySem.Str := ["has_plain_word", "check_breaker", "Silent", "KeyedWorld", "AnyWorld", "PermutationWorld", "SwapWorld", "SecretWorld", "OnceWorld", "MarkWorld"]
def lo5 : List PySem.Str := ["OnetimeWorld", "made_string", "Stopped", "run_plain", "run_longer", "TreeWorld", "run_tree", "run_marks", "guessed", "run_secrets"]
def lo6 : List PySem.Str := ["run_once", "run_opening", "run_onetime", "prefix_challenge", "run_next", "run_guess", "run_counter", "run_cut", "run_bit", "squares_of"]
def lo7 : List PySem.Str := ["run_hard", "RUNS", "run_breaker", "Tape", "SIZES", "is_truth", "is_right", "check_game", "Play", "Notes"]
def lo8 : List PySem.Str := ["cover", "function_world", "Table", "played", "fraction", "add", "less", "next_choices", "Ways", "ways_of"]
def lo9 : List PySem.Str := ["chance", "advantage", "_law_mixed", "_law_tape", "_law_draw", "_law_pick", "_law_bits", "_law_number", "_law_string", "_law_fraction"]
def lo10 : List PySem.Str := ["_law_sum", "_law_less", "_law_times", "_law_note", "_law_parts", "_law_say", "_law_breaker", "_law_made", "_law_silent", "_law_silent_chance"]
def lo11 : List PySem.Str := ["_law_strings", "_law_generator", "_law_generator_gain", "_law_is", "_law_longer", "_law_made_chance"]
def lo : List PySem.Str := lo0 ++ (lo1 ++ (lo2 ++ (lo3 ++ (lo4 ++ (lo5 ++ (lo6 ++ (lo7 ++ (lo8 ++ (lo9 ++ (lo10 ++ (lo11)))))))))))
noncomputable section
abbrev Qv : Program := PySem.W.view R.prog [0, 127]
abbrev Wh (w : World) := HandSHeadRun.wholeF (fun p => HandSHeadRun.stepQ (HandSHeadRun.denQ HandSHeadRun.tabQ) p w) HandSHeadRun.fenceQ 20000 R.prog
def LookEq (w : World) : Prop := (Wh w).map (fun x => HandSHeadRun.looksF R.prog x.1.heap x.2.abs) = some true
def SeenEq (w : World) : Prop := (Wh w).map (fun x => HandSHeadRun.seenQ Qv lo (importedModules R.prog.main.body) (fun s => PySem.W.xlAt Qv [] s && PySem.W.recOk R.toRowW.records s) x.2.abs) = some (PySem.W.openGood Qv lo)
def FactEq (w : World) : Prop := (Wh w).map (fun x => ob x.2) = some (valN w)
theorem look_F (w : World) : LookEq (w.withFollow "special-get-raises" false) := by
  unfold LookEq
  kernel_rfl
theorem look_T (w : World) : LookEq (w.withFollow "special-get-raises" true) := by
  unfold LookEq
  kernel_rfl
theorem seen_F (w : World) : SeenEq (w.withFollow "special-get-raises" false) := by
  unfold SeenEq
  kernel_rfl
theorem seen_T (w : World) : SeenEq (w.withFollow "special-get-raises" true) := by
  unfold SeenEq
  kernel_rfl
theorem fact_F (w : World) : FactEq (w.withFollow "special-get-raises" false) := by
  unfold FactEq
  kernel_rfl
theorem fact_T (w : World) : FactEq (w.withFollow "special-get-raises" true) := by
  unfold FactEq
  kernel_rfl
theorem run (w : World) : HandSHeadRun.RunEqI R Qv hk ob 20000 lo w := by
  have a : LookEq w := PySem.W.byRow2 "special-get-raises" (P := LookEq) look_F look_T w
  have c : SeenEq w := PySem.W.byRow2 "special-get-raises" (P := SeenEq) seen_F seen_T w
  have b : FactEq w := PySem.W.byRow2 "special-get-raises" (P := FactEq) fact_F fact_T w
  unfold LookEq at a
  unfold SeenEq at c
  unfold FactEq at b
  obtain ⟨x, hx, e1⟩ := Option.map_eq_some_iff.mp a
  obtain ⟨y, hy, e2⟩ := Option.map_eq_some_iff.mp b
  obtain ⟨z, hz, e3⟩ := Option.map_eq_some_iff.mp c
  rw [hx] at hy hz
  cases hy
  cases hz
  unfold HandSHeadRun.RunEqI
  show Option.map _ (Wh w) = _
  rw [hx]
  exact congrArg some (Prod.ext e1 (Prod.ext e3 e2))
end
end Bk

/-! Plain Lean: trees of draws, the order in which their ways are gone through, weights, fractions in lowest terms. No program here. -/
set_option linter.all false
namespace Bk
/-! ### trees of draws -/
inductive Tr (α : Type) where
  | leaf (a : α)
  | node (n : Nat) (f : Nat → Tr α)
namespace Tr
variable {α β : Type}
def run : Tr α → List Nat → List (Nat × Nat) × α
  | .leaf a, _ => ([], a)
  | .node n f, cs => ((cs.headD 0, n) :: ((f (cs.headD 0)).run cs.tail).1, ((f (cs.headD 0)).run cs.tail).2)
/-- the choices are below their numbers -/
def Fits : Tr α → List Nat → Prop
  | .leaf _, _ => True
  | .node n f, cs => cs.headD 0 < n ∧ (f (cs.headD 0)).Fits cs.tail
/-- every draw is among one at least, at most m; at most d draws -/
def Ok (m : Nat) : Nat → Tr α → Prop
  | _, .leaf _ => True
  | 0, .node _ _ => False
  | d + 1, .node n f => 1 ≤ n ∧ n ≤ m ∧ ∀ c, c < n → (f c).Ok m d
def paths : Tr α → List (List (Nat × Nat) × α)
  | .leaf a => [([], a)]
  | .node n f => (List.range n).flatMap fun c => (f c).paths.map fun p => ((c, n) :: p.1, p.2)
def map (g : α → β) : Tr α → Tr β
  | .leaf a => .leaf (g a)
  | .node n f => .node n fun c => (f c).map g
end Tr
/-- the choices of the next way -/
def nextc : List (Nat × Nat) → Option (List Nat)
  | [] => none
  | (c, n) :: r => match nextc r with
    | some cs => some (c :: cs)
    | none => if c + 1 < n then some [c + 1] else none
section
variable {α : Type}
theorem Tr.run_nil_fits {m : Nat} : ∀ {d : Nat} {t : Tr α}, t.Ok m d → t.Fits []
  | _, .leaf _, _ => trivial
  | d + 1, .node n f, h => ⟨h.1, Tr.run_nil_fits (h.2.2 0 h.1)⟩
/-- the ways from the choice c0 on -/
def from_ (n : Nat) (f : Nat → Tr α) (c0 k : Nat) : List (List (Nat × Nat) × α) := (List.range' c0 k).flatMap fun c => (f c).paths.map fun p => ((c, n) :: p.1, p.2)
theorem from_succ (n : Nat) (f : Nat → Tr α) (c0 k : Nat) : from_ n f c0 (k + 1) = ((f c0).paths.map fun p => ((c0, n) :: p.1, p.2)) ++ from_ n f (c0 + 1) k := by
  unfold from_
  rw [List.range'_succ, List.flatMap_cons]
theorem Tr.paths_node (n : Nat) (f : Nat → Tr α) : (Tr.node n f).paths = from_ n f 0 n := by
  show (List.range n).flatMap _ = _
  rw [List.range_eq_range']
  rfl
/-- the first way is that of no choices -/
theorem Tr.paths_head {m : Nat} : ∀ {d : Nat} {t : Tr α}, t.Ok m d → ∃ r, t.paths = t.run [] :: r
  | _, .leaf a, _ => ⟨[], rfl⟩
  | d + 1, .node n f, h => by
    obtain ⟨r, e⟩ := Tr.paths_head (h.2.2 0 h.1)
    obtain ⟨k, rfl⟩ : ∃ k, n = k + 1 := ⟨n - 1, by have := h.1; omega⟩
    rw [Tr.paths_node, from_succ, e]
    exact ⟨_, rfl⟩
/-- what comes behind a way -/
def Next (t : Tr α) (p : List (Nat × Nat) × α) (suf : List (List (Nat × Nat) × α)) : Prop :=
  match suf with
  | [] => nextc p.1 = none
  | q :: _ => ∃ cs, nextc p.1 = some cs ∧ t.run cs = q ∧ t.Fits cs
theorem next_from {m d n : Nat} {f : Nat → Tr α} (hn : n ≤ m) (hf : ∀ c, c < n → (f c).Ok m d) (ih : ∀ c, c < n → ∀ pre p suf, (f c).paths = pre ++ p :: suf → Next (f c) p suf) :
    ∀ (k c0 : Nat), c0 + k = n → ∀ pre p suf, from_ n f c0 k = pre ++ p :: suf → Next (.node n f) p suf
  | 0, c0, _, pre, p, suf, e => by
    have : from_ n f c0 0 = [] := rfl
    rw [this] at e
    cases pre <;> cases e
  | k + 1, c0, hk, pre, p, suf, e => by
    have hc : c0 < n := by omega
    rw [from_succ] at e
    rcases List.append_eq_append_iff.mp e with ⟨l, e1, e2⟩ | ⟨l, e1, e2⟩
    · -- p lies in what follows
      exact next_from hn hf ih k (c0 + 1) (by omega) l p suf e2
    · -- block = pre ++ l, and p :: suf = l ++ rest
      cases l with
      | nil =>
        rw [List.append_nil] at e1
        exact next_from hn hf ih k (c0 + 1) (by omega) [] p suf e2.symm
      | cons z l =>
        obtain ⟨rfl, e3⟩ := List.cons.inj e2
        obtain ⟨pre', rest', e4, e5, e6⟩ := List.map_eq_append_iff.mp e1
        obtain ⟨p', s1, e7, e8, e9⟩ := List.map_eq_cons_iff.mp e6
        have q := ih c0 hc pre' p' s1 (by rw [e4, e7])
        rw [← e8]
        cases s1 with
        | cons q' s2 =>
          obtain ⟨cs, a, b, c⟩ := q
          rw [← e9] at e3
          rw [e3]
          refine ⟨c0 :: cs, ?_, ?_, hc, c⟩
          · show (match nextc p'.1 with | some cs => some (c0 :: cs) | none => _) = _
            rw [a]
          · show ((c0, n) :: ((f c0).run cs).1, ((f c0).run cs).2) = _
            rw [b]
        | nil =>
          have q : nextc p'.1 = none := q
          rw [← e9] at e3
          rw [e3]
          have qn : nextc ((c0, n) :: p'.1) = if c0 + 1 < n then some [c0 + 1] else none := by
            show (match nextc p'.1 with | some cs => some (c0 :: cs) | none => _) = _
            rw [q]
          cases k with
          | zero =>
            show nextc ((c0, n) :: p'.1) = none
            rw [qn, if_neg (by omega)]
          | succ k =>
            have h1 : c0 + 1 < n := by omega
            obtain ⟨r, er⟩ := Tr.paths_head (hf (c0 + 1) h1)
            rw [from_succ, er]
            refine ⟨[c0 + 1], ?_, rfl, h1, Tr.run_nil_fits (hf (c0 + 1) h1)⟩
            show nextc ((c0, n) :: p'.1) = _
            rw [qn, if_pos h1]
theorem Tr.next_ok {m : Nat} : ∀ {d : Nat} {t : Tr α}, t.Ok m d → ∀ pre p suf, t.paths = pre ++ p :: suf → Next t p suf
  | _, .leaf a, _, pre, p, suf, e => by
    have e : [([], a)] = pre ++ p :: suf := e
    cases pre with
    | nil =>
      obtain ⟨rfl, rfl⟩ := List.cons.inj e
      show nextc [] = none
      rfl
    | cons x r =>
      have := congrArg List.length e
      simp at this
  | d + 1, .node n f, h, pre, p, suf, e => by
    rw [Tr.paths_node] at e
    exact next_from h.2.1 h.2.2 (fun c hc => Tr.next_ok (h.2.2 c hc)) n 0 (by omega) pre p suf e
/-- the numbers of a way -/
theorem Tr.path_len {m : Nat} : ∀ {d : Nat} {t : Tr α}, t.Ok m d → ∀ p ∈ t.paths, p.1.length ≤ d ∧ ∀ q ∈ p.1, 1 ≤ q.2 ∧ q.2 ≤ m
  | _, .leaf a, _, p, hp => by
    have : p = ([], a) := List.mem_singleton.mp hp
    subst this
    exact ⟨Nat.zero_le _, fun q hq => by cases hq⟩
  | d + 1, .node n f, h, p, hp => by
    obtain ⟨c, hc, hp⟩ := List.mem_flatMap.mp hp
    obtain ⟨p', hp', rfl⟩ := List.mem_map.mp hp
    have hc := List.mem_range.mp hc
    obtain ⟨l, a⟩ := Tr.path_len (h.2.2 c hc) p' hp'
    refine ⟨Nat.succ_le_succ l, fun q hq => ?_⟩
    rcases List.mem_cons.mp hq with rfl | hq
    · exact ⟨h.1, h.2.1⟩
    · exact a q hq
end
/-! ### weights -/
def prodD (ds : List (Nat × Nat)) : Nat := ds.foldl (fun u q => u * q.2) 1
theorem prod_foldl : ∀ (ds : List (Nat × Nat)) (u : Nat), ds.foldl (fun u q => u * q.2) u = u * prodD ds
  | [], u => by simp [prodD]
  | q :: r, u => by
    show r.foldl _ (u * q.2) = u * (r.foldl _ (1 * q.2))
    rw [prod_foldl r (u * q.2), prod_foldl r (1 * q.2), Nat.one_mul, Nat.mul_assoc]
theorem prodD_cons (q : Nat × Nat) (r : List (Nat × Nat)) : prodD (q :: r) = q.2 * prodD r := by
  show r.foldl _ (1 * q.2) = _
  rw [prod_foldl, Nat.one_mul]
/-- a tree's weight: the leaves that win, each its part of E -/
def Tr.wt : Tr Bool → Nat → Nat
  | .leaf o, E => if o then E else 0
  | .node n f, E => ((List.range n).map fun c => (f c).wt (E / n)).sum
def pw (E : Nat) (p : List (Nat × Nat) × Bool) : Nat := if p.2 then E / prodD p.1 else 0
theorem sum_flatMap {α : Type} (g : α → List Nat) : ∀ l : List α, (l.flatMap g).sum = (l.map fun x => (g x).sum).sum
  | [] => rfl
  | a :: r => by rw [List.flatMap_cons, List.sum_append, sum_flatMap g r, List.map_cons, List.sum_cons]
theorem Tr.wt_paths : ∀ (t : Tr Bool) (E : Nat), (t.paths.map (pw E)).sum = t.wt E
  | .leaf o, E => by
    show ([pw E ([], o)]).sum = _
    simp [pw, prodD, Tr.wt]
  | .node n f, E => by
    show (((List.range n).flatMap fun c => (f c).paths.map fun p => ((c, n) :: p.1, p.2)).map (pw E)).sum = ((List.range n).map fun c => (f c).wt (E / n)).sum
    rw [List.map_flatMap, sum_flatMap]
    congr 1
    refine List.map_congr_left fun c _ => ?_
    rw [← Tr.wt_paths (f c) (E / n), List.map_map]
    congr 1
    refine List.map_congr_left fun p _ => ?_
    show pw E ((c, n) :: p.1, p.2) = pw (E / n) p
    unfold pw
    rw [prodD_cons, Nat.div_div_eq_div_mul]
/-! ### counts: how many ways for each number -/
abbrev Cnt : Type := List (Nat × Nat)
def look (c : Cnt) (k : Nat) : Option Nat := (c.find? fun q => decide (q.1 = k)).map (·.2)
def note (c : Cnt) (k : Nat) : Cnt := if (c.any fun q => decide (q.1 = k)) = true then c.map (fun q => if q.1 = k then (q.1, q.2 + 1) else q) else c ++ [(k, 1)]
def wsum (D : Nat) (c : Cnt) : Nat := (c.map fun q => q.2 * (D / q.1)).sum
def Keys (c : Cnt) : Prop := (c.map (·.1)).Nodup
theorem note_in {c : Cnt} {k : Nat} (h : k ∈ c.map (·.1)) : note c k = c.map (fun q => if q.1 = k then (q.1, q.2 + 1) else q) := by
  unfold note
  rw [if_pos]
  obtain ⟨q, hq, e⟩ := List.mem_map.mp h
  exact List.any_eq_true.mpr ⟨q, hq, decide_eq_true e⟩
theorem note_out {c : Cnt} {k : Nat} (h : ¬ k ∈ c.map (·.1)) : note c k = c ++ [(k, 1)] := by
  unfold note
  rw [if_neg]
  intro z
  obtain ⟨q, hq, e⟩ := List.any_eq_true.mp z
  exact h (List.mem_map.mpr ⟨q, hq, of_decide_eq_true e⟩)
theorem note_keys_in {c : Cnt} {k : Nat} (h : k ∈ c.map (·.1)) : (note c k).map (·.1) = c.map (·.1) := by
  rw [note_in h, List.map_map]
  refine List.map_congr_left fun q _ => ?_
  show (if q.1 = k then (q.1, q.2 + 1) else q).1 = q.1
  split <;> rfl
theorem note_keys_out {c : Cnt} {k : Nat} (h : ¬ k ∈ c.map (·.1)) : (note c k).map (·.1) = c.map (·.1) ++ [k] := by
  rw [note_out h, List.map_append] <;> rfl
theorem note_Keys {c : Cnt} {k : Nat} (h : Keys c) : Keys (note c k) := by
  by_cases hk : k ∈ c.map (·.1)
  · unfold Keys
    rw [note_keys_in hk]
    exact h
  · unfold Keys
    rw [note_keys_out hk]
    refine List.nodup_append.mpr ⟨h, by simp, fun a ha b hb => ?_⟩
    rw [List.mem_singleton.mp hb]
    exact fun e => hk (e ▸ ha)
theorem note_mem {c : Cnt} {k : Nat} {j : Nat} (h : j ∈ (note c k).map (·.1)) : j ∈ c.map (·.1) ∨ j = k := by
  by_cases hk : k ∈ c.map (·.1)
  · rw [note_keys_in hk] at h
    exact .inl h
  · rw [note_keys_out hk] at h
    rcases List.mem_append.mp h with h | h
    · exact .inl h
    · exact .inr (List.mem_singleton.mp h)
theorem wsum_bump (D k : Nat) : ∀ {c : Cnt}, Keys c → k ∈ c.map (·.1) → wsum D (c.map (fun q => if q.1 = k then (q.1, q.2 + 1) else q)) = wsum D c + D / k
  | [], _, m => by cases m
  | q :: r, h, m => by
    have h : (q.1 :: r.map (·.1)).Nodup := h
    obtain ⟨h1, h2⟩ := List.nodup_cons.mp h
    show ((if q.1 = k then (q.1, q.2 + 1) else q).2 * (D / (if q.1 = k then (q.1, q.2 + 1) else q).1)) + wsum D (r.map _) = (q.2 * (D / q.1) + wsum D r) + D / k
    by_cases e : q.1 = k
    · have hr : r.map (fun q => if q.1 = k then (q.1, q.2 + 1) else q) = r := by
        rw [List.map_congr_left (g := id) fun p hp => ?_, List.map_id]
        rw [if_neg]
        · rfl
        · exact fun z => h1 (List.mem_map.mpr ⟨p, hp, z.trans e.symm⟩)
      rw [hr, if_pos e, e]
      show (q.2 + 1) * (D / k) + _ = _
      rw [Nat.add_mul, Nat.one_mul]
      omega
    · have m : k = q.1 ∨ k ∈ r.map (·.1) := List.mem_cons.mp m
      rw [if_neg e, wsum_bump D k h2 (m.resolve_left fun z => e z.symm)]
      omega
theorem wsum_note {D k : Nat} {c : Cnt} (h : Keys c) : wsum D (note c k) = wsum D c + D / k := by
  by_cases hk : k ∈ c.map (·.1)
  · rw [note_in hk, wsum_bump D k h hk]
  · rw [note_out hk]
    unfold wsum
    rw [List.map_append, List.sum_append]
    simp
/-- what Ways counts -/
def stepW (c : Cnt) (p : List (Nat × Nat) × Bool) : Cnt := if p.2 then note c (prodD p.1) else c
theorem stepW_Keys {c : Cnt} {p : List (Nat × Nat) × Bool} (h : Keys c) : Keys (stepW c p) := by
  unfold stepW
  split
  · exact note_Keys h
  · exact h
theorem wsum_stepW {D : Nat} {c : Cnt} {p : List (Nat × Nat) × Bool} (h : Keys c) : wsum D (stepW c p) = wsum D c + pw D p := by
  unfold stepW pw
  split
  · exact wsum_note h
  · rfl
theorem foldW {D : Nat} : ∀ {l : List (List (Nat × Nat) × Bool)} {c : Cnt}, Keys c → Keys (l.foldl stepW c) ∧ wsum D (l.foldl stepW c) = wsum D c + (l.map (pw D)).sum
  | [], c, h => ⟨h, by simp⟩
  | p :: r, c, h => by
    obtain ⟨a, b⟩ := foldW (D := D) (l := r) (stepW_Keys (p := p) h)
    refine ⟨a, ?_⟩
    show wsum D (r.foldl stepW (stepW c p)) = _
    rw [b, wsum_stepW h, List.map_cons, List.sum_cons]
    omega
theorem foldW_mem : ∀ {l : List (List (Nat × Nat) × Bool)} {c : Cnt} {j : Nat}, j ∈ (l.foldl stepW c).map (·.1) → j ∈ c.map (·.1) ∨ ∃ p ∈ l, p.2 = true ∧ j = prodD p.1
  | [], c, j, h => .inl h
  | p :: r, c, j, h => by
    rcases foldW_mem (l := r) (c := stepW c p) h with h | ⟨q, hq, e⟩
    · unfold stepW at h
      by_cases hp : p.2 = true
      · rw [if_pos hp] at h
        rcases note_mem h with h | rfl
        · exact .inl h
        · exact .inr ⟨p, List.mem_cons_self, hp, rfl⟩
      · rw [if_neg hp] at h
        exact .inl h
    · exact .inr ⟨q, List.mem_cons_of_mem _ hq, e⟩
/-! ### fractions in lowest terms -/
def nrm (a : Int) (b : Nat) : Int × Int := (a / ((Nat.gcd a.natAbs b : Nat) : Int), (b : Int) / ((Nat.gcd a.natAbs b : Nat) : Int))
theorem nrm_scale (a : Int) (b k : Nat) (hk : 0 < k) : nrm (a * k) (b * k) = nrm a b := by
  unfold nrm
  rw [Int.natAbs_mul, Int.natAbs_natCast, Nat.gcd_mul_right]
  have hk' : (k : Int) ≠ 0 := by omega
  rw [Int.natCast_mul (Nat.gcd a.natAbs b) k, Int.natCast_mul b k, Int.mul_ediv_mul_of_pos_left _ _ (by omega), Int.mul_ediv_mul_of_pos_left _ _ (by omega)]
theorem nrm_cross {a c : Int} {b d : Nat} (hb : 0 < b) (hd : 0 < d) (e : a * d = c * b) : nrm a b = nrm c d := by
  rw [← nrm_scale a b d hd, ← nrm_scale c d b hb, e, Nat.mul_comm b d]
theorem gcd_pos_right (a b : Nat) (hb : 0 < b) : 0 < Nat.gcd a b := Nat.gcd_pos_of_pos_right _ hb
/-- the two parts of nrm a b are a and b by their greatest divisor -/
theorem nrm_parts (a : Int) (b : Nat) (hb : 0 < b) : ∃ (g u : Nat) (o : Int), 0 < g ∧ 0 < u ∧ b = u * g ∧ a = o * g ∧ nrm a b = (o, (u : Int)) ∧ g = Nat.gcd a.natAbs b := by
  have hg : 0 < Nat.gcd a.natAbs b := gcd_pos_right _ _ hb
  obtain ⟨u, hu⟩ := Nat.gcd_dvd_right a.natAbs b
  obtain ⟨o, ho⟩ : ((Nat.gcd a.natAbs b : Nat) : Int) ∣ a := Int.ofNat_dvd_left.mpr (Nat.gcd_dvd_left a.natAbs b)
  refine ⟨Nat.gcd a.natAbs b, u, o, hg, ?_, by rw [Nat.mul_comm]; exact hu, by rw [Int.mul_comm]; exact ho, ?_, rfl⟩
  · rcases Nat.eq_zero_or_pos u with z | z
    · rw [z, Nat.mul_zero] at hu
      omega
    · exact z
  · unfold nrm
    generalize hG : Nat.gcd a.natAbs b = G at *
    rw [ho, hu]
    have : (G : Int) ≠ 0 := by omega
    rw [Int.natCast_mul, Int.mul_ediv_cancel_left _ this, Int.mul_ediv_cancel_left _ this]
/-- a sum over a told under -/
theorem nrm_add {T c : Int} {D den : Nat} (hD : 0 < D) (hd : den ∣ D) {o u : Int} (h : nrm T D = (o, u)) :
    nrm (o * den + c * u) (u.toNat * den) = nrm (T + c * ((D / den : Nat) : Int)) D ∧ 0 < u := by
  obtain ⟨g, u', o', hg, hu, e1, e2, e3, _⟩ := nrm_parts T D hD
  rw [h] at e3
  obtain ⟨rfl, rfl⟩ := Prod.mk.inj e3
  obtain ⟨q, hq⟩ := hd
  have hden : 0 < den := by
    rcases Nat.eq_zero_or_pos den with z | z
    · rw [z, Nat.zero_mul] at hq
      omega
    · exact z
  refine ⟨?_, by omega⟩
  have e4 : D / den = q := by rw [hq, Nat.mul_div_cancel_left _ hden]
  rw [e4]
  show nrm (o * den + c * (u' : Int)) (u' * den) = _
  refine nrm_cross (Nat.mul_pos hu hden) hD ?_
  rw [e2]
  have e5 : (D : Int) = den * q := by rw [hq, Int.natCast_mul]
  have e6 : (D : Int) = u' * g := by rw [e1, Int.natCast_mul]
  rw [Int.natCast_mul u' den]
  rw [Int.add_mul, Int.add_mul]
  congr 1
  · rw [e6]
    simp only [Int.mul_assoc, Int.mul_comm, Int.mul_left_comm]
  · rw [e5]
    simp only [Int.mul_assoc, Int.mul_comm, Int.mul_left_comm]
theorem nrm_less {S T : Int} {D : Nat} (hD : 0 < D) {o u p v : Int} (h : nrm S D = (o, u)) (h' : nrm T D = (p, v)) :
    nrm (o * v - p * u) (u.toNat * v.toNat) = nrm (S - T) D ∧ 0 < u ∧ 0 < v := by
  obtain ⟨g, u', o', hg, hu, e1, e2, e3, _⟩ := nrm_parts S D hD
  rw [h] at e3
  obtain ⟨rfl, rfl⟩ := Prod.mk.inj e3
  obtain ⟨g2, v', p', hg2, hv, f1, f2, f3, _⟩ := nrm_parts T D hD
  rw [h'] at f3
  obtain ⟨rfl, rfl⟩ := Prod.mk.inj f3
  refine ⟨?_, by omega, by omega⟩
  show nrm (o * (v' : Int) - p * (u' : Int)) (u' * v') = _
  refine nrm_cross (Nat.mul_pos hu hv) hD ?_
  have e6 : (D : Int) = u' * g := by rw [e1, Int.natCast_mul]
  have f6 : (D : Int) = v' * g2 := by rw [f1, Int.natCast_mul]
  rw [Int.sub_mul, Int.sub_mul, e2, f2, Int.natCast_mul]
  congr 1
  · rw [e6]
    simp only [Int.mul_assoc, Int.mul_comm, Int.mul_left_comm]
  · rw [f6]
    simp only [Int.mul_assoc, Int.mul_comm, Int.mul_left_comm]
theorem nrm_times {S : Int} {D : Nat} (hD : 0 < D) (k : Int) {o u : Int} (h : nrm S D = (o, u)) : nrm (o * k) u.toNat = nrm (S * k) D ∧ 0 < u := by
  obtain ⟨g, u', o', hg, hu, e1, e2, e3, _⟩ := nrm_parts S D hD
  rw [h] at e3
  obtain ⟨rfl, rfl⟩ := Prod.mk.inj e3
  refine ⟨?_, by omega⟩
  show nrm (o * k) u' = _
  refine nrm_cross hu hD ?_
  rw [e2, e1, Int.natCast_mul]
  simp only [Int.mul_assoc, Int.mul_comm, Int.mul_left_comm]
theorem nrm_zero {D : Nat} (hD : 0 < D) : nrm 0 D = (0, 1) := by
  unfold nrm
  have : Nat.gcd (0 : Int).natAbs D = D := by simp
  rw [this, Int.zero_ediv, Int.ediv_self (by omega)]
/-! ### the greatest divisor, step by step -/
def euc : Nat → Nat × Nat → Nat × Nat
  | 0, s => s
  | k + 1, (a, b) => if a = 0 then (a, b) else euc k (b % a, a)
theorem euc_gcd : ∀ (k a b : Nat), Nat.gcd (euc k (a, b)).1 (euc k (a, b)).2 = Nat.gcd a b
  | 0, a, b => rfl
  | k + 1, a, b => by
    by_cases h : a = 0
    · have : euc (k + 1) (a, b) = (a, b) := by
        show (if a = 0 then (a, b) else _) = _
        rw [if_pos h]
      rw [this]
    · have : euc (k + 1) (a, b) = euc k (b % a, a) := by
        show (if a = 0 then (a, b) else _) = _
        rw [if_neg h]
      rw [this, euc_gcd k, ← Nat.gcd_rec]
theorem euc_small : ∀ (n k a b : Nat), a < 2 ^ n → 2 * n + 1 ≤ k → (euc k (a, b)).1 = 0
  | 0, k, a, b, h, hk => by
    have ha : a = 0 := by
      have : (2 : Nat) ^ 0 = 1 := rfl
      omega
    obtain ⟨k, rfl⟩ : ∃ j, k = j + 1 := ⟨k - 1, by omega⟩
    show (if a = 0 then (a, b) else euc k (b % a, a)).1 = 0
    rw [if_pos ha, ha]
  | n + 1, k, a, b, h, hk => by
    obtain ⟨k, rfl⟩ : ∃ j, k = j + 2 := ⟨k - 2, by omega⟩
    show (if a = 0 then (a, b) else euc (k + 1) (b % a, a)).1 = 0
    by_cases ha : a = 0
    · rw [if_pos ha, ha]
    · rw [if_neg ha]
      show (if b % a = 0 then (b % a, a) else euc k (a % (b % a), b % a)).1 = 0
      by_cases hb : b % a = 0
      · rw [if_pos hb, hb]
      · rw [if_neg hb]
        refine euc_small n k _ _ ?_ (by omega)
        -- two steps halve
        have h1 : b % a < a := Nat.mod_lt _ (by omega)
        have h2 : a % (b % a) < b % a := Nat.mod_lt _ (by omega)
        have h3 : a % (b % a) + b % a ≤ a := by
          have q := Nat.div_add_mod a (b % a)
          have : 1 ≤ a / (b % a) := Nat.div_pos (by omega) (by omega)
          have : b % a ≤ b % a * (a / (b % a)) := Nat.le_mul_of_pos_right _ this
          omega
        have h4 : 2 ^ (n + 1) = 2 ^ n * 2 := Nat.pow_succ _ _
        omega
theorem euc_end {n k a b : Nat} (h : a < 2 ^ n) (hk : 2 * n + 1 ≤ k) : (euc k (a, b)).2 = Nat.gcd a b := by
  have e := euc_gcd k a b
  rw [euc_small n k a b h hk, Nat.gcd_zero_left] at e
  exact e
end Bk

/-! Plain Lean: strings of bits, breakers, generators; why the made breaker's advantage, times k, is the given one's. -/
set_option linter.all false
namespace Bk
abbrev Bits := List Bool
/-- the number that a string writes -/
def num (s : Bits) : Nat := s.foldl (fun n b => n * 2 + (if b then 1 else 0)) 0
/-- the string of so many bits that writes a number -/
def bitsOf : Nat → Nat → Bits
  | 0, _ => []
  | n + 1, v => bitsOf n (v / 2) ++ [v % 2 == 1]
theorem bitsOf_length : ∀ (n v : Nat), (bitsOf n v).length = n
  | 0, _ => rfl
  | n + 1, v => by
    show (bitsOf n (v / 2) ++ [v % 2 == 1]).length = _
    rw [List.length_append, bitsOf_length n]
    rfl
theorem num_snoc (s : Bits) (b : Bool) : num (s ++ [b]) = num s * 2 + (if b then 1 else 0) := by
  unfold num
  rw [List.foldl_append]
  rfl
theorem num_lt (s : Bits) : num s < 2 ^ s.length := by
  suffices h : ∀ r : Bits, num r.reverse < 2 ^ r.length by
    have := h s.reverse
    rw [List.reverse_reverse, List.length_reverse] at this
    exact this
  intro r
  induction r with
  | nil => decide
  | cons b r ih =>
    rw [List.reverse_cons, num_snoc, List.length_cons, Nat.pow_succ]
    cases b <;> simp <;> omega
theorem num_bitsOf : ∀ (n v : Nat), v < 2 ^ n → num (bitsOf n v) = v
  | 0, v, h => by
    have : v = 0 := by simp at h; exact h
    subst this
    rfl
  | n + 1, v, h => by
    show num (bitsOf n (v / 2) ++ [v % 2 == 1]) = v
    rw [num_snoc, num_bitsOf n (v / 2) (by rw [Nat.pow_succ] at h; omega)]
    by_cases e : v % 2 = 1
    · simp only [e, beq_self_eq_true, if_true]
      omega
    · have : (v % 2 == 1) = false := beq_false_of_ne e
      rw [this]
      simp only [Bool.false_eq_true, if_false]
      omega
/-- all strings of so many bits, by numbers -/
def bstr (n : Nat) : List Bits := (List.range (2 ^ n)).map (bitsOf n)
theorem bstr_length (n : Nat) : (bstr n).length = 2 ^ n := by simp [bstr]
theorem bstr_mem {n : Nat} {s : Bits} (h : s ∈ bstr n) : s.length = n := by
  obtain ⟨v, _, rfl⟩ := List.mem_map.mp h
  exact bitsOf_length n v
theorem range_double : ∀ m : Nat, List.range (m * 2) = (List.range m).flatMap fun v => [v * 2, v * 2 + 1]
  | 0 => rfl
  | m + 1 => by
    rw [Nat.add_mul, show m * 2 + 1 * 2 = (m * 2 + 1) + 1 from rfl, List.range_succ, List.range_succ, List.range_succ, range_double m, List.flatMap_append]
    simp
theorem bstr_succ (n : Nat) : bstr (n + 1) = (bstr n).flatMap fun s => [s ++ [false], s ++ [true]] := by
  unfold bstr
  rw [Nat.pow_succ, range_double, List.map_flatMap, List.flatMap_map]
  congr 1
  funext v
  show [bitsOf (n + 1) (v * 2), bitsOf (n + 1) (v * 2 + 1)] = _
  have e1 : bitsOf (n + 1) (v * 2) = bitsOf n v ++ [false] := by
    show bitsOf n (v * 2 / 2) ++ [v * 2 % 2 == 1] = _
    rw [Nat.mul_div_cancel _ (by decide), Nat.mul_mod_left]
    rfl
  have e2 : bitsOf (n + 1) (v * 2 + 1) = bitsOf n v ++ [true] := by
    show bitsOf n ((v * 2 + 1) / 2) ++ [(v * 2 + 1) % 2 == 1] = _
    have a : (v * 2 + 1) / 2 = v := by omega
    have b : (v * 2 + 1) % 2 = 1 := by omega
    rw [a, b]
    rfl
  rw [e1, e2]
/-- the sum of f over a list -/
def sm {α : Type} (l : List α) (f : α → Nat) : Nat := (l.map f).sum
theorem sm_nil {α : Type} (f : α → Nat) : sm [] f = 0 := rfl
theorem sm_cons {α : Type} (a : α) (l : List α) (f : α → Nat) : sm (a :: l) f = f a + sm l f := by
  unfold sm
  rw [List.map_cons, List.sum_cons]
theorem sm_append {α : Type} (l m : List α) (f : α → Nat) : sm (l ++ m) f = sm l f + sm m f := by
  unfold sm
  rw [List.map_append, List.sum_append]
theorem sm_congr {α : Type} {l : List α} {f g : α → Nat} (h : ∀ a ∈ l, f a = g a) : sm l f = sm l g := by
  unfold sm
  rw [List.map_congr_left h]
theorem sm_map {α β : Type} (l : List α) (g : α → β) (f : β → Nat) : sm (l.map g) f = sm l fun a => f (g a) := by
  unfold sm
  rw [List.map_map]
  rfl
theorem sm_flatMap {α β : Type} (g : α → List β) (f : β → Nat) : ∀ l : List α, sm (l.flatMap g) f = sm l fun a => sm (g a) f
  | [] => rfl
  | a :: r => by rw [List.flatMap_cons, sm_append, sm_flatMap g f r, sm_cons]
theorem sm_add {α : Type} (f g : α → Nat) : ∀ l : List α, sm l (fun a => f a + g a) = sm l f + sm l g
  | [] => rfl
  | a :: r => by
    rw [sm_cons, sm_cons, sm_cons, sm_add f g r]
    omega
theorem sm_mul {α : Type} (k : Nat) (f : α → Nat) : ∀ l : List α, sm l (fun a => k * f a) = k * sm l f
  | [] => rfl
  | a :: r => by rw [sm_cons, sm_cons, sm_mul k f r, Nat.mul_add]
theorem sm_bstr_succ (n : Nat) (f : Bits → Nat) : sm (bstr (n + 1)) f = sm (bstr n) fun s => f (s ++ [false]) + f (s ++ [true]) := by
  rw [bstr_succ, sm_flatMap]
  refine sm_congr fun s _ => ?_
  rw [sm_cons, sm_cons, sm_nil, Nat.add_zero]
theorem sm_bstr_zero (f : Bits → Nat) : sm (bstr 0) f = f [] := by
  show f [] + 0 = f []
  omega
theorem sm_bstr_add (k : Nat) (f : Bits → Nat) : ∀ n : Nat, sm (bstr (k + n)) f = sm (bstr k) fun p => sm (bstr n) fun s => f (p ++ s)
  | 0 => by
    refine sm_congr fun p _ => ?_
    rw [sm_bstr_zero, List.append_nil]
  | n + 1 => by
    show sm (bstr ((k + n) + 1)) f = _
    rw [sm_bstr_succ, sm_bstr_add k _ n]
    refine sm_congr fun p _ => ?_
    rw [sm_bstr_succ]
    refine sm_congr fun s _ => ?_
    rw [List.append_assoc, List.append_assoc]
theorem sm_comm {α β : Type} (f : α → β → Nat) (m : List β) : ∀ l : List α, (sm l fun a => sm m fun b => f a b) = sm m fun b => sm l fun a => f a b
  | [] => by
    show 0 = sm m fun b => 0
    induction m with
    | nil => rfl
    | cons b r ih => rw [sm_cons, ← ih]
  | a :: r => by
    rw [sm_cons, sm_comm f m r, ← sm_add]
    refine sm_congr fun b _ => ?_
    rw [sm_cons]
/-! ### breakers -/
inductive Part where
  | bit (b : Bool)
  | num (n : Nat)
def Part.val (h : Bits) : Part → Bool
  | .bit b => b
  | .num n => h.getD n false
def made (ps : List Part) (h : Bits) : Bits := ps.map (Part.val h)
inductive Br where
  | say (ps : List Part)
  | toss (bs : List Br)
  | look (n : Nat) (a b : Br)
  | ask (ps : List Part) (a : Br)
def PartsOk (ps : List Part) : Prop := ps.length ≤ 10 ∧ ∀ n, Part.num n ∈ ps → n ≤ 9999
/-- a breaker at most so deep -/
inductive BrOk : Nat → Br → Prop where
  | say {d : Nat} {ps : List Part} (h : PartsOk ps) : BrOk d (.say ps)
  | toss {d : Nat} {bs : List Br} (h0 : 1 ≤ bs.length) (h1 : bs.length ≤ 12) (h : ∀ b ∈ bs, BrOk d b) : BrOk (d + 1) (.toss bs)
  | look {d n : Nat} {a b : Br} (hn : n ≤ 9999) (ha : BrOk d a) (hb : BrOk d b) : BrOk (d + 1) (.look n a b)
  | ask {d : Nat} {ps : List Part} {a : Br} (h : PartsOk ps) (ha : BrOk d a) : BrOk (d + 1) (.ask ps a)
def isOne (s : Bits) : Bool := decide (s = [true])
mutual
/-- the draws of a plain breaker that is handed h and whose asks are answered by the empty string; a leaf is what it says -/
def Br.tree (h : Bits) : Br → Tr Bits
  | .say ps => .leaf (made ps h)
  | .toss bs => .node bs.length (trees h bs)
  | .look n a b => if h.getD n false then b.tree h else a.tree h
  | .ask _ a => a.tree h
def trees (h : Bits) : List Br → Nat → Tr Bits
  | [], _ => .leaf []
  | b :: _, 0 => b.tree h
  | _ :: r, i + 1 => trees h r i
end
theorem trees_get (h : Bits) : ∀ (bs : List Br) (i : Nat) (b : Br), bs[i]? = some b → trees h bs i = b.tree h
  | [], i, b, e => by cases e
  | c :: _, 0, b, e => by
    cases e
    rw [trees]
  | _ :: r, i + 1, b, e => by
    rw [trees]
    exact trees_get h r i b e
mutual
/-- the weight of a breaker at what it is handed: its parts of E -/
def Br.wt (h : Bits) : Br → Nat → Nat
  | .say ps, E => if isOne (made ps h) then E else 0
  | .toss bs, E => wts h bs (E / bs.length)
  | .look n a b, E => if h.getD n false then b.wt h E else a.wt h E
  | .ask _ a, E => a.wt h E
def wts (h : Bits) : List Br → Nat → Nat
  | [], _ => 0
  | b :: r, E => b.wt h E + wts h r E
end
/-- the win of a tree -/
def win (t : Tr Bits) : Tr Bool := t.map isOne
theorem range_sum_cons (g : Nat → Nat) (n : Nat) : ((List.range (n + 1)).map g).sum = g 0 + ((List.range n).map fun i => g (i + 1)).sum := by
  rw [List.range_succ_eq_map, List.map_cons, List.sum_cons, List.map_map]
  rfl
mutual
theorem Br.wt_tree (h : Bits) : ∀ (b : Br) (E : Nat), (win (b.tree h)).wt E = b.wt h E
  | .say ps, E => by
    rw [Br.tree, Br.wt]
    first | done | rfl
  | .toss bs, E => by
    rw [Br.tree, Br.wt]
    show ((List.range bs.length).map fun c => (win (trees h bs c)).wt (E / bs.length)).sum = _
    exact wts_trees h bs _
  | .look n a b, E => by
    rw [Br.tree, Br.wt]
    split
    · exact Br.wt_tree h b E
    · exact Br.wt_tree h a E
  | .ask _ a, E => by
    rw [Br.tree, Br.wt]
    exact Br.wt_tree h a E
theorem wts_trees (h : Bits) : ∀ (bs : List Br) (E : Nat), ((List.range bs.length).map fun c => (win (trees h bs c)).wt E).sum = wts h bs E
  | [], E => by
    rw [wts]
    rfl
  | b :: r, E => by
    rw [List.length_cons, range_sum_cons, wts, trees, Br.wt_tree h b E, ← wts_trees h r E]
    congr 2
end
theorem dvd_27720 {n : Nat} (h0 : 1 ≤ n) (h1 : n ≤ 12) : n ∣ 27720 := by
  have : n = 1 ∨ n = 2 ∨ n = 3 ∨ n = 4 ∨ n = 5 ∨ n = 6 ∨ n = 7 ∨ n = 8 ∨ n = 9 ∨ n = 10 ∨ n = 11 ∨ n = 12 := by omega
  rcases this with e | e | e | e | e | e | e | e | e | e | e | e <;> subst e <;> decide
/-- weights grow as E does -/
theorem Br.wt_mul (h : Bits) (m : Nat) : ∀ {d : Nat} {b : Br}, BrOk d b → ∀ q, b.wt h (m * (27720 ^ d * q)) = m * b.wt h (27720 ^ d * q) := by
  intro d b hb
  induction hb with
  | say hp =>
    intro q
    rw [Br.wt, Br.wt]
    split
    · rfl
    · rw [Nat.mul_zero]
  | @toss d bs h0 h1 hb ih =>
    intro q
    rw [Br.wt, Br.wt]
    obtain ⟨c, hc⟩ := dvd_27720 h0 h1
    have e : 27720 ^ (d + 1) * q = bs.length * (27720 ^ d * (c * q)) := by
      rw [Nat.pow_succ, hc]
      simp only [Nat.mul_assoc, Nat.mul_comm, Nat.mul_left_comm]
    have e2 : m * (27720 ^ (d + 1) * q) = bs.length * (m * (27720 ^ d * (c * q))) := by
      rw [e]
      simp only [Nat.mul_assoc, Nat.mul_comm, Nat.mul_left_comm]
    rw [e2, e, Nat.mul_div_cancel_left _ (by omega), Nat.mul_div_cancel_left _ (by omega)]
    clear e e2 hc h0 h1 hb
    suffices key : ∀ l : List Br, (∀ b ∈ l, ∀ q, b.wt h (m * (27720 ^ d * q)) = m * b.wt h (27720 ^ d * q)) → wts h l (m * (27720 ^ d * (c * q))) = m * wts h l (27720 ^ d * (c * q)) from key bs ih
    intro l
    induction l with
    | nil =>
      intro _
      rw [wts, wts, Nat.mul_zero]
    | cons b r ihr =>
      intro hl
      rw [wts, wts, hl b List.mem_cons_self, ihr fun b hb => hl b (List.mem_cons_of_mem _ hb), Nat.mul_add]
  | @look d n a b hn ha hb iha ihb =>
    intro q
    rw [Br.wt, Br.wt]
    have e : 27720 ^ (d + 1) * q = 27720 ^ d * (27720 * q) := by rw [Nat.pow_succ, Nat.mul_assoc]
    rw [e]
    split
    · exact ihb _
    · exact iha _
  | @ask d ps a hp ha iha =>
    intro q
    rw [Br.wt, Br.wt]
    have e : 27720 ^ (d + 1) * q = 27720 ^ d * (27720 * q) := by rw [Nat.pow_succ, Nat.mul_assoc]
    rw [e]
    exact iha _
/-! ### generators to one bit more -/
def row (rows : List Bits) (s : Bits) : Bits := rows.getD (num s) []
/-- what is put out from a state, then the last state -/
def out (rows : List Bits) : Nat → Bits → Bits
  | 0, s => s
  | m + 1, s => (row rows s).getLastD false :: out rows m (row rows s).dropLast
structure GenOk (n : Nat) (rows : List Bits) : Prop where
  len : rows.length = 2 ^ n
  row : ∀ r ∈ rows, r.length = n + 1
theorem GenOk.at_ {n : Nat} {rows : List Bits} (g : GenOk n rows) {s : Bits} (h : s.length = n) : ∃ r, rows[num s]? = some r ∧ Bk.row rows s = r ∧ r.length = n + 1 := by
  have hl : num s < rows.length := by
    rw [g.len, ← h]
    exact num_lt s
  refine ⟨rows[num s], by simp [hl], ?_, g.row _ (List.getElem_mem hl)⟩
  unfold Bk.row
  rw [List.getD_eq_getElem?_getD]
  simp [hl]
theorem split_last {n : Nat} {r : Bits} (h : r.length = n + 1) : r = r.dropLast ++ [r.getLastD false] ∧ r.dropLast.length = n := by
  have hne : r ≠ [] := fun e => by
    rw [e] at h
    cases h
  constructor
  · rw [List.getLastD_eq_getLast?, List.getLast?_eq_some_getLast hne]
    exact (List.dropLast_concat_getLast hne).symm
  · rw [List.length_dropLast, h]
    rfl
/-- the table that puts out k bits -/
def longerT (n : Nat) (rows : List Bits) (k : Nat) : List Bits := (bstr n).map (out rows k)
theorem out_length {n : Nat} {rows : List Bits} (g : GenOk n rows) : ∀ (m : Nat) {s : Bits}, s.length = n → (out rows m s).length = m + n
  | 0, s, h => by
    show s.length = 0 + n
    omega
  | m + 1, s, h => by
    obtain ⟨r, _, e, hr⟩ := g.at_ h
    show ((Bk.row rows s).getLastD false :: out rows m (Bk.row rows s).dropLast).length = _
    rw [List.length_cons, e, out_length g m (split_last hr).2]
    omega
/-! ### the hybrids -/
section
variable (V : Bits → Nat) (n : Nat) (rows : List Bits) (k : Nat)
/-- any i bits, then the rest by the generator -/
def hyb (i : Nat) : Nat := sm (bstr n) fun s => sm (bstr i) fun p => V (p ++ out rows (k - i) s)
/-- the sum over the draws of the made breaker from i on, over the challenges chs -/
def part (chs : List Bits) (i : Nat) : Nat := sm chs fun ch => sm (bstr i) fun p => V (p ++ (ch.drop n ++ out rows (k - i - 1) (ch.take n)))
end
theorem cut_snoc {n : Nat} {s : Bits} {b : Bool} (h : s.length = n) : (s ++ [b]).drop n = [b] ∧ (s ++ [b]).take n = s := by
  subst h
  simp
theorem rows_eq {n : Nat} {rows : List Bits} (g : GenOk n rows) : rows = (bstr n).map (row rows) := by
  refine List.ext_getElem? fun i => ?_
  unfold bstr
  rw [List.getElem?_map, List.getElem?_map]
  by_cases h : i < 2 ^ n
  · have h1 : i < rows.length := by rw [g.len]; exact h
    rw [List.getElem?_range h]
    show rows[i]? = some (row rows (bitsOf n i))
    unfold row
    rw [num_bitsOf n i h, List.getD_eq_getElem?_getD, List.getElem?_eq_getElem h1]
    rfl
  · have h1 : rows.length ≤ i := by rw [g.len]; omega
    rw [List.getElem?_eq_none h1, List.getElem?_eq_none (by simpa using h)]
    rfl
theorem part_real {n k i : Nat} {rows : List Bits} (g : GenOk n rows) (V : Bits → Nat) (hi : i < k) : part V n rows k rows i = hyb V n rows k i := by
  unfold part hyb
  have e : (sm rows fun ch => sm (bstr i) fun p => V (p ++ (ch.drop n ++ out rows (k - i - 1) (ch.take n)))) =
      sm ((bstr n).map (row rows)) fun ch => sm (bstr i) fun p => V (p ++ (ch.drop n ++ out rows (k - i - 1) (ch.take n))) := congrArg (fun l => sm l _) (rows_eq g)
  rw [e, sm_map]
  refine sm_congr fun s hs => sm_congr fun p _ => ?_
  obtain ⟨r, _, e, hr⟩ := g.at_ (bstr_mem hs)
  obtain ⟨h1, h2⟩ := split_last hr
  obtain ⟨m, hm⟩ : ∃ m, k - i = m + 1 := ⟨k - i - 1, by omega⟩
  rw [hm]
  show V (p ++ ((row rows s).drop n ++ out rows m ((row rows s).take n))) = V (p ++ ((row rows s).getLastD false :: out rows m (row rows s).dropLast))
  rw [e]
  have c := cut_snoc (b := r.getLastD false) h2
  rw [← h1] at c
  rw [c.1, c.2]
  rfl
theorem part_any {n k i : Nat} {rows : List Bits} (V : Bits → Nat) (hi : i < k) : part V n rows k (bstr (n + 1)) i = hyb V n rows k (i + 1) := by
  unfold part hyb
  rw [sm_bstr_succ]
  refine sm_congr fun s hs => ?_
  obtain ⟨a1, a2⟩ := cut_snoc (b := false) (bstr_mem hs)
  obtain ⟨b1, b2⟩ := cut_snoc (b := true) (bstr_mem hs)
  show (sm (bstr i) fun p => V (p ++ ((s ++ [false]).drop n ++ out rows (k - i - 1) ((s ++ [false]).take n)))) + (sm (bstr i) fun p => V (p ++ ((s ++ [true]).drop n ++ out rows (k - i - 1) ((s ++ [true]).take n)))) = _
  rw [a1, a2, b1, b2, ← sm_add, sm_bstr_succ]
  refine sm_congr fun p _ => ?_
  have e : k - i - 1 = k - (i + 1) := by omega
  rw [e, List.append_assoc, List.append_assoc]
theorem hyb_zero {n k : Nat} {rows : List Bits} (V : Bits → Nat) : hyb V n rows k 0 = sm (longerT n rows k) V := by
  unfold hyb longerT
  rw [sm_map]
  refine sm_congr fun s _ => ?_
  rw [sm_bstr_zero]
  rfl
theorem hyb_all {n k : Nat} {rows : List Bits} (V : Bits → Nat) : hyb V n rows k k = sm (bstr (k + n)) V := by
  unfold hyb
  rw [sm_bstr_add, sm_comm]
  refine sm_congr fun p _ => sm_congr fun s _ => ?_
  rw [Nat.sub_self]
  rfl
/-- a row of sums that hang together -/
theorem telescope (q A : Nat → Nat) : ∀ k : Nat, (((List.range k).map fun i => q i * A i).sum : Int) - ((List.range k).map fun i => q (i + 1) * A (i + 1)).sum = (q 0 * A 0 : Nat) - (q k * A k : Nat)
  | 0 => by simp
  | k + 1 => by
    have ih := telescope q A k
    rw [List.range_succ, List.map_append, List.map_append, List.sum_append, List.sum_append]
    simp only [List.map_cons, List.map_nil, List.sum_cons, List.sum_nil, Nat.add_zero]
    omega
end Bk

/-! Plain Lean: the ways of a play, how many, how long, under which numbers. -/
set_option linter.all false
namespace Bk
theorem Tr.map_paths {α β : Type} (g : α → β) : ∀ t : Tr α, (t.map g).paths = t.paths.map fun p => (p.1, g p.2)
  | .leaf a => rfl
  | .node n f => by
    show ((List.range n).flatMap fun c => ((f c).map g).paths.map fun p => ((c, n) :: p.1, p.2)) = ((List.range n).flatMap fun c => (f c).paths.map fun p => ((c, n) :: p.1, p.2)).map _
    rw [List.map_flatMap]
    congr 1
    funext c
    rw [Tr.map_paths g (f c), List.map_map, List.map_map]
    rfl
theorem nextc_len : ∀ (ds : List (Nat × Nat)) (cs : List Nat), nextc ds = some cs → cs.length ≤ ds.length
  | [], cs, h => by cases h
  | (c, n) :: r, cs, h => by
    have h : (match nextc r with | some cs => some (c :: cs) | none => if c + 1 < n then some [c + 1] else none) = some cs := h
    cases e : nextc r with
    | some cs' =>
      rw [e] at h
      have h : some (c :: cs') = some cs := h
      cases h
      have := nextc_len r cs' e
      simp only [List.length_cons]
      omega
    | none =>
      rw [e] at h
      by_cases hc : c + 1 < n
      · have h : (if c + 1 < n then some [c + 1] else none) = some cs := h
        rw [if_pos hc] at h
        cases h
        simp only [List.length_cons, List.length_nil]
        omega
      · have h : (if c + 1 < n then some [c + 1] else none) = some cs := h
        rw [if_neg hc] at h
        cases h
theorem Tr.Ok.mono {α : Type} {m m' : Nat} (hm : m ≤ m') : ∀ {d d' : Nat} {t : Tr α}, d ≤ d' → t.Ok m d → t.Ok m' d'
  | _, d', .leaf a, _, _ => by cases d' <;> trivial
  | 0, d', .node n f, _, h => h.elim
  | d + 1, 0, .node n f, hd, h => absurd hd (by omega)
  | d + 1, d' + 1, .node n f, hd, h => ⟨h.1, Nat.le_trans h.2.1 hm, fun c hc => Tr.Ok.mono hm (by omega) (h.2.2 c hc)⟩
theorem flatMap_len {α β : Type} (g : α → List β) (N : Nat) : ∀ l : List α, (∀ a ∈ l, (g a).length ≤ N) → (l.flatMap g).length ≤ l.length * N
  | [], _ => Nat.zero_le _
  | a :: r, h => by
    rw [List.flatMap_cons, List.length_append, List.length_cons, Nat.add_mul, Nat.one_mul]
    have := flatMap_len g N r fun b hb => h b (List.mem_cons_of_mem _ hb)
    have := h a List.mem_cons_self
    omega
theorem Tr.paths_len_node {α : Type} {n N : Nat} {f : Nat → Tr α} (h : ∀ c, c < n → (f c).paths.length ≤ N) : (Tr.node n f).paths.length ≤ n * N := by
  have := flatMap_len (fun c => (f c).paths.map fun p => ((c, n) :: p.1, p.2)) N (List.range n) fun a ha => by
    rw [List.length_map]
    exact h a (List.mem_range.mp ha)
  rw [List.length_range] at this
  exact this
/-- a breaker's draws -/
theorem Br.tree_ok (x : Bits) : ∀ {d : Nat} {b : Br}, BrOk d b → (b.tree x).Ok 12 d := by
  intro d b h
  induction h with
  | @say d ps h =>
    rw [Br.tree]
    cases d <;> trivial
  | @toss d bs h0 h1 h ih =>
    rw [Br.tree]
    refine ⟨h0, h1, fun c hc => ?_⟩
    rw [trees_get x bs c bs[c] (List.getElem?_eq_getElem hc)]
    exact ih _ (List.getElem_mem hc)
  | @look d n a b hn ha hb iha ihb =>
    rw [Br.tree]
    split
    · exact Tr.Ok.mono (Nat.le_refl _) (Nat.le_succ _) ihb
    · exact Tr.Ok.mono (Nat.le_refl _) (Nat.le_succ _) iha
  | @ask d ps a hp ha iha =>
    rw [Br.tree]
    exact Tr.Ok.mono (Nat.le_refl _) (Nat.le_succ _) iha
theorem Br.tree_len (x : Bits) : ∀ {d : Nat} {b : Br}, BrOk d b → (b.tree x).paths.length ≤ 12 ^ d := by
  intro d b h
  have one : ∀ n : Nat, 1 ≤ 12 ^ n := fun n => Nat.pow_pos (by decide)
  induction h with
  | @say d ps h =>
    rw [Br.tree]
    exact one d
  | @toss d bs h0 h1 h ih =>
    rw [Br.tree, Nat.pow_succ, Nat.mul_comm]
    have := Tr.paths_len_node (n := bs.length) (N := 12 ^ d) (f := trees x bs) fun c hc => by
      rw [trees_get x bs c bs[c] (List.getElem?_eq_getElem hc)]
      exact ih _ (List.getElem_mem hc)
    exact Nat.le_trans this (Nat.mul_le_mul_right _ h1)
  | @look d n a b hn ha hb iha ihb =>
    rw [Br.tree, Nat.pow_succ]
    have := one d
    split <;> omega
  | @ask d ps a hp ha iha =>
    rw [Br.tree, Nat.pow_succ]
    have := one d
    omega
/-- the products along a breaker's ways -/
theorem Br.prod1 (x : Bits) {b : Br} (h : BrOk 1 b) : ∀ p ∈ (b.tree x).paths, 1 ≤ prodD p.1 ∧ prodD p.1 ≤ 12 := by
  have z0 : ∀ {c : Br}, BrOk 0 c → ∀ p ∈ (c.tree x).paths, prodD p.1 = 1 := fun {c} hc p hp => by
    cases hc with
    | say h =>
      rw [Br.tree] at hp
      rw [List.mem_singleton.mp hp]
      rfl
  intro p hp
  cases h with
  | say h =>
    rw [Br.tree] at hp
    rw [List.mem_singleton.mp hp]
    exact ⟨Nat.le_refl _, (by show 1 ≤ 12; decide)⟩
  | @toss d bs h0 h1 h =>
    rw [Br.tree] at hp
    obtain ⟨c, hc, hp⟩ := List.mem_flatMap.mp hp
    obtain ⟨q, hq, rfl⟩ := List.mem_map.mp hp
    have hc := List.mem_range.mp hc
    rw [trees_get x bs c bs[c] (List.getElem?_eq_getElem hc)] at hq
    show 1 ≤ prodD ((c, bs.length) :: q.1) ∧ prodD ((c, bs.length) :: q.1) ≤ 12
    rw [prodD_cons, z0 (h _ (List.getElem_mem hc)) q hq]
    exact ⟨by omega, by omega⟩
  | @look d n a b hn ha hb =>
    rw [Br.tree] at hp
    split at hp
    · rw [z0 hb p hp]
      exact ⟨Nat.le_refl _, by decide⟩
    · rw [z0 ha p hp]
      exact ⟨Nat.le_refl _, by decide⟩
  | @ask d ps a hp' ha =>
    rw [Br.tree] at hp
    rw [z0 ha p hp]
    exact ⟨Nat.le_refl _, by decide⟩
def Br.root : Br → Nat
  | .toss bs => bs.length
  | _ => 1
theorem Br.prod2 (x : Bits) {b : Br} (h : BrOk 2 b) : ∀ p ∈ (b.tree x).paths, ∃ j, 1 ≤ j ∧ j ≤ 12 ∧ prodD p.1 = b.root * j := by
  intro p hp
  cases h with
  | say h =>
    rw [Br.tree] at hp
    rw [List.mem_singleton.mp hp]
    exact ⟨1, Nat.le_refl _, by decide, rfl⟩
  | @toss d bs h0 h1 h =>
    rw [Br.tree] at hp
    obtain ⟨c, hc, hp⟩ := List.mem_flatMap.mp hp
    obtain ⟨q, hq, rfl⟩ := List.mem_map.mp hp
    have hc := List.mem_range.mp hc
    rw [trees_get x bs c bs[c] (List.getElem?_eq_getElem hc)] at hq
    obtain ⟨a1, a2⟩ := Br.prod1 x (h _ (List.getElem_mem hc)) q hq
    exact ⟨prodD q.1, a1, a2, prodD_cons _ _⟩
  | @look d n a b hn ha hb =>
    rw [Br.tree] at hp
    split at hp
    · obtain ⟨a1, a2⟩ := Br.prod1 x hb p hp
      exact ⟨_, a1, a2, (Nat.one_mul _).symm⟩
    · obtain ⟨a1, a2⟩ := Br.prod1 x ha p hp
      exact ⟨_, a1, a2, (Nat.one_mul _).symm⟩
  | @ask d ps a hp' ha =>
    rw [Br.tree] at hp
    obtain ⟨a1, a2⟩ := Br.prod1 x ha p hp
    exact ⟨_, a1, a2, (Nat.one_mul _).symm⟩
/-- every product divides -/
theorem Br.prod_dvd (x : Bits) : ∀ {d : Nat} {b : Br}, BrOk d b → ∀ p ∈ (b.tree x).paths, prodD p.1 ∣ 27720 ^ d := by
  intro d b h
  induction h with
  | @say d ps h =>
    intro p hp
    rw [Br.tree] at hp
    rw [List.mem_singleton.mp hp]
    exact Nat.one_dvd _
  | @toss d bs h0 h1 h ih =>
    intro p hp
    rw [Br.tree] at hp
    obtain ⟨c, hc, hp⟩ := List.mem_flatMap.mp hp
    obtain ⟨q, hq, rfl⟩ := List.mem_map.mp hp
    have hc := List.mem_range.mp hc
    rw [trees_get x bs c bs[c] (List.getElem?_eq_getElem hc)] at hq
    have := ih _ (List.getElem_mem hc) q hq
    show prodD ((c, bs.length) :: q.1) ∣ _
    rw [prodD_cons, Nat.pow_succ, Nat.mul_comm]
    exact Nat.mul_dvd_mul this (dvd_27720 h0 h1)
  | @look d n a b hn ha hb iha ihb =>
    intro p hp
    rw [Br.tree] at hp
    rw [Nat.pow_succ]
    split at hp
    · exact Nat.dvd_trans (ihb p hp) (Nat.dvd_mul_right _ _)
    · exact Nat.dvd_trans (iha p hp) (Nat.dvd_mul_right _ _)
  | @ask d ps a hp' ha iha =>
    intro p hp
    rw [Br.tree] at hp
    rw [Nat.pow_succ]
    exact Nat.dvd_trans (iha p hp) (Nat.dvd_mul_right _ _)
/-- no list without doubles is longer than one that holds it -/
theorem nodup_len : ∀ {c L : List Nat}, c.Nodup → (∀ a ∈ c, a ∈ L) → c.length ≤ L.length
  | [], L, _, _ => Nat.zero_le _
  | a :: r, L, h, hs => by
    obtain ⟨h1, h2⟩ := List.nodup_cons.mp h
    have ha := hs a List.mem_cons_self
    have := nodup_len (c := r) (L := L.erase a) h2 fun b hb => (List.mem_erase_of_ne fun e => h1 (by rw [← e]; exact hb)).mpr (hs b (List.mem_cons_of_mem _ hb))
    rw [List.length_erase_of_mem ha] at this
    have : 0 < L.length := List.length_pos_of_mem ha
    simp only [List.length_cons]
    omega
theorem sm_perm {α : Type} {l m : List α} (f : α → Nat) (h : l.Perm m) : sm l f = sm m f := by
  induction h with
  | nil => rfl
  | cons x _ ih => rw [sm_cons, sm_cons, ih]
  | swap x y l =>
    rw [sm_cons, sm_cons, sm_cons, sm_cons]
    omega
  | trans _ _ ih1 ih2 => rw [ih1, ih2]
end Bk

set_option Elab.async false
set_option linter.all false
set_option maxRecDepth 100000
set_option maxHeartbeats 4000000
/-! strings of bits as the program's texts -/
namespace Bk
open PySem PySem.Spec PyProof.Rows L2
def cd (b : Bool) : Nat := if b then 49 else 48
/-- the text of a string of bits -/
def St (l : Bits) : Str := SX.S (l.map cd)
theorem St_one : (Str.ofString "1") = St [true] := by decide +kernel
theorem St_zero : (Str.ofString "0") = St [false] := by decide +kernel
theorem St_nil : (Str.ofString "") = St [] := by decide +kernel
theorem St_list (l : Bits) : (St l).cps.toList = l.map cd := by simp [St, SX.S]
theorem St_len (l : Bits) : (St l).length = l.length := by
  show (l.map cd).toArray.size = _
  simp
theorem St_append (a b : Bits) : St a ++ St b = St (a ++ b) := by
  show (⟨(a.map cd).toArray ++ (b.map cd).toArray⟩ : Str) = ⟨((a ++ b).map cd).toArray⟩
  simp
theorem cd_inj {a b : Bool} (h : cd a = cd b) : a = b := by
  cases a <;> cases b <;> first | rfl | cases h
theorem map_cd_inj : ∀ {a b : Bits}, a.map cd = b.map cd → a = b
  | [], [], _ => rfl
  | [], _ :: _, h => by cases h
  | _ :: _, [], h => by cases h
  | x :: r, y :: t, h => by
    obtain ⟨h1, h2⟩ := List.cons.inj h
    rw [cd_inj h1, map_cd_inj h2]
theorem St_inj {a b : Bits} (h : St a = St b) : a = b := map_cd_inj (by rw [← St_list, ← St_list, h])
theorem St_dec (a b : Bits) : decide (V.str (St a) = V.str (St b)) = decide (a = b) := by
  by_cases e : a = b
  · rw [decide_eq_true e, e]
    exact decide_eq_true rfl
  · rw [decide_eq_false e]
    exact decide_eq_false fun z => e (St_inj (V.str.inj z))
/-- one sign -/
theorem St_sign (b : Bool) : (⟨#[cd b]⟩ : Str) = St [b] := rfl
theorem St_at {l : Bits} {i : Nat} {b : Bool} (h : l[i]? = some b) : (St l).cps.toList[i]? = some (cd b) := by
  rw [St_list, List.getElem?_map, h]
  rfl
theorem St_atI {l : Bits} {i : Nat} {b : Bool} (h : l[i]? = some b) : atI (St l).cps.toList (i : Int) = some (cd b) := atI_nat (St_at h)
theorem St_last {l : Bits} {b : Bool} : atI (St (l ++ [b])).cps.toList (-1) = some (cd b) := by
  rw [St_list, List.map_append]
  exact atI_last _ _
/-- a text's sign at a place, as the walk sees it -/
theorem St_cps {l : Bits} {i : Nat} {c : Nat} (h : (St l).cps[i]? = some c) : ∃ b, l[i]? = some b ∧ c = cd b := by
  have e : (St l).cps.toList[i]? = some c := by rw [Array.getElem?_toList]; exact h
  rw [St_list, List.getElem?_map] at e
  cases q : l[i]? with
  | none =>
    rw [q] at e
    cases e
  | some b =>
    rw [q] at e
    exact ⟨b, rfl, (Option.some.inj e).symm⟩
theorem St_cpsize (l : Bits) : (St l).cps.size = l.length := St_len l
theorem St_int (b : Bool) : intText? (St [b]) = some (if b then 1 else 0) := by
  cases b <;> decide +kernel
theorem flat_join : ∀ ls : List (List Nat), TL.joinL [] ls = ls.flatten
  | [] => rfl
  | [x] => by simp [TL.joinL]
  | x :: y :: r => by
    show x ++ ([] ++ TL.joinL [] (y :: r)) = _
    rw [flat_join (y :: r)]
    rfl
/-- the join of strings by nothing -/
theorem St_join (ls : List Bits) : Txt.join (Str.ofString "") (ls.map St) = St ls.flatten := by
  rw [St_nil]
  show Txt.join (SX.S []) (ls.map St) = _
  have e : ls.map St = (ls.map (List.map cd)).map SX.S := by
    rw [List.map_map]
    rfl
  rw [e, SX.join_S, flat_join]
  unfold St
  rw [List.map_flatten]
theorem flatten_one : ∀ l : Bits, (l.map fun b => [b]).flatten = l
  | [] => rfl
  | b :: r => by
    show b :: (r.map fun b => [b]).flatten = _
    rw [flatten_one r]
theorem sum_ones (l : Bits) : (((l.map fun b => [b]).map St).map (·.length)).sum = l.length := by
  induction l with
  | nil => rfl
  | cons b r ih =>
    rw [List.map_cons, List.map_cons, List.map_cons, List.sum_cons, ih, St_len]
    simp only [List.length_cons, List.length_nil]
    omega
/-! slices -/
theorem cut_init (l : Bits) : cutS (St l) none (some (-1)) = St l.dropLast := by
  unfold cutS
  have e : HT.sIx (St l).length (St l).length (some (-1)) = l.length - 1 := by
    rw [St_len]
    show (if (-1 : Int) < 0 then (-1 + (l.length : Int)).toNat else min (-1 : Int).toNat l.length) = _
    rw [if_pos (by decide)]
    omega
  have e0 : HT.sIx (St l).length 0 none = 0 := rfl
  rw [e, e0, St_list, List.drop_zero, Nat.sub_zero, ← List.map_take, ← List.dropLast_eq_take]
  rfl
theorem cut_to (l : Bits) (n : Nat) : cutS (St l) none (some (n : Int)) = St (l.take n) := by
  unfold cutS
  have e : HT.sIx (St l).length (St l).length (some (n : Int)) = min n l.length := by
    rw [St_len]
    show (if (n : Int) < 0 then ((n : Int) + (l.length : Int)).toNat else min (n : Int).toNat l.length) = _
    rw [if_neg (by omega)]
    simp
  have e0 : HT.sIx (St l).length 0 none = 0 := rfl
  rw [e, e0, St_list, List.drop_zero, Nat.sub_zero, ← List.map_take]
  show St (l.take (min n l.length)) = St (l.take n)
  by_cases h : n ≤ l.length
  · rw [Nat.min_eq_left h]
  · rw [Nat.min_eq_right (by omega), List.take_of_length_le (l := l) (Nat.le_refl _), List.take_of_length_le (by omega)]
theorem cut_from (l : Bits) (n : Nat) : cutS (St l) (some (n : Int)) none = St (l.drop n) := by
  unfold cutS
  have e : HT.sIx (St l).length 0 (some (n : Int)) = min n l.length := by
    rw [St_len]
    show (if (n : Int) < 0 then ((n : Int) + (l.length : Int)).toNat else min (n : Int).toNat l.length) = _
    rw [if_neg (by omega)]
    simp
  have e0 : HT.sIx (St l).length (St l).length none = l.length := St_len l
  rw [e, e0, St_list]
  show (⟨(((l.map cd).drop (min n l.length)).take (l.length - min n l.length)).toArray⟩ : Str) = ⟨((l.drop n).map cd).toArray⟩
  by_cases h : n ≤ l.length
  · rw [Nat.min_eq_left h, ← List.map_drop, List.take_of_length_le (by simp)]
  · rw [Nat.min_eq_right (by omega), Nat.sub_self, List.take_zero, List.drop_eq_nil_of_le (as := l) (by omega)]
    rfl
/-! heaps -/
theorem same_new {H : Hp} {p : Addr} (h : H p = none) (o : HO) : Same H (upd H p o) := fun b u q => by
  rw [upd_ne (ne_of_none q h)]
  exact q
theorem same_upd {H H' : Hp} {p : Addr} (s : Same H H') (h : H' p = none) (o : HO) : Same H (upd H' p o) := s.trans (same_new h o)
/-- behind a store at an object that did not stand before -/
theorem same_put {H H' : Hp} {p : Addr} (s : Same H H') (h : H p = none) (o : HO) : Same H (L2.upd H' p o) := fun b u q => by
  rw [upd_ne (ne_of_none q h)]
  exact s b u q
/-! tests whose answer is known -/
theorem ifY {c A B : Prop} {i : Decidable c} (hc : c) (h : A) : if decide c = true then A else B := by
  rw [decide_eq_true hc]
  exact iteT h
theorem ifN {c A B : Prop} {i : Decidable c} (hc : ¬ c) (h : B) : if decide c = true then A else B := by
  rw [decide_eq_false hc]
  exact iteF h
theorem niY {c A B : Prop} {i : Decidable c} (hc : c) (h : B) : if (!decide c) = true then A else B := by
  rw [decide_eq_true hc]
  exact iteF h
theorem niN {c A B : Prop} {i : Decidable c} (hc : ¬ c) (h : A) : if (!decide c) = true then A else B := by
  rw [decide_eq_false hc]
  exact iteT h
theorem vint {a b : Int} (h : a = b) : V.int a = V.int b := by rw [h]
theorem vint_ne {a b : Int} (h : a ≠ b) : ¬ V.int a = V.int b := fun z => h (V.int.inj z)
theorem line1000 {n : Nat} (h : n ≤ 1000) : n ≤ sizeLine := Nat.le_of_lt (small1000 h)
theorem lt1000 {n : Nat} (h : n ≤ 1000) : n < sizeLine := small1000 h
end Bk

set_option Elab.async false
set_option linter.all false
set_option maxRecDepth 100000
set_option maxHeartbeats 4000000
namespace Bk
open PySem PySem.Spec PyProof.Rows L2
/-! what the top has left, by names -/
structure Tx (w : World) (K : PySem.W.Frag) (mg : Str → Option Value) : Prop where
  c : SaysN w K
  h : ∃ h : Heap, K.In h ∧ h.Ns mainGlobals mg
section
variable {w : World} {K : PySem.W.Frag} {mg : Str → Option Value}
theorem Tx.glo (T : Tx w K mg) {x : Str} (i : Nat) (e : fa[i]? = some (.glo x)) : mg x = some (.ref (He.ga K x)) := by
  obtain ⟨h, X, G⟩ := T.h
  exact He.glo_ok X G (T.c.d.fact i e)
theorem Tx.free (T : Tx w K mg) {x : Str} (i : Nat) (e : fa[i]? = some (.free x)) : mg x = none := by
  obtain ⟨h, X, G⟩ := T.h
  exact He.free_ok X G (T.c.d.fact i e)
theorem Tx.int (T : Tx w K mg) {x : Str} {z : Int} (i : Nat) (e : fa[i]? = some (.int x z)) : ∃ u, mg x = some u ∧ RelV (.int z) u := by
  obtain ⟨h, X, G⟩ := T.h
  obtain ⟨t, q⟩ := He.int_ok X G (T.c.d.fact i e)
  exact ⟨_, q, _, rfl⟩
theorem Tx.g_bits (T : Tx w K mg) : mg "bits" = some (.ref (He.ga K "bits")) := T.glo 0 rfl
theorem Tx.g_number_of (T : Tx w K mg) : mg "number_of" = some (.ref (He.ga K "number_of")) := T.glo 1 rfl
theorem Tx.g_is_number (T : Tx w K mg) : mg "is_number" = some (.ref (He.ga K "is_number")) := T.glo 2 rfl
theorem Tx.g_is_bits (T : Tx w K mg) : mg "is_bits" = some (.ref (He.ga K "is_bits")) := T.glo 3 rfl
theorem Tx.g_is_row (T : Tx w K mg) : mg "is_row" = some (.ref (He.ga K "is_row")) := T.glo 4 rfl
theorem Tx.g_is_generator (T : Tx w K mg) : mg "is_generator" = some (.ref (He.ga K "is_generator")) := T.glo 5 rfl
theorem Tx.g_check_block (T : Tx w K mg) : mg "check_block" = some (.ref (He.ga K "check_block")) := T.glo 6 rfl
theorem Tx.g_row_at (T : Tx w K mg) : mg "row_at" = some (.ref (He.ga K "row_at")) := T.glo 7 rfl
theorem Tx.g_put_out (T : Tx w K mg) : mg "put_out" = some (.ref (He.ga K "put_out")) := T.glo 8 rfl
theorem Tx.g_longer (T : Tx w K mg) : mg "longer" = some (.ref (He.ga K "longer")) := T.glo 9 rfl
theorem Tx.g_are_parts (T : Tx w K mg) : mg "are_parts" = some (.ref (He.ga K "are_parts")) := T.glo 10 rfl
theorem Tx.g_inner_plain (T : Tx w K mg) : mg "inner_plain" = some (.ref (He.ga K "inner_plain")) := T.glo 11 rfl
theorem Tx.g_check_plain (T : Tx w K mg) : mg "check_plain" = some (.ref (He.ga K "check_plain")) := T.glo 12 rfl
theorem Tx.g_fits_longer (T : Tx w K mg) : mg "fits_longer" = some (.ref (He.ga K "fits_longer")) := T.glo 13 rfl
theorem Tx.g_fits_word (T : Tx w K mg) : mg "fits_word" = some (.ref (He.ga K "fits_word")) := T.glo 14 rfl
theorem Tx.g_has_plain_word (T : Tx w K mg) : mg "has_plain_word" = some (.ref (He.ga K "has_plain_word")) := T.glo 15 rfl
theorem Tx.g_check_breaker (T : Tx w K mg) : mg "check_breaker" = some (.ref (He.ga K "check_breaker")) := T.glo 16 rfl
theorem Tx.g_made_string (T : Tx w K mg) : mg "made_string" = some (.ref (He.ga K "made_string")) := T.glo 17 rfl
theorem Tx.g_run_plain (T : Tx w K mg) : mg "run_plain" = some (.ref (He.ga K "run_plain")) := T.glo 18 rfl
theorem Tx.g_run_longer (T : Tx w K mg) : mg "run_longer" = some (.ref (He.ga K "run_longer")) := T.glo 19 rfl
theorem Tx.g_run_breaker (T : Tx w K mg) : mg "run_breaker" = some (.ref (He.ga K "run_breaker")) := T.glo 20 rfl
theorem Tx.g_is_truth (T : Tx w K mg) : mg "is_truth" = some (.ref (He.ga K "is_truth")) := T.glo 21 rfl
theorem Tx.g_is_right (T : Tx w K mg) : mg "is_right" = some (.ref (He.ga K "is_right")) := T.glo 22 rfl
theorem Tx.g_check_game (T : Tx w K mg) : mg "check_game" = some (.ref (He.ga K "check_game")) := T.glo 23 rfl
theorem Tx.g_cover (T : Tx w K mg) : mg "cover" = some (.ref (He.ga K "cover")) := T.glo 24 rfl
theorem Tx.g_played (T : Tx w K mg) : mg "played" = some (.ref (He.ga K "played")) := T.glo 25 rfl
theorem Tx.g_fraction (T : Tx w K mg) : mg "fraction" = some (.ref (He.ga K "fraction")) := T.glo 26 rfl
theorem Tx.g_add (T : Tx w K mg) : mg "add" = some (.ref (He.ga K "add")) := T.glo 27 rfl
theorem Tx.g_less (T : Tx w K mg) : mg "less" = some (.ref (He.ga K "less")) := T.glo 28 rfl
theorem Tx.g_next_choices (T : Tx w K mg) : mg "next_choices" = some (.ref (He.ga K "next_choices")) := T.glo 29 rfl
theorem Tx.g_ways_of (T : Tx w K mg) : mg "ways_of" = some (.ref (He.ga K "ways_of")) := T.glo 30 rfl
theorem Tx.g_chance (T : Tx w K mg) : mg "chance" = some (.ref (He.ga K "chance")) := T.glo 31 rfl
theorem Tx.g_advantage (T : Tx w K mg) : mg "advantage" = some (.ref (He.ga K "advantage")) := T.glo 32 rfl
theorem Tx.g_law_mixed (T : Tx w K mg) : mg "_law_mixed" = some (.ref (He.ga K "_law_mixed")) := T.glo 33 rfl
theorem Tx.g_law_tape (T : Tx w K mg) : mg "_law_tape" = some (.ref (He.ga K "_law_tape")) := T.glo 34 rfl
theorem Tx.g_law_draw (T : Tx w K mg) : mg "_law_draw" = some (.ref (He.ga K "_law_draw")) := T.glo 35 rfl
theorem Tx.g_law_pick (T : Tx w K mg) : mg "_law_pick" = some (.ref (He.ga K "_law_pick")) := T.glo 36 rfl
theorem Tx.g_law_bits (T : Tx w K mg) : mg "_law_bits" = some (.ref (He.ga K "_law_bits")) := T.glo 37 rfl
theorem Tx.g_law_number (T : Tx w K mg) : mg "_law_number" = some (.ref (He.ga K "_law_number")) := T.glo 38 rfl
theorem Tx.g_law_string (T : Tx w K mg) : mg "_law_string" = some (.ref (He.ga K "_law_string")) := T.glo 39 rfl
theorem Tx.g_law_fraction (T : Tx w K mg) : mg "_law_fraction" = some (.ref (He.ga K "_law_fraction")) := T.glo 40 rfl
theorem Tx.g_law_sum (T : Tx w K mg) : mg "_law_sum" = some (.ref (He.ga K "_law_sum")) := T.glo 41 rfl
theorem Tx.g_law_less (T : Tx w K mg) : mg "_law_less" = some (.ref (He.ga K "_law_less")) := T.glo 42 rfl
theorem Tx.g_law_times (T : Tx w K mg) : mg "_law_times" = some (.ref (He.ga K "_law_times")) := T.glo 43 rfl
theorem Tx.g_law_note (T : Tx w K mg) : mg "_law_note" = some (.ref (He.ga K "_law_note")) := T.glo 44 rfl
theorem Tx.g_law_parts (T : Tx w K mg) : mg "_law_parts" = some (.ref (He.ga K "_law_parts")) := T.glo 45 rfl
theorem Tx.g_law_say (T : Tx w K mg) : mg "_law_say" = some (.ref (He.ga K "_law_say")) := T.glo 46 rfl
theorem Tx.g_law_breaker (T : Tx w K mg) : mg "_law_breaker" = some (.ref (He.ga K "_law_breaker")) := T.glo 47 rfl
theorem Tx.g_law_made (T : Tx w K mg) : mg "_law_made" = some (.ref (He.ga K "_law_made")) := T.glo 48 rfl
theorem Tx.g_law_silent (T : Tx w K mg) : mg "_law_silent" = some (.ref (He.ga K "_law_silent")) := T.glo 49 rfl
theorem Tx.g_law_silent_chance (T : Tx w K mg) : mg "_law_silent_chance" = some (.ref (He.ga K "_law_silent_chance")) := T.glo 50 rfl
theorem Tx.g_law_strings (T : Tx w K mg) : mg "_law_strings" = some (.ref (He.ga K "_law_strings")) := T.glo 51 rfl
theorem Tx.g_law_generator (T : Tx w K mg) : mg "_law_generator" = some (.ref (He.ga K "_law_generator")) := T.glo 52 rfl
theorem Tx.g_law_generator_gain (T : Tx w K mg) : mg "_law_generator_gain" = some (.ref (He.ga K "_law_generator_gain")) := T.glo 53 rfl
theorem Tx.g_law_is (T : Tx w K mg) : mg "_law_is" = some (.ref (He.ga K "_law_is")) := T.glo 54 rfl
theorem Tx.g_law_longer (T : Tx w K mg) : mg "_law_longer" = some (.ref (He.ga K "_law_longer")) := T.glo 55 rfl
theorem Tx.g_law_made_chance (T : Tx w K mg) : mg "_law_made_chance" = some (.ref (He.ga K "_law_made_chance")) := T.glo 56 rfl
theorem Tx.g_law (T : Tx w K mg) : mg "law" = some (.ref (He.ga K "law")) := T.glo 57 rfl
theorem Tx.g_Stopped (T : Tx w K mg) : mg "Stopped" = some (.ref (He.ga K "Stopped")) := T.glo 58 rfl
theorem Tx.g_Tape (T : Tx w K mg) : mg "Tape" = some (.ref (He.ga K "Tape")) := T.glo 59 rfl
theorem Tx.g_Play (T : Tx w K mg) : mg "Play" = some (.ref (He.ga K "Play")) := T.glo 60 rfl
theorem Tx.g_Notes (T : Tx w K mg) : mg "Notes" = some (.ref (He.ga K "Notes")) := T.glo 61 rfl
theorem Tx.g_Table (T : Tx w K mg) : mg "Table" = some (.ref (He.ga K "Table")) := T.glo 62 rfl
theorem Tx.g_Ways (T : Tx w K mg) : mg "Ways" = some (.ref (He.ga K "Ways")) := T.glo 63 rfl
theorem Tx.g_Silent (T : Tx w K mg) : mg "Silent" = some (.ref (He.ga K "Silent")) := T.glo 64 rfl
theorem Tx.g_OnetimeWorld (T : Tx w K mg) : mg "OnetimeWorld" = some (.ref (He.ga K "OnetimeWorld")) := T.glo 65 rfl
theorem Tx.g_PLAIN_WORDS (T : Tx w K mg) : mg "PLAIN_WORDS" = some (.ref (He.ga K "PLAIN_WORDS")) := T.glo 66 rfl
theorem Tx.g_RUNS (T : Tx w K mg) : mg "RUNS" = some (.ref (He.ga K "RUNS")) := T.glo 67 rfl
theorem Tx.g_SIZES (T : Tx w K mg) : mg "SIZES" = some (.ref (He.ga K "SIZES")) := T.glo 68 rfl
theorem Tx.n_len (T : Tx w K mg) : mg "len" = none := T.free 69 rfl
theorem Tx.n_range (T : Tx w K mg) : mg "range" = none := T.free 70 rfl
theorem Tx.n_isinstance (T : Tx w K mg) : mg "isinstance" = none := T.free 71 rfl
theorem Tx.n_all (T : Tx w K mg) : mg "all" = none := T.free 72 rfl
theorem Tx.n_int (T : Tx w K mg) : mg "int" = none := T.free 73 rfl
theorem Tx.n_bool (T : Tx w K mg) : mg "bool" = none := T.free 74 rfl
theorem Tx.n_str (T : Tx w K mg) : mg "str" = none := T.free 75 rfl
theorem Tx.n_tuple (T : Tx w K mg) : mg "tuple" = none := T.free 76 rfl
theorem Tx.n_abs (T : Tx w K mg) : mg "abs" = none := T.free 77 rfl
theorem Tx.n_list (T : Tx w K mg) : mg "list" = none := T.free 78 rfl
theorem Tx.n_sorted (T : Tx w K mg) : mg "sorted" = none := T.free 79 rfl
theorem Tx.n_reversed (T : Tx w K mg) : mg "reversed" = none := T.free 80 rfl
theorem Tx.i_MOST_LENGTH (T : Tx w K mg) : ∃ u, mg "MOST_LENGTH" = some u ∧ RelV (.int 40) u := T.int 81 rfl
theorem Tx.i_MOST_BIT (T : Tx w K mg) : ∃ u, mg "MOST_BIT" = some u ∧ RelV (.int 9999) u := T.int 82 rfl
theorem Tx.i_MOST_TOSSED (T : Tx w K mg) : ∃ u, mg "MOST_TOSSED" = some u ∧ RelV (.int 64) u := T.int 83 rfl
theorem Tx.i_MOST_DEPTH (T : Tx w K mg) : ∃ u, mg "MOST_DEPTH" = some u ∧ RelV (.int 60) u := T.int 84 rfl
theorem Tx.i_MOST_LAYERS (T : Tx w K mg) : ∃ u, mg "MOST_LAYERS" = some u ∧ RelV (.int 20) u := T.int 85 rfl
theorem Tx.i_MOST_WITHIN (T : Tx w K mg) : ∃ u, mg "MOST_WITHIN" = some u ∧ RelV (.int 2000) u := T.int 86 rfl
theorem Tx.k_Stopped (T : Tx w K mg) : Cls K (He.ga K "Stopped") := He.cls_ok (T.c.d.fact 87 rfl)
theorem Tx.k_Tape (T : Tx w K mg) : Cls K (He.ga K "Tape") := He.cls_ok (T.c.d.fact 88 rfl)
theorem Tx.k_Play (T : Tx w K mg) : Cls K (He.ga K "Play") := He.cls_ok (T.c.d.fact 89 rfl)
theorem Tx.k_Notes (T : Tx w K mg) : Cls K (He.ga K "Notes") := He.cls_ok (T.c.d.fact 90 rfl)
theorem Tx.k_Table (T : Tx w K mg) : Cls K (He.ga K "Table") := He.cls_ok (T.c.d.fact 91 rfl)
theorem Tx.k_Ways (T : Tx w K mg) : Cls K (He.ga K "Ways") := He.cls_ok (T.c.d.fact 92 rfl)
theorem Tx.k_Silent (T : Tx w K mg) : Cls K (He.ga K "Silent") := He.cls_ok (T.c.d.fact 93 rfl)
theorem Tx.a_Stopped_world (T : Tx w K mg) : NoAttr K (He.ga K "Stopped") "world" := He.noat_ok (T.c.d.fact 94 rfl)
theorem Tx.a_Tape_choices (T : Tx w K mg) : NoAttr K (He.ga K "Tape") "choices" := He.noat_ok (T.c.d.fact 95 rfl)
theorem Tx.a_Tape_draws (T : Tx w K mg) : NoAttr K (He.ga K "Tape") "draws" := He.noat_ok (T.c.d.fact 96 rfl)
theorem Tx.a_Play_outcome (T : Tx w K mg) : NoAttr K (He.ga K "Play") "outcome" := He.noat_ok (T.c.d.fact 97 rfl)
theorem Tx.a_Play_said (T : Tx w K mg) : NoAttr K (He.ga K "Play") "said" := He.noat_ok (T.c.d.fact 98 rfl)
theorem Tx.a_Play_draws (T : Tx w K mg) : NoAttr K (He.ga K "Play") "draws" := He.noat_ok (T.c.d.fact 99 rfl)
theorem Tx.a_Play_asked (T : Tx w K mg) : NoAttr K (He.ga K "Play") "asked" := He.noat_ok (T.c.d.fact 100 rfl)
theorem Tx.a_Notes_world (T : Tx w K mg) : NoAttr K (He.ga K "Notes") "world" := He.noat_ok (T.c.d.fact 101 rfl)
theorem Tx.a_Notes_asked (T : Tx w K mg) : NoAttr K (He.ga K "Notes") "asked" := He.noat_ok (T.c.d.fact 102 rfl)
theorem Tx.a_Table_game (T : Tx w K mg) : NoAttr K (He.ga K "Table") "game" := He.noat_ok (T.c.d.fact 103 rfl)
theorem Tx.a_Table_tape (T : Tx w K mg) : NoAttr K (He.ga K "Table") "tape" := He.noat_ok (T.c.d.fact 104 rfl)
theorem Tx.a_Table_kind (T : Tx w K mg) : NoAttr K (He.ga K "Table") "kind" := He.noat_ok (T.c.d.fact 105 rfl)
theorem Tx.a_Table_challenge (T : Tx w K mg) : NoAttr K (He.ga K "Table") "challenge" := He.noat_ok (T.c.d.fact 106 rfl)
theorem Tx.a_Table_world (T : Tx w K mg) : NoAttr K (He.ga K "Table") "world" := He.noat_ok (T.c.d.fact 107 rfl)
theorem Tx.a_Table_secret (T : Tx w K mg) : NoAttr K (He.ga K "Table") "secret" := He.noat_ok (T.c.d.fact 108 rfl)
theorem Tx.a_Ways_most (T : Tx w K mg) : NoAttr K (He.ga K "Ways") "most" := He.noat_ok (T.c.d.fact 109 rfl)
theorem Tx.a_Ways_many (T : Tx w K mg) : NoAttr K (He.ga K "Ways") "many" := He.noat_ok (T.c.d.fact 110 rfl)
theorem Tx.a_Ways_won (T : Tx w K mg) : NoAttr K (He.ga K "Ways") "won" := He.noat_ok (T.c.d.fact 111 rfl)
theorem Tx.m_Silent_answer (T : Tx w K mg) : Meth K (He.ga K "Silent") "answer" (He.ma K (He.ga K "Silent") "answer") := He.meth_ok (T.c.d.fact 112 rfl)
theorem Tx.m_Stopped_now (T : Tx w K mg) : Meth K (He.ga K "Stopped") "now" (He.ma K (He.ga K "Stopped") "now") := He.meth_ok (T.c.d.fact 113 rfl)
theorem Tx.m_Tape_draw (T : Tx w K mg) : Meth K (He.ga K "Tape") "draw" (He.ma K (He.ga K "Tape") "draw") := He.meth_ok (T.c.d.fact 114 rfl)
theorem Tx.m_Tape_string (T : Tx w K mg) : Meth K (He.ga K "Tape") "string" (He.ma K (He.ga K "Tape") "string") := He.meth_ok (T.c.d.fact 115 rfl)
theorem Tx.m_Notes_answer (T : Tx w K mg) : Meth K (He.ga K "Notes") "answer" (He.ma K (He.ga K "Notes") "answer") := He.meth_ok (T.c.d.fact 116 rfl)
theorem Tx.m_Table_begin_challenge (T : Tx w K mg) : Meth K (He.ga K "Table") "begin_challenge" (He.ma K (He.ga K "Table") "begin_challenge") := He.meth_ok (T.c.d.fact 117 rfl)
theorem Tx.m_Table_has_won (T : Tx w K mg) : Meth K (He.ga K "Table") "has_won" (He.ma K (He.ga K "Table") "has_won") := He.meth_ok (T.c.d.fact 118 rfl)
theorem Tx.m_Ways_count (T : Tx w K mg) : Meth K (He.ga K "Ways") "count" (He.ma K (He.ga K "Ways") "count") := He.meth_ok (T.c.d.fact 119 rfl)
theorem Tx.m_Ways_chance (T : Tx w K mg) : Meth K (He.ga K "Ways") "chance" (He.ma K (He.ga K "Ways") "chance") := He.meth_ok (T.c.d.fact 120 rfl)
theorem Tx.mk_Stopped (T : Tx w K mg) : Mk K (He.ga K "Stopped") (He.ma K (He.ga K "Stopped") "__init__") := He.mkr_ok (T.c.d.fact 121 rfl)
theorem Tx.mk_Tape (T : Tx w K mg) : Mk K (He.ga K "Tape") (He.ma K (He.ga K "Tape") "__init__") := He.mkr_ok (T.c.d.fact 122 rfl)
theorem Tx.mk_Play (T : Tx w K mg) : Mk K (He.ga K "Play") (He.ma K (He.ga K "Play") "__init__") := He.mkr_ok (T.c.d.fact 123 rfl)
theorem Tx.mk_Notes (T : Tx w K mg) : Mk K (He.ga K "Notes") (He.ma K (He.ga K "Notes") "__init__") := He.mkr_ok (T.c.d.fact 124 rfl)
theorem Tx.mk_Table (T : Tx w K mg) : Mk K (He.ga K "Table") (He.ma K (He.ga K "Table") "__init__") := He.mkr_ok (T.c.d.fact 125 rfl)
theorem Tx.mk_Ways (T : Tx w K mg) : Mk K (He.ga K "Ways") (He.ma K (He.ga K "Ways") "__init__") := He.mkr_ok (T.c.d.fact 126 rfl)
theorem Tx.f_Silent_answer (T : Tx w K mg) : ∃ fd, FnP K "answer" "Silent.answer" s_Silent_answer (He.ma K (He.ga K "Silent") "answer") fd := T.c.d.def_ 0 (d := d_Silent_answer) rfl
theorem Tx.f_Stopped__init (T : Tx w K mg) : ∃ fd, FnP K "__init__" "Stopped.__init__" s_Stopped__init (He.ma K (He.ga K "Stopped") "__init__") fd := T.c.d.def_ 1 (d := d_Stopped__init) rfl
theorem Tx.f_Stopped_now (T : Tx w K mg) : ∃ fd, FnP K "now" "Stopped.now" s_Stopped_now (He.ma K (He.ga K "Stopped") "now") fd := T.c.d.def_ 2 (d := d_Stopped_now) rfl
theorem Tx.f_Tape__init (T : Tx w K mg) : ∃ fd, FnP K "__init__" "Tape.__init__" s_Tape__init (He.ma K (He.ga K "Tape") "__init__") fd := T.c.d.def_ 3 (d := d_Tape__init) rfl
theorem Tx.f_Tape_draw (T : Tx w K mg) : ∃ fd, FnP K "draw" "Tape.draw" s_Tape_draw (He.ma K (He.ga K "Tape") "draw") fd := T.c.d.def_ 4 (d := d_Tape_draw) rfl
theorem Tx.f_Tape_string (T : Tx w K mg) : ∃ fd, FnP K "string" "Tape.string" s_Tape_string (He.ma K (He.ga K "Tape") "string") fd := T.c.d.def_ 5 (d := d_Tape_string) rfl
theorem Tx.f_Play__init (T : Tx w K mg) : ∃ fd, FnP K "__init__" "Play.__init__" s_Play__init (He.ma K (He.ga K "Play") "__init__") fd := T.c.d.def_ 6 (d := d_Play__init) rfl
theorem Tx.f_Notes__init (T : Tx w K mg) : ∃ fd, FnP K "__init__" "Notes.__init__" s_Notes__init (He.ma K (He.ga K "Notes") "__init__") fd := T.c.d.def_ 7 (d := d_Notes__init) rfl
theorem Tx.f_Notes_answer (T : Tx w K mg) : ∃ fd, FnP K "answer" "Notes.answer" s_Notes_answer (He.ma K (He.ga K "Notes") "answer") fd := T.c.d.def_ 8 (d := d_Notes_answer) rfl
theorem Tx.f_Table__init (T : Tx w K mg) : ∃ fd, FnP K "__init__" "Table.__init__" s_Table__init (He.ma K (He.ga K "Table") "__init__") fd := T.c.d.def_ 9 (d := d_Table__init) rfl
theorem Tx.f_Table_begin_challenge (T : Tx w K mg) : ∃ fd, FnP K "begin_challenge" "Table.begin_challenge" s_Table_begin_challenge (He.ma K (He.ga K "Table") "begin_challenge") fd := T.c.d.def_ 10 (d := d_Table_begin_challenge) rfl
theorem Tx.f_Table_has_won (T : Tx w K mg) : ∃ fd, FnP K "has_won" "Table.has_won" s_Table_has_won (He.ma K (He.ga K "Table") "has_won") fd := T.c.d.def_ 11 (d := d_Table_has_won) rfl
theorem Tx.f_Ways__init (T : Tx w K mg) : ∃ fd, FnP K "__init__" "Ways.__init__" s_Ways__init (He.ma K (He.ga K "Ways") "__init__") fd := T.c.d.def_ 12 (d := d_Ways__init) rfl
theorem Tx.f_Ways_count (T : Tx w K mg) : ∃ fd, FnP K "count" "Ways.count" s_Ways_count (He.ma K (He.ga K "Ways") "count") fd := T.c.d.def_ 13 (d := d_Ways_count) rfl
theorem Tx.f_Ways_chance (T : Tx w K mg) : ∃ fd, FnP K "chance" "Ways.chance" s_Ways_chance (He.ma K (He.ga K "Ways") "chance") fd := T.c.d.def_ 14 (d := d_Ways_chance) rfl
theorem Tx.f_bits (T : Tx w K mg) : ∃ fd, FnP K "bits" "bits" s_bits (He.ga K "bits") fd := T.c.d.def_ 15 (d := d_bits) rfl
theorem Tx.f_number_of (T : Tx w K mg) : ∃ fd, FnP K "number_of" "number_of" s_number_of (He.ga K "number_of") fd := T.c.d.def_ 16 (d := d_number_of) rfl
theorem Tx.f_is_number (T : Tx w K mg) : ∃ fd, FnP K "is_number" "is_number" s_is_number (He.ga K "is_number") fd := T.c.d.def_ 17 (d := d_is_number) rfl
theorem Tx.f_is_bits (T : Tx w K mg) : ∃ fd, FnP K "is_bits" "is_bits" s_is_bits (He.ga K "is_bits") fd := T.c.d.def_ 18 (d := d_is_bits) rfl
theorem Tx.f_is_row (T : Tx w K mg) : ∃ fd, FnP K "is_row" "is_row" s_is_row (He.ga K "is_row") fd := T.c.d.def_ 19 (d := d_is_row) rfl
theorem Tx.f_is_generator (T : Tx w K mg) : ∃ fd, FnP K "is_generator" "is_generator" s_is_generator (He.ga K "is_generator") fd := T.c.d.def_ 20 (d := d_is_generator) rfl
theorem Tx.f_check_block (T : Tx w K mg) : ∃ fd, FnP K "check_block" "check_block" s_check_block (He.ga K "check_block") fd := T.c.d.def_ 21 (d := d_check_block) rfl
theorem Tx.f_row_at (T : Tx w K mg) : ∃ fd, FnP K "row_at" "row_at" s_row_at (He.ga K "row_at") fd := T.c.d.def_ 22 (d := d_row_at) rfl
theorem Tx.f_put_out (T : Tx w K mg) : ∃ fd, FnP K "put_out" "put_out" s_put_out (He.ga K "put_out") fd := T.c.d.def_ 23 (d := d_put_out) rfl
theorem Tx.f_longer (T : Tx w K mg) : ∃ fd, FnP K "longer" "longer" s_longer (He.ga K "longer") fd := T.c.d.def_ 24 (d := d_longer) rfl
theorem Tx.f_are_parts (T : Tx w K mg) : ∃ fd, FnP K "are_parts" "are_parts" s_are_parts (He.ga K "are_parts") fd := T.c.d.def_ 25 (d := d_are_parts) rfl
theorem Tx.f_inner_plain (T : Tx w K mg) : ∃ fd, FnP K "inner_plain" "inner_plain" s_inner_plain (He.ga K "inner_plain") fd := T.c.d.def_ 26 (d := d_inner_plain) rfl
theorem Tx.f_check_plain (T : Tx w K mg) : ∃ fd, FnP K "check_plain" "check_plain" s_check_plain (He.ga K "check_plain") fd := T.c.d.def_ 27 (d := d_check_plain) rfl
theorem Tx.f_fits_longer (T : Tx w K mg) : ∃ fd, FnP K "fits_longer" "fits_longer" s_fits_longer (He.ga K "fits_longer") fd := T.c.d.def_ 28 (d := d_fits_longer) rfl
theorem Tx.f_fits_word (T : Tx w K mg) : ∃ fd, FnP K "fits_word" "fits_word" s_fits_word (He.ga K "fits_word") fd := T.c.d.def_ 29 (d := d_fits_word) rfl
theorem Tx.f_has_plain_word (T : Tx w K mg) : ∃ fd, FnP K "has_plain_word" "has_plain_word" s_has_plain_word (He.ga K "has_plain_word") fd := T.c.d.def_ 30 (d := d_has_plain_word) rfl
theorem Tx.f_check_breaker (T : Tx w K mg) : ∃ fd, FnP K "check_breaker" "check_breaker" s_check_breaker (He.ga K "check_breaker") fd := T.c.d.def_ 31 (d := d_check_breaker) rfl
theorem Tx.f_made_string (T : Tx w K mg) : ∃ fd, FnP K "made_string" "made_string" s_made_string (He.ga K "made_string") fd := T.c.d.def_ 32 (d := d_made_string) rfl
theorem Tx.f_run_plain (T : Tx w K mg) : ∃ fd, FnP K "run_plain" "run_plain" s_run_plain (He.ga K "run_plain") fd := T.c.d.def_ 33 (d := d_run_plain) rfl
theorem Tx.f_run_longer (T : Tx w K mg) : ∃ fd, FnP K "run_longer" "run_longer" s_run_longer (He.ga K "run_longer") fd := T.c.d.def_ 34 (d := d_run_longer) rfl
theorem Tx.f_run_breaker (T : Tx w K mg) : ∃ fd, FnP K "run_breaker" "run_breaker" s_run_breaker (He.ga K "run_breaker") fd := T.c.d.def_ 35 (d := d_run_breaker) rfl
theorem Tx.f_is_truth (T : Tx w K mg) : ∃ fd, FnP K "is_truth" "is_truth" s_is_truth (He.ga K "is_truth") fd := T.c.d.def_ 36 (d := d_is_truth) rfl
theorem Tx.f_is_right (T : Tx w K mg) : ∃ fd, FnP K "is_right" "is_right" s_is_right (He.ga K "is_right") fd := T.c.d.def_ 37 (d := d_is_right) rfl
theorem Tx.f_check_game (T : Tx w K mg) : ∃ fd, FnP K "check_game" "check_game" s_check_game (He.ga K "check_game") fd := T.c.d.def_ 38 (d := d_check_game) rfl
theorem Tx.f_cover (T : Tx w K mg) : ∃ fd, FnP K "cover" "cover" s_cover (He.ga K "cover") fd := T.c.d.def_ 39 (d := d_cover) rfl
theorem Tx.f_played (T : Tx w K mg) : ∃ fd, FnP K "played" "played" s_played (He.ga K "played") fd := T.c.d.def_ 40 (d := d_played) rfl
theorem Tx.f_fraction (T : Tx w K mg) : ∃ fd, FnP K "fraction" "fraction" s_fraction (He.ga K "fraction") fd := T.c.d.def_ 41 (d := d_fraction) rfl
theorem Tx.f_add (T : Tx w K mg) : ∃ fd, FnP K "add" "add" s_add (He.ga K "add") fd := T.c.d.def_ 42 (d := d_add) rfl
theorem Tx.f_less (T : Tx w K mg) : ∃ fd, FnP K "less" "less" s_less (He.ga K "less") fd := T.c.d.def_ 43 (d := d_less) rfl
theorem Tx.f_next_choices (T : Tx w K mg) : ∃ fd, FnP K "next_choices" "next_choices" s_next_choices (He.ga K "next_choices") fd := T.c.d.def_ 44 (d := d_next_choices) rfl
theorem Tx.f_ways_of (T : Tx w K mg) : ∃ fd, FnP K "ways_of" "ways_of" s_ways_of (He.ga K "ways_of") fd := T.c.d.def_ 45 (d := d_ways_of) rfl
theorem Tx.f_chance (T : Tx w K mg) : ∃ fd, FunD K "chance" "chance" (defArgs s_chance) (defBody s_chance) (defScope s_chance) [] [("most", .int 300000)] (He.ga K "chance") fd := T.c.d.def_ 46 (d := d_chance) rfl
theorem Tx.f_advantage (T : Tx w K mg) : ∃ fd, FunD K "advantage" "advantage" (defArgs s_advantage) (defBody s_advantage) (defScope s_advantage) [] [("most", .int 300000)] (He.ga K "advantage") fd := T.c.d.def_ 47 (d := d_advantage) rfl
theorem Tx.f_law_mixed (T : Tx w K mg) : ∃ fd, FnP K "_law_mixed" "_law_mixed" s_law_mixed (He.ga K "_law_mixed") fd := T.c.d.def_ 48 (d := d_law_mixed) rfl
theorem Tx.f_law_tape (T : Tx w K mg) : ∃ fd, FnP K "_law_tape" "_law_tape" s_law_tape (He.ga K "_law_tape") fd := T.c.d.def_ 49 (d := d_law_tape) rfl
theorem Tx.f_law_draw (T : Tx w K mg) : ∃ fd, FnP K "_law_draw" "_law_draw" s_law_draw (He.ga K "_law_draw") fd := T.c.d.def_ 50 (d := d_law_draw) rfl
theorem Tx.f_law_pick (T : Tx w K mg) : ∃ fd, FnP K "_law_pick" "_law_pick" s_law_pick (He.ga K "_law_pick") fd := T.c.d.def_ 51 (d := d_law_pick) rfl
theorem Tx.f_law_bits (T : Tx w K mg) : ∃ fd, FnP K "_law_bits" "_law_bits" s_law_bits (He.ga K "_law_bits") fd := T.c.d.def_ 52 (d := d_law_bits) rfl
theorem Tx.f_law_number (T : Tx w K mg) : ∃ fd, FnP K "_law_number" "_law_number" s_law_number (He.ga K "_law_number") fd := T.c.d.def_ 53 (d := d_law_number) rfl
theorem Tx.f_law_string (T : Tx w K mg) : ∃ fd, FnP K "_law_string" "_law_string" s_law_string (He.ga K "_law_string") fd := T.c.d.def_ 54 (d := d_law_string) rfl
theorem Tx.f_law_fraction (T : Tx w K mg) : ∃ fd, FnP K "_law_fraction" "_law_fraction" s_law_fraction (He.ga K "_law_fraction") fd := T.c.d.def_ 55 (d := d_law_fraction) rfl
theorem Tx.f_law_sum (T : Tx w K mg) : ∃ fd, FnP K "_law_sum" "_law_sum" s_law_sum (He.ga K "_law_sum") fd := T.c.d.def_ 56 (d := d_law_sum) rfl
theorem Tx.f_law_less (T : Tx w K mg) : ∃ fd, FnP K "_law_less" "_law_less" s_law_less (He.ga K "_law_less") fd := T.c.d.def_ 57 (d := d_law_less) rfl
theorem Tx.f_law_times (T : Tx w K mg) : ∃ fd, FnP K "_law_times" "_law_times" s_law_times (He.ga K "_law_times") fd := T.c.d.def_ 58 (d := d_law_times) rfl
theorem Tx.f_law_note (T : Tx w K mg) : ∃ fd, FnP K "_law_note" "_law_note" s_law_note (He.ga K "_law_note") fd := T.c.d.def_ 59 (d := d_law_note) rfl
theorem Tx.f_law_parts (T : Tx w K mg) : ∃ fd, FnP K "_law_parts" "_law_parts" s_law_parts (He.ga K "_law_parts") fd := T.c.d.def_ 60 (d := d_law_parts) rfl
theorem Tx.f_law_say (T : Tx w K mg) : ∃ fd, FnP K "_law_say" "_law_say" s_law_say (He.ga K "_law_say") fd := T.c.d.def_ 61 (d := d_law_say) rfl
theorem Tx.f_law_breaker (T : Tx w K mg) : ∃ fd, FnP K "_law_breaker" "_law_breaker" s_law_breaker (He.ga K "_law_breaker") fd := T.c.d.def_ 62 (d := d_law_breaker) rfl
theorem Tx.f_law_made (T : Tx w K mg) : ∃ fd, FnP K "_law_made" "_law_made" s_law_made (He.ga K "_law_made") fd := T.c.d.def_ 63 (d := d_law_made) rfl
theorem Tx.f_law_silent (T : Tx w K mg) : ∃ fd, FnP K "_law_silent" "_law_silent" s_law_silent (He.ga K "_law_silent") fd := T.c.d.def_ 64 (d := d_law_silent) rfl
theorem Tx.f_law_silent_chance (T : Tx w K mg) : ∃ fd, FnP K "_law_silent_chance" "_law_silent_chance" s_law_silent_chance (He.ga K "_law_silent_chance") fd := T.c.d.def_ 65 (d := d_law_silent_chance) rfl
theorem Tx.f_law_strings (T : Tx w K mg) : ∃ fd, FnP K "_law_strings" "_law_strings" s_law_strings (He.ga K "_law_strings") fd := T.c.d.def_ 66 (d := d_law_strings) rfl
theorem Tx.f_law_generator (T : Tx w K mg) : ∃ fd, FnP K "_law_generator" "_law_generator" s_law_generator (He.ga K "_law_generator") fd := T.c.d.def_ 67 (d := d_law_generator) rfl
theorem Tx.f_law_generator_gain (T : Tx w K mg) : ∃ fd, FnP K "_law_generator_gain" "_law_generator_gain" s_law_generator_gain (He.ga K "_law_generator_gain") fd := T.c.d.def_ 68 (d := d_law_generator_gain) rfl
theorem Tx.f_law_is (T : Tx w K mg) : ∃ fd, FnP K "_law_is" "_law_is" s_law_is (He.ga K "_law_is") fd := T.c.d.def_ 69 (d := d_law_is) rfl
theorem Tx.f_law_longer (T : Tx w K mg) : ∃ fd, FnP K "_law_longer" "_law_longer" s_law_longer (He.ga K "_law_longer") fd := T.c.d.def_ 70 (d := d_law_longer) rfl
theorem Tx.f_law_made_chance (T : Tx w K mg) : ∃ fd, FnP K "_law_made_chance" "_law_made_chance" s_law_made_chance (He.ga K "_law_made_chance") fd := T.c.d.def_ 71 (d := d_law_made_chance) rfl
theorem Tx.f_law (T : Tx w K mg) : ∃ fd, FnP K "law" "law" s_law (He.ga K "law") fd := T.c.d.def_ 72 (d := d_law) rfl
/-! a def, a method, a class by their bodies -/
variable {P : Program} {base : Heap}
theorem calD {x : Str} {st : Stmt} {f : Addr} {fd : FuncData} {N ps : List Str} {k : Nat} {sp : Sp} (F : FnP K x x st f fd) (hm : mg x = some (.ref f)) (b : Binds K fd ps []) (S : FnScope N ps (defScope st)) (len : ∀ vs H Q E, sp vs H Q E → vs.length = ps.length)
    (hbody : ∀ (cdv : Value) (A : Around) (outer : List Env) (s : Shared) (H : Hp) (vs : List V) (Q : VK) (E : XK), Room k (A.deeper (envOfC x (defScope st) s.heap.objs.size f cdv)) → sp vs H Q E →
      ∃ t, PSs (cxOf C8.CX0 P w K mg base N x (defScope st) f cdv A outer s H E).nox (defBody st) t ∧ t { nx := fun _ H' => Q .non H', rt := Q } (start N vs) H) : C8.Cal P w K mg base (k + 1) x sp [] :=
  ⟨f, fd, ps, [], F.ok S len fun cdv A outer s H vs Q E hr h => by
    obtain ⟨t, a, b⟩ := hbody cdv A outer s H vs Q E hr h
    exact ⟨t, a.nox, b⟩, hm, F.kp, b, .nil⟩
theorem metD {m qual : Str} {C : Addr} {st : Stmt} {f : Addr} {fd : FuncData} {N ps : List Str} {k : Nat} {sp : Sp} (c : Cls K C) (me : Meth K C m f) (F : FnP K m qual st f fd) (b : Binds K fd ps []) (S : FnScope N ps (defScope st)) (len : ∀ vs H Q E, sp vs H Q E → vs.length = ps.length)
    (hbody : ∀ (cdv : Value) (A : Around) (outer : List Env) (s : Shared) (H : Hp) (vs : List V) (Q : VK) (E : XK), Room k (A.deeper (envOfC qual (defScope st) s.heap.objs.size f cdv)) → sp vs H Q E →
      ∃ t, PSs (cxOf C8.CX0 P w K mg base N qual (defScope st) f cdv A outer s H E).nox (defBody st) t ∧ t { nx := fun _ H' => Q .non H', rt := Q } (start N vs) H) : C8.Met P w K mg base (k + 1) C m sp [] :=
  ⟨f, fd, ps, [], c, me, F.ok S len fun cdv A outer s H vs Q E hr h => by
    obtain ⟨t, a, b⟩ := hbody cdv A outer s H vs Q E hr h
    exact ⟨t, a.nox, b⟩, b, .nil⟩
theorem makD {x qual : Str} {C : Addr} {st : Stmt} {f : Addr} {fd : FuncData} {N ps : List Str} {k : Nat} {sp : Sp} (M : Mk K C f) (hm : mg x = some (.ref C)) (F : FnP K "__init__" qual st f fd) (b : Binds K fd ps []) (S : FnScope N ps (defScope st)) (len : ∀ vs H Q E, sp vs H Q E → vs.length = ps.length)
    (hbody : ∀ (cdv : Value) (A : Around) (outer : List Env) (s : Shared) (H : Hp) (vs : List V) (Q : VK) (E : XK), Room k (A.deeper (envOfC qual (defScope st) s.heap.objs.size f cdv)) → sp vs H Q E →
      ∃ t, PSs (cxOf C8.CX0 P w K mg base N qual (defScope st) f cdv A outer s H E).nox (defBody st) t ∧ t { nx := fun _ H' => Q .non H', rt := Q } (start N vs) H) : C8.Mak P w K mg base (k + 1) x C sp [] :=
  ⟨f, fd, ps, [], M, F.ok S len fun cdv A outer s H vs Q E hr h => by
    obtain ⟨t, a, b⟩ := hbody cdv A outer s H vs Q E hr h
    exact ⟨t, a.nox, b⟩, hm, b, .nil⟩
end
end Bk

set_option Elab.async false
set_option linter.all false
set_option maxRecDepth 100000
set_option maxHeartbeats 4000000
/-! rules of this proof's own -/
namespace Bk
open PySem PySem.Spec PyProof.Rows L2
/-! ### what is never asked -/
section
variable {X : Cx} {e : Expr}
theorem pe_never : PE X e (fun _ _ _ => False) := ⟨fun _ _ _ _ _ _ h => h.elim⟩
theorem pt_never : PT X e (fun _ _ _ => False) := ⟨fun _ _ _ _ _ _ h => h.elim⟩
theorem pw_never : PW X e (fun _ _ _ => False) := ⟨fun _ _ _ _ _ _ _ h => h.elim⟩
end
/-! ### a class without __init__, made -/
structure Mk0 (K : PySem.W.Frag) (C : Addr) : Prop where
  makes : PySem.W.makesIn K C = true
  init : PySem.W.findIn K (.ref C) "__init__" = some (some (.builtin "object.__init__"))
  kp : PySem.W.keepIn K (.ref C) = true
def tMake0 (C : Addr) : TE := fun _ H Q => ∀ x dx, H x = none → H dx = none → dx ≠ x → Q (.ref x) (upd (upd H dx (.own x)) x (.ins C dx []))
section
variable {X : Cx} {C : Addr} {x : Str} {p pos : Pos}
theorem run_make0 {pins : List (Addr × Obj)} {σ : L2.St} {H : Hp} {s : Shared} {Q : VK} (M : Mk0 X.K C) (I : Inv X pins σ H s) (h : tMake0 C σ H Q) :
    wpAny (model X.prog X.w) X.A (call (.ref C) []) (EP X pins σ Q) X.xe s := by
  have hq := h (s.heap.objs.size + 1) s.heap.objs.size (I.hok.fresh (Nat.le_succ _)) (I.hok.fresh (Nat.le_refl _)) (Nat.ne_of_lt (Nat.lt_succ_self _))
  have I2 := Inv.made (C := C) I
  refine wpAny_call ?_
  refine make_map0 I.kIn M.makes M.init (fun self => PySem.W.Looks.of_pure (PySem.W.oi_bind self)) ?_
  have Y := PySem.W.makes_of (M := model X.prog X.w) I.kIn M.makes
  have e2 : ((s.heap.push PySem.W.emptyDict).push (PySem.W.instObj C s.heap.objs.size)).get? (s.heap.objs.size + 1) = some (PySem.W.instObj C s.heap.objs.size) := by
    have := Heap.get?_push_size (s.heap.push PySem.W.emptyDict) (o := PySem.W.instObj C s.heap.objs.size) rfl
    rwa [Heap.size_push] at this
  have t1 : PySem.W.Looks (model X.prog X.w) ((s.heap.push PySem.W.emptyDict).push (PySem.W.instObj C s.heap.objs.size)) (typeOf (.ref (s.heap.objs.size + 1))) (.ref C) := (PySem.W.Looks.ld e2).andThen .now
  have t2 : PySem.W.Looks (model X.prog X.w) ((s.heap.push PySem.W.emptyDict).push (PySem.W.instObj C s.heap.objs.size)) (isInstance (.ref (s.heap.objs.size + 1)) (.type "object")) true :=
    t1.andThen (Y.top.keeps fun b o e => Heap.get?_push_of_some _ (Heap.get?_push_of_some _ e))
  refine codeAny_call_builtin PySem.W.oi_plain PySem.W.entry_oi (@PySem.W.check_slot (model X.prog X.w) _ _ _ "object.__init__" "object" "__init__" (.ref (s.heap.objs.size + 1)) [] [] _ PySem.W.oi_kind PySem.W.oi_split t2 (PySem.W.oi_args (.ref (s.heap.objs.size + 1))) ?_)
  rw [PySem.W.oi_run]
  exact wpAny_pure (And.intro rfl ⟨V.ref (s.heap.objs.size + 1), _, I2, rfl, hq⟩)
theorem pe_make00 (M : Mk0 X.K C) (hg : Gl X x) (hm : X.mg x = some (.ref C)) (hdb : (x == ("__debug__" : Str)) = false := by decide) : PE X (.Call (.Name x p) [] [] pos) (tMake0 C) := by
  refine ⟨fun pins s σ H Q I h => ?_⟩
  refine wpAny_Call_Name_kw (ld_glob I hg hm ?_ hdb)
  exact PySem.W.callWith_K0 I.kIn M.kp (run_make0 M I h)
end
/-! ### a def that an expression gives, called -/
section
variable {X : Cx} {k j : Nat} {f : Addr} {sp : Sp} {fe e : Expr} {es : List Expr} {tf : TE} {t : TA} {pos : Pos}
def tCallF (f : Addr) (sp : Sp) (tf : TE) (t : TA) : TE := fun σ H Q => tf σ H fun y H1 => y = .ref f ∧ t σ H1 fun vs H2 => sp vs H2 Q C8.E0
theorem pe_callF (c : C8.CalAt X.prog X.w X.K X.mg X.base k f sp) (hr : Room j X.A) (hk : k ≤ j) (hf : PE X fe tf) (ha : PA X (e :: es) t)
    (ht : eval (.Call fe (e :: es) [] pos) X.env = (do callWith pos (← eval fe X.env) [] (backTo pos (starEach (e :: es) X.env)) (backToKw pos (keywordEach [] X.env))) := by rfl)
    (he : starEach (e :: es) X.env = (false, eval e X.env) :: starEach es X.env := by rfl) (hpl : (backTo pos (starEach es X.env)).any (·.1) = false := by rfl) :
    PE X (.Call fe (e :: es) [] pos) (tCallF f sp tf t) := by
  refine ⟨fun pins s σ H Q I h => ?_⟩
  obtain ⟨fd, ps, F, kp, b⟩ := c.ex
  refine Call_ (thn (hf.run pins s σ H _ I h) fun u s1 ⟨y, H1, I1, ry, ey, q⟩ => ?_) ht
  subst ey
  obtain rfl : u = Value.ref f := ry
  refine PySem.W.callWith_K (h₀ := X.base) I.ok.mod.kin kp (thn (ha.run pos pins s1 σ H1 _ I1 q) fun us s2 ⟨vs, H2, I2, r, q2⟩ => ⟨I2.kIn, ?_⟩) he hpl
  exact run_fn F (hr.mono hk) b .nil C8.pass0 I2 r (by rw [List.append_nil]; exact q2)
end
/-! ### the other facts -/
section
variable {w : World} {K : PySem.W.Frag} {mg : Str → Option Value}
theorem Tx.ex_all (T : Tx w K mg) : ex1 K = true ∧ ex2 K = true ∧ ex3 K = true ∧ ex4 K = true ∧ ex5 K = true ∧ ex6 K = true := by
  have h : (ex1 K && (ex2 K && (ex3 K && (ex4 K && (ex5 K && ex6 K))))) = true := T.c.more
  obtain ⟨a, h⟩ := He.ba h
  obtain ⟨b, h⟩ := He.ba h
  obtain ⟨c, h⟩ := He.ba h
  obtain ⟨d, h⟩ := He.ba h
  obtain ⟨e, f⟩ := He.ba h
  exact ⟨a, b, c, d, e, f⟩
theorem Tx.b_gcd (T : Tx w K mg) : mg "gcd" = some (.builtin "math.gcd") := by
  obtain ⟨h, X, G⟩ := T.h
  obtain ⟨a, _⟩ := He.ba (show (He.eqO (PySem.W.nsIn K mainGlobals "gcd") (some (some (.builtin "math.gcd"))) && He.tupB K "PLAIN_WORDS" [.str "say", .str "toss", .str "look", .str "ask"]) = true from T.ex_all.1)
  exact PySem.W.mg_of X G (He.eqO_ok a)
theorem Tx.words (T : Tx w K mg) (H : Hp) : SqT K H (He.ga K "PLAIN_WORDS") [.str "say", .str "toss", .str "look", .str "ask"] := by
  obtain ⟨_, a⟩ := He.ba (show (He.eqO (PySem.W.nsIn K mainGlobals "gcd") (some (some (.builtin "math.gcd"))) && He.tupB K "PLAIN_WORDS" [.str "say", .str "toss", .str "look", .str "ask"]) = true from T.ex_all.1)
  exact He.tupB_ok a H
theorem Tx.kit_Silent (T : Tx w K mg) : PySem.W.kitOne K (.ref (He.ga K "Silent")) (.ref (He.ga K "OnetimeWorld")) = some false := of_decide_eq_true (He.ba T.ex_all.2.1).1
theorem Tx.kit_Notes (T : Tx w K mg) : PySem.W.kitOne K (.ref (He.ga K "Notes")) (.ref (He.ga K "OnetimeWorld")) = some false := of_decide_eq_true (He.ba T.ex_all.2.1).2
theorem Tx.mk0_Silent (T : Tx w K mg) : Mk0 K (He.ga K "Silent") := by
  obtain ⟨a, b⟩ := He.ba T.ex_all.2.2.1
  obtain ⟨b, c⟩ := He.ba b
  exact ⟨a, He.eqO_ok b, c⟩
theorem Tx.runs (T : Tx w K mg) : ∃ es n, KDict K w (He.ga K "RUNS") es n := by
  have e2 : (ts.map fun t => He.dicW K (t.1 K))[0]? = (ts.map fun t => some (He.keysIn w.params t.2))[0]? := by rw [T.c.tab]
  exact He.dicW_ok (Option.some.inj e2)
theorem Tx.sizes (T : Tx w K mg) : ∃ es n, KDict K w (He.ga K "SIZES") es n := by
  have e2 : (ts.map fun t => He.dicW K (t.1 K))[1]? = (ts.map fun t => some (He.keysIn w.params t.2))[1]? := by rw [T.c.tab]
  exact He.dicW_ok (Option.some.inj e2)
theorem Tx.runs_longer (T : Tx w K mg) : ∃ u, PySem.W.nsIn K (He.ga K "RUNS") "longer" = some (some u) ∧ RelV (.ref (He.ga K "run_longer")) u :=
  He.valsB_ok (He.ba T.ex_all.2.2.2.1).1 (q := ("longer", .glo "run_longer")) (List.mem_singleton.mpr rfl)
theorem Tx.sizes_generator (T : Tx w K mg) : ∃ u, PySem.W.nsIn K (He.ga K "SIZES") "generator" = some (some u) ∧ RelV (.int 3) u :=
  He.valsB_ok (He.ba T.ex_all.2.2.2.1).2 (q := ("generator", .int 3)) (List.mem_singleton.mpr rfl)
theorem Tx.runs_none (T : Tx w K mg) : PySem.W.nsIn K (He.ga K "RUNS") "say" = some none ∧ PySem.W.nsIn K (He.ga K "RUNS") "toss" = some none ∧ PySem.W.nsIn K (He.ga K "RUNS") "look" = some none ∧ PySem.W.nsIn K (He.ga K "RUNS") "ask" = some none := by
  obtain ⟨a, h⟩ := He.ba T.ex_all.2.2.2.2.1
  obtain ⟨b, h⟩ := He.ba h
  obtain ⟨c, d⟩ := He.ba h
  exact ⟨He.eqO_ok a, He.eqO_ok b, He.eqO_ok c, He.eqO_ok d⟩
end
/-- the two classes that answer -/
def clsB (K : PySem.W.Frag) : Bool → Addr
  | false => He.ga K "Silent"
  | true => He.ga K "Notes"
theorem Tx.cls_B {w : World} {K : PySem.W.Frag} {mg : Str → Option Value} (T : Tx w K mg) : ∀ b, Cls K (clsB K b)
  | false => T.k_Silent
  | true => T.k_Notes
theorem Tx.kit_B {w : World} {K : PySem.W.Frag} {mg : Str → Option Value} (T : Tx w K mg) : ∀ b, PySem.W.kitOne K (.ref (clsB K b)) (.ref (He.ga K "OnetimeWorld")) = some false
  | false => T.kit_Silent
  | true => T.kit_Notes
theorem Tx.ty_B {w : World} {K : PySem.W.Frag} {mg : Str → Option Value} (T : Tx w K mg) {H : Hp} {a dx : Addr} {fs : List (Str × V)} (b : Bool) (e : H a = some (.ins (clsB K b) dx fs)) : TyX K H (.ref a) (.ref (clsB K b)) := by
  obtain ⟨h1, h⟩ := He.ba T.ex_all.2.2.2.2.2
  obtain ⟨h2, h⟩ := He.ba h
  obtain ⟨h3, h⟩ := He.ba h
  obtain ⟨h4, h⟩ := He.ba h
  obtain ⟨h5, h6⟩ := He.ba h
  cases b with
  | false => exact .base (.ins e T.k_Silent (He.eqO_ok h1) (He.eqO_ok h3) (of_decide_eq_true h4) (of_decide_eq_true h5))
  | true => exact .base (.ins e T.k_Notes (He.eqO_ok h2) (He.eqO_ok h3) (of_decide_eq_true h4) (of_decide_eq_true h6))
/-! ### loops and comprehensions over a string of bits -/
theorem for_strB {x : Bits} {g : TG} {tb : TS} {D : Ends} {σ : L2.St} {H : Hp} (Pv : Nat → L2.St → Hp → Prop) (h0 : Pv 0 σ H)
    (hs : ∀ i b σ H, x[i]? = some b → Pv i σ H → g (.str (St [b])) σ H fun σ2 H2 => tb { D with nx := Pv (i + 1), ct := Pv (i + 1), bk := D.nx } σ2 H2) (hd : ∀ σ H, Pv x.length σ H → D.nx σ H) :
    ∃ W : Nat → Nat → L2.St → Hp → Prop, (∃ m, W 0 m σ H) ∧ ∀ i m σ H, W i m σ H →
      ((Its (St x)).stop i H ∧ D.nx σ H) ∨ ((Its (St x)).go i H ∧ ∃ N : L2.St → Hp → Prop, (∀ σ' H', N σ' H' → ∃ m', m' < m ∧ W (i + 1) m' σ' H') ∧ ∀ y H', (Its (St x)).yld i H y H' → g y σ H' fun σ2 H2 => tb { D with nx := N, ct := N, bk := D.nx } σ2 H2) := by
  refine ⟨fun i m σ H => m = x.length - i ∧ i ≤ x.length ∧ Pv i σ H, ⟨x.length, by simp, Nat.zero_le _, h0⟩, ?_⟩
  rintro i m σ H ⟨rfl, hi, p⟩
  by_cases hlt : i < x.length
  · refine .inr ⟨by show i < (St x).cps.size; rw [St_cpsize]; exact hlt, Pv (i + 1), fun σ' H' p' => ⟨x.length - (i + 1), by omega, rfl, hlt, p'⟩, fun y H' hy => ?_⟩
    obtain ⟨e, c, hc, ey⟩ := hy
    subst e
    obtain ⟨b, hb, ec⟩ := St_cps hc
    rw [ey, ec]
    exact hs i b σ _ hb p
  · have e : i = x.length := by omega
    subst e
    exact .inl ⟨by show (St x).cps.size ≤ x.length; rw [St_cpsize]; exact Nat.le_refl _, hd σ H p⟩
theorem lc_strB {x : Bits} {g : TG} {tt : TT} {te : TE} {vs : List Nat} {σ : L2.St} {H1 : Hp} {D : Addr} {Qd : Hp → Prop} (Pv : Nat → Hp → Prop) (h0 : Pv 0 (upd H1 D (.lst [])))
    (hs : ∀ i b H, x[i]? = some b → Pv i H → g (.str (St [b])) (wipe σ vs) H fun σ2 H2 => wipe σ2 vs = wipe σ vs ∧ tt σ2 H2 fun b H3 =>
      if b = true then te σ2 H3 fun y H4 => ∃ acc, H4 D = some (.lst acc) ∧ acc.length < sizeLine ∧ Pv (i + 1) (upd H4 D (.lst (acc ++ [y]))) else Pv (i + 1) H3) (hd : ∀ H, Pv x.length H → Qd H) :
    ∃ W : Nat → Nat → Hp → Prop, (∃ m, W 0 m (upd H1 D (.lst []))) ∧ ∀ i m H, W i m H →
      ((Its (St x)).stop i H ∧ Qd H) ∨ ((Its (St x)).go i H ∧ ∃ Nx : Hp → Prop, (∀ H', Nx H' → ∃ m', m' < m ∧ W (i + 1) m' H') ∧ ∀ y H', (Its (St x)).yld i H y H' → g y (wipe σ vs) H' fun σ2 H2 => wipe σ2 vs = wipe σ vs ∧ tt σ2 H2 fun b H3 =>
        if b = true then te σ2 H3 fun y H4 => ∃ acc, H4 D = some (.lst acc) ∧ acc.length < sizeLine ∧ Nx (upd H4 D (.lst (acc ++ [y]))) else Nx H3) := by
  refine ⟨fun i m H => m = x.length - i ∧ i ≤ x.length ∧ Pv i H, ⟨x.length, by simp, Nat.zero_le _, h0⟩, ?_⟩
  rintro i m H ⟨rfl, hi, p⟩
  by_cases hlt : i < x.length
  · refine .inr ⟨by show i < (St x).cps.size; rw [St_cpsize]; exact hlt, Pv (i + 1), fun H' p' => ⟨x.length - (i + 1), by omega, rfl, hlt, p'⟩, fun y H' hy => ?_⟩
    obtain ⟨e, c, hc, ey⟩ := hy
    subst e
    obtain ⟨b, hb, ec⟩ := St_cps hc
    rw [ey, ec]
    exact hs i b _ hb p
  · have e : i = x.length := by omega
    subst e
    exact .inl ⟨by show (St x).cps.size ≤ x.length; rw [St_cpsize]; exact Nat.le_refl _, hd H p⟩
end Bk

set_option Elab.async false
set_option linter.all false
set_option maxRecDepth 100000
set_option maxHeartbeats 4000000
namespace Bk
open PySem PySem.Spec PyProof.Rows L2
section
variable {P : Program} {w : World} {K : PySem.W.Frag} {mg : Str → Option Value} {base : Heap}
/-! bits -/
/-- the signs of a number, the lowest first -/
def lsb : Nat → Nat → Bits
  | 0, _ => []
  | n + 1, v => (v % 2 == 1) :: lsb n (v / 2)
theorem lsb_succ : ∀ (n v : Nat), lsb (n + 1) v = lsb n v ++ [v / 2 ^ n % 2 == 1]
  | 0, v => by
    show [v % 2 == 1] = [] ++ [v / 2 ^ 0 % 2 == 1]
    rw [Nat.pow_zero, Nat.div_one, List.nil_append]
  | n + 1, v => by
    show (v % 2 == 1) :: lsb (n + 1) (v / 2) = ((v % 2 == 1) :: lsb n (v / 2)) ++ _
    rw [lsb_succ n (v / 2), Nat.div_div_eq_div_mul, Nat.pow_succ, Nat.mul_comm 2 (2 ^ n)]
    rfl
theorem lsb_bits : ∀ (n v : Nat), (lsb n v).reverse = bitsOf n v
  | 0, _ => rfl
  | n + 1, v => by
    show ((v % 2 == 1) :: lsb n (v / 2)).reverse = bitsOf n (v / 2) ++ [v % 2 == 1]
    rw [List.reverse_cons, lsb_bits n]
theorem lsb_length (n v : Nat) : (lsb n v).length = n := by
  rw [← List.length_reverse, lsb_bits, bitsOf_length]
def spBits : Sp := fun vs H Q _ => ∃ n v : Nat, vs = [.int n, .int v] ∧ n ≤ 40 ∧ ∀ H', Same H H' → Q (.str (St (bitsOf n v))) H'
abbrev n_bits : List Str := ["length", "number", "signs", "_"]
theorem sc_bits : FnScope n_bits ["length", "number"] (defScope s_bits) := ⟨rfl, rfl, rfl, by decide +kernel, rfl, by decide +kernel, by decide +kernel⟩
theorem c_bits (T : Tx w K mg) : C8.Cal P w K mg base 1 "bits" spBits [] := by
  obtain ⟨fd, F⟩ := T.f_bits
  refine calD F T.g_bits (F.bindsN fun _ _ _ _ _ _ us hl => match us, hl with | [_, _], _ => rfl) sc_bits (fun vs H Q E h => ?_) (fun cdv A outer s H vs Q E hr h => ?_)
  · obtain ⟨n, v, rfl, _⟩ := h
    rfl
  obtain ⟨n, v, rfl, hn, q⟩ := h
  refine ⟨_, (pss_cons (ps_set (i := 2) sc_bits.nd rfl (Or.inl rfl) (pe_lst pa_nil))
    (pss_cons (ps_for PassesOwn.never rfl (pi_range1 rfl T.n_range (pa_cons (pv 0) pa_nil)) (pg_name (i := 3) sc_bits.nd rfl (Or.inl rfl))
    (pss_cons (ps_expr (pe_bm PySem.F.plainAttrs_list PySem.F.slot_list_append PySem.F.type_list_append mt_append (pv 2) (pa_cons (pe_ifExp (pt_cmpR op_eq (pe_op op_mod (pv 1) pe_int) pe_int (nomark _)) pe_str pe_str) pa_nil)))
    (pss_one (ps_set (i := 1) sc_bits.nd rfl (Or.inl rfl) (pe_op op_fdiv (pv 1) pe_int)))))
    (pss_one (ps_ret (pe_join pe_str (pe_revL (pv 2))))))), ?_⟩
  refine ⟨Nat.zero_le _, fun l hl => ?_⟩
  refine ⟨_, rfl, (n : Int), rfl, by omega, by omega, ?_⟩
  refine for_range (lo := 0) (n := (n : Int).toNat) (fun i σ H' => ∃ (z : Option V), σ = [some (.int n), some (.int ((v / 2 ^ i : Nat) : Int)), some (.ref l), z] ∧ H' = upd H l (.lst ((lsb i v).map fun b => V.str (St [b])))) ?_ ?_ ?_
  · refine ⟨none, ?_, rfl⟩
    rw [Nat.pow_zero, Nat.div_one]
    rfl
  · rintro i σ H' hi ⟨z, rfl, rfl⟩
    have nx : ∀ b : Bool, (v / 2 ^ i % 2 == 1) = b → ∃ (z : Option V), ([some (.int n), some (.int (((v / 2 ^ i : Nat) : Int) / 2)), some (.ref l), some (.int (0 + (i : Int)))] : L2.St) = [some (.int n), some (.int ((v / 2 ^ (i + 1) : Nat) : Int)), some (.ref l), z] ∧
        upd (upd H l (.lst ((lsb i v).map fun b => V.str (St [b])))) l (.lst (((lsb i v).map fun b => V.str (St [b])) ++ [V.str (St [b])])) = upd H l (.lst ((lsb (i + 1) v).map fun b => V.str (St [b]))) := fun b hb => by
      refine ⟨some (.int (0 + (i : Int))), ?_, ?_⟩
      · rw [Nat.pow_succ, ← Nat.div_div_eq_div_mul]
        rfl
      · rw [upd_upd, lsb_succ, hb, List.map_append]
        rfl
    have hl2 : (((lsb i v).map fun b => V.str (St [b])) : List V).length < sizeLine := by
      rw [List.length_map, lsb_length]
      exact lt1000 (by omega)
    refine ⟨_, rfl, .inl ⟨rfl, _, SqL.of upd_same⟩, _, rfl, _, _, rfl, rfl, (by show (0 : Int) < 2; decide), rfl, _, rfl, ?_⟩
    by_cases hb : v / 2 ^ i % 2 = 1
    · have e : decide (V.int (((v / 2 ^ i : Nat) : Int) % 2) = V.int 1) = true := decide_eq_true (congrArg V.int (by omega))
      show if decide (V.int (((v / 2 ^ i : Nat) : Int) % 2) = V.int 1) = true then _ else _
      rw [e]
      refine iteT ?_
      refine ⟨l, _, _, rfl, rfl, upd_same, hl2, ?_⟩
      refine ⟨_, rfl, _, _, rfl, rfl, ⟨by decide, by decide⟩, ?_⟩
      have q2 := nx true (by rw [hb]; rfl)
      rw [← St_one] at q2
      exact q2
    · have e : decide (V.int (((v / 2 ^ i : Nat) : Int) % 2) = V.int 1) = false := decide_eq_false fun z => hb (by have z2 := V.int.inj z; omega)
      show if decide (V.int (((v / 2 ^ i : Nat) : Int) % 2) = V.int 1) = true then _ else _
      rw [e]
      refine iteF ?_
      refine ⟨l, _, _, rfl, rfl, upd_same, hl2, ?_⟩
      refine ⟨_, rfl, _, _, rfl, rfl, ⟨by decide, by decide⟩, ?_⟩
      have q2 := nx false (beq_false_of_ne hb)
      rw [← St_zero] at q2
      exact q2
  · rintro σ H' ⟨z, rfl, rfl⟩
    refine ⟨⟨_, rfl⟩, _, rfl, l, _, rfl, SqL.of upd_same, fun p hp => ?_⟩
    refine ⟨_, p, (((lsb (n : Int).toNat v).reverse.map fun b => [b]).map St), rfl, rfl, .inl (SqL.of ?_), ?_, ?_⟩
    · rw [upd_same, ← List.map_reverse, List.map_map, List.map_map]
      rfl
    · rw [sum_ones, List.length_map, List.length_map, List.length_reverse, lsb_length]
      show _ + _ * (Str.ofString "").length ≤ _
      rw [St_nil, St_len]
      simp only [Int.toNat_natCast, List.length_nil]
      omega
    · show Q (V.str (Txt.join (Str.ofString "") _)) _
      rw [St_join, flatten_one, lsb_bits]
      exact q _ (same_upd (same_new hl _) hp _)
/-! number_of -/
def spNum : Sp := fun vs H Q _ => ∃ x : Bits, vs = [.str (St x)] ∧ x.length ≤ 40 ∧ Q (.int (num x)) H
abbrev n_number_of : List Str := ["string", "number", "sign"]
theorem sc_number_of : FnScope n_number_of ["string"] (defScope s_number_of) := ⟨rfl, rfl, rfl, by decide +kernel, rfl, by decide +kernel, by decide +kernel⟩
theorem c_number_of (T : Tx w K mg) : C8.Cal P w K mg base 1 "number_of" spNum [] := by
  obtain ⟨fd, F⟩ := T.f_number_of
  refine calD F T.g_number_of (F.bindsN fun _ _ _ _ _ _ us hl => match us, hl with | [_], _ => rfl) sc_number_of (fun vs H Q E h => ?_) (fun cdv A outer s H vs Q E hr h => ?_)
  · obtain ⟨x, rfl, _⟩ := h
    rfl
  obtain ⟨x, rfl, hx, q⟩ := h
  refine ⟨_, (pss_cons (ps_set (i := 1) sc_number_of.nd rfl (Or.inl rfl) pe_int)
    (pss_cons (ps_for PassesOwn.never rfl (pi_str (pv 0)) (pg_name (i := 2) sc_number_of.nd rfl (Or.inl rfl))
    (pss_one (ps_set (i := 1) sc_number_of.nd rfl (Or.inl rfl) (pe_op op_add (pe_op op_mul (pv 1) pe_int) (pe_callTy call_int_str (by rfl) T.n_int (by decide +kernel) (pa_cons (pv 2) pa_nil))))))
    (pss_one (ps_ret (pv 1))))), ?_⟩
  refine ⟨_, rfl, _, rfl, ?_⟩
  refine for_strB (x := x) (fun i σ H' => ∃ (z : Option V), σ = [some (.str (St x)), some (.int ((num (x.take i) : Nat) : Int)), z] ∧ H' = H) ⟨none, rfl, rfl⟩ ?_ ?_
  · rintro i b σ H' hi ⟨z, rfl, rfl⟩
    refine ⟨_, rfl, _, _, rfl, rfl, .inr ⟨by decide, by decide⟩, _, rfl, _, _, rfl, St_int b, by rw [St_len]; exact (by decide : 1 ≤ 640), _, _, rfl, rfl, ?_⟩
    refine ⟨some (.str (St [b])), ?_, rfl⟩
    have e : num (x.take (i + 1)) = num (x.take i) * 2 + (if b then 1 else 0) := by
      rw [List.take_add_one, hi]
      exact num_snoc _ _
    rw [e]
    cases b <;> rfl
  · rintro σ H' ⟨z, rfl, rfl⟩
    rw [List.take_length]
    exact ⟨_, rfl, q⟩
/-! generators as tuples -/
def GenV (H : Hp) (p : Addr) (n m : Nat) (rows : List Bits) : Prop := ∃ q, H p = some (.tup [.str "generator", .int n, .int m, .ref q]) ∧ H q = some (.tup (rows.map fun r => .str (St r)))
theorem GenV.same {H H' : Hp} {p : Addr} {n m : Nat} {rows : List Bits} (g : GenV H p n m rows) (s : Same H H') : GenV H' p n m rows := by
  obtain ⟨q, a, b⟩ := g
  exact ⟨q, s _ _ a, s _ _ b⟩
def spRowAt : Sp := fun vs H Q _ => ∃ (p : Addr) (n m : Nat) (rows : List Bits) (x : Bits), vs = [.ref p, .str (St x)] ∧ GenV H p n m rows ∧ x.length ≤ 40 ∧ num x < rows.length ∧ Q (.str (St (row rows x))) H
abbrev n_row_at : List Str := ["block", "string"]
theorem sc_row_at : FnScope n_row_at ["block", "string"] (defScope s_row_at) := ⟨rfl, rfl, rfl, by decide +kernel, rfl, by decide +kernel, by decide +kernel⟩
theorem c_row_at (T : Tx w K mg) : C8.Cal P w K mg base 2 "row_at" spRowAt [] := by
  obtain ⟨fd, F⟩ := T.f_row_at
  refine calD F T.g_row_at (F.bindsN fun _ _ _ _ _ _ us hl => match us, hl with | [_, _], _ => rfl) sc_row_at (fun vs H Q E h => ?_) (fun cdv A outer s H vs Q E hr h => ?_)
  · obtain ⟨p, n, m, rows, x, rfl, _⟩ := h
    rfl
  obtain ⟨p, n, m, rows, x, rfl, ⟨r, hp, hr'⟩, hx, hn, q⟩ := h
  refine ⟨_, (pss_one (ps_ret (pe_ix (r := rIxT K) ix_tup (pe_ix (r := rIxT K) ix_tup (pv 0) pe_int (fun _ _ => rfl)) (C8.pe_c (c_number_of T) hr (by omega) rfl (pa_cons (pv 1) pa_nil)) (fun _ _ => rfl)))), ?_⟩
  refine ⟨_, rfl, p, _, _, _, rfl, rfl, SqT.of hp, rfl, _, rfl, x, rfl, hx, r, _, _, _, rfl, rfl, SqT.of hr', atI_nat (j := num x) (v := .str (St (row rows x))) ?_, q⟩
  rw [List.getElem?_map, List.getElem?_eq_getElem hn]
  unfold row
  rw [List.getD_eq_getElem?_getD, List.getElem?_eq_getElem hn]
  rfl
/-! put_out -/
def spPutOut : Sp := fun vs H Q _ => ∃ (p : Addr) (n m : Nat) (rows : List Bits) (x : Bits), vs = [.ref p, .str (St x), .int m] ∧ GenV H p n (n + 1) rows ∧ GenOk n rows ∧ x.length = n ∧ n ≤ 20 ∧ m ≤ 20 ∧ Q (.str (St (out rows m x))) H
abbrev n_put_out : List Str := ["block", "state", "many", "out", "_", "row"]
theorem sc_put_out : FnScope n_put_out ["block", "state", "many"] (defScope s_put_out) := ⟨rfl, rfl, rfl, by decide +kernel, rfl, by decide +kernel, by decide +kernel⟩
theorem c_put_out (T : Tx w K mg) : C8.Cal P w K mg base 3 "put_out" spPutOut [] := by
  obtain ⟨fd, F⟩ := T.f_put_out
  refine calD F T.g_put_out (F.bindsN fun _ _ _ _ _ _ us hl => match us, hl with | [_, _, _], _ => rfl) sc_put_out (fun vs H Q E h => ?_) (fun cdv A outer s H vs Q E hr h => ?_)
  · obtain ⟨p, n, m, rows, x, rfl, _⟩ := h
    rfl
  obtain ⟨p, n, m, rows, x, rfl, gv, go, hx, hn, hm, q⟩ := h
  refine ⟨_, (pss_cons (ps_set (i := 3) sc_put_out.nd rfl (Or.inl rfl) pe_str)
    (pss_cons (ps_for PassesOwn.never rfl (pi_range1 rfl T.n_range (pa_cons (pv 2) pa_nil)) (pg_name (i := 4) sc_put_out.nd rfl (Or.inl rfl))
    (pss_cons (ps_set (i := 5) sc_put_out.nd rfl (Or.inl rfl) (C8.pe_c (c_row_at T) hr (by omega) rfl (pa_cons (pv 0) (pa_cons (pv 1) pa_nil))))
    (pss_cons (ps_set (i := 1) sc_put_out.nd rfl (Or.inl rfl) (pe_slice sl_str (pv 5) po_none (po_some (pe_un un_neg pe_int))))
    (pss_one (ps_set (i := 3) sc_put_out.nd rfl (Or.inl rfl) (pe_op op_add_str (pv 3) (pe_ix ix_str (pv 5) (pe_un un_neg pe_int) (fun _ _ => rfl))))))))
    (pss_one (ps_ret (pe_op op_add_str (pv 3) (pv 1)))))), ?_⟩
  refine ⟨_, rfl, (m : Int), rfl, by omega, by omega, ?_⟩
  refine for_range (lo := 0) (n := (m : Int).toNat) (fun i σ H' => ∃ (u v : Option V) (st o : Bits), σ = [some (.ref p), some (.str (St st)), some (.int m), some (.str (St o)), u, v] ∧ H' = H ∧ st.length = n ∧ o.length = i ∧ o ++ out rows (m - i) st = out rows m x) ?_ ?_ ?_
  · exact ⟨none, none, x, [], by rw [← St_nil]; rfl, rfl, hx, rfl, rfl⟩
  · rintro i σ H' hi ⟨u, v, st, o, rfl, rfl, hst, ho, e⟩
    obtain ⟨r, hr1, hr2, hr3⟩ := go.at_ hst
    have hi' : i < m := by simpa using hi
    obtain ⟨k, hk⟩ : ∃ k, m - i = k + 1 := ⟨m - i - 1, by omega⟩
    obtain ⟨s1, s2⟩ := split_last hr3
    refine ⟨_, rfl, _, rfl, p, n, _, rows, st, rfl, gv, by omega, (List.getElem?_eq_some_iff.mp hr1).1, ?_⟩
    rw [hr2]
    refine ⟨_, rfl, _, rfl, _, rfl, _, rfl, by rw [St_len]; exact line1000 (by omega), ?_⟩
    have e1 : V.str (cutS (St r) none (some (-1))) = V.str (St r.dropLast) := by rw [cut_init]
    refine ⟨_, rfl, _, rfl, _, rfl, _, _, cd (r.getLastD false), rfl, rfl, by rw [St_len]; exact line1000 (by omega), ?_, _, _, rfl, rfl, ?_, ?_⟩
    · have := St_last (l := r.dropLast) (b := r.getLastD false)
      rw [← s1] at this
      exact this
    · rw [St_len, St_sign, St_len]
      exact line1000 (by simp only [List.length_cons, List.length_nil]; omega)
    · refine ⟨some (.int (0 + (i : Int))), some (.str (St r)), r.dropLast, o ++ [r.getLastD false], ?_, rfl, s2, ?_, ?_⟩
      · show [some (V.ref p), some (V.str (cutS (St r) none (some (-1)))), some (V.int m), some (V.str (St o ++ St [r.getLastD false])), some (V.int (0 + (i : Int))), some (V.str (St r))] = _
        rw [cut_init, St_append]
      · rw [List.length_append, ho]
        rfl
      · rw [← e, hk, show m - (i + 1) = k by omega, List.append_assoc]
        show o ++ ((r.getLastD false) :: out rows k r.dropLast) = o ++ ((row rows st).getLastD false :: out rows k (row rows st).dropLast)
        rw [hr2]
  · rintro σ H' ⟨u, v, st, o, rfl, rfl, hst, ho, e⟩
    have e0 : m - (m : Int).toNat = 0 := by simp
    rw [e0] at e
    refine ⟨_, rfl, _, rfl, _, _, rfl, rfl, ?_, ?_⟩
    · rw [St_len, St_len]
      have h1 : (m : Int).toNat = m := by simp
      exact line1000 (by omega)
    · have e2 : o ++ st = out rows m x := e
      rw [← e2] at q
      show Q (V.str (St o ++ St st)) _
      rw [St_append]
      exact q
end
end Bk

set_option Elab.async false
set_option linter.all false
set_option maxRecDepth 100000
set_option maxHeartbeats 4000000
namespace Bk
open PySem PySem.Spec PyProof.Rows L2
section
variable {P : Program} {w : World} {K : PySem.W.Frag} {mg : Str → Option Value} {base : Heap}
/-! is_number, of ints -/
def spIsNum : Sp := fun vs H Q _ => ∃ i lo hi : Int, vs = [.int i, .int lo, .int hi] ∧ Q (.bl (decide (lo ≤ i) && decide (i ≤ hi))) H
abbrev n_is_number : List Str := ["value", "least", "most"]
theorem sc_is_number : FnScope n_is_number ["value", "least", "most"] (defScope s_is_number) := ⟨rfl, rfl, rfl, by decide +kernel, rfl, by decide +kernel, by decide +kernel⟩
theorem c_is_number (T : Tx w K mg) : C8.Cal P w K mg base 1 "is_number" spIsNum [] := by
  obtain ⟨fd, F⟩ := T.f_is_number
  refine calD F T.g_is_number (F.bindsN fun _ _ _ _ _ _ us hl => match us, hl with | [_, _, _], _ => rfl) sc_is_number (fun vs H Q E h => ?_) (fun cdv A outer s H vs Q E hr h => ?_)
  · obtain ⟨i, lo, hi, rfl, _⟩ := h
    rfl
  obtain ⟨i, lo, hi, rfl, q⟩ := h
  refine ⟨_, (pss_one (ps_ret (pe_and (pe_callB call_isi (by rfl) T.n_isinstance (by decide +kernel) (pa_cons (pv 0) (pa_cons (pe_bltn (v := .ty "int") (by rfl) T.n_int (by decide +kernel) rfl) pa_nil))) (pe_and (pe_not (pe_callB call_isi (by rfl) T.n_isinstance (by decide +kernel) (pa_cons (pv 0) (pa_cons (pe_bltn (v := .ty "bool") (by rfl) T.n_bool (by decide +kernel) rfl) pa_nil)))) (pe_one (pe_chain op_le op_le (pv 1) (pv 0) (pv 2))))))), ?_⟩
  refine ⟨_, rfl, _, _, _, _, true, rfl, .ty "int", .base (.int i), kit_ty (by decide +kernel), true, rfl, iteT ?_⟩
  refine ⟨_, rfl, _, _, _, _, false, rfl, .ty "bool", .base (.int i), kit_ty (by decide +kernel), false, rfl, true, rfl, iteT ?_⟩
  refine ⟨_, rfl, _, rfl, _, _, rfl, rfl, _, rfl, ?_⟩
  by_cases h1 : lo ≤ i
  · refine ifY h1 ?_
    refine ⟨_, rfl, _, _, rfl, rfl, ?_⟩
    rw [decide_eq_true h1, Bool.true_and] at q
    exact q
  · refine ifN h1 ?_
    rw [decide_eq_false h1, Bool.false_and] at q
    exact q
/-! is_bits -/
def spIsBits : Sp := fun vs H Q _ => (∃ (x : Bits) (n : Int), vs = [.str (St x), .int n] ∧ x.length ≤ 1000 ∧ ∀ H', Same H H' → Q (.bl (decide ((x.length : Int) = n))) H') ∨ (∃ i n : Int, vs = [.int i, .int n] ∧ Q (.bl false) H)
abbrev n_is_bits : List Str := ["value", "length", "sign"]
theorem sc_is_bits : FnScope n_is_bits ["value", "length"] (defScope s_is_bits) := ⟨rfl, rfl, rfl, by decide +kernel, rfl, by decide +kernel, by decide +kernel⟩
theorem c_is_bits (T : Tx w K mg) : C8.Cal P w K mg base 1 "is_bits" spIsBits [] := by
  obtain ⟨fd, F⟩ := T.f_is_bits
  refine calD F T.g_is_bits (F.bindsN fun _ _ _ _ _ _ us hl => match us, hl with | [_, _], _ => rfl) sc_is_bits (fun vs H Q E h => ?_) (fun cdv A outer s H vs Q E hr h => ?_)
  · rcases h with ⟨x, n, rfl, _⟩ | ⟨i, n, rfl, _⟩ <;> rfl
  refine ⟨_, (pss_one (ps_ret (pe_and (pe_callB call_isi (by rfl) T.n_isinstance (by decide +kernel) (pa_cons (pv 0) (pa_cons (pe_bltn (v := .ty "str") (by rfl) T.n_str (by decide +kernel) rfl) pa_nil))) (pe_and (pe_cmpR op_eq (pe_callB call_len_str (by rfl) T.n_len PySem.boot_len (pa_cons (pv 0) pa_nil)) (pv 1) (nomark _)) (pe_one (pe_callB (cr_all rfl) (by rfl) T.n_all (by decide +kernel) (pa_cons (pe_lc (own := [("sign", 2)]) (tt := tYes) rfl sc_is_bits.nd (pi_str (pv 0)) (blkOk_by (own := [("sign", 2)]) (N := n_is_bits) (sc := defScope s_is_bits) (by decide +kernel)) (fun _ _ _ _ _ => (pg_name (i := 2) sc_is_bits.nd rfl (Or.inl rfl))) (fun _ _ _ _ _ => pts_nil) (fun _ _ _ _ _ => (pe_cmpR op_in_sign (pv 2) pe_str (by rfl)))) pa_nil))))))), ?_⟩
  rcases h with ⟨x, n, rfl, hx, q⟩ | ⟨i, n, rfl, q⟩
  · refine ⟨_, rfl, _, _, _, _, true, rfl, .ty "str", .base (.str _), kit_ty (by decide +kernel), true, rfl, iteT ?_⟩
    refine ⟨_, rfl, _, rfl, by rw [St_len]; exact line1000 hx, _, rfl, rfl, _, rfl, ?_⟩
    by_cases h1 : (x.length : Int) = n
    · refine ifY (vint (by rw [St_len]; exact h1)) ?_
      refine ⟨_, rfl, x |> St, rfl, fun D hD => ?_⟩
      refine lc_strB (x := x) (fun i H' => H' = upd H D (.lst (List.replicate i (V.bl true)))) rfl ?_ ?_
      · rintro i b H' hi rfl
        refine ⟨rfl, ?_⟩
        refine ⟨_, rfl, cd b, _, rfl, rfl, _, upd_same, ?_, ?_⟩
        · rw [List.length_replicate]
          have := (List.getElem?_eq_some_iff.mp hi).1
          exact lt1000 (by omega)
        · rw [upd_upd, List.replicate_succ']
          have e : decide (cd b ∈ (Str.ofString "01").cps.toList) = true := by cases b <;> decide +kernel
          show upd H D (.lst (List.replicate i (V.bl true) ++ [V.bl (decide (cd b ∈ (Str.ofString "01").cps.toList))])) = _
          rw [e]
      · rintro H' rfl
        refine ⟨D, List.replicate x.length true, rfl, SqL.of ?_, ?_⟩
        · rw [upd_same, List.map_replicate]
        · have e : (List.replicate x.length true).all id = true := by simp
          rw [e]
          have := q _ (same_new hD (.lst (List.replicate x.length (V.bl true))))
          rw [decide_eq_true h1] at this
          exact this
    · refine ifN (vint_ne (by rw [St_len]; exact h1)) ?_
      have := q _ (Same.refl H)
      rw [decide_eq_false h1] at this
      exact this
  · refine ⟨_, rfl, _, _, _, _, false, rfl, .ty "str", .base (.int _), kit_ty (by decide +kernel), false, rfl, iteF q⟩
/-! is_row: of a right row -/
def spIsRow : Sp := fun vs H Q _ => ∃ (p : Addr) (rows : List Bits) (n m : Int), vs = [.ref p, .int n, .int m] ∧ H p = some (.tup (rows.map fun r => .str (St r))) ∧ rows.length ≤ 1000 ∧ (rows.length : Int) = n ∧ (∀ r ∈ rows, (r.length : Int) = m ∧ r.length ≤ 1000) ∧ ∀ H', Same H H' → Q (.bl true) H'
abbrev n_is_row : List Str := ["value", "many", "length", "one"]
theorem sc_is_row : FnScope n_is_row ["value", "many", "length"] (defScope s_is_row) := ⟨rfl, rfl, rfl, by decide +kernel, rfl, by decide +kernel, by decide +kernel⟩
theorem c_is_row (T : Tx w K mg) : C8.Cal P w K mg base 2 "is_row" spIsRow [] := by
  obtain ⟨fd, F⟩ := T.f_is_row
  refine calD F T.g_is_row (F.bindsN fun _ _ _ _ _ _ us hl => match us, hl with | [_, _, _], _ => rfl) sc_is_row (fun vs H Q E h => ?_) (fun cdv A outer s H vs Q E hr h => ?_)
  · obtain ⟨p, rows, n, m, rfl, _⟩ := h
    rfl
  obtain ⟨p, rows, n, m, rfl, hp, hl, hn, hm, q⟩ := h
  refine ⟨_, (pss_one (ps_ret (pe_and (pe_callB call_isi (by rfl) T.n_isinstance (by decide +kernel) (pa_cons (pv 0) (pa_cons (pe_bltn (v := .ty "tuple") (by rfl) T.n_tuple (by decide +kernel) rfl) pa_nil))) (pe_and (pe_cmpR op_eq (pe_callB call_len_seq (by rfl) T.n_len PySem.boot_len (pa_cons (pv 0) pa_nil)) (pv 1) (nomark _)) (pe_one (pe_callB (cr_all rfl) (by rfl) T.n_all (by decide +kernel) (pa_cons (pe_lc (own := [("one", 3)]) (tt := tYes) rfl sc_is_row.nd (pi_tup (pv 0)) (blkOk_by (own := [("one", 3)]) (N := n_is_row) (sc := defScope s_is_row) (by decide +kernel)) (fun _ _ _ _ _ => (pg_name (i := 3) sc_is_row.nd rfl (Or.inl rfl))) (fun _ _ _ _ _ => pts_nil) (fun _ _ _ _ _ => (C8.pe_c (c_is_bits T) hr (by omega) rfl (pa_cons (pv 3) (pa_cons (pv 2) pa_nil))))) pa_nil))))))), ?_⟩
  refine ⟨_, rfl, _, _, _, _, true, rfl, .ty "tuple", .base (.tup hp), kit_ty (by decide +kernel), true, rfl, iteT ?_⟩
  refine ⟨_, rfl, p, _, rfl, .inr (SqT.of hp), _, rfl, rfl, _, rfl, ?_⟩
  refine ifY (vint (by rw [List.length_map]; exact hn)) ?_
  refine ⟨_, rfl, p, rfl, ⟨_, SqT.of hp⟩, fun D hD => ?_⟩
  refine lc_tup (xs := rows.map fun r => .str (St r)) (fun i H' => Same H H' ∧ H' D = some (.lst (List.replicate i (V.bl true)))) ⟨same_new hD _, upd_same⟩ (fun i H' _ h => SqT.of (h.1 _ _ hp)) ?_ ?_
  · rintro i y H' hi ⟨s1, hL⟩
    rw [List.getElem?_map] at hi
    cases e : rows[i]? with
    | none =>
      rw [e] at hi
      cases hi
    | some r =>
      rw [e] at hi
      have hi : V.str (St r) = y := Option.some.inj hi
      subst hi
      have hr := hm r (List.mem_of_getElem? e)
      refine ⟨rfl, ?_⟩
      refine ⟨_, rfl, _, rfl, .inl ⟨r, m, rfl, hr.2, fun H2 s2 => ?_⟩⟩
      refine ⟨_, s2 _ _ hL, ?_, ?_, ?_⟩
      · rw [List.length_replicate]
        have := (List.getElem?_eq_some_iff.mp e).1
        exact lt1000 (by omega)
      · exact same_put (s1.trans s2) hD _
      · rw [upd_same, List.replicate_succ', decide_eq_true hr.1]
  · rintro H' ⟨s1, hL⟩
    refine ⟨D, List.replicate (rows.map fun r => V.str (St r)).length true, rfl, SqL.of ?_, ?_⟩
    · rw [hL, List.map_replicate]
    · have e : (List.replicate (rows.map fun r => V.str (St r)).length true).all id = true := by simp
      rw [e]
      exact q _ s1
/-! is_generator, check_block: of a right generator -/
structure GenB (n m : Nat) (rows : List Bits) : Prop where
  n1 : 1 ≤ n
  n2 : n ≤ 9
  m1 : 1 ≤ m
  m2 : m ≤ 40
  len : rows.length = 2 ^ n
  row : ∀ r ∈ rows, r.length = m
theorem GenB.small {n m : Nat} {rows : List Bits} (g : GenB n m rows) : rows.length ≤ 1000 := by
  rw [g.len]
  have : 2 ^ n ≤ 2 ^ 9 := Nat.pow_le_pow_right (by decide) g.n2
  omega
def spGen : Sp := fun vs H Q _ => ∃ (p : Addr) (n m : Nat) (rows : List Bits), vs = [.ref p] ∧ GenV H p n m rows ∧ GenB n m rows ∧ ∀ H', Same H H' → Q (.bl true) H'
abbrev n_is_generator : List Str := ["block"]
theorem sc_is_generator : FnScope n_is_generator ["block"] (defScope s_is_generator) := ⟨rfl, rfl, rfl, by decide +kernel, rfl, by decide +kernel, by decide +kernel⟩
theorem c_is_generator (T : Tx w K mg) : C8.Cal P w K mg base 3 "is_generator" spGen [] := by
  obtain ⟨fd, F⟩ := T.f_is_generator
  refine calD F T.g_is_generator (F.bindsN fun _ _ _ _ _ _ us hl => match us, hl with | [_], _ => rfl) sc_is_generator (fun vs H Q E h => ?_) (fun cdv A outer s H vs Q E hr h => ?_)
  · obtain ⟨p, n, m, rows, rfl, _⟩ := h
    rfl
  obtain ⟨p, n, m, rows, rfl, ⟨t, hp, ht⟩, g, q⟩ := h
  refine ⟨_, (pss_cons (ps_if (PW.pt (pw_or (pt_not (pt_val (pe_callB call_isi (by rfl) T.n_isinstance (by decide +kernel) (pa_cons (pv 0) (pa_cons (pe_bltn (v := .ty "tuple") (by rfl) T.n_tuple (by decide +kernel) rfl) pa_nil))))) (pw_or (pt_cmpR op_ne (pe_callB call_len_seq (by rfl) T.n_len PySem.boot_len (pa_cons (pv 0) pa_nil)) pe_int (nomark _)) (pw_or1 (pt_cmpR op_ne (pe_ix (r := rIxT K) ix_tup (pv 0) pe_int (fun _ _ => rfl)) pe_str (nomark _)))))) (pss_one (ps_ret pe_bl)) pss_nil)
    (pss_cons (ps_if (PW.pt (pw_or (pt_not (pt_val (C8.pe_c (c_is_number T) hr (by omega) rfl (pa_cons (pe_ix (r := rIxT K) ix_tup (pv 0) pe_int (fun _ _ => rfl)) (pa_cons pe_int (pa_cons pe_int pa_nil)))))) (pw_or1 (pt_not (pt_val (C8.pe_c (c_is_number T) hr (by omega) rfl (pa_cons (pe_ix (r := rIxT K) ix_tup (pv 0) pe_int (fun _ _ => rfl)) (pa_cons pe_int (pa_cons (C8.pe_gc rfl T.i_MOST_LENGTH) pa_nil))))))))) (pss_one (ps_ret pe_bl)) pss_nil)
    (pss_one (ps_ret (C8.pe_c (c_is_row T) hr (by omega) rfl (pa_cons (pe_ix (r := rIxT K) ix_tup (pv 0) pe_int (fun _ _ => rfl)) (pa_cons (pe_op op_shl pe_int (pe_ix (r := rIxT K) ix_tup (pv 0) pe_int (fun _ _ => rfl))) (pa_cons (pe_ix (r := rIxT K) ix_tup (pv 0) pe_int (fun _ _ => rfl)) pa_nil)))))))), ?_⟩
  refine ⟨_, rfl, _, _, _, _, true, rfl, .ty "tuple", .base (.tup hp), kit_ty (by decide +kernel), true, rfl, iteF ?_⟩
  refine ⟨_, rfl, p, _, rfl, .inr (SqT.of hp), rfl, _, rfl, niY rfl ?_⟩
  refine ⟨_, rfl, p, _, _, _, rfl, rfl, SqT.of hp, rfl, rfl, _, rfl, niY rfl ?_⟩
  refine ⟨_, rfl, p, _, _, _, rfl, rfl, SqT.of hp, rfl, n, 1, 10, rfl, _, rfl, ?_⟩
  have e1 : (decide ((1 : Int) ≤ n) && decide ((n : Int) ≤ 10)) = true := by
    rw [decide_eq_true (by have := g.n1; omega), decide_eq_true (by have := g.n2; omega)] <;> rfl
  rw [e1]
  refine ⟨_, rfl, p, _, _, _, rfl, rfl, SqT.of hp, rfl, m, 1, 40, rfl, _, rfl, ?_⟩
  have e2 : (decide ((1 : Int) ≤ m) && decide ((m : Int) ≤ 40)) = true := by
    rw [decide_eq_true (by have := g.m1; omega), decide_eq_true (by have := g.m2; omega)] <;> rfl
  rw [e2]
  refine ⟨_, rfl, p, _, _, _, rfl, rfl, SqT.of hp, rfl, _, rfl, p, _, _, _, rfl, rfl, SqT.of hp, rfl, _, _, rfl, rfl, ⟨by omega, by have := g.n2; omega, by decide⟩, ?_⟩
  refine ⟨_, rfl, p, _, _, _, rfl, rfl, SqT.of hp, rfl, t, rows, _, _, rfl, ht, g.small, ?_, fun r hr => ⟨by rw [g.row r hr], by rw [g.row r hr]; have := g.m2; omega⟩, q⟩
  rw [g.len]
  show ((2 ^ n : Nat) : Int) = 1 * 2 ^ (n : Int).toNat
  rw [Int.toNat_natCast, Int.one_mul]
  exact Int.natCast_pow 2 n
def spCheckBlock : Sp := fun vs H Q _ => ∃ (p : Addr) (n m : Nat) (rows : List Bits), vs = [.ref p] ∧ GenV H p n m rows ∧ GenB n m rows ∧ ∀ H', Same H H' → Q .non H'
abbrev n_check_block : List Str := ["block"]
theorem sc_check_block : FnScope n_check_block ["block"] (defScope s_check_block) := ⟨rfl, rfl, rfl, by decide +kernel, rfl, by decide +kernel, by decide +kernel⟩
theorem c_check_block (T : Tx w K mg) : C8.Cal P w K mg base 4 "check_block" spCheckBlock [] := by
  obtain ⟨fd, F⟩ := T.f_check_block
  refine calD F T.g_check_block (F.bindsN fun _ _ _ _ _ _ us hl => match us, hl with | [_], _ => rfl) sc_check_block (fun vs H Q E h => ?_) (fun cdv A outer s H vs Q E hr h => ?_)
  · obtain ⟨p, n, m, rows, rfl, _⟩ := h
    rfl
  obtain ⟨p, n, m, rows, rfl, gv, g, q⟩ := h
  refine ⟨_, (pss_one (ps_if (PW.pt (pw_and (pt_not (pt_val (C8.pe_c (c_is_generator T) hr (by omega) rfl (pa_cons (pv 0) pa_nil)))) (pw_and1 (pt_not pt_never)))) (pss_one ps_never) pss_nil)), ?_⟩
  refine ⟨_, rfl, p, n, m, rows, rfl, gv, g, fun H' s' => ⟨_, rfl, iteF (iteF (q H' s'))⟩⟩
end
end Bk

set_option Elab.async false
set_option linter.all false
set_option maxRecDepth 100000
set_option maxHeartbeats 4000000
namespace Bk
open PySem PySem.Spec PyProof.Rows L2
section
variable {P : Program} {w : World} {K : PySem.W.Frag} {mg : Str → Option Value} {base : Heap}
theorem two_pow_int (n : Nat) : (1 : Int) * 2 ^ (n : Int).toNat = ((2 ^ n : Nat) : Int) := by
  rw [Int.toNat_natCast, Int.one_mul]
  exact (Int.natCast_pow 2 n).symm
theorem pow_small {n : Nat} (h : n ≤ 9) : 2 ^ n ≤ 512 := by
  have : 2 ^ n ≤ 2 ^ 9 := Nat.pow_le_pow_right (by decide) h
  omega
theorem pow_pos' (n : Nat) : 1 ≤ 2 ^ n := Nat.one_le_two_pow
theorem range_take_succ {α : Type} (f : Nat → α) (i : Nat) : (List.range (i + 1)).map f = (List.range i).map f ++ [f i] := by
  rw [List.range_succ, List.map_append]
  rfl
theorem GenB.ok {n : Nat} {rows : List Bits} (g : GenB n (n + 1) rows) : GenOk n rows := ⟨g.len, g.row⟩
def spLonger : Sp := fun vs H Q _ => ∃ (p : Addr) (n k : Nat) (rows : List Bits), vs = [.ref p, .int k] ∧ GenV H p n (n + 1) rows ∧ GenB n (n + 1) rows ∧ 1 ≤ k ∧ k ≤ 20 ∧ ∀ p' H', Same H H' → GenV H' p' n (n + k) (longerT n rows k) → Q (.ref p') H'
abbrev n_longer : List Str := ["block", "k", "rows", "seed"]
theorem sc_longer : FnScope n_longer ["block", "k"] (defScope s_longer) := ⟨rfl, rfl, rfl, by decide +kernel, rfl, by decide +kernel, by decide +kernel⟩
theorem c_longer (T : Tx w K mg) : C8.Cal P w K mg base 5 "longer" spLonger [] := by
  obtain ⟨fd, F⟩ := T.f_longer
  refine calD F T.g_longer (F.bindsN fun _ _ _ _ _ _ us hl => match us, hl with | [_, _], _ => rfl) sc_longer (fun vs H Q E h => ?_) (fun cdv A outer s H vs Q E hr h => ?_)
  · obtain ⟨p, n, k, rows, rfl, _⟩ := h
    rfl
  obtain ⟨p, n, k, rows, rfl, gv, g, hk1, hk2, q⟩ := h
  refine ⟨_, (pss_cons (ps_expr (C8.pe_c (c_check_block T) hr (by omega) rfl (pa_cons (pv 0) pa_nil)))
    (pss_cons (ps_if (PW.pt (pw_or (pt_cmpR op_ne (pe_ix (r := rIxT K) ix_tup (pv 0) pe_int (fun _ _ => rfl)) pe_str (nomark _)) (pw_or (pt_cmpR op_ne (pe_ix (r := rIxT K) ix_tup (pv 0) pe_int (fun _ _ => rfl)) (pe_op op_add (pe_ix (r := rIxT K) ix_tup (pv 0) pe_int (fun _ _ => rfl)) pe_int) (nomark _)) (pw_or1 (pt_not (pt_val (C8.pe_c (c_is_number T) hr (by omega) rfl (pa_cons (pv 1) (pa_cons pe_int (pa_cons pe_int pa_nil)))))))))) (pss_one ps_never) pss_nil)
    (pss_cons (ps_setLc (i := 2) (own := [("seed", 3)]) (tt := tYes) rfl sc_longer.nd rfl rfl (sw_true rfl rfl rfl (by decide +kernel)) (pi_range1 rfl T.n_range (pa_cons (pe_op op_shl pe_int (pe_ix (r := rIxT K) ix_tup (pv 0) pe_int (fun _ _ => rfl))) pa_nil)) (blkOk_by (own := [("seed", 3)]) (N := n_longer) (sc := defScope s_longer) (by decide +kernel)) (fun _ _ _ _ _ => (pg_name (i := 3) sc_longer.nd rfl (Or.inl rfl))) (fun _ _ _ _ _ => pts_nil) (fun _ _ _ _ _ => (C8.pe_c (c_put_out T) hr (by omega) rfl (pa_cons (pv 0) (pa_cons (C8.pe_c (c_bits T) hr (by omega) rfl (pa_cons (pe_ix (r := rIxT K) ix_tup (pv 0) pe_int (fun _ _ => rfl)) (pa_cons (pv 3) pa_nil))) (pa_cons (pv 1) pa_nil))))))
    (pss_one (ps_ret (pe_tup (pa_cons pe_str (pa_cons (pe_ix (r := rIxT K) ix_tup (pv 0) pe_int (fun _ _ => rfl)) (pa_cons (pe_op op_add (pe_ix (r := rIxT K) ix_tup (pv 0) pe_int (fun _ _ => rfl)) (pv 1)) (pa_cons (pe_callTy call_tuple_of (by rfl) T.n_tuple (by decide +kernel) (pa_cons (pv 2) pa_nil)) pa_nil)))))))))), ?_⟩
  refine ⟨_, rfl, p, n, n + 1, rows, rfl, gv, g, fun H1 s1 => ?_⟩
  have gv1 := gv.same s1
  obtain ⟨t, hp, ht⟩ := id gv1
  refine ⟨_, rfl, p, _, _, _, rfl, rfl, SqT.of hp, rfl, rfl, _, rfl, niY rfl ?_⟩
  refine ⟨_, rfl, p, _, _, _, rfl, rfl, SqT.of hp, rfl, _, rfl, p, _, _, _, rfl, rfl, SqT.of hp, rfl, _, _, rfl, rfl, rfl, _, rfl, niY (vint (by omega)) ?_⟩
  refine ⟨_, rfl, _, _, _, rfl, _, rfl, ?_⟩
  have e1 : (decide ((1 : Int) ≤ k) && decide ((k : Int) ≤ 20)) = true := by
    rw [decide_eq_true (by omega), decide_eq_true (by omega)] <;> rfl
  rw [e1]
  have hn2 : 2 ^ n ≤ 512 := pow_small g.n2
  refine ⟨_, rfl, p, _, _, _, rfl, rfl, SqT.of hp, rfl, _, _, rfl, rfl, ⟨by omega, by have := g.n2; omega, by decide⟩, ?_⟩
  refine ⟨_, rfl, by rw [two_pow_int]; exact Int.le_trans (by decide) (Int.natCast_nonneg _), by rw [two_pow_int]; omega, fun D hD => ?_⟩
  refine lc_range (lo := 0) (n := ((1 : Int) * 2 ^ (n : Int).toNat).toNat) (fun i H' => Same H1 H' ∧ H' D = some (.lst ((List.range i).map fun v => V.str (St (out rows k (bitsOf n v)))))) ⟨same_new hD _, upd_same⟩ ?_ ?_
  · rintro i H' hi ⟨s2, hL⟩
    have gv2 := gv1.same s2
    obtain ⟨t2, hp2, ht2⟩ := id gv2
    rw [two_pow_int, Int.toNat_natCast] at hi
    refine ⟨rfl, ?_⟩
    refine ⟨_, rfl, _, rfl, p, _, _, _, rfl, rfl, SqT.of hp2, rfl, _, rfl, n, i, ?_, by have := g.n2; omega, fun H3 s3 => ?_⟩
    · show [V.int n, V.int (0 + (i : Int))] = _
      rw [Int.zero_add]
    refine ⟨_, rfl, p, n, k, rows, bitsOf n i, rfl, gv2.same s3, g.ok, bitsOf_length n i, by have := g.n2; omega, hk2, ?_⟩
    refine ⟨_, s3 _ _ hL, ?_, same_put (s2.trans s3) hD _, ?_⟩
    · rw [List.length_map, List.length_range]
      exact lt1000 (by omega)
    · rw [upd_same, range_take_succ]
  · rintro H2 ⟨s2, hL⟩
    rw [two_pow_int, Int.toNat_natCast] at hL
    have gv2 := gv1.same s2
    obtain ⟨t2, hp2, ht2⟩ := id gv2
    refine ⟨_, rfl, p, _, _, _, rfl, rfl, SqT.of hp2, rfl, _, rfl, p, _, _, _, rfl, rfl, SqT.of hp2, rfl, _, rfl, _, _, rfl, rfl, ?_⟩
    refine ⟨_, rfl, D, _, rfl, .inl ⟨SqL.of hL, fun l hl => ?_⟩⟩
    refine ⟨by show 4 ≤ sizeLine; decide, fun p' hp' => ?_⟩
    refine q _ _ (s1.trans (s2.trans (same_upd (same_new hl _) hp' _))) ⟨l, ?_, ?_⟩
    · rw [upd_same]
      show some (HO.tup [.str "generator", .int n, .int ((n : Int) + (k : Int)), .ref l]) = _
      have e : ((n : Int) + (k : Int)) = ((n + k : Nat) : Int) := by omega
      rw [e]
    · rw [upd_ne (ne_of_none upd_same hp'), upd_same]
      unfold longerT bstr
      rw [List.map_map, List.map_map]
      rfl
end
end Bk

set_option Elab.async false
set_option linter.all false
set_option maxRecDepth 100000
set_option maxHeartbeats 4000000
namespace Bk
open PySem PySem.Spec PyProof.Rows L2
section
variable {P : Program} {w : World} {K : PySem.W.Frag} {mg : Str → Option Value} {base : Heap}
/-! ### the law's tape -/
def spMixed : Sp := fun vs H Q _ => ∃ a b : Int, vs = [.int a, .int b] ∧ ∀ z : Int, Q (.int z) H
abbrev n_law_mixed : List Str := ["_law_number_here", "_law_turn", "_law_first", "_law_second"]
theorem sc_law_mixed : FnScope n_law_mixed ["_law_number_here", "_law_turn"] (defScope s_law_mixed) := ⟨rfl, rfl, rfl, by decide +kernel, rfl, by decide +kernel, by decide +kernel⟩
theorem c_law_mixed (T : Tx w K mg) : C8.Cal P w K mg base 1 "_law_mixed" spMixed [] := by
  obtain ⟨fd, F⟩ := T.f_law_mixed
  refine calD F T.g_law_mixed (F.bindsN fun _ _ _ _ _ _ us hl => match us, hl with | [_, _], _ => rfl) sc_law_mixed (fun vs H Q E h => ?_) (fun cdv A outer s H vs Q E hr h => ?_)
  · obtain ⟨a, b, rfl, _⟩ := h
    rfl
  obtain ⟨a, b, rfl, q⟩ := h
  refine ⟨_, (pss_cons (ps_set (i := 2) sc_law_mixed.nd rfl (Or.inl rfl) (pe_op op_mod (pe_callTy call_int1 (by rfl) T.n_int (by decide +kernel) (pa_cons (pe_op op_add (pe_op op_add (pe_op op_mul (pv 0) pe_int) (pe_op op_mul (pv 1) pe_int)) pe_int) pa_nil)) pe_int))
    (pss_cons (ps_set (i := 3) sc_law_mixed.nd rfl (Or.inl rfl) (pe_op op_mod (pe_callTy call_int1 (by rfl) T.n_int (by decide +kernel) (pa_cons (pe_op op_add (pe_op op_add (pe_op op_mul (pv 2) pe_int) (pe_op op_fdiv (pv 2) pe_int)) (pe_op op_mul (pv 1) pe_int)) pa_nil)) pe_int))
    (pss_one (ps_ret (pe_op op_mod (pe_callTy call_int1 (by rfl) T.n_int (by decide +kernel) (pa_cons (pe_op op_add (pe_op op_mul (pv 3) (pv 3)) (pe_op op_fdiv (pv 2) pe_int)) pa_nil)) pe_int))))), ?_⟩
  refine ⟨_, rfl, _, _, rfl, rfl, .inr ⟨by decide, by decide⟩, _, rfl, _, _, rfl, rfl, .inr ⟨by decide, by decide⟩, _, _, rfl, rfl, _, _, rfl, rfl, .inl ⟨_, rfl, _, _, rfl, rfl, (by decide : (0 : Int) < 2147483647), ?_⟩⟩
  refine ⟨_, rfl, _, _, rfl, rfl, .inr ⟨by decide, by decide⟩, _, rfl, _, _, rfl, rfl, ⟨by decide, by decide⟩, _, _, rfl, rfl, _, rfl, _, _, rfl, rfl, .inr ⟨by decide, by decide⟩, _, _, rfl, rfl, .inl ⟨_, rfl, _, _, rfl, rfl, (by decide : (0 : Int) < 1000003), ?_⟩⟩
  refine ⟨_, rfl, _, rfl, _, _, rfl, rfl, .inl ⟨?_, ?_⟩, _, rfl, _, _, rfl, rfl, ⟨by decide, by decide⟩, _, _, rfl, rfl, .inl ⟨_, rfl, _, _, rfl, rfl, (by decide : (0 : Int) < 999983), q _⟩⟩
  · exact Int.lt_of_lt_of_le (by decide) (Int.emod_nonneg _ (by decide))
  · exact Int.lt_trans (Int.emod_lt_of_pos _ (by decide)) (by decide)
/-- the tape's pairs -/
def tapeD (l : Addr) (a g f s t : Int) : List (Key × V) := [(.inr "cells", .ref l), (.inr "at", .int a), (.inr "great", .int g), (.inr "left", .int f), (.inr "seed", .int s), (.inr "turn", .int t)]
section
variable (l : Addr) (a g f s t z : Int)
theorem td_cells : valV (tapeD l a g f s t) (.inr "cells") = some (.ref l) := by kernel_rfl
theorem td_at : valV (tapeD l a g f s t) (.inr "at") = some (.int a) := by kernel_rfl
theorem td_great : valV (tapeD l a g f s t) (.inr "great") = some (.int g) := by kernel_rfl
theorem td_left : valV (tapeD l a g f s t) (.inr "left") = some (.int f) := by kernel_rfl
theorem td_seed : valV (tapeD l a g f s t) (.inr "seed") = some (.int s) := by kernel_rfl
theorem td_turn : valV (tapeD l a g f s t) (.inr "turn") = some (.int t) := by kernel_rfl
theorem tp_at : putK (tapeD l a g f s t) (.inr "at") (.int z) = tapeD l z g f s t := by kernel_rfl
theorem tp_great : putK (tapeD l a g f s t) (.inr "great") (.int z) = tapeD l a z f s t := by kernel_rfl
theorem tp_left : putK (tapeD l a g f s t) (.inr "left") (.int z) = tapeD l a g z s t := by kernel_rfl
theorem tp_seed : putK (tapeD l a g f s t) (.inr "seed") (.int z) = tapeD l a g f z t := by kernel_rfl
theorem tp_turn : putK (tapeD l a g f s t) (.inr "turn") (.int z) = tapeD l a g f s z := by kernel_rfl
end
/-- the law's tape at p: which numbers it holds is left open -/
structure Tp where
  p : Addr
  l : Addr
  ns : List Int
structure LT (H : Hp) (τ : Tp) : Prop where
  ex : ∃ (a g f s t : Int), H τ.p = some (.dK (tapeD τ.l a g f s t)) ∧ H τ.l = some (.lst (τ.ns.map V.int)) ∧ 0 ≤ a
/-- what is no dict stands as it stood -/
def Dr (H H' : Hp) : Prop := ∀ b o, H b = some o → (∀ kvs, o ≠ .dK kvs) → H' b = some o
theorem Dr.refl (H : Hp) : Dr H H := fun _ _ e _ => e
theorem Dr.trans {H H1 H2 : Hp} (a : Dr H H1) (b : Dr H1 H2) : Dr H H2 := fun c o e n => b c o (a c o e n) n
theorem Dr.of {H H' : Hp} (s : Same H H') : Dr H H' := fun b o e _ => s b o e
theorem Dr.lst {H H' : Hp} {p : Addr} {xs : List V} (d : Dr H H') (e : H p = some (.lst xs)) : H' p = some (.lst xs) := d _ _ e fun _ z => by cases z
theorem Dr.tup {H H' : Hp} {p : Addr} {xs : List V} (d : Dr H H') (e : H p = some (.tup xs)) : H' p = some (.tup xs) := d _ _ e fun _ z => by cases z
theorem GenV.dr {H H' : Hp} {p : Addr} {n m : Nat} {rows : List Bits} (g : GenV H p n m rows) (s : Dr H H') : GenV H' p n m rows := by
  obtain ⟨q, a, b⟩ := g
  exact ⟨q, s.tup a, s.tup b⟩
theorem LT.same {H H' : Hp} {τ : Tp} (t : LT H τ) (s : Same H H') : LT H' τ := by
  obtain ⟨a, g, f, z, t, h1, h2, h3⟩ := t.ex
  exact ⟨a, g, f, z, t, s _ _ h1, s _ _ h2, h3⟩
/-- a store elsewhere -/
theorem LT.put {H H' : Hp} {τ : Tp} {D : Addr} (t : LT H τ) (hD : H D = none) (t' : LT H' τ) (o : HO) : LT (upd H' D o) τ := by
  obtain ⟨_, _, _, _, _, e1, e2, _⟩ := t.ex
  obtain ⟨a, g, f, z, t, h1, h2, h3⟩ := t'.ex
  exact ⟨a, g, f, z, t, by rw [upd_ne (ne_of_none e1 hD)]; exact h1, by rw [upd_ne (ne_of_none e2 hD)]; exact h2, h3⟩
theorem Dr.put {H H' : Hp} {D : Addr} (d : Dr H H') (hD : H D = none) (o : HO) : Dr H (upd H' D o) := fun b u e n => by
  rw [upd_ne (ne_of_none e hD)]
  exact d b u e n
/-- the tape's dict is stored anew -/
theorem lt_put {H : Hp} {p l : Addr} {ns : List Int} {a g f s t a' g' f' s' t' : Int} (h1 : H p = some (.dK (tapeD l a g f s t))) (h2 : H l = some (.lst (ns.map V.int))) (ha : 0 ≤ a') :
    LT (upd H p (.dK (tapeD l a' g' f' s' t'))) ⟨p, l, ns⟩ ∧ Dr H (upd H p (.dK (tapeD l a' g' f' s' t'))) := by
  have ne : l ≠ p := ne_of h2 h1 (by intro z; cases z)
  refine ⟨⟨a', g', f', s', t', upd_same, (by show upd H p _ l = _; rw [upd_ne ne]; exact h2), ha⟩, fun b o e n => ?_⟩
  have nb : b ≠ p := fun z => by
    rw [z, h1] at e
    exact n _ (Option.some.inj e).symm
  rw [upd_ne nb]
  exact e
theorem d_get {H : Hp} {p : Addr} {kvs : List (Key × V)} {k : Key} {v : V} (h : H p = some (.dK kvs)) (e : valV kvs k = some v) : DGet H p (kV k) (some v) := .inl ⟨kvs, k, .inl h, rfl, e.symm⟩
theorem d_put {H : Hp} {p : Addr} {kvs kvs' : List (Key × V)} {k : Key} {v : V} (h : H p = some (.dK kvs)) (hl : kvs.length < sizeLine) (e : putK kvs k v = kvs') : DPut H p (kV k) v (upd H p (.dK kvs')) := .inl ⟨kvs, k, h, rfl, hl, by rw [e]⟩
theorem six : 6 < sizeLine := by decide
def spDraw : Sp := fun vs H Q _ => ∃ (τ : Tp) (n : Int), vs = [.ref τ.p, .int n] ∧ 1 ≤ n ∧ LT H τ ∧ ∀ (z : Nat) H', (z : Int) < n → LT H' τ → Dr H H' → Q (.int z) H'
abbrev n_law_draw : List Str := ["_law_tape_here", "_law_many", "_law_cell", "_law_digit"]
theorem sc_law_draw : FnScope n_law_draw ["_law_tape_here", "_law_many"] (defScope s_law_draw) := ⟨rfl, rfl, rfl, by decide +kernel, rfl, by decide +kernel, by decide +kernel⟩
theorem c_law_draw (T : Tx w K mg) : C8.Cal P w K mg base 2 "_law_draw" spDraw [] := by
  obtain ⟨fd, F⟩ := T.f_law_draw
  refine calD F T.g_law_draw (F.bindsN fun _ _ _ _ _ _ us hl => match us, hl with | [_, _], _ => rfl) sc_law_draw (fun vs H Q E h => ?_) (fun cdv A outer s H vs Q E hr h => ?_)
  · obtain ⟨τ, n, rfl, _⟩ := h
    rfl
  obtain ⟨⟨p, l, ns⟩, n, rfl, hn, ⟨a, g, f, z, t, h1, h2, h3⟩, q⟩ := h
  have h1 : H p = some (.dK (tapeD l a g f z t)) := h1
  have h2 : H l = some (.lst (ns.map V.int)) := h2
  refine ⟨_, (pss_cons (ps_dput (hu_of hr) (pv 0) pe_str (pe_op op_add (pe_dget (hu_of hr) (pv 0) pe_str (fun _ _ => rfl)) pe_int) rfl)
    (C8.pss_cut (ps_if (PW.pt (pw_and (pt_cmpR op_eq (pe_dget (hu_of hr) (pv 0) pe_str (fun _ _ => rfl)) pe_int (nomark _)) (pw_and1 (pt_cmpR op_lt (pe_dget (hu_of hr) (pv 0) pe_str (fun _ _ => rfl)) (pe_callB call_len_seq (by rfl) T.n_len PySem.boot_len (pa_cons (pe_dget (hu_of hr) (pv 0) pe_str (fun _ _ => rfl)) pa_nil)) (nomark _))))) (pss_cons (ps_set (i := 2) sc_law_draw.nd rfl (Or.inl rfl) (pe_ix (r := rIxL K) ix_list (pe_dget (hu_of hr) (pv 0) pe_str (fun _ _ => rfl)) (pe_dget (hu_of hr) (pv 0) pe_str (fun _ _ => rfl)) (fun _ _ => rfl)))
    (pss_cons (ps_dput (hu_of hr) (pv 0) pe_str (pe_op op_add (pe_dget (hu_of hr) (pv 0) pe_str (fun _ _ => rfl)) pe_int) rfl)
    (pss_cons (ps_dput (hu_of hr) (pv 0) pe_str (C8.pe_c (c_law_mixed T) hr (by omega) rfl (pa_cons (pe_op op_add (pe_dget (hu_of hr) (pv 0) pe_str (fun _ _ => rfl)) (pv 2)) (pa_cons (pe_dget (hu_of hr) (pv 0) pe_str (fun _ _ => rfl)) pa_nil))) rfl)
    (pss_cons (ps_dput (hu_of hr) (pv 0) pe_str pe_int rfl)
    (pss_one (ps_if (pt_cmpR op_ge (pv 2) (pe_op op_pow pe_int pe_int) (nomark _)) (pss_cons (ps_dput (hu_of hr) (pv 0) pe_str (pv 2) rfl)
    (pss_one (ps_dput (hu_of hr) (pv 0) pe_str pe_int rfl))) pss_nil)))))) pss_nil)
    (C8.pss_cut (ps_if (pt_cmpR op_gt (pe_dget (hu_of hr) (pv 0) pe_str (fun _ _ => rfl)) pe_int (nomark _)) (pss_one (ps_dput (hu_of hr) (pv 0) pe_str (pe_op op_sub (pe_dget (hu_of hr) (pv 0) pe_str (fun _ _ => rfl)) pe_int) rfl)) pss_nil)
    (pss_cons (ps_if (pt_cmpR op_eq (pe_dget (hu_of hr) (pv 0) pe_str (fun _ _ => rfl)) pe_int (nomark _)) (pss_one (ps_ret (pe_op op_mod (pe_callTy call_int1 (by rfl) T.n_int (by decide +kernel) (pa_cons (C8.pe_c (c_law_mixed T) hr (by omega) rfl (pa_cons (pe_dget (hu_of hr) (pv 0) pe_str (fun _ _ => rfl)) (pa_cons (pe_dget (hu_of hr) (pv 0) pe_str (fun _ _ => rfl)) pa_nil))) pa_nil)) (pv 1)))) pss_nil)
    (pss_cons (ps_set (i := 3) sc_law_draw.nd rfl (Or.inl rfl) (pe_op op_mod (pe_callTy call_int1 (by rfl) T.n_int (by decide +kernel) (pa_cons (pe_dget (hu_of hr) (pv 0) pe_str (fun _ _ => rfl)) pa_nil)) pe_int))
    (pss_cons (ps_dput (hu_of hr) (pv 0) pe_str (pe_op op_fdiv (pe_dget (hu_of hr) (pv 0) pe_str (fun _ _ => rfl)) pe_int) rfl)
    (C8.pss_cut (ps_if (PW.pt (pw_or (pt_cmpR op_eq (pe_dget (hu_of hr) (pv 0) pe_str (fun _ _ => rfl)) pe_int (nomark _)) (pw_or1 (pt_cmpR op_eq (pe_dget (hu_of hr) (pv 0) pe_str (fun _ _ => rfl)) pe_int (nomark _))))) (pss_cons (ps_dput (hu_of hr) (pv 0) pe_str pe_int rfl)
    (pss_one (ps_dput (hu_of hr) (pv 0) pe_str pe_int rfl))) pss_nil)
    (pss_one (ps_ret (pe_op op_mod (pe_callTy call_int1 (by rfl) T.n_int (by decide +kernel) (pa_cons (pv 3) pa_nil)) (pv 1))))))))))), ?_⟩
  refine ⟨_, rfl, p, _, rfl, d_get h1 (td_turn ..), _, _, rfl, rfl, _, rfl, p, _, rfl, d_put h1 six (tp_turn ..), ?_⟩
  obtain ⟨⟨a1, g1, f1, z1, t1, k1, k2, k3⟩, dr1⟩ := lt_put (a' := a) (g' := g) (f' := f) (s' := z) (t' := t + 1) h1 h2 h3
  revert k1 k2 dr1
  generalize upd H p (.dK (tapeD l a g f z (t + 1))) = H1
  intro dr1 k1 k2
  have k1 : H1 p = some (.dK (tapeD l a1 g1 f1 z1 t1)) := k1
  have k2 : H1 l = some (.lst (ns.map V.int)) := k2
  -- the next cell
  refine ⟨fun σ H' => ∃ c, σ = [some (.ref p), some (.int n), c, none] ∧ LT H' ⟨p, l, ns⟩ ∧ Dr H H', ?_, ?_⟩
  · refine ⟨_, rfl, p, _, rfl, d_get k1 (td_left ..), rfl, _, rfl, ?_⟩
    by_cases hf : f1 = 0
    · refine ifY (vint hf) ?_
      refine ⟨_, rfl, p, _, rfl, d_get k1 (td_at ..), _, rfl, p, _, rfl, d_get k1 (td_cells ..), l, _, rfl, .inl (SqL.of k2), _, _, rfl, rfl, _, rfl, ?_⟩
      by_cases hat : a1 < ((ns.map V.int).length : Nat)
      · refine ifY hat ?_
        have hat' : a1.toNat < ns.length := by
          rw [List.length_map] at hat
          omega
        have e1 : a1 = ((a1.toNat : Nat) : Int) := by omega
        have hc : atI (ns.map V.int) a1 = some (.int ns[a1.toNat]) := at_of e1 (by rw [List.getElem?_map, List.getElem?_eq_getElem hat'] <;> rfl)
        generalize ns[a1.toNat] = cv at hc
        refine ⟨_, rfl, p, _, rfl, d_get k1 (td_cells ..), _, rfl, p, _, rfl, d_get k1 (td_at ..), l, _, _, _, rfl, rfl, SqL.of k2, hc, ?_⟩
        refine ⟨_, rfl, p, _, rfl, d_get k1 (td_at ..), _, _, rfl, rfl, _, rfl, p, _, rfl, d_put k1 six (tp_at ..), ?_⟩
        obtain ⟨⟨a2, g2, f2, z2, t2, m1, m2, m3⟩, dr2⟩ := lt_put (a' := a1 + 1) (g' := g1) (f' := f1) (s' := z1) (t' := t1) k1 k2 (by omega)
        revert m1 m2 dr2
        generalize upd H1 p (.dK (tapeD l (a1 + 1) g1 f1 z1 t1)) = H2
        intro dr2 m1 m2
        have m1 : H2 p = some (.dK (tapeD l a2 g2 f2 z2 t2)) := m1
        have m2 : H2 l = some (.lst (ns.map V.int)) := m2
        refine ⟨_, rfl, p, _, rfl, d_get m1 (td_seed ..), _, rfl, _, _, rfl, rfl, _, rfl, p, _, rfl, d_get m1 (td_at ..), _, _, rfl, fun zz => ?_⟩
        refine ⟨_, rfl, p, _, rfl, d_put m1 six (tp_seed ..), ?_⟩
        obtain ⟨⟨a3, g3, f3, z3, t3, u1, u2, u3⟩, dr3⟩ := lt_put (a' := a2) (g' := g2) (f' := f2) (s' := zz) (t' := t2) m1 m2 m3
        revert u1 u2 dr3
        generalize upd H2 p (.dK (tapeD l a2 g2 f2 zz t2)) = H3
        intro dr3 u1 u2
        have u1 : H3 p = some (.dK (tapeD l a3 g3 f3 z3 t3)) := u1
        have u2 : H3 l = some (.lst (ns.map V.int)) := u2
        refine ⟨_, rfl, p, _, rfl, d_put u1 six (tp_left ..), ?_⟩
        obtain ⟨⟨a4, g4, f4, z4, t4, v1, v2, v3⟩, dr4⟩ := lt_put (a' := a3) (g' := g3) (f' := 4) (s' := z3) (t' := t3) u1 u2 u3
        revert v1 v2 dr4
        generalize upd H3 p (.dK (tapeD l a3 g3 4 z3 t3)) = H4
        intro dr4 v1 v2
        have v1 : H4 p = some (.dK (tapeD l a4 g4 f4 z4 t4)) := v1
        have v2 : H4 l = some (.lst (ns.map V.int)) := v2
        have dr := dr1.trans (dr2.trans (dr3.trans dr4))
        refine ⟨_, rfl, _, _, rfl, rfl, ⟨by decide, by decide, by decide⟩, _, _, rfl, rfl, _, rfl, ?_⟩
        refine ite2 (fun _ => ?_) (fun _ => ?_)
        · refine ⟨_, rfl, _, rfl, p, _, rfl, d_put v1 six (tp_great ..), ?_⟩
          obtain ⟨⟨a5, g5, f5, z5, t5, w1, w2, w3⟩, dr5⟩ := lt_put (a' := a4) (g' := cv) (f' := f4) (s' := z4) (t' := t4) v1 v2 v3
          refine ⟨_, rfl, p, _, rfl, d_put w1 six (tp_left ..), ?_⟩
          obtain ⟨lt6, dr6⟩ := lt_put (a' := a5) (g' := g5) (f' := 60) (s' := z5) (t' := t5) w1 w2 w3
          exact ⟨_, rfl, lt6, dr.trans (dr5.trans dr6)⟩
        · exact ⟨_, rfl, ⟨a4, g4, f4, z4, t4, v1, v2, v3⟩, dr⟩
      · refine ifN hat ?_
        exact ⟨_, rfl, ⟨a1, g1, f1, z1, t1, k1, k2, k3⟩, dr1⟩
    · refine ifN (vint_ne hf) ?_
      exact ⟨_, rfl, ⟨a1, g1, f1, z1, t1, k1, k2, k3⟩, dr1⟩
  rintro σ H1 ⟨c, rfl, ⟨a1, g1, f1, z1, t1, k1, k2, k3⟩, dr1⟩
  have k1 : H1 p = some (.dK (tapeD l a1 g1 f1 z1 t1)) := k1
  have k2 : H1 l = some (.lst (ns.map V.int)) := k2
  -- what is left
  refine ⟨fun σ H' => σ = [some (.ref p), some (.int n), c, none] ∧ LT H' ⟨p, l, ns⟩ ∧ Dr H H', ?_, ?_⟩
  · refine ⟨_, rfl, p, _, rfl, d_get k1 (td_left ..), _, _, rfl, rfl, _, rfl, ?_⟩
    refine ite2 (fun _ => ?_) (fun _ => ?_)
    · refine ⟨_, rfl, p, _, rfl, d_get k1 (td_left ..), _, _, rfl, rfl, _, rfl, p, _, rfl, d_put k1 six (tp_left ..), ?_⟩
      obtain ⟨lt2, dr2⟩ := lt_put (a' := a1) (g' := g1) (f' := f1 - 1) (s' := z1) (t' := t1) k1 k2 k3
      exact ⟨rfl, lt2, dr1.trans dr2⟩
    · exact ⟨rfl, ⟨a1, g1, f1, z1, t1, k1, k2, k3⟩, dr1⟩
  clear k1 k2 k3 dr1
  rintro σ H1 ⟨rfl, ⟨a1, g1, f1, z1, t1, k1, k2, k3⟩, dr1⟩
  have k1 : H1 p = some (.dK (tapeD l a1 g1 f1 z1 t1)) := k1
  have k2 : H1 l = some (.lst (ns.map V.int)) := k2
  have fin : ∀ (x : Int) H', LT H' ⟨p, l, ns⟩ → Dr H H' → Q (.int (x % n)) H' := fun x H' lt dr => by
    have h0 : 0 ≤ x % n := Int.emod_nonneg _ (by omega)
    have hl : x % n < n := Int.emod_lt_of_pos _ (by omega)
    have e : x % n = (((x % n).toNat : Nat) : Int) := by omega
    rw [e]
    exact q _ _ (by omega) lt dr
  refine ⟨_, rfl, p, _, rfl, d_get k1 (td_great ..), rfl, _, rfl, ?_⟩
  by_cases hg : g1 = 0
  · refine ifY (vint hg) ?_
    refine ⟨_, rfl, p, _, rfl, d_get k1 (td_seed ..), _, rfl, p, _, rfl, d_get k1 (td_turn ..), _, _, rfl, fun zz => .inl ⟨_, rfl, _, rfl, _, _, rfl, rfl, (by show (0 : Int) < n; omega), ?_⟩⟩
    exact fin zz _ ⟨a1, g1, f1, z1, t1, k1, k2, k3⟩ dr1
  refine ifN (vint_ne hg) ?_
  refine ⟨_, rfl, p, _, rfl, d_get k1 (td_great ..), .inl ⟨_, rfl, _, _, rfl, rfl, (by decide : (0 : Int) < 1009), ?_⟩⟩
  refine ⟨_, rfl, p, _, rfl, d_get k1 (td_great ..), _, _, rfl, rfl, ⟨by decide, by decide⟩, _, rfl, p, _, rfl, d_put k1 six (tp_great ..), ?_⟩
  obtain ⟨⟨a2, g2, f2, z2, t2, m1, m2, m3⟩, dr2⟩ := lt_put (a' := a1) (g' := g1 / 1009) (f' := f1) (s' := z1) (t' := t1) k1 k2 k3
  revert m1 m2 dr2
  generalize upd H1 p (.dK (tapeD l a1 (g1 / 1009) f1 z1 t1)) = H2
  intro dr2 m1 m2
  have m1 : H2 p = some (.dK (tapeD l a2 g2 f2 z2 t2)) := m1
  have m2 : H2 l = some (.lst (ns.map V.int)) := m2
  have dr3 := dr1.trans dr2
  refine ⟨fun σ H' => σ = [some (.ref p), some (.int n), c, some (.int (g1 % 1009))] ∧ LT H' ⟨p, l, ns⟩ ∧ Dr H H', ?_, ?_⟩
  · have zero : ∀ {Z : L2.St}, Z = [some (.ref p), some (.int n), c, some (.int (g1 % 1009))] → ∀ (H5 : Hp), LT H5 ⟨p, l, ns⟩ → Dr H H5 → Z = [some (.ref p), some (.int n), c, some (.int (g1 % 1009))] ∧ LT H5 ⟨p, l, ns⟩ ∧ Dr H H5 := fun e _ a b => ⟨e, a, b⟩
    refine ⟨_, rfl, p, _, rfl, d_get m1 (td_great ..), rfl, _, rfl, ?_⟩
    have both : ∃ a : Addr, ∃ H4, V.ref p = .ref a ∧ DPut H2 a (kV (.inr "great")) (.int 0) H4 ∧ (∃ v : V, some (some (V.ref p)) = some (some v) ∧ ∃ (a : Addr) (H5 : Hp), v = .ref a ∧ DPut H4 a (kV (.inr "left")) (.int 0) H5 ∧ LT H5 ⟨p, l, ns⟩ ∧ Dr H H5) := by
      refine ⟨p, _, rfl, d_put m1 six (tp_great ..), ?_⟩
      obtain ⟨⟨a5, g5, f5, z5, t5, w1, w2, w3⟩, dr5⟩ := lt_put (a' := a2) (g' := 0) (f' := f2) (s' := z2) (t' := t2) m1 m2 m3
      obtain ⟨lt6, dr6⟩ := lt_put (a' := a5) (g' := g5) (f' := 0) (s' := z5) (t' := t5) w1 w2 w3
      exact ⟨_, rfl, p, _, rfl, d_put w1 six (tp_left ..), lt6, dr3.trans (dr5.trans dr6)⟩
    obtain ⟨p1, H4, e1, w1, v1, e2, p2, H5, e3, w2, lt5, dr5⟩ := both
    by_cases hg2 : g2 = 0
    · refine ifY (vint hg2) ?_
      exact ⟨_, rfl, p1, H4, e1, w1, v1, e2, p2, H5, e3, w2, rfl, lt5, dr5⟩
    · refine ifN (vint_ne hg2) ?_
      refine ⟨_, rfl, p, _, rfl, d_get m1 (td_left ..), rfl, _, rfl, ?_⟩
      by_cases hf2 : f2 = 0
      · refine ifY (vint hf2) ?_
        exact ⟨_, rfl, p1, H4, e1, w1, v1, e2, p2, H5, e3, w2, rfl, lt5, dr5⟩
      · refine ifN (vint_ne hf2) ?_
        exact ⟨rfl, ⟨a2, g2, f2, z2, t2, m1, m2, m3⟩, dr3⟩
  rintro σ H6 ⟨rfl, lt6, dr6⟩
  exact ⟨_, rfl, .inl ⟨_, rfl, _, rfl, _, _, rfl, rfl, (by show (0 : Int) < n; omega), fin _ _ lt6 dr6⟩⟩
/-! _law_pick -/
def spPick : Sp := fun vs H Q _ => ∃ (τ : Tp) (r : Addr) (xs : List V), vs = [.ref τ.p, .ref r] ∧ LT H τ ∧ H r = some (.lst xs) ∧ 1 ≤ xs.length ∧ ∀ x H', x ∈ xs → LT H' τ → Dr H H' → Q x H'
abbrev n_law_pick : List Str := ["_law_tape_here", "_law_row"]
theorem sc_law_pick : FnScope n_law_pick ["_law_tape_here", "_law_row"] (defScope s_law_pick) := ⟨rfl, rfl, rfl, by decide +kernel, rfl, by decide +kernel, by decide +kernel⟩
theorem c_law_pick (T : Tx w K mg) : C8.Cal P w K mg base 3 "_law_pick" spPick [] := by
  obtain ⟨fd, F⟩ := T.f_law_pick
  refine calD F T.g_law_pick (F.bindsN fun _ _ _ _ _ _ us hl => match us, hl with | [_, _], _ => rfl) sc_law_pick (fun vs H Q E h => ?_) (fun cdv A outer s H vs Q E hr h => ?_)
  · obtain ⟨τ, r, xs, rfl, _⟩ := h
    rfl
  obtain ⟨τ, r, xs, rfl, lt, hx, hl, q⟩ := h
  refine ⟨_, (pss_one (ps_ret (pe_ix (r := rIxL K) ix_list (pv 1) (C8.pe_c (c_law_draw T) hr (by omega) rfl (pa_cons (pv 0) (pa_cons (pe_callB call_len_seq (by rfl) T.n_len PySem.boot_len (pa_cons (pv 1) pa_nil)) pa_nil))) (fun _ _ => rfl)))), ?_⟩
  refine ⟨_, rfl, _, rfl, _, rfl, r, _, rfl, .inl (SqL.of hx), τ, _, rfl, by omega, lt, fun z H' hz lt' dr => ?_⟩
  have hz' : z < xs.length := by omega
  exact ⟨r, xs, _, xs[z], rfl, rfl, SqL.of (dr.lst hx), atI_nat (List.getElem?_eq_getElem hz'), q _ _ (List.getElem_mem hz') lt' dr⟩
end
end Bk

set_option Elab.async false
set_option linter.all false
set_option maxRecDepth 100000
set_option maxHeartbeats 4000000
namespace Bk
open PySem PySem.Spec PyProof.Rows L2
section
variable {P : Program} {w : World} {K : PySem.W.Frag} {mg : Str → Option Value} {base : Heap}
/-! _law_tape -/
def spTape (K : PySem.W.Frag) : Sp := fun vs H Q _ => ∃ (a : Addr) (ns : List Int), vs = [.ref a] ∧ SqL K H a (ns.map V.int) ∧ ∀ τ H', Same H H' → LT H' τ → Q (.ref τ.p) H'
theorem merge_tape (l : Addr) (a g f s t : Int) : mergeK [] (tapeD l a g f s t) = tapeD l a g f s t := by kernel_rfl
abbrev n_law_tape : List Str := ["_law_script"]
theorem sc_law_tape : FnScope n_law_tape ["_law_script"] (defScope s_law_tape) := ⟨rfl, rfl, rfl, by decide +kernel, rfl, by decide +kernel, by decide +kernel⟩
theorem c_law_tape (T : Tx w K mg) : C8.Cal P w K mg base 1 "_law_tape" (spTape K) [] := by
  obtain ⟨fd, F⟩ := T.f_law_tape
  refine calD F T.g_law_tape (F.bindsN fun _ _ _ _ _ _ us hl => match us, hl with | [_], _ => rfl) sc_law_tape (fun vs H Q E h => ?_) (fun cdv A outer s H vs Q E hr h => ?_)
  · obtain ⟨a, ns, rfl, _⟩ := h
    rfl
  obtain ⟨a, ns, rfl, hS, q⟩ := h
  refine ⟨_, (pss_one (ps_ret (pe_disp (pps_cons pe_str (pe_callTy call_list_of (by rfl) T.n_list (by decide +kernel) (pa_cons (pv 0) pa_nil)) (pps_cons pe_str pe_int (pps_cons pe_str pe_int (pps_cons pe_str pe_int (pps_cons pe_str pe_int (pps_cons pe_str pe_int pps_nil)))))) (by rfl) (by rfl) (fun z => by cases z) (by decide)))), ?_⟩
  intro p hp
  refine ⟨_, rfl, a, _, rfl, .inl ((same_new hp _).seq hS), fun l hl => ?_⟩
  have npl : p ≠ l := ne_of_none upd_same hl
  refine ⟨by rw [upd_ne npl, upd_same], tapeD l 0 0 0 7 0, rfl, by show 6 ≤ 15; decide, ?_⟩
  rw [merge_tape]
  refine q ⟨p, l, ns⟩ _ ?_ ⟨0, 0, 0, 7, 0, upd_same, (by show upd _ p _ l = _; rw [upd_ne npl.symm, upd_same]), Int.le_refl 0⟩
  exact same_put ((same_new hp _).trans (same_new hl _)) hp _
/-! _law_bits -/
theorem bitsOf_cons (i v : Nat) : bitsOf (i + 1) v = (v / 2 ^ i % 2 == 1) :: bitsOf i v := by
  rw [← lsb_bits, lsb_succ, List.reverse_append, lsb_bits]
  rfl
theorem str_bit (x : Nat) : (Str.ofString (toString (((x % 2 : Nat)) : Int))) = St [x % 2 == 1] := by
  have h : x % 2 = 0 ∨ x % 2 = 1 := by omega
  rcases h with h | h <;> rw [h] <;> decide +kernel
def spLBits : Sp := fun vs H Q _ => ∃ n v : Nat, vs = [.int n, .int v] ∧ n ≤ 40 ∧ Q (.str (St (bitsOf n v))) H
abbrev n_law_bits : List Str := ["_law_length", "_law_number_here", "_law_found", "_law_k"]
theorem sc_law_bits : FnScope n_law_bits ["_law_length", "_law_number_here"] (defScope s_law_bits) := ⟨rfl, rfl, rfl, by decide +kernel, rfl, by decide +kernel, by decide +kernel⟩
theorem c_law_bits (T : Tx w K mg) : C8.Cal P w K mg base 1 "_law_bits" spLBits [] := by
  obtain ⟨fd, F⟩ := T.f_law_bits
  refine calD F T.g_law_bits (F.bindsN fun _ _ _ _ _ _ us hl => match us, hl with | [_, _], _ => rfl) sc_law_bits (fun vs H Q E h => ?_) (fun cdv A outer s H vs Q E hr h => ?_)
  · obtain ⟨n, v, rfl, _⟩ := h
    rfl
  obtain ⟨n, v, rfl, hn, q⟩ := h
  refine ⟨_, (pss_cons (ps_set (i := 2) sc_law_bits.nd rfl (Or.inl rfl) pe_str)
    (pss_cons (ps_for PassesOwn.never rfl (pi_range1 rfl T.n_range (pa_cons (pv 0) pa_nil)) (pg_name (i := 3) sc_law_bits.nd rfl (Or.inl rfl))
    (pss_one (ps_set (i := 2) sc_law_bits.nd rfl (Or.inl rfl) (pe_op op_add_str (pe_callTy call_str_int (by rfl) T.n_str (by decide +kernel) (pa_cons (pe_op op_mod (pe_callTy call_int1 (by rfl) T.n_int (by decide +kernel) (pa_cons (pe_op op_shr (pv 1) (pv 3)) pa_nil)) pe_int) pa_nil)) (pv 2)))))
    (pss_one (ps_ret (pv 2))))), ?_⟩
  refine ⟨_, rfl, (n : Int), rfl, by omega, by omega, ?_⟩
  refine for_range (lo := 0) (n := (n : Int).toNat) (fun i σ H' => ∃ z : Option V, σ = [some (.int n), some (.int v), some (.str (St (bitsOf i v))), z] ∧ H' = H) ⟨none, by rw [show bitsOf 0 v = [] from rfl, ← St_nil]; rfl, rfl⟩ ?_ ?_
  · rintro i σ H' hi ⟨z, rfl, rfl⟩
    have e1 : ((v : Int) / 2 ^ (0 + (i : Int)).toNat % 2) = ((v / 2 ^ i % 2 : Nat) : Int) := by
      rw [Int.zero_add, Int.toNat_natCast, Int.natCast_emod, Int.natCast_ediv, Int.natCast_pow]
      rfl
    refine ⟨_, rfl, _, rfl, _, _, rfl, rfl, (by show (0 : Int) ≤ 0 + (i : Int); omega), .inl ⟨_, rfl, _, _, rfl, rfl, (by decide : (0 : Int) < 2), _, rfl, ?_, _, rfl, _, _, rfl, rfl, ?_, ?_⟩⟩
    · show ((v : Int) / 2 ^ (0 + (i : Int)).toNat % 2).natAbs.log2 < 1920
      rw [e1, Int.natAbs_natCast]
      have : v / 2 ^ i % 2 = 0 ∨ v / 2 ^ i % 2 = 1 := by omega
      rcases this with h | h <;> rw [h] <;> decide +kernel
    · show (Str.ofString (toString ((v : Int) / 2 ^ (0 + (i : Int)).toNat % 2))).length + _ ≤ _
      rw [e1, str_bit, St_len, St_len, bitsOf_length]
      have : i < n := by simpa using hi
      exact line1000 (by simp only [List.length_cons, List.length_nil]; omega)
    · refine ⟨some (.int (0 + (i : Int))), ?_, rfl⟩
      show [some (V.int n), some (V.int v), some (V.str (Str.ofString (toString ((v : Int) / 2 ^ (0 + (i : Int)).toNat % 2)) ++ St (bitsOf i v))), some (V.int (0 + (i : Int)))] = _
      rw [e1, str_bit, St_append, bitsOf_cons]
      rfl
  · rintro σ H' ⟨z, rfl, rfl⟩
    rw [Int.toNat_natCast]
    exact ⟨_, rfl, q⟩
/-! _law_number -/
abbrev n_law_number : List Str := ["_law_string_here", "_law_found", "_law_sign"]
theorem sc_law_number : FnScope n_law_number ["_law_string_here"] (defScope s_law_number) := ⟨rfl, rfl, rfl, by decide +kernel, rfl, by decide +kernel, by decide +kernel⟩
theorem c_law_number (T : Tx w K mg) : C8.Cal P w K mg base 1 "_law_number" spNum [] := by
  obtain ⟨fd, F⟩ := T.f_law_number
  refine calD F T.g_law_number (F.bindsN fun _ _ _ _ _ _ us hl => match us, hl with | [_], _ => rfl) sc_law_number (fun vs H Q E h => ?_) (fun cdv A outer s H vs Q E hr h => ?_)
  · obtain ⟨x, rfl, _⟩ := h
    rfl
  obtain ⟨x, rfl, hx, q⟩ := h
  refine ⟨_, (pss_cons (ps_set (i := 1) sc_law_number.nd rfl (Or.inl rfl) pe_int)
    (pss_cons (ps_for PassesOwn.never rfl (pi_str (pv 0)) (pg_name (i := 2) sc_law_number.nd rfl (Or.inl rfl))
    (pss_one (ps_set (i := 1) sc_law_number.nd rfl (Or.inl rfl) (pe_op op_add (pe_op op_mul pe_int (pv 1)) (pe_callTy call_int_str (by rfl) T.n_int (by decide +kernel) (pa_cons (pv 2) pa_nil))))))
    (pss_one (ps_ret (pv 1))))), ?_⟩
  refine ⟨_, rfl, _, rfl, ?_⟩
  refine for_strB (x := x) (fun i σ H' => ∃ (z : Option V), σ = [some (.str (St x)), some (.int ((num (x.take i) : Nat) : Int)), z] ∧ H' = H) ⟨none, rfl, rfl⟩ ?_ ?_
  · rintro i b σ H' hi ⟨z, rfl, rfl⟩
    refine ⟨_, rfl, _, _, rfl, rfl, .inl ⟨by decide, by decide⟩, _, rfl, _, _, rfl, St_int b, by rw [St_len]; exact (by decide : 1 ≤ 640), _, _, rfl, rfl, ?_⟩
    refine ⟨some (.str (St [b])), ?_, rfl⟩
    have e : num (x.take (i + 1)) = 2 * num (x.take i) + (if b then 1 else 0) := by
      rw [List.take_add_one, hi, Nat.mul_comm]
      exact num_snoc _ _
    rw [e]
    cases b <;> rfl
  · rintro σ H' ⟨z, rfl, rfl⟩
    rw [List.take_length]
    exact ⟨_, rfl, q⟩
/-! _law_string -/
def spLString : Sp := fun vs H Q _ => ∃ (τ : Tp) (n : Nat), vs = [.ref τ.p, .int n] ∧ n ≤ 40 ∧ LT H τ ∧ ∀ (x : Bits) H', x.length = n → LT H' τ → Dr H H' → Q (.str (St x)) H'
abbrev n_law_string : List Str := ["_law_tape_here", "_law_length", "_law_k"]
theorem sc_law_string : FnScope n_law_string ["_law_tape_here", "_law_length"] (defScope s_law_string) := ⟨rfl, rfl, rfl, by decide +kernel, rfl, by decide +kernel, by decide +kernel⟩
theorem c_law_string (T : Tx w K mg) : C8.Cal P w K mg base 3 "_law_string" spLString [] := by
  obtain ⟨fd, F⟩ := T.f_law_string
  refine calD F T.g_law_string (F.bindsN fun _ _ _ _ _ _ us hl => match us, hl with | [_, _], _ => rfl) sc_law_string (fun vs H Q E h => ?_) (fun cdv A outer s H vs Q E hr h => ?_)
  · obtain ⟨τ, n, rfl, _⟩ := h
    rfl
  obtain ⟨τ, n, rfl, hn, lt, q⟩ := h
  refine ⟨_, (pss_one (ps_ret (pe_join pe_str (pe_lc (own := [("_law_k", 2)]) (tt := tYes) rfl sc_law_string.nd (pi_range1 rfl T.n_range (pa_cons (pv 1) pa_nil)) (blkOk_by (own := [("_law_k", 2)]) (N := n_law_string) (sc := defScope s_law_string) (by decide +kernel)) (fun _ _ _ _ _ => (pg_name (i := 2) sc_law_string.nd rfl (Or.inl rfl))) (fun _ _ _ _ _ => pts_nil) (fun _ _ _ _ _ => (pe_ix ix_str pe_str (C8.pe_c (c_law_draw T) hr (by omega) rfl (pa_cons (pv 0) (pa_cons pe_int pa_nil))) (fun _ _ => rfl))))))), ?_⟩
  refine ⟨⟨_, rfl⟩, _, rfl, (n : Int), rfl, by omega, by omega, fun D hD => ?_⟩
  refine lc_range (lo := 0) (n := (n : Int).toNat) (fun i H' => ∃ x : Bits, x.length = i ∧ LT H' τ ∧ Dr H H' ∧ H' D = some (.lst (x.map fun b => V.str (St [b])))) ⟨[], rfl, lt.same (same_new hD _), .of (same_new hD _), upd_same⟩ ?_ ?_
  · rintro i H' hi ⟨x, hx, lt', dr, hL⟩
    refine ⟨rfl, ?_⟩
    refine ⟨_, rfl, τ, 2, rfl, by decide, lt', fun z H2 hz lt2 dr2 => ?_⟩
    have hz' : z = 0 ∨ z = 1 := by omega
    have e : ∃ b : Bool, atI (Str.ofString "01").cps.toList (z : Int) = some (cd b) := by
      rcases hz' with h | h <;> subst h
      · exact ⟨false, by decide +kernel⟩
      · exact ⟨true, by decide +kernel⟩
    obtain ⟨b, eb⟩ := e
    refine ⟨_, _, _, rfl, rfl, by decide +kernel, eb, ?_⟩
    have hL2 := dr2.lst hL
    have hi' : i < n := by simpa using hi
    refine ⟨_, hL2, ?_, x ++ [b], ?_, lt.put hD lt2 _, (dr.trans dr2).put hD _, ?_⟩
    · rw [List.length_map, hx]
      exact lt1000 (by omega)
    · rw [List.length_append, hx]
      rfl
    · rw [upd_same, List.map_append]
      rfl
  · rintro H' ⟨x, hx, lt', dr, hL⟩
    rw [Int.toNat_natCast] at hx
    refine ⟨_, D, (x.map fun b => [b]).map St, rfl, rfl, .inl (SqL.of ?_), ?_, ?_⟩
    · rw [hL, List.map_map, List.map_map]
      rfl
    · rw [sum_ones, List.length_map, List.length_map]
      show _ + _ * (Str.ofString "").length ≤ _
      rw [St_nil, St_len]
      simp only [List.length_nil]
      omega
    · show Q (V.str (Txt.join (Str.ofString "") _)) _
      rw [St_join, flatten_one]
      exact q _ _ hx lt' dr
/-! _law_strings -/
theorem bstr_take (n i : Nat) : (List.range (i + 1)).map (fun v => V.str (St (bitsOf n v))) = (List.range i).map (fun v => V.str (St (bitsOf n v))) ++ [V.str (St (bitsOf n i))] := range_take_succ _ _
def spLStrings : Sp := fun vs H Q _ => ∃ n : Nat, vs = [.int n] ∧ n ≤ 9 ∧ ∀ l H', Same H H' → H l = none → H' l = some (.lst ((bstr n).map fun x => V.str (St x))) → Q (.ref l) H'
abbrev n_law_strings : List Str := ["_law_length", "_law_number_here"]
theorem sc_law_strings : FnScope n_law_strings ["_law_length"] (defScope s_law_strings) := ⟨rfl, rfl, rfl, by decide +kernel, rfl, by decide +kernel, by decide +kernel⟩
theorem c_law_strings (T : Tx w K mg) : C8.Cal P w K mg base 2 "_law_strings" spLStrings [] := by
  obtain ⟨fd, F⟩ := T.f_law_strings
  refine calD F T.g_law_strings (F.bindsN fun _ _ _ _ _ _ us hl => match us, hl with | [_], _ => rfl) sc_law_strings (fun vs H Q E h => ?_) (fun cdv A outer s H vs Q E hr h => ?_)
  · obtain ⟨n, rfl, _⟩ := h
    rfl
  obtain ⟨n, rfl, hn, q⟩ := h
  have hn2 := pow_small hn
  refine ⟨_, (pss_one (ps_ret (pe_lc (own := [("_law_number_here", 1)]) (tt := tYes) rfl sc_law_strings.nd (pi_range1 rfl T.n_range (pa_cons (pe_op op_shl pe_int (pv 0)) pa_nil)) (blkOk_by (own := [("_law_number_here", 1)]) (N := n_law_strings) (sc := defScope s_law_strings) (by decide +kernel)) (fun _ _ _ _ _ => (pg_name (i := 1) sc_law_strings.nd rfl (Or.inl rfl))) (fun _ _ _ _ _ => pts_nil) (fun _ _ _ _ _ => (C8.pe_c (c_law_bits T) hr (by omega) rfl (pa_cons (pv 0) (pa_cons (pv 1) pa_nil))))))), ?_⟩
  refine ⟨_, rfl, _, _, rfl, rfl, ⟨by omega, by omega, by decide⟩, _, rfl, by rw [two_pow_int]; exact Int.le_trans (by decide) (Int.natCast_nonneg _), by rw [two_pow_int]; omega, fun D hD => ?_⟩
  refine lc_range (lo := 0) (n := ((1 : Int) * 2 ^ (n : Int).toNat).toNat) (fun i H' => Same H H' ∧ H' D = some (.lst ((List.range i).map fun v => V.str (St (bitsOf n v))))) ⟨same_new hD _, upd_same⟩ ?_ ?_
  · rintro i H' hi ⟨s1, hL⟩
    rw [two_pow_int, Int.toNat_natCast] at hi
    refine ⟨rfl, ?_⟩
    refine ⟨_, rfl, _, rfl, n, i, ?_, by omega, ?_⟩
    · show [V.int n, V.int (0 + (i : Int))] = _
      rw [Int.zero_add]
    refine ⟨_, hL, ?_, same_put s1 hD _, ?_⟩
    · rw [List.length_map, List.length_range]
      exact lt1000 (by omega)
    · rw [upd_same, bstr_take]
  · rintro H' ⟨s1, hL⟩
    rw [two_pow_int, Int.toNat_natCast] at hL
    refine q D _ s1 hD ?_
    rw [hL]
    unfold bstr
    rw [List.map_map]
    rfl
/-! _law_generator -/
def spLGen : Sp := fun vs H Q _ => ∃ (τ : Tp) (n m : Nat), vs = [.ref τ.p, .int n, .int m] ∧ n ≤ 9 ∧ m ≤ 40 ∧ LT H τ ∧ ∀ (p : Addr) (rows : List Bits) H', GenV H' p n m rows → rows.length = 2 ^ n → (∀ r ∈ rows, r.length = m) → LT H' τ → Dr H H' → Q (.ref p) H'
abbrev n_law_generator : List Str := ["_law_tape_here", "_law_n", "_law_m", "_law_k"]
theorem sc_law_generator : FnScope n_law_generator ["_law_tape_here", "_law_n", "_law_m"] (defScope s_law_generator) := ⟨rfl, rfl, rfl, by decide +kernel, rfl, by decide +kernel, by decide +kernel⟩
theorem c_law_generator (T : Tx w K mg) : C8.Cal P w K mg base 4 "_law_generator" spLGen [] := by
  obtain ⟨fd, F⟩ := T.f_law_generator
  refine calD F T.g_law_generator (F.bindsN fun _ _ _ _ _ _ us hl => match us, hl with | [_, _, _], _ => rfl) sc_law_generator (fun vs H Q E h => ?_) (fun cdv A outer s H vs Q E hr h => ?_)
  · obtain ⟨τ, n, m, rfl, _⟩ := h
    rfl
  obtain ⟨τ, n, m, rfl, hn, hm, lt, q⟩ := h
  have hn2 := pow_small hn
  refine ⟨_, (pss_one (ps_ret (pe_tup (pa_cons pe_str (pa_cons (pv 1) (pa_cons (pv 2) (pa_cons (pe_callTy call_tuple_of (by rfl) T.n_tuple (by decide +kernel) (pa_cons (pe_lc (own := [("_law_k", 3)]) (tt := tYes) rfl sc_law_generator.nd (pi_range1 rfl T.n_range (pa_cons (pe_op op_shl pe_int (pv 1)) pa_nil)) (blkOk_by (own := [("_law_k", 3)]) (N := n_law_generator) (sc := defScope s_law_generator) (by decide +kernel)) (fun _ _ _ _ _ => (pg_name (i := 3) sc_law_generator.nd rfl (Or.inl rfl))) (fun _ _ _ _ _ => pts_nil) (fun _ _ _ _ _ => (C8.pe_c (c_law_string T) hr (by omega) rfl (pa_cons (pv 0) (pa_cons (pv 2) pa_nil))))) pa_nil)) pa_nil))))))), ?_⟩
  refine ⟨_, rfl, _, rfl, _, rfl, _, _, rfl, rfl, ⟨by omega, by omega, by decide⟩, _, rfl, by rw [two_pow_int]; exact Int.le_trans (by decide) (Int.natCast_nonneg _), by rw [two_pow_int]; omega, fun D hD => ?_⟩
  refine lc_range (lo := 0) (n := ((1 : Int) * 2 ^ (n : Int).toNat).toNat) (fun i H' => ∃ rows : List Bits, rows.length = i ∧ (∀ r ∈ rows, r.length = m) ∧ LT H' τ ∧ Dr H H' ∧ H' D = some (.lst (rows.map fun r => V.str (St r)))) ⟨[], rfl, (fun r hr => (List.not_mem_nil hr).elim), lt.same (same_new hD _), .of (same_new hD _), upd_same⟩ ?_ ?_
  · rintro i H' hi ⟨rows, h1, h2, lt', dr, hL⟩
    rw [two_pow_int, Int.toNat_natCast] at hi
    refine ⟨rfl, ?_⟩
    refine ⟨_, rfl, _, rfl, τ, m, rfl, hm, lt', fun x H2 hx lt2 dr2 => ?_⟩
    refine ⟨_, dr2.lst hL, ?_, rows ++ [x], ?_, ?_, lt.put hD lt2 _, (dr.trans dr2).put hD _, ?_⟩
    · rw [List.length_map, h1]
      exact lt1000 (by omega)
    · rw [List.length_append, h1]
      rfl
    · intro r hr
      rcases List.mem_append.mp hr with hr | hr
      · exact h2 r hr
      · rw [List.mem_singleton.mp hr]
        exact hx
    · rw [upd_same, List.map_append]
      rfl
  · rintro H' ⟨rows, h1, h2, lt', dr, hL⟩
    rw [two_pow_int, Int.toNat_natCast] at h1
    refine ⟨D, _, rfl, .inl ⟨SqL.of hL, fun l hl => ?_⟩⟩
    refine ⟨by show 4 ≤ sizeLine; decide, fun p hp => ?_⟩
    have sm : Same H' (upd (upd H' l (.tup (rows.map fun r => V.str (St r)))) p (.tup [.str "generator", .int n, .int m, .ref l])) := same_upd (same_new hl _) hp _
    refine q p rows _ ⟨l, upd_same, ?_⟩ h1 h2 (lt'.same sm) (dr.trans (.of sm))
    rw [upd_ne (ne_of_none upd_same hp), upd_same]
/-! _law_made, made_string -/
def Part.v : Part → V
  | .bit b => .str (St [b])
  | .num n => .int n
def spMade : Sp := fun vs H Q _ => ∃ (p : Addr) (ps : List Part) (x : Bits), vs = [.ref p, .str (St x)] ∧ H p = some (.tup (ps.map Part.v)) ∧ ps.length ≤ 1000 ∧ x.length ≤ 1000 ∧ Q (.str (St (made ps x))) H
theorem made_take {ps : List Part} {i : Nat} {pt : Part} (x : Bits) (h : ps[i]? = some pt) : made (ps.take (i + 1)) x = made (ps.take i) x ++ [pt.val x] := by
  unfold made
  rw [List.take_add_one, h, List.map_append]
  rfl
abbrev n_law_made : List Str := ["_law_parts_here", "_law_handed", "_law_found", "_law_part"]
theorem sc_law_made : FnScope n_law_made ["_law_parts_here", "_law_handed"] (defScope s_law_made) := ⟨rfl, rfl, rfl, by decide +kernel, rfl, by decide +kernel, by decide +kernel⟩
theorem c_law_made (T : Tx w K mg) : C8.Cal P w K mg base 1 "_law_made" spMade [] := by
  obtain ⟨fd, F⟩ := T.f_law_made
  refine calD F T.g_law_made (F.bindsN fun _ _ _ _ _ _ us hl => match us, hl with | [_, _], _ => rfl) sc_law_made (fun vs H Q E h => ?_) (fun cdv A outer s H vs Q E hr h => ?_)
  · obtain ⟨p, ps, x, rfl, _⟩ := h
    rfl
  obtain ⟨p, ps, x, rfl, hp, hl, hx, q⟩ := h
  refine ⟨_, (pss_cons (ps_set (i := 2) sc_law_made.nd rfl (Or.inl rfl) pe_str)
    (pss_cons (ps_for PassesOwn.never rfl (pi_tup (pv 0)) (pg_name (i := 3) sc_law_made.nd rfl (Or.inl rfl))
    (pss_one (ps_if (pt_val (pe_callB call_isi (by rfl) T.n_isinstance (by decide +kernel) (pa_cons (pv 3) (pa_cons (pe_bltn (v := .ty "str") (by rfl) T.n_str (by decide +kernel) rfl) pa_nil)))) (pss_one (ps_set (i := 2) sc_law_made.nd rfl (Or.inl rfl) (pe_op op_add_str (pv 2) (pv 3)))) (pss_one (ps_if (pt_cmpR op_lt (pv 3) (pe_callB call_len_str (by rfl) T.n_len PySem.boot_len (pa_cons (pv 1) pa_nil)) (nomark _)) (pss_one (ps_set (i := 2) sc_law_made.nd rfl (Or.inl rfl) (pe_op op_add_str (pv 2) (pe_ix ix_str (pv 1) (pv 3) (fun _ _ => rfl))))) (pss_one (ps_set (i := 2) sc_law_made.nd rfl (Or.inl rfl) (pe_op op_add_str (pv 2) pe_str))))))))
    (pss_one (ps_ret (pv 2))))), ?_⟩
  refine ⟨_, rfl, p, rfl, ⟨_, SqT.of hp⟩, ?_⟩
  refine for_tup (xs := ps.map Part.v) (fun i σ H' => ∃ z : Option V, σ = [some (.ref p), some (.str (St x)), some (.str (St (made (ps.take i) x))), z] ∧ H' = H) ⟨none, by rw [show made (ps.take 0) x = [] from rfl, ← St_nil]; rfl, rfl⟩ (fun i σ H' _ h => by obtain ⟨_, _, rfl⟩ := h; exact SqT.of hp) ?_ ?_
  · rintro i y σ H' hi ⟨z, rfl, rfl⟩
    rw [List.getElem?_map] at hi
    cases e : ps[i]? with
    | none =>
      rw [e] at hi
      cases hi
    | some pt =>
      rw [e] at hi
      have hi : pt.v = y := Option.some.inj hi
      subst hi
      have hil := (List.getElem?_eq_some_iff.mp e).1
      have lm : (made (ps.take i) x).length ≤ 999 := by
        unfold made
        rw [List.length_map, List.length_take]
        omega
      have room : ∀ b : Bool, (St (made (ps.take i) x)).length + (St [b]).length ≤ sizeLine := fun b => by
        rw [St_len, St_len]
        exact line1000 (by simp only [List.length_cons, List.length_nil]; omega)
      have nx : ∀ (b : Bool), pt.val x = b → ∃ z : Option V, ([some (.ref p), some (.str (St x)), some (.str (St (made (ps.take i) x) ++ St [b])), some pt.v] : L2.St) = [some (.ref p), some (.str (St x)), some (.str (St (made (ps.take (i + 1)) x))), z] ∧ H' = H' := fun b hb => by
        refine ⟨some pt.v, ?_, rfl⟩
        rw [made_take x e, hb, St_append]
      cases pt with
      | bit b =>
        refine ⟨_, rfl, _, _, _, _, true, rfl, .ty "str", .base (.str _), kit_ty (by decide +kernel), true, rfl, ?_⟩
        exact ⟨_, rfl, _, rfl, _, _, rfl, rfl, room b, nx b rfl⟩
      | num n =>
        refine ⟨_, rfl, _, _, _, _, false, rfl, .ty "str", .base (.int _), kit_ty (by decide +kernel), false, rfl, ?_⟩
        refine ⟨_, rfl, _, rfl, _, rfl, by rw [St_len]; exact line1000 hx, _, _, rfl, rfl, _, rfl, ?_⟩
        by_cases hn : n < x.length
        · refine ifY (by rw [St_len]; omega) ?_
          have hg : x[n]? = some x[n] := List.getElem?_eq_getElem hn
          refine ⟨_, rfl, _, rfl, _, rfl, _, _, _, rfl, rfl, by rw [St_len]; exact line1000 hx, St_atI hg, _, _, rfl, rfl, room _, nx _ ?_⟩
          show x.getD n false = _
          rw [List.getD_eq_getElem?_getD, hg]
          rfl
        · refine ifN (by rw [St_len]; omega) ?_
          refine ⟨_, rfl, _, _, rfl, rfl, by rw [St_zero]; exact room _, ?_⟩
          have q2 := nx false (by show x.getD n false = false; rw [List.getD_eq_getElem?_getD, List.getElem?_eq_none (by omega)] <;> rfl)
          rw [← St_zero] at q2
          exact q2
  · rintro σ H' ⟨z, rfl, rfl⟩
    rw [List.length_map, List.take_length]
    exact ⟨_, rfl, q⟩
abbrev n_made_string : List Str := ["parts", "handed", "found", "part"]
theorem sc_made_string : FnScope n_made_string ["parts", "handed"] (defScope s_made_string) := ⟨rfl, rfl, rfl, by decide +kernel, rfl, by decide +kernel, by decide +kernel⟩
theorem c_made_string (T : Tx w K mg) : C8.Cal P w K mg base 1 "made_string" spMade [] := by
  obtain ⟨fd, F⟩ := T.f_made_string
  refine calD F T.g_made_string (F.bindsN fun _ _ _ _ _ _ us hl => match us, hl with | [_, _], _ => rfl) sc_made_string (fun vs H Q E h => ?_) (fun cdv A outer s H vs Q E hr h => ?_)
  · obtain ⟨p, ps, x, rfl, _⟩ := h
    rfl
  obtain ⟨p, ps, x, rfl, hp, hl, hx, q⟩ := h
  refine ⟨_, (pss_cons (ps_set (i := 2) sc_made_string.nd rfl (Or.inl rfl) pe_str)
    (pss_cons (ps_for PassesOwn.never rfl (pi_tup (pv 0)) (pg_name (i := 3) sc_made_string.nd rfl (Or.inl rfl))
    (pss_one (ps_if (pt_val (pe_callB call_isi (by rfl) T.n_isinstance (by decide +kernel) (pa_cons (pv 3) (pa_cons (pe_bltn (v := .ty "str") (by rfl) T.n_str (by decide +kernel) rfl) pa_nil)))) (pss_one (ps_set (i := 2) sc_made_string.nd rfl (Or.inl rfl) (pe_op op_add_str (pv 2) (pv 3)))) (pss_one (ps_set (i := 2) sc_made_string.nd rfl (Or.inl rfl) (pe_op op_add_str (pv 2) (pe_ifExp (pt_cmpR op_lt (pv 3) (pe_callB call_len_str (by rfl) T.n_len PySem.boot_len (pa_cons (pv 1) pa_nil)) (nomark _)) (pe_ix ix_str (pv 1) (pv 3) (fun _ _ => rfl)) pe_str)))))))
    (pss_one (ps_ret (pv 2))))), ?_⟩
  refine ⟨_, rfl, p, rfl, ⟨_, SqT.of hp⟩, ?_⟩
  refine for_tup (xs := ps.map Part.v) (fun i σ H' => ∃ z : Option V, σ = [some (.ref p), some (.str (St x)), some (.str (St (made (ps.take i) x))), z] ∧ H' = H) ⟨none, by rw [show made (ps.take 0) x = [] from rfl, ← St_nil]; rfl, rfl⟩ (fun i σ H' _ h => by obtain ⟨_, _, rfl⟩ := h; exact SqT.of hp) ?_ ?_
  · rintro i y σ H' hi ⟨z, rfl, rfl⟩
    rw [List.getElem?_map] at hi
    cases e : ps[i]? with
    | none =>
      rw [e] at hi
      cases hi
    | some pt =>
      rw [e] at hi
      have hi : pt.v = y := Option.some.inj hi
      subst hi
      have hil := (List.getElem?_eq_some_iff.mp e).1
      have lm : (made (ps.take i) x).length ≤ 999 := by
        unfold made
        rw [List.length_map, List.length_take]
        omega
      have room : ∀ b : Bool, (St (made (ps.take i) x)).length + (St [b]).length ≤ sizeLine := fun b => by
        rw [St_len, St_len]
        exact line1000 (by simp only [List.length_cons, List.length_nil]; omega)
      have nx : ∀ (b : Bool), pt.val x = b → ∃ z : Option V, ([some (.ref p), some (.str (St x)), some (.str (St (made (ps.take i) x) ++ St [b])), some pt.v] : L2.St) = [some (.ref p), some (.str (St x)), some (.str (St (made (ps.take (i + 1)) x))), z] ∧ H' = H' := fun b hb => by
        refine ⟨some pt.v, ?_, rfl⟩
        rw [made_take x e, hb, St_append]
      cases pt with
      | bit b =>
        refine ⟨_, rfl, _, _, _, _, true, rfl, .ty "str", .base (.str _), kit_ty (by decide +kernel), true, rfl, ?_⟩
        exact ⟨_, rfl, _, rfl, _, _, rfl, rfl, room b, nx b rfl⟩
      | num n =>
        refine ⟨_, rfl, _, _, _, _, false, rfl, .ty "str", .base (.int _), kit_ty (by decide +kernel), false, rfl, ?_⟩
        refine ⟨_, rfl, _, rfl, _, rfl, _, rfl, by rw [St_len]; exact line1000 hx, _, _, rfl, rfl, _, rfl, ?_⟩
        by_cases hn : n < x.length
        · refine ifY (by rw [St_len]; omega) ?_
          have hg : x[n]? = some x[n] := List.getElem?_eq_getElem hn
          refine ⟨_, rfl, _, rfl, _, _, _, rfl, rfl, by rw [St_len]; exact line1000 hx, St_atI hg, _, _, rfl, rfl, room _, nx _ ?_⟩
          show x.getD n false = _
          rw [List.getD_eq_getElem?_getD, hg]
          rfl
        · refine ifN (by rw [St_len]; omega) ?_
          refine ⟨_, _, rfl, rfl, by rw [St_zero]; exact room _, ?_⟩
          have q2 := nx false (by show x.getD n false = false; rw [List.getD_eq_getElem?_getD, List.getElem?_eq_none (by omega)] <;> rfl)
          rw [← St_zero] at q2
          exact q2
  · rintro σ H' ⟨z, rfl, rfl⟩
    rw [List.length_map, List.take_length]
    exact ⟨_, rfl, q⟩
end
end Bk

set_option Elab.async false
set_option linter.all false
set_option maxRecDepth 100000
set_option maxHeartbeats 4000000
namespace Bk
open PySem PySem.Spec PyProof.Rows L2
/-! ### counts as dicts -/
def cntD (c : Cnt) : List (Key × V) := c.map fun q => (.inl (q.1 : Int), .int (q.2 : Int))
theorem cnt_len (c : Cnt) : (cntD c).length = c.length := List.length_map _
theorem key_nat (a b : Nat) : decide ((Sum.inl (a : Int) : Key) = Sum.inl (b : Int)) = decide (a = b) := by
  by_cases h : a = b
  · rw [h, decide_eq_true rfl, decide_eq_true rfl]
  · rw [decide_eq_false h, decide_eq_false fun z => h (by have := Sum.inl.inj z; omega)]
theorem cnt_val (c : Cnt) (k : Nat) : valV (cntD c) (.inl (k : Int)) = (look c k).map fun v => V.int (v : Int) := by
  induction c with
  | nil => rfl
  | cons q r ih =>
    by_cases h : q.1 = k
    · have e : look (q :: r) k = some q.2 := by simp [look, List.find?_cons, h]
      rw [e]
      exact valV_pos (p := ((Sum.inl (q.1 : Int) : Key), V.int q.2)) (by rw [h])
    · have e : look (q :: r) k = look r k := by simp [look, List.find?_cons, h]
      rw [e, ← ih]
      exact valV_neg (p := ((Sum.inl (q.1 : Int) : Key), V.int q.2)) (fun z => h (by have := Sum.inl.inj z; omega))
theorem cnt_any (c : Cnt) (k : Nat) : ((cntD c).any fun kv => decide (kv.1 = (Sum.inl (k : Int) : Key))) = c.any fun q => decide (q.1 = k) := by
  unfold cntD
  rw [List.any_map]
  congr 1
  funext q
  exact key_nat q.1 k
theorem look_any (c : Cnt) (k : Nat) : (c.any fun q => decide (q.1 = k)) = (look c k).isSome := by
  induction c with
  | nil => rfl
  | cons q r ih =>
    by_cases h : q.1 = k
    · simp [look, List.find?_cons, h]
    · rw [List.any_cons, decide_eq_false h, Bool.false_or, ih]
      simp [look, List.find?_cons, h]
theorem look_mem {c : Cnt} {k v : Nat} (hk : Keys c) (h : (k, v) ∈ c) : look c k = some v := by
  induction c with
  | nil => cases h
  | cons q r ih =>
    obtain ⟨h1, h2⟩ := List.nodup_cons.mp (show (q.1 :: r.map (·.1)).Nodup from hk)
    rcases List.mem_cons.mp h with e | h
    · subst e
      simp [look, List.find?_cons]
    · have ne : ¬ q.1 = k := fun z => h1 (List.mem_map.mpr ⟨(k, v), h, z.symm⟩)
      rw [← ih h2 h]
      simp [look, List.find?_cons, ne]
theorem cnt_put {c : Cnt} (hk : Keys c) (k : Nat) : putK (cntD c) (.inl (k : Int)) (V.int (((look c k).getD 0 : Nat) + 1 : Int)) = cntD (note c k) := by
  unfold putK note
  rw [cnt_any]
  by_cases h : (c.any fun q => decide (q.1 = k)) = true
  · rw [if_pos h, if_pos h]
    unfold cntD
    rw [List.map_map, List.map_map]
    refine List.map_congr_left fun q hq => ?_
    show (if (Sum.inl (q.1 : Int) : Key) = Sum.inl (k : Int) then ((Sum.inl (q.1 : Int) : Key), V.int (((look c k).getD 0 : Nat) + 1 : Int)) else (Sum.inl (q.1 : Int), V.int (q.2 : Int))) = _
    by_cases e : q.1 = k
    · rw [if_pos (by rw [e])]
      show _ = ((Sum.inl ((if q.1 = k then (q.1, q.2 + 1) else q).1 : Int) : Key), V.int ((if q.1 = k then (q.1, q.2 + 1) else q).2 : Int))
      rw [if_pos e]
      have : look c k = some q.2 := look_mem hk (by rw [← e]; exact hq)
      rw [this]
      rfl
    · rw [if_neg fun z => e (by have := Sum.inl.inj z; omega)]
      show _ = ((Sum.inl ((if q.1 = k then (q.1, q.2 + 1) else q).1 : Int) : Key), V.int ((if q.1 = k then (q.1, q.2 + 1) else q).2 : Int))
      rw [if_neg e]
  · rw [if_neg h, if_neg h]
    have e : look c k = none := by
      rw [look_any] at h
      cases q : look c k with
      | none => rfl
      | some v =>
        rw [q] at h
        exact absurd rfl h
    rw [e]
    unfold cntD
    rw [List.map_append]
    rfl
theorem note_len (c : Cnt) (k : Nat) : (note c k).length ≤ c.length + 1 := by
  unfold note
  split
  · rw [List.length_map]
    omega
  · rw [List.length_append]
    exact Nat.le_refl _
/-- but for what stands at a -/
def But (a : Addr) (H H' : Hp) : Prop := ∀ b o, b ≠ a → H b = some o → H' b = some o
theorem But.refl (a : Addr) (H : Hp) : But a H H := fun _ _ _ e => e
theorem But.trans {a : Addr} {H H1 H2 : Hp} (x : But a H H1) (y : But a H1 H2) : But a H H2 := fun b o n e => y b o n (x b o n e)
theorem But.of {a : Addr} {H H' : Hp} (s : Same H H') : But a H H' := fun b o _ e => s b o e
theorem But.upd {a : Addr} {H H' : Hp} (x : But a H H') (o : HO) : But a H (L2.upd H' a o) := fun b u n e => by
  rw [upd_ne n]
  exact x b u n e
theorem But.tup {a p : Addr} {H H' : Hp} {xs : List V} {kvs : List (Key × V)} (x : But a H H') (ha : H a = some (.dK kvs)) (e : H p = some (.tup xs)) : H' p = some (.tup xs) := x p _ (ne_of e ha (by intro z; cases z)) e
section
variable {P : Program} {w : World} {K : PySem.W.Frag} {mg : Str → Option Value} {base : Heap}
def spNote : Sp := fun vs H Q _ => ∃ (a : Addr) (c : Cnt) (k : Nat), vs = [.ref a, .int k] ∧ H a = some (.dK (cntD c)) ∧ Keys c ∧ c.length ≤ 1000000 ∧ Q .non (upd H a (.dK (cntD (note c k))))
theorem million {n : Nat} (h : n ≤ 1000000) : n < sizeLine := Nat.lt_of_le_of_lt h (by decide)
abbrev n_law_note : List Str := ["_law_counts", "_law_den"]
theorem sc_law_note : FnScope n_law_note ["_law_counts", "_law_den"] (defScope s_law_note) := ⟨rfl, rfl, rfl, by decide +kernel, rfl, by decide +kernel, by decide +kernel⟩
theorem c_law_note (T : Tx w K mg) : C8.Cal P w K mg base 1 "_law_note" spNote [] := by
  obtain ⟨fd, F⟩ := T.f_law_note
  refine calD F T.g_law_note (F.bindsN fun _ _ _ _ _ _ us hl => match us, hl with | [_, _], _ => rfl) sc_law_note (fun vs H Q E h => ?_) (fun cdv A outer s H vs Q E hr h => ?_)
  · obtain ⟨a, c, k, rfl, _⟩ := h
    rfl
  obtain ⟨a, c, k, rfl, ha, hk, hl, q⟩ := h
  refine ⟨_, (pss_one (ps_dput (hu_of hr) (pv 0) (pv 1) (pe_op op_add (pe_dget2 (hu_of hr) (pv 0) (pv 1) pe_int ⟨rfl, by rfl, rfl, rfl⟩) pe_int) rfl)), ?_⟩
  refine ⟨_, rfl, a, rfl, .inl ⟨_, .inl ha⟩, _, rfl, _, DGet.k (k := .inl (k : Int)) ha, ?_⟩
  refine ⟨(((look c k).getD 0 : Nat) : Int), 1, ?_, rfl, _, rfl, _, rfl, a, _, rfl, d_put (k := .inl (k : Int)) ha (by rw [cnt_len]; exact million hl) (cnt_put hk k), q⟩
  rw [cnt_val]
  cases look c k <;> rfl
/-! ### fractions -/
def spFr : Sp := fun vs H Q _ => ∃ (o : Int) (u : Nat), vs = [.int o, .int u] ∧ 0 < u ∧ o.natAbs < 2 ^ 250 ∧ u < 2 ^ 250 ∧ ∀ p H', Same H H' → H' p = some (.tup [.int (nrm o u).1, .int (nrm o u).2]) → Q (.ref p) H'
abbrev n_law_fraction : List Str := ["_law_over", "_law_under", "_law_a", "_law_b", "_law_k", "_law_c"]
theorem sc_law_fraction : FnScope n_law_fraction ["_law_over", "_law_under"] (defScope s_law_fraction) := ⟨rfl, rfl, rfl, by decide +kernel, rfl, by decide +kernel, by decide +kernel⟩
theorem c_law_fraction (T : Tx w K mg) : C8.Cal P w K mg base 1 "_law_fraction" spFr [] := by
  obtain ⟨fd, F⟩ := T.f_law_fraction
  refine calD F T.g_law_fraction (F.bindsN fun _ _ _ _ _ _ us hl => match us, hl with | [_, _], _ => rfl) sc_law_fraction (fun vs H Q E h => ?_) (fun cdv A outer s H vs Q E hr h => ?_)
  · obtain ⟨o, u, rfl, _⟩ := h
    rfl
  obtain ⟨o, u, rfl, hu, ho, hu2, q⟩ := h
  refine ⟨_, (pss_cons (ps_set (i := 2) sc_law_fraction.nd rfl (Or.inl rfl) (pe_callB call_abs (by rfl) T.n_abs (by decide +kernel) (pa_cons (pv 0) pa_nil)))
    (pss_cons (ps_set (i := 3) sc_law_fraction.nd rfl (Or.inl rfl) (pv 1))
    (C8.pss_cut (ps_for PassesOwn.never rfl (pi_range1 rfl T.n_range (pa_cons pe_int pa_nil)) (pg_name (i := 4) sc_law_fraction.nd rfl (Or.inl rfl))
    (pss_cons (ps_if (pt_cmpR op_eq (pv 2) pe_int (nomark _)) (pss_one ps_break) pss_nil)
    (pss_cons (ps_set (i := 5) sc_law_fraction.nd rfl (Or.inl rfl) (pe_op op_mod (pe_callTy call_int1 (by rfl) T.n_int (by decide +kernel) (pa_cons (pv 3) pa_nil)) (pv 2)))
    (pss_cons (ps_set (i := 3) sc_law_fraction.nd rfl (Or.inl rfl) (pv 2))
    (pss_one (ps_set (i := 2) sc_law_fraction.nd rfl (Or.inl rfl) (pv 5)))))))
    (pss_one (ps_ret (pe_tup (pa_cons (pe_op op_fdivW (pv 0) (pv 3)) (pa_cons (pe_op op_fdivW (pv 1) (pv 3)) pa_nil)))))))), ?_⟩
  refine ⟨_, rfl, _, rfl, ?_⟩
  have e0 : (if o < 0 then -o else o) = ((o.natAbs : Nat) : Int) := by
    split <;> omega
  rw [e0]
  refine ⟨_, rfl, ?_⟩
  refine ⟨fun σ H' => ∃ a z z', σ = [some (.int o), some (.int u), a, some (.int ((Nat.gcd o.natAbs u : Nat) : Int)), z, z'] ∧ H' = H, ?_, ?_⟩
  · refine ⟨4000, rfl, by decide, by decide, ?_⟩
    refine for_range (lo := 0) (n := (4000 : Int).toNat) (fun i σ H' => ∃ (a b : Nat) (z z' : Option V), σ = [some (.int o), some (.int u), some (.int a), some (.int b), z, z'] ∧ H' = H ∧ (euc (4000 - i) (a, b)).2 = Nat.gcd o.natAbs u) ?_ ?_ ?_
    · exact ⟨o.natAbs, u, none, none, rfl, rfl, euc_end (n := 250) ho (by decide)⟩
    · rintro i σ H' hi ⟨a, b, z, z', rfl, rfl, e⟩
      have hi' : i < 4000 := hi
      obtain ⟨k, hk⟩ : ∃ k, 4000 - i = k + 1 := ⟨4000 - i - 1, by omega⟩
      rw [hk] at e
      refine ⟨_, rfl, rfl, _, rfl, ?_⟩
      by_cases ha : a = 0
      · refine ifY (vint (by omega)) ?_
        have e2 : (euc (k + 1) (a, b)).2 = b := by
          show (if a = 0 then (a, b) else euc k (b % a, a)).2 = b
          rw [if_pos ha]
        rw [e2] at e
        exact ⟨some (.int a), some (.int (0 + (i : Int))), z', by rw [← e]; rfl, rfl⟩
      · refine ifN (vint_ne (by omega)) ?_
        refine ⟨_, rfl, .inl ⟨_, rfl, _, rfl, _, _, rfl, rfl, (by show (0 : Int) < a; omega), ?_⟩⟩
        refine ⟨_, rfl, _, rfl, b % a, a, some (.int (0 + (i : Int))), some (.int ((b : Int) % (a : Int))), ?_, rfl, ?_⟩
        · show [some (V.int o), some (V.int u), some (V.int ((b : Int) % (a : Int))), some (V.int a), some (V.int (0 + (i : Int))), some (V.int ((b : Int) % (a : Int)))] = _
          rw [← Int.natCast_emod]
        · rw [show 4000 - (i + 1) = k by omega]
          have e2 : euc (k + 1) (a, b) = euc k (b % a, a) := by
            show (if a = 0 then (a, b) else euc k (b % a, a)) = _
            rw [if_neg ha]
          rw [e2] at e
          exact e
    · rintro σ H' ⟨a, b, z, z', rfl, rfl, e⟩
      have e2 : b = Nat.gcd o.natAbs u := e
      exact ⟨some (.int a), z, z', by rw [e2], rfl⟩
  rintro σ H' ⟨a, z, z', rfl, rfl⟩
  have hg : 0 < Nat.gcd o.natAbs u := gcd_pos_right _ _ hu
  have hg2 : (((Nat.gcd o.natAbs u : Nat) : Int)).natAbs < 2 ^ 250 := by
    rw [Int.natAbs_natCast]
    exact Nat.lt_of_le_of_lt (Nat.gcd_le_right _ hu) hu2
  refine ⟨_, rfl, _, rfl, _, _, rfl, rfl, wide_div (b := 250) (by omega) hg2 (by decide) (by decide), _, rfl, _, rfl, _, _, rfl, rfl, wide_div (b := 250) (by omega) hg2 (by decide) (by decide), by show 2 ≤ sizeLine; decide, fun p hp => ?_⟩
  exact q p _ (same_new hp _) upd_same
/-! sums -/
structure Good (D : Nat) (c : Cnt) : Prop where
  keys : Keys c
  dvd : ∀ q ∈ c, q.1 ∣ D
theorem D_pow {D x : Nat} (hD : D < 2 ^ 60) (h : x ≤ D) : (x : Int) < 2 ^ 64 := by
  have : (2 : Nat) ^ 60 ≤ 2 ^ 64 := Nat.pow_le_pow_right (by decide) (by decide)
  have h2 : x < 2 ^ 64 := by omega
  have h3 : ((2 ^ 64 : Nat) : Int) = (2 : Int) ^ 64 := Int.natCast_pow 2 64
  omega
theorem nrm_u_le {T : Int} {D : Nat} (hD : 0 < D) {o u : Int} (h : nrm T D = (o, u)) : 0 < u ∧ u ≤ D ∧ o.natAbs ≤ T.natAbs := by
  obtain ⟨g, u', o', hg, hu, e1, e2, e3, _⟩ := nrm_parts T D hD
  rw [h] at e3
  obtain ⟨rfl, rfl⟩ := Prod.mk.inj e3
  refine ⟨by omega, ?_, ?_⟩
  · have : u' ≤ D := by
      rw [e1]
      exact Nat.le_mul_of_pos_right _ hg
    omega
  · rw [e2, Int.natAbs_mul, Int.natAbs_natCast]
    exact Nat.le_mul_of_pos_right _ hg
theorem wsum_take {D : Nat} {c : Cnt} {i k v : Nat} (h : c[i]? = some (k, v)) : wsum D (c.take (i + 1)) = wsum D (c.take i) + v * (D / k) := by
  unfold wsum
  rw [List.take_add_one, h, List.map_append, List.sum_append]
  simp
theorem wsum_take_le (D : Nat) (c : Cnt) (i : Nat) : wsum D (c.take i) ≤ wsum D c := by
  have e : wsum D c = wsum D (c.take i) + wsum D (c.drop i) := by
    unfold wsum
    rw [← List.sum_append, ← List.map_append, List.take_append_drop]
  omega
theorem pow_mul_lt {a b : Nat} {m n : Nat} (ha : a < 2 ^ m) (hb : b < 2 ^ n) : a * b < 2 ^ (m + n) := by
  rw [Nat.pow_add]
  exact Nat.mul_lt_mul'' ha hb
def spSum : Sp := fun vs H Q _ => ∃ (a : Addr) (c : Cnt) (D : Nat), vs = [.ref a] ∧ H a = some (.dK (cntD c)) ∧ Good D c ∧ 0 < D ∧ D < 2 ^ 60 ∧ wsum D c < 2 ^ 150 ∧ ∀ p H', Same H H' → H' p = some (.tup [.int (nrm (wsum D c : Nat) D).1, .int (nrm (wsum D c : Nat) D).2]) → Q (.ref p) H'
abbrev n_law_sum : List Str := ["_law_counts", "_law_over", "_law_under", "_law_den"]
theorem sc_law_sum : FnScope n_law_sum ["_law_counts"] (defScope s_law_sum) := ⟨rfl, rfl, rfl, by decide +kernel, rfl, by decide +kernel, by decide +kernel⟩
theorem c_law_sum (T : Tx w K mg) : C8.Cal P w K mg base 2 "_law_sum" spSum [] := by
  obtain ⟨fd, F⟩ := T.f_law_sum
  refine calD F T.g_law_sum (F.bindsN fun _ _ _ _ _ _ us hl => match us, hl with | [_], _ => rfl) sc_law_sum (fun vs H Q E h => ?_) (fun cdv A outer s H vs Q E hr h => ?_)
  · obtain ⟨a, c, D, rfl, _⟩ := h
    rfl
  obtain ⟨a, c, D, rfl, ha, gd, hD, hD2, hT, q⟩ := h
  refine ⟨_, (pss_cons (ps_set (i := 1) sc_law_sum.nd rfl (Or.inl rfl) pe_int)
    (pss_cons (ps_set (i := 2) sc_law_sum.nd rfl (Or.inl rfl) pe_int)
    (pss_cons (ps_lock (ps_for PassesOwn.never rfl (pi_keys (pv 0)) (pg_name (i := 3) sc_law_sum.nd rfl (Or.inl rfl))
    (pss_cons (ps_set (i := 1) sc_law_sum.nd rfl (Or.inl rfl) (pe_op op_add (pe_op op_mul (pv 1) (pv 3)) (pe_op op_mul (pe_dget (hu_of hr) (pv 0) (pv 3) (fun _ _ => rfl)) (pv 2))))
    (pss_cons (ps_set (i := 2) sc_law_sum.nd rfl (Or.inl rfl) (pe_op op_mul (pv 2) (pv 3)))
    (pss_one (ps_asg (C8.pe_c (c_law_fraction T) hr (by omega) rfl (pa_cons (pv 1) (pa_cons (pv 2) pa_nil))) (pg_tup (by rfl) (pgs_cons (pg_name (i := 1) sc_law_sum.nd rfl (Or.inl rfl)) (pgs_cons (pg_name (i := 2) sc_law_sum.nd rfl (Or.inl rfl)) pgs_nil)))))))))
    (pss_one (ps_ret (pe_tup (pa_cons (pv 1) (pa_cons (pv 2) pa_nil)))))))), ?_⟩
  refine ⟨a, _, ha, True.intro, fun od => ?_⟩
  refine ⟨_, rfl, a, od, rfl, .inl ⟨_, upd_same, ?_⟩⟩
  refine for_it (walk_keys (d := a) (o := od) (kvs := cntD c)) (fun i σ H' => ∃ (o u : Int) (z : Option V), σ = [some (.ref a), some (.int o), some (.int u), z] ∧ But a H H' ∧ H' a = some (.frz od (.dK (cntD c))) ∧ nrm (wsum D (c.take i) : Nat) D = (o, u)) ?_ (fun i σ H' _ h => by obtain ⟨_, _, _, _, _, e, _⟩ := h; exact e) ?_ ?_
  · exact ⟨0, 1, none, rfl, (But.refl a H).upd _, upd_same, nrm_zero hD⟩
  · rintro i x σ H1 H' hi ⟨o, u, z, rfl, bt, hz, en⟩ ⟨rfl, k, v, hk, rfl⟩
    have hi' : i < c.length := by
      rw [cnt_len] at hi
      exact hi
    obtain ⟨⟨k, v⟩, hc⟩ : ∃ q, c[i]? = some q := ⟨c[i], List.getElem?_eq_getElem hi'⟩
    have hk2 : (cntD c)[i]? = some ((Sum.inl (k : Int) : Key), V.int (v : Int)) := by
      unfold cntD
      rw [List.getElem?_map, hc]
      rfl
    rw [hk2] at hk
    cases hk
    have mem := List.mem_of_getElem? hc
    have dv : k ∣ D := gd.dvd _ mem
    have kD : k ≤ D := Nat.le_of_dvd hD dv
    obtain ⟨u0, u1, o1⟩ := nrm_u_le hD en
    have ub : u < 2 ^ 64 := by
      have := D_pow hD2 (Nat.le_refl D)
      omega
    have lk : valV (cntD c) (.inl (k : Int)) = some (V.int (v : Int)) := by
      rw [cnt_val, look_mem gd.keys mem]
      rfl
    have wl := wsum_take_le D c (i + 1)
    have wl0 := wsum_take_le D c i
    rw [wsum_take hc] at wl
    obtain ⟨step, u2⟩ := nrm_add (c := (v : Int)) hD dv en
    have tl : ((wsum D (c.take i) : Nat) : Int) + (v : Int) * ((D / k : Nat) : Int) = ((wsum D (c.take (i + 1)) : Nat) : Int) := by
      rw [wsum_take hc, Int.natCast_add, Int.natCast_mul]
    rw [tl] at step
    refine ⟨_, rfl, _, rfl, _, _, rfl, rfl, .inr ⟨by omega, D_pow hD2 kD⟩, ?_⟩
    refine ⟨_, rfl, _, rfl, a, _, rfl, .inl ⟨_, _, .inr ⟨od, hz⟩, rfl, lk.symm⟩, _, rfl, _, _, rfl, rfl, .inr ⟨by omega, ub⟩, _, _, rfl, rfl, ?_⟩
    refine ⟨_, rfl, _, rfl, _, _, rfl, rfl, .inr ⟨by omega, D_pow hD2 kD⟩, ?_⟩
    have hk0 : 0 < k := by
      rcases Nat.eq_zero_or_pos k with z | z
      · rw [z] at dv
        have := Nat.eq_zero_of_zero_dvd dv
        omega
      · exact z
    have eu : u * (k : Int) = ((u.toNat * k : Nat) : Int) := by
      rw [Int.natCast_mul, Int.toNat_of_nonneg (by omega)]
    have h60 : (2 : Nat) ^ 60 ≤ 2 ^ 150 := Nat.pow_le_pow_right (by decide) (by decide)
    have un : u.toNat < 2 ^ 60 := by omega
    have kn : k < 2 ^ 60 := by omega
    have vb : v < 2 ^ 150 := by
      have hq : 1 ≤ D / k := Nat.div_pos kD hk0
      have : v ≤ v * (D / k) := Nat.le_mul_of_pos_right _ hq
      omega
    have p1 := pow_mul_lt (show o.natAbs < 2 ^ 150 by omega) kn
    have p2 := pow_mul_lt vb un
    have p3 := pow_mul_lt un kn
    refine ⟨_, rfl, _, rfl, o * k + v * u, u.toNat * k, ?_, Nat.mul_pos (by omega) hk0, ?_, ?_, fun p H2 s2 hp => ?_⟩
    · show [V.int (o * (k : Int) + (v : Int) * u), V.int (u * (k : Int))] = _
      rw [eu]
    · have a1 : (o * (k : Int)).natAbs = o.natAbs * k := by rw [Int.natAbs_mul, Int.natAbs_natCast]
      have a2 : ((v : Int) * u).natAbs = v * u.toNat := by
        rw [Int.natAbs_mul, Int.natAbs_natCast]
        congr 1
        omega
      have a3 := Int.natAbs_add_le (o * (k : Int)) ((v : Int) * u)
      have b1 : (2 : Nat) ^ (150 + 60) ≤ 2 ^ 249 := Nat.pow_le_pow_right (by decide) (by decide)
      have b2 : (2 : Nat) ^ 250 = 2 ^ 249 + 2 ^ 249 := by rw [Nat.pow_succ] <;> omega
      omega
    · have b1 : (2 : Nat) ^ (60 + 60) ≤ 2 ^ 250 := Nat.pow_le_pow_right (by decide) (by decide)
      omega
    · rw [step] at hp
      refine ⟨p, _, rfl, SqT.of hp, rfl, _, _, rfl, ?_⟩
      refine ⟨_, _, rfl, ?_⟩
      refine ⟨rfl, _, _, some (.int (k : Int)), rfl, bt.trans (.of s2), s2 _ _ hz, rfl⟩
  · rintro σ H' ⟨o, u, z, rfl, bt, hz, en⟩
    rw [cnt_len, List.take_length] at en
    refine ⟨hz, ?_⟩
    refine ⟨_, rfl, _, rfl, by show 2 ≤ sizeLine; decide, fun p hp => ?_⟩
    have pa : p ≠ a := fun e => by
      rw [e, upd_same] at hp
      cases hp
    rw [en] at q
    refine q p _ (fun b ob e => ?_) upd_same
    by_cases hb : b = a
    · subst hb
      rw [upd_ne pa.symm, upd_same, ← ha, e]
    · have e2 := bt b ob hb e
      have pb : b ≠ p := fun z => by
        rw [z] at e2
        rw [upd_ne pa, e2] at hp
        cases hp
      rw [upd_ne pb, upd_ne hb]
      exact e2
end
end Bk

set_option Elab.async false
set_option linter.all false
set_option maxRecDepth 100000
set_option maxHeartbeats 4000000
namespace Bk
open PySem PySem.Spec PyProof.Rows L2
def FrAt (H : Hp) (p : Addr) (S : Int) (D : Nat) : Prop := H p = some (.tup [.int (nrm S D).1, .int (nrm S D).2])
theorem FrAt.same {H H' : Hp} {p : Addr} {S : Int} {D : Nat} (f : FrAt H p S D) (s : Same H H') : FrAt H' p S D := s _ _ f
theorem fr_parts {S : Int} {D : Nat} (hD : 0 < D) (hD2 : D < 2 ^ 60) (hS : S.natAbs < 2 ^ 150) : 0 < (nrm S D).2 ∧ (nrm S D).2 < 2 ^ 60 ∧ (nrm S D).1.natAbs < 2 ^ 150 := by
  obtain ⟨a, b, c⟩ := nrm_u_le hD (T := S) (o := (nrm S D).1) (u := (nrm S D).2) rfl
  refine ⟨a, by omega, by omega⟩
section
variable {P : Program} {w : World} {K : PySem.W.Frag} {mg : Str → Option Value} {base : Heap}
def spLess : Sp := fun vs H Q _ => ∃ (p1 p2 : Addr) (S1 S2 : Int) (D : Nat), vs = [.ref p1, .ref p2] ∧ FrAt H p1 S1 D ∧ FrAt H p2 S2 D ∧ 0 < D ∧ D < 2 ^ 60 ∧ S1.natAbs < 2 ^ 150 ∧ S2.natAbs < 2 ^ 150 ∧ ∀ p H', Same H H' → FrAt H' p (S1 - S2) D → Q (.ref p) H'
abbrev n_law_less : List Str := ["_law_first", "_law_second"]
theorem sc_law_less : FnScope n_law_less ["_law_first", "_law_second"] (defScope s_law_less) := ⟨rfl, rfl, rfl, by decide +kernel, rfl, by decide +kernel, by decide +kernel⟩
theorem c_law_less (T : Tx w K mg) : C8.Cal P w K mg base 2 "_law_less" spLess [] := by
  obtain ⟨fd, F⟩ := T.f_law_less
  refine calD F T.g_law_less (F.bindsN fun _ _ _ _ _ _ us hl => match us, hl with | [_, _], _ => rfl) sc_law_less (fun vs H Q E h => ?_) (fun cdv A outer s H vs Q E hr h => ?_)
  · obtain ⟨p1, p2, S1, S2, D, rfl, _⟩ := h
    rfl
  obtain ⟨p1, p2, S1, S2, D, rfl, f1, f2, hD, hD2, h1, h2, q⟩ := h
  obtain ⟨a1, a2, a3⟩ := fr_parts hD hD2 h1
  obtain ⟨b1, b2, b3⟩ := fr_parts hD hD2 h2
  obtain ⟨step, _, _⟩ := nrm_less hD (S := S1) (T := S2) (o := (nrm S1 D).1) (u := (nrm S1 D).2) (p := (nrm S2 D).1) (v := (nrm S2 D).2) rfl rfl
  unfold FrAt at f1 f2
  generalize (nrm S1 D).1 = o at *
  generalize (nrm S1 D).2 = u at *
  generalize (nrm S2 D).1 = o2 at *
  generalize (nrm S2 D).2 = u2 at *
  refine ⟨_, (pss_one (ps_ret (C8.pe_c (c_law_fraction T) hr (by omega) rfl (pa_cons (pe_op op_sub (pe_op op_mul (pe_ix (r := rIxT K) ix_tup (pv 0) pe_int (fun _ _ => rfl)) (pe_ix (r := rIxT K) ix_tup (pv 1) pe_int (fun _ _ => rfl))) (pe_op op_mul (pe_ix (r := rIxT K) ix_tup (pv 1) pe_int (fun _ _ => rfl)) (pe_ix (r := rIxT K) ix_tup (pv 0) pe_int (fun _ _ => rfl)))) (pa_cons (pe_op op_mul (pe_ix (r := rIxT K) ix_tup (pv 0) pe_int (fun _ _ => rfl)) (pe_ix (r := rIxT K) ix_tup (pv 1) pe_int (fun _ _ => rfl))) pa_nil))))), ?_⟩
  refine ⟨_, rfl, p1, _, _, _, rfl, rfl, SqT.of f1, rfl, _, rfl, p2, _, _, _, rfl, rfl, SqT.of f2, rfl, _, _, rfl, rfl, .inr ⟨by omega, by omega⟩, ?_⟩
  refine ⟨_, rfl, p2, _, _, _, rfl, rfl, SqT.of f2, rfl, _, rfl, p1, _, _, _, rfl, rfl, SqT.of f1, rfl, _, _, rfl, rfl, .inr ⟨by omega, by omega⟩, _, _, rfl, rfl, ?_⟩
  refine ⟨_, rfl, p1, _, _, _, rfl, rfl, SqT.of f1, rfl, _, rfl, p2, _, _, _, rfl, rfl, SqT.of f2, rfl, _, _, rfl, rfl, .inr ⟨by omega, by omega⟩, ?_⟩
  have un : u.toNat < 2 ^ 60 := by omega
  have vn : u2.toNat < 2 ^ 60 := by omega
  have p1' := pow_mul_lt a3 vn
  have p2' := pow_mul_lt b3 un
  have p3' := pow_mul_lt un vn
  have eu : u * u2 = ((u.toNat * u2.toNat : Nat) : Int) := by
    rw [Int.natCast_mul, Int.toNat_of_nonneg (by omega), Int.toNat_of_nonneg (by omega)]
  refine ⟨o * u2 - o2 * u, u.toNat * u2.toNat, ?_, Nat.mul_pos (by omega) (by omega), ?_, ?_, fun p H2 s2 hp => ?_⟩
  · show [V.int (o * u2 - o2 * u), V.int (u * u2)] = _
    rw [eu]
  · have e1 : (o * u2).natAbs = o.natAbs * u2.toNat := by
      rw [Int.natAbs_mul]
      congr 1
      omega
    have e2 : (o2 * u).natAbs = o2.natAbs * u.toNat := by
      rw [Int.natAbs_mul]
      congr 1
      omega
    have e3 := Int.natAbs_sub_le (o * u2) (o2 * u)
    have c1 : (2 : Nat) ^ (150 + 60) ≤ 2 ^ 249 := Nat.pow_le_pow_right (by decide) (by decide)
    have c2 : (2 : Nat) ^ 250 = 2 ^ 249 + 2 ^ 249 := by rw [Nat.pow_succ] <;> omega
    omega
  · have c1 : (2 : Nat) ^ (60 + 60) ≤ 2 ^ 250 := Nat.pow_le_pow_right (by decide) (by decide)
    omega
  · rw [step] at hp
    exact q p _ s2 hp
def spTimes : Sp := fun vs H Q _ => ∃ (p1 : Addr) (k : Nat) (S : Int) (D : Nat), vs = [.ref p1, .int k] ∧ FrAt H p1 S D ∧ 0 < D ∧ D < 2 ^ 60 ∧ S.natAbs < 2 ^ 150 ∧ k < 2 ^ 20 ∧ ∀ p H', Same H H' → FrAt H' p (S * k) D → Q (.ref p) H'
abbrev n_law_times : List Str := ["_law_first", "_law_number_here"]
theorem sc_law_times : FnScope n_law_times ["_law_first", "_law_number_here"] (defScope s_law_times) := ⟨rfl, rfl, rfl, by decide +kernel, rfl, by decide +kernel, by decide +kernel⟩
theorem c_law_times (T : Tx w K mg) : C8.Cal P w K mg base 2 "_law_times" spTimes [] := by
  obtain ⟨fd, F⟩ := T.f_law_times
  refine calD F T.g_law_times (F.bindsN fun _ _ _ _ _ _ us hl => match us, hl with | [_, _], _ => rfl) sc_law_times (fun vs H Q E h => ?_) (fun cdv A outer s H vs Q E hr h => ?_)
  · obtain ⟨p1, k, S, D, rfl, _⟩ := h
    rfl
  obtain ⟨p1, k, S, D, rfl, f1, hD, hD2, h1, hk, q⟩ := h
  obtain ⟨a1, a2, a3⟩ := fr_parts hD hD2 h1
  obtain ⟨step, _⟩ := nrm_times hD (S := S) (k : Int) (o := (nrm S D).1) (u := (nrm S D).2) rfl
  unfold FrAt at f1
  generalize (nrm S D).1 = o at *
  generalize (nrm S D).2 = u at *
  refine ⟨_, (pss_one (ps_ret (C8.pe_c (c_law_fraction T) hr (by omega) rfl (pa_cons (pe_op op_mul (pe_ix (r := rIxT K) ix_tup (pv 0) pe_int (fun _ _ => rfl)) (pv 1)) (pa_cons (pe_ix (r := rIxT K) ix_tup (pv 0) pe_int (fun _ _ => rfl)) pa_nil))))), ?_⟩
  refine ⟨_, rfl, p1, _, _, _, rfl, rfl, SqT.of f1, rfl, _, rfl, _, _, rfl, rfl, .inr ⟨by omega, by omega⟩, ?_⟩
  refine ⟨_, rfl, p1, _, _, _, rfl, rfl, SqT.of f1, rfl, o * k, u.toNat, ?_, by omega, ?_, ?_, fun p H2 s2 hp => ?_⟩
  · rw [Int.toNat_of_nonneg (by omega)]
    rfl
  · rw [Int.natAbs_mul, Int.natAbs_natCast]
    have c1 : (2 : Nat) ^ (150 + 20) ≤ 2 ^ 250 := Nat.pow_le_pow_right (by decide) (by decide)
    have := pow_mul_lt a3 hk
    omega
  · have c1 : (2 : Nat) ^ 60 ≤ 2 ^ 250 := Nat.pow_le_pow_right (by decide) (by decide)
    omega
  · rw [step] at hp
    exact q p _ s2 hp
/-! _law_is: of equal fractions -/
def spIs : Sp := fun vs H Q _ => ∃ (p1 p2 : Addr) (S : Int) (D : Nat), vs = [.ref p1, .ref p2] ∧ FrAt H p1 S D ∧ FrAt H p2 S D ∧ Q (.bl true) H
theorem pair_shaped (a b : Int) : SeqAt.shaped (.tuple [.int a, .int b]) = true := by rfl
theorem pair_eqv (a b : Int) : PyData.eqv (.tuple [.int a, .int b]) (.tuple [.int a, .int b]) = true := SeqAt.eqv_refl _ (SeqAt.canLay_of_shaped (pair_shaped a b))
theorem pair_dp {K : PySem.W.Frag} {H : Hp} {p : Addr} {a b : Int} (h : H p = some (.tup [.int a, .int b])) : Dp K H (.ref p) (.tuple [.int a, .int b]) := .tup (SqT.of h) (.cons (.int a) (.cons (.int b) .nil))
abbrev n_law_is : List Str := ["_law_actual", "_law_due", "_law_part"]
theorem sc_law_is : FnScope n_law_is ["_law_actual", "_law_due"] (defScope s_law_is) := ⟨rfl, rfl, rfl, by decide +kernel, rfl, by decide +kernel, by decide +kernel⟩
theorem c_law_is (T : Tx w K mg) : C8.Cal P w K mg base 1 "_law_is" spIs [] := by
  obtain ⟨fd, F⟩ := T.f_law_is
  refine calD F T.g_law_is (F.bindsN fun _ _ _ _ _ _ us hl => match us, hl with | [_, _], _ => rfl) sc_law_is (fun vs H Q E h => ?_) (fun cdv A outer s H vs Q E hr h => ?_)
  · obtain ⟨p1, p2, S, D, rfl, _⟩ := h
    rfl
  obtain ⟨p1, p2, S, D, rfl, f1, f2, q⟩ := h
  unfold FrAt at f1 f2
  generalize (nrm S D).1 = o at *
  generalize (nrm S D).2 = u at *
  have hu2 := hr.units
  refine ⟨_, (pss_cons (ps_if (PW.pt (pw_or (pt_not (pt_val (pe_callB call_isi (by rfl) T.n_isinstance (by decide +kernel) (pa_cons (pv 0) (pa_cons (pe_bltn (v := .ty "tuple") (by rfl) T.n_tuple (by decide +kernel) rfl) pa_nil))))) (pw_or1 (pt_cmpR op_ne (pe_callB call_len_seq (by rfl) T.n_len PySem.boot_len (pa_cons (pv 0) pa_nil)) pe_int (nomark _))))) (pss_one (ps_ret pe_bl)) pss_nil)
    (pss_cons (ps_for PassesOwn.never rfl (pi_tup (pv 0)) (pg_name (i := 2) sc_law_is.nd rfl (Or.inl rfl))
    (pss_one (ps_if (PW.pt (pw_or (pt_not (pt_val (pe_callB call_isi (by rfl) T.n_isinstance (by decide +kernel) (pa_cons (pv 2) (pa_cons (pe_bltn (v := .ty "int") (by rfl) T.n_int (by decide +kernel) rfl) pa_nil))))) (pw_or1 (pt_val (pe_callB call_isi (by rfl) T.n_isinstance (by decide +kernel) (pa_cons (pv 2) (pa_cons (pe_bltn (v := .ty "bool") (by rfl) T.n_bool (by decide +kernel) rfl) pa_nil))))))) (pss_one (ps_ret pe_bl)) pss_nil)))
    (pss_one (ps_ret (pe_cmpR (op_eqD hr.units) (pv 0) (pv 1) (nomark _)))))), ?_⟩
  refine ⟨_, rfl, _, _, _, _, true, rfl, .ty "tuple", .base (.tup f1), kit_ty (by decide +kernel), true, rfl, ?_⟩
  refine ⟨_, rfl, p1, _, rfl, .inr (SqT.of f1), rfl, _, rfl, niY rfl ?_⟩
  refine ⟨_, rfl, p1, rfl, ⟨_, SqT.of f1⟩, ?_⟩
  refine for_tup (xs := [V.int o, V.int u]) (fun i σ H' => ∃ z : Option V, σ = [some (.ref p1), some (.ref p2), z] ∧ H' = H) ⟨none, rfl, rfl⟩ (fun i σ H' _ h => by obtain ⟨_, _, rfl⟩ := h; exact SqT.of f1) ?_ ?_
  · rintro i y σ H' hi ⟨z, rfl, rfl⟩
    have ey : ∃ x : Int, y = .int x := by
      have := List.mem_of_getElem? hi
      rcases List.mem_cons.mp this with e | e
      · exact ⟨_, e⟩
      · exact ⟨_, List.mem_singleton.mp e⟩
    obtain ⟨x, rfl⟩ := ey
    refine ⟨_, rfl, _, _, _, _, true, rfl, .ty "int", .base (.int x), kit_ty (by decide +kernel), true, rfl, ?_⟩
    refine ⟨_, rfl, _, _, _, _, false, rfl, .ty "bool", .base (.int x), kit_ty (by decide +kernel), false, rfl, ?_⟩
    exact ⟨_, rfl, rfl⟩
  · rintro σ H' ⟨z, rfl, rfl⟩
    refine ⟨_, rfl, _, rfl, _, _, pair_dp f1, pair_dp f2, pair_shaped o u, pair_shaped o u, ?_⟩
    rw [pair_eqv]
    exact q
end
end Bk

set_option Elab.async false
set_option linter.all false
set_option maxRecDepth 100000
set_option maxHeartbeats 4000000
namespace Bk
open PySem PySem.Spec PyProof.Rows L2
/-! ### breakers as tuples -/
inductive IsBr (H : Hp) : V → Br → Prop where
  | say {p q : Addr} {ps : List Part} (h : H p = some (.tup [.str "say", .ref q])) (hq : H q = some (.tup (ps.map Part.v))) : IsBr H (.ref p) (.say ps)
  | toss {p q : Addr} {vs : List V} {bs : List Br} (h : H p = some (.tup [.str "toss", .ref q])) (hq : H q = some (.tup vs)) (hl : vs.length = bs.length) (hb : ∀ (i : Nat) v b, vs[i]? = some v → bs[i]? = some b → IsBr H v b) : IsBr H (.ref p) (.toss bs)
  | look {p : Addr} {n : Nat} {va vb : V} {a b : Br} (h : H p = some (.tup [.str "look", .int n, va, vb])) (ha : IsBr H va a) (hb : IsBr H vb b) : IsBr H (.ref p) (.look n a b)
  | ask {p q : Addr} {ps : List Part} {va : V} {a : Br} (h : H p = some (.tup [.str "ask", .ref q, va])) (hq : H q = some (.tup (ps.map Part.v))) (ha : IsBr H va a) : IsBr H (.ref p) (.ask ps a)
/-- tuples are kept -/
def Kt (H H' : Hp) : Prop := ∀ b xs, H b = some (.tup xs) → H' b = some (.tup xs)
theorem Kt.of {H H' : Hp} (s : Same H H') : Kt H H' := fun b xs e => s b _ e
theorem Kt.dr {H H' : Hp} (s : Dr H H') : Kt H H' := fun b xs e => s.tup e
theorem Kt.but {H H' : Hp} {a : Addr} {kvs : List (Key × V)} (s : But a H H') (ha : H a = some (.dK kvs)) : Kt H H' := fun b xs e => s.tup ha e
theorem Kt.trans {H H1 H2 : Hp} (x : Kt H H1) (y : Kt H1 H2) : Kt H H2 := fun b xs e => y b xs (x b xs e)
theorem IsBr.kt {H H' : Hp} (k : Kt H H') {v : V} {b : Br} (h : IsBr H v b) : IsBr H' v b := by
  induction h with
  | say h hq => exact .say (k _ _ h) (k _ _ hq)
  | toss h hq hl _ ih => exact .toss (k _ _ h) (k _ _ hq) hl ih
  | look h _ _ iha ihb => exact .look (k _ _ h) iha ihb
  | ask h hq _ iha => exact .ask (k _ _ h) (k _ _ hq) iha
theorem GenV.kt {H H' : Hp} {p : Addr} {n m : Nat} {rows : List Bits} (g : GenV H p n m rows) (s : Kt H H') : GenV H' p n m rows := by
  obtain ⟨q, a, b⟩ := g
  exact ⟨q, s _ _ a, s _ _ b⟩
theorem Good.note {D : Nat} {c : Cnt} {k : Nat} (g : Good D c) (h : k ∣ D) : Good D (note c k) := by
  refine ⟨note_Keys g.keys, fun q hq => ?_⟩
  rcases note_mem (List.mem_map.mpr ⟨q, hq, rfl⟩) with h2 | h2
  · obtain ⟨q', hq', e⟩ := List.mem_map.mp h2
    rw [← e]
    exact g.dvd q' hq'
  · rw [h2]
    exact h
/-- what a count by silent leaves: for a breaker at most so deep, its weight in all -/
structure Cts (D : Nat) (c c' : Cnt) (wt n : Nat) : Prop where
  good : Good D c'
  sum : wsum D c' = wsum D c + wt
  len : c'.length ≤ c.length + n
theorem Cts.refl {D : Nat} {c : Cnt} (g : Good D c) (n : Nat) : Cts D c c 0 n := ⟨g, rfl, Nat.le_add_right _ _⟩
theorem Cts.trans {D : Nat} {c c1 c2 : Cnt} {a b m n : Nat} (x : Cts D c c1 a m) (y : Cts D c1 c2 b n) : Cts D c c2 (a + b) (m + n) := ⟨y.good, by rw [y.sum, x.sum]; omega, by have := x.len; have := y.len; omega⟩
theorem wts_take (h : Bits) (E : Nat) : ∀ {bs : List Br} {i : Nat} {b : Br}, bs[i]? = some b → wts h (bs.take (i + 1)) E = wts h (bs.take i) E + b.wt h E
  | [], _, _, e => by cases e
  | c :: r, 0, b, e => by
    cases e
    rw [List.take_succ_cons, List.take_zero, List.take_zero, wts, wts, wts]
    omega
  | c :: r, i + 1, b, e => by
    rw [List.take_succ_cons, List.take_succ_cons, wts, wts, wts_take h E (bs := r) e]
    omega
def spSilent (d : Nat) : Sp := fun vs H Q _ => ∃ (v : V) (x : Bits) (den : Nat) (a : Addr) (b : Br) (c : Cnt) (D : Nat), vs = [v, .str (St x), .int den, .ref a] ∧ IsBr H v b ∧ BrOk d b ∧ x.length ≤ 1000 ∧ 0 < D ∧ D < 2 ^ 60 ∧ den * 27720 ^ d ∣ D ∧ H a = some (.dK (cntD c)) ∧ Good D c ∧ c.length + 12 ^ d ≤ 900000 ∧
  ∀ c' H', Cts D c c' (b.wt x (D / den)) (12 ^ d) → But a H H' → H' a = some (.dK (cntD c')) → Q .non H'
def spSil : Nat → Sp
  | 0 => fun _ _ _ _ => False
  | d + 1 => spSilent d
section
variable {P : Program} {w : World} {K : PySem.W.Frag} {mg : Str → Option Value} {base : Heap}
abbrev n_law_silent : List Str := ["_law_breaker_here", "_law_handed", "_law_den", "_law_counts", "_law_one"]
theorem sc_law_silent : FnScope n_law_silent ["_law_breaker_here", "_law_handed", "_law_den", "_law_counts"] (defScope s_law_silent) := ⟨rfl, rfl, rfl, by decide +kernel, rfl, by decide +kernel, by decide +kernel⟩
theorem ok_law_silent (T : Tx w K mg) {d : Nat} (ih : C8.Cal P w K mg base (d + 2) "_law_silent" (spSil d) []) : C8.Cal P w K mg base (d + 3) "_law_silent" (spSilent d) [] := by
  obtain ⟨fd, F⟩ := T.f_law_silent
  refine calD F T.g_law_silent (F.bindsN fun _ _ _ _ _ _ us hl => match us, hl with | [_, _, _, _], _ => rfl) sc_law_silent (fun vs H Q E h => ?_) (fun cdv A outer s H vs Q E hr h => ?_)
  · obtain ⟨v, x, den, a, b, c, D, rfl, _⟩ := h
    rfl
  obtain ⟨v, x, den, a, b, c, D, rfl, hb, bo, hx, hD, hD2, hdv, ha, gd, hl, q⟩ := h
  have hl' : c.length ≤ 900000 := Nat.le_trans (Nat.le_add_right _ _) hl
  have dden : den ∣ D := Nat.dvd_trans (Nat.dvd_mul_right _ _) hdv
  have hden : 0 < den := by
    rcases Nat.eq_zero_or_pos den with z | z
    · rw [z] at dden
      have := Nat.eq_zero_of_zero_dvd dden
      omega
    · exact z
  refine ⟨_, (pss_one (ps_if (pt_cmpR op_eq (pe_ix (r := rIxT K) ix_tup (pv 0) pe_int (fun _ _ => rfl)) pe_str (nomark _)) (pss_one (ps_if (pt_cmpR op_eq (C8.pe_c (c_law_made T) hr (by omega) rfl (pa_cons (pe_ix (r := rIxT K) ix_tup (pv 0) pe_int (fun _ _ => rfl)) (pa_cons (pv 1) pa_nil))) pe_str (nomark _)) (pss_one (ps_expr (C8.pe_c (c_law_note T) hr (by omega) rfl (pa_cons (pv 3) (pa_cons (pv 2) pa_nil))))) pss_nil)) (pss_one (ps_if (pt_cmpR op_eq (pe_ix (r := rIxT K) ix_tup (pv 0) pe_int (fun _ _ => rfl)) pe_str (nomark _)) (pss_one (ps_for PassesOwn.never rfl (pi_tup (pe_ix (r := rIxT K) ix_tup (pv 0) pe_int (fun _ _ => rfl))) (pg_name (i := 4) sc_law_silent.nd rfl (Or.inl rfl))
    (pss_one (ps_expr (C8.pe_c ih hr (by omega) rfl (pa_cons (pv 4) (pa_cons (pv 1) (pa_cons (pe_op op_mul (pv 2) (pe_callB call_len_seq (by rfl) T.n_len PySem.boot_len (pa_cons (pe_ix (r := rIxT K) ix_tup (pv 0) pe_int (fun _ _ => rfl)) pa_nil))) (pa_cons (pv 3) pa_nil))))))))) (pss_one (ps_if (pt_cmpR op_eq (pe_ix (r := rIxT K) ix_tup (pv 0) pe_int (fun _ _ => rfl)) pe_str (nomark _)) (pss_one (ps_expr (C8.pe_c ih hr (by omega) rfl (pa_cons (pe_ix (r := rIxT K) ix_tup (pv 0) (pe_op op_add pe_int (pe_callTy call_int_str (by rfl) T.n_int (by decide +kernel) (pa_cons (C8.pe_c (c_law_made T) hr (by omega) rfl (pa_cons (pe_tup (pa_cons (pe_ix (r := rIxT K) ix_tup (pv 0) pe_int (fun _ _ => rfl)) pa_nil)) (pa_cons (pv 1) pa_nil))) pa_nil))) (fun _ _ => rfl)) (pa_cons (pv 1) (pa_cons (pv 2) (pa_cons (pv 3) pa_nil))))))) (pss_one (ps_expr (C8.pe_c ih hr (by omega) rfl (pa_cons (pe_ix (r := rIxT K) ix_tup (pv 0) pe_int (fun _ _ => rfl)) (pa_cons (pv 1) (pa_cons (pv 2) (pa_cons (pv 3) pa_nil))))))))))))), ?_⟩
  cases hb with
  | @say p t ps h ht =>
    have po : PartsOk ps := by
      cases bo with
      | say h => exact h
    refine ⟨_, rfl, p, _, _, _, rfl, rfl, SqT.of h, rfl, rfl, _, rfl, ifY rfl ?_⟩
    refine ⟨_, rfl, p, _, _, _, rfl, rfl, SqT.of h, rfl, _, rfl, t, ps, x, rfl, ht, by have := po.1; omega, hx, rfl, _, rfl, ?_⟩
    by_cases e : made ps x = [true]
    · refine ifY (congrArg V.str (by rw [St_one, e])) ?_
      refine ⟨_, rfl, _, rfl, a, c, den, rfl, ha, gd.keys, by omega, ?_⟩
      refine q (note c den) _ ⟨gd.note dden, ?_, ?_⟩ ((But.refl a H).upd _) upd_same
      · rw [wsum_note gd.keys, Br.wt]
        have : isOne (made ps x) = true := decide_eq_true e
        rw [if_pos this]
      · have := note_len c den
        have := Nat.pow_pos (n := d) (show 0 < 12 by decide)
        omega
    · refine ifN (fun z => e (St_inj (by rw [← St_one]; exact V.str.inj z))) ?_
      refine q c _ ?_ (But.refl a H) ha
      have : isOne (made ps x) = false := decide_eq_false e
      rw [Br.wt, if_neg (by rw [this]; decide)]
      exact .refl gd _
  | @toss p t vs bs h ht hl2 hb =>
    cases bo with
    | @toss d' _ h0 h1 h2 =>
    obtain ⟨m, hm⟩ := dvd_27720 h0 h1
    have hdv2 : den * bs.length * 27720 ^ d' ∣ D := by
      refine Nat.dvd_trans ⟨m, ?_⟩ hdv
      rw [Nat.pow_succ, hm]
      simp only [Nat.mul_assoc, Nat.mul_comm, Nat.mul_left_comm]
    refine ⟨_, rfl, p, _, _, _, rfl, rfl, SqT.of h, rfl, rfl, _, rfl, ifN (by decide +kernel) ?_⟩
    refine ⟨_, rfl, p, _, _, _, rfl, rfl, SqT.of h, rfl, rfl, _, rfl, ifY rfl ?_⟩
    refine ⟨_, rfl, p, _, _, _, rfl, rfl, SqT.of h, rfl, t, rfl, ⟨_, SqT.of ht⟩, ?_⟩
    refine for_tup (xs := vs) (fun i σ H' => ∃ (z : Option V) (c' : Cnt), σ = [some (.ref p), some (.str (St x)), some (.int den), some (.ref a), z] ∧ Cts D c c' (wts x (bs.take i) (D / den / bs.length)) (i * 12 ^ d') ∧ But a H H' ∧ H' a = some (.dK (cntD c'))) ?_ (fun i σ H' _ h => by obtain ⟨_, _, _, _, bt, _⟩ := h; exact SqT.of (bt.tup ha ht)) ?_ ?_
    · refine ⟨none, c, rfl, ?_, But.refl a H, ha⟩
      rw [List.take_zero, wts]
      exact .refl gd _
    · rintro i y σ H' hi ⟨z, c', rfl, ct, bt, ha'⟩
      have hi' : i < bs.length := by
        have := (List.getElem?_eq_some_iff.mp hi).1
        omega
      have hbi : bs[i]? = some bs[i] := List.getElem?_eq_getElem hi'
      have kt : Kt H H' := .but bt ha
      have h' := bt.tup ha h
      refine ⟨_, rfl, _, rfl, _, rfl, _, rfl, p, _, _, _, rfl, rfl, SqT.of h', rfl, t, _, rfl, .inr (SqT.of (bt.tup ha ht)), _, _, rfl, rfl, .inr ⟨by omega, by omega⟩, ?_⟩
      have len1 : c'.length + 12 ^ d' ≤ 900000 := by
        have := ct.len
        have e1 : (i + 1) * 12 ^ d' ≤ 12 * 12 ^ d' := Nat.mul_le_mul_right _ (by omega)
        rw [Nat.add_mul, Nat.one_mul] at e1
        have e2 : 12 ^ (d' + 1) = 12 * 12 ^ d' := by rw [Nat.pow_succ, Nat.mul_comm]
        omega
      refine ⟨_, rfl, y, x, den * bs.length, a, bs[i], c', D, ?_, (hb i y _ hi hbi).kt kt, h2 _ (List.getElem_mem hi'), hx, hD, hD2, hdv2, ha', ct.good, len1, fun c2 H2 ct2 bt2 ha2 => ?_⟩
      · show [y, V.str (St x), V.int ((den : Int) * ((vs.length : Nat) : Int)), V.ref a] = _
        rw [hl2, Int.natCast_mul]
      · refine ⟨_, c2, rfl, ?_, bt.trans bt2, ha2⟩
        have := ct.trans ct2
        rw [wts_take x _ hbi, Nat.add_mul, Nat.one_mul, Nat.div_div_eq_div_mul]
        rw [Nat.div_div_eq_div_mul] at this
        exact this
    · rintro σ H' ⟨z, c', rfl, ct, bt, ha'⟩
      refine q c' H' ?_ bt ha'
      rw [hl2, List.take_length] at ct
      rw [Br.wt]
      refine ⟨ct.good, ct.sum, Nat.le_trans ct.len ?_⟩
      have e1 : bs.length * 12 ^ d' ≤ 12 * 12 ^ d' := Nat.mul_le_mul_right _ h1
      have e2 : 12 ^ (d' + 1) = 12 * 12 ^ d' := by rw [Nat.pow_succ, Nat.mul_comm]
      omega
  | @look p n va vb b1 b2 h hva hvb =>
    cases bo with
    | @look d' _ _ _ hn h1 h2 =>
    have hdv2 : den * 27720 ^ d' ∣ D := Nat.dvd_trans ⟨27720, by rw [Nat.pow_succ, Nat.mul_assoc]⟩ hdv
    have e2 : 12 ^ (d' + 1) = 12 * 12 ^ d' := by rw [Nat.pow_succ, Nat.mul_comm]
    refine ⟨_, rfl, p, _, _, _, rfl, rfl, SqT.of h, rfl, rfl, _, rfl, ifN (by decide +kernel) ?_⟩
    refine ⟨_, rfl, p, _, _, _, rfl, rfl, SqT.of h, rfl, rfl, _, rfl, ifN (by decide +kernel) ?_⟩
    refine ⟨_, rfl, p, _, _, _, rfl, rfl, SqT.of h, rfl, rfl, _, rfl, ifY rfl ?_⟩
    refine ⟨_, rfl, _, rfl, p, _, _, _, rfl, rfl, SqT.of h, rfl, by show 1 ≤ sizeLine; decide, fun t ht => ?_⟩
    have st := same_new ht (.tup [.int n])
    refine ⟨_, rfl, t, [Part.num n], x, rfl, upd_same, (by show 1 ≤ 1000; decide), hx, _, _, rfl, St_int _, by rw [St_len]; exact (by decide : 1 ≤ 640), _, _, rfl, rfl, ?_⟩
    have key : ∃ (y : V) (b3 : Br), atI [V.str "look", V.int n, va, vb] (2 + (if x.getD n false then 1 else 0)) = some y ∧ IsBr H y b3 ∧ BrOk d' b3 ∧ (Br.look n b1 b2).wt x (D / den) = b3.wt x (D / den) := by
      rw [Br.wt]
      cases x.getD n false
      · exact ⟨va, b1, rfl, hva, h1, rfl⟩
      · exact ⟨vb, b2, rfl, hvb, h2, rfl⟩
    obtain ⟨y, b3, k1, k2, k3, k4⟩ := key
    refine ⟨p, _, _, y, rfl, rfl, SqT.of (st _ _ h), k1, _, rfl, _, rfl, _, rfl, y, x, den, a, b3, c, D, rfl, k2.kt (.of st), k3, hx, hD, hD2, hdv2, st _ _ ha, gd, by omega, fun c2 H2 ct2 bt2 ha2 => ?_⟩
    refine q c2 H2 ?_ ((But.of st).trans bt2) ha2
    rw [k4]
    exact ⟨ct2.good, ct2.sum, by have := ct2.len; omega⟩
  | @ask p t ps va b1 h ht hva =>
    cases bo with
    | @ask d' _ _ hn h1 =>
    have hdv2 : den * 27720 ^ d' ∣ D := Nat.dvd_trans ⟨27720, by rw [Nat.pow_succ, Nat.mul_assoc]⟩ hdv
    have e2 : 12 ^ (d' + 1) = 12 * 12 ^ d' := by rw [Nat.pow_succ, Nat.mul_comm]
    refine ⟨_, rfl, p, _, _, _, rfl, rfl, SqT.of h, rfl, rfl, _, rfl, ifN (by decide +kernel) ?_⟩
    refine ⟨_, rfl, p, _, _, _, rfl, rfl, SqT.of h, rfl, rfl, _, rfl, ifN (by decide +kernel) ?_⟩
    refine ⟨_, rfl, p, _, _, _, rfl, rfl, SqT.of h, rfl, rfl, _, rfl, ifN (by decide +kernel) ?_⟩
    refine ⟨_, rfl, p, _, _, va, rfl, rfl, SqT.of h, rfl, _, rfl, _, rfl, _, rfl, va, x, den, a, b1, c, D, rfl, hva, h1, hx, hD, hD2, hdv2, ha, gd, by omega, fun c2 H2 ct2 bt2 ha2 => ?_⟩
    refine q c2 H2 ?_ bt2 ha2
    rw [Br.wt]
    exact ⟨ct2.good, ct2.sum, by have := ct2.len; omega⟩
theorem no_law_silent (T : Tx w K mg) : C8.Cal P w K mg base 2 "_law_silent" (spSil 0) [] := by
  obtain ⟨fd, F⟩ := T.f_law_silent
  exact ⟨_, fd, ["_law_breaker_here", "_law_handed", "_law_den", "_law_counts"], [], ⟨fun vs H Q E h => h.elim, fun A outer s H args us vs Q E _ _ _ _ h => h.elim⟩, T.g_law_silent, F.kp, F.bindsN fun _ _ _ _ _ _ us hl => match us, hl with | [_, _, _, _], _ => rfl, .nil⟩
theorem c_law_silent (T : Tx w K mg) : ∀ d : Nat, C8.Cal P w K mg base (d + 3) "_law_silent" (spSilent d) []
  | 0 => ok_law_silent T (d := 0) (no_law_silent T)
  | d + 1 => ok_law_silent T (d := d + 1) (c_law_silent T d)
end
end Bk

set_option Elab.async false
set_option linter.all false
set_option maxRecDepth 100000
set_option maxHeartbeats 4000000
namespace Bk
open PySem PySem.Spec PyProof.Rows L2
/-! ### what may be a list or a tuple, walked -/
def SeqG (K : PySem.W.Frag) (a : Addr) (xs : List V) (t : Bool) (H : Hp) : Prop := match t with
  | true => SqL K H a xs
  | false => SqT K H a xs
def SeqJ (K : PySem.W.Frag) (a : Addr) (t : Bool) : It := match t with
  | true => Itl K a
  | false => Itt K a
def SeqO (t : Bool) (xs : List V) : HO := match t with
  | true => .lst xs
  | false => .tup xs
theorem SeqG.of {K : PySem.W.Frag} {a : Addr} {xs : List V} {t : Bool} {H : Hp} (h : H a = some (SeqO t xs)) : SeqG K a xs t H := by
  cases t
  · exact SqT.of h
  · exact SqL.of h
theorem SeqG.or {K : PySem.W.Frag} {a : Addr} {xs : List V} {t : Bool} {H : Hp} (h : SeqG K a xs t H) : SqL K H a xs ∨ SqT K H a xs := by
  cases t
  · exact .inr h
  · exact .inl h
theorem seqO_ne {t : Bool} {xs : List V} {kvs : List (Key × V)} : SeqO t xs ≠ .dK kvs := by
  cases t <;> (intro z; cases z)
theorem But.seq {a p : Addr} {H H' : Hp} {t : Bool} {xs : List V} {kvs : List (Key × V)} (x : But a H H') (ha : H a = some (.dK kvs)) (e : H p = some (SeqO t xs)) : H' p = some (SeqO t xs) := x p _ (ne_of e ha seqO_ne) e
theorem walk_seq {K : PySem.W.Frag} {a : Addr} {xs : List V} {t : Bool} : Walk (SeqJ K a t) xs.length (SeqG K a xs t) (YAt xs) := by
  cases t
  · exact walk_tup
  · exact walk_list
def iSeq (K : PySem.W.Frag) (tl : TE) : TI := fun σ H R => tl σ H fun x H1 => ∃ a xs t, x = .ref a ∧ SeqG K a xs t H1 ∧ R (SeqJ K a t) H1
theorem pi_seq {X : Cx} {tg l : Expr} {tl : TE} (hl : PE X l tl) : PI X tg l (iSeq X.K tl) := by
  refine ⟨fun pins s σ H R I h => ?_⟩
  refine thn (hl.run pins s σ H _ I h) fun v s1 ⟨x, H1, I1, r1, q1⟩ => ?_
  obtain ⟨a, xs, t, e, hq, q⟩ := q1
  subst e
  cases r1
  cases t with
  | true =>
    obtain ⟨its, rv, p, hz⟩ := I1.list hq
    refine wpAny_pyIter_list p.isList ?_
    refine ⟨s1.heap.objs.size, [s1.heap.objs.size], _, _, H1, rfl, I1.kept (t' := s1.toks) fun b o e => Heap.get?_push_of_some _ e, turn_list a _, ⟨_, Heap.get?_push_size _ rfl, rfl, rfl⟩, fun b hb => ?_, q⟩
    have e : b = s1.heap.objs.size := by simpa using hb
    subst e
    exact I1.fpOk (Nat.le_refl _) (I1.hok.fresh (Nat.le_refl _))
  | false =>
    obtain ⟨its, rv, p, hz⟩ := I1.tuple hq
    refine wpAny_pyIter_tuple (show s1.heap.IsTuple a its.toArray from p) ?_
    refine ⟨s1.heap.objs.size, [s1.heap.objs.size], _, _, H1, rfl, I1.kept (t' := s1.toks) fun b o e => Heap.get?_push_of_some _ e, turn_tuple a _, ⟨_, Heap.get?_push_size _ rfl, rfl, rfl⟩, fun b hb => ?_, q⟩
    have e : b = s1.heap.objs.size := by simpa using hb
    subst e
    exact I1.fpOk (Nat.le_refl _) (I1.hok.fresh (Nat.le_refl _))
theorem sm_take {α : Type} {l : List α} {i : Nat} {a : α} (f : α → Nat) (h : l[i]? = some a) : sm (l.take (i + 1)) f = sm (l.take i) f + f a := by
  unfold sm
  rw [List.take_add_one, h, List.map_append, List.sum_append]
  simp
theorem sm_range (f : Nat → Nat) (i : Nat) : sm (List.range (i + 1)) f = sm (List.range i) f + f i := by
  unfold sm
  rw [range_take_succ, List.sum_append]
  simp
theorem good_nil (D : Nat) : Good D [] := ⟨List.nodup_nil, fun q hq => (List.not_mem_nil hq).elim⟩
section
variable {P : Program} {w : World} {K : PySem.W.Frag} {mg : Str → Option Value} {base : Heap}
/-! _law_silent_chance -/
def spSilCh : Sp := fun vs H Q _ => ∃ (v : V) (l : Addr) (t : Bool) (b : Br) (chs : List Bits) (D : Nat), vs = [v, .ref l] ∧ IsBr H v b ∧ BrOk 2 b ∧ H l = some (SeqO t (chs.map fun x => .str (St x))) ∧ (∀ x ∈ chs, x.length ≤ 1000) ∧ chs.length ≤ 1000 ∧ 0 < D ∧ D < 2 ^ 60 ∧ chs.length * 27720 ^ 2 ∣ D ∧
  (sm chs fun x => b.wt x (D / chs.length)) < 2 ^ 150 ∧ ∀ p H', Same H H' → FrAt H' p ((sm chs fun x => b.wt x (D / chs.length) : Nat) : Int) D → Q (.ref p) H'
abbrev n_law_silent_chance : List Str := ["_law_breaker_here", "_law_challenges", "_law_counts", "_law_challenge"]
theorem sc_law_silent_chance : FnScope n_law_silent_chance ["_law_breaker_here", "_law_challenges"] (defScope s_law_silent_chance) := ⟨rfl, rfl, rfl, by decide +kernel, rfl, by decide +kernel, by decide +kernel⟩
theorem c_law_silent_chance (T : Tx w K mg) : C8.Cal P w K mg base 6 "_law_silent_chance" spSilCh [] := by
  obtain ⟨fd, F⟩ := T.f_law_silent_chance
  refine calD F T.g_law_silent_chance (F.bindsN fun _ _ _ _ _ _ us hl => match us, hl with | [_, _], _ => rfl) sc_law_silent_chance (fun vs H Q E h => ?_) (fun cdv A outer s H vs Q E hr h => ?_)
  · obtain ⟨v, l, t, b, chs, D, rfl, _⟩ := h
    rfl
  obtain ⟨v, l, t, b, chs, D, rfl, hb, bo, hl, hx, hn, hD, hD2, hdv, hT, q⟩ := h
  refine ⟨_, (pss_cons (ps_set (i := 2) sc_law_silent_chance.nd rfl (Or.inl rfl) pe_dnewK)
    (pss_cons (ps_for PassesOwn.never rfl (pi_seq (pv 1)) (pg_name (i := 3) sc_law_silent_chance.nd rfl (Or.inl rfl))
    (pss_one (ps_expr (C8.pe_c (c_law_silent T 2) hr (by omega) rfl (pa_cons (pv 0) (pa_cons (pv 3) (pa_cons (pe_callB call_len_seq (by rfl) T.n_len PySem.boot_len (pa_cons (pv 1) pa_nil)) (pa_cons (pv 2) pa_nil))))))))
    (pss_one (ps_ret (C8.pe_c (c_law_sum T) hr (by omega) rfl (pa_cons (pv 2) pa_nil)))))), ?_⟩
  intro a ha
  have sa := same_new ha (.dK [])
  refine ⟨_, rfl, l, _, t, rfl, SeqG.of (sa _ _ hl), ?_⟩
  refine for_it (walk_seq (K := K) (a := l) (xs := chs.map fun x => V.str (St x)) (t := t)) (fun i σ H' => ∃ (z : Option V) (c : Cnt), σ = [some v, some (.ref l), some (.ref a), z] ∧ Cts D [] c (sm (chs.take i) fun x => b.wt x (D / chs.length)) (i * 144) ∧ But a (upd H a (.dK [])) H' ∧ H' a = some (.dK (cntD c))) ?_ (fun i σ H' _ h => by obtain ⟨_, _, _, _, bt, _⟩ := h; exact SeqG.of (bt.seq upd_same (sa _ _ hl))) ?_ ?_
  · exact ⟨none, [], rfl, .refl (good_nil D) _, But.refl _ _, upd_same⟩
  · rintro i y σ H1 H' hi ⟨z, c, rfl, ct, bt, hc⟩ ⟨rfl, hy⟩
    rw [List.getElem?_map] at hy
    rw [List.length_map] at hi
    rw [List.getElem?_eq_getElem hi] at hy
    have hy : V.str (St chs[i]) = y := Option.some.inj hy
    subst hy
    have hl1 := bt.seq upd_same (sa _ _ hl)
    have kt : Kt H H' := (Kt.of sa).trans (.but bt upd_same)
    refine ⟨_, rfl, _, rfl, _, rfl, l, _, rfl, (SeqG.of hl1).or, _, rfl, v, chs[i], chs.length, a, b, c, D, ?_, hb.kt kt, bo, hx _ (List.getElem_mem hi), hD, hD2, hdv, hc, ct.good, ?_, fun c2 H2 ct2 bt2 hc2 => ?_⟩
    · rw [List.length_map]
      rfl
    · have := ct.len
      show c.length + 144 ≤ 900000
      simp only [List.length_nil] at this
      omega
    · refine ⟨some (.str (St chs[i])), c2, rfl, ?_, bt.trans bt2, hc2⟩
      have := ct.trans ct2
      rw [sm_take _ (List.getElem?_eq_getElem hi), Nat.add_mul, Nat.one_mul]
      exact this
  · rintro σ H' ⟨z, c, rfl, ct, bt, hc⟩
    rw [List.length_map, List.take_length] at ct
    have es : wsum D c = sm chs fun x => b.wt x (D / chs.length) := by
      rw [ct.sum]
      show 0 + _ = _
      omega
    refine ⟨_, rfl, a, c, D, rfl, hc, ct.good, hD, hD2, by rw [es]; exact hT, fun p H2 s2 hp => ?_⟩
    rw [es] at hp
    refine q p H2 (fun b o e => ?_) hp
    have hne : b ≠ a := ne_of_none e ha
    exact s2 _ _ (bt _ _ hne (sa _ _ e))
/-! _law_generator_gain -/
def gainT (b : Br) (rows : List Bits) (m D : Nat) : Int := ((sm rows fun x => b.wt x (D / rows.length) : Nat) : Int) - ((sm (bstr m) fun x => b.wt x (D / (bstr m).length) : Nat) : Int)
def spGain : Sp := fun vs H Q _ => ∃ (v : V) (p : Addr) (b : Br) (n m : Nat) (rows : List Bits) (D : Nat), vs = [v, .ref p] ∧ IsBr H v b ∧ BrOk 2 b ∧ GenV H p n m rows ∧ (∀ x ∈ rows, x.length ≤ 1000) ∧ rows.length ≤ 1000 ∧ m ≤ 9 ∧ 0 < D ∧ D < 2 ^ 60 ∧ rows.length * 27720 ^ 2 ∣ D ∧ 2 ^ m * 27720 ^ 2 ∣ D ∧
  (sm rows fun x => b.wt x (D / rows.length)) < 2 ^ 150 ∧ (sm (bstr m) fun x => b.wt x (D / (bstr m).length)) < 2 ^ 150 ∧ ∀ p H', Same H H' → FrAt H' p (gainT b rows m D) D → Q (.ref p) H'
abbrev n_law_generator_gain : List Str := ["_law_breaker_here", "_law_table"]
theorem sc_law_generator_gain : FnScope n_law_generator_gain ["_law_breaker_here", "_law_table"] (defScope s_law_generator_gain) := ⟨rfl, rfl, rfl, by decide +kernel, rfl, by decide +kernel, by decide +kernel⟩
theorem c_law_generator_gain (T : Tx w K mg) : C8.Cal P w K mg base 7 "_law_generator_gain" spGain [] := by
  obtain ⟨fd, F⟩ := T.f_law_generator_gain
  refine calD F T.g_law_generator_gain (F.bindsN fun _ _ _ _ _ _ us hl => match us, hl with | [_, _], _ => rfl) sc_law_generator_gain (fun vs H Q E h => ?_) (fun cdv A outer s H vs Q E hr h => ?_)
  · obtain ⟨v, p, b, n, m, rows, D, rfl, _⟩ := h
    rfl
  obtain ⟨v, p, b, n, m, rows, D, rfl, hb, bo, ⟨t, hp, ht⟩, hx, hn, hm, hD, hD2, hdv, hdv2, hT, hT2, q⟩ := h
  refine ⟨_, (pss_one (ps_ret (C8.pe_c (c_law_less T) hr (by omega) rfl (pa_cons (C8.pe_c (c_law_silent_chance T) hr (by omega) rfl (pa_cons (pv 0) (pa_cons (pe_ix (r := rIxT K) ix_tup (pv 1) pe_int (fun _ _ => rfl)) pa_nil))) (pa_cons (C8.pe_c (c_law_silent_chance T) hr (by omega) rfl (pa_cons (pv 0) (pa_cons (C8.pe_c (c_law_strings T) hr (by omega) rfl (pa_cons (pe_ix (r := rIxT K) ix_tup (pv 1) pe_int (fun _ _ => rfl)) pa_nil)) pa_nil))) pa_nil))))), ?_⟩
  have hm2 := pow_small hm
  refine ⟨_, rfl, _, rfl, p, _, _, _, rfl, rfl, SqT.of hp, rfl, v, t, false, b, rows, D, rfl, hb, bo, ht, hx, hn, hD, hD2, hdv, hT, fun p1 H1 s1 f1 => ?_⟩
  refine ⟨_, rfl, _, rfl, p, _, _, _, rfl, rfl, SqT.of (s1 _ _ hp), rfl, m, rfl, hm, fun l H2 s2 _ hl => ?_⟩
  refine ⟨v, l, true, b, bstr m, D, rfl, hb.kt (.of (s1.trans s2)), bo, hl, fun x hx => by rw [bstr_mem hx]; omega, by rw [bstr_length]; omega, hD, hD2, by rw [bstr_length]; exact hdv2, hT2, fun p2 H3 s3 f2 => ?_⟩
  refine ⟨p1, p2, _, _, D, rfl, (f1.same s2).same s3, f2, hD, hD2, ?_, ?_, fun p3 H4 s4 f3 => q p3 H4 (s1.trans (s2.trans (s3.trans s4))) f3⟩
  · rw [Int.natAbs_natCast]
    exact hT
  · rw [Int.natAbs_natCast]
    exact hT2
end
end Bk

set_option Elab.async false
set_option linter.all false
set_option maxRecDepth 100000
set_option maxHeartbeats 4000000
namespace Bk
open PySem PySem.Spec PyProof.Rows L2
section
variable {P : Program} {w : World} {K : PySem.W.Frag} {mg : Str → Option Value} {base : Heap}
/-- a row of a generator, cut as the law cuts it -/
theorem row_cut {n : Nat} {r : Bits} (h : r.length = n + 1) : cutS (St r) none (some (n : Int)) = St r.dropLast ∧ cutS (St r) (some (n : Int)) none = St [r.getLastD false] := by
  obtain ⟨s1, s2⟩ := split_last h
  have c := cut_snoc (b := r.getLastD false) s2
  rw [← s1] at c
  rw [cut_to, cut_from, c.1, c.2]
  exact ⟨rfl, rfl⟩
/-! _law_longer -/
abbrev n_law_longer : List Str := ["_law_table", "_law_k", "_law_n", "_law_rows", "_law_number_here", "_law_state", "_law_out", "_law_at", "_law_row"]
theorem sc_law_longer : FnScope n_law_longer ["_law_table", "_law_k"] (defScope s_law_longer) := ⟨rfl, rfl, rfl, by decide +kernel, rfl, by decide +kernel, by decide +kernel⟩
theorem c_law_longer (T : Tx w K mg) : C8.Cal P w K mg base 2 "_law_longer" spLonger [] := by
  obtain ⟨fd, F⟩ := T.f_law_longer
  refine calD F T.g_law_longer (F.bindsN fun _ _ _ _ _ _ us hl => match us, hl with | [_, _], _ => rfl) sc_law_longer (fun vs H Q E h => ?_) (fun cdv A outer s H vs Q E hr h => ?_)
  · obtain ⟨p, n, k, rows, rfl, _⟩ := h
    rfl
  obtain ⟨p, n, k, rows, rfl, ⟨t, hp, ht⟩, g, hk1, hk2, q⟩ := h
  have hn9 := g.n2
  have hn2 : 2 ^ n ≤ 512 := pow_small g.n2
  refine ⟨_, (pss_cons (ps_set (i := 2) sc_law_longer.nd rfl (Or.inl rfl) (pe_ix (r := rIxT K) ix_tup (pv 0) pe_int (fun _ _ => rfl)))
    (pss_cons (ps_set (i := 3) sc_law_longer.nd rfl (Or.inl rfl) (pe_lst pa_nil))
    (pss_cons (ps_for PassesOwn.never rfl (pi_range1 rfl T.n_range (pa_cons (pe_op op_shl pe_int (pv 2)) pa_nil)) (pg_name (i := 4) sc_law_longer.nd rfl (Or.inl rfl))
    (pss_cons (ps_set (i := 5) sc_law_longer.nd rfl (Or.inl rfl) (C8.pe_c (c_law_bits T) hr (by omega) rfl (pa_cons (pv 2) (pa_cons (pv 4) pa_nil))))
    (pss_cons (ps_set (i := 6) sc_law_longer.nd rfl (Or.inl rfl) pe_str)
    (pss_cons (ps_for PassesOwn.never rfl (pi_range1 rfl T.n_range (pa_cons (pv 1) pa_nil)) (pg_name (i := 7) sc_law_longer.nd rfl (Or.inl rfl))
    (pss_cons (ps_set (i := 8) sc_law_longer.nd rfl (Or.inl rfl) (pe_ix (r := rIxT K) ix_tup (pe_ix (r := rIxT K) ix_tup (pv 0) pe_int (fun _ _ => rfl)) (C8.pe_c (c_law_number T) hr (by omega) rfl (pa_cons (pv 5) pa_nil)) (fun _ _ => rfl)))
    (pss_cons (ps_set (i := 5) sc_law_longer.nd rfl (Or.inl rfl) (pe_slice sl_str (pv 8) po_none (po_some (pv 2))))
    (pss_one (ps_set (i := 6) sc_law_longer.nd rfl (Or.inl rfl) (pe_op op_add_str (pv 6) (pe_slice sl_str (pv 8) (po_some (pv 2)) po_none)))))))
    (pss_one (ps_expr (pe_bm PySem.F.plainAttrs_list PySem.F.slot_list_append PySem.F.type_list_append mt_append (pv 3) (pa_cons (pe_op op_add_str (pv 6) (pv 5)) pa_nil))))))))
    (pss_one (ps_ret (pe_tup (pa_cons pe_str (pa_cons (pv 2) (pa_cons (pe_op op_add (pv 2) (pv 1)) (pa_cons (pe_callTy call_tuple_of (by rfl) T.n_tuple (by decide +kernel) (pa_cons (pv 3) pa_nil)) pa_nil)))))))))), ?_⟩
  refine ⟨_, rfl, p, _, _, _, rfl, rfl, SqT.of hp, rfl, ?_⟩
  refine ⟨Nat.zero_le _, fun l hl => ?_⟩
  refine ⟨_, rfl, _, _, rfl, rfl, ⟨by omega, by omega, by decide⟩, _, rfl, by rw [two_pow_int]; exact Int.le_trans (by decide) (Int.natCast_nonneg _), by rw [two_pow_int]; omega, ?_⟩
  refine for_range (lo := 0) (n := ((1 : Int) * 2 ^ (n : Int).toNat).toNat) (fun i σ H' => ∃ (z1 z2 z3 z4 z5 : Option V), σ = [some (.ref p), some (.int k), some (.int n), some (.ref l), z1, z2, z3, z4, z5] ∧ H' = upd H l (.lst ((List.range i).map fun v => V.str (St (out rows k (bitsOf n v)))))) ⟨none, none, none, none, none, rfl, rfl⟩ ?_ ?_
  · rintro i σ H' hi ⟨z1, z2, z3, z4, z5, rfl, rfl⟩
    rw [two_pow_int, Int.toNat_natCast] at hi
    have si := same_new hl (.lst ((List.range i).map fun v => V.str (St (out rows k (bitsOf n v)))))
    refine ⟨_, rfl, _, rfl, n, i, ?_, by omega, ?_⟩
    · show [V.int n, V.int (0 + (i : Int))] = _
      rw [Int.zero_add]
    refine ⟨_, rfl, (k : Int), rfl, by omega, by omega, ?_⟩
    refine for_range (lo := 0) (n := (k : Int).toNat) (fun j σ H' => ∃ (z4 z5 : Option V) (st o : Bits), σ = [some (.ref p), some (.int k), some (.int n), some (.ref l), some (.int (0 + (i : Int))), some (.str (St st)), some (.str (St o)), z4, z5] ∧ H' = upd H l (.lst ((List.range i).map fun v => V.str (St (out rows k (bitsOf n v))))) ∧ st.length = n ∧ o.length = j ∧ o ++ out rows (k - j) st = out rows k (bitsOf n i)) ?_ ?_ ?_
    · exact ⟨z4, z5, bitsOf n i, [], by rw [← St_nil]; rfl, rfl, bitsOf_length n i, rfl, rfl⟩
    · rintro j σ H' hj ⟨z4, z5, st, o, rfl, rfl, hst, ho, e⟩
      have hj' : j < k := by simpa using hj
      obtain ⟨r, hr1, hr2, hr3⟩ := g.ok.at_ hst
      obtain ⟨m, hm⟩ : ∃ m, k - j = m + 1 := ⟨k - j - 1, by omega⟩
      obtain ⟨s1, s2⟩ := split_last hr3
      have cc := row_cut hr3
      have sz : (St r).length ≤ sizeLine := by rw [St_len]; exact line1000 (by omega)
      refine ⟨_, rfl, p, _, _, _, rfl, rfl, SqT.of (si _ _ hp), rfl, _, rfl, st, rfl, by omega, t, _, _, _, rfl, rfl, SqT.of (si _ _ ht), atI_nat (j := num st) (v := .str (St r)) (by rw [List.getElem?_map, hr1] <;> rfl), ?_⟩
      refine ⟨_, rfl, _, rfl, _, rfl, _, rfl, sz, ?_⟩
      refine ⟨_, rfl, _, rfl, _, rfl, _, rfl, _, rfl, sz, _, _, rfl, rfl, ?_, ?_⟩
      · rw [cc.2, St_len, St_len]
        exact line1000 (by simp only [List.length_cons, List.length_nil]; omega)
      · refine ⟨some (.int (0 + (j : Int))), some (.str (St r)), r.dropLast, o ++ [r.getLastD false], ?_, rfl, s2, ?_, ?_⟩
        · show [some (V.ref p), some (V.int k), some (V.int n), some (V.ref l), some (V.int (0 + (i : Int))), some (V.str (cutS (St r) none (some (n : Int)))), some (V.str (St o ++ cutS (St r) (some (n : Int)) none)), some (V.int (0 + (j : Int))), some (V.str (St r))] = _
          rw [cc.1, cc.2, St_append]
        · rw [List.length_append, ho]
          rfl
        · rw [← e, hm, show k - (j + 1) = m by omega, List.append_assoc]
          show o ++ ((r.getLastD false) :: out rows m r.dropLast) = o ++ ((row rows st).getLastD false :: out rows m (row rows st).dropLast)
          rw [hr2]
    · rintro σ H' ⟨z4, z5, st, o, rfl, rfl, hst, ho, e⟩
      have e0 : k - (k : Int).toNat = 0 := by simp
      rw [e0] at e
      have e2 : o ++ st = out rows k (bitsOf n i) := e
      have h1 : (k : Int).toNat = k := by simp
      refine ⟨_, rfl, .inl ⟨rfl, _, SqL.of upd_same⟩, _, rfl, _, rfl, _, _, rfl, rfl, ?_, l, _, _, rfl, rfl, upd_same, ?_, ?_⟩
      · rw [St_len, St_len]
        exact line1000 (by omega)
      · rw [List.length_map, List.length_range]
        exact lt1000 (by omega)
      · refine ⟨some (.int (0 + (i : Int))), some (.str (St st)), some (.str (St o)), z4, z5, rfl, ?_⟩
        rw [upd_upd, range_take_succ, ← e2, St_append]
  · rintro σ H' ⟨z1, z2, z3, z4, z5, rfl, rfl⟩
    rw [two_pow_int, Int.toNat_natCast]
    refine ⟨_, rfl, _, rfl, _, rfl, _, _, rfl, rfl, _, rfl, l, _, rfl, .inl ⟨SqL.of upd_same, fun l2 hl2 => ?_⟩⟩
    refine ⟨by show 4 ≤ sizeLine; decide, fun p' hp' => ?_⟩
    refine q _ _ (same_upd (same_upd (same_new hl _) hl2 _) hp' _) ⟨l2, ?_, ?_⟩
    · rw [upd_same]
      show some (HO.tup [.str "generator", .int n, .int ((n : Int) + (k : Int)), .ref l2]) = _
      have e : ((n : Int) + (k : Int)) = ((n + k : Nat) : Int) := by omega
      rw [e]
    · rw [upd_ne (ne_of_none upd_same hp'), upd_same]
      unfold longerT bstr
      rw [List.map_map, List.map_map]
      rfl
end
end Bk

set_option Elab.async false
set_option linter.all false
set_option maxRecDepth 100000
set_option maxHeartbeats 4000000
namespace Bk
open PySem PySem.Spec PyProof.Rows L2
theorem Cts.mono {D : Nat} {c c' : Cnt} {a m n : Nat} (x : Cts D c c' a m) (h : m ≤ n) : Cts D c c' a n := ⟨x.good, x.sum, Nat.le_trans x.len (Nat.add_le_add_left h _)⟩
/-- what the made breaker hands to its inner one -/
def hand (n : Nat) (rows : List Bits) (k i : Nat) (ch p : Bits) : Bits := p ++ (ch.drop n ++ out rows (k - i - 1) (ch.take n))
/-- the weight of the made breaker -/
def madeT (b : Br) (n : Nat) (rows : List Bits) (k : Nat) (chs : List Bits) (D : Nat) : Nat :=
  sm chs fun ch => sm (List.range k) fun i => sm (bstr i) fun p => b.wt (hand n rows k i ch p) (D / (chs.length * k * 2 ^ i))
section
variable {P : Program} {w : World} {K : PySem.W.Frag} {mg : Str → Option Value} {base : Heap}
/-! _law_made_chance -/
def spMadeCh : Sp := fun vs H Q _ => ∃ (v : V) (p l : Addr) (t : Bool) (b : Br) (n k : Nat) (rows chs : List Bits) (D : Nat), vs = [v, .ref p, .int k, .ref l] ∧ IsBr H v b ∧ BrOk 2 b ∧ GenV H p n (n + 1) rows ∧ GenB n (n + 1) rows ∧ 1 ≤ k ∧ k ≤ 9 ∧
  H l = some (SeqO t (chs.map fun x => .str (St x))) ∧ (∀ x ∈ chs, x.length = n + 1) ∧ chs.length ≤ 1000 ∧ chs.length * (k * (2 ^ k * 144)) ≤ 800000 ∧ 0 < D ∧ D < 2 ^ 60 ∧ (∀ i, i < k → chs.length * k * 2 ^ i * 27720 ^ 2 ∣ D) ∧
  madeT b n rows k chs D < 2 ^ 150 ∧ ∀ p H', Same H H' → FrAt H' p (madeT b n rows k chs D : Nat) D → Q (.ref p) H'
abbrev n_law_made_chance : List Str := ["_law_breaker_here", "_law_table", "_law_k", "_law_challenges", "_law_n", "_law_counts", "_law_challenge", "_law_i", "_law_state", "_law_rest", "_law_at", "_law_row", "_law_p"]
theorem sc_law_made_chance : FnScope n_law_made_chance ["_law_breaker_here", "_law_table", "_law_k", "_law_challenges"] (defScope s_law_made_chance) := ⟨rfl, rfl, rfl, by decide +kernel, rfl, by decide +kernel, by decide +kernel⟩
theorem c_law_made_chance (T : Tx w K mg) : C8.Cal P w K mg base 6 "_law_made_chance" spMadeCh [] := by
  obtain ⟨fd, F⟩ := T.f_law_made_chance
  refine calD F T.g_law_made_chance (F.bindsN fun _ _ _ _ _ _ us hl => match us, hl with | [_, _, _, _], _ => rfl) sc_law_made_chance (fun vs H Q E h => ?_) (fun cdv A outer s H vs Q E hr h => ?_)
  · obtain ⟨v, p, l, t, b, n, k, rows, chs, D, rfl, _⟩ := h
    rfl
  obtain ⟨v, p, l, t, b, n, k, rows, chs, D, rfl, hb, bo, ⟨tb, hp, ht⟩, g, hk1, hk9, hl, hx, hn, hcnt, hD, hD2, hdv, hT, q⟩ := h
  have hn9 := g.n2
  refine ⟨_, (pss_cons (ps_set (i := 4) sc_law_made_chance.nd rfl (Or.inl rfl) (pe_ix (r := rIxT K) ix_tup (pv 1) pe_int (fun _ _ => rfl)))
    (pss_cons (ps_set (i := 5) sc_law_made_chance.nd rfl (Or.inl rfl) pe_dnewK)
    (pss_cons (ps_for PassesOwn.never rfl (pi_seq (pv 3)) (pg_name (i := 6) sc_law_made_chance.nd rfl (Or.inl rfl))
    (pss_one (ps_for PassesOwn.never rfl (pi_range1 rfl T.n_range (pa_cons (pv 2) pa_nil)) (pg_name (i := 7) sc_law_made_chance.nd rfl (Or.inl rfl))
    (pss_cons (ps_set (i := 8) sc_law_made_chance.nd rfl (Or.inl rfl) (pe_slice sl_str (pv 6) po_none (po_some (pv 4))))
    (pss_cons (ps_set (i := 9) sc_law_made_chance.nd rfl (Or.inl rfl) (pe_slice sl_str (pv 6) (po_some (pv 4)) po_none))
    (pss_cons (ps_for PassesOwn.never rfl (pi_range1 rfl T.n_range (pa_cons (pe_op op_sub (pe_op op_sub (pv 2) (pv 7)) pe_int) pa_nil)) (pg_name (i := 10) sc_law_made_chance.nd rfl (Or.inl rfl))
    (pss_cons (ps_set (i := 11) sc_law_made_chance.nd rfl (Or.inl rfl) (pe_ix (r := rIxT K) ix_tup (pe_ix (r := rIxT K) ix_tup (pv 1) pe_int (fun _ _ => rfl)) (C8.pe_c (c_law_number T) hr (by omega) rfl (pa_cons (pv 8) pa_nil)) (fun _ _ => rfl)))
    (pss_cons (ps_set (i := 8) sc_law_made_chance.nd rfl (Or.inl rfl) (pe_slice sl_str (pv 11) po_none (po_some (pv 4))))
    (pss_one (ps_set (i := 9) sc_law_made_chance.nd rfl (Or.inl rfl) (pe_op op_add_str (pv 9) (pe_slice sl_str (pv 11) (po_some (pv 4)) po_none)))))))
    (pss_one (ps_for PassesOwn.never rfl (pi_list (C8.pe_c (c_law_strings T) hr (by omega) rfl (pa_cons (pv 7) pa_nil))) (pg_name (i := 12) sc_law_made_chance.nd rfl (Or.inl rfl))
    (pss_one (ps_expr (C8.pe_c (c_law_silent T 2) hr (by omega) rfl (pa_cons (pv 0) (pa_cons (pe_op op_add_str (pe_op op_add_str (pv 12) (pv 9)) (pv 8)) (pa_cons (pe_op op_shl (pe_op op_mul (pe_callB call_len_seq (by rfl) T.n_len PySem.boot_len (pa_cons (pv 3) pa_nil)) (pv 2)) (pv 7)) (pa_cons (pv 5) pa_nil)))))))))))))))
    (pss_one (ps_ret (C8.pe_c (c_law_sum T) hr (by omega) rfl (pa_cons (pv 5) pa_nil))))))), ?_⟩
  refine ⟨_, rfl, p, _, _, _, rfl, rfl, SqT.of hp, rfl, ?_⟩
  intro a ha
  have sa := same_new ha (.dK [])
  refine ⟨_, rfl, l, _, t, rfl, SeqG.of (sa _ _ hl), ?_⟩
  have ktA : ∀ {H' : Hp}, But a (upd H a (.dK [])) H' → Kt H H' := fun bt => (Kt.of sa).trans (.but bt upd_same)
  have lenB : ∀ {c : Cnt} {T0 N : Nat}, Cts D [] c T0 N → N + 144 ≤ 900000 → c.length + 12 ^ 2 ≤ 900000 := fun {c T0 N} ct h => by
    have := ct.len
    simp only [List.length_nil] at this
    show c.length + 144 ≤ 900000
    omega
  generalize hM : 2 ^ k * 144 = M at hcnt
  have pw : ∀ i, i < k → 2 ^ i * 144 ≤ M := fun i hi => by
    rw [← hM]
    exact Nat.mul_le_mul_right _ (Nat.pow_le_pow_right (by decide) (by omega))
  refine for_it (walk_seq (K := K) (a := l) (xs := chs.map fun x => V.str (St x)) (t := t)) (fun i0 σ H' => ∃ (z1 z2 z3 z4 z5 z6 z7 : Option V) (c : Cnt), σ = [some v, some (.ref p), some (.int k), some (.ref l), some (.int n), some (.ref a), z1, z2, z3, z4, z5, z6, z7] ∧ Cts D [] c (sm (chs.take i0) fun ch => sm (List.range k) fun i => sm (bstr i) fun p => b.wt (hand n rows k i ch p) (D / (chs.length * k * 2 ^ i))) (i0 * (k * M)) ∧ But a (upd H a (.dK [])) H' ∧ H' a = some (.dK (cntD c))) ?_ (fun i σ H' _ h => by obtain ⟨_, _, _, _, _, _, _, _, _, _, bt, _⟩ := h; exact SeqG.of (bt.seq upd_same (sa _ _ hl))) ?_ ?_
  · exact ⟨none, none, none, none, none, none, none, [], rfl, .refl (good_nil D) _, But.refl _ _, upd_same⟩
  · rintro i0 y σ H1 H' hi ⟨z1, z2, z3, z4, z5, z6, z7, c, rfl, ct, bt, hc⟩ ⟨rfl, hy⟩
    rw [List.getElem?_map] at hy
    rw [List.length_map] at hi
    rw [List.getElem?_eq_getElem hi] at hy
    have hy : V.str (St chs[i0]) = y := Option.some.inj hy
    subst hy
    have hch := hx _ (List.getElem_mem hi)
    have sN : (i0 + 1) * (k * M) ≤ 800000 := Nat.le_trans (Nat.mul_le_mul_right _ (by omega)) hcnt
    rw [Nat.add_mul, Nat.one_mul] at sN
    have hget := List.getElem?_eq_getElem hi
    generalize chs[i0] = ch at hch hget
    refine ⟨_, rfl, _, rfl, by omega, by omega, ?_⟩
    refine for_range (lo := 0) (n := (k : Int).toNat) (fun i σ H' => ∃ (z2 z3 z4 z5 z6 z7 : Option V) (c2 : Cnt), σ = [some v, some (.ref p), some (.int k), some (.ref l), some (.int n), some (.ref a), some (.str (St ch)), z2, z3, z4, z5, z6, z7] ∧ Cts D c c2 (sm (List.range i) fun i => sm (bstr i) fun p => b.wt (hand n rows k i ch p) (D / (chs.length * k * 2 ^ i))) (i * M) ∧ But a (upd H a (.dK [])) H' ∧ H' a = some (.dK (cntD c2))) ?_ ?_ ?_
    · exact ⟨z2, z3, z4, z5, z6, z7, c, rfl, by rw [Nat.zero_mul]; exact .refl ct.good _, bt, hc⟩
    · rintro i σ H' hik ⟨z2, z3, z4, z5, z6, z7, c2, rfl, ct2, bt2, hc2⟩
      have hik' : i < k := by simpa using hik
      have iN : (i + 1) * M ≤ k * M := Nat.mul_le_mul_right _ (by omega)
      rw [Nat.add_mul, Nat.one_mul] at iN
      have szc : (St ch).length ≤ sizeLine := by rw [St_len]; exact line1000 (by omega)
      refine ⟨_, rfl, _, rfl, _, rfl, _, rfl, szc, ?_⟩
      refine ⟨_, rfl, _, rfl, _, rfl, _, rfl, szc, ?_⟩
      rw [cut_to, cut_from]
      refine ⟨_, rfl, _, rfl, _, _, rfl, rfl, _, _, rfl, rfl, _, rfl, by omega, by omega, ?_⟩
      have em : ((k : Int) - (0 + (i : Int)) - 1).toNat = k - i - 1 := by omega
      refine for_range (lo := 0) (n := ((k : Int) - (0 + (i : Int)) - 1).toNat) (fun j σ H2 => ∃ (z5 z6 : Option V) (st o : Bits), σ = [some v, some (.ref p), some (.int k), some (.ref l), some (.int n), some (.ref a), some (.str (St ch)), some (.int (0 + (i : Int))), some (.str (St st)), some (.str (St o)), z5, z6, z7] ∧ H2 = H' ∧ st.length = n ∧ o.length = 1 + j ∧ o ++ out rows (k - i - 1 - j) st = ch.drop n ++ out rows (k - i - 1) (ch.take n)) ?_ ?_ ?_
      · refine ⟨z5, z6, ch.take n, ch.drop n, rfl, rfl, ?_, ?_, rfl⟩
        · rw [List.length_take, hch]
          omega
        · rw [List.length_drop, hch]
          omega
      · rintro j σ H2 hj ⟨z5, z6, st, o, rfl, rfl, hst, ho, e⟩
        rw [em] at hj
        have kt := ktA bt2
        obtain ⟨r, hr1, hr2, hr3⟩ := g.ok.at_ hst
        obtain ⟨m, hm⟩ : ∃ m, k - i - 1 - j = m + 1 := ⟨k - i - 1 - j - 1, by omega⟩
        obtain ⟨s1, s2⟩ := split_last hr3
        have cc := row_cut hr3
        have sz : (St r).length ≤ sizeLine := by rw [St_len]; exact line1000 (by omega)
        refine ⟨_, rfl, p, _, _, _, rfl, rfl, SqT.of (kt _ _ hp), rfl, _, rfl, st, rfl, by omega, tb, _, _, _, rfl, rfl, SqT.of (kt _ _ ht), atI_nat (j := num st) (v := .str (St r)) (by rw [List.getElem?_map, hr1] <;> rfl), ?_⟩
        refine ⟨_, rfl, _, rfl, _, rfl, _, rfl, sz, ?_⟩
        refine ⟨_, rfl, _, rfl, _, rfl, _, rfl, _, rfl, sz, _, _, rfl, rfl, ?_, ?_⟩
        · rw [cc.2, St_len, St_len]
          exact line1000 (by simp only [List.length_cons, List.length_nil]; omega)
        · refine ⟨some (.int (0 + (j : Int))), some (.str (St r)), r.dropLast, o ++ [r.getLastD false], ?_, rfl, s2, ?_, ?_⟩
          · rw [cc.1, cc.2, St_append]
            rfl
          · rw [List.length_append, ho]
            rfl
          · rw [← e, hm, show k - i - 1 - (j + 1) = m by omega, List.append_assoc]
            show o ++ ((r.getLastD false) :: out rows m r.dropLast) = o ++ ((row rows st).getLastD false :: out rows m (row rows st).dropLast)
            rw [hr2]
      · rintro σ H2 ⟨z5, z6, st, o, rfl, rfl, hst, ho, e⟩
        rw [em] at ho e
        have e0 : k - i - 1 - (k - i - 1) = 0 := by omega
        rw [e0] at e
        have e2 : o ++ st = ch.drop n ++ out rows (k - i - 1) (ch.take n) := e
        refine ⟨_, rfl, i, ?_, by omega, fun l2 H3 s3 hl2 hL => ?_⟩
        · show [V.int (0 + (i : Int))] = _
          rw [Int.zero_add]
        have kt3 : ∀ {H4 : Hp}, But a H3 H4 → Kt H H4 := fun bt4 => ktA ((bt2.trans (.of s3)).trans bt4)
        have ne2 : l2 ≠ a := fun z => by
          rw [z, hc2] at hl2
          cases hl2
        refine ⟨l2, rfl, ⟨_, SqL.of hL⟩, ?_⟩
        refine for_list (xs := (bstr i).map fun x => V.str (St x)) (fun u σ H4 => ∃ (z7 : Option V) (c3 : Cnt), σ = [some v, some (.ref p), some (.int k), some (.ref l), some (.int n), some (.ref a), some (.str (St ch)), some (.int (0 + (i : Int))), some (.str (St st)), some (.str (St o)), z5, z6, z7] ∧ Cts D c2 c3 (sm ((bstr i).take u) fun p => b.wt (hand n rows k i ch p) (D / (chs.length * k * 2 ^ i))) (u * 144) ∧ But a H3 H4 ∧ H4 a = some (.dK (cntD c3))) ?_ (fun u σ H4 _ h => by obtain ⟨_, _, _, _, bt4, _⟩ := h; exact SqL.of (bt4 _ _ ne2 hL)) ?_ ?_
        · exact ⟨z7, c2, rfl, by rw [Nat.zero_mul]; exact .refl ct2.good _, But.refl _ _, s3 _ _ hc2⟩
        · rintro u y σ H4 hu ⟨z7, c3, rfl, ct3, bt4, hc3⟩
          rw [List.getElem?_map] at hu
          cases hq : (bstr i)[u]? with
          | none =>
            rw [hq] at hu
            cases hu
          | some x =>
            rw [hq] at hu
            have hu : V.str (St x) = y := Option.some.inj hu
            subst hu
            have hxl : x.length = i := bstr_mem (List.mem_of_getElem? hq)
            have hul : u < 2 ^ i := by
              have := (List.getElem?_eq_some_iff.mp hq).1
              rw [bstr_length] at this
              exact this
            have uN : (u + 1) * 144 ≤ 2 ^ i * 144 := Nat.mul_le_mul_right _ (by omega)
            have := pw i hik'
            have btA := (bt2.trans (.of s3)).trans bt4
            refine ⟨_, rfl, _, rfl, _, rfl, _, _, rfl, rfl, ?_, _, rfl, _, _, rfl, rfl, ?_, ?_⟩
            · rw [St_len, St_len]
              exact line1000 (by omega)
            · rw [St_append, St_len, St_len, List.length_append]
              exact line1000 (by omega)
            have hp2 : (2 : Nat) ^ i ≤ 2 ^ 9 := Nat.pow_le_pow_right (by decide) (by omega)
            have hdv' := hdv i hik'
            have ctA := (ct.trans ct2).trans ct3
            refine ⟨_, rfl, l, _, rfl, (SeqG.of (btA.seq upd_same (sa _ _ hl))).or, _, rfl, _, _, rfl, rfl, .inr ⟨by omega, by omega⟩, _, rfl, _, _, rfl, rfl, ⟨by omega, by omega, ?_⟩, _, rfl, ?_⟩
            · rw [List.length_map, Int.natAbs_mul, Int.natAbs_natCast, Int.natAbs_natCast]
              have := Nat.mul_le_mul hn hk9
              exact Nat.lt_of_le_of_lt this (by decide)
            refine ⟨v, hand n rows k i ch x, chs.length * k * 2 ^ i, a, b, c3, D, ?_, hb.kt (kt3 bt4), bo, ?_, hD, hD2, hdv', hc3, ct3.good, lenB ctA ?_, fun c4 H5 ct5 bt5 hc5 => ?_⟩
            · rw [List.length_map, St_append, St_append, List.append_assoc, e2]
              unfold hand
              have : ((chs.length : Nat) : Int) * (k : Int) * 2 ^ (0 + (i : Int)).toNat = ((chs.length * k * 2 ^ i : Nat) : Int) := by
                rw [Int.zero_add, Int.toNat_natCast, Int.natCast_mul, Int.natCast_mul, Int.natCast_pow]
                rfl
              show [v, V.str (St (x ++ (List.drop n ch ++ out rows (k - i - 1) (List.take n ch)))), V.int (((chs.length : Nat) : Int) * (k : Int) * 2 ^ (0 + (i : Int)).toNat), V.ref a] = _
              rw [this]
            · unfold hand
              rw [← e2, List.length_append, List.length_append]
              omega
            · omega
            · refine ⟨_, c4, rfl, ?_, bt4.trans bt5, hc5⟩
              have := ct3.trans ct5
              rw [sm_take _ hq, Nat.add_mul, Nat.one_mul]
              exact this
        · rintro σ H4 ⟨z7, c3, rfl, ct3, bt4, hc3⟩
          rw [List.length_map, List.take_length, bstr_length] at ct3
          refine ⟨some (.int (0 + (i : Int))), some (.str (St st)), some (.str (St o)), z5, z6, z7, c3, rfl, ?_, (bt2.trans (.of s3)).trans bt4, hc3⟩
          rw [sm_range, Nat.add_mul, Nat.one_mul]
          exact ct2.trans (ct3.mono (pw i hik'))
    · rintro σ H' ⟨z2, z3, z4, z5, z6, z7, c2, rfl, ct2, bt2, hc2⟩
      rw [Int.toNat_natCast] at ct2
      refine ⟨some (.str (St ch)), z2, z3, z4, z5, z6, z7, c2, rfl, ?_, bt2, hc2⟩
      rw [sm_take _ hget, Nat.add_mul, Nat.one_mul]
      exact ct.trans ct2
  · rintro σ H' ⟨z1, z2, z3, z4, z5, z6, z7, c, rfl, ct, bt, hc⟩
    rw [List.length_map, List.take_length] at ct
    have es : wsum D c = madeT b n rows k chs D := by
      rw [ct.sum]
      show 0 + _ = _
      rw [Nat.zero_add]
      rfl
    refine ⟨_, rfl, a, c, D, rfl, hc, ct.good, hD, hD2, by rw [es]; exact hT, fun p H2 s2 hp => ?_⟩
    rw [es] at hp
    refine q p H2 (fun b o e => ?_) hp
    have hne : b ≠ a := ne_of_none e ha
    exact s2 _ _ (bt _ _ hne (sa _ _ e))
end
end Bk

set_option Elab.async false
set_option linter.all false
set_option maxRecDepth 100000
set_option maxHeartbeats 4000000
namespace Bk
open PySem PySem.Spec PyProof.Rows L2
/-- what an answer need not say -/
theorem PT.weak {X : Cx} {e : Expr} {t t' : TT} (h : PT X e t) (k : ∀ σ H Q, t' σ H Q → t σ H Q) : PT X e t' := ⟨fun pins s σ H Q I q => h.run pins s σ H Q I (k σ H Q q)⟩
theorem PE.weak {X : Cx} {e : Expr} {t t' : TE} (h : PE X e t) (k : ∀ σ H Q, t' σ H Q → t σ H Q) : PE X e t' := ⟨fun pins s σ H Q I q => h.run pins s σ H Q I (k σ H Q q)⟩
def PartOk (p : Part) : Prop := ∀ n, p = .num n → n ≤ 9999
section
variable {P : Program} {w : World} {K : PySem.W.Frag} {mg : Str → Option Value} {base : Heap}
def spParts : Sp := fun vs H Q _ => ∃ (τ : Tp) (n m : Nat), vs = [.ref τ.p, .int n, .int m] ∧ n ≤ 9 ∧ m ≤ 100 ∧ LT H τ ∧ ∀ (q : Addr) (ps : List Part) H', H' q = some (.tup (ps.map Part.v)) → PartsOk ps → LT H' τ → Dr H H' → Q (.ref q) H'
theorem part_mem {H : Hp} {z1 z2 m : Nat} (h1 : z1 ≤ 9999) (h2 : z2 ≤ 9999) {x : V} (h : x ∈ [V.str "0", V.str "1", V.int (z1 : Int), V.int (z2 : Int)]) : ∃ p : Part, x = p.v ∧ PartOk p := by
  rcases List.mem_cons.mp h with e | h
  · exact ⟨.bit false, e.trans (congrArg V.str St_zero), fun n z => by cases z⟩
  rcases List.mem_cons.mp h with e | h
  · exact ⟨.bit true, e.trans (congrArg V.str St_one), fun n z => by cases z⟩
  rcases List.mem_cons.mp h with e | h
  · exact ⟨.num z1, e, fun n z => by cases z; exact h1⟩
  · exact ⟨.num z2, List.mem_singleton.mp h, fun n z => by cases z; exact h2⟩
abbrev n_law_parts : List Str := ["_law_tape_here", "_law_size", "_law_seen", "_law_found", "_law_k"]
theorem sc_law_parts : FnScope n_law_parts ["_law_tape_here", "_law_size", "_law_seen"] (defScope s_law_parts) := ⟨rfl, rfl, rfl, by decide +kernel, rfl, by decide +kernel, by decide +kernel⟩
theorem c_law_parts (T : Tx w K mg) : C8.Cal P w K mg base 4 "_law_parts" spParts [] := by
  obtain ⟨fd, F⟩ := T.f_law_parts
  refine calD F T.g_law_parts (F.bindsN fun _ _ _ _ _ _ us hl => match us, hl with | [_, _, _], _ => rfl) sc_law_parts (fun vs H Q E h => ?_) (fun cdv A outer s H vs Q E hr h => ?_)
  · obtain ⟨τ, n, m, rfl, _⟩ := h
    rfl
  obtain ⟨τ, n, m, rfl, hn, hm, lt, q⟩ := h
  refine ⟨_, (pss_cons (ps_set (i := 3) sc_law_parts.nd rfl (Or.inl rfl) (pe_lst pa_nil))
    (pss_cons (ps_for PassesOwn.never rfl (pi_range1 rfl T.n_range (pa_cons (pv 1) pa_nil)) (pg_name (i := 4) sc_law_parts.nd rfl (Or.inl rfl))
    (pss_cons (ps_expr (pe_bm PySem.F.plainAttrs_list PySem.F.slot_list_append PySem.F.type_list_append mt_append (pv 3) (pa_cons (C8.pe_c (c_law_pick T) hr (by omega) rfl (pa_cons (pv 0) (pa_cons (pe_lst (pa_cons pe_str (pa_cons pe_str (pa_cons (C8.pe_c (c_law_draw T) hr (by omega) rfl (pa_cons (pv 0) (pa_cons (pe_op op_add (pv 2) pe_int) pa_nil))) (pa_cons (C8.pe_c (c_law_draw T) hr (by omega) rfl (pa_cons (pv 0) (pa_cons (pe_op op_add (pv 2) pe_int) pa_nil))) pa_nil))))) pa_nil))) pa_nil)))
    (pss_one (ps_if (pt_cmpR op_eq (C8.pe_c (c_law_draw T) hr (by omega) rfl (pa_cons (pv 0) (pa_cons pe_int pa_nil))) pe_int (nomark _)) (pss_one (ps_asg (C8.pe_c (c_law_draw T) hr (by omega) rfl (pa_cons (pv 0) (pa_cons pe_int pa_nil))) (pg_sub (pv 3) (pv 4) set_list))) pss_nil))))
    (pss_one (ps_ret (pe_callTy call_tuple_of (by rfl) T.n_tuple (by decide +kernel) (pa_cons (pv 3) pa_nil)))))), ?_⟩
  refine ⟨Nat.zero_le _, fun D hD => ?_⟩
  refine ⟨_, rfl, _, rfl, by omega, by omega, ?_⟩
  refine for_range (lo := 0) (n := (n : Int).toNat) (fun i σ H' => ∃ (z : Option V) (ps : List Part), σ = [some (.ref τ.p), some (.int n), some (.int m), some (.ref D), z] ∧ ps.length = i ∧ (∀ p ∈ ps, PartOk p) ∧ LT H' τ ∧ Dr H H' ∧ H' D = some (.lst (ps.map Part.v))) ⟨none, [], rfl, rfl, fun p h => (List.not_mem_nil h).elim, lt.same (same_new hD _), .of (same_new hD _), upd_same⟩ ?_ ?_
  · rintro i σ H' hi ⟨z, ps, rfl, hps, hok, lt', dr, hL⟩
    have hi' : i < n := by simpa using hi
    refine ⟨_, rfl, .inl ⟨rfl, _, SqL.of hL⟩, _, rfl, _, rfl, _, rfl, _, _, rfl, rfl, τ, (m : Int) + 2, rfl, by omega, lt', fun z1 H2 hz1 lt2 dr2 => ?_⟩
    refine ⟨_, rfl, _, rfl, _, _, rfl, rfl, τ, (m : Int) + 2, rfl, by omega, lt2, fun z2 H3 hz2 lt3 dr3 => ?_⟩
    refine ⟨by show 4 ≤ sizeLine; decide, fun r hr3 => ?_⟩
    have s4 := same_new hr3 (.lst [V.str "0", V.str "1", V.int z1, V.int z2])
    refine ⟨τ, r, _, rfl, lt3.same s4, upd_same, (by show 1 ≤ 4; decide), fun x H5 hx lt5 dr5 => ?_⟩
    obtain ⟨p, rfl, hp⟩ := part_mem (H := H) (m := m) (by omega) (by omega) hx
    have drA := dr2.trans (dr3.trans ((Dr.of s4).trans dr5))
    refine ⟨D, _, _, rfl, rfl, drA.lst hL, ?_, ?_⟩
    · rw [List.length_map, hps]
      exact lt1000 (by omega)
    have lt6 : LT (upd H5 D (.lst (ps.map Part.v ++ [p.v]))) τ := lt.put hD lt5 _
    have dr6 : Dr H (upd H5 D (.lst (ps.map Part.v ++ [p.v]))) := (dr.trans drA).put hD _
    have hL6 : (upd H5 D (.lst (ps.map Part.v ++ [p.v]))) D = some (.lst ((ps ++ [p]).map Part.v)) := by
      rw [upd_same, List.map_append]
      rfl
    have hok6 : ∀ p' ∈ ps ++ [p], PartOk p' := fun p' h => by
      rcases List.mem_append.mp h with h | h
      · exact hok p' h
      · rw [List.mem_singleton.mp h]
        exact hp
    revert lt6 dr6 hL6
    generalize upd H5 D (.lst (ps.map Part.v ++ [p.v])) = H6
    intro lt6 dr6 hL6
    refine ⟨_, rfl, τ, 30, rfl, by decide, lt6, fun z3 H7 hz3 lt7 dr7 => ?_⟩
    refine ⟨rfl, _, rfl, ?_⟩
    refine ite2 (fun _ => ?_) (fun _ => ?_)
    · refine ⟨_, rfl, τ, 10000, rfl, by decide, lt7, fun z4 H8 hz4 lt8 dr8 => ?_⟩
      have hL8 := dr8.lst (dr7.lst hL6)
      refine ⟨_, rfl, _, rfl, D, _, _, i, rfl, rfl, hL8, ?_, ?_⟩
      · show ixN ((ps ++ [p]).map Part.v).length (0 + (i : Int)) = some i
        unfold ixN
        rw [List.length_map, List.length_append, hps, if_pos (by omega), if_pos (by simp only [List.length_cons, List.length_nil]; omega)]
        congr 1
        omega
      · refine ⟨some (.int (0 + (i : Int))), ps ++ [.num z4], rfl, ?_, ?_, lt.put hD lt8 _, ((dr6.trans dr7).trans dr8).put hD _, ?_⟩
        · rw [List.length_append, hps]
          rfl
        · intro p' h
          rcases List.mem_append.mp h with h | h
          · exact hok p' h
          · rw [List.mem_singleton.mp h]
            intro n z
            cases z
            omega
        · rw [upd_same, List.map_append, List.map_append, List.set_append_right _ _ (by rw [List.length_map, hps]; exact Nat.le_refl _), List.length_map, hps, Nat.sub_self]
          rfl
    · refine ⟨some (.int (0 + (i : Int))), ps ++ [p], rfl, ?_, hok6, lt7, dr6.trans dr7, dr7.lst hL6⟩
      rw [List.length_append, hps]
      rfl
  · rintro σ H' ⟨z, ps, rfl, hps, hok, lt', dr, hL⟩
    rw [Int.toNat_natCast] at hps
    refine ⟨_, rfl, D, _, rfl, .inl ⟨SqL.of hL, fun l hl => ?_⟩⟩
    exact q l ps _ upd_same ⟨by omega, fun n h => hok _ h n rfl⟩ (lt'.same (same_new hl _)) (dr.trans (.of (same_new hl _)))
def spSay : Sp := fun vs H Q _ => ∃ (τ : Tp) (n m : Nat), vs = [.ref τ.p, .int n, .int m] ∧ n ≤ 9 ∧ m ≤ 100 ∧ LT H τ ∧ ∀ (v : V) (b : Br) H', IsBr H' v b → BrOk 0 b → LT H' τ → Dr H H' → Q v H'
abbrev n_law_say : List Str := ["_law_tape_here", "_law_said", "_law_seen", "_law_size"]
theorem sc_law_say : FnScope n_law_say ["_law_tape_here", "_law_said", "_law_seen"] (defScope s_law_say) := ⟨rfl, rfl, rfl, by decide +kernel, rfl, by decide +kernel, by decide +kernel⟩
theorem c_law_say (T : Tx w K mg) : C8.Cal P w K mg base 5 "_law_say" spSay [] := by
  obtain ⟨fd, F⟩ := T.f_law_say
  refine calD F T.g_law_say (F.bindsN fun _ _ _ _ _ _ us hl => match us, hl with | [_, _, _], _ => rfl) sc_law_say (fun vs H Q E h => ?_) (fun cdv A outer s H vs Q E hr h => ?_)
  · obtain ⟨τ, n, m, rfl, _⟩ := h
    rfl
  obtain ⟨τ, n, m, rfl, hn, hm, lt, q⟩ := h
  refine ⟨_, (pss_cons (ps_set (i := 3) sc_law_say.nd rfl (Or.inl rfl) (pv 1))
    (C8.pss_cut (ps_if (pt_cmpR op_eq (C8.pe_c (c_law_draw T) hr (by omega) rfl (pa_cons (pv 0) (pa_cons pe_int pa_nil))) pe_int (nomark _)) (pss_one (ps_set (i := 3) sc_law_say.nd rfl (Or.inl rfl) (C8.pe_c (c_law_draw T) hr (by omega) rfl (pa_cons (pv 0) (pa_cons pe_int pa_nil))))) pss_nil)
    (pss_one (ps_ret (pe_tup (pa_cons pe_str (pa_cons (C8.pe_c (c_law_parts T) hr (by omega) rfl (pa_cons (pv 0) (pa_cons (pv 3) (pa_cons (pv 2) pa_nil)))) pa_nil))))))), ?_⟩
  refine ⟨_, rfl, ?_⟩
  refine ⟨fun σ H' => ∃ n' : Nat, σ = [some (.ref τ.p), some (.int n), some (.int m), some (.int n')] ∧ n' ≤ 9 ∧ LT H' τ ∧ Dr H H', ?_, ?_⟩
  · refine ⟨_, rfl, τ, 9, rfl, by decide, lt, fun z1 H2 hz1 lt2 dr2 => ?_⟩
    refine ⟨rfl, _, rfl, ?_⟩
    refine ite2 (fun _ => ?_) (fun _ => ?_)
    · refine ⟨_, rfl, τ, 4, rfl, by decide, lt2, fun z2 H3 hz2 lt3 dr3 => ?_⟩
      exact ⟨z2, rfl, by omega, lt3, dr2.trans dr3⟩
    · exact ⟨n, rfl, hn, lt2, dr2⟩
  rintro σ H1 ⟨n', rfl, hn', lt1, dr1⟩
  refine ⟨_, rfl, _, rfl, _, rfl, τ, n', m, rfl, hn', hm, lt1, fun t ps H2 ht po lt2 dr2 => ?_⟩
  refine ⟨by show 2 ≤ sizeLine; decide, fun p hp => ?_⟩
  have s3 := same_new hp (.tup [V.str "say", V.ref t])
  exact q (.ref p) (.say ps) _ (.say upd_same (s3 _ _ ht)) (.say po) (lt2.same s3) (dr1.trans (dr2.trans (.of s3)))
end
end Bk

set_option Elab.async false
set_option linter.all false
set_option maxRecDepth 100000
set_option maxHeartbeats 4000000
namespace Bk
open PySem PySem.Spec PyProof.Rows L2
def tKind : TT := fun σ H Q => (∃ a : Int, σ[7]? = some (some (.int a))) ∧ (∃ a : Int, σ[2]? = some (some (.int a))) ∧ ∀ b H', Same H H' → Q b H'
def tMost : TE := fun σ H Q => (∃ a : Int, σ[1]? = some (some (.int a))) ∧ (∃ a : Int, σ[2]? = some (some (.int a))) ∧ (∃ a : Int, σ[6]? = some (some (.int a))) ∧ ∀ x H', x = 3 ∨ x = 12 → Same H H' → Q (.int x) H'
section
variable {P : Program} {w : World} {K : PySem.W.Frag} {mg : Str → Option Value} {base : Heap}
def spLBr (d : Nat) : Sp := fun vs H Q _ => ∃ (τ : Tp) (asks : Int) (sh : Addr) (m : Nat), vs = [.ref τ.p, .int d, .int asks, .ref sh] ∧ H sh = some (.tup [.int 2, .int 1, .int m]) ∧ m ≤ 90 ∧ LT H τ ∧ ∀ (v : V) (b : Br) H', IsBr H' v b → BrOk d b → LT H' τ → Dr H H' → Q v H'
def spLB : Nat → Sp
  | 0 => fun _ _ _ _ => False
  | d + 1 => spLBr d
theorem BrOk.up {d : Nat} {b : Br} (h : BrOk 0 b) : BrOk d b := by
  cases h with
  | say h => exact .say h
abbrev n_law_breaker : List Str := ["_law_tape_here", "_law_depth", "_law_asks", "_law_shape", "_law_length", "_law_said", "_law_seen", "_law_kind", "_law_first", "_law_many", "_law_size", "_law_k"]
theorem sc_law_breaker : FnScope n_law_breaker ["_law_tape_here", "_law_depth", "_law_asks", "_law_shape"] (defScope s_law_breaker) := ⟨rfl, rfl, rfl, by decide +kernel, rfl, by decide +kernel, by decide +kernel⟩
theorem ok_law_breaker (T : Tx w K mg) {d : Nat} (ih : C8.Cal P w K mg base (d + 5) "_law_breaker" (spLB d) []) : C8.Cal P w K mg base (d + 6) "_law_breaker" (spLBr d) [] := by
  obtain ⟨fd, F⟩ := T.f_law_breaker
  refine calD F T.g_law_breaker (F.bindsN fun _ _ _ _ _ _ us hl => match us, hl with | [_, _, _, _], _ => rfl) sc_law_breaker (fun vs H Q E h => ?_) (fun cdv A outer s H vs Q E hr h => ?_)
  · obtain ⟨τ, asks, sh, m, rfl, _⟩ := h
    rfl
  obtain ⟨τ, asks, sh, m, rfl, hsh, hm, lt, q⟩ := h
  refine ⟨_, (pss_cons (ps_asg (pv 3) (pg_tup (by rfl) (pgs_cons (pg_name (i := 4) sc_law_breaker.nd rfl (Or.inl rfl)) (pgs_cons (pg_name (i := 5) sc_law_breaker.nd rfl (Or.inl rfl)) (pgs_cons (pg_name (i := 6) sc_law_breaker.nd rfl (Or.inl rfl)) pgs_nil)))))
    (pss_cons (ps_set (i := 7) sc_law_breaker.nd rfl (Or.inl rfl) (C8.pe_c (c_law_draw T) hr (by omega) rfl (pa_cons (pv 0) (pa_cons pe_int pa_nil))))
    (pss_cons (ps_if (PW.pt (pw_or (pt_cmpR op_eq (pv 1) pe_int (nomark _)) (pw_or1 (pt_cmpR op_eq (pv 7) pe_int (nomark _))))) (pss_one (ps_ret (C8.pe_c (c_law_say T) hr (by omega) rfl (pa_cons (pv 0) (pa_cons (pv 5) (pa_cons (pv 6) pa_nil)))))) pss_nil)
    (pss_cons (ps_if (PT.weak (t' := tKind) (PW.pt (pw_or (pt_cmpR op_in_seq (pv 7) (pe_tup (pa_cons pe_int (pa_cons pe_int pa_nil))) (by rfl)) (pw_or1 (PW.pt (pw_and (pt_cmpR op_gt (pv 7) pe_int (nomark _)) (pw_and1 (pt_cmpR op_eq (pv 2) pe_int (nomark _)))))))) ?kw) (pss_cons (ps_set (i := 8) sc_law_breaker.nd rfl (Or.inl rfl) (C8.pe_c ih hr (by omega) rfl (pa_cons (pv 0) (pa_cons (pe_op op_sub (pv 1) pe_int) (pa_cons (pv 2) (pa_cons (pv 3) pa_nil))))))
    (pss_one (ps_ret (pe_tup (pa_cons pe_str (pa_cons (C8.pe_c (c_law_draw T) hr (by omega) rfl (pa_cons (pv 0) (pa_cons (pe_op op_add (pv 6) pe_int) pa_nil))) (pa_cons (pv 8) (pa_cons (C8.pe_c ih hr (by omega) rfl (pa_cons (pv 0) (pa_cons (pe_op op_sub (pv 1) pe_int) (pa_cons (pv 2) (pa_cons (pv 3) pa_nil))))) pa_nil)))))))) pss_nil)
    (pss_cons (ps_if (pt_cmpR op_eq (pv 7) pe_int (nomark _)) (pss_cons (ps_set (i := 9) sc_law_breaker.nd rfl (Or.inl rfl) (pe_op op_add pe_int (C8.pe_c (c_law_draw T) hr (by omega) rfl (pa_cons (pv 0) (pa_cons (C8.pe_c (c_law_pick T) hr (by omega) rfl (pa_cons (pv 0) (pa_cons (pe_lst (pa_cons pe_int (pa_cons pe_int (pa_cons pe_int (pa_cons (PE.weak (t' := tMost) (pe_ix (r := rIxL K) ix_list (pe_lst (pa_cons pe_int (pa_cons pe_int pa_nil))) (pe_callTy call_int1 (by rfl) T.n_int (by decide +kernel) (pa_cons (pe_and (pe_cmpR op_eq (pv 1) pe_int (nomark _)) (pe_and (pe_cmpR op_eq (pv 2) pe_int (nomark _)) (pe_one (pe_cmpR op_lt (pv 6) pe_int (nomark _))))) pa_nil)) (fun _ _ => rfl)) ?km) pa_nil))))) pa_nil))) pa_nil)))))
    (pss_one (ps_ret (pe_tup (pa_cons pe_str (pa_cons (pe_callTy call_tuple_of (by rfl) T.n_tuple (by decide +kernel) (pa_cons (pe_lc (own := [("_law_k", 11)]) (tt := tYes) rfl sc_law_breaker.nd (pi_range1 rfl T.n_range (pa_cons (pv 9) pa_nil)) (blkOk_by (own := [("_law_k", 11)]) (N := n_law_breaker) (sc := defScope s_law_breaker) (by decide +kernel)) (fun _ _ _ _ _ => (pg_name (i := 11) sc_law_breaker.nd rfl (Or.inl rfl))) (fun _ _ _ _ _ => pts_nil) (fun _ _ _ _ _ => (C8.pe_c ih hr (by omega) rfl (pa_cons (pv 0) (pa_cons (pe_op op_sub (pv 1) pe_int) (pa_cons (pv 2) (pa_cons (pv 3) pa_nil))))))) pa_nil)) pa_nil)))))) pss_nil)
    (pss_cons (ps_set (i := 10) sc_law_breaker.nd rfl (Or.inl rfl) (pv 4))
    (C8.pss_cut (ps_if (pt_cmpR op_eq (C8.pe_c (c_law_draw T) hr (by omega) rfl (pa_cons (pv 0) (pa_cons pe_int pa_nil))) pe_int (nomark _)) (pss_one (ps_set (i := 10) sc_law_breaker.nd rfl (Or.inl rfl) (C8.pe_c (c_law_draw T) hr (by omega) rfl (pa_cons (pv 0) (pa_cons (pe_op op_add (pv 4) pe_int) pa_nil))))) pss_nil)
    (pss_one (ps_ret (pe_tup (pa_cons pe_str (pa_cons (C8.pe_c (c_law_parts T) hr (by omega) rfl (pa_cons (pv 0) (pa_cons (pv 10) (pa_cons (pv 6) pa_nil)))) (pa_cons (C8.pe_c ih hr (by omega) rfl (pa_cons (pv 0) (pa_cons (pe_op op_sub (pv 1) pe_int) (pa_cons (pe_op op_sub (pv 2) pe_int) (pa_cons (pv 3) pa_nil))))) pa_nil))))))))))))), ?_⟩
  case kw =>
    rintro σ H Q ⟨⟨a, ha⟩, ⟨c, hc⟩, q⟩
    refine ⟨_, ha, by show 2 ≤ sizeLine; decide, fun p hp => ?_⟩
    have st := same_new hp (.tup [V.int 1, V.int 2])
    refine ⟨p, _, rfl, .inr (SqT.of upd_same), rfl, rfl, _, rfl, ?_⟩
    refine ite2 (fun _ => q true _ st) (fun _ => ?_)
    refine ⟨_, ha, _, _, rfl, rfl, _, rfl, ?_⟩
    refine ite2 (fun _ => ?_) (fun _ => q false _ st)
    exact ⟨_, hc, rfl, _, rfl, q _ _ st⟩
  case km =>
    rintro σ H Q ⟨⟨a, ha⟩, ⟨c, hc⟩, ⟨e, he⟩, q⟩
    refine ⟨by show 2 ≤ sizeLine; decide, fun p hp => ?_⟩
    have st := same_new hp (.lst [V.int 3, V.int 12])
    have fin : ∀ b : Bool, rIxL K (V.ref p) (V.int (if b = true then 1 else 0)) (upd H p (.lst [V.int 3, V.int 12])) Q := fun b => by
      cases b
      · exact ⟨p, _, _, V.int 3, rfl, rfl, SqL.of upd_same, rfl, q 3 _ (.inl rfl) st⟩
      · exact ⟨p, _, _, V.int 12, rfl, rfl, SqL.of upd_same, rfl, q 12 _ (.inr rfl) st⟩
    refine ⟨_, ha, rfl, _, rfl, ?_⟩
    refine ite2 (fun _ => ?_) (fun _ => .inr ⟨false, rfl, fin false⟩)
    refine ⟨_, hc, rfl, _, rfl, ?_⟩
    refine ite2 (fun _ => ?_) (fun _ => .inr ⟨false, rfl, fin false⟩)
    exact ⟨_, he, _, _, rfl, rfl, .inr ⟨_, rfl, fin _⟩⟩
  refine ⟨_, rfl, sh, _, rfl, SqT.of hsh, rfl, _, _, rfl, ?_⟩
  refine ⟨_, _, rfl, ?_⟩
  refine ⟨_, _, rfl, ?_⟩
  refine ⟨rfl, ?_⟩
  refine ⟨_, rfl, τ, 7, rfl, by decide, lt, fun kd H1 hk lt1 dr1 => ?_⟩
  refine ⟨_, rfl, rfl, _, rfl, ?_⟩
  cases d with
  | zero =>
    refine ifY rfl ?_
    exact ⟨_, rfl, _, rfl, _, rfl, τ, 1, m, rfl, by omega, by omega, lt1, fun v b H2 hb bo lt2 dr2 => q v b H2 hb bo lt2 (dr1.trans dr2)⟩
  | succ d =>
    refine ifN (vint_ne (by omega)) ?_
    refine ⟨_, rfl, rfl, _, rfl, ?_⟩
    refine ite2 (fun _ => ?_) (fun _ => ?_)
    · exact ⟨_, rfl, _, rfl, _, rfl, τ, 1, m, rfl, by omega, by omega, lt1, fun v b H2 hb bo lt2 dr2 => q v b H2 hb bo.up lt2 (dr1.trans dr2)⟩
    have ed : (((d + 1 : Nat) : Int) - 1) = (d : Int) := by omega
    have hsh1 := dr1.tup hsh
    refine ⟨⟨_, rfl⟩, ⟨_, rfl⟩, fun t1 H2 s2 => ?_⟩
    have lt2 := lt1.same s2
    have dr2 := dr1.trans (.of s2)
    have hsh2 := s2 _ _ hsh1
    cases t1 with
    | true =>
      refine ⟨_, rfl, _, rfl, _, _, rfl, rfl, _, rfl, _, rfl, τ, asks, sh, m, ?_, hsh2, hm, lt2, fun v1 b1 H3 hb1 bo1 lt3 dr3 => ?_⟩
      · show [V.ref τ.p, V.int (((d + 1 : Nat) : Int) - 1), V.int asks, V.ref sh] = _
        rw [ed]
      refine ⟨_, rfl, _, rfl, _, _, rfl, rfl, τ, (m : Int) + 1, rfl, by omega, lt3, fun z H4 hz lt4 dr4 => ?_⟩
      refine ⟨_, rfl, _, rfl, _, rfl, _, _, rfl, rfl, _, rfl, _, rfl, τ, asks, sh, m, ?_, dr4.tup (dr3.tup hsh2), hm, lt4, fun v2 b2 H5 hb2 bo2 lt5 dr5 => ?_⟩
      · show [V.ref τ.p, V.int (((d + 1 : Nat) : Int) - 1), V.int asks, V.ref sh] = _
        rw [ed]
      refine ⟨by show 4 ≤ sizeLine; decide, fun p hp => ?_⟩
      have s6 := same_new hp (.tup [V.str "look", V.int z, v1, v2])
      refine q (.ref p) (.look z b1 b2) _ (.look upd_same (hb1.kt ((Kt.dr (dr4.trans dr5)).trans (.of s6))) (hb2.kt (.of s6))) (.look (by omega) bo1 bo2) (lt5.same s6) (dr2.trans (dr3.trans (dr4.trans (dr5.trans (.of s6)))))
    | false =>
      refine ⟨_, rfl, rfl, _, rfl, ?_⟩
      refine ite2 (fun _ => ?_) (fun _ => ?_)
      · refine ⟨_, rfl, _, rfl, ⟨_, rfl⟩, ⟨_, rfl⟩, ⟨_, rfl⟩, fun x H3 hx s3 => ?_⟩
        have lt3 := lt2.same s3
        have dr3 := dr2.trans (.of s3)
        refine ⟨by show 4 ≤ sizeLine; decide, fun r hr3 => ?_⟩
        have s4 := same_new hr3 (.lst [V.int 3, V.int 3, V.int 3, V.int x])
        refine ⟨τ, r, _, rfl, lt3.same s4, upd_same, (by show 1 ≤ 4; decide), fun y H5 hy lt5 dr5 => ?_⟩
        obtain ⟨y, rfl, hy⟩ : ∃ z : Int, y = .int z ∧ (z = 3 ∨ z = 12) := by
          simp only [List.mem_cons, List.not_mem_nil, or_false] at hy
          rcases hy with e | e | e | e
          · exact ⟨3, e, .inl rfl⟩
          · exact ⟨3, e, .inl rfl⟩
          · exact ⟨3, e, .inl rfl⟩
          · exact ⟨x, e, hx⟩
        refine ⟨τ, y, rfl, by omega, lt5, fun z H6 hz lt6 dr6 => ?_⟩
        have dr7 := dr3.trans ((Dr.of s4).trans (dr5.trans dr6))
        refine ⟨_, _, rfl, rfl, ?_⟩
        refine ⟨_, rfl, _, rfl, by omega, by omega, fun D hD => ?_⟩
        have hM : (1 + (z : Int)).toNat = z + 1 := by omega
        have hz12 : z + 1 ≤ 12 := by omega
        refine lc_range (lo := 0) (n := (1 + (z : Int)).toNat) (fun i H' => ∃ (vs : List V) (bs : List Br), vs.length = i ∧ bs.length = i ∧ (∀ (j : Nat) v b, vs[j]? = some v → bs[j]? = some b → IsBr H' v b) ∧ (∀ b ∈ bs, BrOk d b) ∧ LT H' τ ∧ Dr H6 H' ∧ H' D = some (.lst vs)) ⟨[], [], rfl, rfl, (fun j v b h => by cases h), (fun b h => (List.not_mem_nil h).elim), lt6.same (same_new hD _), .of (same_new hD _), upd_same⟩ ?_ ?_
        · rintro i H' hi ⟨vs, bs, h1, h2, h3, h4, lt', dr', hL⟩
          rw [hM] at hi
          refine ⟨rfl, ?_⟩
          refine ⟨_, rfl, _, rfl, _, _, rfl, rfl, _, rfl, _, rfl, τ, asks, sh, m, ?_, dr'.tup (dr7.tup hsh), hm, lt', fun v1 b1 H8 hb1 bo1 lt8 dr8 => ?_⟩
          · show [V.ref τ.p, V.int (((d + 1 : Nat) : Int) - 1), V.int asks, V.ref sh] = _
            rw [ed]
          have hL8 := dr8.lst hL
          have kt9 : Kt H8 (upd H8 D (.lst (vs ++ [v1]))) := fun b xs e => by
            rw [upd_ne (ne_of e hL8 (by intro z; cases z))]
            exact e
          refine ⟨vs, hL8, lt1000 (by omega), vs ++ [v1], bs ++ [b1], ?_, ?_, ?_, ?_, lt6.put hD lt8 _, (dr'.trans dr8).put hD _, upd_same⟩
          · rw [List.length_append, h1]
            rfl
          · rw [List.length_append, h2]
            rfl
          · intro j v b hv hb
            by_cases hj : j < i
            · rw [List.getElem?_append_left (by omega)] at hv hb
              exact (h3 j v b hv hb).kt ((Kt.dr dr8).trans kt9)
            · have hjl : j < (vs ++ [v1]).length := (List.getElem?_eq_some_iff.mp hv).1
              rw [List.length_append, h1] at hjl
              have : j = i := by
                simp only [List.length_cons, List.length_nil] at hjl
                omega
              subst this
              rw [List.getElem?_append_right (by omega), h1, Nat.sub_self] at hv
              rw [List.getElem?_append_right (by omega), h2, Nat.sub_self] at hb
              cases hv
              cases hb
              exact hb1.kt kt9
          · intro b hb
            rcases List.mem_append.mp hb with hb | hb
            · exact h4 b hb
            · rw [List.mem_singleton.mp hb]
              exact bo1
        · rintro H' ⟨vs, bs, h1, h2, h3, h4, lt', dr', hL⟩
          rw [hM] at h1 h2
          refine ⟨D, _, rfl, .inl ⟨SqL.of hL, fun l hl => ?_⟩⟩
          refine ⟨by show 2 ≤ sizeLine; decide, fun p hp => ?_⟩
          have s9 := same_upd (same_new hl (.tup vs)) hp (.tup [V.str "toss", V.ref l])
          refine q (.ref p) (.toss bs) _ (.toss upd_same ?_ (h1.trans h2.symm) fun j v b hv hb => (h3 j v b hv hb).kt (.of s9)) (.toss (by omega) (by omega) h4) (lt'.same s9) (dr7.trans (dr'.trans (.of s9)))
          rw [upd_ne (ne_of_none upd_same hp), upd_same]
      · refine ⟨_, rfl, ?_⟩
        refine ⟨fun σ H' => ∃ n' : Nat, σ = [some (.ref τ.p), some (.int ((d + 1 : Nat) : Int)), some (.int asks), some (.ref sh), some (.int 2), some (.int 1), some (.int m), some (.int kd), none, none, some (.int n'), none] ∧ n' ≤ 9 ∧ LT H' τ ∧ Dr H H', ?_, ?_⟩
        · refine ⟨_, rfl, τ, 9, rfl, by decide, lt2, fun z1 H3 hz1 lt3 dr3 => ?_⟩
          refine ⟨rfl, _, rfl, ?_⟩
          refine ite2 (fun _ => ?_) (fun _ => ?_)
          · refine ⟨_, rfl, _, rfl, _, _, rfl, rfl, τ, 4, rfl, by decide, lt3, fun z2 H4 hz2 lt4 dr4 => ?_⟩
            exact ⟨z2, rfl, by omega, lt4, dr2.trans (dr3.trans dr4)⟩
          · exact ⟨2, rfl, by decide, lt3, dr2.trans dr3⟩
        rintro σ H3 ⟨n', rfl, hn', lt3, dr3⟩
        refine ⟨_, rfl, _, rfl, _, rfl, τ, n', m, rfl, hn', by omega, lt3, fun t ps H4 ht po lt4 dr4 => ?_⟩
        have dr5 := dr3.trans dr4
        refine ⟨_, rfl, _, rfl, _, _, rfl, rfl, _, rfl, _, _, rfl, rfl, _, rfl, τ, asks - 1, sh, m, ?_, dr5.tup hsh, hm, lt4, fun v1 b1 H6 hb1 bo1 lt6 dr6 => ?_⟩
        · show [V.ref τ.p, V.int (((d + 1 : Nat) : Int) - 1), V.int (asks - 1), V.ref sh] = _
          rw [ed]
        refine ⟨by show 3 ≤ sizeLine; decide, fun p hp => ?_⟩
        have s7 := same_new hp (.tup [V.str "ask", V.ref t, v1])
        exact q (.ref p) (.ask ps b1) _ (.ask upd_same (s7 _ _ (dr6.tup ht)) (hb1.kt (.of s7))) (.ask po bo1) (lt6.same s7) (dr5.trans (dr6.trans (.of s7)))
theorem no_law_breaker (T : Tx w K mg) : C8.Cal P w K mg base 5 "_law_breaker" (spLB 0) [] := by
  obtain ⟨fd, F⟩ := T.f_law_breaker
  exact ⟨_, fd, ["_law_tape_here", "_law_depth", "_law_asks", "_law_shape"], [], ⟨fun vs H Q E h => h.elim, fun A outer s H args us vs Q E _ _ _ _ h => h.elim⟩, T.g_law_breaker, F.kp, F.bindsN fun _ _ _ _ _ _ us hl => match us, hl with | [_, _, _, _], _ => rfl, .nil⟩
theorem c_law_breaker (T : Tx w K mg) : ∀ d : Nat, C8.Cal P w K mg base (d + 6) "_law_breaker" (spLBr d) []
  | 0 => ok_law_breaker T (d := 0) (no_law_breaker T)
  | d + 1 => ok_law_breaker T (d := d + 1) (c_law_breaker T d)
end
end Bk

set_option Elab.async false
set_option linter.all false
set_option maxRecDepth 100000
set_option maxHeartbeats 4000000
namespace Bk
open PySem PySem.Spec PyProof.Rows L2
mutual
def Br.sz : Br → Nat
  | .say _ => 1
  | .toss bs => 1 + szs bs
  | .look _ a b => 1 + (a.sz + (b.sz + 0))
  | .ask _ a => 1 + (a.sz + 0)
def szs : List Br → Nat
  | [] => 0
  | b :: r => b.sz + szs r
end
def Br.kids : Br → List Br
  | .say _ => []
  | .toss bs => bs
  | .look _ a b => [a, b]
  | .ask _ a => [a]
theorem sz_kids (b : Br) : b.sz = 1 + szs b.kids := by
  cases b with
  | say ps => rw [Br.sz, Br.kids, szs]
  | toss bs => rw [Br.sz, Br.kids]
  | look n a b => rw [Br.sz, Br.kids, szs, szs, szs]
  | ask ps a => rw [Br.sz, Br.kids, szs, szs]
theorem szs_le (N : Nat) : ∀ bs : List Br, (∀ b ∈ bs, b.sz ≤ N) → szs bs ≤ bs.length * N
  | [], _ => by
    rw [szs]
    exact Nat.zero_le _
  | b :: r, h => by
    rw [szs, List.length_cons, Nat.add_mul, Nat.one_mul]
    have := szs_le N r fun c hc => h c (List.mem_cons_of_mem _ hc)
    have := h b List.mem_cons_self
    omega
theorem sz_le {d : Nat} {b : Br} (h : BrOk d b) : b.sz ≤ 13 ^ d := by
  have one : ∀ n : Nat, 1 ≤ 13 ^ n := fun n => Nat.pow_pos (by decide)
  induction h with
  | say h =>
    rw [Br.sz]
    exact one _
  | @toss d bs h0 h1 h ih =>
    rw [Br.sz, Nat.pow_succ]
    have := szs_le _ bs ih
    have e : bs.length * 13 ^ d ≤ 12 * 13 ^ d := Nat.mul_le_mul_right _ h1
    have := one d
    omega
  | @look d n a b hn ha hb iha ihb =>
    rw [Br.sz, Nat.pow_succ]
    have := one d
    omega
  | @ask d ps a hp ha iha =>
    rw [Br.sz, Nat.pow_succ]
    have := one d
    omega
theorem sz_pos (b : Br) : 1 ≤ b.sz := by
  rw [sz_kids]
  omega
theorem len_szs : ∀ bs : List Br, bs.length ≤ szs bs
  | [] => Nat.zero_le _
  | b :: r => by
    rw [szs, List.length_cons]
    have := sz_pos b
    have := len_szs r
    omega
theorem szs_take : ∀ {bs : List Br} {i : Nat} {b : Br}, bs[i]? = some b → szs (bs.take (i + 1)) = szs (bs.take i) + b.sz
  | [], _, _, e => by cases e
  | c :: r, 0, b, e => by
    cases e
    simp [szs]
  | c :: r, i + 1, b, e => by
    rw [List.take_succ_cons, List.take_succ_cons, szs, szs, szs_take (bs := r) e]
    omega
theorem kids_ok {d : Nat} {b : Br} (h : BrOk d b) : ∀ c ∈ b.kids, ∃ d', d = d' + 1 ∧ BrOk d' c := by
  intro c hc
  cases h with
  | say h => cases hc
  | toss h0 h1 h => exact ⟨_, rfl, h c hc⟩
  | look hn ha hb =>
    rcases List.mem_cons.mp hc with rfl | hc
    · exact ⟨_, rfl, ha⟩
    · rw [List.mem_singleton.mp hc]
      exact ⟨_, rfl, hb⟩
  | ask hp ha =>
    rw [List.mem_singleton.mp hc]
    exact ⟨_, rfl, ha⟩
/-- values that are breakers, each -/
def Kids (H : Hp) (vs : List V) (bs : List Br) : Prop := vs.length = bs.length ∧ ∀ (i : Nat) v b, vs[i]? = some v → bs[i]? = some b → IsBr H v b
theorem Kids.kt {H H' : Hp} {vs : List V} {bs : List Br} (h : Kids H vs bs) (k : Kt H H') : Kids H' vs bs := ⟨h.1, fun i v b x y => (h.2 i v b x y).kt k⟩
/-- what waits, and its size -/
inductive Stk (H : Hp) : List V → Nat → Prop where
  | nil : Stk H [] 0
  | snoc {xs : List V} {S : Nat} {p : Addr} {v : V} {b : Br} {e d : Nat} (h : Stk H xs S) (hp : H p = some (.tup [v, .int (e : Int)])) (hb : IsBr H v b) (bo : BrOk d b) (he : e + d ≤ 5) : Stk H (xs ++ [.ref p]) (S + b.sz)
theorem Stk.kt {H H' : Hp} (k : Kt H H') {xs : List V} {S : Nat} (h : Stk H xs S) : Stk H' xs S := by
  induction h with
  | nil => exact .nil
  | snoc _ hp hb bo he ih => exact .snoc ih (k _ _ hp) (hb.kt k) bo he
theorem Stk.append {H : Hp} {xs : List V} {S : Nat} (h : Stk H xs S) {ys : List V} {S' : Nat} (h' : Stk H ys S') : Stk H (xs ++ ys) (S + S') := by
  induction h' with
  | nil =>
    rw [List.append_nil]
    exact h
  | snoc _ hp hb bo he ih =>
    rw [← List.append_assoc, ← Nat.add_assoc]
    exact .snoc ih hp hb bo he
theorem Stk.len {H : Hp} {xs : List V} {S : Nat} (h : Stk H xs S) : xs.length ≤ S := by
  induction h with
  | nil => exact Nat.zero_le _
  | @snoc xs S p v b e d _ hp hb bo he ih =>
    rw [List.length_append]
    have := sz_pos b
    simp only [List.length_cons, List.length_nil]
    omega
theorem cut1 (x : V) (xs : List V) : cutV (x :: xs) (some 1) none = xs := by
  unfold cutV
  have e : HT.sIx (x :: xs).length 0 (some 1) = 1 := by
    show min 1 (xs.length + 1) = 1
    omega
  have e2 : HT.sIx (x :: xs).length (x :: xs).length none = xs.length + 1 := rfl
  rw [e, e2]
  show xs.take (xs.length + 1 - 1) = xs
  rw [Nat.add_sub_cancel, List.take_length]
theorem cut1_ne (x : V) (xs : List V) : ¬ (HT.sIx (x :: xs).length 0 (some 1) = 0 ∧ HT.sIx (x :: xs).length (x :: xs).length none = (x :: xs).length) := fun z => by
  have e : HT.sIx (x :: xs).length 0 (some 1) = 1 := by
    show min 1 (xs.length + 1) = 1
    omega
  rw [e] at z
  cases z.1
section
variable {P : Program} {w : World} {K : PySem.W.Frag} {mg : Str → Option Value} {base : Heap}
/-! are_parts -/
def spParts1 : Sp := fun vs H Q _ => ∃ (p : Addr) (ps : List Part), vs = [.ref p] ∧ H p = some (.tup (ps.map Part.v)) ∧ PartsOk ps ∧ ∀ H', Same H H' → Q (.bl true) H'
abbrev n_are_parts : List Str := ["value", "part"]
theorem sc_are_parts : FnScope n_are_parts ["value"] (defScope s_are_parts) := ⟨rfl, rfl, rfl, by decide +kernel, rfl, by decide +kernel, by decide +kernel⟩
theorem c_are_parts (T : Tx w K mg) : C8.Cal P w K mg base 2 "are_parts" spParts1 [] := by
  obtain ⟨fd, F⟩ := T.f_are_parts
  refine calD F T.g_are_parts (F.bindsN fun _ _ _ _ _ _ us hl => match us, hl with | [_], _ => rfl) sc_are_parts (fun vs H Q E h => ?_) (fun cdv A outer s H vs Q E hr h => ?_)
  · obtain ⟨p, ps, rfl, _⟩ := h
    rfl
  obtain ⟨p, ps, rfl, hp, po, q⟩ := h
  refine ⟨_, (pss_cons (ps_if (pt_not (pt_val (pe_callB call_isi (by rfl) T.n_isinstance (by decide +kernel) (pa_cons (pv 0) (pa_cons (pe_bltn (v := .ty "tuple") (by rfl) T.n_tuple (by decide +kernel) rfl) pa_nil))))) (pss_one (ps_ret pe_bl)) pss_nil)
    (pss_cons (ps_for PassesOwn.never rfl (pi_tup (pv 0)) (pg_name (i := 1) sc_are_parts.nd rfl (Or.inl rfl))
    (pss_one (ps_if (PW.pt (pw_and (pt_not (pt_val (C8.pe_c (c_is_bits T) hr (by omega) rfl (pa_cons (pv 1) (pa_cons pe_int pa_nil))))) (pw_and1 (pt_not (pt_val (C8.pe_c (c_is_number T) hr (by omega) rfl (pa_cons (pv 1) (pa_cons pe_int (pa_cons (C8.pe_gc rfl T.i_MOST_BIT) pa_nil))))))))) (pss_one (ps_ret pe_bl)) pss_nil)))
    (pss_one (ps_ret pe_bl)))), ?_⟩
  refine ⟨_, rfl, _, _, _, _, true, rfl, .ty "tuple", .base (.tup hp), kit_ty (by decide +kernel), true, rfl, ?_⟩
  refine ⟨_, rfl, p, rfl, ⟨_, SqT.of hp⟩, ?_⟩
  refine for_tup (xs := ps.map Part.v) (fun i σ H' => ∃ (z : Option V), σ = [some (.ref p), z] ∧ Same H H') ⟨none, rfl, Same.refl H⟩ (fun i σ H' _ h => by obtain ⟨_, _, s1⟩ := h; exact SqT.of (s1 _ _ hp)) ?_ ?_
  · rintro i y σ H' hi ⟨z, rfl, s1⟩
    rw [List.getElem?_map] at hi
    cases e : ps[i]? with
    | none =>
      rw [e] at hi
      cases hi
    | some pt =>
      rw [e] at hi
      have hi : Part.v pt = y := Option.some.inj hi
      subst hi
      cases pt with
      | bit b =>
        refine ⟨_, rfl, .inl ⟨[b], 1, rfl, (by show 1 ≤ 1000; decide), fun H2 s2 => ?_⟩⟩
        exact ⟨_, rfl, ⟨_, rfl, s1.trans s2⟩⟩
      | num n =>
        have hn := po.2 n (List.mem_of_getElem? e)
        refine ⟨_, rfl, .inr ⟨n, 1, rfl, ?_⟩⟩
        refine ⟨_, rfl, _, rfl, n, 0, 9999, rfl, ?_⟩
        have e1 : (decide ((0 : Int) ≤ n) && decide ((n : Int) ≤ 9999)) = true := by
          rw [decide_eq_true (by omega), decide_eq_true (by omega)] <;> rfl
        rw [e1]
        exact ⟨_, rfl, ⟨_, rfl, s1⟩⟩
  · rintro σ H' ⟨z, rfl, s1⟩
    exact q H' s1
/-! inner_plain -/
def spInner : Sp := fun vs H Q _ => ∃ (v : V) (b : Br) (d : Nat), vs = [v] ∧ IsBr H v b ∧ BrOk d b ∧ ∀ p ks H', Same H H' → H' p = some (.tup ks) → Kids H' ks b.kids → Q (.ref p) H'
abbrev n_inner_plain : List Str := ["breaker", "word", "rest"]
theorem sc_inner_plain : FnScope n_inner_plain ["breaker"] (defScope s_inner_plain) := ⟨rfl, rfl, rfl, by decide +kernel, rfl, by decide +kernel, by decide +kernel⟩
theorem c_inner_plain (T : Tx w K mg) : C8.Cal P w K mg base 3 "inner_plain" spInner [] := by
  obtain ⟨fd, F⟩ := T.f_inner_plain
  refine calD F T.g_inner_plain (F.bindsN fun _ _ _ _ _ _ us hl => match us, hl with | [_], _ => rfl) sc_inner_plain (fun vs H Q E h => ?_) (fun cdv A outer s H vs Q E hr h => ?_)
  · obtain ⟨v, b, d, rfl, _⟩ := h
    rfl
  obtain ⟨v, b, d, rfl, hb, bo, q⟩ := h
  refine ⟨_, (pss_cons (ps_if (PW.pt (pw_and (pt_val (pe_callB call_isi (by rfl) T.n_isinstance (by decide +kernel) (pa_cons (pv 0) (pa_cons (pe_bltn (v := .ty "tuple") (by rfl) T.n_tuple (by decide +kernel) rfl) pa_nil)))) (pw_and (pt_cmpR op_gt (pe_callB call_len_seq (by rfl) T.n_len PySem.boot_len (pa_cons (pv 0) pa_nil)) pe_int (nomark _)) (pw_and1 (pt_val (pe_callB call_isi (by rfl) T.n_isinstance (by decide +kernel) (pa_cons (pe_ix (r := rIxT K) ix_tup (pv 0) pe_int (fun _ _ => rfl)) (pa_cons (pe_bltn (v := .ty "str") (by rfl) T.n_str (by decide +kernel) rfl) pa_nil)))))))) (pss_cons (ps_par (i := 1) (j := 2) (by rfl) sc_inner_plain.nd rfl rfl (by decide) rfl rfl (pa_cons (pe_ix (r := rIxT K) ix_tup (pv 0) pe_int (fun _ _ => rfl)) (pa_cons (pe_slice sl_tup (pv 0) (po_some pe_int) po_none) pa_nil)) (by rfl))
    (pss_cons (ps_if (PW.pt (pw_and (pt_cmpR op_eq (pv 1) pe_str (nomark _)) (pw_and (pt_cmpR op_eq (pe_callB call_len_seq (by rfl) T.n_len PySem.boot_len (pa_cons (pv 2) pa_nil)) pe_int (nomark _)) (pw_and1 (pt_val (C8.pe_c (c_are_parts T) hr (by omega) rfl (pa_cons (pe_ix (r := rIxT K) ix_tup (pv 2) pe_int (fun _ _ => rfl)) pa_nil))))))) (pss_one (ps_ret (pe_tup pa_nil))) pss_nil)
    (pss_cons (ps_if (PW.pt (pw_and (pt_cmpR op_eq (pv 1) pe_str (nomark _)) (pw_and (pt_cmpR op_eq (pe_callB call_len_seq (by rfl) T.n_len PySem.boot_len (pa_cons (pv 2) pa_nil)) pe_int (nomark _)) (pw_and (pt_val (pe_callB call_isi (by rfl) T.n_isinstance (by decide +kernel) (pa_cons (pe_ix (r := rIxT K) ix_tup (pv 2) pe_int (fun _ _ => rfl)) (pa_cons (pe_bltn (v := .ty "tuple") (by rfl) T.n_tuple (by decide +kernel) rfl) pa_nil)))) (pw_and1 (pt_chain op_le op_le pe_int (pe_callB call_len_seq (by rfl) T.n_len PySem.boot_len (pa_cons (pe_ix (r := rIxT K) ix_tup (pv 2) pe_int (fun _ _ => rfl)) pa_nil)) (C8.pe_gc rfl T.i_MOST_TOSSED))))))) (pss_one (ps_ret (pe_ix (r := rIxT K) ix_tup (pv 2) pe_int (fun _ _ => rfl)))) pss_nil)
    (pss_cons (ps_if (PW.pt (pw_and (pt_cmpR op_eq (pv 1) pe_str (nomark _)) (pw_and (pt_cmpR op_eq (pe_callB call_len_seq (by rfl) T.n_len PySem.boot_len (pa_cons (pv 2) pa_nil)) pe_int (nomark _)) (pw_and1 (pt_val (C8.pe_c (c_is_number T) hr (by omega) rfl (pa_cons (pe_ix (r := rIxT K) ix_tup (pv 2) pe_int (fun _ _ => rfl)) (pa_cons pe_int (pa_cons (C8.pe_gc rfl T.i_MOST_BIT) pa_nil))))))))) (pss_one (ps_ret (pe_slice sl_tup (pv 2) (po_some pe_int) po_none))) pss_nil)
    (pss_one (ps_if (PW.pt (pw_and (pt_cmpR op_eq (pv 1) pe_str (nomark _)) (pw_and (pt_cmpR op_eq (pe_callB call_len_seq (by rfl) T.n_len PySem.boot_len (pa_cons (pv 2) pa_nil)) pe_int (nomark _)) (pw_and1 (pt_val (C8.pe_c (c_are_parts T) hr (by omega) rfl (pa_cons (pe_ix (r := rIxT K) ix_tup (pv 2) pe_int (fun _ _ => rfl)) pa_nil))))))) (pss_one (ps_ret (pe_slice sl_tup (pv 2) (po_some pe_int) po_none))) pss_nil)))))) pss_nil)
    (pss_one ps_never)), ?_⟩
  cases hb with
  | @say p t ps h ht =>
    have po : PartsOk ps := by
      cases bo with
      | say h => exact h
    refine ⟨_, rfl, _, _, _, _, true, rfl, .ty "tuple", .base (.tup h), kit_ty (by decide +kernel), true, rfl, ?_⟩
    refine ⟨_, rfl, p, _, rfl, .inr (SqT.of h), _, _, rfl, rfl, _, rfl, ifY (by show (0 : Int) < 2; decide) ?_⟩
    refine ⟨_, rfl, p, _, _, _, rfl, rfl, SqT.of h, rfl, _, _, _, _, true, rfl, .ty "str", .base (.str _), kit_ty (by decide +kernel), true, rfl, ?_⟩
    refine ⟨_, rfl, p, _, _, _, rfl, rfl, SqT.of h, rfl, _, rfl, _, rfl, p, _, rfl, SqT.of h, cut1_ne _ _, fun r hr0 => ?_⟩
    rw [cut1]
    have s1 := same_new hr0 (.tup [.ref t])
    have hr1 : upd H r (.tup [.ref t]) r = some (.tup [.ref t]) := upd_same
    revert s1 hr1
    generalize upd H r (.tup [.ref t]) = H1
    intro s1 hr1
    refine ⟨_, _, rfl, ?_⟩
    refine ⟨_, rfl, rfl, _, rfl, ifY rfl ?_⟩
    refine ⟨_, rfl, r, _, rfl, .inr (SqT.of hr1), rfl, _, rfl, ifY rfl ?_⟩
    refine ⟨_, rfl, r, _, _, _, rfl, rfl, SqT.of hr1, rfl, t, ps, rfl, s1 _ _ ht, po, fun H2 s2 => ⟨_, rfl, ?_⟩⟩
    refine ⟨by show 0 ≤ sizeLine; decide, fun z hz => ?_⟩
    exact q z [] _ (s1.trans (s2.trans (same_new hz _))) upd_same ⟨rfl, fun i v b h => by cases h⟩
  | @toss p t vs bs h ht hl2 hb =>
    have b12 : 1 ≤ bs.length ∧ bs.length ≤ 12 := by
      cases bo with
      | toss h0 h1 h2 => exact ⟨h0, h1⟩
    refine ⟨_, rfl, _, _, _, _, true, rfl, .ty "tuple", .base (.tup h), kit_ty (by decide +kernel), true, rfl, ?_⟩
    refine ⟨_, rfl, p, _, rfl, .inr (SqT.of h), _, _, rfl, rfl, _, rfl, ifY (by show (0 : Int) < 2; decide) ?_⟩
    refine ⟨_, rfl, p, _, _, _, rfl, rfl, SqT.of h, rfl, _, _, _, _, true, rfl, .ty "str", .base (.str _), kit_ty (by decide +kernel), true, rfl, ?_⟩
    refine ⟨_, rfl, p, _, _, _, rfl, rfl, SqT.of h, rfl, _, rfl, _, rfl, p, _, rfl, SqT.of h, cut1_ne _ _, fun r hr0 => ?_⟩
    rw [cut1]
    have s1 := same_new hr0 (.tup [.ref t])
    have hr1 : upd H r (.tup [.ref t]) r = some (.tup [.ref t]) := upd_same
    revert s1 hr1
    generalize upd H r (.tup [.ref t]) = H1
    intro s1 hr1
    refine ⟨_, _, rfl, ?_⟩
    refine ⟨_, rfl, rfl, _, rfl, ifN (by decide +kernel) ?_⟩
    refine ⟨_, rfl, rfl, _, rfl, ifY rfl ?_⟩
    refine ⟨_, rfl, r, _, rfl, .inr (SqT.of hr1), rfl, _, rfl, ifY rfl ?_⟩
    have ht1 := s1 _ _ ht
    refine ⟨_, rfl, r, _, _, _, rfl, rfl, SqT.of hr1, rfl, _, _, _, _, true, rfl, .ty "tuple", .base (.tup ht1), kit_ty (by decide +kernel), true, rfl, ?_⟩
    refine ⟨_, rfl, r, _, _, _, rfl, rfl, SqT.of hr1, rfl, t, _, rfl, .inr (SqT.of ht1), _, _, rfl, rfl, _, rfl, ifY (by show (1 : Int) ≤ ((vs.length : Nat) : Int); omega) ?_⟩
    refine ⟨_, _, rfl, rfl, _, rfl, ?_⟩
    refine ifY (by show ((vs.length : Nat) : Int) ≤ 64; omega) ?_
    refine ⟨_, rfl, r, _, _, _, rfl, rfl, SqT.of hr1, rfl, ?_⟩
    exact q t vs _ s1 ht1 ⟨hl2, fun i v b hv hc => (hb i v b hv hc).kt (.of s1)⟩
  | @look p n va vb b1 b2 h hva hvb =>
    have hn : n ≤ 9999 := by
      cases bo with
      | look hn _ _ => exact hn
    refine ⟨_, rfl, _, _, _, _, true, rfl, .ty "tuple", .base (.tup h), kit_ty (by decide +kernel), true, rfl, ?_⟩
    refine ⟨_, rfl, p, _, rfl, .inr (SqT.of h), _, _, rfl, rfl, _, rfl, ifY (by show (0 : Int) < 4; decide) ?_⟩
    refine ⟨_, rfl, p, _, _, _, rfl, rfl, SqT.of h, rfl, _, _, _, _, true, rfl, .ty "str", .base (.str _), kit_ty (by decide +kernel), true, rfl, ?_⟩
    refine ⟨_, rfl, p, _, _, _, rfl, rfl, SqT.of h, rfl, _, rfl, _, rfl, p, _, rfl, SqT.of h, cut1_ne _ _, fun r hr0 => ?_⟩
    rw [cut1]
    have s1 := same_new hr0 (.tup [.int n, va, vb])
    have hr1 : upd H r (.tup [.int n, va, vb]) r = some (.tup [.int n, va, vb]) := upd_same
    revert s1 hr1
    generalize upd H r (.tup [.int n, va, vb]) = H1
    intro s1 hr1
    refine ⟨_, _, rfl, ?_⟩
    refine ⟨_, rfl, rfl, _, rfl, ifN (by decide +kernel) ?_⟩
    refine ⟨_, rfl, rfl, _, rfl, ifN (by decide +kernel) ?_⟩
    refine ⟨_, rfl, rfl, _, rfl, ifY rfl ?_⟩
    refine ⟨_, rfl, r, _, rfl, .inr (SqT.of hr1), rfl, _, rfl, ifY rfl ?_⟩
    refine ⟨_, rfl, r, _, _, _, rfl, rfl, SqT.of hr1, rfl, n, 0, 9999, rfl, ?_⟩
    have e1 : (decide ((0 : Int) ≤ n) && decide ((n : Int) ≤ 9999)) = true := by
      rw [decide_eq_true (by omega), decide_eq_true (by omega)] <;> rfl
    rw [e1]
    refine ⟨_, rfl, ?_⟩
    refine ⟨_, rfl, _, rfl, r, _, rfl, SqT.of hr1, cut1_ne _ _, fun z hz => ?_⟩
    rw [cut1]
    have s2 := same_new hz (.tup [va, vb])
    refine q z [va, vb] _ (s1.trans s2) upd_same ⟨rfl, fun i v b hv hc => ?_⟩
    match i, hv, hc with
    | 0, hv, hc =>
      cases hv
      cases hc
      exact hva.kt (.of (s1.trans s2))
    | 1, hv, hc =>
      cases hv
      cases hc
      exact hvb.kt (.of (s1.trans s2))
    | i + 2, hv, hc => cases hv
  | @ask p t ps va b1 h ht hva =>
    have po : PartsOk ps := by
      cases bo with
      | ask h _ => exact h
    refine ⟨_, rfl, _, _, _, _, true, rfl, .ty "tuple", .base (.tup h), kit_ty (by decide +kernel), true, rfl, ?_⟩
    refine ⟨_, rfl, p, _, rfl, .inr (SqT.of h), _, _, rfl, rfl, _, rfl, ifY (by show (0 : Int) < 3; decide) ?_⟩
    refine ⟨_, rfl, p, _, _, _, rfl, rfl, SqT.of h, rfl, _, _, _, _, true, rfl, .ty "str", .base (.str _), kit_ty (by decide +kernel), true, rfl, ?_⟩
    refine ⟨_, rfl, p, _, _, _, rfl, rfl, SqT.of h, rfl, _, rfl, _, rfl, p, _, rfl, SqT.of h, cut1_ne _ _, fun r hr0 => ?_⟩
    rw [cut1]
    have s1 := same_new hr0 (.tup [.ref t, va])
    have hr1 : upd H r (.tup [.ref t, va]) r = some (.tup [.ref t, va]) := upd_same
    revert s1 hr1
    generalize upd H r (.tup [.ref t, va]) = H1
    intro s1 hr1
    refine ⟨_, _, rfl, ?_⟩
    refine ⟨_, rfl, rfl, _, rfl, ifN (by decide +kernel) ?_⟩
    refine ⟨_, rfl, rfl, _, rfl, ifN (by decide +kernel) ?_⟩
    refine ⟨_, rfl, rfl, _, rfl, ifN (by decide +kernel) ?_⟩
    refine ⟨_, rfl, rfl, _, rfl, ifY rfl ?_⟩
    refine ⟨_, rfl, r, _, rfl, .inr (SqT.of hr1), rfl, _, rfl, ifY rfl ?_⟩
    refine ⟨_, rfl, r, _, _, _, rfl, rfl, SqT.of hr1, rfl, t, ps, rfl, s1 _ _ ht, po, fun H2 s2 => ⟨_, rfl, ?_⟩⟩
    refine ⟨_, rfl, _, rfl, r, _, rfl, SqT.of (s2 _ _ hr1), cut1_ne _ _, fun z hz => ?_⟩
    rw [cut1]
    have s3 := same_new hz (.tup [va])
    refine q z [va] _ (s1.trans (s2.trans s3)) upd_same ⟨rfl, fun i v b hv hc => ?_⟩
    match i, hv, hc with
    | 0, hv, hc =>
      cases hv
      cases hc
      exact hva.kt (.of (s1.trans (s2.trans s3)))
    | i + 1, hv, hc => cases hv
end
end Bk

set_option Elab.async false
set_option linter.all false
set_option maxRecDepth 100000
set_option maxHeartbeats 4000000
namespace Bk
open PySem PySem.Spec PyProof.Rows L2
section
variable {P : Program} {w : World} {K : PySem.W.Frag} {mg : Str → Option Value} {base : Heap}
theorem Kt.refl (H : Hp) : Kt H H := fun _ _ e => e
theorem Kt.lst {H H' : Hp} {D : Addr} {xs ys : List V} (k : Kt H H') (h : H' D = some (.lst xs)) : Kt H (upd H' D (.lst ys)) := fun b zs e => by
  have e2 := k b zs e
  rw [upd_ne (ne_of e2 h (by intro z; cases z))]
  exact e2
theorem Stk.split {H : Hp} {xs : List V} {S : Nat} (h : Stk H xs S) (hx : 0 < xs.length) : ∃ ys p v b e d S', xs = ys ++ [V.ref p] ∧ S = S' + Br.sz b ∧ Stk H ys S' ∧ H p = some (.tup [v, .int ((e : Nat) : Int)]) ∧ IsBr H v b ∧ BrOk d b ∧ e + d ≤ 5 := by
  cases h with
  | nil => cases hx
  | snoc h hp hb bo he => exact ⟨_, _, _, _, _, _, _, rfl, rfl, h, hp, hb, bo, he⟩
def spCheckPlain : Sp := fun vs H Q _ => ∃ (v : V) (b : Br), vs = [v] ∧ IsBr H v b ∧ BrOk 2 b ∧ ∀ H', Same H H' → Q .non H'
abbrev n_check_plain : List Str := ["breaker", "waiting", "within", "one", "depth", "inner", "other"]
theorem sc_check_plain : FnScope n_check_plain ["breaker"] (defScope s_check_plain) := ⟨rfl, rfl, rfl, by decide +kernel, rfl, by decide +kernel, by decide +kernel⟩
theorem c_check_plain (T : Tx w K mg) : C8.Cal P w K mg base 4 "check_plain" spCheckPlain [] := by
  obtain ⟨fd, F⟩ := T.f_check_plain
  refine calD F T.g_check_plain (F.bindsN fun _ _ _ _ _ _ us hl => match us, hl with | [_], _ => rfl) sc_check_plain (fun vs H Q E h => ?_) (fun cdv A outer s H vs Q E hr h => ?_)
  · obtain ⟨v, b, rfl, _⟩ := h
    rfl
  obtain ⟨v, b, rfl, hb, bo, q⟩ := h
  have hR : b.sz ≤ 169 := sz_le bo
  refine ⟨_, (pss_cons (ps_set (i := 1) sc_check_plain.nd rfl (Or.inl rfl) (pe_lst (pa_cons (pe_tup (pa_cons (pv 0) (pa_cons pe_int pa_nil))) pa_nil)))
    (pss_cons (ps_set (i := 2) sc_check_plain.nd rfl (Or.inl rfl) pe_int)
    (pss_one (ps_while PassesOwn.never (pt_cmpR op_gt (pe_callB call_len_seq (by rfl) T.n_len PySem.boot_len (pa_cons (pv 1) pa_nil)) pe_int (nomark _))
    (pss_cons (ps_asg (pe_bm0 PySem.F.plainAttrs_list PySem.F.slot_list_pop PySem.F.type_list_pop mt_pop (pv 1)) (pg_tup (by rfl) (pgs_cons (pg_name (i := 3) sc_check_plain.nd rfl (Or.inl rfl)) (pgs_cons (pg_name (i := 4) sc_check_plain.nd rfl (Or.inr rfl)) pgs_nil))))
    (pss_cons (ps_set (i := 5) sc_check_plain.nd rfl (Or.inl rfl) (C8.pe_c (c_inner_plain T) hr (by omega) rfl (pa_cons (pv 3) pa_nil)))
    (pss_cons (ps_aug (i := 2) sc_check_plain.nd rfl (Or.inl rfl) (pe_callB call_len_seq (by rfl) T.n_len PySem.boot_len (pa_cons (pv 5) pa_nil)) ip_add)
    (pss_cons (ps_if (PW.pt (pw_or (pt_cmpR op_gt (pv 4) (C8.pe_gc rfl T.i_MOST_DEPTH) (nomark _)) (pw_or1 (pt_cmpR op_gt (pv 2) (C8.pe_gc rfl T.i_MOST_WITHIN) (nomark _))))) (pss_one ps_never) pss_nil)
    (pss_one (ps_expr (pe_bm PySem.F.plainAttrs_list PySem.F.slot_list_extend PySem.F.type_list_extend mt_extend (pv 1) (pa_cons (pe_lc (own := [("other", 6)]) (tt := tYes) rfl sc_check_plain.nd (pi_tup (pv 5)) (blkOk_by (own := [("other", 6)]) (N := n_check_plain) (sc := defScope s_check_plain) (by decide +kernel)) (fun _ _ _ _ _ => (pg_name (i := 6) sc_check_plain.nd rfl (Or.inl rfl))) (fun _ _ _ _ _ => pts_nil) (fun _ _ _ _ _ => (pe_tup (pa_cons (pv 6) (pa_cons (pe_op op_add (pv 4) pe_int) pa_nil))))) pa_nil)))))))))))), ?_⟩
  refine ⟨_, rfl, by show 2 ≤ sizeLine; decide, fun t ht => ?_⟩
  refine ⟨by show 1 ≤ sizeLine; decide, fun D hD => ?_⟩
  have st := same_new ht (.tup [v, .int 1])
  have hDH : H D = none := by
    cases e : H D with
    | none => rfl
    | some o => rw [st _ _ e] at hD; cases hD
  have s0 : Same H (upd (upd H t (.tup [v, .int 1])) D (.lst [.ref t])) := st.trans (same_new hD _)
  refine ⟨fun m σ H' => ∃ (z3 z4 z5 z6 : Option V) (xs : List V) (wi : Nat), σ = [some v, some (.ref D), some (.int (wi : Int)), z3, z4, z5, z6] ∧ Same H H' ∧ H' D = some (.lst xs) ∧ Stk H' xs m ∧ (wi + m + 1 = b.sz + xs.length ∧ m ≤ b.sz), ⟨b.sz, none, none, none, none, [.ref t], 0, rfl, s0, upd_same, ?_, ?_⟩, ?_⟩
  · have := Stk.snoc (p := t) (v := v) (b := b) (e := 1) (d := 2) (Stk.nil (H := upd (upd H t (.tup [v, .int 1])) D (.lst [.ref t]))) ((same_new hD _) _ _ upd_same) (hb.kt (.of s0)) bo (by decide)
    rw [Nat.zero_add] at this
    exact this
  · simp only [List.length_cons, List.length_nil]
    exact ⟨by omega, Nat.le_refl _⟩
  rintro m σ H' ⟨z3, z4, z5, z6, xs, wi, rfl, s1, hL, hS, hc, hm⟩
  refine ⟨_, rfl, D, _, rfl, .inl (SqL.of hL), _, _, rfl, rfl, _, rfl, ?_⟩
  by_cases hx : (0 : Int) < ((xs.length : Nat) : Int)
  · refine ifY hx ?_
    obtain ⟨ys, p, v1, b1, e1, d1, S', rfl, rfl, hS', hp, hb1, bo1, he⟩ := hS.split (by omega)
    refine ⟨fun σ' H2 => ∃ m', m' < S' + b1.sz ∧ ∃ (z3 z4 z5 z6 : Option V) (xs : List V) (wi : Nat), σ' = [some v, some (.ref D), some (.int (wi : Int)), z3, z4, z5, z6] ∧ Same H H2 ∧ H2 D = some (.lst xs) ∧ Stk H2 xs m' ∧ (wi + m' + 1 = b.sz + xs.length ∧ m' ≤ b.sz), fun _ _ h => h, ?_⟩
    refine ⟨_, rfl, .inl ⟨rfl, _, SqL.of hL⟩, D, _, V.ref p, rfl, rfl, hL, ?_, ?_⟩
    · rw [List.length_append, List.getElem?_append_right (by simp only [List.length_cons, List.length_nil]; omega)]
      simp
    rw [List.dropLast_concat]
    have k2 : Kt H' (upd H' D (.lst ys)) := (Kt.refl H').lst hL
    have s2 : Same H (upd H' D (.lst ys)) := same_put s1 hDH _
    refine ⟨_, _, rfl, SqT.of (k2 _ _ hp), rfl, _, _, rfl, ?_⟩
    refine ⟨_, _, rfl, ?_⟩
    refine ⟨rfl, ?_⟩
    refine ⟨_, rfl, v1, b1, d1, rfl, hb1.kt k2, bo1, fun q1 ks H3 s3 hq1 hk => ?_⟩
    have lk : ks.length = b1.kids.length := hk.1
    have l1 := len_szs b1.kids
    have l2 := sz_kids b1
    have l3 := hS'.len
    rw [List.length_append] at hc
    simp only [List.length_cons, List.length_nil] at hc
    refine ⟨_, rfl, _, rfl, q1, _, rfl, .inr (SqT.of hq1), _, _, rfl, rfl, ?_⟩
    refine ⟨_, rfl, _, _, rfl, rfl, _, rfl, ifN (by show ¬ (60 : Int) < (e1 : Int); omega) ?_⟩
    refine ⟨_, rfl, _, _, rfl, rfl, _, rfl, ifN (by show ¬ (2000 : Int) < (wi : Int) + ((ks.length : Nat) : Int); omega) ?_⟩
    have hL3 := s3 _ _ (upd_same (H := H') (a := D) (o := .lst ys))
    have hS3 := hS'.kt (k2.trans (.of s3))
    refine ⟨_, rfl, .inl ⟨rfl, _, SqL.of hL3⟩, _, rfl, q1, rfl, ⟨_, SqT.of hq1⟩, fun D2 hD2 => ?_⟩
    refine lc_tup (xs := ks) (fun i H4 => Same H3 H4 ∧ ∃ zs, H4 D2 = some (.lst zs) ∧ zs.length = i ∧ Stk H4 zs (szs (b1.kids.take i))) ⟨same_new hD2 _, [], upd_same, rfl, ?_⟩ (fun i H4 _ h => SqT.of (h.1 _ _ hq1)) ?_ ?_
    · rw [List.take_zero, szs]
      exact .nil
    · rintro i y H4 hi ⟨s4, zs, hz, lz, hSz⟩
      have hi' : i < b1.kids.length := by
        have := (List.getElem?_eq_some_iff.mp hi).1
        omega
      have hbi : b1.kids[i]? = some b1.kids[i] := List.getElem?_eq_getElem hi'
      obtain ⟨d', ed, boi⟩ := kids_ok bo1 _ (List.getElem_mem hi')
      have hbI := (hk.2 i y _ hi hbi).kt (.of s4)
      refine ⟨rfl, ?_⟩
      refine ⟨_, rfl, _, rfl, _, _, rfl, rfl, by show 2 ≤ sizeLine; decide, fun t2 ht2 => ?_⟩
      have s5 := same_new ht2 (.tup [y, V.int ((e1 : Int) + 1)])
      have hz5 := s5 _ _ hz
      refine ⟨zs, hz5, lt1000 (by omega), ?_, zs ++ [.ref t2], upd_same, by rw [List.length_append, lz] <;> rfl, ?_⟩
      · exact same_put (s4.trans s5) hD2 _
      · rw [szs_take hbi]
        have k5 : Kt (upd H4 t2 (.tup [y, V.int ((e1 : Int) + 1)])) (upd (upd H4 t2 (.tup [y, V.int ((e1 : Int) + 1)])) D2 (.lst (zs ++ [.ref t2]))) := (Kt.refl _).lst hz5
        refine .snoc (e := e1 + 1) (hSz.kt ((Kt.of s5).trans k5)) (k5 _ _ upd_same) (hbI.kt ((Kt.of s5).trans k5)) boi (by omega)
    · rintro H4 ⟨s4, zs, hz, lz, hSz⟩
      rw [lk, List.take_length] at hSz
      have hD2D : D2 ≠ D := fun z => by
        rw [← z, hD2] at hL3
        cases hL3
      refine ⟨D, D2, ys, zs, rfl, rfl, s4 _ _ hL3, hz, line1000 (by omega), ?_⟩
      have k6 : Kt H4 (upd H4 D (.lst (ys ++ zs))) := (Kt.refl _).lst (s4 _ _ hL3)
      refine ⟨S' + szs b1.kids, by omega, some v1, some (.int (e1 : Int)), some (.ref q1), z6, ys ++ zs, wi + ks.length, ?_, same_put (s2.trans (s3.trans s4)) hDH _, upd_same, (((hS3.kt (.of s4)).append hSz)).kt k6, ?_⟩
      · rw [Int.natCast_add]
        rfl
      · rw [List.length_append]
        refine ⟨?_, ?_⟩ <;> omega
  · refine ifN hx ?_
    exact q H' s1
end
end Bk

set_option Elab.async false
set_option linter.all false
set_option maxRecDepth 100000
set_option maxHeartbeats 4000000
namespace Bk
open PySem PySem.Spec PyProof.Rows L2
theorem pss_never {X : Cx} {b : List Stmt} : PSs X b (fun _ _ _ => False) := ⟨fun _ _ _ _ _ _ h => h.elim⟩
section
variable {P : Program} {w : World} {K : PySem.W.Frag} {mg : Str → Option Value} {base : Heap}
def spFitsL : Sp := fun vs H Q _ => ∃ (p : Addr) (n k : Nat) (rows : List Bits), vs = [.ref p, .int k] ∧ GenV H p n (n + 1) rows ∧ GenB n (n + 1) rows ∧ 1 ≤ k ∧ k ≤ 20 ∧ ∀ H', Same H H' → Q (.bl true) H'
abbrev n_fits_longer : List Str := ["block", "k"]
theorem sc_fits_longer : FnScope n_fits_longer ["block", "k"] (defScope s_fits_longer) := ⟨rfl, rfl, rfl, by decide +kernel, rfl, by decide +kernel, by decide +kernel⟩
theorem c_fits_longer (T : Tx w K mg) : C8.Cal P w K mg base 4 "fits_longer" spFitsL [] := by
  obtain ⟨fd, F⟩ := T.f_fits_longer
  refine calD F T.g_fits_longer (F.bindsN fun _ _ _ _ _ _ us hl => match us, hl with | [_, _], _ => rfl) sc_fits_longer (fun vs H Q E h => ?_) (fun cdv A outer s H vs Q E hr h => ?_)
  · obtain ⟨p, n, k, rows, rfl, _⟩ := h
    rfl
  obtain ⟨p, n, k, rows, rfl, gv, g, hk1, hk2, q⟩ := h
  refine ⟨_, (pss_one (ps_ret (pe_and (C8.pe_c (c_is_generator T) hr (by omega) rfl (pa_cons (pv 0) pa_nil)) (pe_and (pe_cmpR op_eq (pe_ix (r := rIxT K) ix_tup (pv 0) pe_int (fun _ _ => rfl)) (pe_op op_add (pe_ix (r := rIxT K) ix_tup (pv 0) pe_int (fun _ _ => rfl)) pe_int) (nomark _)) (pe_one (C8.pe_c (c_is_number T) hr (by omega) rfl (pa_cons (pv 1) (pa_cons pe_int (pa_cons pe_int pa_nil))))))))), ?_⟩
  refine ⟨_, rfl, p, n, n + 1, rows, rfl, gv, g, fun H1 s1 => ?_⟩
  obtain ⟨t, hp, ht⟩ := gv.same s1
  refine ⟨true, rfl, ?_⟩
  refine ⟨_, rfl, p, _, _, _, rfl, rfl, SqT.of hp, rfl, _, rfl, p, _, _, _, rfl, rfl, SqT.of hp, rfl, _, _, rfl, rfl, rfl, _, rfl, ifY (vint (by omega)) ?_⟩
  refine ⟨_, rfl, _, _, _, rfl, ?_⟩
  have e1 : (decide ((1 : Int) ≤ k) && decide ((k : Int) ≤ 20)) = true := by
    rw [decide_eq_true (by omega), decide_eq_true (by omega)] <;> rfl
  rw [e1]
  exact q H1 s1
def spFitsW : Sp := fun vs H Q _ => ∃ (r p : Addr) (n k : Nat) (rows : List Bits), vs = [.str "longer", .ref r] ∧ H r = some (.tup [.ref p, .int k]) ∧ GenV H p n (n + 1) rows ∧ GenB n (n + 1) rows ∧ 1 ≤ k ∧ k ≤ 20 ∧ ∀ H', Same H H' → Q (.bl true) H'
abbrev n_fits_word : List Str := ["word", "parts"]
theorem sc_fits_word : FnScope n_fits_word ["word", "parts"] (defScope s_fits_word) := ⟨rfl, rfl, rfl, by decide +kernel, rfl, by decide +kernel, by decide +kernel⟩
theorem c_fits_word (T : Tx w K mg) : C8.Cal P w K mg base 5 "fits_word" spFitsW [] := by
  obtain ⟨fd, F⟩ := T.f_fits_word
  refine calD F T.g_fits_word (F.bindsN fun _ _ _ _ _ _ us hl => match us, hl with | [_, _], _ => rfl) sc_fits_word (fun vs H Q E h => ?_) (fun cdv A outer s H vs Q E hr h => ?_)
  · obtain ⟨r, p, n, k, rows, rfl, _⟩ := h
    rfl
  obtain ⟨r, p, n, k, rows, rfl, hr1, gv, g, hk1, hk2, q⟩ := h
  refine ⟨_, (pss_cons (ps_if (PW.pt (pw_and (pt_cmpR op_eq (pv 0) pe_str (nomark _)) (pw_and1 (pt_cmpR op_eq (pe_callB call_len_seq (by rfl) T.n_len PySem.boot_len (pa_cons (pv 1) pa_nil)) pe_int (nomark _))))) (pss_one (ps_ret (C8.pe_c (c_fits_longer T) hr (by omega) rfl (pa_cons (pe_ix (r := rIxT K) ix_tup (pv 1) pe_int (fun _ _ => rfl)) (pa_cons (pe_ix (r := rIxT K) ix_tup (pv 1) pe_int (fun _ _ => rfl)) pa_nil))))) pss_nil) pss_never), ?_⟩
  refine ⟨_, rfl, rfl, _, rfl, ifY rfl ?_⟩
  refine ⟨_, rfl, r, _, rfl, .inr (SqT.of hr1), rfl, _, rfl, ifY rfl ?_⟩
  exact ⟨_, rfl, r, _, _, _, rfl, rfl, SqT.of hr1, rfl, _, rfl, r, _, _, _, rfl, rfl, SqT.of hr1, rfl, p, n, k, rows, rfl, gv, g, hk1, hk2, q⟩
def spHasW : Sp := fun vs H Q _ => ∃ (p : Addr) (x : Str) (rest : List V) (b : Bool), vs = [.ref p] ∧ H p = some (.tup (.str x :: rest)) ∧ ((b = true ∧ (x = "say" ∨ x = "toss" ∨ x = "look" ∨ x = "ask")) ∨ (b = false ∧ x = "longer")) ∧ Q (.bl b) H
abbrev n_has_plain_word : List Str := ["value"]
theorem sc_has_plain_word : FnScope n_has_plain_word ["value"] (defScope s_has_plain_word) := ⟨rfl, rfl, rfl, by decide +kernel, rfl, by decide +kernel, by decide +kernel⟩
theorem c_has_plain_word (T : Tx w K mg) : C8.Cal P w K mg base 1 "has_plain_word" spHasW [] := by
  obtain ⟨fd, F⟩ := T.f_has_plain_word
  refine calD F T.g_has_plain_word (F.bindsN fun _ _ _ _ _ _ us hl => match us, hl with | [_], _ => rfl) sc_has_plain_word (fun vs H Q E h => ?_) (fun cdv A outer s H vs Q E hr h => ?_)
  · obtain ⟨p, x, rest, b, rfl, _⟩ := h
    rfl
  obtain ⟨p, x, rest, b, rfl, hp, hx, q⟩ := h
  refine ⟨_, (pss_one (ps_ret (pe_and (pe_callB call_isi (by rfl) T.n_isinstance (by decide +kernel) (pa_cons (pv 0) (pa_cons (pe_bltn (v := .ty "tuple") (by rfl) T.n_tuple (by decide +kernel) rfl) pa_nil))) (pe_and (pe_cmpR op_gt (pe_callB call_len_seq (by rfl) T.n_len PySem.boot_len (pa_cons (pv 0) pa_nil)) pe_int (nomark _)) (pe_and (pe_callB call_isi (by rfl) T.n_isinstance (by decide +kernel) (pa_cons (pe_ix (r := rIxT K) ix_tup (pv 0) pe_int (fun _ _ => rfl)) (pa_cons (pe_bltn (v := .ty "str") (by rfl) T.n_str (by decide +kernel) rfl) pa_nil))) (pe_one (pe_cmpR op_in_seq (pe_ix (r := rIxT K) ix_tup (pv 0) pe_int (fun _ _ => rfl)) (pe_glob (v := V.ref (He.ga K "PLAIN_WORDS")) rfl T.g_PLAIN_WORDS rfl) (by rfl)))))))), ?_⟩
  refine ⟨_, rfl, _, _, _, _, true, rfl, .ty "tuple", .base (.tup hp), kit_ty (by decide +kernel), true, rfl, ?_⟩
  refine ⟨_, rfl, p, _, rfl, .inr (SqT.of hp), _, _, rfl, rfl, _, rfl, ifY (by show (0 : Int) < ((rest.length + 1 : Nat) : Int); omega) ?_⟩
  refine ⟨_, rfl, p, _, _, _, rfl, rfl, SqT.of hp, atI_nat (j := 0) rfl, _, _, _, _, true, rfl, .ty "str", .base (.str _), kit_ty (by decide +kernel), true, rfl, ?_⟩
  refine ⟨_, rfl, p, _, _, _, rfl, rfl, SqT.of hp, atI_nat (j := 0) rfl, _, _, rfl, .inr (T.words H), rfl, rfl, ?_⟩
  have e : inV (.str x) [.str "say", .str "toss", .str "look", .str "ask"] = b := by
    rcases hx with ⟨rfl, rfl | rfl | rfl | rfl⟩ | ⟨rfl, rfl⟩ <;> decide +kernel
  show Q (.bl (inV (.str x) [.str "say", .str "toss", .str "look", .str "ask"])) H
  rw [e]
  exact q
theorem IsBr.word {H : Hp} {v : V} {b : Br} (h : IsBr H v b) : ∃ p x rest, v = .ref p ∧ H p = some (.tup (.str x :: rest)) ∧ (x = "say" ∨ x = "toss" ∨ x = "look" ∨ x = "ask") := by
  cases h with
  | say h hq => exact ⟨_, _, _, rfl, h, .inl rfl⟩
  | toss h _ _ _ => exact ⟨_, _, _, rfl, h, .inr (.inl rfl)⟩
  | look h _ _ => exact ⟨_, _, _, rfl, h, .inr (.inr (.inl rfl))⟩
  | ask h _ _ => exact ⟨_, _, _, rfl, h, .inr (.inr (.inr rfl))⟩
/-- the made breaker -/
structure IsMade (H : Hp) (p t : Addr) (vi : V) (b : Br) (n k : Nat) (rows : List Bits) : Prop where
  tup : H p = some (.tup [.str "longer", .ref t, .int k, vi])
  gen : GenV H t n (n + 1) rows
  genB : GenB n (n + 1) rows
  k1 : 1 ≤ k
  k2 : k ≤ 4
  br : IsBr H vi b
  ok : BrOk 2 b
theorem IsMade.kt {H H' : Hp} {p t : Addr} {vi : V} {b : Br} {n k : Nat} {rows : List Bits} (m : IsMade H p t vi b n k rows) (s : Kt H H') : IsMade H' p t vi b n k rows := ⟨s _ _ m.tup, m.gen.kt s, m.genB, m.k1, m.k2, m.br.kt s, m.ok⟩
def spCheckBr : Sp := fun vs H Q _ => (∃ (v : V) (b : Br), vs = [v] ∧ IsBr H v b ∧ BrOk 2 b ∧ ∀ H', Same H H' → Q .non H') ∨ (∃ (p t : Addr) (vi : V) (b : Br) (n k : Nat) (rows : List Bits), vs = [.ref p] ∧ IsMade H p t vi b n k rows ∧ ∀ H', Same H H' → Q .non H')
abbrev n_check_breaker : List Str := ["breaker", "layers", "word"]
theorem sc_check_breaker : FnScope n_check_breaker ["breaker"] (defScope s_check_breaker) := ⟨rfl, rfl, rfl, by decide +kernel, rfl, by decide +kernel, by decide +kernel⟩
theorem c_check_breaker (T : Tx w K mg) : C8.Cal P w K mg base 6 "check_breaker" spCheckBr [] := by
  obtain ⟨fd, F⟩ := T.f_check_breaker
  refine calD F T.g_check_breaker (F.bindsN fun _ _ _ _ _ _ us hl => match us, hl with | [_], _ => rfl) sc_check_breaker (fun vs H Q E h => ?_) (fun cdv A outer s H vs Q E hr h => ?_)
  · rcases h with ⟨v, b, rfl, _⟩ | ⟨p, t, vi, b, n, k, rows, rfl, _⟩ <;> rfl
  have key : ∃ v, vs = [v] ∧ ∃ m : Nat, ((m = 0 ∧ ∃ b, IsBr H v b ∧ BrOk 2 b) ∨ (m = 1 ∧ ∃ p t vi b n k rows, v = .ref p ∧ IsMade H p t vi b n k rows)) ∧ ∀ H', Same H H' → Q .non H' := by
    rcases h with ⟨v, b, rfl, hb, bo, q⟩ | ⟨p, t, vi, b, n, k, rows, rfl, hm, q⟩
    · exact ⟨v, rfl, 0, .inl ⟨rfl, b, hb, bo⟩, q⟩
    · exact ⟨.ref p, rfl, 1, .inr ⟨rfl, p, t, vi, b, n, k, rows, rfl, hm⟩, q⟩
  obtain ⟨v, rfl, m0, hm0, q⟩ := key
  clear h
  refine ⟨_, (pss_cons (ps_set (i := 1) sc_check_breaker.nd rfl (Or.inl rfl) pe_int)
    (pss_cons (ps_set (i := 2) sc_check_breaker.nd rfl (Or.inl rfl) pe_non)
    (pss_cons (ps_while PassesOwn.never (pt_not (pt_val (C8.pe_c (c_has_plain_word T) hr (by omega) rfl (pa_cons (pv 0) pa_nil))))
    (pss_cons (ps_if (PW.pt (pw_or (pt_not (pt_val (pe_callB call_isi (by rfl) T.n_isinstance (by decide +kernel) (pa_cons (pv 0) (pa_cons (pe_bltn (v := .ty "tuple") (by rfl) T.n_tuple (by decide +kernel) rfl) pa_nil))))) (pw_or (pt_cmpR op_lt (pe_callB call_len_seq (by rfl) T.n_len PySem.boot_len (pa_cons (pv 0) pa_nil)) pe_int (nomark _)) (pw_or1 (pt_not (pt_val (pe_callB call_isi (by rfl) T.n_isinstance (by decide +kernel) (pa_cons (pe_ix (r := rIxT K) ix_tup (pv 0) pe_int (fun _ _ => rfl)) (pa_cons (pe_bltn (v := .ty "str") (by rfl) T.n_str (by decide +kernel) rfl) pa_nil))))))))) (pss_one ps_never) pss_nil)
    (pss_cons (ps_if (PW.pt (pw_or (pt_cmpR op_eq (pv 2) pe_str (nomark _)) (pw_or1 (pt_not (pt_val (C8.pe_c (c_fits_word T) hr (by omega) rfl (pa_cons (pe_ix (r := rIxT K) ix_tup (pv 0) pe_int (fun _ _ => rfl)) (pa_cons (pe_slice sl_tup (pv 0) (po_some pe_int) (po_some (pe_un un_neg pe_int))) pa_nil)))))))) (pss_one ps_never) pss_nil)
    (pss_cons (ps_aug (i := 1) sc_check_breaker.nd rfl (Or.inl rfl) pe_int ip_add)
    (pss_cons (ps_if (pt_cmpR op_gt (pv 1) (C8.pe_gc rfl T.i_MOST_LAYERS) (nomark _)) (pss_one ps_never) pss_nil)
    (pss_one (ps_par (i := 2) (j := 0) (by rfl) sc_check_breaker.nd rfl rfl (by decide) rfl rfl (pa_cons (pe_ix (r := rIxT K) ix_tup (pv 0) pe_int (fun _ _ => rfl)) (pa_cons (pe_ix (r := rIxT K) ix_tup (pv 0) (pe_un un_neg pe_int) (fun _ _ => rfl)) pa_nil)) (by rfl))))))))
    (pss_one (ps_expr (C8.pe_c (c_check_plain T) hr (by omega) rfl (pa_cons (pv 0) pa_nil))))))), ?_⟩
  refine ⟨fun m σ H' => ∃ (v : V) (wd : V) (l : Nat), σ = [some v, some (.int (l : Int)), some wd] ∧ scal wd (.str "onetime") = true ∧ wd ≠ .str "onetime" ∧ l + m ≤ 1 ∧ Same H H' ∧ ((m = 0 ∧ ∃ b, IsBr H' v b ∧ BrOk 2 b) ∨ (m = 1 ∧ ∃ p t vi b n k rows, v = .ref p ∧ IsMade H' p t vi b n k rows)), ⟨m0, v, .non, 0, rfl, rfl, (fun z => by cases z), ?_, Same.refl H, hm0⟩, ?_⟩
  · rcases hm0 with ⟨rfl, _⟩ | ⟨rfl, _⟩ <;> decide
  rintro m σ H' ⟨v, wd, l, rfl, fw, hw, hl, s1, ⟨rfl, b, hb, bo⟩ | ⟨rfl, p, t, vi, b, n, k, rows, rfl, hm⟩⟩
  · obtain ⟨p, x, rest, rfl, hp, hx⟩ := hb.word
    refine ⟨_, rfl, p, x, rest, true, rfl, hp, .inl ⟨rfl, hx⟩, ?_⟩
    refine ⟨_, rfl, ?_⟩
    exact ⟨_, rfl, _, b, rfl, hb, bo, fun H2 s2 => q H2 (s1.trans s2)⟩
  · have hp := hm.tup
    refine ⟨_, rfl, p, _, _, false, rfl, hp, .inr ⟨rfl, rfl⟩, ?_⟩
    refine ⟨_, rfl, ?_⟩
    refine ⟨fun σ' H2 => ∃ m', m' < 1 ∧ ∃ (v : V) (wd : V) (l : Nat), σ' = [some v, some (.int (l : Int)), some wd] ∧ scal wd (.str "onetime") = true ∧ wd ≠ .str "onetime" ∧ l + m' ≤ 1 ∧ Same H H2 ∧ ((m' = 0 ∧ ∃ b, IsBr H2 v b ∧ BrOk 2 b) ∨ (m' = 1 ∧ ∃ p t vi b n k rows, v = .ref p ∧ IsMade H2 p t vi b n k rows)), fun _ _ h => h, ?_⟩
    refine ⟨_, rfl, _, _, _, _, true, rfl, .ty "tuple", .base (.tup hp), kit_ty (by decide +kernel), true, rfl, ?_⟩
    refine ⟨_, rfl, p, _, rfl, .inr (SqT.of hp), _, _, rfl, rfl, _, rfl, ifN (by show ¬ (4 : Int) < 2; decide) ?_⟩
    refine ⟨_, rfl, p, _, _, _, rfl, rfl, SqT.of hp, rfl, _, _, _, _, true, rfl, .ty "str", .base (.str _), kit_ty (by decide +kernel), true, rfl, ?_⟩
    refine ⟨_, rfl, fw, _, rfl, ifN hw ?_⟩
    refine ⟨_, rfl, p, _, _, _, rfl, rfl, SqT.of hp, rfl, _, rfl, _, rfl, _, rfl, _, rfl, p, _, rfl, SqT.of hp, (by show ¬ (HT.sIx 4 0 (some 1) = 0 ∧ HT.sIx 4 4 (some (-1)) = 4); decide), fun r hr1 => ?_⟩
    have s2 := same_new hr1 (.tup [.ref t, .int k])
    have hm2 := hm.kt (.of s2)
    refine ⟨r, t, n, k, rows, rfl, upd_same, hm2.gen, hm2.genB, hm2.k1, by have := hm2.k2; omega, fun H3 s3 => ?_⟩
    have hm3 := hm2.kt (.of s3)
    have hp3 := hm3.tup
    refine ⟨_, rfl, ?_⟩
    refine ⟨_, rfl, _, _, rfl, rfl, ?_⟩
    refine ⟨_, rfl, _, _, rfl, rfl, _, rfl, ifN (by show ¬ (20 : Int) < (l : Int) + 1; omega) ?_⟩
    refine ⟨_, rfl, p, _, _, _, rfl, rfl, SqT.of hp3, rfl, _, rfl, _, rfl, p, _, _, _, rfl, rfl, SqT.of hp3, rfl, ?_⟩
    refine ⟨_, _, rfl, ?_⟩
    refine ⟨0, by decide, vi, .str "longer", l + 1, ?_, rfl, (by intro z; exact absurd (V.str.inj z) (by decide +kernel)), by omega, s1.trans (s2.trans s3), .inl ⟨rfl, b, hm3.br, hm3.ok⟩⟩
    rfl
end
end Bk

set_option Elab.async false
set_option linter.all false
set_option maxRecDepth 100000
set_option maxHeartbeats 4000000
namespace Bk
open PySem PySem.Spec PyProof.Rows L2
/-- but for what stands at a and at c -/
def But2 (a c : Addr) (H H' : Hp) : Prop := ∀ b o, b ≠ a → b ≠ c → H b = some o → H' b = some o
section
variable {a c : Addr} {H H' H2 : Hp}
theorem But2.refl (a c : Addr) (H : Hp) : But2 a c H H := fun _ _ _ _ e => e
theorem But2.trans (x : But2 a c H H') (y : But2 a c H' H2) : But2 a c H H2 := fun b o n m e => y b o n m (x b o n m e)
theorem But2.of (x : Same H H') : But2 a c H H' := fun b o _ _ e => x b o e
theorem But2.l (x : But a H H') : But2 a c H H' := fun b o n _ e => x b o n e
theorem But2.r (x : But c H H') : But2 a c H H' := fun b o _ n e => x b o n e
theorem But2.kt (x : But2 a c H H') (ha : ∀ xs, H a ≠ some (.tup xs)) (hc : ∀ xs, H c ≠ some (.tup xs)) : Kt H H' := fun b xs e => x b _ (fun z => ha xs (z ▸ e)) (fun z => hc xs (z ▸ e)) e
theorem But.kt2 (x : But a H H') (ha : ∀ xs, H a ≠ some (.tup xs)) : Kt H H' := fun b xs e => x b _ (fun z => ha xs (z ▸ e)) e
end
/-! ### the tape of a play -/
structure Tk where
  p : Addr
  dx : Addr
  lc : Addr
  ld : Addr
  cs : List Nat
def Drs (H : Hp) (rs : List V) (ds : List (Nat × Nat)) : Prop := rs.length = ds.length ∧ ∀ (i : Nat) r d, rs[i]? = some r → ds[i]? = some d → ∃ q, r = .ref q ∧ H q = some (.tup [.int (d.1 : Nat), .int (d.2 : Nat)])
theorem Drs.kt {H H' : Hp} {rs : List V} {ds : List (Nat × Nat)} (h : Drs H rs ds) (k : Kt H H') : Drs H' rs ds := ⟨h.1, fun i r d x y => by
  obtain ⟨q, e, z⟩ := h.2 i r d x y
  exact ⟨q, e, k _ _ z⟩⟩
theorem Drs.snoc {H : Hp} {rs : List V} {ds : List (Nat × Nat)} (h : Drs H rs ds) {q : Addr} {a b : Nat} (hq : H q = some (.tup [.int (a : Nat), .int (b : Nat)])) : Drs H (rs ++ [.ref q]) (ds ++ [(a, b)]) := by
  refine ⟨by rw [List.length_append, List.length_append, h.1] <;> rfl, fun i r d x y => ?_⟩
  by_cases hi : i < rs.length
  · rw [List.getElem?_append_left hi] at x
    rw [List.getElem?_append_left (by rw [← h.1]; exact hi)] at y
    exact h.2 i r d x y
  · have hl := (List.getElem?_eq_some_iff.mp x).1
    rw [List.length_append] at hl
    simp only [List.length_cons, List.length_nil] at hl
    have e : i = rs.length := by omega
    subst e
    rw [List.getElem?_append_right (Nat.le_refl _), Nat.sub_self] at x
    rw [h.1, List.getElem?_append_right (Nat.le_refl _), Nat.sub_self] at y
    cases x
    cases y
    exact ⟨q, rfl, hq⟩
structure TapeAt (K : PySem.W.Frag) (H : Hp) (τ : Tk) (ds : List (Nat × Nat)) (R : List Nat) : Prop where
  obj : H τ.p = some (.ins (He.ga K "Tape") τ.dx [("choices", .ref τ.lc), ("draws", .ref τ.ld)])
  ch : H τ.lc = some (.lst (τ.cs.map fun c => V.int (c : Nat)))
  dr : ∃ rs, H τ.ld = some (.lst rs) ∧ Drs H rs ds
  rest : R = τ.cs.drop ds.length
  ne : τ.lc ≠ τ.ld
  small : τ.cs.length ≤ 200
section
variable {K : PySem.W.Frag} {H H' : Hp} {τ : Tk} {ds : List (Nat × Nat)} {R : List Nat}
theorem TapeAt.notup (t : TapeAt K H τ ds R) : ∀ xs, H τ.ld ≠ some (.tup xs) := fun xs e => by
  obtain ⟨rs, h, _⟩ := t.dr
  rw [h] at e
  cases e
theorem TapeAt.same (t : TapeAt K H τ ds R) (s : Same H H') : TapeAt K H' τ ds R := by
  obtain ⟨rs, h, d⟩ := t.dr
  exact ⟨s _ _ t.obj, s _ _ t.ch, ⟨rs, s _ _ h, d.kt (.of s)⟩, t.rest, t.ne, t.small⟩
theorem TapeAt.but {a : Addr} (t : TapeAt K H τ ds R) (s : But a H H') (h1 : a ≠ τ.p) (h2 : a ≠ τ.lc) (h3 : a ≠ τ.ld) (hk : Kt H H') : TapeAt K H' τ ds R := by
  obtain ⟨rs, h, d⟩ := t.dr
  exact ⟨s _ _ h1.symm t.obj, s _ _ h2.symm t.ch, ⟨rs, s _ _ h3.symm h, d.kt hk⟩, t.rest, t.ne, t.small⟩
end
section
variable {P : Program} {w : World} {K : PySem.W.Frag} {mg : Str → Option Value} {base : Heap}
/-- an instance that was just made -/
def newI (H : Hp) (x dx C : Addr) : Hp := upd (upd H dx (.own x)) x (.ins C dx [])
theorem newI_same {H : Hp} {x dx C : Addr} (hx : H x = none) (hd : H dx = none) (ne : dx ≠ x) : Same H (newI H x dx C) := fun b o e => by
  unfold newI
  rw [upd_ne (ne_of_none e hx), upd_ne (ne_of_none e hd)]
  exact e
theorem newI_at {H : Hp} {x dx C : Addr} : newI H x dx C x = some (.ins C dx []) := upd_same
def spTapeI (K : PySem.W.Frag) : Sp := fun vs H Q _ => ∃ (x dx l : Addr) (H0 : Hp) (cs : List Nat), vs = [.ref x, .ref l] ∧ H = newI H0 x dx (He.ga K "Tape") ∧ H0 x = none ∧ H0 dx = none ∧ dx ≠ x ∧ H0 l = some (.lst (cs.map fun c => V.int (c : Nat))) ∧ cs.length ≤ 200 ∧ ∀ (τ : Tk) H', τ.p = x → Same H0 H' → TapeAt K H' τ [] cs → H0 τ.ld = none → Q .non H'
abbrev n_Tape__init : List Str := ["self", "choices"]
theorem sc_Tape__init : FnScope n_Tape__init ["self", "choices"] (defScope s_Tape__init) := ⟨rfl, rfl, rfl, by decide +kernel, rfl, by decide +kernel, by decide +kernel⟩
theorem k_Tape (T : Tx w K mg) : C8.Mak P w K mg base 1 "Tape" (He.ga K "Tape") (spTapeI K) [] := by
  obtain ⟨fd, F⟩ := T.f_Tape__init
  refine makD T.mk_Tape T.g_Tape F (F.bindsN fun _ _ _ _ _ _ us hl => match us, hl with | [_, _], _ => rfl) sc_Tape__init (fun vs H Q E h => ?_) (fun cdv A outer s H vs Q E hr h => ?_)
  · obtain ⟨x, dx, l, H0, cs, rfl, _⟩ := h
    rfl
  obtain ⟨x, dx, l, H0, cs, rfl, rfl, hx, hd, ne, hl, hcs, q⟩ := h
  refine ⟨_, (pss_cons (ps_fld (pv 0) (pe_callTy call_list_of (by rfl) T.n_list (by decide +kernel) (pa_cons (pv 1) pa_nil)) rfl)
    (pss_one (ps_fld (pv 0) (pe_lst pa_nil) rfl))), ?_⟩
  have s0 := newI_same (C := He.ga K "Tape") hx hd ne
  refine ⟨_, rfl, l, _, rfl, .inl (SqL.of (s0 _ _ hl)), fun lc hlc => ?_⟩
  have x1 : lc ≠ x := fun z => by rw [z, newI_at] at hlc; cases hlc
  refine ⟨_, rfl, x, _, _, _, rfl, (by rw [upd_ne x1.symm]; exact newI_at), T.k_Tape, T.a_Tape_choices, by show 0 < 1000; decide, ?_⟩
  refine ⟨Nat.zero_le _, fun ld hld => ?_⟩
  have x2 : ld ≠ x := fun z => by rw [z, upd_same] at hld; cases hld
  have x3 : ld ≠ lc := fun z => by rw [z, upd_ne x1, upd_same] at hld; cases hld
  refine ⟨_, rfl, x, _, _, _, rfl, (by rw [upd_ne x2.symm, upd_same]), T.k_Tape, T.a_Tape_draws, by show 1 < 1000; decide, ?_⟩
  have hn : ∀ {b : Addr}, newI H0 x dx (He.ga K "Tape") b = none → H0 b = none := fun {b} h => by
    cases e : H0 b with
    | none => rfl
    | some o => rw [s0 _ _ e] at h; cases h
  have hld0 : H0 ld = none := hn (by rw [← hld, upd_ne x2, upd_ne x3])
  refine q ⟨x, dx, lc, ld, cs⟩ _ rfl (fun b o e => ?_) ⟨upd_same, ?_, ⟨[], ?_, rfl, fun i r d h => by cases h⟩, rfl, x3.symm, hcs⟩ hld0
  · have b1 : b ≠ x := ne_of_none e hx
    have b2 : b ≠ ld := ne_of_none e hld0
    have b3 : b ≠ lc := ne_of_none e (hn hlc)
    rw [upd_ne b1, upd_ne b2, upd_ne b1, upd_ne b3]
    exact s0 _ _ e
  · show upd _ x _ lc = _
    rw [upd_ne x1, upd_ne x3.symm, upd_ne x1, upd_same]
  · show upd _ x _ ld = _
    rw [upd_ne x2, upd_same]
def spTDraw (K : PySem.W.Frag) : Sp := fun vs H Q _ => ∃ (τ : Tk) (n : Nat) (ds : List (Nat × Nat)) (R : List Nat), vs = [.ref τ.p, .int n] ∧ TapeAt K H τ ds R ∧ ds.length ≤ 100 ∧ R.headD 0 < n ∧ ∀ H', TapeAt K H' τ (ds ++ [(R.headD 0, n)]) R.tail → But τ.ld H H' → Q (.int (R.headD 0 : Nat)) H'
abbrev n_Tape_draw : List Str := ["self", "many", "at", "choice"]
theorem sc_Tape_draw : FnScope n_Tape_draw ["self", "many"] (defScope s_Tape_draw) := ⟨rfl, rfl, rfl, by decide +kernel, rfl, by decide +kernel, by decide +kernel⟩
theorem c_Tape_draw (T : Tx w K mg) : C8.Met P w K mg base 1 (He.ga K "Tape") "draw" (spTDraw K) [] := by
  obtain ⟨fd, F⟩ := T.f_Tape_draw
  refine metD T.k_Tape T.m_Tape_draw F (F.bindsN fun _ _ _ _ _ _ us hl => match us, hl with | [_, _], _ => rfl) sc_Tape_draw (fun vs H Q E h => ?_) (fun cdv A outer s H vs Q E hr h => ?_)
  · obtain ⟨τ, n, ds, R, rfl, _⟩ := h
    rfl
  obtain ⟨τ, n, ds, R, rfl, ta, hds, hn, q⟩ := h
  obtain ⟨rs, hrs, dr⟩ := ta.dr
  refine ⟨_, (pss_cons (ps_set (i := 2) sc_Tape_draw.nd rfl (Or.inl rfl) (pe_callB call_len_seq (by rfl) T.n_len PySem.boot_len (pa_cons (pe_fld (pv 0) rfl) pa_nil)))
    (C8.pss_cut (ps_set (i := 3) sc_Tape_draw.nd rfl (Or.inl rfl) (pe_ifExp (pt_cmpR op_lt (pv 2) (pe_callB call_len_seq (by rfl) T.n_len PySem.boot_len (pa_cons (pe_fld (pv 0) rfl) pa_nil)) (nomark _)) (pe_ix (r := rIxL K) ix_list (pe_fld (pv 0) rfl) (pv 2) (fun _ _ => rfl)) pe_int))
    (pss_cons (ps_if (pt_not (pt_chain op_le op_lt pe_int (pv 3) (pv 1))) (pss_one ps_never) pss_nil)
    (pss_cons (ps_expr (pe_bm PySem.F.plainAttrs_list PySem.F.slot_list_append PySem.F.type_list_append mt_append (pe_fld (pv 0) rfl) (pa_cons (pe_tup (pa_cons (pv 3) (pa_cons (pv 1) pa_nil))) pa_nil)))
    (pss_one (ps_ret (pv 3))))))), ?_⟩
  refine ⟨_, rfl, τ.p, _, _, _, _, rfl, ta.obj, T.k_Tape, T.a_Tape_draws, rfl, τ.ld, _, rfl, .inl (SqL.of hrs), ?_⟩
  have hr0 : R.headD 0 = τ.cs.getD ds.length 0 := by
    rw [ta.rest, List.headD_eq_head?_getD, List.head?_drop, List.getD_eq_getElem?_getD]
  refine ⟨fun σ H' => σ = [some (.ref τ.p), some (.int n), some (.int (rs.length : Nat)), some (.int (R.headD 0 : Nat))] ∧ H' = H, ?_, ?_⟩
  · refine ⟨_, rfl, _, rfl, τ.p, _, _, _, _, rfl, ta.obj, T.k_Tape, T.a_Tape_choices, rfl, τ.lc, _, rfl, .inl (SqL.of ta.ch), _, _, rfl, rfl, _, rfl, ?_⟩
    rw [List.length_map, dr.1]
    by_cases hl : ds.length < τ.cs.length
    · refine ifY (by omega) ?_
      refine ⟨_, rfl, τ.p, _, _, _, _, rfl, ta.obj, T.k_Tape, T.a_Tape_choices, rfl, _, rfl, τ.lc, _, _, V.int (τ.cs[ds.length] : Nat), rfl, rfl, SqL.of ta.ch, atI_nat (j := ds.length) (by rw [List.getElem?_map, List.getElem?_eq_getElem hl] <;> rfl), ?_⟩
      rw [hr0, List.getD_eq_getElem?_getD, List.getElem?_eq_getElem hl]
      exact ⟨rfl, rfl⟩
    · refine ifN (by omega) ?_
      rw [hr0, List.getD_eq_getElem?_getD, List.getElem?_eq_none (by omega)]
      exact ⟨rfl, rfl⟩
  rintro σ H' ⟨rfl, rfl⟩
  refine ⟨_, rfl, _, _, rfl, rfl, _, rfl, ?_⟩
  refine ifY (by show (0 : Int) ≤ ((R.headD 0 : Nat) : Int); omega) ?_
  refine ⟨_, rfl, _, _, rfl, rfl, _, rfl, ?_⟩
  refine niY (by show ((R.headD 0 : Nat) : Int) < (n : Int); omega) ?_
  refine ⟨_, rfl, τ.p, _, _, _, _, rfl, ta.obj, T.k_Tape, T.a_Tape_draws, rfl, .inl ⟨rfl, _, SqL.of hrs⟩, ?_⟩
  refine ⟨_, rfl, _, rfl, by show 2 ≤ sizeLine; decide, fun t ht => ?_⟩
  have s1 := same_new ht (.tup [.int (R.headD 0 : Nat), .int (n : Nat)])
  have ne2 : τ.ld ≠ τ.p := fun z => by rw [z, ta.obj] at hrs; cases hrs
  have ta1 := ta.same s1
  obtain ⟨rs1, hrs1, dr1⟩ := ta1.dr
  have hk : Kt (upd H' t (.tup [.int (R.headD 0 : Nat), .int (n : Nat)])) (upd (upd H' t (.tup [.int (R.headD 0 : Nat), .int (n : Nat)])) τ.ld (.lst (rs1 ++ [.ref t]))) := (Kt.refl _).lst hrs1
  refine ⟨τ.ld, rs1, _, rfl, rfl, hrs1, lt1000 (by rw [dr1.1]; omega), ?_⟩
  refine ⟨_, rfl, ?_⟩
  refine q _ ⟨?_, ?_, ⟨rs1 ++ [.ref t], upd_same, (dr1.kt hk).snoc (hk _ _ upd_same)⟩, ?_, ta.ne, ta.small⟩ ((But.of s1).upd _)
  · rw [upd_ne ne2.symm]
    exact ta1.obj
  · rw [upd_ne ta.ne]
    exact ta1.ch
  · rw [ta.rest, List.length_append, List.tail_drop]
    rfl
def spTString (K : PySem.W.Frag) : Sp := fun vs H Q _ => ∃ (τ : Tk) (m : Nat) (ds : List (Nat × Nat)) (R : List Nat), vs = [.ref τ.p, .int m] ∧ m ≤ 9 ∧ TapeAt K H τ ds R ∧ ds.length ≤ 100 ∧ R.headD 0 < 2 ^ m ∧ ∀ H', TapeAt K H' τ (ds ++ [(R.headD 0, 2 ^ m)]) R.tail → But τ.ld H H' → Q (.str (St (bitsOf m (R.headD 0)))) H'
abbrev n_Tape_string : List Str := ["self", "length"]
theorem sc_Tape_string : FnScope n_Tape_string ["self", "length"] (defScope s_Tape_string) := ⟨rfl, rfl, rfl, by decide +kernel, rfl, by decide +kernel, by decide +kernel⟩
theorem c_Tape_string (T : Tx w K mg) : C8.Met P w K mg base 2 (He.ga K "Tape") "string" (spTString K) [] := by
  obtain ⟨fd, F⟩ := T.f_Tape_string
  refine metD T.k_Tape T.m_Tape_string F (F.bindsN fun _ _ _ _ _ _ us hl => match us, hl with | [_, _], _ => rfl) sc_Tape_string (fun vs H Q E h => ?_) (fun cdv A outer s H vs Q E hr h => ?_)
  · obtain ⟨τ, m, ds, R, rfl, _⟩ := h
    rfl
  obtain ⟨τ, m, ds, R, rfl, hm, ta, hds, hn, q⟩ := h
  refine ⟨_, (pss_one (ps_ret (C8.pe_c (c_bits T) hr (by omega) rfl (pa_cons (pv 1) (pa_cons (C8.pe_mt (c_Tape_draw T) hr (by omega) (pv 0) (pa_cons (pe_op op_shl pe_int (pv 1)) pa_nil)) pa_nil))))), ?_⟩
  refine ⟨_, rfl, _, rfl, τ.p, _, _, rfl, ta.obj, rfl, _, rfl, _, _, rfl, rfl, ⟨by omega, by omega, by decide⟩, ?_⟩
  refine ⟨τ, 2 ^ m, ds, R, ?_, ta, hds, hn, fun H1 ta1 b1 => ?_⟩
  · show [V.ref τ.p, V.int ((1 : Int) * 2 ^ (m : Int).toNat)] = _
    rw [two_pow_int]
  exact ⟨m, R.headD 0, rfl, by omega, fun H2 s2 => q H2 (ta1.same s2) (b1.trans (.of s2))⟩
/-! ### who answers -/
/-- a world at w, its asked strings at la; j bounds how many -/
def WA (K : PySem.W.Frag) : Bool → Hp → Addr → Addr → Nat → Prop
  | false => fun H w la _ => la = w ∧ ∃ dx, H w = some (.ins (clsB K false) dx [])
  | true => fun H w la j => ∃ dx sw dx2 as, H w = some (.ins (clsB K true) dx [("world", .ref sw), ("asked", .ref la)]) ∧ H sw = some (.ins (clsB K false) dx2 []) ∧ H la = some (.lst as) ∧ as.length ≤ j
theorem WA.ins {b : Bool} {H : Hp} {w la : Addr} {j : Nat} (h : WA K b H w la j) : ∃ dx fs, H w = some (.ins (clsB K b) dx fs) ∧ List.lookup ("answer" : Str) fs = none := by
  cases b with
  | false =>
    obtain ⟨_, dx, e⟩ := h
    exact ⟨dx, _, e, rfl⟩
  | true =>
    obtain ⟨dx, sw, dx2, as, e, _⟩ := h
    exact ⟨dx, _, e, rfl⟩
theorem WA.notup {b : Bool} {H : Hp} {w la : Addr} {j : Nat} (h : WA K b H w la j) : ∀ xs, H la ≠ some (.tup xs) := fun xs e => by
  cases b with
  | false =>
    obtain ⟨rfl, dx, z⟩ := h
    rw [z] at e
    cases e
  | true =>
    obtain ⟨dx, sw, dx2, as, _, _, z, _⟩ := h
    rw [z] at e
    cases e
/-- other lists may change -/
theorem WA.but {b : Bool} {H H' : Hp} {w la : Addr} {j : Nat} (h : WA K b H w la j) {a : Addr} {xs : List V} (ha : H a = some (.lst xs)) (ne : la ≠ a) (s : But a H H') : WA K b H' w la j := by
  cases b with
  | false =>
    obtain ⟨rfl, dx, z⟩ := h
    exact ⟨rfl, dx, s _ _ ne z⟩
  | true =>
    obtain ⟨dx, sw, dx2, as, e1, e2, e3, e4⟩ := h
    exact ⟨dx, sw, dx2, as, s _ _ (ne_of e1 ha (by intro z; cases z)) e1, s _ _ (ne_of e2 ha (by intro z; cases z)) e2, s _ _ ne e3, e4⟩
theorem WA.same {b : Bool} {H H' : Hp} {w la : Addr} {j : Nat} (h : WA K b H w la j) (s : Same H H') : WA K b H' w la j := by
  cases b with
  | false =>
    obtain ⟨rfl, dx, z⟩ := h
    exact ⟨rfl, dx, s _ _ z⟩
  | true =>
    obtain ⟨dx, sw, dx2, as, e1, e2, e3, e4⟩ := h
    exact ⟨dx, sw, dx2, as, s _ _ e1, s _ _ e2, s _ _ e3, e4⟩
def spSAns (K : PySem.W.Frag) : Sp := fun vs H Q _ => ∃ (w : Addr) (x : V), vs = [.ref w, x] ∧ Q (.str (St [])) H
abbrev n_Silent_answer : List Str := ["self", "string"]
theorem sc_Silent_answer : FnScope n_Silent_answer ["self", "string"] (defScope s_Silent_answer) := ⟨rfl, rfl, rfl, by decide +kernel, rfl, by decide +kernel, by decide +kernel⟩
theorem c_Silent_answer (T : Tx w K mg) {k : Nat} : C8.Met P w K mg base (k + 1) (He.ga K "Silent") "answer" (spSAns K) [] := by
  obtain ⟨fd, F⟩ := T.f_Silent_answer
  refine metD T.k_Silent T.m_Silent_answer F (F.bindsN fun _ _ _ _ _ _ us hl => match us, hl with | [_, _], _ => rfl) sc_Silent_answer (fun vs H Q E h => ?_) (fun cdv A outer s H vs Q E hr h => ?_)
  · obtain ⟨w, x, rfl, _⟩ := h
    rfl
  obtain ⟨w, x, rfl, q⟩ := h
  refine ⟨_, (pss_one (ps_ret pe_str)), ?_⟩
  show Q (.str (Str.ofString "")) H
  rw [St_nil]
  exact q
def spNotesI (K : PySem.W.Frag) : Sp := fun vs H Q _ => ∃ (x dx sw : Addr) (H0 : Hp), vs = [.ref x, .ref sw] ∧ H = newI H0 x dx (He.ga K "Notes") ∧ H0 x = none ∧ H0 dx = none ∧ dx ≠ x ∧ (∃ dx2, H0 sw = some (.ins (clsB K false) dx2 [])) ∧ ∀ la H', Same H0 H' → WA K true H' x la 0 → H0 la = none → H' la = some (.lst []) → la ≠ x → Q .non H'
abbrev n_Notes__init : List Str := ["self", "world"]
theorem sc_Notes__init : FnScope n_Notes__init ["self", "world"] (defScope s_Notes__init) := ⟨rfl, rfl, rfl, by decide +kernel, rfl, by decide +kernel, by decide +kernel⟩
theorem k_Notes (T : Tx w K mg) : C8.Mak P w K mg base 1 "Notes" (He.ga K "Notes") (spNotesI K) [] := by
  obtain ⟨fd, F⟩ := T.f_Notes__init
  refine makD T.mk_Notes T.g_Notes F (F.bindsN fun _ _ _ _ _ _ us hl => match us, hl with | [_, _], _ => rfl) sc_Notes__init (fun vs H Q E h => ?_) (fun cdv A outer s H vs Q E hr h => ?_)
  · obtain ⟨x, dx, sw, H0, rfl, _⟩ := h
    rfl
  obtain ⟨x, dx, sw, H0, rfl, rfl, hx, hd, ne, ⟨dx2, hsw⟩, q⟩ := h
  refine ⟨_, (pss_cons (ps_fld (pv 0) (pv 1) rfl)
    (pss_one (ps_fld (pv 0) (pe_lst pa_nil) rfl))), ?_⟩
  have s0 := newI_same (C := He.ga K "Notes") hx hd ne
  refine ⟨_, rfl, _, rfl, x, _, _, _, rfl, newI_at, T.k_Notes, T.a_Notes_world, by show 0 < 1000; decide, ?_⟩
  refine ⟨Nat.zero_le _, fun la hla => ?_⟩
  have x1 : la ≠ x := fun z => by rw [z, upd_same] at hla; cases hla
  refine ⟨_, rfl, x, _, _, _, rfl, (by rw [upd_ne x1.symm, upd_same]), T.k_Notes, T.a_Notes_asked, by show 1 < 1000; decide, ?_⟩
  have hla0 : H0 la = none := by
    rw [upd_ne x1] at hla
    cases e : H0 la with
    | none => rfl
    | some o => rw [s0 _ _ e] at hla; cases hla
  have s9 : Same H0 (upd (upd (upd (newI H0 x dx (He.ga K "Notes")) x (.ins (He.ga K "Notes") dx [("world", .ref sw)])) la (.lst [])) x (.ins (He.ga K "Notes") dx [("world", .ref sw), ("asked", .ref la)])) := fun b o e => by
    have b1 : b ≠ x := ne_of_none e hx
    have b2 : b ≠ la := ne_of_none e hla0
    rw [upd_ne b1, upd_ne b2, upd_ne b1]
    exact s0 _ _ e
  have hl9 : upd (upd (upd (newI H0 x dx (He.ga K "Notes")) x (.ins (He.ga K "Notes") dx [("world", .ref sw)])) la (.lst [])) x (.ins (He.ga K "Notes") dx [("world", .ref sw), ("asked", .ref la)]) la = some (.lst []) := by
    rw [upd_ne x1, upd_same]
  exact q la _ s9 ⟨dx, sw, dx2, [], upd_same, s9 _ _ hsw, hl9, Nat.le_refl _⟩ hla0 hl9 x1
def spAns (K : PySem.W.Frag) (b : Bool) : Sp := fun vs H Q _ => ∃ (w la : Addr) (j : Nat) (x : Str), vs = [.ref w, .str x] ∧ WA K b H w la j ∧ j ≤ 100 ∧ ∀ H', WA K b H' w la (j + 1) → But la H H' → Q (.str (St [])) H'
abbrev n_Notes_answer : List Str := ["self", "string", "found"]
theorem sc_Notes_answer : FnScope n_Notes_answer ["self", "string"] (defScope s_Notes_answer) := ⟨rfl, rfl, rfl, by decide +kernel, rfl, by decide +kernel, by decide +kernel⟩
theorem c_Notes_answer (T : Tx w K mg) : C8.Met P w K mg base 2 (He.ga K "Notes") "answer" (spAns K true) [] := by
  obtain ⟨fd, F⟩ := T.f_Notes_answer
  refine metD T.k_Notes T.m_Notes_answer F (F.bindsN fun _ _ _ _ _ _ us hl => match us, hl with | [_, _], _ => rfl) sc_Notes_answer (fun vs H Q E h => ?_) (fun cdv A outer s H vs Q E hr h => ?_)
  · obtain ⟨w, la, j, x, rfl, _⟩ := h
    rfl
  obtain ⟨w, la, j, x, rfl, ⟨dx, sw, dx2, as, e1, e2, e3, e4⟩, hj, q⟩ := h
  refine ⟨_, (pss_cons (ps_set (i := 2) sc_Notes_answer.nd rfl (Or.inl rfl) (C8.pe_mt (c_Silent_answer (k := 0) T) hr (by omega) (pe_fld (pv 0) rfl) (pa_cons (pv 1) pa_nil)))
    (pss_cons (ps_expr (pe_bm PySem.F.plainAttrs_list PySem.F.slot_list_append PySem.F.type_list_append mt_append (pe_fld (pv 0) rfl) (pa_cons (pe_tup (pa_cons (pv 1) (pa_cons (pv 2) pa_nil))) pa_nil)))
    (pss_one (ps_ret (pv 2))))), ?_⟩
  refine ⟨_, rfl, w, _, _, _, _, rfl, e1, T.k_Notes, T.a_Notes_world, rfl, sw, _, _, rfl, e2, rfl, _, rfl, sw, _, rfl, ?_⟩
  refine ⟨_, rfl, w, _, _, _, _, rfl, e1, T.k_Notes, T.a_Notes_asked, rfl, .inl ⟨rfl, _, SqL.of e3⟩, ?_⟩
  refine ⟨_, rfl, _, rfl, by show 2 ≤ sizeLine; decide, fun t ht => ?_⟩
  have s1 := same_new ht (.tup [.str x, .str (St [])])
  have n1 : w ≠ la := ne_of e1 e3 (by intro z; cases z)
  have n2 : sw ≠ la := ne_of e2 e3 (by intro z; cases z)
  refine ⟨la, as, _, rfl, rfl, s1 _ _ e3, lt1000 (by omega), ?_⟩
  refine ⟨_, rfl, ?_⟩
  refine q _ ⟨dx, sw, dx2, as ++ [.ref t], ?_, ?_, upd_same, ?_⟩ ((But.of s1).upd _)
  · rw [upd_ne n1]
    exact s1 _ _ e1
  · rw [upd_ne n2]
    exact s1 _ _ e2
  · rw [List.length_append]
    simp only [List.length_cons, List.length_nil]
    omega
theorem c_answer (T : Tx w K mg) : ∀ b, C8.Met P w K mg base 2 (clsB K b) "answer" (spAns K b) []
  | true => c_Notes_answer T
  | false => by
    obtain ⟨f, fd, ps, ds, c, m, ok, bi, dv⟩ := (c_Silent_answer (P := P) (base := base) T (k := 1)).ex
    exact ⟨f, fd, ps, ds, c, m, ok.imp fun vs H Q E h => by
      obtain ⟨w, la, j, x, rfl, ⟨rfl, dx, e⟩, hj, q⟩ := h
      exact ⟨la, .str x, rfl, q H ⟨rfl, dx, e⟩ (But.refl la H)⟩, bi, dv⟩
end
end Bk

set_option Elab.async false
set_option linter.all false
set_option maxRecDepth 100000
set_option maxHeartbeats 4000000
namespace Bk
open PySem PySem.Spec PyProof.Rows L2
section
variable {P : Program} {w : World} {K : PySem.W.Frag} {mg : Str → Option Value} {base : Heap}
def spStopI (K : PySem.W.Frag) : Sp := fun vs H Q _ => ∃ (x dx sw : Addr) (H0 : Hp), vs = [.ref x, .ref sw] ∧ H = newI H0 x dx (He.ga K "Stopped") ∧ H0 x = none ∧ H0 dx = none ∧ dx ≠ x ∧ ∀ H', Same H0 H' → H' x = some (.ins (He.ga K "Stopped") dx [("world", .ref sw)]) → Q .non H'
abbrev n_Stopped__init : List Str := ["self", "world"]
theorem sc_Stopped__init : FnScope n_Stopped__init ["self", "world"] (defScope s_Stopped__init) := ⟨rfl, rfl, rfl, by decide +kernel, rfl, by decide +kernel, by decide +kernel⟩
theorem k_Stopped (T : Tx w K mg) : C8.Mak P w K mg base 1 "Stopped" (He.ga K "Stopped") (spStopI K) [] := by
  obtain ⟨fd, F⟩ := T.f_Stopped__init
  refine makD T.mk_Stopped T.g_Stopped F (F.bindsN fun _ _ _ _ _ _ us hl => match us, hl with | [_, _], _ => rfl) sc_Stopped__init (fun vs H Q E h => ?_) (fun cdv A outer s H vs Q E hr h => ?_)
  · obtain ⟨x, dx, sw, H0, rfl, _⟩ := h
    rfl
  obtain ⟨x, dx, sw, H0, rfl, rfl, hx, hd, ne, q⟩ := h
  refine ⟨_, (pss_one (ps_fld (pv 0) (pv 1) rfl)), ?_⟩
  refine ⟨_, rfl, _, rfl, x, _, _, _, rfl, newI_at, T.k_Stopped, T.a_Stopped_world, by show 0 < 1000; decide, ?_⟩
  refine q _ (fun b o e => ?_) upd_same
  rw [upd_ne (ne_of_none e hx)]
  exact newI_same hx hd ne b o e
def spNow (K : PySem.W.Frag) (b : Bool) : Sp := fun vs H Q _ => ∃ (x dx sw dx2 : Addr) (fs : List (Str × V)), vs = [.ref x] ∧ H x = some (.ins (He.ga K "Stopped") dx [("world", .ref sw)]) ∧ H sw = some (.ins (clsB K b) dx2 fs) ∧ Q (.bl false) H
abbrev n_Stopped_now : List Str := ["self"]
theorem sc_Stopped_now : FnScope n_Stopped_now ["self"] (defScope s_Stopped_now) := ⟨rfl, rfl, rfl, by decide +kernel, rfl, by decide +kernel, by decide +kernel⟩
theorem c_Stopped_now (T : Tx w K mg) (b : Bool) : C8.Met P w K mg base 1 (He.ga K "Stopped") "now" (spNow K b) [] := by
  obtain ⟨fd, F⟩ := T.f_Stopped_now
  refine metD T.k_Stopped T.m_Stopped_now F (F.bindsN fun _ _ _ _ _ _ us hl => match us, hl with | [_], _ => rfl) sc_Stopped_now (fun vs H Q E h => ?_) (fun cdv A outer s H vs Q E hr h => ?_)
  · obtain ⟨x, dx, sw, dx2, fs, rfl, _⟩ := h
    rfl
  obtain ⟨x, dx, sw, dx2, fs, rfl, hx, hw, q⟩ := h
  refine ⟨_, (pss_one (ps_ret (pe_and (pe_callB call_isi (by rfl) T.n_isinstance (by decide +kernel) (pa_cons (pe_fld (pv 0) rfl) (pa_cons (pe_glob (v := V.ref (He.ga K "OnetimeWorld")) rfl T.g_OnetimeWorld rfl) pa_nil))) (pe_one (pe_fld (pe_fld (pv 0) rfl) rfl))))), ?_⟩
  exact ⟨_, rfl, x, _, _, _, _, rfl, hx, T.k_Stopped, T.a_Stopped_world, rfl, _, _, _, _, false, rfl, .own _, T.ty_B b hw, T.kit_B b, false, rfl, q⟩
/-! run_plain -/
def spRunPlain (K : PySem.W.Frag) (b : Bool) : Sp := fun vs H Q _ => ∃ (v : V) (w la : Addr) (j : Nat) (x : Bits) (β : Br) (τ : Tk) (ds : List (Nat × Nat)) (R : List Nat), vs = [v, .ref τ.p, .str (St x), .ref w] ∧ IsBr H v β ∧ BrOk 2 β ∧ x.length ≤ 100 ∧ TapeAt K H τ ds R ∧ ds.length ≤ 50 ∧ WA K b H w la j ∧ j ≤ 50 ∧ (la ≠ τ.ld ∧ la ≠ τ.lc ∧ la ≠ τ.p) ∧ (β.tree x).Fits R ∧
  ∀ H' R' j', TapeAt K H' τ (ds ++ ((β.tree x).run R).1) R' → WA K b H' w la j' → But2 τ.ld la H H' → Q (.str (St ((β.tree x).run R).2)) H'
abbrev n_run_plain : List Str := ["breaker", "tape", "challenge", "world", "handed", "stopped"]
theorem sc_run_plain : FnScope n_run_plain ["breaker", "tape", "challenge", "world"] (defScope s_run_plain) := ⟨rfl, rfl, rfl, by decide +kernel, rfl, by decide +kernel, by decide +kernel⟩
theorem c_run_plain (T : Tx w K mg) (b : Bool) : C8.Cal P w K mg base 3 "run_plain" (spRunPlain K b) [] := by
  obtain ⟨fd, F⟩ := T.f_run_plain
  refine calD F T.g_run_plain (F.bindsN fun _ _ _ _ _ _ us hl => match us, hl with | [_, _, _, _], _ => rfl) sc_run_plain (fun vs H Q E h => ?_) (fun cdv A outer s H vs Q E hr h => ?_)
  · obtain ⟨v, w, la, j, x, β, τ, ds, R, rfl, _⟩ := h
    rfl
  obtain ⟨v, w, la, j, x, β, τ, ds, R, rfl, hb, bo, hx, ta, hds, wa, hj, lan, ft, q⟩ := h
  refine ⟨_, (pss_cons (ps_set (i := 4) sc_run_plain.nd rfl (Or.inl rfl) (pv 2))
    (pss_cons (ps_set (i := 5) sc_run_plain.nd rfl (Or.inl rfl) (C8.pe_mk (k_Stopped T) hr (by omega) rfl (pa_cons (pv 3) pa_nil)))
    (pss_cons (ps_while PassesOwn.never (pt_cmpR op_ne (pe_ix (r := rIxT K) ix_tup (pv 0) pe_int (fun _ _ => rfl)) pe_str (nomark _))
    (pss_one (ps_if (pt_cmpR op_eq (pe_ix (r := rIxT K) ix_tup (pv 0) pe_int (fun _ _ => rfl)) pe_str (nomark _)) (pss_one (ps_set (i := 0) sc_run_plain.nd rfl (Or.inl rfl) (pe_ix (r := rIxT K) ix_tup (pe_ix (r := rIxT K) ix_tup (pv 0) pe_int (fun _ _ => rfl)) (C8.pe_mt (c_Tape_draw T) hr (by omega) (pv 1) (pa_cons (pe_callB call_len_seq (by rfl) T.n_len PySem.boot_len (pa_cons (pe_ix (r := rIxT K) ix_tup (pv 0) pe_int (fun _ _ => rfl)) pa_nil)) pa_nil)) (fun _ _ => rfl)))) (pss_one (ps_if (pt_cmpR op_eq (pe_ix (r := rIxT K) ix_tup (pv 0) pe_int (fun _ _ => rfl)) pe_str (nomark _)) (pss_one (ps_set (i := 0) sc_run_plain.nd rfl (Or.inl rfl) (pe_ifExp (pt_cmpR op_eq (C8.pe_c (c_made_string T) hr (by omega) rfl (pa_cons (pe_tup (pa_cons (pe_ix (r := rIxT K) ix_tup (pv 0) pe_int (fun _ _ => rfl)) pa_nil)) (pa_cons (pv 4) pa_nil))) pe_str (nomark _)) (pe_ix (r := rIxT K) ix_tup (pv 0) pe_int (fun _ _ => rfl)) (pe_ix (r := rIxT K) ix_tup (pv 0) pe_int (fun _ _ => rfl))))) (pss_cons (ps_set (i := 4) sc_run_plain.nd rfl (Or.inl rfl) (pe_op op_add_str (pv 4) (C8.pe_mt (c_answer T b) hr (by omega) (pv 3) (pa_cons (C8.pe_c (c_made_string T) hr (by omega) rfl (pa_cons (pe_ix (r := rIxT K) ix_tup (pv 0) pe_int (fun _ _ => rfl)) (pa_cons (pv 4) pa_nil))) pa_nil))))
    (pss_cons (ps_if (pt_val (C8.pe_mt0 (c_Stopped_now T b) hr (by omega) (pv 5))) (pss_one (ps_ret pe_str)) pss_nil)
    (pss_one (ps_set (i := 0) sc_run_plain.nd rfl (Or.inl rfl) (pe_ix (r := rIxT K) ix_tup (pv 0) pe_int (fun _ _ => rfl)))))))))))
    (pss_one (ps_ret (C8.pe_c (c_made_string T) hr (by omega) rfl (pa_cons (pe_ix (r := rIxT K) ix_tup (pv 0) pe_int (fun _ _ => rfl)) (pa_cons (pv 4) pa_nil)))))))), ?_⟩
  refine ⟨_, rfl, ?_⟩
  refine ⟨_, rfl, fun sp sdx h1 h2 h3 => ?_⟩
  refine ⟨sp, sdx, w, H, rfl, rfl, h1, h2, h3, fun Hs ss hs => ⟨rfl, ?_⟩⟩
  have spl : sp ≠ τ.ld := fun z => by
    obtain ⟨rs, e, _⟩ := ta.dr
    rw [← z, h1] at e
    cases e
  have spa : sp ≠ la := fun z => by
    cases b with
    | false =>
      obtain ⟨e, dx, e1⟩ := wa
      rw [← e, ← z, h1] at e1
      cases e1
    | true =>
      obtain ⟨_, _, _, as, _, _, e1, _⟩ := wa
      rw [← z, h1] at e1
      cases e1
  refine ⟨fun m σ H' => ∃ (v' : V) (β' : Br) (ds' : List (Nat × Nat)) (R' : List Nat) (j' : Nat), σ = [some v', some (.ref τ.p), some (.str (St x)), some (.ref w), some (.str (St x)), some (.ref sp)] ∧ IsBr H' v' β' ∧ BrOk m β' ∧ TapeAt K H' τ ds' R' ∧ ds'.length + m ≤ 52 ∧ WA K b H' w la j' ∧ j' + m ≤ 52 ∧ (β'.tree x).Fits R' ∧
    ds' ++ ((β'.tree x).run R').1 = ds ++ ((β.tree x).run R).1 ∧ ((β'.tree x).run R').2 = ((β.tree x).run R).2 ∧ But2 τ.ld la Hs H', ⟨2, v, β, ds, R, j, rfl, hb.kt (.of ss), bo, ta.same ss, by omega, wa.same ss, by omega, ft, rfl, rfl, But2.refl _ _ _⟩, ?_⟩
  rintro m σ H' ⟨v', β', ds', R', j', rfl, hb', bo', ta', hd', wa', hj', ft', e1, e2, bt⟩
  have now : ∀ {H2 : Hp}, But2 τ.ld la Hs H2 → H2 sp = some (.ins (He.ga K "Stopped") sdx [("world", .ref w)]) := fun bt2 => bt2 _ _ spl spa hs
  cases hb' with
  | @say p t ps h ht =>
    have po : PartsOk ps := by
      cases bo' with
      | say h => exact h
    refine ⟨_, rfl, p, _, _, _, rfl, rfl, SqT.of h, rfl, rfl, _, rfl, ?_⟩
    refine niY rfl ?_
    refine ⟨_, rfl, p, _, _, _, rfl, rfl, SqT.of h, rfl, _, rfl, t, ps, x, rfl, ht, by have := po.1; omega, by omega, ?_⟩
    have e3 : made ps x = ((β.tree x).run R).2 := by
      rw [← e2, Br.tree]
      rfl
    have e4 : ds' = ds ++ ((β.tree x).run R).1 := by
      rw [← e1, Br.tree]
      exact (List.append_nil _).symm
    rw [e3]
    rw [e4] at ta'
    exact q _ _ _ ta' wa' ((But2.of ss).trans bt)
  | @toss p t vs bs h ht hl2 hbb =>
    cases bo' with
    | @toss d' _ h0 h1' h2' =>
    rw [Br.tree] at ft' e1 e2
    refine ⟨_, rfl, p, _, _, _, rfl, rfl, SqT.of h, rfl, rfl, _, rfl, ?_⟩
    refine niN (by decide +kernel) ?_
    refine ⟨fun σ' H2 => ∃ m', m' < d' + 1 ∧ ∃ (v' : V) (β' : Br) (ds' : List (Nat × Nat)) (R' : List Nat) (j' : Nat), σ' = [some v', some (.ref τ.p), some (.str (St x)), some (.ref w), some (.str (St x)), some (.ref sp)] ∧ IsBr H2 v' β' ∧ BrOk m' β' ∧ TapeAt K H2 τ ds' R' ∧ ds'.length + m' ≤ 52 ∧ WA K b H2 w la j' ∧ j' + m' ≤ 52 ∧ (β'.tree x).Fits R' ∧
    ds' ++ ((β'.tree x).run R').1 = ds ++ ((β.tree x).run R).1 ∧ ((β'.tree x).run R').2 = ((β.tree x).run R).2 ∧ But2 τ.ld la Hs H2, fun _ _ h => h, ?_⟩
    refine ⟨_, rfl, p, _, _, _, rfl, rfl, SqT.of h, rfl, rfl, _, rfl, ifY rfl ?_⟩
    refine ⟨_, rfl, p, _, _, _, rfl, rfl, SqT.of h, rfl, _, rfl, τ.p, _, _, rfl, ta'.obj, rfl, _, rfl, p, _, _, _, rfl, rfl, SqT.of h, rfl, t, _, rfl, .inr (SqT.of ht), τ, vs.length, ds', R', rfl, ta', by omega, by have := ft'.1; omega, fun H2 ta2 b2 => ?_⟩
    have hi : R'.headD 0 < vs.length := by have := ft'.1; omega
    have hib : R'.headD 0 < bs.length := by omega
    have k2 : Kt H' H2 := b2.kt2 ta'.notup
    have tg := trees_get x bs (R'.headD 0) bs[R'.headD 0] (List.getElem?_eq_getElem hib)
    refine ⟨t, _, _, vs[R'.headD 0], rfl, rfl, SqT.of (k2 _ _ ht), atI_nat (List.getElem?_eq_getElem hi), ?_⟩
    obtain ⟨rs', hrs', _⟩ := ta'.dr
    refine ⟨d', by omega, vs[R'.headD 0], bs[R'.headD 0], ds' ++ [(R'.headD 0, vs.length)], R'.tail, j', rfl, (hbb _ _ _ (List.getElem?_eq_getElem hi) (List.getElem?_eq_getElem hib)).kt k2, h2' _ (List.getElem_mem hib), ta2, ?_, wa'.but hrs' lan.1 b2, by omega, ?_, ?_, ?_, bt.trans (.l b2)⟩
    · rw [List.length_append]
      simp only [List.length_cons, List.length_nil]
      omega
    · rw [← tg]
      exact ft'.2
    · rw [← e1, ← tg, hl2, List.append_assoc]
      rfl
    · rw [← e2, ← tg]
      rfl
  | @look p n va vb b1 b2 h hva hvb =>
    cases bo' with
    | @look d' _ _ _ hn h1' h2' =>
    rw [Br.tree] at ft' e1 e2
    refine ⟨_, rfl, p, _, _, _, rfl, rfl, SqT.of h, rfl, rfl, _, rfl, ?_⟩
    refine niN (by decide +kernel) ?_
    refine ⟨fun σ' H2 => ∃ m', m' < d' + 1 ∧ ∃ (v' : V) (β' : Br) (ds' : List (Nat × Nat)) (R' : List Nat) (j' : Nat), σ' = [some v', some (.ref τ.p), some (.str (St x)), some (.ref w), some (.str (St x)), some (.ref sp)] ∧ IsBr H2 v' β' ∧ BrOk m' β' ∧ TapeAt K H2 τ ds' R' ∧ ds'.length + m' ≤ 52 ∧ WA K b H2 w la j' ∧ j' + m' ≤ 52 ∧ (β'.tree x).Fits R' ∧
    ds' ++ ((β'.tree x).run R').1 = ds ++ ((β.tree x).run R).1 ∧ ((β'.tree x).run R').2 = ((β.tree x).run R).2 ∧ But2 τ.ld la Hs H2, fun _ _ h => h, ?_⟩
    refine ⟨_, rfl, p, _, _, _, rfl, rfl, SqT.of h, rfl, rfl, _, rfl, ifN (by decide +kernel) ?_⟩
    refine ⟨_, rfl, p, _, _, _, rfl, rfl, SqT.of h, rfl, rfl, _, rfl, ifY rfl ?_⟩
    refine ⟨_, rfl, p, _, _, _, rfl, rfl, SqT.of h, rfl, by show 1 ≤ sizeLine; decide, fun t ht => ?_⟩
    have st := same_new ht (.tup [.int n])
    refine ⟨_, rfl, t, [Part.num n], x, rfl, upd_same, (by show 1 ≤ 1000; decide), by omega, rfl, _, rfl, ?_⟩
    have em : made [Part.num n] x = [x.getD n false] := rfl
    rw [em]
    cases hg : x.getD n false with
    | false =>
      rw [hg] at ft' e1 e2
      refine ifY (congrArg V.str St_zero.symm) ?_
      refine ⟨_, rfl, p, _, _, _, rfl, rfl, SqT.of (st _ _ h), rfl, ?_⟩
      exact ⟨d', by omega, va, b1, ds', R', j', rfl, hva.kt (.of st), h1', ta'.same st, by omega, wa'.same st, by omega, ft', e1, e2, bt.trans (.of st)⟩
    | true =>
      rw [hg] at ft' e1 e2
      refine ifN (fun z => by have h9 := St_inj ((V.str.inj z).trans St_zero); cases h9) ?_
      refine ⟨_, rfl, p, _, _, _, rfl, rfl, SqT.of (st _ _ h), rfl, ?_⟩
      exact ⟨d', by omega, vb, b2, ds', R', j', rfl, hvb.kt (.of st), h2', ta'.same st, by omega, wa'.same st, by omega, ft', e1, e2, bt.trans (.of st)⟩
  | @ask p t ps va b1 h ht hva =>
    cases bo' with
    | @ask d' _ _ hn h1' =>
    rw [Br.tree] at ft' e1 e2
    refine ⟨_, rfl, p, _, _, _, rfl, rfl, SqT.of h, rfl, rfl, _, rfl, ?_⟩
    refine niN (by decide +kernel) ?_
    refine ⟨fun σ' H2 => ∃ m', m' < d' + 1 ∧ ∃ (v' : V) (β' : Br) (ds' : List (Nat × Nat)) (R' : List Nat) (j' : Nat), σ' = [some v', some (.ref τ.p), some (.str (St x)), some (.ref w), some (.str (St x)), some (.ref sp)] ∧ IsBr H2 v' β' ∧ BrOk m' β' ∧ TapeAt K H2 τ ds' R' ∧ ds'.length + m' ≤ 52 ∧ WA K b H2 w la j' ∧ j' + m' ≤ 52 ∧ (β'.tree x).Fits R' ∧
    ds' ++ ((β'.tree x).run R').1 = ds ++ ((β.tree x).run R).1 ∧ ((β'.tree x).run R').2 = ((β.tree x).run R).2 ∧ But2 τ.ld la Hs H2, fun _ _ h => h, ?_⟩
    refine ⟨_, rfl, p, _, _, _, rfl, rfl, SqT.of h, rfl, rfl, _, rfl, ifN (by decide +kernel) ?_⟩
    refine ⟨_, rfl, p, _, _, _, rfl, rfl, SqT.of h, rfl, rfl, _, rfl, ifN (by decide +kernel) ?_⟩
    obtain ⟨wdx, wfs, hw, hwl⟩ := wa'.ins
    refine ⟨_, rfl, _, rfl, w, _, _, rfl, hw, hwl, _, rfl, p, _, _, _, rfl, rfl, SqT.of h, rfl, _, rfl, t, ps, x, rfl, ht, by have := hn.1; omega, by omega, ?_⟩
    refine ⟨w, la, j', St (made ps x), rfl, wa', by omega, fun H2 wa2 b2 => ?_⟩
    have k2 : Kt H' H2 := b2.kt2 wa'.notup
    have bt2 := bt.trans (But2.r b2)
    have ta2 : TapeAt K H2 τ ds' R' := ta'.but b2 lan.2.2 lan.2.1 lan.1 k2
    refine ⟨_, _, rfl, rfl, ?_, ?_⟩
    · rw [St_len, St_len]
      exact line1000 (by simp only [List.length_nil]; omega)
    rw [St_append, List.append_nil]
    obtain ⟨wdx2, wfs2, hw2, _⟩ := wa2.ins
    refine ⟨_, rfl, sp, _, _, rfl, now bt2, rfl, sp, sdx, w, wdx2, wfs2, rfl, now bt2, hw2, ?_⟩
    refine ⟨_, rfl, ?_⟩
    refine ⟨_, rfl, p, _, _, _, rfl, rfl, SqT.of (k2 _ _ h), rfl, ?_⟩
    exact ⟨d', by omega, va, b1, ds', R', j' + 1, rfl, hva.kt k2, h1', ta2, by omega, wa2, by omega, ft', e1, e2, bt2⟩
end
end Bk

set_option Elab.async false
set_option linter.all false
set_option maxRecDepth 100000
set_option maxHeartbeats 4000000
namespace Bk
open PySem PySem.Spec PyProof.Rows L2
theorem calAt {P : Program} {w : World} {K : PySem.W.Frag} {mg : Str → Option Value} {base : Heap} {k : Nat} {x : Str} {sp : Sp} {f : Addr} (c : C8.Cal P w K mg base k x sp []) (h : mg x = some (.ref f)) : C8.CalAt P w K mg base k f sp := by
  obtain ⟨g, fd, ps, ds, ok, e, kp, bi, dv⟩ := c.ex
  rw [h] at e
  cases e
  cases dv
  exact ⟨fd, ps, ok, kp, bi⟩
/-- the draws of the made breaker -/
def madeTree (b : Br) (n : Nat) (rows : List Bits) (k : Nat) (ch : Bits) : Tr Bits := .node k fun i => .node (2 ^ i) fun c => b.tree (hand n rows k i ch (bitsOf i c))
/-- a breaker for challenges of so many bits, and its draws -/
def Bkr (H : Hp) (v : V) (L : Nat) (tr : Bits → Tr Bits) : Prop := (∃ b, IsBr H v b ∧ BrOk 2 b ∧ ∀ x, tr x = b.tree x) ∨ (∃ p t vi b n k rows, v = .ref p ∧ IsMade H p t vi b n k rows ∧ L = n + 1 ∧ ∀ x, tr x = madeTree b n rows k x)
theorem Bkr.kt {H H' : Hp} {v : V} {L : Nat} {tr : Bits → Tr Bits} (h : Bkr H v L tr) (k : Kt H H') : Bkr H' v L tr := by
  rcases h with ⟨b, h1, h2, h3⟩ | ⟨p, t, vi, b, n, k', rows, h1, h2, h3, h4⟩
  · exact .inl ⟨b, h1.kt k, h2, h3⟩
  · exact .inr ⟨p, t, vi, b, n, k', rows, h1, h2.kt k, h3, h4⟩
section
variable {P : Program} {w : World} {K : PySem.W.Frag} {mg : Str → Option Value} {base : Heap}
abbrev n_run_breaker : List Str := ["breaker", "tape", "challenge", "world"]
theorem sc_run_breaker : FnScope n_run_breaker ["breaker", "tape", "challenge", "world"] (defScope s_run_breaker) := ⟨rfl, rfl, rfl, by decide +kernel, rfl, by decide +kernel, by decide +kernel⟩
theorem runs_plain (T : Tx w K mg) {x : Str} (h : x = "say" ∨ x = "toss" ∨ x = "look" ∨ x = "ask") : PySem.W.nsIn K (He.ga K "RUNS") x = some none := by
  obtain ⟨a, b, c, d⟩ := T.runs_none
  rcases h with rfl | rfl | rfl | rfl
  · exact a
  · exact b
  · exact c
  · exact d
theorem c_run_breaker1 (T : Tx w K mg) : C8.Cal P w K mg base 4 "run_breaker" (spRunPlain K false) [] := by
  obtain ⟨fd, F⟩ := T.f_run_breaker
  obtain ⟨es, nn, D⟩ := T.runs
  refine calD F T.g_run_breaker (F.bindsN fun _ _ _ _ _ _ us hl => match us, hl with | [_, _, _, _], _ => rfl) sc_run_breaker (fun vs H Q E h => ?_) (fun cdv A outer s H vs Q E hr h => ?_)
  · obtain ⟨v, w, la, j, x, β, τ, ds, R, rfl, _⟩ := h
    rfl
  obtain ⟨v, w, la, j, x, β, τ, ds, R, rfl, hb, rest⟩ := h
  refine ⟨_, (pss_cons (ps_if (pt_cmpR (op_in_kd D) (pe_ix (r := rIxT K) ix_tup (pv 0) pe_int (fun _ _ => rfl)) (pe_glob (v := V.ref (He.ga K "RUNS")) rfl T.g_RUNS rfl) (by rfl)) pss_never pss_nil)
    (pss_one (ps_ret (C8.pe_c (c_run_plain T false) hr (by omega) rfl (pa_cons (pv 0) (pa_cons (pv 1) (pa_cons (pv 2) (pa_cons (pv 3) pa_nil)))))))), ?_⟩
  obtain ⟨p, x0, rs, rfl, hp, hx⟩ := hb.word
  refine ⟨_, rfl, p, _, _, _, rfl, rfl, SqT.of hp, atI_nat (j := 0) rfl, _, _, rfl, rfl, runs_plain T hx, _, rfl, ?_⟩
  refine ⟨_, rfl, _, rfl, _, rfl, _, rfl, ?_⟩
  exact ⟨_, w, la, j, x, β, τ, ds, R, rfl, hb, rest⟩
/-! run_longer -/
def spRunLonger (K : PySem.W.Frag) : Sp := fun vs H Q _ => ∃ (p t : Addr) (vi wv : V) (b : Br) (n k : Nat) (rows : List Bits) (ch : Bits) (τ : Tk) (ds : List (Nat × Nat)) (R : List Nat), vs = [.ref p, .ref τ.p, .str (St ch), wv] ∧ IsMade H p t vi b n k rows ∧ ch.length = n + 1 ∧ TapeAt K H τ ds R ∧ ds.length ≤ 40 ∧ (madeTree b n rows k ch).Fits R ∧
  ∀ H' R', TapeAt K H' τ (ds ++ ((madeTree b n rows k ch).run R).1) R' → But τ.ld H H' → Q (.str (St ((madeTree b n rows k ch).run R).2)) H'
abbrev n_run_longer : List Str := ["breaker", "tape", "challenge", "world", "_", "block", "k", "inner", "i", "first", "handed"]
theorem sc_run_longer : FnScope n_run_longer ["breaker", "tape", "challenge", "world"] (defScope s_run_longer) := ⟨rfl, rfl, rfl, by decide +kernel, rfl, by decide +kernel, by decide +kernel⟩
theorem c_run_longer (T : Tx w K mg) : C8.Cal P w K mg base 5 "run_longer" (spRunLonger K) [] := by
  obtain ⟨fd, F⟩ := T.f_run_longer
  refine calD F T.g_run_longer (F.bindsN fun _ _ _ _ _ _ us hl => match us, hl with | [_, _, _, _], _ => rfl) sc_run_longer (fun vs H Q E h => ?_) (fun cdv A outer s H vs Q E hr h => ?_)
  · obtain ⟨p, t, vi, wv, b, n, k, rows, ch, τ, ds, R, rfl, _⟩ := h
    rfl
  obtain ⟨p, t, vi, wv, b, n, k, rows, ch, τ, ds, R, rfl, hm, hch, ta, hds, ft, q⟩ := h
  have hk4 := hm.k2
  have hn9 := hm.genB.n2
  refine ⟨_, (pss_cons (ps_asg (pv 0) (pg_tup (by rfl) (pgs_cons (pg_name (i := 4) sc_run_longer.nd rfl (Or.inl rfl)) (pgs_cons (pg_name (i := 5) sc_run_longer.nd rfl (Or.inl rfl)) (pgs_cons (pg_name (i := 6) sc_run_longer.nd rfl (Or.inl rfl)) (pgs_cons (pg_name (i := 7) sc_run_longer.nd rfl (Or.inl rfl)) pgs_nil))))))
    (pss_cons (ps_set (i := 8) sc_run_longer.nd rfl (Or.inl rfl) (C8.pe_mt (c_Tape_draw T) hr (by omega) (pv 1) (pa_cons (pv 6) pa_nil)))
    (pss_cons (ps_set (i := 9) sc_run_longer.nd rfl (Or.inl rfl) (C8.pe_mt (c_Tape_string T) hr (by omega) (pv 1) (pa_cons (pv 8) pa_nil)))
    (pss_cons (ps_set (i := 10) sc_run_longer.nd rfl (Or.inl rfl) (pe_op op_add_str (pe_op op_add_str (pv 9) (pe_ix ix_str (pv 2) (pe_un un_neg pe_int) (fun _ _ => rfl))) (C8.pe_c (c_put_out T) hr (by omega) rfl (pa_cons (pv 5) (pa_cons (pe_slice sl_str (pv 2) po_none (po_some (pe_un un_neg pe_int))) (pa_cons (pe_op op_sub (pe_op op_sub (pv 6) (pv 8)) pe_int) pa_nil))))))
    (pss_one (ps_ret (C8.pe_c (c_run_breaker1 T) hr (by omega) rfl (pa_cons (pv 7) (pa_cons (pv 1) (pa_cons (pv 10) (pa_cons (pe_make00 T.mk0_Silent rfl T.g_Silent) pa_nil))))))))))), ?_⟩
  refine ⟨_, rfl, p, _, rfl, SqT.of hm.tup, rfl, _, _, rfl, ?_⟩
  refine ⟨_, _, rfl, ?_⟩
  refine ⟨_, _, rfl, ?_⟩
  refine ⟨_, _, rfl, ?_⟩
  refine ⟨rfl, ?_⟩
  obtain ⟨f1, f2, f3⟩ := ft
  refine ⟨_, rfl, τ.p, _, _, rfl, ta.obj, rfl, _, rfl, τ, k, ds, R, rfl, ta, by omega, f1, fun H1 ta1 b1 => ?_⟩
  refine ⟨_, rfl, τ.p, _, _, rfl, ta1.obj, rfl, _, rfl, τ, R.headD 0, _, R.tail, rfl, by omega, ta1, ?_, f2, fun H2 ta2 b2 => ?_⟩
  · rw [List.length_append]
    simp only [List.length_cons, List.length_nil]
    omega
  have k2 : Kt H H2 := (b1.trans b2).kt2 ta.notup
  have hm2 := hm.kt k2
  obtain ⟨s1, s2⟩ := split_last hch
  have cc := cut_snoc (b := ch.getLastD false) s2
  rw [← s1] at cc
  generalize hi : R.headD 0 = i at *
  generalize hc : R.tail.headD 0 = c at *
  have eh : bitsOf i c ++ [ch.getLastD false] ++ out rows (k - i - 1) ch.dropLast = hand n rows k i ch (bitsOf i c) := by
    unfold hand
    rw [cc.1, cc.2, List.append_assoc]
  have hl : (hand n rows k i ch (bitsOf i c)).length ≤ 40 := by
    rw [← eh, List.length_append, List.length_append, bitsOf_length, out_length hm.genB.ok _ s2]
    simp only [List.length_cons, List.length_nil]
    omega
  have szc : (St ch).length ≤ sizeLine := by rw [St_len]; exact line1000 (by omega)
  refine ⟨_, rfl, _, rfl, _, rfl, _, _, cd (ch.getLastD false), rfl, rfl, szc, ?_, _, _, rfl, rfl, ?_, ?_⟩
  · have := St_last (l := ch.dropLast) (b := ch.getLastD false)
    rw [← s1] at this
    exact this
  · rw [St_len, St_sign, St_len, bitsOf_length]
    exact line1000 (by simp only [List.length_cons, List.length_nil]; omega)
  refine ⟨_, rfl, _, rfl, _, rfl, _, rfl, _, rfl, szc, ?_⟩
  rw [cut_init]
  refine ⟨_, rfl, _, rfl, _, _, rfl, rfl, _, _, rfl, rfl, t, n, k - i - 1, rows, ch.dropLast, ?_, hm2.gen, hm2.genB.ok, s2, by omega, by omega, ?_⟩
  · show [V.ref t, V.str (St ch.dropLast), V.int ((k : Int) - (i : Int) - 1)] = _
    have : (k : Int) - (i : Int) - 1 = ((k - i - 1 : Nat) : Int) := by omega
    rw [this]
  refine ⟨_, _, rfl, rfl, ?_, ?_⟩
  · rw [St_sign, St_append, St_len, St_len, List.length_append, bitsOf_length, out_length hm.genB.ok _ s2]
    exact line1000 (by simp only [List.length_cons, List.length_nil]; omega)
  rw [St_sign, St_append, St_append, eh]
  refine ⟨_, rfl, _, rfl, _, rfl, fun x dx h1 h2 h3 => ?_⟩
  have s3 : Same H2 (upd (upd H2 dx (.own x)) x (.ins (He.ga K "Silent") dx [])) := newI_same h1 h2 h3
  obtain ⟨rs2, hrs2, _⟩ := ta2.dr
  refine ⟨vi, x, x, 0, hand n rows k i ch (bitsOf i c), b, τ, _, _, rfl, hm2.br.kt (.of s3), hm2.ok, by omega, ta2.same s3, ?_, ⟨rfl, dx, upd_same⟩, by decide, ⟨?_, ?_, ?_⟩, f3, fun H4 R4 j4 ta4 wa4 bt4 => ?_⟩
  · rw [List.length_append, List.length_append]
    simp only [List.length_cons, List.length_nil]
    omega
  · exact fun z => by rw [← z, h1] at hrs2; cases hrs2
  · exact fun z => by have := ta2.ch; rw [← z, h1] at this; cases this
  · exact fun z => by have := ta2.obj; rw [← z, h1] at this; cases this
  · rw [List.append_assoc, List.append_assoc] at ta4
    have er : ((madeTree b n rows k ch).run R) = ((i, k) :: (c, 2 ^ i) :: ((b.tree (hand n rows k i ch (bitsOf i c))).run R.tail.tail).1, ((b.tree (hand n rows k i ch (bitsOf i c))).run R.tail.tail).2) := by
      rw [← hi, ← hc]
      show ((_, k) :: (_, _) :: _, _) = _
      rw [hi]
      rfl
    rw [er] at q
    refine q H4 R4 ta4 fun bb o n1 e => ?_
    have e2 := b2 _ _ n1 (b1 _ _ n1 e)
    exact bt4 _ _ n1 (ne_of_none e2 h1) (s3 _ _ e2)
theorem made_fits_run {b : Br} {n k : Nat} {rows : List Bits} {tr : Bits → Tr Bits} {x : Bits} (h : ∀ x, tr x = madeTree b n rows k x) : tr x = madeTree b n rows k x := h x
def spRun (K : PySem.W.Frag) : Sp := fun vs H Q _ => ∃ (v : V) (w la : Addr) (j : Nat) (x : Bits) (tr : Bits → Tr Bits) (τ : Tk) (ds : List (Nat × Nat)) (R : List Nat), vs = [v, .ref τ.p, .str (St x), .ref w] ∧ Bkr H v x.length tr ∧ x.length ≤ 100 ∧ TapeAt K H τ ds R ∧ ds.length ≤ 40 ∧ WA K true H w la j ∧ j ≤ 40 ∧ (la ≠ τ.ld ∧ la ≠ τ.lc ∧ la ≠ τ.p) ∧ (tr x).Fits R ∧
  ∀ H' R' j', TapeAt K H' τ (ds ++ ((tr x).run R).1) R' → WA K true H' w la j' → But2 τ.ld la H H' → Q (.str (St ((tr x).run R).2)) H'
theorem c_run_breaker (T : Tx w K mg) : C8.Cal P w K mg base 6 "run_breaker" (spRun K) [] := by
  obtain ⟨fd, F⟩ := T.f_run_breaker
  obtain ⟨es, nn, D⟩ := T.runs
  refine calD F T.g_run_breaker (F.bindsN fun _ _ _ _ _ _ us hl => match us, hl with | [_, _, _, _], _ => rfl) sc_run_breaker (fun vs H Q E h => ?_) (fun cdv A outer s H vs Q E hr h => ?_)
  · obtain ⟨v, w, la, j, x, β, τ, ds, R, rfl, _⟩ := h
    rfl
  obtain ⟨v, w, la, j, x, tr, τ, ds, R, rfl, hb, hx, ta, hds, wa, hj, lan, ft, q⟩ := h
  refine ⟨_, (pss_cons (ps_if (pt_cmpR (op_in_kd D) (pe_ix (r := rIxT K) ix_tup (pv 0) pe_int (fun _ _ => rfl)) (pe_glob (v := V.ref (He.ga K "RUNS")) rfl T.g_RUNS rfl) (by rfl)) (pss_one (ps_ret (pe_callF (calAt (c_run_longer T) T.g_run_longer) hr (by omega) (pe_ix ix_kdict (pe_glob (v := V.ref (He.ga K "RUNS")) rfl T.g_RUNS rfl) (pe_ix (r := rIxT K) ix_tup (pv 0) pe_int (fun _ _ => rfl)) (fun _ _ => rfl)) (pa_cons (pv 0) (pa_cons (pv 1) (pa_cons (pv 2) (pa_cons (pv 3) pa_nil))))))) pss_nil)
    (pss_one (ps_ret (C8.pe_c (c_run_plain T true) hr (by omega) rfl (pa_cons (pv 0) (pa_cons (pv 1) (pa_cons (pv 2) (pa_cons (pv 3) pa_nil)))))))), ?_⟩
  rcases hb with ⟨b, hb, bo, et⟩ | ⟨p, t, vi, b, n, k, rows, rfl, hm, hl, et⟩
  · rw [et] at ft q
    obtain ⟨p, x0, rs, rfl, hp, hx0⟩ := hb.word
    refine ⟨_, rfl, p, _, _, _, rfl, rfl, SqT.of hp, atI_nat (j := 0) rfl, _, _, rfl, rfl, runs_plain T hx0, _, rfl, ?_⟩
    refine ⟨_, rfl, _, rfl, _, rfl, _, rfl, ?_⟩
    exact ⟨_, w, la, j, x, b, τ, ds, R, rfl, hb, bo, hx, ta, by omega, wa, by omega, lan, ft, q⟩
  · rw [et] at ft q
    obtain ⟨u, hu, ru⟩ := T.runs_longer
    refine ⟨_, rfl, p, _, _, _, rfl, rfl, SqT.of hm.tup, rfl, _, _, rfl, rfl, hu, _, rfl, ?_⟩
    refine ⟨_, rfl, p, _, _, _, rfl, rfl, SqT.of hm.tup, rfl, He.ga K "RUNS", _, _, rfl, rfl, ⟨es, nn, u, D.at_, D.lit, hu, ru⟩, rfl, ?_⟩
    refine ⟨_, rfl, _, rfl, _, rfl, _, rfl, ?_⟩
    obtain ⟨rs, hrs, _⟩ := ta.dr
    exact ⟨p, t, vi, .ref w, b, n, k, rows, x, τ, ds, R, rfl, hm, hl, ta, by omega, ft, fun H' R' ta' bt => q H' R' j ta' (wa.but hrs lan.1 bt) (.l bt)⟩
end
end Bk

set_option Elab.async false
set_option linter.all false
set_option maxRecDepth 100000
set_option maxHeartbeats 4000000
namespace Bk
open PySem PySem.Spec PyProof.Rows L2
def GameAt (H : Hp) (g p : Addr) (real : Bool) : Prop := H g = some (.tup [.str "generator", .ref p, .bl real])
/-- the numbers of a challenge's draw, and the challenge -/
def chN (real : Bool) (n m : Nat) : Nat := if real = true then 2 ^ n else 2 ^ m
def chal (real : Bool) (n m : Nat) (rows : List Bits) (c : Nat) : Bits := if real = true then row rows (bitsOf n c) else bitsOf m c
section
variable {P : Program} {w : World} {K : PySem.W.Frag} {mg : Str → Option Value} {base : Heap}
def spIsTruth : Sp := fun vs H Q _ => ∃ b : Bool, vs = [.bl b] ∧ Q (.bl true) H
abbrev n_is_truth : List Str := ["value"]
theorem sc_is_truth : FnScope n_is_truth ["value"] (defScope s_is_truth) := ⟨rfl, rfl, rfl, by decide +kernel, rfl, by decide +kernel, by decide +kernel⟩
theorem c_is_truth (T : Tx w K mg) : C8.Cal P w K mg base 1 "is_truth" spIsTruth [] := by
  obtain ⟨fd, F⟩ := T.f_is_truth
  refine calD F T.g_is_truth (F.bindsN fun _ _ _ _ _ _ us hl => match us, hl with | [_], _ => rfl) sc_is_truth (fun vs H Q E h => ?_) (fun cdv A outer s H vs Q E hr h => ?_)
  · obtain ⟨b, rfl, _⟩ := h
    rfl
  obtain ⟨b, rfl, q⟩ := h
  refine ⟨_, (pss_one (ps_ret (pe_callB call_isi (by rfl) T.n_isinstance (by decide +kernel) (pa_cons (pv 0) (pa_cons (pe_bltn (v := .ty "bool") (by rfl) T.n_bool (by decide +kernel) rfl) pa_nil))))), ?_⟩
  exact ⟨_, rfl, _, _, _, _, true, rfl, .ty "bool", .base (.bl b), kit_ty (by decide +kernel), q⟩
def spIsRight : Sp := fun vs H Q _ => ∃ (g p : Addr) (n m : Nat) (rows : List Bits) (real : Bool), vs = [.ref g] ∧ GameAt H g p real ∧ GenV H p n m rows ∧ GenB n m rows ∧ ∀ H', Same H H' → Q (.bl true) H'
abbrev n_is_right : List Str := ["game", "kind", "rest", "right"]
theorem sc_is_right : FnScope n_is_right ["game"] (defScope s_is_right) := ⟨rfl, rfl, rfl, by decide +kernel, rfl, by decide +kernel, by decide +kernel⟩
theorem c_is_right (T : Tx w K mg) : C8.Cal P w K mg base 4 "is_right" spIsRight [] := by
  obtain ⟨fd, F⟩ := T.f_is_right
  refine calD F T.g_is_right (F.bindsN fun _ _ _ _ _ _ us hl => match us, hl with | [_], _ => rfl) sc_is_right (fun vs H Q E h => ?_) (fun cdv A outer s H vs Q E hr h => ?_)
  · obtain ⟨g, p, n, m, rows, real, rfl, _⟩ := h
    rfl
  obtain ⟨g, p, n, m, rows, real, rfl, hg, gv, gb, q⟩ := h
  refine ⟨_, (pss_cons (ps_par (i := 1) (j := 2) (by rfl) sc_is_right.nd rfl rfl (by decide) rfl rfl (pa_cons (pe_ix (r := rIxT K) ix_tup (pv 0) pe_int (fun _ _ => rfl)) (pa_cons (pe_slice sl_tup (pv 0) (po_some pe_int) po_none) pa_nil)) (by rfl))
    (pss_cons (ps_if (pt_cmpR op_eq (pv 1) pe_str (nomark _)) pss_never pss_nil)
    (pss_cons (ps_if (pt_cmpR op_eq (pv 1) pe_str (nomark _)) pss_never pss_nil)
    (pss_cons (ps_if (pt_cmpR op_in_seq (pv 1) (pe_tup (pa_cons pe_str (pa_cons pe_str (pa_cons pe_str pa_nil)))) (by rfl)) pss_never pss_nil)
    (pss_cons (ps_if (pt_not (pt_val (C8.pe_c (c_is_generator T) hr (by omega) rfl (pa_cons (pe_ix (r := rIxT K) ix_tup (pv 2) pe_int (fun _ _ => rfl)) pa_nil)))) pss_never pss_nil)
    (pss_cons (ps_if (pt_cmpR op_in_seq (pv 1) (pe_tup (pa_cons pe_str (pa_cons pe_str pa_nil))) (by rfl)) (pss_one (ps_ret (C8.pe_c (c_is_truth T) hr (by omega) rfl (pa_cons (pe_ix (r := rIxT K) ix_tup (pv 2) pe_int (fun _ _ => rfl)) pa_nil)))) pss_nil) pss_never)))))), ?_⟩
  refine ⟨_, rfl, g, _, _, _, rfl, rfl, SqT.of hg, rfl, _, rfl, _, rfl, g, _, rfl, SqT.of hg, cut1_ne _ _, fun r hr0 => ?_⟩
  rw [cut1]
  have s1 := same_new hr0 (.tup [.ref p, .bl real])
  have hr1 : upd H r (.tup [.ref p, .bl real]) r = some (.tup [.ref p, .bl real]) := upd_same
  revert s1 hr1
  generalize upd H r (.tup [.ref p, .bl real]) = H1
  intro s1 hr1
  refine ⟨_, _, rfl, ?_⟩
  refine ⟨_, rfl, rfl, _, rfl, ifN (by decide +kernel) ?_⟩
  refine ⟨_, rfl, rfl, _, rfl, ifN (by decide +kernel) ?_⟩
  refine ⟨_, rfl, by show 3 ≤ sizeLine; decide, fun t1 ht1 => ?_⟩
  refine ⟨t1, _, rfl, .inr (SqT.of upd_same), rfl, rfl, _, rfl, ?_⟩
  have e1 : inV (.str "generator") [.str "function", .str "marks", .str "secrets"] = false := by decide +kernel
  have s2 := same_new ht1 (.tup [V.str "function", V.str "marks", V.str "secrets"])
  have hr2 := s2 _ _ hr1
  have gv2 := (gv.same s1).same s2
  revert s2 hr2 gv2
  generalize upd H1 t1 (.tup [V.str "function", V.str "marks", V.str "secrets"]) = H2
  intro s2 hr2 gv2
  show (if inV (.str "generator") [.str "function", .str "marks", .str "secrets"] = true then _ else _)
  rw [e1]
  refine ⟨_, rfl, r, _, _, _, rfl, rfl, SqT.of hr2, rfl, p, n, m, rows, rfl, gv2, gb, fun H3 s3 => ?_⟩
  refine ⟨_, rfl, ?_⟩
  have hr3 := s3 _ _ hr2
  refine ⟨_, rfl, by show 2 ≤ sizeLine; decide, fun t2 ht2 => ?_⟩
  refine ⟨t2, _, rfl, .inr (SqT.of upd_same), rfl, rfl, _, rfl, ?_⟩
  have s4 := same_new ht2 (.tup [V.str "generator", V.str "next"])
  have hr4 := s4 _ _ hr3
  revert s4 hr4
  generalize upd H3 t2 (.tup [V.str "generator", V.str "next"]) = H4
  intro s4 hr4
  have e2 : inV (.str "generator") [.str "generator", .str "next"] = true := by decide +kernel
  show (if inV (.str "generator") [.str "generator", .str "next"] = true then _ else _)
  rw [e2]
  exact ⟨_, rfl, r, _, _, _, rfl, rfl, SqT.of hr4, rfl, real, rfl, q H4 (s1.trans (s2.trans (s3.trans s4)))⟩
def spCheckGame : Sp := fun vs H Q _ => ∃ (g p : Addr) (n m : Nat) (rows : List Bits) (real : Bool), vs = [.ref g] ∧ GameAt H g p real ∧ GenV H p n m rows ∧ GenB n m rows ∧ ∀ H', Same H H' → Q .non H'
abbrev n_check_game : List Str := ["game"]
theorem sc_check_game : FnScope n_check_game ["game"] (defScope s_check_game) := ⟨rfl, rfl, rfl, by decide +kernel, rfl, by decide +kernel, by decide +kernel⟩
theorem c_check_game (T : Tx w K mg) : C8.Cal P w K mg base 5 "check_game" spCheckGame [] := by
  obtain ⟨fd, F⟩ := T.f_check_game
  obtain ⟨es, nn, D⟩ := T.sizes
  refine calD F T.g_check_game (F.bindsN fun _ _ _ _ _ _ us hl => match us, hl with | [_], _ => rfl) sc_check_game (fun vs H Q E h => ?_) (fun cdv A outer s H vs Q E hr h => ?_)
  · obtain ⟨g, p, n, m, rows, real, rfl, _⟩ := h
    rfl
  obtain ⟨g, p, n, m, rows, real, rfl, hg, gv, gb, q⟩ := h
  obtain ⟨u, hu, ru⟩ := T.sizes_generator
  refine ⟨_, (pss_cons (ps_if (PW.pt (pw_or (pt_not (pt_val (pe_callB call_isi (by rfl) T.n_isinstance (by decide +kernel) (pa_cons (pv 0) (pa_cons (pe_bltn (v := .ty "tuple") (by rfl) T.n_tuple (by decide +kernel) rfl) pa_nil))))) (pw_or (pt_cmpR op_eq (pe_callB call_len_seq (by rfl) T.n_len PySem.boot_len (pa_cons (pv 0) pa_nil)) pe_int (nomark _)) (pw_or (pt_not (pt_val (pe_callB call_isi (by rfl) T.n_isinstance (by decide +kernel) (pa_cons (pe_ix (r := rIxT K) ix_tup (pv 0) pe_int (fun _ _ => rfl)) (pa_cons (pe_bltn (v := .ty "str") (by rfl) T.n_str (by decide +kernel) rfl) pa_nil))))) (pw_or1 (pt_cmpR (op_notIn_kd D) (pe_ix (r := rIxT K) ix_tup (pv 0) pe_int (fun _ _ => rfl)) (pe_glob (v := V.ref (He.ga K "SIZES")) rfl T.g_SIZES rfl) (by rfl))))))) (pss_one ps_never) pss_nil)
    (pss_one (ps_if (PW.pt (pw_or (pt_cmpR op_ne (pe_callB call_len_seq (by rfl) T.n_len PySem.boot_len (pa_cons (pv 0) pa_nil)) (pe_ix ix_kdict (pe_glob (v := V.ref (He.ga K "SIZES")) rfl T.g_SIZES rfl) (pe_ix (r := rIxT K) ix_tup (pv 0) pe_int (fun _ _ => rfl)) (fun _ _ => rfl)) (nomark _)) (pw_or1 (pt_not (pt_val (C8.pe_c (c_is_right T) hr (by omega) rfl (pa_cons (pv 0) pa_nil))))))) (pss_one ps_never) pss_nil))), ?_⟩
  refine ⟨_, rfl, _, _, _, _, true, rfl, .ty "tuple", .base (.tup hg), kit_ty (by decide +kernel), true, rfl, ?_⟩
  refine ⟨_, rfl, g, _, rfl, .inr (SqT.of hg), rfl, _, rfl, ifN (by show ¬ V.int 3 = V.int 0; decide) ?_⟩
  refine ⟨_, rfl, g, _, _, _, rfl, rfl, SqT.of hg, rfl, _, _, _, _, true, rfl, .ty "str", .base (.str _), kit_ty (by decide +kernel), true, rfl, ?_⟩
  refine ⟨_, rfl, g, _, _, _, rfl, rfl, SqT.of hg, rfl, _, _, rfl, rfl, hu, _, rfl, ?_⟩
  refine ⟨_, rfl, g, _, rfl, .inr (SqT.of hg), _, rfl, g, _, _, _, rfl, rfl, SqT.of hg, rfl, He.ga K "SIZES", _, .int 3, rfl, rfl, ⟨es, nn, u, D.at_, D.lit, hu, ru⟩, rfl, _, rfl, niY rfl ?_⟩
  refine ⟨_, rfl, g, p, n, m, rows, real, rfl, hg, gv, gb, fun H1 s1 => ?_⟩
  refine ⟨_, rfl, ?_⟩
  exact q H1 s1
end
end Bk

set_option Elab.async false
set_option linter.all false
set_option maxRecDepth 100000
set_option maxHeartbeats 4000000
namespace Bk
open PySem PySem.Spec PyProof.Rows L2
section
variable {P : Program} {w : World} {K : PySem.W.Frag} {mg : Str → Option Value} {base : Heap}
def spPlayI (K : PySem.W.Frag) : Sp := fun vs H Q _ => ∃ (x dx : Addr) (H0 : Hp) (a b c d : V), vs = [.ref x, a, b, c, d] ∧ H = newI H0 x dx (He.ga K "Play") ∧ H0 x = none ∧ H0 dx = none ∧ dx ≠ x ∧ ∀ H', Same H0 H' → H' x = some (.ins (He.ga K "Play") dx [("outcome", a), ("said", b), ("draws", c), ("asked", d)]) → Q .non H'
abbrev n_Play__init : List Str := ["self", "outcome", "said", "draws", "asked"]
theorem sc_Play__init : FnScope n_Play__init ["self", "outcome", "said", "draws", "asked"] (defScope s_Play__init) := ⟨rfl, rfl, rfl, by decide +kernel, rfl, by decide +kernel, by decide +kernel⟩
theorem k_Play (T : Tx w K mg) : C8.Mak P w K mg base 1 "Play" (He.ga K "Play") (spPlayI K) [] := by
  obtain ⟨fd, F⟩ := T.f_Play__init
  refine makD T.mk_Play T.g_Play F (F.bindsN fun _ _ _ _ _ _ us hl => match us, hl with | [_, _, _, _, _], _ => rfl) sc_Play__init (fun vs H Q E h => ?_) (fun cdv A outer s H vs Q E hr h => ?_)
  · obtain ⟨x, dx, H0, a, b, c, d, rfl, _⟩ := h
    rfl
  obtain ⟨x, dx, H0, a, b, c, d, rfl, rfl, hx, hd, ne, q⟩ := h
  refine ⟨_, (pss_cons (ps_fld (pv 0) (pv 1) rfl)
    (pss_cons (ps_fld (pv 0) (pv 2) rfl)
    (pss_cons (ps_fld (pv 0) (pv 3) rfl)
    (pss_one (ps_fld (pv 0) (pv 4) rfl))))), ?_⟩
  refine ⟨_, rfl, _, rfl, x, _, _, _, rfl, newI_at, T.k_Play, T.a_Play_outcome, by show 0 < 1000; decide, ?_⟩
  refine ⟨_, rfl, _, rfl, x, _, _, _, rfl, upd_same, T.k_Play, T.a_Play_said, by show 1 < 1000; decide, ?_⟩
  rw [upd_upd]
  refine ⟨_, rfl, _, rfl, x, _, _, _, rfl, upd_same, T.k_Play, T.a_Play_draws, by show 2 < 1000; decide, ?_⟩
  rw [upd_upd]
  refine ⟨_, rfl, _, rfl, x, _, _, _, rfl, upd_same, T.k_Play, T.a_Play_asked, by show 3 < 1000; decide, ?_⟩
  rw [upd_upd]
  refine q _ (fun b o e => ?_) upd_same
  rw [upd_ne (ne_of_none e hx)]
  exact newI_same hx hd ne b o e
def spCover (K : PySem.W.Frag) : Sp := fun vs H Q _ => ∃ (p : Addr) (n m : Nat) (rows : List Bits) (real : Bool) (τ : Tk) (ds : List (Nat × Nat)) (R : List Nat), vs = [.ref τ.p, .ref p, .bl real] ∧ GenV H p n m rows ∧ GenB n m rows ∧ m ≤ 9 ∧ TapeAt K H τ ds R ∧ ds.length ≤ 40 ∧ R.headD 0 < chN real n m ∧
  ∀ H', TapeAt K H' τ (ds ++ [(R.headD 0, chN real n m)]) R.tail → But τ.ld H H' → Q (.str (St (chal real n m rows (R.headD 0)))) H'
abbrev n_cover : List Str := ["tape", "block", "real"]
theorem sc_cover : FnScope n_cover ["tape", "block", "real"] (defScope s_cover) := ⟨rfl, rfl, rfl, by decide +kernel, rfl, by decide +kernel, by decide +kernel⟩
theorem c_cover (T : Tx w K mg) : C8.Cal P w K mg base 3 "cover" (spCover K) [] := by
  obtain ⟨fd, F⟩ := T.f_cover
  refine calD F T.g_cover (F.bindsN fun _ _ _ _ _ _ us hl => match us, hl with | [_, _, _], _ => rfl) sc_cover (fun vs H Q E h => ?_) (fun cdv A outer s H vs Q E hr h => ?_)
  · obtain ⟨p, n, m, rows, real, τ, ds, R, rfl, _⟩ := h
    rfl
  obtain ⟨p, n, m, rows, real, τ, ds, R, rfl, gv, gb, hm, ta, hds, hn, q⟩ := h
  have hn9 := gb.n2
  obtain ⟨t, hp, ht⟩ := id gv
  refine ⟨_, (pss_cons (ps_if (pt_val (pv 2)) (pss_one (ps_ret (C8.pe_c (c_row_at T) hr (by omega) rfl (pa_cons (pv 1) (pa_cons (C8.pe_mt (c_Tape_string T) hr (by omega) (pv 0) (pa_cons (pe_ix (r := rIxT K) ix_tup (pv 1) pe_int (fun _ _ => rfl)) pa_nil)) pa_nil))))) pss_nil)
    (pss_one (ps_ret (C8.pe_mt (c_Tape_string T) hr (by omega) (pv 0) (pa_cons (pe_ix (r := rIxT K) ix_tup (pv 1) pe_int (fun _ _ => rfl)) pa_nil))))), ?_⟩
  cases real with
  | true =>
    refine ⟨_, rfl, true, rfl, ?_⟩
    refine ⟨_, rfl, _, rfl, τ.p, _, _, rfl, ta.obj, rfl, _, rfl, p, _, _, _, rfl, rfl, SqT.of hp, rfl, τ, n, ds, R, rfl, by omega, ta, by omega, hn, fun H1 ta1 b1 => ?_⟩
    have k1 : Kt H H1 := b1.kt2 ta.notup
    refine ⟨p, n, m, rows, _, rfl, gv.kt k1, by rw [bitsOf_length]; omega, ?_, q H1 ta1 b1⟩
    rw [num_bitsOf _ _ hn, gb.len]
    exact hn
  | false =>
    refine ⟨_, rfl, false, rfl, ?_⟩
    exact ⟨_, rfl, τ.p, _, _, rfl, ta.obj, rfl, _, rfl, p, _, _, _, rfl, rfl, SqT.of hp, rfl, τ, m, ds, R, rfl, hm, ta, by omega, hn, q⟩
/-! Table -/
def tabF (g t w : Addr) (c : V) : List (Str × V) := [("game", .ref g), ("tape", .ref t), ("kind", .str "generator"), ("challenge", c), ("world", .ref w), ("secret", .non)]
def spBegin (K : PySem.W.Frag) : Sp := fun vs H Q _ => ∃ (x dx g p w : Addr) (c : V) (n m : Nat) (rows : List Bits) (real : Bool) (τ : Tk) (ds : List (Nat × Nat)) (R : List Nat), vs = [.ref x] ∧ H x = some (.ins (He.ga K "Table") dx (tabF g τ.p w c)) ∧ GameAt H g p real ∧ GenV H p n m rows ∧ GenB n m rows ∧ m ≤ 9 ∧ TapeAt K H τ ds R ∧ ds.length ≤ 40 ∧ R.headD 0 < chN real n m ∧ x ≠ τ.ld ∧
  ∀ H', TapeAt K H' τ (ds ++ [(R.headD 0, chN real n m)]) R.tail → But2 τ.ld x H H' → H' x = some (.ins (He.ga K "Table") dx (tabF g τ.p w (.str (St (chal real n m rows (R.headD 0)))))) → Q .non H'
abbrev n_Table_begin_challenge : List Str := ["self", "game", "tape", "block", "row", "i", "string", "strings", "rows", "x", "r", "_"]
theorem sc_Table_begin_challenge : FnScope n_Table_begin_challenge ["self"] (defScope s_Table_begin_challenge) := ⟨rfl, rfl, rfl, by decide +kernel, rfl, by decide +kernel, by decide +kernel⟩
theorem c_begin (T : Tx w K mg) : C8.Met P w K mg base 4 (He.ga K "Table") "begin_challenge" (spBegin K) [] := by
  obtain ⟨fd, F⟩ := T.f_Table_begin_challenge
  refine metD T.k_Table T.m_Table_begin_challenge F (F.bindsN fun _ _ _ _ _ _ us hl => match us, hl with | [_], _ => rfl) sc_Table_begin_challenge (fun vs H Q E h => ?_) (fun cdv A outer s H vs Q E hr h => ?_)
  · obtain ⟨x, dx, g, p, w, c, n, m, rows, real, τ, ds, R, rfl, _⟩ := h
    rfl
  obtain ⟨x, dx, g, p, w, c, n, m, rows, real, τ, ds, R, rfl, hx, hg, gv, gb, hm, ta, hds, hn, nx, q⟩ := h
  refine ⟨_, (pss_cons (ps_asg (pe_tup (pa_cons (pe_fld (pv 0) rfl) (pa_cons (pe_fld (pv 0) rfl) (pa_cons (pe_ix (r := rIxT K) ix_tup (pe_fld (pv 0) rfl) pe_int (fun _ _ => rfl)) pa_nil)))) (pg_tup (by rfl) (pgs_cons (pg_name (i := 1) sc_Table_begin_challenge.nd rfl (Or.inl rfl)) (pgs_cons (pg_name (i := 2) sc_Table_begin_challenge.nd rfl (Or.inr rfl)) (pgs_cons (pg_name (i := 3) sc_Table_begin_challenge.nd rfl (Or.inr rfl)) pgs_nil)))))
    (pss_one (ps_if (pt_cmpR op_eq (pe_fld (pv 0) rfl) pe_str (nomark _)) (pss_one (ps_fld (pv 0) (C8.pe_c (c_cover T) hr (by omega) rfl (pa_cons (pv 2) (pa_cons (pv 3) (pa_cons (pe_ix (r := rIxT K) ix_tup (pv 1) pe_int (fun _ _ => rfl)) pa_nil)))) rfl)) pss_never))), ?_⟩
  refine ⟨_, rfl, x, _, _, _, _, rfl, hx, T.k_Table, T.a_Table_game, rfl, _, rfl, x, _, _, _, _, rfl, hx, T.k_Table, T.a_Table_tape, rfl, _, rfl, x, _, _, _, _, rfl, hx, T.k_Table, T.a_Table_game, rfl, g, _, _, _, rfl, rfl, SqT.of hg, rfl, ?_⟩
  refine ⟨by show 3 ≤ sizeLine; decide, fun t1 ht1 => ?_⟩
  have s1 := same_new ht1 (.tup [.ref g, .ref τ.p, .ref p])
  refine ⟨t1, _, rfl, SqT.of upd_same, rfl, _, _, rfl, ?_⟩
  refine ⟨_, _, rfl, ?_⟩
  refine ⟨_, _, rfl, ?_⟩
  refine ⟨rfl, ?_⟩
  have hx1 := s1 _ _ hx
  have hg1 : GameAt _ g p real := s1 _ _ hg
  have gv1 := gv.same s1
  have ta1 := ta.same s1
  revert s1 hx1 hg1 gv1 ta1
  generalize upd H t1 (.tup [.ref g, .ref τ.p, .ref p]) = H1
  intro s1 hx1 hg1 gv1 ta1
  refine ⟨_, rfl, x, _, _, _, _, rfl, hx1, T.k_Table, T.a_Table_kind, rfl, rfl, _, rfl, ifY rfl ?_⟩
  refine ⟨_, rfl, _, rfl, _, rfl, g, _, _, _, rfl, rfl, SqT.of hg1, rfl, p, n, m, rows, real, τ, ds, R, rfl, gv1, gb, hm, ta1, hds, hn, fun H2 ta2 b2 => ?_⟩
  have hx2 := b2 _ _ nx hx1
  refine ⟨_, rfl, x, _, _, _, rfl, hx2, T.k_Table, T.a_Table_challenge, by show 6 < 1000; decide, ?_⟩
  have n1 : x ≠ τ.p := fun z => by
    have e := ta2.obj
    rw [← z, hx2] at e
    have := (Option.some.inj e)
    injection this with _ _ e3
    cases e3
  have n2 : x ≠ τ.lc := fun z => by have e := ta2.ch; rw [← z, hx2] at e; cases e
  have k3 : Kt H2 (upd H2 x (.ins (He.ga K "Table") dx (putF "challenge" (.str (St (chal real n m rows (R.headD 0)))) (tabF g τ.p w c)))) := fun b xs e => by
    rw [upd_ne (ne_of e hx2 (by intro z; cases z))]
    exact e
  refine q _ (ta2.but ((But.refl x H2).upd _) n1 n2 nx k3) ((But2.of s1).trans ((But2.l b2).trans (.r ((But.refl x H2).upd _)))) ?_
  rw [upd_same]
  rfl
abbrev n_Table_has_won : List Str := ["self", "said", "asked", "block"]
theorem sc_Table_has_won : FnScope n_Table_has_won ["self", "said", "asked"] (defScope s_Table_has_won) := ⟨rfl, rfl, rfl, by decide +kernel, rfl, by decide +kernel, by decide +kernel⟩
def spWon (K : PySem.W.Frag) : Sp := fun vs H Q _ => ∃ (x dx g t w : Addr) (c av : V) (s : Bits), vs = [.ref x, .str (St s), av] ∧ H x = some (.ins (He.ga K "Table") dx (tabF g t w c)) ∧ Q (.bl (isOne s)) H
theorem c_has_won (T : Tx w K mg) : C8.Met P w K mg base 1 (He.ga K "Table") "has_won" (spWon K) [] := by
  obtain ⟨fd, F⟩ := T.f_Table_has_won
  refine metD T.k_Table T.m_Table_has_won F (F.bindsN fun _ _ _ _ _ _ us hl => match us, hl with | [_, _, _], _ => rfl) sc_Table_has_won (fun vs H Q E h => ?_) (fun cdv A outer s H vs Q E hr h => ?_)
  · obtain ⟨x, dx, g, t, w, c, av, s, rfl, _⟩ := h
    rfl
  obtain ⟨x, dx, g, t, w, c, av, s, rfl, hx, q⟩ := h
  refine ⟨_, (pss_cons (ps_if (pt_cmpR op_eq (pe_fld (pv 0) rfl) pe_str (nomark _)) pss_never pss_nil)
    (pss_cons (ps_if (PW.pt (pw_or (pt_cmpR op_eq (pe_fld (pv 0) rfl) pe_str (nomark _)) (pw_or1 (pt_cmpR op_eq (pe_fld (pv 0) rfl) pe_str (nomark _))))) pss_never pss_nil)
    (pss_cons (ps_if (pt_cmpR op_eq (pe_fld (pv 0) rfl) pe_str (nomark _)) pss_never pss_nil)
    (pss_cons (ps_if (pt_cmpR op_eq (pe_fld (pv 0) rfl) pe_str (nomark _)) pss_never pss_nil)
    (pss_one (ps_ret (pe_cmpR op_eq (pv 1) pe_str (nomark _)))))))), ?_⟩
  refine ⟨_, rfl, x, _, _, _, _, rfl, hx, T.k_Table, T.a_Table_kind, rfl, rfl, _, rfl, ifN (by decide +kernel) ?_⟩
  refine ⟨_, rfl, x, _, _, _, _, rfl, hx, T.k_Table, T.a_Table_kind, rfl, rfl, _, rfl, ifN (by decide +kernel) ?_⟩
  refine ⟨_, rfl, x, _, _, _, _, rfl, hx, T.k_Table, T.a_Table_kind, rfl, rfl, _, rfl, ifN (by decide +kernel) ?_⟩
  refine ⟨_, rfl, x, _, _, _, _, rfl, hx, T.k_Table, T.a_Table_kind, rfl, rfl, _, rfl, ifN (by decide +kernel) ?_⟩
  refine ⟨_, rfl, x, _, _, _, _, rfl, hx, T.k_Table, T.a_Table_kind, rfl, rfl, _, rfl, ifN (by decide +kernel) ?_⟩
  refine ⟨_, rfl, rfl, ?_⟩
  show Q (.bl (decide (V.str (St s) = V.str (Str.ofString "1")))) H
  rw [St_one, St_dec]
  exact q
end
end Bk

set_option Elab.async false
set_option linter.all false
set_option maxRecDepth 100000
set_option maxHeartbeats 4000000
namespace Bk
open PySem PySem.Spec PyProof.Rows L2
/-- the draws of a play -/
def gTree (real : Bool) (n m : Nat) (rows : List Bits) (tr : Bits → Tr Bits) : Tr Bits := .node (chN real n m) fun c => tr (chal real n m rows c)
theorem chal_len {real : Bool} {n m : Nat} {rows : List Bits} (g : GenB n m rows) {c : Nat} (h : c < chN real n m) : (chal real n m rows c).length = m := by
  cases real with
  | true =>
    have h : c < 2 ^ n := h
    show (row rows (bitsOf n c)).length = m
    unfold row
    rw [num_bitsOf _ _ h, List.getD_eq_getElem?_getD, List.getElem?_eq_getElem (by rw [g.len]; exact h)]
    exact g.row _ (List.getElem_mem _)
  | false => exact bitsOf_length m c
section
variable {P : Program} {w : World} {K : PySem.W.Frag} {mg : Str → Option Value} {base : Heap}
def spTableI (K : PySem.W.Frag) : Sp := fun vs H Q _ => ∃ (x dx g p : Addr) (H0 : Hp) (n m : Nat) (rows : List Bits) (real : Bool) (τ : Tk) (ds : List (Nat × Nat)) (R : List Nat), vs = [.ref x, .ref g, .ref τ.p] ∧ H = newI H0 x dx (He.ga K "Table") ∧ H0 x = none ∧ H0 dx = none ∧ dx ≠ x ∧ GameAt H0 g p real ∧ GenV H0 p n m rows ∧ GenB n m rows ∧ m ≤ 9 ∧ TapeAt K H0 τ ds R ∧ ds.length ≤ 40 ∧ R.headD 0 < chN real n m ∧
  ∀ w H', TapeAt K H' τ (ds ++ [(R.headD 0, chN real n m)]) R.tail → But τ.ld H0 H' → H' x = some (.ins (He.ga K "Table") dx (tabF g τ.p w (.str (St (chal real n m rows (R.headD 0)))))) → (∃ dw, H' w = some (.ins (clsB K false) dw [])) → Q .non H'
abbrev n_Table__init : List Str := ["self", "game", "tape"]
theorem sc_Table__init : FnScope n_Table__init ["self", "game", "tape"] (defScope s_Table__init) := ⟨rfl, rfl, rfl, by decide +kernel, rfl, by decide +kernel, by decide +kernel⟩
theorem k_Table (T : Tx w K mg) : C8.Mak P w K mg base 5 "Table" (He.ga K "Table") (spTableI K) [] := by
  obtain ⟨fd, F⟩ := T.f_Table__init
  refine makD T.mk_Table T.g_Table F (F.bindsN fun _ _ _ _ _ _ us hl => match us, hl with | [_, _, _], _ => rfl) sc_Table__init (fun vs H Q E h => ?_) (fun cdv A outer s H vs Q E hr h => ?_)
  · obtain ⟨x, dx, g, p, H0, n, m, rows, real, τ, ds, R, rfl, _⟩ := h
    rfl
  obtain ⟨x, dx, g, p, H0, n, m, rows, real, τ, ds, R, rfl, rfl, hx, hd, ne, hg, gv, gb, hm, ta, hds, hn, q⟩ := h
  have s0 := newI_same (C := He.ga K "Table") hx hd ne
  have up : ∀ {H' : Hp} {fs : List (Str × V)}, Same H0 H' → Same H0 (upd H' x (.ins (He.ga K "Table") dx fs)) := fun s => same_put s hx _
  refine ⟨_, (pss_cons (ps_fld (pv 0) (pv 1) rfl)
    (pss_cons (ps_fld (pv 0) (pv 2) rfl)
    (pss_cons (ps_fld (pv 0) (pe_ix (r := rIxT K) ix_tup (pv 1) pe_int (fun _ _ => rfl)) rfl)
    (pss_cons (ps_fld (pv 0) pe_str rfl)
    (pss_cons (ps_fld (pv 0) (pe_make00 T.mk0_Silent rfl T.g_Silent) rfl)
    (pss_cons (ps_fld (pv 0) pe_non rfl)
    (pss_one (ps_if (pt_cmpR op_in_seq (pe_fld (pv 0) rfl) (pe_tup (pa_cons pe_str (pa_cons pe_str (pa_cons pe_str (pa_cons pe_str (pa_cons pe_str pa_nil)))))) (by rfl)) (pss_one ps_never) (pss_one (ps_expr (C8.pe_mt0 (c_begin T) hr (by omega) (pv 0)))))))))))), ?_⟩
  refine ⟨_, rfl, _, rfl, x, _, _, _, rfl, newI_at, T.k_Table, T.a_Table_game, by show 0 < 1000; decide, ?_⟩
  refine ⟨_, rfl, _, rfl, x, _, _, _, rfl, upd_same, T.k_Table, T.a_Table_tape, by show 1 < 1000; decide, ?_⟩
  rw [upd_upd]
  refine ⟨_, rfl, g, _, _, _, rfl, rfl, SqT.of ((up s0) _ _ hg), rfl, _, rfl, x, _, _, _, rfl, upd_same, T.k_Table, T.a_Table_kind, by show 2 < 1000; decide, ?_⟩
  rw [upd_upd]
  refine ⟨_, rfl, x, _, _, _, rfl, upd_same, T.k_Table, T.a_Table_challenge, by show 3 < 1000; decide, ?_⟩
  rw [upd_upd]
  have s1 : Same H0 (upd (newI H0 x dx (He.ga K "Table")) x (.ins (He.ga K "Table") dx (putF "challenge" (.str "") (putF "kind" (.str "generator") (putF "tape" (.ref τ.p) (putF "game" (.ref g) [])))))) := up s0
  have hx1 : upd (newI H0 x dx (He.ga K "Table")) x (.ins (He.ga K "Table") dx (putF "challenge" (.str "") (putF "kind" (.str "generator") (putF "tape" (.ref τ.p) (putF "game" (.ref g) []))))) x = some (.ins (He.ga K "Table") dx [("game", .ref g), ("tape", .ref τ.p), ("kind", .str "generator"), ("challenge", .str "")]) := upd_same
  revert s1 hx1
  generalize upd (newI H0 x dx (He.ga K "Table")) x (.ins (He.ga K "Table") dx (putF "challenge" (.str "") (putF "kind" (.str "generator") (putF "tape" (.ref τ.p) (putF "game" (.ref g) []))))) = H1
  intro s1 hx1
  intro sw dsw w1 w2 w3
  have sx : sw ≠ x := fun z => by rw [z, hx1] at w1; cases w1
  have s2 : Same H1 (upd (upd H1 dsw (.own sw)) sw (.ins (He.ga K "Silent") dsw [])) := newI_same w1 w2 w3
  have hw2 : upd (upd H1 dsw (.own sw)) sw (.ins (He.ga K "Silent") dsw []) sw = some (.ins (He.ga K "Silent") dsw []) := upd_same
  have hx2 := s2 _ _ hx1
  revert s2 hw2 hx2
  generalize upd (upd H1 dsw (.own sw)) sw (.ins (He.ga K "Silent") dsw []) = H2
  intro s2 hw2 hx2
  refine ⟨_, rfl, x, _, _, _, rfl, hx2, T.k_Table, T.a_Table_world, by show 4 < 1000; decide, ?_⟩
  refine ⟨_, rfl, x, _, _, _, rfl, upd_same, T.k_Table, T.a_Table_secret, by show 5 < 1000; decide, ?_⟩
  rw [upd_upd]
  have ep : putF "secret" V.non (putF "world" (V.ref sw) [("game", V.ref g), ("tape", V.ref τ.p), ("kind", V.str "generator"), ("challenge", V.str "")]) = tabF g τ.p sw (.str "") := rfl
  rw [ep]
  have s3 : Same H0 (upd H2 x (.ins (He.ga K "Table") dx (tabF g τ.p sw (.str "")))) := up (s1.trans s2)
  have hx3 : upd H2 x (.ins (He.ga K "Table") dx (tabF g τ.p sw (.str ""))) x = some (.ins (He.ga K "Table") dx (tabF g τ.p sw (.str ""))) := upd_same
  have hw3 : upd H2 x (.ins (He.ga K "Table") dx (tabF g τ.p sw (.str ""))) sw = some (.ins (He.ga K "Silent") dsw []) := by
    rw [upd_ne sx]
    exact hw2
  revert s3 hx3 hw3
  generalize upd H2 x (.ins (He.ga K "Table") dx (tabF g τ.p sw (.str ""))) = H3
  intro s3 hx3 hw3
  refine ⟨_, rfl, x, _, _, _, _, rfl, hx3, T.k_Table, T.a_Table_kind, rfl, by show 5 ≤ sizeLine; decide, fun t1 ht1 => ?_⟩
  refine ⟨t1, _, rfl, .inr (SqT.of upd_same), rfl, rfl, _, rfl, ?_⟩
  have s4 := same_new ht1 (.tup [V.str "permutation", V.str "swaps", V.str "function", V.str "marks", V.str "secrets"])
  revert s4
  generalize upd H3 t1 (.tup [V.str "permutation", V.str "swaps", V.str "function", V.str "marks", V.str "secrets"]) = H4
  intro s4
  have e1 : inV (.str "generator") [.str "permutation", .str "swaps", .str "function", .str "marks", .str "secrets"] = false := by decide +kernel
  show (if inV (.str "generator") [.str "permutation", .str "swaps", .str "function", .str "marks", .str "secrets"] = true then _ else _)
  rw [e1]
  have s5 := s3.trans s4
  have hx4 := s4 _ _ hx3
  have nxl : x ≠ τ.ld := fun z => by
    obtain ⟨rs, e, _⟩ := ta.dr
    rw [← z, hx] at e
    cases e
  refine ⟨_, rfl, x, _, _, rfl, hx4, rfl, x, dx, g, p, sw, _, n, m, rows, real, τ, ds, R, rfl, hx4, s5 _ _ hg, gv.same s5, gb, hm, ta.same s5, hds, hn, nxl, fun H' ta' b' hx' => ?_⟩
  refine q sw H' ta' (fun b o n1 e => b' _ _ n1 (ne_of_none e hx) (s5 _ _ e)) hx' ⟨dsw, ?_⟩
  have n5 : sw ≠ τ.ld := fun z => by
    obtain ⟨rs, e, _⟩ := (ta.same s1).dr
    rw [← z, w1] at e
    cases e
  exact b' _ _ n5 sx (s4 _ _ hw3)
end
end Bk

set_option Elab.async false
set_option linter.all false
set_option maxRecDepth 100000
set_option maxHeartbeats 4000000
namespace Bk
open PySem PySem.Spec PyProof.Rows L2
section
variable {P : Program} {w : World} {K : PySem.W.Frag} {mg : Str → Option Value} {base : Heap}
def plF (o : Int) (s : V) (ld la : Addr) : List (Str × V) := [("outcome", .int o), ("said", s), ("draws", .ref ld), ("asked", .ref la)]
/-- a play that was played -/
def PlayAt (K : PySem.W.Frag) (H : Hp) (y : Addr) (r : List (Nat × Nat) × Bits) : Prop := ∃ dy s ld la rs, H y = some (.ins (He.ga K "Play") dy (plF (if isOne r.2 = true then 1 else 0) s ld la)) ∧ H ld = some (.lst rs) ∧ Drs H rs r.1
def spPlayed (K : PySem.W.Frag) : Sp := fun vs H Q _ => ∃ (g p l : Addr) (v : V) (n m : Nat) (rows : List Bits) (real : Bool) (tr : Bits → Tr Bits) (cs : List Nat), vs = [.ref g, v, .ref l] ∧ GameAt H g p real ∧ GenV H p n m rows ∧ GenB n m rows ∧ m ≤ 9 ∧ Bkr H v m tr ∧ H l = some (.lst (cs.map fun c => V.int (c : Nat))) ∧ cs.length ≤ 200 ∧ (gTree real n m rows tr).Fits cs ∧
  ∀ y H', Same H H' → PlayAt K H' y ((gTree real n m rows tr).run cs) → Q (.ref y) H'
abbrev n_played : List Str := ["game", "breaker", "choices", "tape", "table", "notes", "said", "outcome"]
theorem sc_played : FnScope n_played ["game", "breaker", "choices"] (defScope s_played) := ⟨rfl, rfl, rfl, by decide +kernel, rfl, by decide +kernel, by decide +kernel⟩
theorem c_played (T : Tx w K mg) : C8.Cal P w K mg base 7 "played" (spPlayed K) [] := by
  obtain ⟨fd, F⟩ := T.f_played
  refine calD F T.g_played (F.bindsN fun _ _ _ _ _ _ us hl => match us, hl with | [_, _, _], _ => rfl) sc_played (fun vs H Q E h => ?_) (fun cdv A outer s H vs Q E hr h => ?_)
  · obtain ⟨g, p, l, v, n, m, rows, real, tr, cs, rfl, _⟩ := h
    rfl
  obtain ⟨g, p, l, v, n, m, rows, real, tr, cs, rfl, hg, gv, gb, hm, hb, hl, hcs, ft, q⟩ := h
  obtain ⟨f1, f2⟩ := ft
  refine ⟨_, (pss_cons (ps_set (i := 3) sc_played.nd rfl (Or.inl rfl) (C8.pe_mk (k_Tape T) hr (by omega) rfl (pa_cons (pv 2) pa_nil)))
    (pss_cons (ps_set (i := 4) sc_played.nd rfl (Or.inl rfl) (C8.pe_mk (k_Table T) hr (by omega) rfl (pa_cons (pv 0) (pa_cons (pv 3) pa_nil))))
    (pss_cons (ps_set (i := 5) sc_played.nd rfl (Or.inl rfl) (C8.pe_mk (k_Notes T) hr (by omega) rfl (pa_cons (pe_fld (pv 4) rfl) pa_nil)))
    (pss_cons (ps_set (i := 6) sc_played.nd rfl (Or.inl rfl) (C8.pe_c (c_run_breaker T) hr (by omega) rfl (pa_cons (pv 1) (pa_cons (pv 3) (pa_cons (pe_fld (pv 4) rfl) (pa_cons (pv 5) pa_nil))))))
    (pss_cons (ps_set (i := 7) sc_played.nd rfl (Or.inl rfl) (pe_callTy call_int1 (by rfl) T.n_int (by decide +kernel) (pa_cons (C8.pe_mt (c_has_won T) hr (by omega) (pv 4) (pa_cons (pv 6) (pa_cons (pe_fld (pv 5) rfl) pa_nil))) pa_nil)))
    (pss_one (ps_ret (C8.pe_mk (k_Play T) hr (by omega) rfl (pa_cons (pv 7) (pa_cons (pv 6) (pa_cons (pe_fld (pv 3) rfl) (pa_cons (pe_fld (pv 5) rfl) pa_nil)))))))))))), ?_⟩
  refine ⟨_, rfl, fun tp tdx h1 h2 h3 => ⟨tp, tdx, l, H, cs, rfl, rfl, h1, h2, h3, hl, hcs, fun τ H1 et s1 ta hld => ⟨rfl, ?_⟩⟩⟩
  subst et
  refine ⟨_, rfl, _, rfl, fun x dx h1' h2' h3' => ⟨x, dx, g, p, H1, n, m, rows, real, τ, [], cs, rfl, rfl, h1', h2', h3', s1 _ _ hg, gv.same s1, gb, hm, ta, Nat.zero_le _, f1, fun sw H2 ta2 b2 hx2 ⟨dw, hw2⟩ => ⟨rfl, ?_⟩⟩⟩
  rw [List.nil_append] at ta2
  refine ⟨_, rfl, x, _, _, _, _, rfl, hx2, T.k_Table, T.a_Table_world, rfl, fun nx ndx n1 n2 n3 => ⟨nx, ndx, sw, H2, rfl, rfl, n1, n2, n3, ⟨dw, hw2⟩, fun la H3 s3 wa hla hlst nla => ⟨rfl, ?_⟩⟩⟩
  have ta3 := ta2.same s3
  have hx3 := s3 _ _ hx2
  have k02 : Kt H H2 := (Kt.of s1).trans (b2.kt2 ta.notup)
  have hb3 : Bkr H3 v (chal real n m rows (cs.headD 0)).length tr := by
    rw [chal_len gb f1]
    exact hb.kt (k02.trans (.of s3))
  have e1 : la ≠ τ.ld := fun z => by
    obtain ⟨rs, e, _⟩ := ta2.dr
    rw [← z, hla] at e
    cases e
  have e2 : la ≠ τ.lc := fun z => by have e := ta2.ch; rw [← z, hla] at e; cases e
  have e3 : la ≠ τ.p := fun z => by have e := ta2.obj; rw [← z, hla] at e; cases e
  refine ⟨_, rfl, _, rfl, _, rfl, x, _, _, _, _, rfl, hx3, T.k_Table, T.a_Table_challenge, rfl, _, rfl, ?_⟩
  refine ⟨v, nx, la, 0, _, tr, τ, _, _, rfl, hb3, by rw [chal_len gb f1]; omega, ta3, (by show 1 ≤ 40; decide), wa, by decide, ⟨e1, e2, e3⟩, f2, fun H4 R4 j4 ta4 wa4 b4 => ?_⟩
  have xl : x ≠ τ.ld := fun z => by
    obtain ⟨rs, e, _⟩ := ta3.dr
    rw [← z, hx3] at e
    cases e
  have xa : x ≠ la := fun z => by rw [← z, hx2] at hla; cases hla
  have hx4 := b4 _ _ xl xa hx3
  obtain ⟨ndx4, sw4, dx24, as4, hn4, _, hl4, _⟩ := wa4
  refine ⟨_, rfl, x, _, _, rfl, hx4, rfl, _, rfl, _, rfl, nx, _, _, _, _, rfl, hn4, T.k_Notes, T.a_Notes_asked, rfl, x, dx, g, τ.p, sw, _, _, _, rfl, hx4, .inr ⟨_, rfl, ?_⟩⟩
  refine ⟨_, rfl, _, rfl, _, rfl, τ.p, _, _, _, _, rfl, ta4.obj, T.k_Tape, T.a_Tape_draws, rfl, _, rfl, nx, _, _, _, _, rfl, hn4, T.k_Notes, T.a_Notes_asked, rfl, fun y dy y1 y2 y3 => ?_⟩
  refine ⟨y, dy, H4, _, _, _, _, rfl, rfl, y1, y2, y3, fun H5 s5 hy => ⟨rfl, ?_⟩⟩
  obtain ⟨rs, hrs, dr⟩ := ta4.dr
  refine q y H5 (fun b o e => ?_) ⟨dy, _, τ.ld, la, rs, hy, s5 _ _ hrs, dr.kt (.of s5)⟩
  have bl : b ≠ τ.ld := ne_of_none e hld
  have e9 := b2 _ _ bl (s1 _ _ e)
  exact s5 _ _ (b4 _ _ bl (ne_of_none e9 hla) (s3 _ _ e9))
end
end Bk

set_option Elab.async false
set_option linter.all false
set_option maxRecDepth 100000
set_option maxHeartbeats 4000000
namespace Bk
open PySem PySem.Spec PyProof.Rows L2
theorem nrm_plus {S T : Int} {D : Nat} (hD : 0 < D) {o u p v : Int} (h : nrm S D = (o, u)) (h' : nrm T D = (p, v)) :
    nrm (o * v + p * u) (u.toNat * v.toNat) = nrm (S + T) D ∧ 0 < u ∧ 0 < v := by
  obtain ⟨g, u', o', hg, hu, e1, e2, e3, _⟩ := nrm_parts S D hD
  rw [h] at e3
  obtain ⟨rfl, rfl⟩ := Prod.mk.inj e3
  obtain ⟨g2, v', p', hg2, hv, f1, f2, f3, _⟩ := nrm_parts T D hD
  rw [h'] at f3
  obtain ⟨rfl, rfl⟩ := Prod.mk.inj f3
  refine ⟨?_, by omega, by omega⟩
  show nrm (o * (v' : Int) + p * (u' : Int)) (u' * v') = _
  refine nrm_cross (Nat.mul_pos hu hv) hD ?_
  have e6 : (D : Int) = u' * g := by rw [e1, Int.natCast_mul]
  have f6 : (D : Int) = v' * g2 := by rw [f1, Int.natCast_mul]
  rw [Int.add_mul, Int.add_mul, e2, f2, Int.natCast_mul]
  congr 1
  · rw [e6]
    simp only [Int.mul_assoc, Int.mul_comm, Int.mul_left_comm]
  · rw [f6]
    simp only [Int.mul_assoc, Int.mul_comm, Int.mul_left_comm]
theorem nextc_drop : ∀ (i : Nat) (ds : List (Nat × Nat)) (cs : List Nat), nextc (ds.drop i) = some cs → nextc ds = some ((ds.take i).map (·.1) ++ cs)
  | 0, ds, cs, h => h
  | i + 1, [], cs, h => by cases h
  | i + 1, (c, n) :: r, cs, h => by
    have := nextc_drop i r cs h
    show (match nextc r with | some cs => some (c :: cs) | none => _) = _
    rw [this]
    rfl
section
variable {P : Program} {w : World} {K : PySem.W.Frag} {mg : Str → Option Value} {base : Heap}
abbrev n_fraction : List Str := ["numerator", "denominator", "divisor"]
theorem sc_fraction : FnScope n_fraction ["numerator", "denominator"] (defScope s_fraction) := ⟨rfl, rfl, rfl, by decide +kernel, rfl, by decide +kernel, by decide +kernel⟩
theorem c_fraction (T : Tx w K mg) : C8.Cal P w K mg base 1 "fraction" spFr [] := by
  obtain ⟨fd, F⟩ := T.f_fraction
  refine calD F T.g_fraction (F.bindsN fun _ _ _ _ _ _ us hl => match us, hl with | [_, _], _ => rfl) sc_fraction (fun vs H Q E h => ?_) (fun cdv A outer s H vs Q E hr h => ?_)
  · obtain ⟨o, u, rfl, _⟩ := h
    rfl
  obtain ⟨o, u, rfl, hu, ho, hu2, q⟩ := h
  refine ⟨_, (pss_cons (ps_set (i := 2) sc_fraction.nd rfl (Or.inl rfl) (pe_callBfun cr_gcd rfl T.b_gcd (pa_cons (pv 0) (pa_cons (pv 1) pa_nil))))
    (pss_cons (ps_if (pt_cmpR op_lt (pv 1) pe_int (nomark _)) (pss_one (ps_set (i := 2) sc_fraction.nd rfl (Or.inl rfl) (pe_un un_neg (pv 2)))) pss_nil)
    (pss_one (ps_ret (pe_tup (pa_cons (pe_op op_fdivW (pv 0) (pv 2)) (pa_cons (pe_op op_fdivW (pv 1) (pv 2)) pa_nil))))))), ?_⟩
  refine ⟨_, rfl, _, rfl, o, u, rfl, ?_⟩
  rw [Int.natAbs_natCast]
  refine ⟨_, rfl, _, _, rfl, rfl, _, rfl, ifN (by show ¬ (u : Int) < 0; omega) ?_⟩
  have hg : 0 < Nat.gcd o.natAbs u := gcd_pos_right _ _ hu
  have hg2 : (((Nat.gcd o.natAbs u : Nat) : Int)).natAbs < 2 ^ 250 := by
    rw [Int.natAbs_natCast]
    exact Nat.lt_of_le_of_lt (Nat.gcd_le_right _ hu) hu2
  refine ⟨_, rfl, _, rfl, _, _, rfl, rfl, wide_div (b := 250) (by omega) hg2 (by decide) (by decide), _, rfl, _, rfl, _, _, rfl, rfl, wide_div (b := 250) (by omega) hg2 (by decide) (by decide), by show 2 ≤ sizeLine; decide, fun p hp => ?_⟩
  exact q p _ (same_new hp _) upd_same
abbrev n_less : List Str := ["first", "second"]
theorem sc_less : FnScope n_less ["first", "second"] (defScope s_less) := ⟨rfl, rfl, rfl, by decide +kernel, rfl, by decide +kernel, by decide +kernel⟩
theorem c_less (T : Tx w K mg) : C8.Cal P w K mg base 2 "less" spLess [] := by
  obtain ⟨fd, F⟩ := T.f_less
  refine calD F T.g_less (F.bindsN fun _ _ _ _ _ _ us hl => match us, hl with | [_, _], _ => rfl) sc_less (fun vs H Q E h => ?_) (fun cdv A outer s H vs Q E hr h => ?_)
  · obtain ⟨p1, p2, S1, S2, D, rfl, _⟩ := h
    rfl
  obtain ⟨p1, p2, S1, S2, D, rfl, f1, f2, hD, hD2, h1, h2, q⟩ := h
  obtain ⟨a1, a2, a3⟩ := fr_parts hD hD2 h1
  obtain ⟨b1, b2, b3⟩ := fr_parts hD hD2 h2
  obtain ⟨step, _, _⟩ := nrm_less hD (S := S1) (T := S2) (o := (nrm S1 D).1) (u := (nrm S1 D).2) (p := (nrm S2 D).1) (v := (nrm S2 D).2) rfl rfl
  unfold FrAt at f1 f2
  generalize (nrm S1 D).1 = o at *
  generalize (nrm S1 D).2 = u at *
  generalize (nrm S2 D).1 = o2 at *
  generalize (nrm S2 D).2 = u2 at *
  refine ⟨_, (pss_one (ps_ret (C8.pe_c (c_fraction T) hr (by omega) rfl (pa_cons (pe_op op_sub (pe_op op_mul (pe_ix (r := rIxT K) ix_tup (pv 0) pe_int (fun _ _ => rfl)) (pe_ix (r := rIxT K) ix_tup (pv 1) pe_int (fun _ _ => rfl))) (pe_op op_mul (pe_ix (r := rIxT K) ix_tup (pv 1) pe_int (fun _ _ => rfl)) (pe_ix (r := rIxT K) ix_tup (pv 0) pe_int (fun _ _ => rfl)))) (pa_cons (pe_op op_mul (pe_ix (r := rIxT K) ix_tup (pv 0) pe_int (fun _ _ => rfl)) (pe_ix (r := rIxT K) ix_tup (pv 1) pe_int (fun _ _ => rfl))) pa_nil))))), ?_⟩
  refine ⟨_, rfl, p1, _, _, _, rfl, rfl, SqT.of f1, rfl, _, rfl, p2, _, _, _, rfl, rfl, SqT.of f2, rfl, _, _, rfl, rfl, .inr ⟨by omega, by omega⟩, ?_⟩
  refine ⟨_, rfl, p2, _, _, _, rfl, rfl, SqT.of f2, rfl, _, rfl, p1, _, _, _, rfl, rfl, SqT.of f1, rfl, _, _, rfl, rfl, .inr ⟨by omega, by omega⟩, _, _, rfl, rfl, ?_⟩
  refine ⟨_, rfl, p1, _, _, _, rfl, rfl, SqT.of f1, rfl, _, rfl, p2, _, _, _, rfl, rfl, SqT.of f2, rfl, _, _, rfl, rfl, .inr ⟨by omega, by omega⟩, ?_⟩
  have un : u.toNat < 2 ^ 60 := by omega
  have vn : u2.toNat < 2 ^ 60 := by omega
  have p1' := pow_mul_lt a3 vn
  have p2' := pow_mul_lt b3 un
  have p3' := pow_mul_lt un vn
  have eu : u * u2 = ((u.toNat * u2.toNat : Nat) : Int) := by
    rw [Int.natCast_mul, Int.toNat_of_nonneg (by omega), Int.toNat_of_nonneg (by omega)]
  refine ⟨o * u2 - o2 * u, u.toNat * u2.toNat, ?_, Nat.mul_pos (by omega) (by omega), ?_, ?_, fun p H2 s2 hp => ?_⟩
  · show [V.int (o * u2 - o2 * u), V.int (u * u2)] = _
    rw [eu]
  · have e1 : (o * u2).natAbs = o.natAbs * u2.toNat := by
      rw [Int.natAbs_mul]
      congr 1
      omega
    have e2 : (o2 * u).natAbs = o2.natAbs * u.toNat := by
      rw [Int.natAbs_mul]
      congr 1
      omega
    have e3 := Int.natAbs_sub_le (o * u2) (o2 * u)
    have c1 : (2 : Nat) ^ (150 + 60) ≤ 2 ^ 249 := Nat.pow_le_pow_right (by decide) (by decide)
    have c2 : (2 : Nat) ^ 250 = 2 ^ 249 + 2 ^ 249 := by rw [Nat.pow_succ] <;> omega
    omega
  · have c1 : (2 : Nat) ^ (60 + 60) ≤ 2 ^ 250 := Nat.pow_le_pow_right (by decide) (by decide)
    omega
  · rw [step] at hp
    exact q p _ s2 hp
def spAdd : Sp := fun vs H Q _ => ∃ (p1 p2 : Addr) (S1 S2 : Int) (D : Nat), vs = [.ref p1, .ref p2] ∧ FrAt H p1 S1 D ∧ FrAt H p2 S2 D ∧ 0 < D ∧ D < 2 ^ 60 ∧ S1.natAbs < 2 ^ 150 ∧ S2.natAbs < 2 ^ 150 ∧ ∀ p H', Same H H' → FrAt H' p (S1 + S2) D → Q (.ref p) H'
abbrev n_add : List Str := ["first", "second"]
theorem sc_add : FnScope n_add ["first", "second"] (defScope s_add) := ⟨rfl, rfl, rfl, by decide +kernel, rfl, by decide +kernel, by decide +kernel⟩
theorem c_add (T : Tx w K mg) : C8.Cal P w K mg base 2 "add" spAdd [] := by
  obtain ⟨fd, F⟩ := T.f_add
  refine calD F T.g_add (F.bindsN fun _ _ _ _ _ _ us hl => match us, hl with | [_, _], _ => rfl) sc_add (fun vs H Q E h => ?_) (fun cdv A outer s H vs Q E hr h => ?_)
  · obtain ⟨p1, p2, S1, S2, D, rfl, _⟩ := h
    rfl
  obtain ⟨p1, p2, S1, S2, D, rfl, f1, f2, hD, hD2, h1, h2, q⟩ := h
  obtain ⟨a1, a2, a3⟩ := fr_parts hD hD2 h1
  obtain ⟨b1, b2, b3⟩ := fr_parts hD hD2 h2
  obtain ⟨step, _, _⟩ := nrm_plus hD (S := S1) (T := S2) (o := (nrm S1 D).1) (u := (nrm S1 D).2) (p := (nrm S2 D).1) (v := (nrm S2 D).2) rfl rfl
  unfold FrAt at f1 f2
  generalize (nrm S1 D).1 = o at *
  generalize (nrm S1 D).2 = u at *
  generalize (nrm S2 D).1 = o2 at *
  generalize (nrm S2 D).2 = u2 at *
  refine ⟨_, (pss_one (ps_ret (C8.pe_c (c_fraction T) hr (by omega) rfl (pa_cons (pe_op op_add (pe_op op_mul (pe_ix (r := rIxT K) ix_tup (pv 0) pe_int (fun _ _ => rfl)) (pe_ix (r := rIxT K) ix_tup (pv 1) pe_int (fun _ _ => rfl))) (pe_op op_mul (pe_ix (r := rIxT K) ix_tup (pv 1) pe_int (fun _ _ => rfl)) (pe_ix (r := rIxT K) ix_tup (pv 0) pe_int (fun _ _ => rfl)))) (pa_cons (pe_op op_mul (pe_ix (r := rIxT K) ix_tup (pv 0) pe_int (fun _ _ => rfl)) (pe_ix (r := rIxT K) ix_tup (pv 1) pe_int (fun _ _ => rfl))) pa_nil))))), ?_⟩
  refine ⟨_, rfl, p1, _, _, _, rfl, rfl, SqT.of f1, rfl, _, rfl, p2, _, _, _, rfl, rfl, SqT.of f2, rfl, _, _, rfl, rfl, .inr ⟨by omega, by omega⟩, ?_⟩
  refine ⟨_, rfl, p2, _, _, _, rfl, rfl, SqT.of f2, rfl, _, rfl, p1, _, _, _, rfl, rfl, SqT.of f1, rfl, _, _, rfl, rfl, .inr ⟨by omega, by omega⟩, _, _, rfl, rfl, ?_⟩
  refine ⟨_, rfl, p1, _, _, _, rfl, rfl, SqT.of f1, rfl, _, rfl, p2, _, _, _, rfl, rfl, SqT.of f2, rfl, _, _, rfl, rfl, .inr ⟨by omega, by omega⟩, ?_⟩
  have un : u.toNat < 2 ^ 60 := by omega
  have vn : u2.toNat < 2 ^ 60 := by omega
  have p1' := pow_mul_lt a3 vn
  have p2' := pow_mul_lt b3 un
  have p3' := pow_mul_lt un vn
  have eu : u * u2 = ((u.toNat * u2.toNat : Nat) : Int) := by
    rw [Int.natCast_mul, Int.toNat_of_nonneg (by omega), Int.toNat_of_nonneg (by omega)]
  refine ⟨o * u2 + o2 * u, u.toNat * u2.toNat, ?_, Nat.mul_pos (by omega) (by omega), ?_, ?_, fun p H2 s2 hp => ?_⟩
  · show [V.int (o * u2 + o2 * u), V.int (u * u2)] = _
    rw [eu]
  · have e1 : (o * u2).natAbs = o.natAbs * u2.toNat := by
      rw [Int.natAbs_mul]
      congr 1
      omega
    have e2 : (o2 * u).natAbs = o2.natAbs * u.toNat := by
      rw [Int.natAbs_mul]
      congr 1
      omega
    have e3 := Int.natAbs_add_le (o * u2) (o2 * u)
    have c1 : (2 : Nat) ^ (150 + 60) ≤ 2 ^ 249 := Nat.pow_le_pow_right (by decide) (by decide)
    have c2 : (2 : Nat) ^ 250 = 2 ^ 249 + 2 ^ 249 := by rw [Nat.pow_succ] <;> omega
    omega
  · have c1 : (2 : Nat) ^ (60 + 60) ≤ 2 ^ 250 := Nat.pow_le_pow_right (by decide) (by decide)
    omega
  · rw [step] at hp
    exact q p _ s2 hp
/-! next_choices -/
def spNext : Sp := fun vs H Q _ => ∃ (ld : Addr) (rs : List V) (ds : List (Nat × Nat)), vs = [.ref ld] ∧ H ld = some (.lst rs) ∧ Drs H rs ds ∧ ds.length ≤ 100 ∧ (nextc ds = none → Q .non H) ∧ ∀ cs, nextc ds = some cs → ∀ l H', Same H H' → H' l = some (.lst (cs.map fun c => V.int (c : Nat))) → Q (.ref l) H'
abbrev n_next_choices : List Str := ["draws", "at", "choice", "many", "one", "_"]
theorem sc_next_choices : FnScope n_next_choices ["draws"] (defScope s_next_choices) := ⟨rfl, rfl, rfl, by decide +kernel, rfl, by decide +kernel, by decide +kernel⟩
theorem c_next_choices (T : Tx w K mg) : C8.Cal P w K mg base 1 "next_choices" spNext [] := by
  obtain ⟨fd, F⟩ := T.f_next_choices
  refine calD F T.g_next_choices (F.bindsN fun _ _ _ _ _ _ us hl => match us, hl with | [_], _ => rfl) sc_next_choices (fun vs H Q E h => ?_) (fun cdv A outer s H vs Q E hr h => ?_)
  · obtain ⟨ld, rs, ds, rfl, _⟩ := h
    rfl
  obtain ⟨ld, rs, ds, rfl, hl, dr, hds, q1, q2⟩ := h
  refine ⟨_, (pss_cons (ps_for PassesOwn.never rfl (pi_revR rfl T.n_reversed (prg_1 rfl T.n_range (pe_callB call_len_seq (by rfl) T.n_len PySem.boot_len (pa_cons (pv 0) pa_nil)))) (pg_name (i := 1) sc_next_choices.nd rfl (Or.inl rfl))
    (pss_cons (ps_asg (pe_ix (r := rIxL K) ix_list (pv 0) (pv 1) (fun _ _ => rfl)) (pg_tup (by rfl) (pgs_cons (pg_name (i := 2) sc_next_choices.nd rfl (Or.inl rfl)) (pgs_cons (pg_name (i := 3) sc_next_choices.nd rfl (Or.inl rfl)) pgs_nil))))
    (pss_one (ps_if (pt_cmpR op_lt (pe_op op_add (pv 2) pe_int) (pv 3) (nomark _)) (pss_one (ps_ret (pe_op op_cat (pe_lc (own := [("one", 4), ("_", 5)]) (tt := tYes) rfl sc_next_choices.nd (pi_list (pe_slice sl_list (pv 0) po_none (po_some (pv 1)))) (blkOk_by (own := [("one", 4), ("_", 5)]) (N := n_next_choices) (sc := defScope s_next_choices) (by decide +kernel)) (fun _ _ _ _ _ => (show PG _ _ (gTup K 2 (gCons (gName 4) (gCons (gName 5) gNil))) from pg_tup (by rfl) (pgs_cons (pg_name (i := 4) sc_next_choices.nd rfl (Or.inl rfl)) (pgs_cons (pg_name (i := 5) sc_next_choices.nd rfl (Or.inl rfl)) pgs_nil)))) (fun _ _ _ _ _ => pts_nil) (fun _ _ _ _ _ => (pv 4))) (pe_lst (pa_cons (pe_op op_add (pv 2) pe_int) pa_nil))))) pss_nil))))
    (pss_one (ps_ret pe_non))), ?_⟩
  refine ⟨_, rfl, ld, _, rfl, .inl (SqL.of hl), _, rfl, ?_⟩
  have len0 : ((rs.length : Nat) : Int) - 0 = ((rs.length : Nat) : Int) := Int.sub_zero _
  refine ⟨by decide, by decide, by have := dr.1; omega, by have := dr.1; omega, ?_⟩
  refine for_rangeC (lo := 0 + (((((rs.length : Nat) : Int) - 0).toNat : Nat) : Int) - 1) (c := -1) (n := (((rs.length : Nat) : Int) - 0).toNat) (fun i σ H' => ∃ z1 z2 z3 : Option V, σ = [some (.ref ld), z1, z2, z3, none, none] ∧ H' = H ∧ nextc (ds.drop (ds.length - i)) = none) ⟨none, none, none, rfl, rfl, by rw [Nat.sub_zero, List.drop_length]; rfl⟩ ?_ ?_
  · rintro i σ H' hi ⟨z1, z2, z3, rfl, rfl, hn⟩
    rw [len0, Int.toNat_natCast] at hi ⊢
    have hi' : i < ds.length := by have := dr.1; omega
    obtain ⟨a, ha⟩ : ∃ a, ds.length = a + i + 1 := ⟨ds.length - i - 1, by omega⟩
    have hal : a < ds.length := by omega
    have har : a < rs.length := by have := dr.1; omega
    have ed : ds.drop a = ds[a] :: ds.drop (a + 1) := List.drop_eq_getElem_cons hal
    have e1 : ds.length - i = a + 1 := by omega
    rw [e1] at hn
    obtain ⟨q, eq, hq⟩ := dr.2 a _ _ (List.getElem?_eq_getElem har) (List.getElem?_eq_getElem hal)
    have eat : (0 + ((rs.length : Nat) : Int) - 1) + (i : Int) * -1 = (a : Int) := by have := dr.1; omega
    rw [eat]
    generalize ds[a] = d at ed hq
    obtain ⟨c, n⟩ := d
    refine ⟨_, rfl, _, rfl, ld, _, _, V.ref q, rfl, rfl, SqL.of hl, atI_nat (by rw [List.getElem?_eq_getElem har, eq]), ?_⟩
    refine ⟨q, _, rfl, SqT.of hq, rfl, _, _, rfl, ?_⟩
    refine ⟨_, _, rfl, ?_⟩
    refine ⟨rfl, ?_⟩
    refine ⟨_, rfl, _, _, rfl, rfl, _, rfl, _, _, rfl, rfl, _, rfl, ?_⟩
    have en : nextc (ds.drop a) = if c + 1 < n then some [c + 1] else none := by
      rw [ed]
      show (match nextc (ds.drop (a + 1)) with | some cs => some (c :: cs) | none => _) = _
      rw [hn]
    by_cases hc : c + 1 < n
    · refine ifY (by show (c : Int) + 1 < (n : Int); omega) ?_
      rw [if_pos hc] at en
      have e9 := nextc_drop a ds _ en
      refine ⟨_, rfl, _, rfl, _, rfl, ld, _, rfl, SqL.of hl, fun r hr0 => ?_⟩
      have ec : cutV rs none (some (a : Int)) = rs.take a := by
        unfold cutV
        rw [HT.sIx_none, HT.sIx_nat, List.drop_zero, Nat.sub_zero, Nat.min_eq_left (by omega)]
      rw [ec]
      have s1 := same_new hr0 (.lst (rs.take a))
      refine ⟨r, rfl, ⟨_, SqL.of upd_same⟩, fun D hD => ?_⟩
      refine lc_list (xs := rs.take a) (fun i H2 => Same (upd H' r (.lst (rs.take a))) H2 ∧ H2 D = some (.lst ((ds.take i).map fun d => V.int (d.1 : Nat)))) ⟨same_new hD _, upd_same⟩ (fun i H2 _ h => SqL.of (h.1 _ _ upd_same)) ?_ ?_
      · rintro j y H2 hj ⟨s2, hL⟩
        have hja : j < a := by
          have := (List.getElem?_eq_some_iff.mp hj).1
          rw [List.length_take] at this
          omega
        rw [List.getElem?_take_of_lt hja] at hj
        have hjd : j < ds.length := by omega
        obtain ⟨q2, rfl, hq2⟩ := dr.2 j _ _ hj (List.getElem?_eq_getElem hjd)
        refine ⟨q2, _, rfl, SqT.of (s2 _ _ (s1 _ _ hq2)), rfl, _, _, rfl, _, _, rfl, rfl, ?_⟩
        refine ⟨rfl, ?_⟩
        refine ⟨_, rfl, _, hL, ?_, same_put s2 hD _, ?_⟩
        · rw [List.length_map, List.length_take]
          exact lt1000 (by omega)
        · rw [upd_same, List.take_add_one, List.getElem?_eq_getElem hjd, List.map_append]
          rfl
      · rintro H2 ⟨s2, hL⟩
        rw [List.length_take, Nat.min_eq_left (by omega)] at hL
        refine ⟨_, rfl, _, _, rfl, rfl, by show 1 ≤ sizeLine; decide, fun D3 hD3 => ?_⟩
        have s3 := same_new hD3 (.lst [V.int ((c : Int) + 1)])
        refine ⟨D, D3, _, _, rfl, rfl, s3 _ _ hL, upd_same, ?_, fun D4 hD4 => ?_⟩
        · rw [List.length_map, List.length_take]
          exact line1000 (by simp only [List.length_cons, List.length_nil]; omega)
        refine q2 _ e9 D4 _ (s1.trans (s2.trans (s3.trans (same_new hD4 _)))) ?_
        rw [upd_same, List.map_append, List.map_map]
        rfl
    · refine ifN (by show ¬ (c : Int) + 1 < (n : Int); omega) ?_
      rw [if_neg hc] at en
      refine ⟨some (.int (a : Int)), some (.int (c : Nat)), some (.int (n : Nat)), rfl, rfl, ?_⟩
      rw [show ds.length - (i + 1) = a by omega]
      exact en
  · rintro σ H' ⟨z1, z2, z3, rfl, rfl, hn⟩
    rw [len0, Int.toNat_natCast, dr.1, Nat.sub_self, List.drop_zero] at hn
    exact q1 hn
end
end Bk

set_option Elab.async false
set_option linter.all false
set_option maxRecDepth 100000
set_option maxHeartbeats 4000000
namespace Bk
open PySem PySem.Spec PyProof.Rows L2
section
variable {P : Program} {w : World} {K : PySem.W.Frag} {mg : Str → Option Value} {base : Heap}
def wyF (N : Nat) (aw : Addr) : List (Str × V) := [("most", .int 300000), ("many", .int (N : Nat)), ("won", .ref aw)]
theorem PlayAt.kt {H H' : Hp} {y : Addr} {r : List (Nat × Nat) × Bits} (h : PlayAt K H y r) {a c : Addr} (b : But2 a c H H') (hy : y ≠ a ∧ y ≠ c) (ha : (∀ xs, H a ≠ some (.tup xs)) ∧ ∀ xs, H a ≠ some (.lst xs)) (hc : (∀ xs, H c ≠ some (.tup xs)) ∧ ∀ xs, H c ≠ some (.lst xs)) : PlayAt K H' y r := by
  obtain ⟨dy, s, ld, la, rs, h1, h2, h3⟩ := h
  exact ⟨dy, s, ld, la, rs, b _ _ hy.1 hy.2 h1, b _ _ (fun z => ha.2 _ (z ▸ h2)) (fun z => hc.2 _ (z ▸ h2)) h2, h3.kt (b.kt ha.1 hc.1)⟩
def spCount (K : PySem.W.Frag) : Sp := fun vs H Q _ => ∃ (x dx y aw : Addr) (N : Nat) (r : List (Nat × Nat) × Bits) (c : Cnt), vs = [.ref x, .ref y] ∧ H x = some (.ins (He.ga K "Ways") dx (wyF N aw)) ∧ N < 300000 ∧ PlayAt K H y r ∧ y ≠ x ∧ (∀ q ∈ r.1, q.2 ≤ 300000) ∧ H aw = some (.dK (cntD c)) ∧ Keys c ∧ c.length ≤ 1000000 ∧
  ∀ H', But2 x aw H H' → H' x = some (.ins (He.ga K "Ways") dx (wyF (N + 1) aw)) → H' aw = some (.dK (cntD (stepW c (r.1, isOne r.2)))) → Q .non H'
theorem prodD_take {ds : List (Nat × Nat)} {i : Nat} {d : Nat × Nat} (h : ds[i]? = some d) : prodD (ds.take (i + 1)) = prodD (ds.take i) * d.2 := by
  rw [List.take_add_one, h]
  unfold prodD
  rw [List.foldl_append]
  rfl
abbrev n_Ways_count : List Str := ["self", "play", "under", "_", "many"]
theorem sc_Ways_count : FnScope n_Ways_count ["self", "play"] (defScope s_Ways_count) := ⟨rfl, rfl, rfl, by decide +kernel, rfl, by decide +kernel, by decide +kernel⟩
theorem c_count (T : Tx w K mg) : C8.Met P w K mg base 1 (He.ga K "Ways") "count" (spCount K) [] := by
  obtain ⟨fd, F⟩ := T.f_Ways_count
  refine metD T.k_Ways T.m_Ways_count F (F.bindsN fun _ _ _ _ _ _ us hl => match us, hl with | [_, _], _ => rfl) sc_Ways_count (fun vs H Q E h => ?_) (fun cdv A outer s H vs Q E hr h => ?_)
  · obtain ⟨x, dx, y, aw, N, r, c, rfl, _⟩ := h
    rfl
  obtain ⟨x, dx, y, aw, N, r, c, rfl, hx, hN, ⟨dy, sd, ld, la, rs, hy, hld, dr⟩, nyx, hr300, haw, hk, hlc, q⟩ := h
  refine ⟨_, (pss_cons (ps_fldaug (pv 0) pe_int in_add)
    (pss_cons (ps_set (i := 2) sc_Ways_count.nd rfl (Or.inl rfl) pe_int)
    (pss_cons (ps_for PassesOwn.never rfl (pi_list (pe_fld (pv 1) rfl)) (pg_tup (by rfl) (pgs_cons (pg_name (i := 3) sc_Ways_count.nd rfl (Or.inl rfl)) (pgs_cons (pg_name (i := 4) sc_Ways_count.nd rfl (Or.inl rfl)) pgs_nil)))
    (pss_cons (ps_if (pt_cmpR op_gt (pv 4) (pe_fld (pv 0) rfl) (nomark _)) (pss_one ps_never) pss_nil)
    (pss_one (ps_set (i := 2) sc_Ways_count.nd rfl (Or.inl rfl) (pe_op op_mul (pv 2) (pv 4))))))
    (pss_cons (ps_if (pt_cmpR op_gt (pe_fld (pv 0) rfl) (pe_fld (pv 0) rfl) (nomark _)) (pss_one ps_never) pss_nil)
    (pss_one (ps_if (pt_cmpR op_eq (pe_fld (pv 1) rfl) pe_int (nomark _)) (pss_one (ps_dput (hu_of hr) (pe_fld (pv 0) rfl) (pv 2) (pe_op op_add (pe_dget2 (hu_of hr) (pe_fld (pv 0) rfl) (pv 2) pe_int ⟨rfl, by rfl, rfl, rfl⟩) pe_int) rfl)) pss_nil)))))), ?_⟩
  refine ⟨_, rfl, x, _, _, _, _, rfl, hx, T.k_Ways, T.a_Ways_many, rfl, _, _, rfl, rfl, dx, _, hx, by show 3 < 1000; decide, ?_⟩
  have wx : aw ≠ x := ne_of haw hx (by intro z; cases z)
  have nlx : ld ≠ x := ne_of hld hx (by intro z; cases z)
  have b1 : But x H (upd H x (.ins (He.ga K "Ways") dx (wyF (N + 1) aw))) := (But.refl x H).upd _
  have hx1 : upd H x (.ins (He.ga K "Ways") dx (wyF (N + 1) aw)) x = some (.ins (He.ga K "Ways") dx (wyF (N + 1) aw)) := upd_same
  have k1 : Kt H (upd H x (.ins (He.ga K "Ways") dx (wyF (N + 1) aw))) := b1.kt2 fun xs e => by rw [hx] at e; cases e
  have ep : putF "many" (V.int ((N : Int) + 1)) (wyF N aw) = wyF (N + 1) aw := rfl
  rw [ep]
  revert b1 hx1 k1
  generalize upd H x (.ins (He.ga K "Ways") dx (wyF (N + 1) aw)) = H1
  intro b1 hx1 k1
  have hy1 := b1 _ _ nyx hy
  have hld1 := b1 _ _ nlx hld
  have haw1 := b1 _ _ wx haw
  have dr1 := dr.kt k1
  refine ⟨_, rfl, y, _, _, _, _, rfl, hy1, T.k_Play, T.a_Play_draws, rfl, ld, rfl, ⟨_, SqL.of hld1⟩, ?_⟩
  refine for_list (xs := rs) (fun i σ H' => ∃ z1 z2 : Option V, σ = [some (.ref x), some (.ref y), some (.int (prodD (r.1.take i) : Nat)), z1, z2] ∧ H' = H1) ⟨none, none, rfl, rfl⟩ (fun i σ H' _ h => by obtain ⟨_, _, _, rfl⟩ := h; exact SqL.of hld1) ?_ ?_
  · rintro i v σ H' hi ⟨z1, z2, rfl, rfl⟩
    have hir : i < r.1.length := by
      rw [← dr.1]
      exact (List.getElem?_eq_some_iff.mp hi).1
    have hgd := List.getElem?_eq_getElem hir
    obtain ⟨q2, rfl, hq2⟩ := dr1.2 i _ _ hi hgd
    have h3 := hr300 _ (List.getElem_mem hir)
    generalize r.1[i] = d at hgd hq2 h3
    refine ⟨q2, _, rfl, SqT.of hq2, rfl, _, _, rfl, _, _, rfl, rfl, ?_⟩
    refine ⟨_, rfl, _, rfl, x, _, _, _, _, rfl, hx1, T.k_Ways, T.a_Ways_most, rfl, _, _, rfl, rfl, _, rfl, ifN (by show ¬ (300000 : Int) < (d.2 : Nat); omega) ?_⟩
    refine ⟨_, rfl, _, rfl, _, _, rfl, rfl, .inr ⟨by omega, by omega⟩, ?_⟩
    refine ⟨some (.int (d.1 : Nat)), some (.int (d.2 : Nat)), ?_, rfl⟩
    rw [prodD_take hgd, Int.natCast_mul]
    rfl
  · rintro σ H' ⟨z1, z2, rfl, rfl⟩
    rw [dr.1, List.take_length]
    refine ⟨_, rfl, x, _, _, _, _, rfl, hx1, T.k_Ways, T.a_Ways_many, rfl, _, rfl, x, _, _, _, _, rfl, hx1, T.k_Ways, T.a_Ways_most, rfl, _, _, rfl, rfl, _, rfl, ifN (by show ¬ (300000 : Int) < ((N + 1 : Nat) : Int); omega) ?_⟩
    refine ⟨_, rfl, y, _, _, _, _, rfl, hy1, T.k_Play, T.a_Play_outcome, rfl, rfl, _, rfl, ?_⟩
    cases ho : isOne r.2 with
    | true =>
      refine ifY rfl ?_
      refine ⟨_, rfl, x, _, _, _, _, rfl, hx1, T.k_Ways, T.a_Ways_won, rfl, aw, rfl, .inl ⟨_, .inl haw1⟩, _, rfl, _, DGet.k (k := .inl ((prodD r.1 : Nat) : Int)) haw1, ?_⟩
      refine ⟨(((look c (prodD r.1)).getD 0 : Nat) : Int), 1, ?_, rfl, _, rfl, x, _, _, _, _, rfl, hx1, T.k_Ways, T.a_Ways_won, rfl, _, rfl, aw, _, rfl, d_put (k := .inl ((prodD r.1 : Nat) : Int)) haw1 (by rw [cnt_len]; exact million hlc) (cnt_put hk _), ?_⟩
      · rw [cnt_val]
        cases look c (prodD r.1) <;> rfl
      · refine q _ ((But2.l b1).trans (.r ((But.refl aw _).upd _))) ?_ ?_
        · rw [upd_ne wx.symm]
          exact hx1
        · rw [upd_same, ho]
          rfl
    | false =>
      refine ifN (by show ¬ V.int 0 = V.int 1; decide) ?_
      refine q _ (.l b1) hx1 ?_
      rw [ho]
      exact haw1
end
end Bk

set_option Elab.async false
set_option linter.all false
set_option maxRecDepth 100000
set_option maxHeartbeats 4000000
namespace Bk
open PySem PySem.Spec PyProof.Rows L2
/-- what Ways counts, path by path -/
def stepP (c : Cnt) (p : List (Nat × Nat) × Bits) : Cnt := stepW c (p.1, isOne p.2)
theorem stepP_fold (l : List (List (Nat × Nat) × Bits)) (c : Cnt) : l.foldl stepP c = (l.map fun p => (p.1, isOne p.2)).foldl stepW c := by
  rw [List.foldl_map]
  rfl
theorem stepP_Keys {l : List (List (Nat × Nat) × Bits)} {c : Cnt} (h : Keys c) : Keys (l.foldl stepP c) := by
  rw [stepP_fold]
  exact (foldW (D := 1) h).1
theorem stepW_len (c : Cnt) (p : List (Nat × Nat) × Bool) : (stepW c p).length ≤ c.length + 1 := by
  unfold stepW
  split
  · exact note_len _ _
  · omega
theorem stepP_len : ∀ (l : List (List (Nat × Nat) × Bits)) (c : Cnt), (l.foldl stepP c).length ≤ c.length + l.length
  | [], c => Nat.le_refl _
  | p :: r, c => by
    have := stepP_len r (stepP c p)
    have h2 := stepW_len c (p.1, isOne p.2)
    show (r.foldl stepP (stepP c p)).length ≤ _
    simp only [List.length_cons]
    unfold stepP at this ⊢
    omega
section
variable {P : Program} {w : World} {K : PySem.W.Frag} {mg : Str → Option Value} {base : Heap}
def spWaysI (K : PySem.W.Frag) : Sp := fun vs H Q _ => ∃ (x dx g p : Addr) (H0 : Hp) (v : V) (n m : Nat) (rows : List Bits) (real : Bool) (tr : Bits → Tr Bits), vs = [.ref x, .ref g, v, .int 300000] ∧ H = newI H0 x dx (He.ga K "Ways") ∧ H0 x = none ∧ H0 dx = none ∧ dx ≠ x ∧ GameAt H0 g p real ∧ GenV H0 p n m rows ∧ GenB n m rows ∧ m ≤ 9 ∧ Bkr H0 v m tr ∧
  (gTree real n m rows tr).Ok 512 10 ∧ (gTree real n m rows tr).paths.length ≤ 200000 ∧ ∀ aw N H', Same H0 H' → H' x = some (.ins (He.ga K "Ways") dx (wyF N aw)) → H' aw = some (.dK (cntD ((gTree real n m rows tr).paths.foldl stepP []))) → Q .non H'
abbrev n_Ways__init : List Str := ["self", "game", "breaker", "most", "choices", "play"]
theorem sc_Ways__init : FnScope n_Ways__init ["self", "game", "breaker", "most"] (defScope s_Ways__init) := ⟨rfl, rfl, rfl, by decide +kernel, rfl, by decide +kernel, by decide +kernel⟩
theorem k_Ways (T : Tx w K mg) : C8.Mak P w K mg base 8 "Ways" (He.ga K "Ways") (spWaysI K) [] := by
  obtain ⟨fd, F⟩ := T.f_Ways__init
  refine makD T.mk_Ways T.g_Ways F (F.bindsN fun _ _ _ _ _ _ us hl => match us, hl with | [_, _, _, _], _ => rfl) sc_Ways__init (fun vs H Q E h => ?_) (fun cdv A outer s H vs Q E hr h => ?_)
  · obtain ⟨x, dx, g, p, H0, v, n, m, rows, real, tr, rfl, _⟩ := h
    rfl
  obtain ⟨x, dx, g, p, H0, v, n, m, rows, real, tr, rfl, rfl, hx, hd, ne, hg, gv, gb, hm, hb, ok, hlen, q⟩ := h
  have s0 := newI_same (C := He.ga K "Ways") hx hd ne
  generalize ht : gTree real n m rows tr = t at ok hlen q
  refine ⟨_, (pss_cons (ps_fld (pv 0) (pv 3) rfl)
    (pss_cons (ps_fld (pv 0) pe_int rfl)
    (pss_cons (ps_fld (pv 0) pe_dnewK rfl)
    (pss_cons (ps_set (i := 4) sc_Ways__init.nd rfl (Or.inl rfl) (pe_lst pa_nil))
    (pss_one (ps_while PassesOwn.never (pt_cmpR op_notN (pv 4) pe_non (nomark _))
    (pss_cons (ps_set (i := 5) sc_Ways__init.nd rfl (Or.inl rfl) (C8.pe_c (c_played T) hr (by omega) rfl (pa_cons (pv 1) (pa_cons (pv 2) (pa_cons (pv 4) pa_nil)))))
    (pss_cons (ps_expr (C8.pe_mt (c_count T) hr (by omega) (pv 0) (pa_cons (pv 5) pa_nil)))
    (pss_one (ps_set (i := 4) sc_Ways__init.nd rfl (Or.inl rfl) (C8.pe_c (c_next_choices T) hr (by omega) rfl (pa_cons (pe_fld (pv 5) rfl) pa_nil)))))))))))), ?_⟩
  refine ⟨_, rfl, _, rfl, x, _, _, _, rfl, newI_at, T.k_Ways, T.a_Ways_most, by show 0 < 1000; decide, ?_⟩
  refine ⟨_, rfl, x, _, _, _, rfl, upd_same, T.k_Ways, T.a_Ways_many, by show 1 < 1000; decide, ?_⟩
  rw [upd_upd]
  intro aw haw
  have awx : aw ≠ x := fun z => by rw [z, upd_same] at haw; cases haw
  refine ⟨_, rfl, x, _, _, _, rfl, (by rw [upd_ne awx.symm, upd_same]), T.k_Ways, T.a_Ways_won, by show 2 < 1000; decide, ?_⟩
  refine ⟨Nat.zero_le _, fun l hl => ?_⟩
  have haw0 : H0 aw = none := by
    rw [upd_ne awx] at haw
    cases e : H0 aw with
    | none => rfl
    | some o => rw [s0 _ _ e] at haw; cases haw
  have lx : l ≠ x := fun z => by rw [z, upd_same] at hl; cases hl
  have law : l ≠ aw := fun z => by rw [z, upd_ne awx, upd_same] at hl; cases hl
  obtain ⟨pr, er⟩ := Tr.paths_head ok
  refine ⟨fun k σ H' => ∃ (z : Option V) (N : Nat) (c : Cnt) (ch : V), σ = [some (.ref x), some (.ref g), some v, some (.int 300000), some ch, z] ∧ Same H0 H' ∧ H' x = some (.ins (He.ga K "Ways") dx (wyF N aw)) ∧ H' aw = some (.dK (cntD c)) ∧
    ((k = 0 ∧ ch = .non ∧ c = t.paths.foldl stepP []) ∨ (∃ pre p suf cs l, t.paths = pre ++ p :: suf ∧ k = suf.length + 1 ∧ ch = .ref l ∧ H' l = some (.lst (cs.map fun c => V.int (c : Nat))) ∧ t.run cs = p ∧ t.Fits cs ∧ cs.length ≤ 200 ∧ N = pre.length ∧ c = pre.foldl stepP [])), ⟨pr.length + 1, none, 0, [], .ref l, rfl, ?_, ?_, ?_, .inr ⟨[], _, pr, [], l, er, rfl, rfl, upd_same, rfl, Tr.run_nil_fits ok, Nat.zero_le _, rfl, rfl⟩⟩, ?_⟩
  · intro b o e
    have b1 : b ≠ x := ne_of_none e hx
    have b2 : b ≠ aw := ne_of_none e haw0
    have e9 := s0 _ _ e
    have b3 : b ≠ l := fun z => by
      rw [← z, upd_ne b1, upd_ne b2, upd_ne b1, e9] at hl
      cases hl
    rw [upd_ne b3, upd_ne b1, upd_ne b2, upd_ne b1]
    exact e9
  · rw [upd_ne lx.symm, upd_same]
    rfl
  · rw [upd_ne law.symm, upd_ne awx, upd_same]
    rfl
  rintro k σ H' ⟨z, N, c, ch, rfl, s1, hx1, haw1, hst⟩
  refine ⟨_, rfl, rfl, _, rfl, ?_⟩
  rcases hst with ⟨rfl, rfl, rfl⟩ | ⟨pre, pp, suf, cs, l, ep, rfl, rfl, hl1, erun, fits, hcs, rfl, rfl⟩
  · exact q aw N H' s1 hx1 haw1
  · have hpl : pre.length + suf.length + 1 ≤ 200000 := by
      rw [ep, List.length_append, List.length_cons] at hlen
      omega
    refine ⟨fun σ' H2 => ∃ k', k' < suf.length + 1 ∧ ∃ (z : Option V) (N : Nat) (c : Cnt) (ch : V), σ' = [some (.ref x), some (.ref g), some v, some (.int 300000), some ch, z] ∧ Same H0 H2 ∧ H2 x = some (.ins (He.ga K "Ways") dx (wyF N aw)) ∧ H2 aw = some (.dK (cntD c)) ∧
    ((k' = 0 ∧ ch = .non ∧ c = t.paths.foldl stepP []) ∨ (∃ pre p suf cs l, t.paths = pre ++ p :: suf ∧ k' = suf.length + 1 ∧ ch = .ref l ∧ H2 l = some (.lst (cs.map fun c => V.int (c : Nat))) ∧ t.run cs = p ∧ t.Fits cs ∧ cs.length ≤ 200 ∧ N = pre.length ∧ c = pre.foldl stepP [])), fun _ _ h => h, ?_⟩
    have pl := Tr.path_len ok pp (by rw [ep]; exact List.mem_append_right _ List.mem_cons_self)
    rw [← ht] at erun fits
    refine ⟨_, rfl, _, rfl, _, rfl, g, p, l, v, n, m, rows, real, tr, cs, rfl, s1 _ _ hg, gv.same s1, gb, hm, hb.kt (.of s1), hl1, hcs, fits, fun y H2 s2 hy => ?_⟩
    rw [erun] at hy
    have hx2 := s2 _ _ hx1
    have haw2 := s2 _ _ haw1
    have yx : y ≠ x := fun z => by
      obtain ⟨_, _, _, _, _, e, _⟩ := hy
      rw [z, hx2] at e
      have := Option.some.inj e
      injection this with _ _ e3
      injection e3 with e4
      injection e4 with e5
      exact absurd e5 (by decide +kernel)
    have yaw : y ≠ aw := fun z => by
      obtain ⟨_, _, _, _, _, e, _⟩ := hy
      rw [z, haw2] at e
      cases e
    refine ⟨_, rfl, x, _, _, rfl, hx2, rfl, _, rfl, x, dx, y, aw, pre.length, pp, pre.foldl stepP [], rfl, hx2, by omega, hy, yx, fun d hd => by have := (pl.2 d hd).2; omega, haw2, stepP_Keys (c := []) List.nodup_nil, ?_, fun H3 b3 hx3 haw3 => ?_⟩
    · have := stepP_len pre []
      simp only [List.length_nil] at this
      omega
    have hy3 := hy.kt b3 ⟨yx, yaw⟩ ⟨fun xs e => (by rw [hx2] at e; cases e), fun xs e => (by rw [hx2] at e; cases e)⟩ ⟨fun xs e => (by rw [haw2] at e; cases e), fun xs e => (by rw [haw2] at e; cases e)⟩
    have s3 : Same H0 H3 := fun b o e => b3 _ _ (ne_of_none e hx) (ne_of_none e haw0) (s2 _ _ (s1 _ _ e))
    obtain ⟨dy, sd, ld, la, rs, e1, e2, e3⟩ := hy3
    have nx := Tr.next_ok ok pre pp suf ep
    have ecs : stepW (pre.foldl stepP []) (pp.1, isOne pp.2) = (pre ++ [pp]).foldl stepP [] := by
      rw [List.foldl_append]
      rfl
    rw [ecs] at haw3
    have epp : t.paths = (pre ++ [pp]) ++ suf := by
      rw [ep, List.append_assoc]
      rfl
    refine ⟨_, rfl, y, _, _, _, _, rfl, e1, T.k_Play, T.a_Play_draws, rfl, ld, rs, pp.1, rfl, e2, e3, by have := pl.1; omega, fun hn => ?_, fun cs2 hn l2 H4 s4 hl2 => ?_⟩
    · cases suf with
      | nil =>
        rw [List.append_nil] at epp
        exact ⟨0, by omega, some (.ref y), pre.length + 1, _, .non, rfl, s3, hx3, haw3, .inl ⟨rfl, rfl, by rw [epp]⟩⟩
      | cons p2 suf =>
        obtain ⟨cs3, h3, _⟩ := nx
        rw [hn] at h3
        cases h3
    · cases suf with
      | nil =>
        have nx : nextc pp.1 = none := nx
        rw [hn] at nx
        cases nx
      | cons p2 suf =>
        obtain ⟨cs3, h3, h4, h5⟩ := nx
        rw [hn] at h3
        cases h3
        refine ⟨suf.length + 1, by simp only [List.length_cons]; omega, some (.ref y), pre.length + 1, _, .ref l2, rfl, s3.trans s4, s4 _ _ hx3, s4 _ _ haw3, .inr ⟨pre ++ [pp], p2, suf, cs2, l2, epp, rfl, rfl, hl2, h4, h5, ?_, ?_, rfl⟩⟩
        · have := nextc_len _ _ hn
          have := pl.1
          omega
        · rw [List.length_append]
          rfl
def spWChance (K : PySem.W.Frag) : Sp := fun vs H Q _ => ∃ (x dx aw : Addr) (N : Nat) (c : Cnt) (D : Nat), vs = [.ref x] ∧ H x = some (.ins (He.ga K "Ways") dx (wyF N aw)) ∧ H aw = some (.dK (cntD c)) ∧ Good D c ∧ c.length < 64 ∧ 0 < D ∧ D < 2 ^ 60 ∧ wsum D c < 2 ^ 150 ∧ ∀ p H', Same H H' → FrAt H' p (wsum D c : Nat) D → Q (.ref p) H'
theorem sm_wsum {D : Nat} {c : Cnt} (h : Keys c) : sm (c.map fun q => ((q.1 : Nat) : Int)) (fun k => (look c k.toNat).getD 0 * (D / k.toNat)) = wsum D c := by
  rw [sm_map]
  unfold wsum sm
  congr 1
  refine List.map_congr_left fun q hq => ?_
  show (look c ((q.1 : Nat) : Int).toNat).getD 0 * (D / ((q.1 : Nat) : Int).toNat) = _
  rw [Int.toNat_natCast, look_mem h (v := q.2) hq]
  rfl
theorem sm_le_mem {α : Type} (f : α → Nat) : ∀ {l : List α} {a : α}, a ∈ l → f a ≤ sm l f
  | b :: r, a, h => by
    rw [sm_cons]
    rcases List.mem_cons.mp h with rfl | h
    · omega
    · have := sm_le_mem f h
      omega
theorem sm_take_le {α : Type} (f : α → Nat) (l : List α) (i : Nat) : sm (l.take i) f ≤ sm l f := by
  have := sm_append (l.take i) (l.drop i) f
  rw [List.take_append_drop] at this
  omega
abbrev n_Ways_chance : List Str := ["self", "total", "under"]
theorem sc_Ways_chance : FnScope n_Ways_chance ["self"] (defScope s_Ways_chance) := ⟨rfl, rfl, rfl, by decide +kernel, rfl, by decide +kernel, by decide +kernel⟩
theorem c_Ways_chance (T : Tx w K mg) : C8.Met P w K mg base 3 (He.ga K "Ways") "chance" (spWChance K) [] := by
  obtain ⟨fd, F⟩ := T.f_Ways_chance
  refine metD T.k_Ways T.m_Ways_chance F (F.bindsN fun _ _ _ _ _ _ us hl => match us, hl with | [_], _ => rfl) sc_Ways_chance (fun vs H Q E h => ?_) (fun cdv A outer s H vs Q E hr h => ?_)
  · obtain ⟨x, dx, aw, N, c, D, rfl, _⟩ := h
    rfl
  obtain ⟨x, dx, aw, N, c, D, rfl, hx, haw, gd, h64, hD, hD2, hT, q⟩ := h
  have hsum := sm_wsum (D := D) gd.keys
  refine ⟨_, (pss_cons (ps_set (i := 1) sc_Ways_chance.nd rfl (Or.inl rfl) (pe_tup (pa_cons pe_int (pa_cons pe_int pa_nil))))
    (pss_cons (ps_for PassesOwn.never rfl (pi_list (pe_callB (call_sortedDI rfl) (by rfl) T.n_sorted (by decide +kernel) (pa_cons (pe_fld (pv 0) rfl) pa_nil))) (pg_name (i := 2) sc_Ways_chance.nd rfl (Or.inl rfl))
    (pss_one (ps_set (i := 1) sc_Ways_chance.nd rfl (Or.inl rfl) (C8.pe_c (c_add T) hr (by omega) rfl (pa_cons (pv 1) (pa_cons (C8.pe_c (c_fraction T) hr (by omega) rfl (pa_cons (pe_dget (hu_of hr) (pe_fld (pv 0) rfl) (pv 2) (fun _ _ => rfl)) (pa_cons (pv 2) pa_nil))) pa_nil))))))
    (pss_one (ps_ret (pv 1))))), ?_⟩
  refine ⟨by show 2 ≤ sizeLine; decide, fun p0 hp0 => ?_⟩
  have s1 := same_new hp0 (.tup [V.int 0, V.int 1])
  have f0 : FrAt (upd H p0 (.tup [V.int 0, V.int 1])) p0 0 D := by
    unfold FrAt
    rw [nrm_zero hD]
    exact upd_same
  revert s1 f0
  generalize upd H p0 (.tup [V.int 0, V.int 1]) = H1
  intro s1 f0
  refine ⟨_, rfl, x, _, _, _, _, rfl, s1 _ _ hx, T.k_Ways, T.a_Ways_won, rfl, aw, cntD c, c.map (fun q => ((q.1 : Nat) : Int)), rfl, .inl (s1 _ _ haw), ?_, by rw [List.length_map]; exact h64, fun ys pl perm srt hpl => ?_⟩
  · unfold cntD
    rw [List.map_map, List.map_map]
    rfl
  have hsy := sm_perm (fun k : Int => (look c k.toNat).getD 0 * (D / k.toNat)) perm
  rw [hsum] at hsy
  have s2 := same_new hpl (.lst (ys.map V.int))
  have hys : upd H1 pl (.lst (ys.map V.int)) pl = some (.lst (ys.map V.int)) := upd_same
  have f1 := f0.same s2
  revert s2 hys f1
  generalize upd H1 pl (.lst (ys.map V.int)) = H2
  intro s2 hys f1
  refine ⟨pl, rfl, ⟨_, SqL.of hys⟩, ?_⟩
  refine for_list (xs := ys.map V.int) (fun i σ H' => ∃ (pt : Addr) (z : Option V), σ = [some (.ref x), some (.ref pt), z] ∧ Same H2 H' ∧ FrAt H' pt (sm (ys.take i) (fun k : Int => (look c k.toNat).getD 0 * (D / k.toNat)) : Nat) D) ⟨p0, none, rfl, Same.refl _, f1⟩ (fun i σ H' _ h => by obtain ⟨_, _, _, s, _⟩ := h; exact SqL.of (s _ _ hys)) ?_ ?_
  · rintro i v σ H' hi ⟨pt, z, rfl, s3, ft⟩
    rw [List.getElem?_map] at hi
    cases hyi : ys[i]? with
    | none =>
      rw [hyi] at hi
      cases hi
    | some k =>
      rw [hyi] at hi
      have hi : V.int k = v := Option.some.inj hi
      subst hi
      have hkm : k ∈ c.map (fun q => ((q.1 : Nat) : Int)) := perm.mem_iff.mp (List.mem_of_getElem? hyi)
      obtain ⟨qq, hqq, rfl⟩ := List.mem_map.mp hkm
      obtain ⟨kk, vv⟩ := qq
      have hlk : look c kk = some vv := look_mem gd.keys hqq
      have dv : kk ∣ D := gd.dvd _ hqq
      have hk0 : 0 < kk := by
        rcases Nat.eq_zero_or_pos kk with z | z
        · rw [z] at dv
          have := Nat.eq_zero_of_zero_dvd dv
          omega
        · exact z
      have kD : kk ≤ D := Nat.le_of_dvd hD dv
      have lk : valV (cntD c) (.inl (kk : Int)) = some (V.int (vv : Int)) := by
        rw [cnt_val, hlk]
        rfl
      have haw' := s3 _ _ (s2 _ _ (s1 _ _ haw))
      have hx' := s3 _ _ (s2 _ _ (s1 _ _ hx))
      have term : (look c (((kk : Nat) : Int)).toNat).getD 0 * (D / (((kk : Nat) : Int)).toNat) = vv * (D / kk) := by
        rw [Int.toNat_natCast, hlk]
        rfl
      have le1 := sm_le_mem (fun k : Int => (look c k.toNat).getD 0 * (D / k.toNat)) (List.mem_of_getElem? hyi)
      have le1 : vv * (D / kk) ≤ wsum D c := by rw [← hsy, ← term]; exact le1
      have le2 := sm_take_le (fun k : Int => (look c k.toNat).getD 0 * (D / k.toNat)) ys i
      rw [hsy] at le2
      have vb : vv < 2 ^ 150 := by
        have hq : 1 ≤ D / kk := Nat.div_pos kD hk0
        have : vv ≤ vv * (D / kk) := Nat.le_mul_of_pos_right _ hq
        omega
      have c1 : (2 : Nat) ^ 150 ≤ 2 ^ 250 := Nat.pow_le_pow_right (by decide) (by decide)
      have c2 : (2 : Nat) ^ 60 ≤ 2 ^ 250 := Nat.pow_le_pow_right (by decide) (by decide)
      refine ⟨_, rfl, _, rfl, x, _, _, _, _, rfl, hx', T.k_Ways, T.a_Ways_won, rfl, _, rfl, aw, _, rfl, d_get haw' lk, _, rfl, (vv : Int), kk, rfl, hk0, by rw [Int.natAbs_natCast]; omega, by omega, fun pf H3 s4 hf => ?_⟩
      have fe : nrm ((vv : Nat) : Int) kk = nrm ((vv * (D / kk) : Nat) : Int) D := by
        obtain ⟨qd, hqd⟩ := dv
        have eD : D / kk = qd := by rw [hqd, Nat.mul_div_cancel_left _ hk0]
        refine nrm_cross hk0 hD ?_
        rw [eD, Int.natCast_mul]
        have : (D : Int) = (kk : Int) * (qd : Int) := by rw [hqd, Int.natCast_mul]
        rw [this]
        simp only [Int.mul_assoc, Int.mul_comm, Int.mul_left_comm]
      rw [fe] at hf
      refine ⟨pt, pf, _, _, D, rfl, ft.same s4, hf, hD, hD2, by rw [Int.natAbs_natCast]; omega, by rw [Int.natAbs_natCast]; omega, fun pn H4 s5 hn => ?_⟩
      refine ⟨pn, some (.int (kk : Int)), rfl, s3.trans (s4.trans s5), ?_⟩
      have e9 := sm_take (fun k : Int => (look c k.toNat).getD 0 * (D / k.toNat)) hyi
      rw [e9, term, Int.natCast_add]
      exact hn
  · rintro σ H' ⟨pt, z, rfl, s3, ft⟩
    rw [List.length_map, List.take_length, hsy] at ft
    exact ⟨_, rfl, q pt H' (s1.trans (s2.trans s3)) ft⟩
end
end Bk

set_option Elab.async false
set_option linter.all false
set_option maxRecDepth 100000
set_option maxHeartbeats 4000000
namespace Bk
open PySem PySem.Spec PyProof.Rows L2
theorem sum_le_mul (N : Nat) : ∀ l : List Nat, (∀ a ∈ l, a ≤ N) → l.sum ≤ l.length * N
  | [], _ => Nat.zero_le _
  | a :: r, h => by
    rw [List.sum_cons, List.length_cons, Nat.add_mul, Nat.one_mul]
    have := sum_le_mul N r fun b hb => h b (List.mem_cons_of_mem _ hb)
    have := h a List.mem_cons_self
    omega
theorem Tr.wt_le : ∀ (t : Tr Bool) (E : Nat), t.wt E ≤ E
  | .leaf o, E => by
    show (if o then E else 0) ≤ E
    split
    · exact Nat.le_refl _
    · exact Nat.zero_le _
  | .node n f, E => by
    show ((List.range n).map fun c => (f c).wt (E / n)).sum ≤ E
    have := sum_le_mul (E / n) ((List.range n).map fun c => (f c).wt (E / n)) fun a ha => by
      obtain ⟨c, _, rfl⟩ := List.mem_map.mp ha
      exact Tr.wt_le (f c) (E / n)
    rw [List.length_map, List.length_range] at this
    exact Nat.le_trans this (Nat.mul_div_le E n)
/-- what the draws of a play must be -/
structure PlayOk (t : Tr Bits) (D : Nat) : Prop where
  ok : t.Ok 512 10
  len : t.paths.length ≤ 200000
  few : ∃ L : List Nat, L.length < 64 ∧ ∀ p ∈ t.paths, prodD p.1 ∈ L
  dvd : ∀ p ∈ t.paths, prodD p.1 ∣ D
theorem PlayOk.cnt {t : Tr Bits} {D : Nat} (h : PlayOk t D) : Good D (t.paths.foldl stepP []) ∧ (t.paths.foldl stepP []).length < 64 ∧ wsum D (t.paths.foldl stepP []) = (win t).wt D := by
  have hk : Keys ([] : Cnt) := List.nodup_nil
  rw [stepP_fold]
  have em : ∀ j, j ∈ (((t.paths.map fun p => (p.1, isOne p.2)).foldl stepW [])).map (·.1) → ∃ p ∈ t.paths, j = prodD p.1 := fun j hj => by
    rcases foldW_mem hj with z | ⟨p, hp, _, e⟩
    · cases z
    · obtain ⟨p', hp', rfl⟩ := List.mem_map.mp hp
      exact ⟨p', hp', e⟩
  obtain ⟨k1, k2⟩ := foldW (D := D) (l := t.paths.map fun p => (p.1, isOne p.2)) hk
  refine ⟨⟨k1, fun q hq => ?_⟩, ?_, ?_⟩
  · obtain ⟨p, hp, e⟩ := em q.1 (List.mem_map.mpr ⟨q, hq, rfl⟩)
    rw [e]
    exact h.dvd p hp
  · obtain ⟨L, hL, hm⟩ := h.few
    have := nodup_len (L := L) k1 fun a ha => by
      obtain ⟨p, hp, e⟩ := em a ha
      rw [e]
      exact hm p hp
    rw [List.length_map] at this
    omega
  · rw [k2, ← Tr.wt_paths]
    unfold win
    rw [Tr.map_paths]
    show 0 + _ = _
    rw [Nat.zero_add]
/-- a game of a generator, and a breaker for it -/
structure GameB (H : Hp) (p : Addr) (v : V) (n m : Nat) (rows : List Bits) (tr : Bits → Tr Bits) : Prop where
  gen : GenV H p n m rows
  genB : GenB n m rows
  m9 : m ≤ 9
  br : Bkr H v m tr
theorem GameB.same {H H' : Hp} {p : Addr} {v : V} {n m : Nat} {rows : List Bits} {tr : Bits → Tr Bits} (g : GameB H p v n m rows tr) (s : Same H H') : GameB H' p v n m rows tr := ⟨g.gen.same s, g.genB, g.m9, g.br.kt (.of s)⟩
section
variable {P : Program} {w : World} {K : PySem.W.Frag} {mg : Str → Option Value} {base : Heap}
theorem check_of {H : Hp} {v : V} {L : Nat} {tr : Bits → Tr Bits} (h : Bkr H v L tr) {Q : VK} {E : XK} (q : ∀ H', Same H H' → Q .non H') : spCheckBr [v] H Q E := by
  rcases h with ⟨b, h1, h2, _⟩ | ⟨p, t, vi, b, n, k, rows, rfl, h2, _, _⟩
  · exact .inl ⟨v, b, rfl, h1, h2, q⟩
  · exact .inr ⟨p, t, vi, b, n, k, rows, rfl, h2, q⟩
def spCheckB : Sp := fun vs H Q _ => ∃ (v : V) (L : Nat) (tr : Bits → Tr Bits), vs = [v] ∧ Bkr H v L tr ∧ ∀ H', Same H H' → Q .non H'
theorem c_check_br (T : Tx w K mg) : C8.Cal P w K mg base 6 "check_breaker" spCheckB [] := by
  obtain ⟨f, fd, ps, ds, ok, e, kp, b, d⟩ := (c_check_breaker (P := P) (base := base) T).ex
  exact ⟨f, fd, ps, ds, ok.imp fun vs H Q E h => by
    obtain ⟨v, L, tr, rfl, hb, q⟩ := h
    exact check_of hb q, e, kp, b, d⟩
def spWaysOf (K : PySem.W.Frag) : Sp := fun vs H Q _ => ∃ (g p : Addr) (v : V) (n m : Nat) (rows : List Bits) (real : Bool) (tr : Bits → Tr Bits) (D : Nat), vs = [.ref g, v, .int 300000] ∧ GameAt H g p real ∧ GameB H p v n m rows tr ∧ PlayOk (gTree real n m rows tr) D ∧
  ∀ x dx aw N H', Same H H' → H' x = some (.ins (He.ga K "Ways") dx (wyF N aw)) → H' aw = some (.dK (cntD ((gTree real n m rows tr).paths.foldl stepP []))) → Q (.ref x) H'
abbrev n_ways_of : List Str := ["game", "breaker", "most"]
theorem sc_ways_of : FnScope n_ways_of ["game", "breaker", "most"] (defScope s_ways_of) := ⟨rfl, rfl, rfl, by decide +kernel, rfl, by decide +kernel, by decide +kernel⟩
theorem c_ways_of (T : Tx w K mg) : C8.Cal P w K mg base 10 "ways_of" (spWaysOf K) [] := by
  obtain ⟨fd, F⟩ := T.f_ways_of
  refine calD F T.g_ways_of (F.bindsN fun _ _ _ _ _ _ us hl => match us, hl with | [_, _, _], _ => rfl) sc_ways_of (fun vs H Q E h => ?_) (fun cdv A outer s H vs Q E hr h => ?_)
  · obtain ⟨g, p, v, n, m, rows, real, tr, D, rfl, _⟩ := h
    rfl
  obtain ⟨g, p, v, n, m, rows, real, tr, D, rfl, hg, gb, po, q⟩ := h
  refine ⟨_, (pss_cons (ps_expr (C8.pe_c (c_check_game T) hr (by omega) rfl (pa_cons (pv 0) pa_nil)))
    (pss_cons (ps_expr (C8.pe_c (c_check_br T) hr (by omega) rfl (pa_cons (pv 1) pa_nil)))
    (pss_one (ps_ret (C8.pe_mk (k_Ways T) hr (by omega) rfl (pa_cons (pv 0) (pa_cons (pv 1) (pa_cons (pv 2) pa_nil)))))))), ?_⟩
  refine ⟨_, rfl, g, p, n, m, rows, real, rfl, hg, gb.gen, gb.genB, fun H1 s1 => ?_⟩
  have gb1 := gb.same s1
  refine ⟨_, rfl, v, m, tr, rfl, gb1.br, fun H2 s2 => ?_⟩
  have gb2 := gb1.same s2
  have hg2 : GameAt H2 g p real := s2 _ _ (s1 _ _ hg)
  refine ⟨_, rfl, _, rfl, _, rfl, fun x dx h1 h2 h3 => ?_⟩
  refine ⟨x, dx, g, p, H2, v, n, m, rows, real, tr, rfl, rfl, h1, h2, h3, hg2, gb2.gen, gb2.genB, gb2.m9, gb2.br, po.ok, po.len, fun aw N H3 s3 hx haw => ⟨rfl, ?_⟩⟩
  exact q x dx aw N H3 (s1.trans (s2.trans s3)) hx haw
/-- a def with the keyword most -/
theorem calK {x : Str} {st : Stmt} {f : Addr} {fd : FuncData} {N ps : List Str} {k : Nat} {sp : Sp} (F : FunD K x x (defArgs st) (defBody st) (defScope st) [] [("most", .int 300000)] f fd) (hm : mg x = some (.ref f)) (b : ∃ ds, Vals [V.int 300000] ds ∧ Binds K fd ps ds) (S : FnScope N ps (defScope st)) (len : ∀ vs H Q E, sp vs H Q E → vs.length = ps.length)
    (hbody : ∀ (cdv : Value) (A : Around) (outer : List Env) (s : Shared) (H : Hp) (vs : List V) (Q : VK) (E : XK), Room k (A.deeper (envOfC x (defScope st) s.heap.objs.size f cdv)) → sp vs H Q E →
      ∃ t, PSs (cxOf C8.CX0 P w K mg base N x (defScope st) f cdv A outer s H E).nox (defBody st) t ∧ t { nx := fun _ H' => Q .non H', rt := Q } (start N vs) H) : C8.Cal P w K mg base (k + 1) x sp [.int 300000] := by
  obtain ⟨ds, d, b⟩ := b
  exact ⟨f, fd, ps, ds, F.ok S len fun cdv A outer s H vs Q E hr h => by
    obtain ⟨t, a, b⟩ := hbody cdv A outer s H vs Q E hr h
    exact ⟨t, a.nox, b⟩, hm, F.kp, b, d⟩
def spChance (K : PySem.W.Frag) : Sp := fun vs H Q _ => ∃ (g p : Addr) (v : V) (n m : Nat) (rows : List Bits) (real : Bool) (tr : Bits → Tr Bits) (D : Nat), vs = [.ref g, v, .int 300000] ∧ GameAt H g p real ∧ GameB H p v n m rows tr ∧ PlayOk (gTree real n m rows tr) D ∧ 0 < D ∧ D < 2 ^ 60 ∧
  ∀ a H', Same H H' → FrAt H' a ((win (gTree real n m rows tr)).wt D : Nat) D → Q (.ref a) H'
theorem pow60 {D x : Nat} (h : D < 2 ^ 60) (hx : x ≤ D) : x < 2 ^ 150 := by
  have : (2 : Nat) ^ 60 ≤ 2 ^ 150 := Nat.pow_le_pow_right (by decide) (by decide)
  omega
abbrev n_chance : List Str := ["game", "breaker", "most"]
theorem sc_chance : FnScope n_chance ["game", "breaker", "most"] (defScope s_chance) := ⟨rfl, rfl, rfl, by decide +kernel, rfl, by decide +kernel, by decide +kernel⟩
theorem c_chance (T : Tx w K mg) : C8.Cal P w K mg base 11 "chance" (spChance K) [.int 300000] := by
  obtain ⟨fd, F⟩ := T.f_chance
  refine calK F T.g_chance (F.binds0 2 (by intro z; cases z) rfl fun D doc pm an cdv ct us ks hl hk => match us, hl, ks, hk with
    | [_, _], _, [_], _ => by
      refine ⟨_, _, _, _, _, _, rfl, rfl, ?_⟩
      show _ = _
      rfl) sc_chance (fun vs H Q E h => ?_) (fun cdv A outer s H vs Q E hr h => ?_)
  · obtain ⟨g, p, v, n, m, rows, real, tr, D, rfl, _⟩ := h
    rfl
  obtain ⟨g, p, v, n, m, rows, real, tr, D, rfl, hg, gb, po, hD, hD2, q⟩ := h
  refine ⟨_, (pss_one (ps_ret (C8.pe_mt0 (c_Ways_chance T) hr (by omega) (C8.pe_c (c_ways_of T) hr (by omega) rfl (pa_cons (pv 0) (pa_cons (pv 1) (pa_cons (pv 2) pa_nil))))))), ?_⟩
  obtain ⟨gd, h64, hw⟩ := po.cnt
  refine ⟨_, rfl, _, rfl, _, rfl, g, p, v, n, m, rows, real, tr, D, rfl, hg, gb, po, fun x dx aw N H1 s1 hx haw => ?_⟩
  refine ⟨x, dx, _, rfl, hx, rfl, x, dx, aw, N, _, D, rfl, hx, haw, gd, h64, hD, hD2, ?_, fun a H2 s2 hf => ?_⟩
  · rw [hw]
    exact pow60 hD2 (Tr.wt_le _ _)
  · rw [hw] at hf
    exact q a H2 (s1.trans s2) hf
def spAdv (K : PySem.W.Frag) : Sp := fun vs H Q _ => ∃ (p : Addr) (v : V) (n m : Nat) (rows : List Bits) (tr : Bits → Tr Bits) (D : Nat), vs = [.ref p, v, .int 300000] ∧ GameB H p v n m rows tr ∧ PlayOk (gTree true n m rows tr) D ∧ PlayOk (gTree false n m rows tr) D ∧ 0 < D ∧ D < 2 ^ 60 ∧
  ∀ a H', Same H H' → FrAt H' a (((win (gTree true n m rows tr)).wt D : Nat) - ((win (gTree false n m rows tr)).wt D : Nat)) D → Q (.ref a) H'
abbrev n_advantage : List Str := ["block", "breaker", "most", "real"]
theorem sc_advantage : FnScope n_advantage ["block", "breaker", "most"] (defScope s_advantage) := ⟨rfl, rfl, rfl, by decide +kernel, rfl, by decide +kernel, by decide +kernel⟩
theorem c_advantage (T : Tx w K mg) : C8.Cal P w K mg base 10 "advantage" (spAdv K) [.int 300000] := by
  obtain ⟨fd, F⟩ := T.f_advantage
  refine calK F T.g_advantage (F.binds0 2 (by intro z; cases z) rfl fun D doc pm an cdv ct us ks hl hk => match us, hl, ks, hk with
    | [_, _], _, [_], _ => by
      refine ⟨_, _, _, _, _, _, rfl, rfl, ?_⟩
      show _ = _
      rfl) sc_advantage (fun vs H Q E h => ?_) (fun cdv A outer s H vs Q E hr h => ?_)
  · obtain ⟨p, v, n, m, rows, tr, D, rfl, _⟩ := h
    rfl
  obtain ⟨p, v, n, m, rows, tr, D, rfl, gb, po1, po2, hD, hD2, q⟩ := h
  refine ⟨_, (pss_cons (ps_expr (C8.pe_c (c_check_block T) hr (by omega) rfl (pa_cons (pv 0) pa_nil)))
    (pss_cons (ps_expr (C8.pe_c (c_check_br T) hr (by omega) rfl (pa_cons (pv 1) pa_nil)))
    (pss_cons (ps_set (i := 3) sc_advantage.nd rfl (Or.inl rfl) (C8.pe_mt0 (c_Ways_chance T) hr (by omega) (C8.pe_mk (k_Ways T) hr (by omega) rfl (pa_cons (pe_tup (pa_cons (pe_ix (r := rIxT K) ix_tup (pv 0) pe_int (fun _ _ => rfl)) (pa_cons (pv 0) (pa_cons pe_bl pa_nil)))) (pa_cons (pv 1) (pa_cons (pv 2) pa_nil))))))
    (pss_one (ps_ret (C8.pe_c (c_less T) hr (by omega) rfl (pa_cons (pv 3) (pa_cons (C8.pe_mt0 (c_Ways_chance T) hr (by omega) (C8.pe_mk (k_Ways T) hr (by omega) rfl (pa_cons (pe_tup (pa_cons (pe_ix (r := rIxT K) ix_tup (pv 0) pe_int (fun _ _ => rfl)) (pa_cons (pv 0) (pa_cons pe_bl pa_nil)))) (pa_cons (pv 1) (pa_cons (pv 2) pa_nil))))) pa_nil)))))))), ?_⟩
  obtain ⟨gd1, h641, hw1⟩ := po1.cnt
  obtain ⟨gd2, h642, hw2⟩ := po2.cnt
  refine ⟨_, rfl, p, n, m, rows, rfl, gb.gen, gb.genB, fun H1 s1 => ?_⟩
  have gb1 := gb.same s1
  refine ⟨_, rfl, v, m, tr, rfl, gb1.br, fun H2 s2 => ?_⟩
  have gb2 := gb1.same s2
  obtain ⟨t2, hp2, ht2⟩ := id gb2.gen
  refine ⟨_, rfl, p, _, _, _, rfl, rfl, SqT.of hp2, rfl, _, rfl, by show 3 ≤ sizeLine; decide, fun g hg0 => ?_⟩
  have s3 := same_new hg0 (.tup [.str "generator", .ref p, .bl true])
  have hg3 : GameAt (upd H2 g (.tup [.str "generator", .ref p, .bl true])) g p true := upd_same
  revert s3 hg3
  generalize upd H2 g (.tup [.str "generator", .ref p, .bl true]) = H3
  intro s3 hg3
  have gb3 := gb2.same s3
  refine ⟨_, rfl, _, rfl, fun x dx h1 h2 h3 => ?_⟩
  refine ⟨x, dx, g, p, H3, v, n, m, rows, true, tr, rfl, rfl, h1, h2, h3, hg3, gb3.gen, gb3.genB, gb3.m9, gb3.br, po1.ok, po1.len, fun aw N H4 s4 hx haw => ⟨rfl, ?_⟩⟩
  refine ⟨x, dx, _, rfl, hx, rfl, x, dx, aw, N, _, D, rfl, hx, haw, gd1, h641, hD, hD2, by rw [hw1]; exact pow60 hD2 (Tr.wt_le _ _), fun a1 H5 s5 hf1 => ?_⟩
  rw [hw1] at hf1
  have gb5 := (gb3.same s4).same s5
  obtain ⟨t5, hp5, ht5⟩ := id gb5.gen
  refine ⟨_, rfl, _, rfl, p, _, _, _, rfl, rfl, SqT.of hp5, rfl, _, rfl, by show 3 ≤ sizeLine; decide, fun g2 hg20 => ?_⟩
  have s6 := same_new hg20 (.tup [.str "generator", .ref p, .bl false])
  have hg6 : GameAt (upd H5 g2 (.tup [.str "generator", .ref p, .bl false])) g2 p false := upd_same
  revert s6 hg6
  generalize upd H5 g2 (.tup [.str "generator", .ref p, .bl false]) = H6
  intro s6 hg6
  have gb6 := gb5.same s6
  refine ⟨_, rfl, _, rfl, fun x2 dx2 h12 h22 h32 => ?_⟩
  refine ⟨x2, dx2, g2, p, H6, v, n, m, rows, false, tr, rfl, rfl, h12, h22, h32, hg6, gb6.gen, gb6.genB, gb6.m9, gb6.br, po2.ok, po2.len, fun aw2 N2 H7 s7 hx2 haw2 => ⟨rfl, ?_⟩⟩
  refine ⟨x2, dx2, _, rfl, hx2, rfl, x2, dx2, aw2, N2, _, D, rfl, hx2, haw2, gd2, h642, hD, hD2, by rw [hw2]; exact pow60 hD2 (Tr.wt_le _ _), fun a2 H8 s8 hf2 => ?_⟩
  rw [hw2] at hf2
  refine ⟨a1, a2, _, _, D, rfl, ((hf1.same s6).same s7).same s8, hf2, hD, hD2, ?_, ?_, fun a H9 s9 hf => ?_⟩
  · rw [Int.natAbs_natCast]
    exact pow60 hD2 (Tr.wt_le _ _)
  · rw [Int.natAbs_natCast]
    exact pow60 hD2 (Tr.wt_le _ _)
  · exact q a H9 (s1.trans (s2.trans (s3.trans (s4.trans (s5.trans (s6.trans (s7.trans (s8.trans s9)))))))) hf
end
end Bk

set_option Elab.async false
set_option linter.all false
set_option maxRecDepth 100000
set_option maxHeartbeats 4000000
namespace Bk
open PySem PySem.Spec PyProof.Rows L2
/-! ### the draws of the games, in plain Lean -/
theorem path_node {α : Type} {n : Nat} {f : Nat → Tr α} {p : List (Nat × Nat) × α} (h : p ∈ (Tr.node n f).paths) : ∃ c q, c < n ∧ q ∈ (f c).paths ∧ prodD p.1 = n * prodD q.1 := by
  obtain ⟨c, hc, hp⟩ := List.mem_flatMap.mp h
  obtain ⟨q, hq, rfl⟩ := List.mem_map.mp hp
  exact ⟨c, q, List.mem_range.mp hc, hq, prodD_cons _ _⟩
def chsOf (real : Bool) (m : Nat) (rows : List Bits) : List Bits := if real = true then rows else bstr m
theorem chs_eq {real : Bool} {n m : Nat} {rows : List Bits} (h : rows.length = 2 ^ n) : (List.range (chN real n m)).map (chal real n m rows) = chsOf real m rows := by
  cases real with
  | false => rfl
  | true =>
    show (List.range (2 ^ n)).map (fun c => row rows (bitsOf n c)) = rows
    refine List.ext_getElem? fun i => ?_
    rw [List.getElem?_map]
    by_cases hi : i < 2 ^ n
    · have h1 : i < rows.length := by rw [h]; exact hi
      rw [List.getElem?_range hi]
      show some (row rows (bitsOf n i)) = rows[i]?
      unfold row
      rw [num_bitsOf n i hi, List.getD_eq_getElem?_getD, List.getElem?_eq_getElem h1]
      rfl
    · rw [List.getElem?_eq_none (l := rows) (by rw [h]; omega), List.getElem?_eq_none (by simpa using hi)]
      rfl
theorem chs_len {real : Bool} {n m : Nat} {rows : List Bits} (h : rows.length = 2 ^ n) : (chsOf real m rows).length = chN real n m := by
  cases real with
  | false => exact bstr_length m
  | true => exact h
theorem wt_game {real : Bool} {n m D : Nat} {rows : List Bits} {tr : Bits → Tr Bits} (h : rows.length = 2 ^ n) : (win (gTree real n m rows tr)).wt D = sm (chsOf real m rows) fun x => (win (tr x)).wt (D / (chsOf real m rows).length) := by
  rw [chs_len (n := n) h, ← chs_eq (n := n) h, sm_map]
  rfl
theorem wt_plain {real : Bool} {n m D : Nat} {rows : List Bits} {tr : Bits → Tr Bits} {b : Br} (h : rows.length = 2 ^ n) (e : ∀ x, tr x = b.tree x) : (win (gTree real n m rows tr)).wt D = sm (chsOf real m rows) fun x => b.wt x (D / (chsOf real m rows).length) := by
  rw [wt_game h]
  refine sm_congr fun x _ => ?_
  rw [e, Br.wt_tree]
theorem wt_madeT {n k E : Nat} {rows : List Bits} {b : Br} {x : Bits} : (win (madeTree b n rows k x)).wt E = sm (List.range k) fun i => sm (bstr i) fun p => b.wt (hand n rows k i x p) (E / (k * 2 ^ i)) := by
  show (sm (List.range k) fun i => sm (List.range (2 ^ i)) fun c => (win (b.tree (hand n rows k i x (bitsOf i c)))).wt (E / k / 2 ^ i)) = _
  refine sm_congr fun i _ => ?_
  unfold bstr
  rw [sm_map]
  refine sm_congr fun c _ => ?_
  rw [Br.wt_tree, Nat.div_div_eq_div_mul]
theorem wt_made {real : Bool} {n k D : Nat} {rows : List Bits} {tr : Bits → Tr Bits} {b : Br} (h : rows.length = 2 ^ n) (e : ∀ x, tr x = madeTree b n rows k x) : (win (gTree real n (n + 1) rows tr)).wt D = madeT b n rows k (chsOf real (n + 1) rows) D := by
  rw [wt_game h]
  unfold madeT
  refine sm_congr fun x _ => ?_
  rw [e, wt_madeT]
  refine sm_congr fun i _ => sm_congr fun p _ => ?_
  rw [Nat.div_div_eq_div_mul, Nat.mul_assoc]
theorem chN_pos (real : Bool) (n m : Nat) : 1 ≤ chN real n m := by
  cases real <;> exact Nat.one_le_two_pow
theorem playok_plain {real : Bool} {n m D : Nat} {rows : List Bits} {tr : Bits → Tr Bits} {b : Br} (e : ∀ x, tr x = b.tree x) (hb : BrOk 2 b) (hN : chN real n m ≤ 512) (hD : chN real n m * 27720 ^ 2 ∣ D) : PlayOk (gTree real n m rows tr) D := by
  refine ⟨⟨chN_pos _ _ _, hN, fun c hc => ?_⟩, ?_, ⟨(List.range 12).map fun j => chN real n m * (b.root * (j + 1)), ?_, fun p hp => ?_⟩, fun p hp => ?_⟩
  · show Tr.Ok 512 9 (tr (chal real n m rows c))
    rw [e]
    exact Tr.Ok.mono (by decide) (by decide) (Br.tree_ok _ hb)
  · have := Tr.paths_len_node (n := chN real n m) (N := 144) (f := fun c => tr (chal real n m rows c)) fun c hc => by
      rw [e]
      exact Br.tree_len _ hb
    have h2 : chN real n m * 144 ≤ 512 * 144 := Nat.mul_le_mul_right _ hN
    exact Nat.le_trans this (by omega)
  · rw [List.length_map, List.length_range]
    decide
  · obtain ⟨c, q, hc, hq, ep⟩ := path_node hp
    rw [e] at hq
    obtain ⟨j, j1, j2, ej⟩ := Br.prod2 _ hb q hq
    rw [ep, ej]
    exact List.mem_map.mpr ⟨j - 1, List.mem_range.mpr (by omega), by rw [Nat.sub_add_cancel j1]⟩
  · obtain ⟨c, q, hc, hq, ep⟩ := path_node hp
    rw [e] at hq
    rw [ep]
    exact Nat.dvd_trans (Nat.mul_dvd_mul_left _ (Br.prod_dvd _ hb q hq)) hD
theorem playok_made {real : Bool} {n m k D : Nat} {rows : List Bits} {tr : Bits → Tr Bits} {b : Br} (e : ∀ x, tr x = madeTree b n rows k x) (hb : BrOk 2 b) (hN : chN real n m ≤ 16) (hk1 : 1 ≤ k) (hk4 : k ≤ 4) (hD : ∀ i, i < k → chN real n m * (k * (2 ^ i * 27720 ^ 2)) ∣ D) : PlayOk (gTree real n m rows tr) D := by
  have p2 : ∀ i, i < k → 1 ≤ 2 ^ i ∧ 2 ^ i ≤ 8 := fun i hi => ⟨Nat.one_le_two_pow, by
    have : 2 ^ i ≤ 2 ^ 3 := Nat.pow_le_pow_right (by decide) (by omega)
    omega⟩
  refine ⟨⟨chN_pos _ _ _, by omega, fun c hc => ?_⟩, ?_, ⟨(List.range 4).flatMap fun i => (List.range 12).map fun j => chN real n m * (k * (2 ^ i * (b.root * (j + 1)))), ?_, fun p hp => ?_⟩, fun p hp => ?_⟩
  · show Tr.Ok 512 9 (tr (chal real n m rows c))
    rw [e]
    refine ⟨hk1, by omega, fun i hi => ⟨(p2 i hi).1, by have := (p2 i hi).2; omega, fun c2 hc2 => ?_⟩⟩
    exact Tr.Ok.mono (by decide) (by decide) (Br.tree_ok _ hb)
  · have := Tr.paths_len_node (n := chN real n m) (N := 4 * (8 * 144)) (f := fun c => tr (chal real n m rows c)) fun c hc => by
      rw [e]
      have := Tr.paths_len_node (n := k) (N := 8 * 144) (f := fun i => .node (2 ^ i) fun c' => b.tree (hand n rows k i (chal real n m rows c) (bitsOf i c'))) fun i hi => by
        have := Tr.paths_len_node (n := 2 ^ i) (N := 144) (f := fun c' => b.tree (hand n rows k i (chal real n m rows c) (bitsOf i c'))) fun c' hc' => Br.tree_len _ hb
        exact Nat.le_trans this (Nat.mul_le_mul_right _ (p2 i hi).2)
      exact Nat.le_trans this (Nat.mul_le_mul_right _ hk4)
    have h2 : chN real n m * (4 * (8 * 144)) ≤ 16 * (4 * (8 * 144)) := Nat.mul_le_mul_right _ hN
    exact Nat.le_trans this (by omega)
  · have h := flatMap_len (fun i => (List.range 12).map fun j => chN real n m * (k * (2 ^ i * (b.root * (j + 1))))) 12 (List.range 4) fun a _ => by
      rw [List.length_map, List.length_range]
      exact Nat.le_refl _
    rw [List.length_range] at h
    omega
  · obtain ⟨c, q, hc, hq, ep⟩ := path_node hp
    rw [e] at hq
    obtain ⟨i, q2, hi, hq2, ep2⟩ := path_node hq
    obtain ⟨c2, q3, hc2, hq3, ep3⟩ := path_node hq2
    obtain ⟨j, j1, j2, ej⟩ := Br.prod2 _ hb q3 hq3
    rw [ep, ep2, ep3, ej]
    exact List.mem_flatMap.mpr ⟨i, List.mem_range.mpr (by omega), List.mem_map.mpr ⟨j - 1, List.mem_range.mpr (by omega), by rw [Nat.sub_add_cancel j1]⟩⟩
  · obtain ⟨c, q, hc, hq, ep⟩ := path_node hp
    rw [e] at hq
    obtain ⟨i, q2, hi, hq2, ep2⟩ := path_node hq
    obtain ⟨c2, q3, hc2, hq3, ep3⟩ := path_node hq2
    rw [ep, ep2, ep3]
    exact Nat.dvd_trans (Nat.mul_dvd_mul_left _ (Nat.mul_dvd_mul_left _ (Nat.mul_dvd_mul_left _ (Br.prod_dvd _ hb q3 hq3)))) (hD i hi)
/-! ### the number under which all is told -/
def DD (n k : Nat) : Nat := k * 2 ^ (n + k) * 27720 ^ 2
theorem DD_pos {n k : Nat} (hk : 1 ≤ k) : 0 < DD n k := Nat.mul_pos (Nat.mul_pos hk (Nat.pow_pos (by decide))) (by decide)
theorem DD_lt {n k : Nat} (hk : k ≤ 4) (hn : n + k ≤ 5) : DD n k < 2 ^ 60 := by
  have h1 : 2 ^ (n + k) ≤ 2 ^ 5 := Nat.pow_le_pow_right (by decide) hn
  have h2 : k * 2 ^ (n + k) ≤ 4 * 2 ^ 5 := Nat.mul_le_mul hk h1
  exact Nat.lt_of_le_of_lt (Nat.mul_le_mul_right _ h2) (by decide)
/-- the parts of it: a of the two's, j of them left -/
theorem DD_made {n k a i : Nat} (h : a + i ≤ n + k) : DD n k = 2 ^ a * k * 2 ^ i * (2 ^ (n + k - (a + i)) * 27720 ^ 2) := by
  unfold DD
  have e : 2 ^ (n + k) = 2 ^ a * 2 ^ i * 2 ^ (n + k - (a + i)) := by
    rw [← Nat.pow_add, ← Nat.pow_add]
    congr 1
    omega
  rw [e]
  simp only [Nat.mul_assoc, Nat.mul_comm, Nat.mul_left_comm]
theorem DD_div {n k a i : Nat} (hk : 1 ≤ k) (h : a + i ≤ n + k) : DD n k / (2 ^ a * k * 2 ^ i) = 2 ^ (n + k - (a + i)) * 27720 ^ 2 := by
  rw [DD_made h, Nat.mul_div_cancel_left _ (Nat.mul_pos (Nat.mul_pos (Nat.pow_pos (by decide)) hk) (Nat.pow_pos (by decide)))]
theorem DD_dvd {n k a i : Nat} (h : a + i ≤ n + k) : 2 ^ a * k * 2 ^ i * 27720 ^ 2 ∣ DD n k := by
  rw [DD_made h]
  exact ⟨2 ^ (n + k - (a + i)), by simp only [Nat.mul_assoc, Nat.mul_comm, Nat.mul_left_comm]⟩
theorem DD_dvd' {n k a i : Nat} (h : a + i ≤ n + k) : 2 ^ a * (k * (2 ^ i * 27720 ^ 2)) ∣ DD n k := by
  have := DD_dvd h
  simp only [Nat.mul_assoc] at this ⊢
  exact this
theorem DD_plain {n k a : Nat} (h : a ≤ n + k) : DD n k = 2 ^ a * (k * 2 ^ (n + k - a) * 27720 ^ 2) := by
  unfold DD
  have e : 2 ^ (n + k) = 2 ^ a * 2 ^ (n + k - a) := by
    rw [← Nat.pow_add]
    congr 1
    omega
  rw [e]
  simp only [Nat.mul_assoc, Nat.mul_comm, Nat.mul_left_comm]
theorem DD_pdiv {n k a : Nat} (h : a ≤ n + k) : DD n k / 2 ^ a = k * 2 ^ (n + k - a) * 27720 ^ 2 := by
  rw [DD_plain h, Nat.mul_div_cancel_left _ (Nat.pow_pos (by decide))]
theorem DD_pdvd {n k a : Nat} (h : a ≤ n + k) : 2 ^ a * 27720 ^ 2 ∣ DD n k := by
  rw [DD_plain h]
  exact ⟨k * 2 ^ (n + k - a), by simp only [Nat.mul_assoc, Nat.mul_comm, Nat.mul_left_comm]⟩
/-! ### why the made one's, times k, is the given one's -/
theorem madeT_parts {b : Br} (hb : BrOk 2 b) {n k a : Nat} {rows chs : List Bits} (hk : 1 ≤ k) (hl : chs.length = 2 ^ a) (ha : a ≤ n + 1) :
    madeT b n rows k chs (DD n k) = sm (List.range k) fun i => 2 ^ (n + k - (a + i)) * part (fun x => b.wt x (27720 ^ 2)) n rows k chs i := by
  unfold madeT
  rw [hl, sm_comm]
  refine sm_congr fun i hi => ?_
  have hi := List.mem_range.mp hi
  unfold part
  rw [← sm_mul]
  refine sm_congr fun ch _ => ?_
  rw [← sm_mul]
  refine sm_congr fun p _ => ?_
  rw [DD_div hk (by omega)]
  have := Br.wt_mul (hand n rows k i ch p) (2 ^ (n + k - (a + i))) hb 1
  rw [Nat.mul_one] at this
  exact this
theorem final_eq {b : Br} (hb : BrOk 2 b) {n k : Nat} {rows : List Bits} (g : GenOk n rows) (hk : 1 ≤ k) :
    (((madeT b n rows k rows (DD n k) : Nat) : Int) - ((madeT b n rows k (bstr (n + 1)) (DD n k) : Nat) : Int)) * k = gainT b (longerT n rows k) (n + k) (DD n k) := by
  have e1 : madeT b n rows k rows (DD n k) = ((List.range k).map fun i => 2 ^ (k - i) * hyb (fun x => b.wt x (27720 ^ 2)) n rows k i).sum := by
    rw [madeT_parts hb hk g.len (Nat.le_succ n)]
    refine sm_congr fun i hi => ?_
    have hi := List.mem_range.mp hi
    rw [part_real g _ hi, show n + k - (n + i) = k - i by omega]
  have e2 : madeT b n rows k (bstr (n + 1)) (DD n k) = ((List.range k).map fun i => 2 ^ (k - (i + 1)) * hyb (fun x => b.wt x (27720 ^ 2)) n rows k (i + 1)).sum := by
    rw [madeT_parts hb hk (bstr_length _) (Nat.le_refl _)]
    refine sm_congr fun i hi => ?_
    have hi := List.mem_range.mp hi
    rw [part_any _ hi, show n + k - (n + 1 + i) = k - (i + 1) by omega]
  have tel := telescope (fun i => 2 ^ (k - i)) (fun i => hyb (fun x => b.wt x (27720 ^ 2)) n rows k i) k
  rw [e1, e2]
  have tel' : ((((List.range k).map fun i => 2 ^ (k - i) * hyb (fun x => b.wt x (27720 ^ 2)) n rows k i).sum : Nat) : Int) - ((((List.range k).map fun i => 2 ^ (k - (i + 1)) * hyb (fun x => b.wt x (27720 ^ 2)) n rows k (i + 1)).sum : Nat) : Int) = ((2 ^ k * hyb (fun x => b.wt x (27720 ^ 2)) n rows k 0 : Nat) : Int) - ((hyb (fun x => b.wt x (27720 ^ 2)) n rows k k : Nat) : Int) := by
    refine tel.trans ?_
    show ((2 ^ (k - 0) * hyb (fun x => b.wt x (27720 ^ 2)) n rows k 0 : Nat) : Int) - ((2 ^ (k - k) * hyb (fun x => b.wt x (27720 ^ 2)) n rows k k : Nat) : Int) = _
    rw [Nat.sub_zero, Nat.sub_self, Nat.pow_zero, Nat.one_mul]
  rw [tel']
  have wk : ∀ (c : Nat) (x : Bits), b.wt x (c * 27720 ^ 2) = c * b.wt x (27720 ^ 2) := fun c x => by
    have := Br.wt_mul x c hb 1
    rw [Nat.mul_one] at this
    exact this
  have g1 : (sm (longerT n rows k) fun x => b.wt x (DD n k / (longerT n rows k).length)) = k * (2 ^ k * hyb (fun x => b.wt x (27720 ^ 2)) n rows k 0) := by
    rw [hyb_zero]
    have hl : (longerT n rows k).length = 2 ^ n := by
      unfold longerT
      rw [List.length_map, bstr_length]
    rw [hl, DD_pdiv (Nat.le_add_right n k), show n + k - n = k by omega, ← Nat.mul_assoc, ← sm_mul]
    exact sm_congr fun x _ => wk _ x
  have g2 : (sm (bstr (n + k)) fun x => b.wt x (DD n k / (bstr (n + k)).length)) = k * hyb (fun x => b.wt x (27720 ^ 2)) n rows k k := by
    rw [hyb_all, bstr_length, DD_pdiv (Nat.le_refl _), Nat.sub_self, Nat.pow_zero, Nat.mul_one, Nat.add_comm k n, ← sm_mul]
    exact sm_congr fun x _ => wk _ x
  unfold gainT
  rw [g1, g2, Int.sub_mul]
  rw [Int.natCast_mul k, Int.natCast_mul k, Int.mul_comm _ (k : Int), Int.mul_comm _ (k : Int)]
end Bk

set_option Elab.async false
set_option linter.all false
set_option maxRecDepth 100000
set_option maxHeartbeats 4000000
namespace Bk
open PySem PySem.Spec PyProof.Rows L2
/-! ### tables as data -/
def genPd (n m : Int) (rows : List Bits) : PyData := .tuple [.str "generator", .int n, .int m, .tuple (rows.map fun r => .str (St r))]
theorem strs_dp {K : PySem.W.Frag} {H : Hp} : ∀ rows : List Bits, DpAll K H (rows.map fun r => V.str (St r)) (rows.map fun r => PyData.str (St r))
  | [] => .nil
  | r :: rs => .cons (.str _) (strs_dp rs)
theorem gen_dp {K : PySem.W.Frag} {H : Hp} {p : Addr} {n m : Nat} {rows : List Bits} (g : GenV H p n m rows) : Dp K H (.ref p) (genPd n m rows) := by
  obtain ⟨q, a, b⟩ := g
  exact .tup (SqT.of a) (.cons (.str _) (.cons (.int _) (.cons (.int _) (.cons (.tup (SqT.of b) (strs_dp rows)) .nil))))
theorem St_ok (l : Bits) : PyData.canLay0 (.str (St l)) = true := by
  show (St l).cps.all (· < 0x110000) = true
  rw [← Array.all_toList, St_list, List.all_map]
  refine List.all_eq_true.mpr fun b _ => ?_
  cases b <;> decide
theorem strs_lay : ∀ rows : List Bits, PyData.canLayAll0 (rows.map fun r => PyData.str (St r)) = true
  | [] => rfl
  | r :: rs => by
    show (PyData.canLay0 (.str (St r)) && PyData.canLayAll0 (rs.map fun r => PyData.str (St r))) = true
    rw [St_ok, strs_lay rs]
    rfl
theorem strs_depth : ∀ rows : List Bits, PyData.depthAll (rows.map fun r => PyData.str (St r)) = 0
  | [] => rfl
  | r :: rs => by
    show max (PyData.depth (.str (St r))) (PyData.depthAll (rs.map fun r => PyData.str (St r))) = 0
    rw [strs_depth rs]
    rfl
theorem gen_shaped (n m : Int) (rows : List Bits) : SeqAt.shaped (genPd n m rows) = true := by
  have h1 : PyData.canLay0 (genPd n m rows) = true := by
    show (PyData.canLay0 (.str "generator") && (true && (true && (PyData.canLayAll0 (rows.map fun r => PyData.str (St r)) && true)))) = true
    rw [strs_lay]
    decide +kernel
  have h2 : PyData.depth (genPd n m rows) ≤ 64 := by
    show max 0 (max 0 (max 0 (max (PyData.depthAll (rows.map fun r => PyData.str (St r)) + 1) 0))) + 1 ≤ 64
    rw [strs_depth]
    decide
  unfold SeqAt.shaped
  rw [h1, decide_eq_true h2]
  rfl
theorem gen_eqv (n m : Int) (rows : List Bits) : PyData.eqv (genPd n m rows) (genPd n m rows) = true := SeqAt.eqv_refl _ (SeqAt.canLay_of_shaped (gen_shaped n m rows))
theorem BrOk.succ {d : Nat} {b : Br} (h : BrOk d b) : BrOk (d + 1) b := by
  induction h with
  | say h => exact .say h
  | toss h0 h1 _ ih => exact .toss h0 h1 ih
  | look hn _ _ iha ihb => exact .look hn iha ihb
  | ask h _ iha => exact .ask h iha
/-- a call where either of two promises is kept -/
theorem pe_c2 {X : Cx} {k1 k2 j : Nat} {x : Str} {sp1 sp2 : Sp} {p pos : Pos} {e : Expr} {es : List Expr} {t : TA} (c1 : C8.Cal X.prog X.w X.K X.mg X.base k1 x sp1 []) (c2 : C8.Cal X.prog X.w X.K X.mg X.base k2 x sp2 []) (hr : Room j X.A) (h1 : k1 ≤ j) (h2 : k2 ≤ j) (hg : Gl X x) (ha : PA X (e :: es) t)
    (hdb : (x == ("__debug__" : Str)) = false := by decide) (he : starEach (e :: es) X.env = (false, eval e X.env) :: starEach es X.env := by rfl) (hpl : (backTo pos (starEach es X.env)).any (·.1) = false := by rfl) :
    PE X (.Call (.Name x p) (e :: es) [] pos) (fun σ H Q => t σ H fun vs H1 => sp1 vs H1 Q C8.E0 ∨ sp2 vs H1 Q C8.E0) := by
  obtain ⟨f, fd, ps, ds, F, hm, kp, b, d⟩ := c1.ex
  obtain ⟨f', fd', ps', ds', F', hm', kp', b', d'⟩ := c2.ex
  rw [hm] at hm'
  cases hm'
  cases d
  cases d'
  refine ⟨fun pins s σ H Q I h => ?_⟩
  refine wpAny_Call_Name_kw (ld_glob I hg hm ?_ hdb)
  refine PySem.W.callWith_K (h₀ := X.base) I.ok.mod.kin kp (thn (ha.run pos pins s σ H _ I h) fun us s1 ⟨vs, H1, I1, r, q⟩ => ⟨I1.kIn, ?_⟩) he hpl
  rcases q with q | q
  · exact run_fn F (hr.mono h1) b .nil C8.pass0 I1 r (by rw [List.append_nil]; exact q)
  · exact run_fn F' (hr.mono h2) b' .nil C8.pass0 I1 r (by rw [List.append_nil]; exact q)
section
variable {P : Program} {w : World} {K : PySem.W.Frag} {mg : Str → Option Value} {base : Heap}
theorem br12 {H : Hp} {τ : Tp} {sh : Addr} {m zd : Nat} (hsh : H sh = some (.tup [V.int 2, V.int 1, V.int (m : Int)])) (hm : m ≤ 90) (lt : LT H τ) (hz : zd < 2) {Q : VK}
    (h : ∀ (v : V) (b : Br) H', IsBr H' v b → BrOk 2 b → LT H' τ → Dr H H' → Q v H') : spLBr 1 [V.ref τ.p, V.int (1 + (zd : Int)), V.int 1, V.ref sh] H Q C8.E0 ∨ spLBr 2 [V.ref τ.p, V.int (1 + (zd : Int)), V.int 1, V.ref sh] H Q C8.E0 := by
  have hz' : zd = 0 ∨ zd = 1 := by omega
  rcases hz' with rfl | rfl
  · exact .inl ⟨τ, 1, sh, m, rfl, hsh, hm, lt, fun v b H' hb bo l d => h v b H' hb bo.succ l d⟩
  · exact .inr ⟨τ, 1, sh, m, rfl, hsh, hm, lt, h⟩
def spLaw (K : PySem.W.Frag) : Sp := fun vs H Q _ => ∃ (a : Addr) (ns : List Int), vs = [.ref a] ∧ SqL K H a (ns.map V.int) ∧ ns.length ≤ 63 ∧ ∀ H', Q (.bl true) H'
theorem fr_dp {K : PySem.W.Frag} {H : Hp} {p : Addr} {S : Int} {D : Nat} (f : FrAt H p S D) : Dp K H (.ref p) (.tuple [.int (nrm S D).1, .int (nrm S D).2]) := pair_dp f
abbrev n_law : List Str := ["_law_script", "_law_tape_here", "_law_n", "_law_table", "_law_k", "_law_whole", "_law_at", "_law_breaker_here", "_law_made_here", "_law_real", "_law_ideal", "_law_due"]
theorem sc_law : FnScope n_law ["_law_script"] (defScope s_law) := ⟨rfl, rfl, rfl, by decide +kernel, rfl, by decide +kernel, by decide +kernel⟩
theorem okD {x : Str} {st : Stmt} {f : Addr} {fd : FuncData} {N ps : List Str} {k : Nat} {sp : Sp} (F : FnP K x x st f fd) (S : FnScope N ps (defScope st)) (len : ∀ vs H Q E, sp vs H Q E → vs.length = ps.length)
    (hbody : ∀ (cdv : Value) (A : Around) (outer : List Env) (s : Shared) (H : Hp) (vs : List V) (Q : VK) (E : XK), Room k (A.deeper (envOfC x (defScope st) s.heap.objs.size f cdv)) → sp vs H Q E →
      ∃ t, PSs (cxOf C8.CX0 P w K mg base N x (defScope st) f cdv A outer s H E).nox (defBody st) t ∧ t { nx := fun _ H' => Q .non H', rt := Q } (start N vs) H) : FnOk P w K mg base C8.CX0 (k + 1) f fd ps sp :=
  F.ok S len fun cdv A outer s H vs Q E hr h => by
    obtain ⟨t, a, b⟩ := hbody cdv A outer s H vs Q E hr h
    exact ⟨t, a.nox, b⟩
theorem law_ok (T : Tx w K mg) {f : Addr} {fd : FuncData} (F : FnP K "law" "law" s_law f fd) : FnOk P w K mg base C8.CX0 12 f fd ["_law_script"] (spLaw K) := by
  refine okD F sc_law (fun vs H Q E h => ?_) (fun cdv A outer s H vs Q E hr h => ?_)
  · obtain ⟨a, ns, rfl, _⟩ := h
    rfl
  obtain ⟨a, ns, rfl, hS, hns, q⟩ := h
  have hu2 := hr.units
  refine ⟨_, (pss_cons (ps_set (i := 1) sc_law.nd rfl (Or.inl rfl) (C8.pe_c (c_law_tape T) hr (by omega) rfl (pa_cons (pv 0) pa_nil)))
    (C8.pss_cut (ps_set (i := 2) sc_law.nd rfl (Or.inl rfl) (pe_op op_add pe_int (C8.pe_c (c_law_draw T) hr (by omega) rfl (pa_cons (pv 1) (pa_cons pe_int pa_nil)))))
    (pss_cons (ps_set (i := 3) sc_law.nd rfl (Or.inl rfl) (C8.pe_c (c_law_generator T) hr (by omega) rfl (pa_cons (pv 1) (pa_cons (pv 2) (pa_cons (pe_op op_add (pv 2) pe_int) pa_nil)))))
    (C8.pss_cut (ps_set (i := 4) sc_law.nd rfl (Or.inl rfl) (pe_op op_add pe_int (C8.pe_c (c_law_draw T) hr (by omega) rfl (pa_cons (pv 1) (pa_cons (pe_op op_sub pe_int (pv 2)) pa_nil)))))
    (pss_cons (ps_set (i := 5) sc_law.nd rfl (Or.inl rfl) (C8.pe_c (c_law_longer T) hr (by omega) rfl (pa_cons (pv 3) (pa_cons (pv 4) pa_nil))))
    (pss_cons (ps_if (pt_cmpR (op_neD hr.units) (C8.pe_c (c_longer T) hr (by omega) rfl (pa_cons (pv 3) (pa_cons (pv 4) pa_nil))) (pv 5) (nomark _)) (pss_one (ps_ret pe_bl)) pss_nil)
    (pss_cons (ps_for PassesOwn.never rfl (pi_range1 rfl T.n_range (pa_cons (pe_op op_add pe_int (C8.pe_c (c_law_draw T) hr (by omega) rfl (pa_cons (pv 1) (pa_cons pe_int pa_nil)))) pa_nil)) (pg_name (i := 6) sc_law.nd rfl (Or.inl rfl))
    (pss_cons (ps_set (i := 7) sc_law.nd rfl (Or.inl rfl) (pe_c2 (c_law_breaker T 1) (c_law_breaker T 2) hr (by omega) (by omega) rfl (pa_cons (pv 1) (pa_cons (pe_op op_add pe_int (C8.pe_c (c_law_draw T) hr (by omega) rfl (pa_cons (pv 1) (pa_cons pe_int pa_nil)))) (pa_cons pe_int (pa_cons (pe_tup (pa_cons pe_int (pa_cons pe_int (pa_cons (pe_op op_add (pv 2) (pv 4)) pa_nil)))) pa_nil))))))
    (pss_cons (ps_set (i := 8) sc_law.nd rfl (Or.inl rfl) (pe_tup (pa_cons pe_str (pa_cons (pv 3) (pa_cons (pv 4) (pa_cons (pv 7) pa_nil))))))
    (pss_cons (ps_set (i := 9) sc_law.nd rfl (Or.inl rfl) (C8.pe_c (c_law_made_chance T) hr (by omega) rfl (pa_cons (pv 7) (pa_cons (pv 3) (pa_cons (pv 4) (pa_cons (pe_ix (r := rIxT K) ix_tup (pv 3) pe_int (fun _ _ => rfl)) pa_nil))))))
    (pss_cons (ps_set (i := 10) sc_law.nd rfl (Or.inl rfl) (C8.pe_c (c_law_made_chance T) hr (by omega) rfl (pa_cons (pv 7) (pa_cons (pv 3) (pa_cons (pv 4) (pa_cons (C8.pe_c (c_law_strings T) hr (by omega) rfl (pa_cons (pe_op op_add (pv 2) pe_int) pa_nil)) pa_nil))))))
    (pss_cons (ps_if (pt_not (pt_val (C8.pe_c (c_law_is T) hr (by omega) rfl (pa_cons (C8.pe_c (c_chance T) hr (by omega) rfl (pa_cons (pe_tup (pa_cons pe_str (pa_cons (pv 3) (pa_cons pe_bl pa_nil)))) (pa_cons (pv 8) pa_nil))) (pa_cons (pv 9) pa_nil))))) (pss_one (ps_ret pe_bl)) pss_nil)
    (pss_cons (ps_if (pt_not (pt_val (C8.pe_c (c_law_is T) hr (by omega) rfl (pa_cons (C8.pe_c (c_chance T) hr (by omega) rfl (pa_cons (pe_tup (pa_cons pe_str (pa_cons (pv 3) (pa_cons pe_bl pa_nil)))) (pa_cons (pv 8) pa_nil))) (pa_cons (pv 10) pa_nil))))) (pss_one (ps_ret pe_bl)) pss_nil)
    (pss_cons (ps_set (i := 11) sc_law.nd rfl (Or.inl rfl) (C8.pe_c (c_law_generator_gain T) hr (by omega) rfl (pa_cons (pv 7) (pa_cons (pv 5) pa_nil))))
    (pss_cons (ps_if (PW.pt (pw_or (pt_not (pt_val (C8.pe_c (c_law_is T) hr (by omega) rfl (pa_cons (C8.pe_c (c_advantage T) hr (by omega) rfl (pa_cons (pv 3) (pa_cons (pv 8) pa_nil))) (pa_cons (C8.pe_c (c_law_less T) hr (by omega) rfl (pa_cons (pv 9) (pa_cons (pv 10) pa_nil))) pa_nil))))) (pw_or1 (pt_not (pt_val (C8.pe_c (c_law_is T) hr (by omega) rfl (pa_cons (C8.pe_c (c_advantage T) hr (by omega) rfl (pa_cons (pv 5) (pa_cons (pv 7) pa_nil))) (pa_cons (pv 11) pa_nil)))))))) (pss_one (ps_ret pe_bl)) pss_nil)
    (pss_one (ps_if (pt_cmpR (op_neD hr.units) (C8.pe_c (c_law_times T) hr (by omega) rfl (pa_cons (C8.pe_c (c_law_less T) hr (by omega) rfl (pa_cons (pv 9) (pa_cons (pv 10) pa_nil))) (pa_cons (pv 4) pa_nil))) (pv 11) (nomark _)) (pss_one (ps_ret pe_bl)) pss_nil)))))))))))
    (pss_one (ps_ret pe_bl))))))))), ?_⟩
  refine ⟨_, rfl, a, ns, rfl, hS, fun τ H1 s1 lt1 => ?_⟩
  -- n
  refine ⟨fun σ H' => ∃ n : Nat, σ = [some (.ref a), some (.ref τ.p), some (.int n), none, none, none, none, none, none, none, none, none] ∧ 1 ≤ n ∧ n ≤ 3 ∧ LT H' τ, ?_, ?_⟩
  · refine ⟨_, rfl, τ, 3, rfl, by decide, lt1, fun z H2 hz lt2 dr2 => ?_⟩
    refine ⟨_, _, rfl, rfl, ?_⟩
    refine ⟨z + 1, ?_, by omega, by omega, lt2⟩
    rw [show (((z + 1 : Nat)) : Int) = 1 + (z : Int) by omega]
    rfl
  rintro σ H2 ⟨n, rfl, hn1, hn3, lt2⟩
  -- the table
  refine ⟨_, rfl, _, rfl, _, rfl, _, _, rfl, rfl, τ, n, n + 1, rfl, by omega, by omega, lt2, fun p rows H3 gv3 hl hrow lt3 dr3 => ?_⟩
  -- k
  refine ⟨fun σ H' => ∃ k : Nat, σ = [some (.ref a), some (.ref τ.p), some (.int n), some (.ref p), some (.int k), none, none, none, none, none, none, none] ∧ 1 ≤ k ∧ n + k ≤ 5 ∧ LT H' τ ∧ Dr H3 H', ?_, ?_⟩
  · refine ⟨_, rfl, _, rfl, _, _, rfl, rfl, τ, 5 - (n : Int), rfl, by omega, lt3, fun z H4 hz lt4 dr4 => ?_⟩
    refine ⟨_, _, rfl, rfl, ?_⟩
    refine ⟨z + 1, ?_, by omega, by omega, lt4, dr4⟩
    rw [show (((z + 1 : Nat)) : Int) = 1 + (z : Int) by omega]
    rfl
  rintro σ H4 ⟨k, rfl, hk1, hnk, lt4, dr4⟩
  have gv4 := gv3.dr dr4
  have gB : GenB n (n + 1) rows := ⟨hn1, by omega, by omega, by omega, hl, hrow⟩
  have lenW : (longerT n rows k).length = 2 ^ n := by
    unfold longerT
    rw [List.length_map, bstr_length]
  have rowW : ∀ r ∈ longerT n rows k, r.length = n + k := fun r hr => by
    obtain ⟨s, hs, rfl⟩ := List.mem_map.mp hr
    rw [out_length gB.ok k (bstr_mem hs), Nat.add_comm]
  have gBW : GenB n (n + k) (longerT n rows k) := ⟨hn1, by omega, by omega, by omega, lenW, rowW⟩
  refine ⟨_, rfl, _, rfl, p, n, k, rows, rfl, gv4, gB, hk1, by omega, fun pw H5 s5 gw5 => ?_⟩
  refine ⟨_, rfl, _, rfl, p, n, k, rows, rfl, gv4.same s5, gB, hk1, by omega, fun p2 H6 s6 g26 => ?_⟩
  have gv6 := (gv4.same s5).same s6
  have gw6 := gw5.same s6
  refine ⟨_, rfl, _, _, gen_dp g26, gen_dp gw6, gen_shaped _ _ _, gen_shaped _ _ _, ?_⟩
  rw [gen_eqv]
  refine ⟨_, rfl, iteF ?_⟩
  have lt6 := (lt4.same s5).same s6
  refine ⟨_, rfl, τ, 2, rfl, by decide, lt6, fun zr H7 hzr lt7 dr7 => ?_⟩
  refine ⟨_, _, rfl, rfl, ?_⟩
  refine ⟨_, rfl, by omega, by omega, ?_⟩
  have gv7 := gv6.dr dr7
  have gw7 := gw6.dr dr7
  -- what holds of any breaker
  have hp3 : (2 : Nat) ^ n ≤ 2 ^ 3 := Nat.pow_le_pow_right (by decide) hn3
  have hp4 : (2 : Nat) ^ (n + 1) ≤ 2 ^ 4 := Nat.pow_le_pow_right (by decide) (by omega)
  have hp5 : (2 : Nat) ^ (n + k) ≤ 2 ^ 5 := Nat.pow_le_pow_right (by decide) hnk
  have hpk : (2 : Nat) ^ k ≤ 2 ^ 4 := Nat.pow_le_pow_right (by decide) (by omega)
  have hD := DD_pos (n := n) hk1
  have hD2 := DD_lt (n := n) (k := k) (by omega) hnk
  have cntB : ∀ N, N ≤ 16 → N * (k * (2 ^ k * 144)) ≤ 800000 := fun N hN => by
    have a1 : 2 ^ k * 144 ≤ 16 * 144 := Nat.mul_le_mul_right _ hpk
    have a2 : k * (2 ^ k * 144) ≤ 4 * (16 * 144) := Nat.mul_le_mul (by omega) a1
    have a3 : N * (k * (2 ^ k * 144)) ≤ 16 * (4 * (16 * 144)) := Nat.mul_le_mul hN a2
    omega
  refine for_range (lo := 0) (n := (1 + (zr : Int)).toNat) (fun i σ H' => ∃ z6 z7 z8 z9 z10 z11 : Option V, σ = [some (.ref a), some (.ref τ.p), some (.int n), some (.ref p), some (.int k), some (.ref pw), z6, z7, z8, z9, z10, z11] ∧ LT H' τ ∧ Dr H7 H') ⟨none, none, none, none, none, none, rfl, lt7, Dr.refl _⟩ ?_ ?_
  · rintro i σ H8 hi ⟨z6, z7, z8, z9, z10, z11, rfl, lt8, dr8⟩
    have gv8 := gv7.dr dr8
    have gw8 := gw7.dr dr8
    -- the breaker
    refine ⟨_, rfl, _, rfl, τ, 2, rfl, by decide, lt8, fun zd H9 hzd lt9 dr9 => ?_⟩
    refine ⟨_, _, rfl, rfl, ?_⟩
    refine ⟨_, rfl, _, rfl, _, _, rfl, rfl, by show 3 ≤ sizeLine; decide, fun sh hsh0 => ?_⟩
    have s10 := same_new hsh0 (.tup [V.int 2, V.int 1, V.int ((n : Int) + (k : Int))])
    have hsh : upd H9 sh (.tup [V.int 2, V.int 1, V.int ((n : Int) + (k : Int))]) sh = some (.tup [V.int 2, V.int 1, V.int ((n + k : Nat) : Int)]) := upd_same
    revert s10 hsh
    generalize upd H9 sh (.tup [V.int 2, V.int 1, V.int ((n : Int) + (k : Int))]) = H10
    intro s10 hsh
    have lt10 := lt9.same s10
    have dr10 := dr9.trans (.of s10)
    refine br12 hsh (by omega) lt10 (by omega) fun v b H11 hb bo lt11 dr11 => ?_
    have dr12 := dr10.trans dr11
    have gv11 := gv8.dr dr12
    have gw11 := gw8.dr dr12
    -- the made one
    refine ⟨_, rfl, _, rfl, _, rfl, by show 4 ≤ sizeLine; decide, fun pm hpm => ?_⟩
    have s12 := same_new hpm (.tup [V.str "longer", V.ref p, V.int k, v])
    have hm : upd H11 pm (.tup [V.str "longer", V.ref p, V.int k, v]) pm = some (.tup [V.str "longer", V.ref p, V.int k, v]) := upd_same
    revert s12 hm
    generalize upd H11 pm (.tup [V.str "longer", V.ref p, V.int k, v]) = H12
    intro s12 hm
    have gv12 := gv11.same s12
    have gw12 := gw11.same s12
    have hb12 := hb.kt (.of s12)
    have lt12 := lt11.same s12
    have im12 : IsMade H12 pm p v b n k rows := ⟨hm, gv12, gB, hk1, by omega, hb12, bo⟩
    have gm12 : GameB H12 p (.ref pm) n (n + 1) rows (madeTree b n rows k) := ⟨gv12, gB, by omega, .inr ⟨pm, p, v, b, n, k, rows, rfl, im12, rfl, fun _ => rfl⟩⟩
    have gp12 : GameB H12 pw v n (n + k) (longerT n rows k) (fun x => b.tree x) := ⟨gw12, gBW, by omega, .inl ⟨b, hb12, bo, fun _ => rfl⟩⟩
    -- the weights
    have w1 : (win (gTree true n (n + 1) rows (madeTree b n rows k))).wt (DD n k) = madeT b n rows k rows (DD n k) := wt_made (real := true) hl fun _ => rfl
    have w2 : (win (gTree false n (n + 1) rows (madeTree b n rows k))).wt (DD n k) = madeT b n rows k (bstr (n + 1)) (DD n k) := wt_made (real := false) hl fun _ => rfl
    have w3 : (win (gTree true n (n + k) (longerT n rows k) fun x => b.tree x)).wt (DD n k) = sm (longerT n rows k) fun x => b.wt x (DD n k / (longerT n rows k).length) := wt_plain (real := true) lenW fun _ => rfl
    have w4 : (win (gTree false n (n + k) (longerT n rows k) fun x => b.tree x)).wt (DD n k) = sm (bstr (n + k)) fun x => b.wt x (DD n k / (bstr (n + k)).length) := wt_plain (real := false) lenW fun _ => rfl
    have b1 : madeT b n rows k rows (DD n k) < 2 ^ 60 := by
      rw [← w1]
      exact Nat.lt_of_le_of_lt (Tr.wt_le _ _) hD2
    have b2 : madeT b n rows k (bstr (n + 1)) (DD n k) < 2 ^ 60 := by
      rw [← w2]
      exact Nat.lt_of_le_of_lt (Tr.wt_le _ _) hD2
    have b3 : (sm (longerT n rows k) fun x => b.wt x (DD n k / (longerT n rows k).length)) < 2 ^ 150 := by
      rw [← w3]
      exact pow60 hD2 (Tr.wt_le _ _)
    have b4 : (sm (bstr (n + k)) fun x => b.wt x (DD n k / (bstr (n + k)).length)) < 2 ^ 150 := by
      rw [← w4]
      exact pow60 hD2 (Tr.wt_le _ _)
    have c1 : (2 : Nat) ^ 60 ≤ 2 ^ 149 := Nat.pow_le_pow_right (by decide) (by decide)
    have c2 : (2 : Nat) ^ 150 = 2 ^ 149 + 2 ^ 149 := by rw [Nat.pow_succ] <;> omega
    have po1 : PlayOk (gTree true n (n + 1) rows (madeTree b n rows k)) (DD n k) := playok_made (fun _ => rfl) bo (by show 2 ^ n ≤ 16; omega) hk1 (by omega) fun i hi => DD_dvd' (a := n) (by omega)
    have po2 : PlayOk (gTree false n (n + 1) rows (madeTree b n rows k)) (DD n k) := playok_made (fun _ => rfl) bo (by show 2 ^ (n + 1) ≤ 16; omega) hk1 (by omega) fun i hi => DD_dvd' (a := n + 1) (by omega)
    have po3 : PlayOk (gTree true n (n + k) (longerT n rows k) fun x => b.tree x) (DD n k) := playok_plain (fun _ => rfl) bo (by show 2 ^ n ≤ 512; omega) (DD_pdvd (a := n) (by omega))
    have po4 : PlayOk (gTree false n (n + k) (longerT n rows k) fun x => b.tree x) (DD n k) := playok_plain (fun _ => rfl) bo (by show 2 ^ (n + k) ≤ 512; omega) (DD_pdvd (a := n + k) (by omega))
    -- real
    obtain ⟨tq, hp12, ht12⟩ := id gv12
    refine ⟨_, rfl, _, rfl, _, rfl, _, rfl, p, _, _, _, rfl, rfl, SqT.of hp12, rfl, ?_⟩
    refine ⟨v, p, tq, false, b, n, k, rows, rows, DD n k, rfl, hb12, bo, gv12, gB, hk1, by omega, ht12, hrow, by omega, cntB _ (by omega), hD, hD2, fun i hi => by rw [hl]; exact DD_dvd (by omega), by omega, fun pr H13 s13 fr => ?_⟩
    -- any
    refine ⟨_, rfl, _, rfl, _, rfl, _, rfl, _, _, rfl, rfl, n + 1, rfl, by omega, fun ll H14 s14 _ hll => ?_⟩
    have s134 := s13.trans s14
    refine ⟨v, p, ll, true, b, n, k, rows, bstr (n + 1), DD n k, rfl, hb12.kt (.of s134), bo, gv12.same s134, gB, hk1, by omega, hll, fun x hx => bstr_mem hx, by rw [bstr_length]; omega, cntB _ (by rw [bstr_length]; omega), hD, hD2, fun i hi => by rw [bstr_length]; exact DD_dvd (by omega), by omega, fun pa H15 s15 fa => ?_⟩
    have s5a := s134.trans s15
    have fr15 := (fr.same s14).same s15
    -- the chance in the real game
    refine ⟨_, rfl, by show 3 ≤ sizeLine; decide, fun g1 hg1 => ?_⟩
    have s16 := same_new hg1 (.tup [V.str "generator", V.ref p, V.bl true])
    have hg16 : GameAt (upd H15 g1 (.tup [V.str "generator", V.ref p, V.bl true])) g1 p true := upd_same
    revert s16 hg16
    generalize upd H15 g1 (.tup [V.str "generator", V.ref p, V.bl true]) = H16
    intro s16 hg16
    have s6a := s5a.trans s16
    refine ⟨_, rfl, ?_⟩
    refine ⟨g1, p, .ref pm, n, n + 1, rows, true, madeTree b n rows k, DD n k, rfl, hg16, gm12.same s6a, po1, hD, hD2, fun e1 H17 s17 f17 => ?_⟩
    rw [w1] at f17
    have s7a := s6a.trans s17
    have fr17 := (fr15.same s16).same s17
    have fa17 := (fa.same s16).same s17
    refine ⟨_, rfl, e1, pr, _, _, rfl, f17, fr17, ?_⟩
    refine ⟨_, rfl, iteF ?_⟩
    -- in the other
    refine ⟨_, rfl, by show 3 ≤ sizeLine; decide, fun g2 hg2 => ?_⟩
    have s18 := same_new hg2 (.tup [V.str "generator", V.ref p, V.bl false])
    have hg18 : GameAt (upd H17 g2 (.tup [V.str "generator", V.ref p, V.bl false])) g2 p false := upd_same
    revert s18 hg18
    generalize upd H17 g2 (.tup [V.str "generator", V.ref p, V.bl false]) = H18
    intro s18 hg18
    have s8a := s7a.trans s18
    refine ⟨_, rfl, ?_⟩
    refine ⟨g2, p, .ref pm, n, n + 1, rows, false, madeTree b n rows k, DD n k, rfl, hg18, gm12.same s8a, po2, hD, hD2, fun e2 H19 s19 f19 => ?_⟩
    rw [w2] at f19
    have s9a := s8a.trans s19
    have fr19 := (fr17.same s18).same s19
    have fa19 := (fa17.same s18).same s19
    refine ⟨_, rfl, e2, pa, _, _, rfl, f19, fa19, ?_⟩
    refine ⟨_, rfl, iteF ?_⟩
    -- what is due
    refine ⟨_, rfl, _, rfl, v, pw, b, n, n + k, longerT n rows k, DD n k, rfl, hb12.kt (.of s9a), bo, gw12.same s9a, fun x hx => by rw [rowW x hx]; omega, by rw [lenW]; omega, by omega, hD, hD2, by rw [lenW]; exact DD_pdvd (by omega), DD_pdvd (by omega), b3, b4, fun pd H20 s20 fd20 => ?_⟩
    have s10a := s9a.trans s20
    have fr20 := fr19.same s20
    have fa20 := fa19.same s20
    -- the made one's advantage
    refine ⟨_, rfl, _, rfl, p, .ref pm, n, n + 1, rows, madeTree b n rows k, DD n k, rfl, gm12.same s10a, po1, po2, hD, hD2, fun e3 H21 s21 f21 => ?_⟩
    rw [w1, w2] at f21
    have s11a := s10a.trans s21
    have fr21 := fr20.same s21
    have fa21 := fa20.same s21
    refine ⟨_, rfl, _, rfl, pr, pa, _, _, DD n k, rfl, fr21, fa21, hD, hD2, by rw [Int.natAbs_natCast]; omega, by rw [Int.natAbs_natCast]; omega, fun e4 H22 s22 f22 => ?_⟩
    have s12a := s11a.trans s22
    refine ⟨e3, e4, _, _, rfl, f21.same s22, f22, ?_⟩
    refine ⟨_, rfl, iteF ?_⟩
    -- the given one's
    refine ⟨_, rfl, _, rfl, pw, v, n, n + k, longerT n rows k, (fun x => b.tree x), DD n k, rfl, gp12.same s12a, po3, po4, hD, hD2, fun e5 H23 s23 f23 => ?_⟩
    rw [w3, w4] at f23
    have s13a := s12a.trans s23
    have fd23 := ((fd20.same s21).same s22).same s23
    refine ⟨_, rfl, e5, pd, _, _, rfl, f23, fd23, ?_⟩
    refine ⟨_, rfl, iteF ?_⟩
    -- times
    have fr23 := (fr21.same s22).same s23
    have fa23 := (fa21.same s22).same s23
    refine ⟨_, rfl, _, rfl, pr, pa, _, _, DD n k, rfl, fr23, fa23, hD, hD2, by rw [Int.natAbs_natCast]; omega, by rw [Int.natAbs_natCast]; omega, fun e6 H24 s24 f24 => ?_⟩
    refine ⟨_, rfl, e6, k, _, DD n k, rfl, f24, hD, hD2, by omega, by omega, fun e7 H25 s25 f25 => ?_⟩
    rw [final_eq bo gB.ok hk1] at f25
    have fd25 := (fd23.same s24).same s25
    have s14a := (s13a.trans s24).trans s25
    refine ⟨_, rfl, _, _, fr_dp f25, fr_dp fd25, pair_shaped _ _, pair_shaped _ _, ?_⟩
    rw [pair_eqv]
    refine ⟨_, rfl, iteF ?_⟩
    exact ⟨_, _, _, _, _, _, rfl, lt12.same s14a, dr8.trans (dr12.trans ((Dr.of s12).trans (.of s14a)))⟩
  · rintro σ H' ⟨z6, z7, z8, z9, z10, z11, rfl, lt8, dr8⟩
    exact q H'
end
end Bk

set_option Elab.async false
set_option linter.all false
set_option maxRecDepth 100000
set_option maxHeartbeats 0
namespace Bk
open PySem PySem.Spec PyProof.Rows L2
theorem facts {P : Program} {w : World} {K : PySem.W.Frag} {h : Heap} {mg : Str → Option Value} {f : Addr} (X : K.In h) (G : h.Ns mainGlobals mg) (hfa : mg ("law" : Str) = some (.ref f)) (c : SaysN w K) :
    ∃ fd : FuncData, (∀ (s : Shared) (v : Value), BindsTo s fd ⟨[v], []⟩ [("_law_script", v)]) ∧ ∀ base : Heap, K.In base → base.Ns mainGlobals mg → FnOk P w K mg base CX0 60 f fd ["_law_script"] (spLaw K) := by
  have T : Tx w K mg := ⟨c, h, X, G⟩
  obtain ⟨fd, F⟩ := T.f_law
  have ef : f = He.ga K "law" := by
    have e := T.g_law
    rw [hfa] at e
    cases e
    rfl
  subst ef
  exact ⟨fd, fun s v => F.bindsA (ps := ["_law_script"]) (fun _ _ _ _ _ _ us hl => match us, hl with | [_], _ => rfl) s [v] rfl, fun base _ _ => (law_ok T F).mono (by decide)⟩
end Bk
open PySem PySem.W PySem.Calls PyProof.Rows
theorem PySem.Challenge.cw_breakback_k18_longer_exact_holds : PySem.Challenge.rw_breakback_k18_longer_exact.Holds := by
  w_on; o_law
  refine HandSHeadRun.head_imp (r := OpenLaw.row PySem.Challenge.rw_breakback_k18_longer_exact) (q := Bk.Qv) (H := Bk.hk) (ob := Bk.ob) (M := 20000) (loose := Bk.lo) (d := HandSHeadRun.topDef (OpenLaw.row PySem.Challenge.rw_breakback_k18_longer_exact).prog 127) (kwd := []) Bk.ob_eq
    Bk.run (by kernel_rfl) (by kernel_rfl) (by kernel_rfl) (by rfl) (by first | assumption | decide +kernel) (by decide +kernel) ⟨rfl, rfl, rfl, rfl, rfl, by decide +kernel⟩ ?hw ?hc
  case hw => w_witness2
  case hc =>
    refine L2.walk_ofE (l := PySem.Challenge.rw_breakback_k18_longer_exact) (n := 63) (k := 60) (x := "_law_script") (CX := L2.CX0) rfl (by decide) (by kernel_rfl) ⟨rfl, by decide, by decide⟩ ?F (fun _ _ _ _ z => z)
    intro w mg fa h Y G hmg0
    obtain ⟨K, KX, c⟩ := Y
    have hmg : mg ("law" : PySem.Str) = some (.ref fa) := by
      have e : (HandSHeadRun.topDef (OpenLaw.row PySem.Challenge.rw_breakback_k18_longer_exact).prog 127).name = ("law" : PySem.Str) := by kernel_rfl
      rw [← e]
      exact hmg0
    obtain ⟨fd, hb, hF⟩ := Bk.facts (P := (PySem.Challenge.rw_breakback_k18_longer_exact).prog) (w := w) KX G hmg c
    exact ⟨K, fd, Bk.spLaw K, KX, hb, fun H a ns hl _ hS => ⟨a, ns, rfl, hS, hl, fun _ => rfl⟩, hF⟩

