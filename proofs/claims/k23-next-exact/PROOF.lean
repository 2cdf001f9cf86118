import PyProof.Rows.All
import Wide.All
import OpenK.AllK
import Wide.FinOn
import HandS.ForMost
import PySem.Challenge.RW_breakback_k23_next_exact
import KE.KStateDown
import Wide.Once
import HandS.Exc
import HandS.Defaults
import HandS.Head0
import HandS.Head1
import HandS.Head2
import HandS.Head3
import HandS.HeadEnd
import HandS.HeadHook1
import HandS.HeadHook2
import HandS.HeadHook3
import HandS.HeadHook4
import HandS.WordsExc
import HandS.More
import HandS.Codes
import HandS.IsInst
import HandS.Wide
import HandS.WideBits
import HandS.Gcd
import HandS.RevRange
import HandS.StrMore
import HandS.Style
import HandS.Flow
import HandS.Star
import HandS.New0
import HandS.CallRecv
import HandS.TupAny
import PyProof.StrBlock2
import HandS.Walk
set_option Elab.async false
set_option linter.all false
set_option maxRecDepth 100000
set_option maxHeartbeats 4000000
/-! The text by places. -/
namespace NX
open PySem L2
def top (i : Nat) : Stmt := PySem.Challenge.pw_breakback_k23_next_exact.main.body.getD i (.Pass ⟨0, 0, 0, 0⟩)
abbrev s_bits : Stmt := top 2
abbrev s_number_of : Stmt := top 3
abbrev s_is_number : Stmt := top 15
abbrev s_is_bits : Stmt := top 16
abbrev s_is_row : Stmt := top 17
abbrev s_is_generator : Stmt := top 18
abbrev s_check_block : Stmt := top 20
abbrev s_row_at : Stmt := top 21
abbrev s_are_parts : Stmt := top 36
abbrev s_inner_plain : Stmt := top 37
abbrev s_check_plain : Stmt := top 38
abbrev s_is_length : Stmt := top 41
abbrev s_fits_word : Stmt := top 42
abbrev s_has_plain_word : Stmt := top 43
abbrev s_check_breaker : Stmt := top 44
abbrev s_made_string : Stmt := top 56
abbrev s_run_plain : Stmt := top 58
abbrev s_prefix_challenge : Stmt := top 68
abbrev s_run_next : Stmt := top 69
abbrev s_run_breaker : Stmt := top 77
abbrev s_is_truth : Stmt := top 82
abbrev s_is_right : Stmt := top 83
abbrev s_check_game : Stmt := top 84
abbrev s_cover : Stmt := top 87
abbrev s_played : Stmt := top 90
abbrev s_fraction : Stmt := top 92
abbrev s_add : Stmt := top 93
abbrev s_less : Stmt := top 94
abbrev s_next_choices : Stmt := top 95
abbrev s_ways_of : Stmt := top 97
abbrev s_chance : Stmt := top 98
abbrev s_advantage : Stmt := top 99
abbrev s__law_mixed : Stmt := top 101
abbrev s__law_tape : Stmt := top 102
abbrev s__law_draw : Stmt := top 103
abbrev s__law_pick : Stmt := top 104
abbrev s__law_bits : Stmt := top 105
abbrev s__law_string : Stmt := top 106
abbrev s__law_fraction : Stmt := top 107
abbrev s__law_sum : Stmt := top 108
abbrev s__law_less : Stmt := top 109
abbrev s__law_note : Stmt := top 110
abbrev s__law_parts : Stmt := top 111
abbrev s__law_say : Stmt := top 112
abbrev s__law_breaker : Stmt := top 113
abbrev s__law_made : Stmt := top 114
abbrev s__law_silent : Stmt := top 115
abbrev s__law_silent_chance : Stmt := top 116
abbrev s__law_strings : Stmt := top 117
abbrev s__law_generator : Stmt := top 118
abbrev s__law_generator_gain : Stmt := top 119
abbrev s__law_marked : Stmt := top 120
abbrev s__law_ones : Stmt := top 121
abbrev s__law_mean : Stmt := top 122
abbrev s__law_other : Stmt := top 123
abbrev s__law_next_chance : Stmt := top 124
abbrev s__law_is : Stmt := top 125
abbrev s__law_made_chance : Stmt := top 126
abbrev s_law : Stmt := top 127
abbrev s_Silent_answer : Stmt := inClass (top 46) 0
abbrev s_Stopped_init : Stmt := inClass (top 57) 0
abbrev s_Stopped_now : Stmt := inClass (top 57) 1
abbrev s_Notes_init : Stmt := inClass (top 86) 0
abbrev s_Notes_answer : Stmt := inClass (top 86) 1
abbrev s_Play_init : Stmt := inClass (top 85) 0
abbrev s_Table_init : Stmt := inClass (top 89) 0
abbrev s_Table_begin_challenge : Stmt := inClass (top 89) 2
abbrev s_Table_has_won : Stmt := inClass (top 89) 4
abbrev s_Tape_init : Stmt := inClass (top 79) 0
abbrev s_Tape_draw : Stmt := inClass (top 79) 1
abbrev s_Tape_string : Stmt := inClass (top 79) 2
abbrev s_Ways_init : Stmt := inClass (top 96) 0
abbrev s_Ways_count : Stmt := inClass (top 96) 1
abbrev s_Ways_chance : Stmt := inClass (top 96) 2
end NX
/-! The facts of the top, seen by one run of the kernel. -/
namespace NX
open PySem PySem.Spec PyProof.Rows L2
def d_bits : He.DefD := ⟨("bits", none), "bits", "bits", defArgs s_bits, defBody s_bits, defScope s_bits, [], []⟩
def d_number_of : He.DefD := ⟨("number_of", none), "number_of", "number_of", defArgs s_number_of, defBody s_number_of, defScope s_number_of, [], []⟩
def d_is_number : He.DefD := ⟨("is_number", none), "is_number", "is_number", defArgs s_is_number, defBody s_is_number, defScope s_is_number, [], []⟩
def d_is_bits : He.DefD := ⟨("is_bits", none), "is_bits", "is_bits", defArgs s_is_bits, defBody s_is_bits, defScope s_is_bits, [], []⟩
def d_is_row : He.DefD := ⟨("is_row", none), "is_row", "is_row", defArgs s_is_row, defBody s_is_row, defScope s_is_row, [], []⟩
def d_is_generator : He.DefD := ⟨("is_generator", none), "is_generator", "is_generator", defArgs s_is_generator, defBody s_is_generator, defScope s_is_generator, [], []⟩
def d_check_block : He.DefD := ⟨("check_block", none), "check_block", "check_block", defArgs s_check_block, defBody s_check_block, defScope s_check_block, [], []⟩
def d_row_at : He.DefD := ⟨("row_at", none), "row_at", "row_at", defArgs s_row_at, defBody s_row_at, defScope s_row_at, [], []⟩
def d_are_parts : He.DefD := ⟨("are_parts", none), "are_parts", "are_parts", defArgs s_are_parts, defBody s_are_parts, defScope s_are_parts, [], []⟩
def d_inner_plain : He.DefD := ⟨("inner_plain", none), "inner_plain", "inner_plain", defArgs s_inner_plain, defBody s_inner_plain, defScope s_inner_plain, [], []⟩
def d_check_plain : He.DefD := ⟨("check_plain", none), "check_plain", "check_plain", defArgs s_check_plain, defBody s_check_plain, defScope s_check_plain, [], []⟩
def d_is_length : He.DefD := ⟨("is_length", none), "is_length", "is_length", defArgs s_is_length, defBody s_is_length, defScope s_is_length, [], []⟩
def d_fits_word : He.DefD := ⟨("fits_word", none), "fits_word", "fits_word", defArgs s_fits_word, defBody s_fits_word, defScope s_fits_word, [], []⟩
def d_has_plain_word : He.DefD := ⟨("has_plain_word", none), "has_plain_word", "has_plain_word", defArgs s_has_plain_word, defBody s_has_plain_word, defScope s_has_plain_word, [], []⟩
def d_check_breaker : He.DefD := ⟨("check_breaker", none), "check_breaker", "check_breaker", defArgs s_check_breaker, defBody s_check_breaker, defScope s_check_breaker, [], []⟩
def d_made_string : He.DefD := ⟨("made_string", none), "made_string", "made_string", defArgs s_made_string, defBody s_made_string, defScope s_made_string, [], []⟩
def d_run_plain : He.DefD := ⟨("run_plain", none), "run_plain", "run_plain", defArgs s_run_plain, defBody s_run_plain, defScope s_run_plain, [], []⟩
def d_prefix_challenge : He.DefD := ⟨("prefix_challenge", none), "prefix_challenge", "prefix_challenge", defArgs s_prefix_challenge, defBody s_prefix_challenge, defScope s_prefix_challenge, [], []⟩
def d_run_next : He.DefD := ⟨("run_next", none), "run_next", "run_next", defArgs s_run_next, defBody s_run_next, defScope s_run_next, [], []⟩
def d_run_breaker : He.DefD := ⟨("run_breaker", none), "run_breaker", "run_breaker", defArgs s_run_breaker, defBody s_run_breaker, defScope s_run_breaker, [], []⟩
def d_is_truth : He.DefD := ⟨("is_truth", none), "is_truth", "is_truth", defArgs s_is_truth, defBody s_is_truth, defScope s_is_truth, [], []⟩
def d_is_right : He.DefD := ⟨("is_right", none), "is_right", "is_right", defArgs s_is_right, defBody s_is_right, defScope s_is_right, [], []⟩
def d_check_game : He.DefD := ⟨("check_game", none), "check_game", "check_game", defArgs s_check_game, defBody s_check_game, defScope s_check_game, [], []⟩
def d_cover : He.DefD := ⟨("cover", none), "cover", "cover", defArgs s_cover, defBody s_cover, defScope s_cover, [], []⟩
def d_played : He.DefD := ⟨("played", none), "played", "played", defArgs s_played, defBody s_played, defScope s_played, [], []⟩
def d_fraction : He.DefD := ⟨("fraction", none), "fraction", "fraction", defArgs s_fraction, defBody s_fraction, defScope s_fraction, [], []⟩
def d_add : He.DefD := ⟨("add", none), "add", "add", defArgs s_add, defBody s_add, defScope s_add, [], []⟩
def d_less : He.DefD := ⟨("less", none), "less", "less", defArgs s_less, defBody s_less, defScope s_less, [], []⟩
def d_next_choices : He.DefD := ⟨("next_choices", none), "next_choices", "next_choices", defArgs s_next_choices, defBody s_next_choices, defScope s_next_choices, [], []⟩
def d_ways_of : He.DefD := ⟨("ways_of", none), "ways_of", "ways_of", defArgs s_ways_of, defBody s_ways_of, defScope s_ways_of, [], []⟩
def d_chance : He.DefD := ⟨("chance", none), "chance", "chance", defArgs s_chance, defBody s_chance, defScope s_chance, [], [("most", .int 300000)]⟩
def d_advantage : He.DefD := ⟨("advantage", none), "advantage", "advantage", defArgs s_advantage, defBody s_advantage, defScope s_advantage, [], [("most", .int 300000)]⟩
def d__law_mixed : He.DefD := ⟨("_law_mixed", none), "_law_mixed", "_law_mixed", defArgs s__law_mixed, defBody s__law_mixed, defScope s__law_mixed, [], []⟩
def d__law_tape : He.DefD := ⟨("_law_tape", none), "_law_tape", "_law_tape", defArgs s__law_tape, defBody s__law_tape, defScope s__law_tape, [], []⟩
def d__law_draw : He.DefD := ⟨("_law_draw", none), "_law_draw", "_law_draw", defArgs s__law_draw, defBody s__law_draw, defScope s__law_draw, [], []⟩
def d__law_pick : He.DefD := ⟨("_law_pick", none), "_law_pick", "_law_pick", defArgs s__law_pick, defBody s__law_pick, defScope s__law_pick, [], []⟩
def d__law_bits : He.DefD := ⟨("_law_bits", none), "_law_bits", "_law_bits", defArgs s__law_bits, defBody s__law_bits, defScope s__law_bits, [], []⟩
def d__law_string : He.DefD := ⟨("_law_string", none), "_law_string", "_law_string", defArgs s__law_string, defBody s__law_string, defScope s__law_string, [], []⟩
def d__law_fraction : He.DefD := ⟨("_law_fraction", none), "_law_fraction", "_law_fraction", defArgs s__law_fraction, defBody s__law_fraction, defScope s__law_fraction, [], []⟩
def d__law_sum : He.DefD := ⟨("_law_sum", none), "_law_sum", "_law_sum", defArgs s__law_sum, defBody s__law_sum, defScope s__law_sum, [], []⟩
def d__law_less : He.DefD := ⟨("_law_less", none), "_law_less", "_law_less", defArgs s__law_less, defBody s__law_less, defScope s__law_less, [], []⟩
def d__law_note : He.DefD := ⟨("_law_note", none), "_law_note", "_law_note", defArgs s__law_note, defBody s__law_note, defScope s__law_note, [], []⟩
def d__law_parts : He.DefD := ⟨("_law_parts", none), "_law_parts", "_law_parts", defArgs s__law_parts, defBody s__law_parts, defScope s__law_parts, [], []⟩
def d__law_say : He.DefD := ⟨("_law_say", none), "_law_say", "_law_say", defArgs s__law_say, defBody s__law_say, defScope s__law_say, [], []⟩
def d__law_breaker : He.DefD := ⟨("_law_breaker", none), "_law_breaker", "_law_breaker", defArgs s__law_breaker, defBody s__law_breaker, defScope s__law_breaker, [], []⟩
def d__law_made : He.DefD := ⟨("_law_made", none), "_law_made", "_law_made", defArgs s__law_made, defBody s__law_made, defScope s__law_made, [], []⟩
def d__law_silent : He.DefD := ⟨("_law_silent", none), "_law_silent", "_law_silent", defArgs s__law_silent, defBody s__law_silent, defScope s__law_silent, [], []⟩
def d__law_silent_chance : He.DefD := ⟨("_law_silent_chance", none), "_law_silent_chance", "_law_silent_chance", defArgs s__law_silent_chance, defBody s__law_silent_chance, defScope s__law_silent_chance, [], []⟩
def d__law_strings : He.DefD := ⟨("_law_strings", none), "_law_strings", "_law_strings", defArgs s__law_strings, defBody s__law_strings, defScope s__law_strings, [], []⟩
def d__law_generator : He.DefD := ⟨("_law_generator", none), "_law_generator", "_law_generator", defArgs s__law_generator, defBody s__law_generator, defScope s__law_generator, [], []⟩
def d__law_generator_gain : He.DefD := ⟨("_law_generator_gain", none), "_law_generator_gain", "_law_generator_gain", defArgs s__law_generator_gain, defBody s__law_generator_gain, defScope s__law_generator_gain, [], []⟩
def d__law_marked : He.DefD := ⟨("_law_marked", none), "_law_marked", "_law_marked", defArgs s__law_marked, defBody s__law_marked, defScope s__law_marked, [], []⟩
def d__law_ones : He.DefD := ⟨("_law_ones", none), "_law_ones", "_law_ones", defArgs s__law_ones, defBody s__law_ones, defScope s__law_ones, [], []⟩
def d__law_mean : He.DefD := ⟨("_law_mean", none), "_law_mean", "_law_mean", defArgs s__law_mean, defBody s__law_mean, defScope s__law_mean, [], []⟩
def d__law_other : He.DefD := ⟨("_law_other", none), "_law_other", "_law_other", defArgs s__law_other, defBody s__law_other, defScope s__law_other, [], []⟩
def d__law_next_chance : He.DefD := ⟨("_law_next_chance", none), "_law_next_chance", "_law_next_chance", defArgs s__law_next_chance, defBody s__law_next_chance, defScope s__law_next_chance, [], []⟩
def d__law_is : He.DefD := ⟨("_law_is", none), "_law_is", "_law_is", defArgs s__law_is, defBody s__law_is, defScope s__law_is, [], []⟩
def d__law_made_chance : He.DefD := ⟨("_law_made_chance", none), "_law_made_chance", "_law_made_chance", defArgs s__law_made_chance, defBody s__law_made_chance, defScope s__law_made_chance, [], []⟩
def d_law : He.DefD := ⟨("law", none), "law", "law", defArgs s_law, defBody s_law, defScope s_law, [], []⟩
def d_Silent_answer : He.DefD := ⟨("Silent", some "answer"), "answer", "Silent.answer", defArgs s_Silent_answer, defBody s_Silent_answer, defScope s_Silent_answer, [], []⟩
def d_Stopped_init : He.DefD := ⟨("Stopped", some "__init__"), "__init__", "Stopped.__init__", defArgs s_Stopped_init, defBody s_Stopped_init, defScope s_Stopped_init, [], []⟩
def d_Stopped_now : He.DefD := ⟨("Stopped", some "now"), "now", "Stopped.now", defArgs s_Stopped_now, defBody s_Stopped_now, defScope s_Stopped_now, [], []⟩
def d_Notes_init : He.DefD := ⟨("Notes", some "__init__"), "__init__", "Notes.__init__", defArgs s_Notes_init, defBody s_Notes_init, defScope s_Notes_init, [], []⟩
def d_Notes_answer : He.DefD := ⟨("Notes", some "answer"), "answer", "Notes.answer", defArgs s_Notes_answer, defBody s_Notes_answer, defScope s_Notes_answer, [], []⟩
def d_Play_init : He.DefD := ⟨("Play", some "__init__"), "__init__", "Play.__init__", defArgs s_Play_init, defBody s_Play_init, defScope s_Play_init, [], []⟩
def d_Table_init : He.DefD := ⟨("Table", some "__init__"), "__init__", "Table.__init__", defArgs s_Table_init, defBody s_Table_init, defScope s_Table_init, [], []⟩
def d_Table_begin_challenge : He.DefD := ⟨("Table", some "begin_challenge"), "begin_challenge", "Table.begin_challenge", defArgs s_Table_begin_challenge, defBody s_Table_begin_challenge, defScope s_Table_begin_challenge, [], []⟩
def d_Table_has_won : He.DefD := ⟨("Table", some "has_won"), "has_won", "Table.has_won", defArgs s_Table_has_won, defBody s_Table_has_won, defScope s_Table_has_won, [], []⟩
def d_Tape_init : He.DefD := ⟨("Tape", some "__init__"), "__init__", "Tape.__init__", defArgs s_Tape_init, defBody s_Tape_init, defScope s_Tape_init, [], []⟩
def d_Tape_draw : He.DefD := ⟨("Tape", some "draw"), "draw", "Tape.draw", defArgs s_Tape_draw, defBody s_Tape_draw, defScope s_Tape_draw, [], []⟩
def d_Tape_string : He.DefD := ⟨("Tape", some "string"), "string", "Tape.string", defArgs s_Tape_string, defBody s_Tape_string, defScope s_Tape_string, [], []⟩
def d_Ways_init : He.DefD := ⟨("Ways", some "__init__"), "__init__", "Ways.__init__", defArgs s_Ways_init, defBody s_Ways_init, defScope s_Ways_init, [], []⟩
def d_Ways_count : He.DefD := ⟨("Ways", some "count"), "count", "Ways.count", defArgs s_Ways_count, defBody s_Ways_count, defScope s_Ways_count, [], []⟩
def d_Ways_chance : He.DefD := ⟨("Ways", some "chance"), "chance", "Ways.chance", defArgs s_Ways_chance, defBody s_Ways_chance, defScope s_Ways_chance, [], []⟩
def fnL : List He.DefD := [d_bits, d_number_of, d_is_number, d_is_bits, d_is_row, d_is_generator, d_check_block, d_row_at, d_are_parts, d_inner_plain, d_check_plain, d_is_length, d_fits_word, d_has_plain_word, d_check_breaker, d_made_string, d_run_plain, d_prefix_challenge, d_run_next, d_run_breaker, d_is_truth, d_is_right, d_check_game, d_cover, d_played, d_fraction, d_add, d_less, d_next_choices, d_ways_of, d_chance, d_advantage, d__law_mixed, d__law_tape, d__law_draw, d__law_pick, d__law_bits, d__law_string, d__law_fraction, d__law_sum, d__law_less, d__law_note, d__law_parts, d__law_say, d__law_breaker, d__law_made, d__law_silent, d__law_silent_chance, d__law_strings, d__law_generator, d__law_generator_gain, d__law_marked, d__law_ones, d__law_mean, d__law_other, d__law_next_chance, d__law_is, d__law_made_chance, d_law, d_Silent_answer, d_Stopped_init, d_Stopped_now, d_Notes_init, d_Notes_answer, d_Play_init, d_Table_init, d_Table_begin_challenge, d_Table_has_won, d_Tape_init, d_Tape_draw, d_Tape_string, d_Ways_init, d_Ways_count, d_Ways_chance]
def faL0 : List He.Fa := [.glo "bits", .glo "number_of", .glo "is_number", .glo "is_bits", .glo "is_row", .glo "is_generator", .glo "check_block", .glo "row_at", .glo "are_parts", .glo "inner_plain", .glo "check_plain", .glo "is_length", .glo "fits_word", .glo "has_plain_word", .glo "check_breaker", .glo "made_string", .glo "run_plain", .glo "prefix_challenge", .glo "run_next", .glo "run_breaker", .glo "is_truth", .glo "is_right", .glo "check_game", .glo "cover", .glo "played", .glo "fraction", .glo "add", .glo "less", .glo "next_choices", .glo "ways_of"]
def faL1 : List He.Fa := [.glo "chance", .glo "advantage", .glo "_law_mixed", .glo "_law_tape", .glo "_law_draw", .glo "_law_pick", .glo "_law_bits", .glo "_law_string", .glo "_law_fraction", .glo "_law_sum", .glo "_law_less", .glo "_law_note", .glo "_law_parts", .glo "_law_say", .glo "_law_breaker", .glo "_law_made", .glo "_law_silent", .glo "_law_silent_chance", .glo "_law_strings", .glo "_law_generator", .glo "_law_generator_gain", .glo "_law_marked", .glo "_law_ones", .glo "_law_mean", .glo "_law_other", .glo "_law_next_chance", .glo "_law_is", .glo "_law_made_chance", .glo "law", .glo "Silent"]
def faL2 : List He.Fa := [.glo "Stopped", .glo "Notes", .glo "Play", .glo "Table", .glo "Tape", .glo "Ways", .glo "OnetimeWorld", .glo "PLAIN_WORDS", .glo "RUNS", .glo "SIZES", .free "range", .free "len", .free "isinstance", .free "int", .free "bool", .free "str", .free "tuple", .free "list", .free "all", .free "abs", .free "sorted", .free "reversed", .int "MOST_LENGTH" 40, .int "MOST_BIT" 9999, .int "MOST_TOSSED" 64, .int "MOST_DEPTH" 60, .int "MOST_LAYERS" 20, .int "MOST_WITHIN" 2000, .cls "Silent", .cls "Stopped"]
def faL3 : List He.Fa := [.cls "Notes", .cls "Play", .cls "Table", .cls "Tape", .cls "Ways", .noat "Stopped" "world", .noat "Notes" "world", .noat "Notes" "asked", .noat "Play" "outcome", .noat "Play" "said", .noat "Play" "draws", .noat "Play" "asked", .noat "Table" "game", .noat "Table" "tape", .noat "Table" "kind", .noat "Table" "challenge", .noat "Table" "world", .noat "Table" "secret", .noat "Tape" "choices", .noat "Tape" "draws", .noat "Ways" "most", .noat "Ways" "many", .noat "Ways" "won", .meth "Silent" "answer", .meth "Stopped" "now", .meth "Notes" "answer", .meth "Table" "begin_challenge", .meth "Table" "has_won", .meth "Tape" "draw", .meth "Tape" "string"]
def faL4 : List He.Fa := [.meth "Ways" "count", .meth "Ways" "chance", .mkr "Stopped", .mkr "Notes", .mkr "Play", .mkr "Table", .mkr "Tape", .mkr "Ways", .keep "Silent", .keep "OnetimeWorld"]
def faL : List He.Fa := faL0 ++ faL1 ++ faL2 ++ faL3 ++ faL4
def insB (K : PySem.W.Frag) (c : Str) : Bool := He.eqO (PySem.W.findIn K (.ref (He.ga K c)) "__class__") (some (some (.builtin "object.__class__"))) && (decide (PySem.W.mroIn K (He.ga K c) (.type "object") = some true) && decide (PySem.W.kitOne K (.ref (He.ga K c)) (.ref (He.ga K "OnetimeWorld")) = some false))
def exL (K : PySem.W.Frag) : List Bool := [He.tupB K "PLAIN_WORDS" [.str "say", .str "toss", .str "look", .str "ask"], He.valsB K (He.ga K "SIZES") [("next", .int 3), ("generator", .int 3)], He.valsB K (He.ga K "RUNS") [("next", .glo "run_next")],
  He.eqO (PySem.W.nsIn K (He.ga K "RUNS") "say") (some none), He.eqO (PySem.W.nsIn K (He.ga K "RUNS") "toss") (some none), He.eqO (PySem.W.nsIn K (He.ga K "RUNS") "look") (some none), He.eqO (PySem.W.nsIn K (He.ga K "RUNS") "ask") (some none),
  He.eqO (PySem.W.nsIn K mainGlobals "gcd") (some (some (.builtin "math.gcd"))), insB K "Silent", insB K "Notes", He.eqO (PySem.W.specialIn K (.builtin "object.__class__") "__get__") (some (some (.builtin "getset_descriptor.__get__"))),
  decide (PySem.W.takesIn K (.builtin "object.__class__") = some true), PySem.W.makesIn K (He.ga K "Silent"), He.eqO (PySem.W.findIn K (.ref (He.ga K "Silent")) "__init__") (some (some (.builtin "object.__init__")))]
def exB (K : PySem.W.Frag) : Bool := (exL K).all fun b => b
def tabs : List He.Tab := [(fun K => He.ga K "RUNS", ["counter", "cut", "bit", "longer", "tree", "marks", "secrets", "once", "opening", "onetime", "next", "guess", "hard"]), (fun K => He.ga K "SIZES", ["generator", "function", "permutation", "swaps", "marks", "secrets", "once", "opening", "next", "inverse", "onetime", "hard"])]
abbrev RR : PySem.W.OpenRow := PySem.W.OpenLaw.row PySem.Challenge.rw_breakback_k23_next_exact
def asLit0 : List Addr := [3, 49, 56, 148, 153, 158, 165, 177, 184, 225, 232, 237, 258, 265, 272, 279, 537, 572, 668, 675, 721, 764, 771, 778, 834, 893, 900, 907, 914, 919]
def asLit1 : List Addr := [961, 969, 977, 984, 991, 998, 1005, 1012, 1017, 1024, 1031, 1038, 1045, 1052, 1059, 1064, 1071, 1078, 1085, 1090, 1095, 1102, 1107, 1114, 1121, 1128, 1135, 1142, 1149, 1156]
def asLit2 : List Addr := [296, 561, 823, 795, 882, 752, 950, 526, 218, 714, 757, 48, 55, 147, 152, 157, 164, 176, 183, 224, 231, 236, 257, 264, 271, 278, 536, 571, 667, 674]
def asLit3 : List Addr := [720, 763, 770, 777, 833, 892, 899, 906, 913, 918, 960, 968, 962, 976, 970, 983, 990, 997, 1004, 1011, 1016, 1023, 1030, 1037, 1044, 1051, 1058, 1063, 1070, 1077]
def asLit4 : List Addr := [1084, 1089, 1094, 1101, 1106, 1113, 1120, 1127, 1134, 1141, 1148, 1155, 295, 560, 822, 794, 881, 751, 949, 293, 551, 558, 813, 820, 792, 855, 867, 879, 735, 742]
def asLit5 : List Addr := [749, 933, 940, 947, 292, 550, 557, 812, 819, 791, 854, 866, 878, 734, 741, 748, 932, 939, 946]
def asLit : List Addr := asLit0 ++ asLit1 ++ asLit2 ++ asLit3 ++ asLit4 ++ asLit5
abbrev AlN : Type := He.AlT × Bool
def obsK (K : PySem.W.Frag) : AlN := (He.obsT faL fnL tabs K, exB K)
def valK (w : World) : AlN := (He.valT fnL tabs w, true)
def hookN : PySem.W.Hook where
  α := AlN
  obs := fun s => obsK (He.frG s.heap.get? asLit)
  val := fun w => valK w
  says := fun w h => ∃ K : PySem.W.Frag, K.In h ∧ He.SaysT faL fnL tabs w K ∧ exB K = true
  of := fun w h e => ⟨_, He.frG_in, congrArg (fun z : AlN => z.1) e, congrArg (fun z : AlN => z.2) e⟩
  keeps := fun _ _ _ ⟨K, hK, c⟩ k => ⟨K, PySem.W.Frag.In.keeps hK k, c⟩
def obN (s : PySem.W.SharedT) : AlN := obsK (He.frG (HandSHeadRun.getT s) asLit)
theorem obN_eq (s : PySem.W.SharedT) : obN s = hookN.obs s.abs := by
  have e : HandSHeadRun.getT s = s.abs.heap.get? := funext (HandSHeadRun.getT_eq s)
  show obsK (He.frG (HandSHeadRun.getT s) asLit) = obsK (He.frG s.abs.heap.get? asLit)
  rw [e]
def loose0 : List PySem.Str := ["bits", "number_of", "xor", "parity", "BreakError", "BadBlock", "BadBreaker", "BadGame", "BadChoice", "TooMany", "MOST_LENGTH", "is_number", "is_bits", "is_row", "is_generator", "is_function", "check_block", "row_at", "value_at", "put_out", "go_down", "half", "tree_turns", "PLAIN_WORDS", "MOST_BIT", "MOST_TOSSED", "MOST_DEPTH", "MOST_LAYERS", "MOST_WITHIN", "MOST_ASKS"]
def loose1 : List PySem.Str := ["MOST_COUNTED", "are_parts", "inner_plain", "check_plain", "fits_longer", "fits_tree", "is_length", "fits_word", "has_plain_word", "check_breaker", "Silent", "KeyedWorld", "AnyWorld", "PermutationWorld", "SwapWorld", "SecretWorld", "OnceWorld", "MarkWorld", "OnetimeWorld", "made_string", "Stopped", "run_plain", "run_longer", "TreeWorld", "run_tree", "run_marks", "guessed", "run_secrets", "run_once", "run_opening"]
def loose2 : List PySem.Str := ["run_onetime", "prefix_challenge", "run_next", "run_guess", "run_counter", "run_cut", "run_bit", "squares_of", "run_hard", "RUNS", "run_breaker", "Tape", "SIZES", "is_truth", "is_right", "check_game", "Play", "Notes", "cover", "function_world", "Table", "played", "fraction", "add", "less", "next_choices", "Ways", "ways_of", "chance", "advantage"]
def loose3 : List PySem.Str := ["_law_mixed", "_law_tape", "_law_draw", "_law_pick", "_law_bits", "_law_string", "_law_fraction", "_law_sum", "_law_less", "_law_note", "_law_parts", "_law_say", "_law_breaker", "_law_made", "_law_silent", "_law_silent_chance", "_law_strings", "_law_generator", "_law_generator_gain", "_law_marked", "_law_ones", "_law_mean", "_law_other", "_law_next_chance", "_law_is", "_law_made_chance"]
def looseN : List PySem.Str := loose0 ++ loose1 ++ loose2 ++ loose3
def viewN : PySem.Program := PySem.W.view RR.prog [0, 127]
theorem three {A B C D : Type} {o : Option A} {f : A → B} {g : A → C} {h : A → D} {b : B} {c : C} {d : D} (h1 : o.map f = some b) (h2 : o.map g = some c) (h3 : o.map h = some d) : o.map (fun x => (f x, g x, h x)) = some (b, c, d) := by
  cases o with
  | none => cases h1
  | some a =>
    have e1 : f a = b := Option.some.inj h1
    have e2 : g a = c := Option.some.inj h2
    have e3 : h a = d := Option.some.inj h3
    show some (f a, g a, h a) = _
    rw [e1, e2, e3]
theorem lookF (w : World) : (HandSHeadRun.wholeF (fun p => HandSHeadRun.stepQ (HandSHeadRun.denQ HandSHeadRun.tabQ) p (w.withFollow "special-get-raises" false)) HandSHeadRun.fenceQ 30000 RR.prog).map (fun x => HandSHeadRun.looksF RR.prog x.1.heap x.2.abs) = some true := by
  kernel_rfl
theorem seenF (w : World) : (HandSHeadRun.wholeF (fun p => HandSHeadRun.stepQ (HandSHeadRun.denQ HandSHeadRun.tabQ) p (w.withFollow "special-get-raises" false)) HandSHeadRun.fenceQ 30000 RR.prog).map (fun x => HandSHeadRun.seenQ viewN looseN (importedModules RR.prog.main.body) (fun s => PySem.W.xlAt viewN [] s && PySem.W.recOk RR.toRowW.records s) x.2.abs) = some (PySem.W.openGood viewN looseN) := by
  kernel_rfl
theorem obsF (w : World) : (HandSHeadRun.wholeF (fun p => HandSHeadRun.stepQ (HandSHeadRun.denQ HandSHeadRun.tabQ) p (w.withFollow "special-get-raises" false)) HandSHeadRun.fenceQ 30000 RR.prog).map (fun x => obN x.2) = some (valK (w.withFollow "special-get-raises" false)) := by
  kernel_rfl
theorem runF (w : World) : HandSHeadRun.RunEqI RR viewN hookN obN 30000 looseN (w.withFollow "special-get-raises" false) := three (lookF w) (seenF w) (obsF w)
theorem lookT (w : World) : (HandSHeadRun.wholeF (fun p => HandSHeadRun.stepQ (HandSHeadRun.denQ HandSHeadRun.tabQ) p (w.withFollow "special-get-raises" true)) HandSHeadRun.fenceQ 30000 RR.prog).map (fun x => HandSHeadRun.looksF RR.prog x.1.heap x.2.abs) = some true := by
  kernel_rfl
theorem seenT (w : World) : (HandSHeadRun.wholeF (fun p => HandSHeadRun.stepQ (HandSHeadRun.denQ HandSHeadRun.tabQ) p (w.withFollow "special-get-raises" true)) HandSHeadRun.fenceQ 30000 RR.prog).map (fun x => HandSHeadRun.seenQ viewN looseN (importedModules RR.prog.main.body) (fun s => PySem.W.xlAt viewN [] s && PySem.W.recOk RR.toRowW.records s) x.2.abs) = some (PySem.W.openGood viewN looseN) := by
  kernel_rfl
theorem obsT (w : World) : (HandSHeadRun.wholeF (fun p => HandSHeadRun.stepQ (HandSHeadRun.denQ HandSHeadRun.tabQ) p (w.withFollow "special-get-raises" true)) HandSHeadRun.fenceQ 30000 RR.prog).map (fun x => obN x.2) = some (valK (w.withFollow "special-get-raises" true)) := by
  kernel_rfl
theorem runT (w : World) : HandSHeadRun.RunEqI RR viewN hookN obN 30000 looseN (w.withFollow "special-get-raises" true) := three (lookT w) (seenT w) (obsT w)
theorem runN (w : World) : HandSHeadRun.RunEqI RR viewN hookN obN 30000 looseN w := PySem.W.byRow2 "special-get-raises" runF runT w
end NX
/-! Plain mathematics of the law: bit strings, breakers, trees of draws, chances. No program here. -/
namespace NX

/-! ### bit strings -/
abbrev Bs := List Bool
/-- the string of k bits that writes v, the lowest bit last -/
def bitsOf : Nat → Nat → Bs
  | 0, _ => []
  | k + 1, v => bitsOf k (v / 2) ++ [v % 2 == 1]
def numOf (b : Bs) : Nat := b.foldl (fun n c => n * 2 + c.toNat) 0
theorem bitsOf_len : ∀ k v, (bitsOf k v).length = k
  | 0, _ => rfl
  | k + 1, v => by simp [bitsOf, bitsOf_len k]
theorem numOf_snoc (b : Bs) (c : Bool) : numOf (b ++ [c]) = numOf b * 2 + c.toNat := by simp [numOf]
theorem numOf_bits : ∀ k v, v < 2 ^ k → numOf (bitsOf k v) = v
  | 0, v, h => by simp at h; subst h; rfl
  | k + 1, v, h => by
    have h2 : v / 2 < 2 ^ k := by rw [Nat.pow_succ] at h; omega
    rw [bitsOf, numOf_snoc, numOf_bits k _ h2]
    have q : (v % 2 == 1).toNat = v % 2 := by
      rcases Nat.mod_two_eq_zero_or_one v with e | e <;> rw [e] <;> rfl
    rw [q]; omega
theorem numOf_lt (b : Bs) : numOf b < 2 ^ b.length := by
  have g : ∀ (b : Bs) (a : Nat), b.foldl (fun n c => n * 2 + c.toNat) a < (a + 1) * 2 ^ b.length := by
    intro b
    induction b with
    | nil => intro a; simp
    | cons c r ih =>
      intro a
      have h := ih (a * 2 + c.toNat)
      have hc : c.toNat ≤ 1 := by cases c <;> decide
      simp only [List.foldl_cons, List.length_cons]
      refine Nat.lt_of_lt_of_le h ?_
      rw [Nat.pow_succ, Nat.mul_comm (2 ^ r.length) 2, ← Nat.mul_assoc]
      exact Nat.mul_le_mul_right _ (by omega)
  have := g b 0
  simpa [numOf] using this
/-- the top bit -/
theorem bitsOf_low : ∀ k v, v < 2 ^ k → bitsOf (k + 1) v = false :: bitsOf k v
  | 0, v, h => by simp at h; subst h; rfl
  | k + 1, v, h => by
    have h2 : v / 2 < 2 ^ k := by rw [Nat.pow_succ] at h; omega
    rw [bitsOf, bitsOf_low k _ h2, bitsOf]; rfl
theorem bitsOf_high : ∀ k v, v < 2 ^ k → bitsOf (k + 1) (2 ^ k + v) = true :: bitsOf k v
  | 0, v, h => by simp at h; subst h; rfl
  | k + 1, v, h => by
    have h2 : v / 2 < 2 ^ k := by rw [Nat.pow_succ] at h; omega
    have e1 : (2 ^ (k + 1) + v) / 2 = 2 ^ k + v / 2 := by rw [Nat.pow_succ]; omega
    have e2 : (2 ^ (k + 1) + v) % 2 = v % 2 := by rw [Nat.pow_succ]; omega
    rw [bitsOf, e1, e2, bitsOf_high k _ h2, bitsOf]; rfl

/-! ### sums -/
def sumN : Nat → (Nat → Rat) → Rat
  | 0, _ => 0
  | n + 1, f => sumN n f + f n
theorem sumN_congr : ∀ {n : Nat} {f g : Nat → Rat}, (∀ i, i < n → f i = g i) → sumN n f = sumN n g
  | 0, _, _, _ => rfl
  | n + 1, f, g, h => by
    rw [sumN, sumN, sumN_congr (fun i hi => h i (by omega)), h n (by omega)]
theorem sumN_add : ∀ (n : Nat) (f g : Nat → Rat), sumN n (fun i => f i + g i) = sumN n f + sumN n g
  | 0, _, _ => by simp [sumN]; grind
  | n + 1, f, g => by
    rw [sumN, sumN, sumN, sumN_add n]; grind
theorem sumN_mul : ∀ (n : Nat) (c : Rat) (f : Nat → Rat), sumN n (fun i => c * f i) = c * sumN n f
  | 0, _, _ => by simp [sumN]
  | n + 1, c, f => by
    rw [sumN, sumN, sumN_mul n]; grind
theorem sumN_div (n : Nat) (c : Rat) (f : Nat → Rat) : sumN n (fun i => f i / c) = sumN n f / c := by
  have h := sumN_mul n (c⁻¹) f
  have e : (fun i => f i / c) = fun i => c⁻¹ * f i := by funext i; rw [Rat.div_def, Rat.mul_comm]
  rw [e, h, Rat.div_def, Rat.mul_comm]
theorem sumN_const : ∀ (n : Nat) (c : Rat), sumN n (fun _ => c) = n * c
  | 0, c => by simp [sumN]
  | n + 1, c => by
    rw [sumN, sumN_const n]
    have : ((n + 1 : Nat) : Rat) = (n : Rat) + 1 := by simp
    rw [this]; grind
theorem sumN_sub (n : Nat) (f g : Nat → Rat) : sumN n (fun i => f i - g i) = sumN n f - sumN n g := by
  induction n with
  | zero => simp [sumN]; grind
  | succ n ih => rw [sumN, sumN, sumN, ih]; grind
theorem sumN_split : ∀ (a b : Nat) (f : Nat → Rat), sumN (a + b) f = sumN a f + sumN b fun i => f (a + i)
  | a, 0, f => by simp [sumN]; grind
  | a, b + 1, f => by
    show sumN (a + b) f + f (a + b) = _
    rw [sumN_split a b f, sumN]; grind
theorem sumN_swap : ∀ (n m : Nat) (f : Nat → Nat → Rat), sumN n (fun i => sumN m (f i)) = sumN m fun j => sumN n fun i => f i j
  | 0, m, f => by
    have := sumN_const m 0
    simp only [sumN]
    rw [this]; simp
  | n + 1, m, f => by
    rw [sumN, sumN_swap n m f, ← sumN_add]
    rfl
theorem sumN_tele (h : Nat → Rat) : ∀ n, sumN n (fun i => h (i + 1) - h i) = h n - h 0
  | 0 => by simp [sumN]; grind
  | n + 1 => by rw [sumN, sumN_tele h n]; grind
theorem sumN_head : ∀ (n : Nat) (f : Nat → Rat), sumN (n + 1) f = f 0 + sumN n fun i => f (i + 1)
  | 0, f => by simp [sumN]; grind
  | n + 1, f => by
    rw [sumN, sumN_head n f, sumN]; grind

/-! ### breakers -/
/-- a part of a string: a sign, or the number of a bit -/
abbrev Part := Sum Bool Nat
def bitAt (h : Bs) (n : Nat) : Bool := h.getD n false
def made (ps : List Part) (h : Bs) : Bs := ps.map fun q => match q with
  | .inl b => b
  | .inr n => bitAt h n
inductive Br where
  | say (ps : List Part)
  | toss (n : Nat) (f : Nat → Br)
  | look (n : Nat) (a b : Br)
  | ask (ps : List Part) (b : Br)
/-- the chance that it says "1" -/
def Br.p : Br → Bs → Rat
  | .say ps, h => if made ps h = [true] then 1 else 0
  | .toss n f, h => sumN n (fun i => (f i).p h) / n
  | .look k a b, h => if bitAt h k then b.p h else a.p h
  | .ask _ b, h => b.p h
def partsOk (ps : List Part) : Prop := ps.length ≤ 3 ∧ ∀ n, Sum.inr n ∈ ps → n ≤ 9999
/-- at most d deep below it; the product of the tosses on each way is at most B -/
def Br.Ok : Nat → Nat → Br → Prop
  | _, B, .say ps => partsOk ps ∧ 1 ≤ B
  | 0, _, _ => False
  | d + 1, B, .toss n f => 1 ≤ n ∧ ∃ B', n * B' ≤ B ∧ ∀ i, i < n → (f i).Ok d B'
  | d + 1, B, .look k a b => k ≤ 9999 ∧ a.Ok d B ∧ b.Ok d B
  | d + 1, B, .ask ps b => partsOk ps ∧ b.Ok d B
theorem Br.Ok.pos : ∀ {b : Br} {d B : Nat}, b.Ok d B → 1 ≤ B
  | .say ps, 0, B, h => h.2
  | .say ps, d + 1, B, h => h.2
  | .toss n f, 0, B, h => h.elim
  | .look k a b, 0, B, h => h.elim
  | .ask ps b, 0, B, h => h.elim
  | .toss n f, d + 1, B, ⟨h1, B', h2, h3⟩ => by
    have q := Br.Ok.pos (h3 0 (by omega))
    have : 1 * 1 ≤ n * B' := Nat.mul_le_mul h1 q
    omega
  | .look k a b, d + 1, B, h => Br.Ok.pos h.2.1
  | .ask ps b, d + 1, B, h => Br.Ok.pos h.2
theorem Br.Ok.mono : ∀ {b : Br} {d e B C : Nat}, d ≤ e → B ≤ C → b.Ok d B → b.Ok e C
  | .say ps, 0, 0, B, C, _, hB, h => ⟨h.1, Nat.le_trans h.2 hB⟩
  | .say ps, 0, e + 1, B, C, _, hB, h => ⟨h.1, Nat.le_trans h.2 hB⟩
  | .say ps, d + 1, e + 1, B, C, _, hB, h => ⟨h.1, Nat.le_trans h.2 hB⟩
  | .toss n f, 0, e, B, C, _, _, h => h.elim
  | .look k a b, 0, e, B, C, _, _, h => h.elim
  | .ask ps b, 0, e, B, C, _, _, h => h.elim
  | .toss n f, d + 1, e + 1, B, C, hd, hB, ⟨h1, B', h2, h3⟩ => ⟨h1, B', Nat.le_trans h2 hB, fun i hi => Br.Ok.mono (Nat.le_of_succ_le_succ hd) (Nat.le_refl _) (h3 i hi)⟩
  | .look k a b, d + 1, e + 1, B, C, hd, hB, h => ⟨h.1, Br.Ok.mono (Nat.le_of_succ_le_succ hd) hB h.2.1, Br.Ok.mono (Nat.le_of_succ_le_succ hd) hB h.2.2⟩
  | .ask ps b, d + 1, e + 1, B, C, hd, hB, h => ⟨h.1, Br.Ok.mono (Nat.le_of_succ_le_succ hd) hB h.2⟩

/-! ### trees of draws -/
inductive Tr (α : Type) where
  | ret (a : α)
  | draw (n : Nat) (k : Nat → Tr α)
def Tr.bind {α β : Type} : Tr α → (α → Tr β) → Tr β
  | .ret a, f => f a
  | .draw n k, f => .draw n fun i => (k i).bind f
/-- the way that the choices tell (noughts behind them): what comes, and the draws -/
def Tr.run {α : Type} : Tr α → List Nat → α × List (Nat × Nat)
  | .ret a, _ => (a, [])
  | .draw n k, cs => (((k (cs.headD 0)).run cs.tail).1, (cs.headD 0, n) :: ((k (cs.headD 0)).run cs.tail).2)
/-- every choice that is taken is below its number -/
def Tr.Ok {α : Type} : Tr α → List Nat → Prop
  | .ret _, _ => True
  | .draw n k, cs => cs.headD 0 < n ∧ (k (cs.headD 0)).Ok cs.tail
/-- every draw is among at least one -/
def Tr.Pos {α : Type} : Tr α → Prop
  | .ret _ => True
  | .draw n k => 0 < n ∧ ∀ i, i < n → (k i).Pos
section
variable {α β : Type}
theorem Tr.run_bind : ∀ (t : Tr α) (f : α → Tr β) (cs : List Nat), (t.bind f).run cs = (((f (t.run cs).1).run (cs.drop (t.run cs).2.length)).1, (t.run cs).2 ++ ((f (t.run cs).1).run (cs.drop (t.run cs).2.length)).2)
  | .ret a, f, cs => by simp [Tr.bind, Tr.run]
  | .draw n k, f, cs => by
    simp only [Tr.bind, Tr.run]
    rw [Tr.run_bind (k (cs.headD 0)) f cs.tail]
    simp
theorem Tr.ok_bind : ∀ {t : Tr α} {f : α → Tr β} {cs : List Nat}, (t.bind f).Ok cs → t.Ok cs ∧ (f (t.run cs).1).Ok (cs.drop (t.run cs).2.length)
  | .ret a, f, cs, h => by exact ⟨trivial, by simpa [Tr.bind, Tr.run] using h⟩
  | .draw n k, f, cs, h => by
    simp only [Tr.bind, Tr.Ok] at h
    have q := Tr.ok_bind h.2
    refine ⟨⟨h.1, q.1⟩, ?_⟩
    have q2 := q.2
    simp only [Tr.run]
    simpa using q2
theorem Tr.pos_bind : ∀ {t : Tr α} {f : α → Tr β}, t.Pos → (∀ a, (f a).Pos) → (t.bind f).Pos
  | .ret a, f, _, hf => hf a
  | .draw n k, f, h, hf => ⟨h.1, fun i hi => Tr.pos_bind (h.2 i hi) hf⟩
theorem Tr.ok_nil : ∀ {t : Tr α}, t.Pos → t.Ok []
  | .ret _, _ => trivial
  | .draw n k, h => ⟨h.1, Tr.ok_nil (h.2 0 h.1)⟩
end
/-! ### going through all ways -/
/-- the choices of the next way -/
def next : List (Nat × Nat) → Option (List Nat)
  | [] => none
  | (c, n) :: ds => match next ds with
    | some cs => some (c :: cs)
    | none => if c + 1 < n then some [c + 1] else none
abbrev Leaf (α : Type) := α × List (Nat × Nat)
def push {α : Type} (c n : Nat) (l : Leaf α) : Leaf α := (l.1, (c, n) :: l.2)
/-- the ways from the one that the choices tell on -/
def Tr.rem {α : Type} : Tr α → List Nat → List (Leaf α)
  | .ret a, _ => [(a, [])]
  | .draw n k, cs => ((k (cs.headD 0)).rem cs.tail).map (push (cs.headD 0) n) ++ (List.range' (cs.headD 0 + 1) (n - 1 - cs.headD 0)).flatMap fun j => ((k j).rem []).map (push j n)
theorem Tr.rem_step {α : Type} : ∀ {t : Tr α} {cs : List Nat}, t.Pos → t.Ok cs → (∀ cs', next (t.run cs).2 = some cs' → t.Ok cs') ∧
    t.rem cs = t.run cs :: (match next (t.run cs).2 with | some cs' => t.rem cs' | none => [])
  | .ret a, cs, _, _ => by simp [Tr.run, Tr.rem, next]
  | .draw n k, cs, hp, ho => by
    obtain ⟨i1, i2⟩ := Tr.rem_step (t := k (cs.headD 0)) (cs := cs.tail) (hp.2 _ ho.1) ho.2
    simp only [Tr.run, Tr.rem, next]
    cases e : next ((k (cs.headD 0)).run cs.tail).2 with
    | some cs' =>
      refine ⟨fun c' h => ?_, ?_⟩
      · simp only [Option.some.injEq] at h
        subst h
        exact ⟨ho.1, i1 cs' e⟩
      · rw [i2, e]
        simp [push]
    | none =>
      by_cases h : cs.headD 0 + 1 < n
      · rw [if_pos h]
        refine ⟨fun c' hc => ?_, ?_⟩
        · simp only [Option.some.injEq] at hc
          subst hc
          exact ⟨h, Tr.ok_nil (hp.2 _ h)⟩
        · rw [i2, e]
          have e1 : n - 1 - cs.headD 0 = (n - 1 - (cs.headD 0 + 1)) + 1 := by omega
          simp only [List.headD_cons, List.tail_cons]
          rw [e1, List.range'_succ]
          simp [push]
      · rw [if_neg h]
        refine ⟨fun c' hc => by simp at hc, ?_⟩
        rw [i2, e]
        have e1 : n - 1 - cs.headD 0 = 0 := by omega
        rw [e1]
        simp [push]
/-- the product of the numbers drawn among -/
def prodD (ds : List (Nat × Nat)) : Nat := ds.foldl (fun u d => u * d.2) 1
theorem prodD_from (ds : List (Nat × Nat)) : ∀ u, ds.foldl (fun u d => u * d.2) u = u * prodD ds := by
  induction ds with
  | nil => intro u; simp [prodD]
  | cons d r ih =>
    intro u
    unfold prodD
    rw [List.foldl_cons, List.foldl_cons, ih, ih (1 * d.2)]
    simp [Nat.mul_assoc]
theorem prodD_cons (d : Nat × Nat) (ds : List (Nat × Nat)) : prodD (d :: ds) = d.2 * prodD ds := by
  show ds.foldl (fun u d => u * d.2) (1 * d.2) = _
  rw [prodD_from, Nat.one_mul]
def wt (l : Leaf Bool) : Rat := if l.1 then 1 / (prodD l.2 : Rat) else 0
def sumL : List Rat → Rat
  | [] => 0
  | a :: r => a + sumL r
theorem sumL_append : ∀ (a b : List Rat), sumL (a ++ b) = sumL a + sumL b
  | [], b => by simp [sumL]; grind
  | x :: a, b => by
    show x + sumL (a ++ b) = _
    rw [sumL_append a b]
    show _ = x + sumL a + sumL b
    grind
theorem sumL_mul (c : Rat) : ∀ (a : List Rat), sumL (a.map (c * ·)) = c * sumL a
  | [] => by simp [sumL]
  | x :: a => by
    show c * x + sumL (a.map (c * ·)) = c * (x + sumL a)
    rw [sumL_mul c a]; grind
/-- the chance of True -/
def Tr.E : Tr Bool → Rat
  | .ret b => if b then 1 else 0
  | .draw n k => sumN n (fun i => (k i).E) / n
theorem wt_push (c n : Nat) (l : Leaf Bool) : wt (push c n l) = (1 / (n : Rat)) * wt l := by
  unfold wt push
  simp only [prodD_cons]
  by_cases h : l.1 = true
  · simp only [h, if_true]
    rw [Rat.div_def, Rat.div_def, Rat.div_def, Rat.one_mul, Rat.one_mul, Rat.one_mul, ← Rat.inv_mul_rev, Rat.mul_comm]
    congr 1
    simp
  · simp [h]
theorem sumL_range' (n : Nat) (f : Nat → Rat) : ∀ a, sumL ((List.range' a n).map f) = sumN n fun i => f (a + i) := by
  induction n with
  | zero => intro a; rfl
  | succ n ih =>
    intro a
    rw [List.range'_succ, List.map_cons, sumL, ih, sumN_head]
    congr 1
    refine sumN_congr fun i _ => ?_
    congr 1; omega
theorem sumL_flat {γ : Type} (f : γ → List (Leaf Bool)) : ∀ l : List γ, sumL ((l.flatMap f).map wt) = sumL (l.map fun j => sumL ((f j).map wt))
  | [] => rfl
  | x :: l => by
    rw [List.flatMap_cons, List.map_append, sumL_append, sumL_flat f l]
    rfl
/-- the sum over all ways is the chance -/
theorem Tr.sum_rem : ∀ (t : Tr Bool), t.Pos → sumL ((t.rem []).map wt) = t.E
  | .ret b, _ => by
    simp [Tr.rem, Tr.E, sumL, wt, prodD]
    cases b <;> simp <;> grind
  | .draw n k, h => by
    have m : ∀ (c : Nat) (l : List (Leaf Bool)), sumL ((l.map (push c n)).map wt) = (1 / (n : Rat)) * sumL (l.map wt) := by
      intro c l
      rw [List.map_map, ← sumL_mul, List.map_map]
      congr 1
      refine List.map_congr_left fun x _ => ?_
      exact wt_push c n x
    simp only [Tr.rem, List.headD_nil, List.tail_nil, List.map_append, sumL_append, sumL_flat]
    rw [m, Tr.sum_rem (k 0) (h.2 0 h.1)]
    have e1 : (fun j => sumL ((((k j).rem []).map (push j n)).map wt)) = fun j => (1 / (n : Rat)) * sumL (((k j).rem []).map wt) := by
      funext j; exact m j _
    rw [e1, sumL_range']
    have e2 : sumN (n - 1 - 0) (fun i => (1 / (n : Rat)) * sumL (((k (0 + 1 + i)).rem []).map wt)) = (1 / (n : Rat)) * sumN (n - 1) fun i => (k (i + 1)).E := by
      rw [← sumN_mul]
      refine sumN_congr fun i hi => ?_
      have : 0 + 1 + i = i + 1 := by omega
      rw [this, Tr.sum_rem (k (i + 1)) (h.2 _ (by omega))]
    rw [e2]
    show _ = sumN n (fun i => (k i).E) / n
    have e3 : n = (n - 1) + 1 := by have := h.1; omega
    have e4 : sumN n (fun i => (k i).E) = (k 0).E + sumN (n - 1) fun i => (k (i + 1)).E := by
      conv => lhs; rw [e3]
      exact sumN_head (n - 1) fun i => (k i).E
    rw [e4]; grind
/-- at most so many ways -/
def Tr.Most {α : Type} : Tr α → Nat → Prop
  | .ret _, b => 1 ≤ b
  | .draw n k, b => ∃ b', n * b' ≤ b ∧ ∀ i, i < n → (k i).Most b'
theorem Tr.len_rem {α : Type} : ∀ (t : Tr α) (b : Nat), t.Pos → t.Most b → (t.rem []).length ≤ b
  | .ret a, b, _, h => h
  | .draw n k, b, hp, ⟨b', hb, h⟩ => by
    simp only [Tr.rem, List.headD_nil, List.tail_nil, List.length_append, List.length_map]
    have i0 := Tr.len_rem (k 0) b' (hp.2 0 hp.1) (h 0 hp.1)
    have g : ∀ (m a : Nat), a + m ≤ n → ((List.range' a m).flatMap fun j => ((k j).rem []).map (push j n)).length ≤ m * b' := by
      intro m
      induction m with
      | zero => intro a _; simp
      | succ m ih =>
        intro a ha
        rw [List.range'_succ, List.flatMap_cons, List.length_append, List.length_map]
        have := ih (a + 1) (by omega)
        have q := Tr.len_rem (k a) b' (hp.2 a (by omega)) (h a (by omega))
        rw [Nat.add_mul]; omega
    have := g (n - 1 - 0) (0 + 1) (by have := hp.1; omega)
    have e : n * b' = (n - 1 - 0) * b' + b' := by
      have h1 := hp.1
      have : n = (n - 1 - 0) + 1 := by omega
      conv => lhs; rw [this]
      rw [Nat.add_mul]; omega
    omega
/-- of every way: what holds of its product; its draws are at most C -/
def Tr.PP {α : Type} (C : Nat) (P : Nat → Prop) (t : Tr α) : Prop := ∀ cs, t.Ok cs → P (prodD (t.run cs).2) ∧ ∀ d ∈ (t.run cs).2, d.2 ≤ C
theorem prodD_append (a b : List (Nat × Nat)) : prodD (a ++ b) = prodD a * prodD b := by
  unfold prodD
  rw [List.foldl_append, prodD_from]
  rfl
theorem Tr.pp_ret {α : Type} {C : Nat} {P : Nat → Prop} {a : α} (h : P 1) : (Tr.ret a).PP C P := fun cs _ => ⟨h, fun d hd => by simp [Tr.run] at hd⟩
theorem Tr.pp_draw {α : Type} {C n : Nat} {P Q : Nat → Prop} {k : Nat → Tr α} (hn : n ≤ C) (h : ∀ i, i < n → (k i).PP C Q) (hq : ∀ x, Q x → P (n * x)) : (Tr.draw n k).PP C P := fun cs ho => by
  obtain ⟨q, g⟩ := h _ ho.1 _ ho.2
  refine ⟨?_, fun d hd => ?_⟩
  · simp only [Tr.run, prodD_cons]
    exact hq _ q
  · simp only [Tr.run, List.mem_cons] at hd
    rcases hd with rfl | hd
    · exact hn
    · exact g d hd
theorem Tr.pp_bind {α β : Type} {C : Nat} {P Q R : Nat → Prop} {t : Tr α} {f : α → Tr β} (h : t.PP C Q) (hf : ∀ a, (f a).PP C R) (hq : ∀ x y, Q x → R y → P (x * y)) : (t.bind f).PP C P := fun cs ho => by
  obtain ⟨o1, o2⟩ := Tr.ok_bind ho
  obtain ⟨q, g⟩ := h _ o1
  obtain ⟨q2, g2⟩ := hf _ _ o2
  rw [Tr.run_bind]
  refine ⟨?_, fun d hd => ?_⟩
  · rw [prodD_append]; exact hq _ _ q q2
  · rcases List.mem_append.mp hd with hd | hd
    · exact g d hd
    · exact g2 d hd
theorem Tr.most_mono {α : Type} : ∀ {t : Tr α} {a b : Nat}, a ≤ b → t.Most a → t.Most b
  | .ret _, _, _, hab, h => Nat.le_trans h hab
  | .draw _ _, _, _, hab, ⟨b', hb, h⟩ => ⟨b', Nat.le_trans hb hab, h⟩
theorem Tr.most_bind {α β : Type} : ∀ {t : Tr α} {f : α → Tr β} {M N : Nat}, t.Most M → (∀ a, (f a).Most N) → (t.bind f).Most (M * N)
  | .ret a, f, M, N, h, hf => Tr.most_mono (by have : 1 ≤ M := h; exact Nat.le_mul_of_pos_left N this) (hf a)
  | .draw n k, f, M, N, ⟨b', hb, h⟩, hf => ⟨b' * N, by rw [← Nat.mul_assoc]; exact Nat.mul_le_mul_right _ hb, fun i hi => Tr.most_bind (h i hi) hf⟩
end NX
/-! Plain mathematics of the law, second part: the games as trees, and what the law reckons. -/
namespace NX
/-! ### the program's trees -/
def plainT : Br → Bs → Tr Bs
  | .say ps, h => .ret (made ps h)
  | .toss n f, h => .draw n fun i => plainT (f i) h
  | .look k a b, h => if bitAt h k then plainT b h else plainT a h
  | .ask _ b, h => plainT b h
def isOne (s : Bs) : Bool := decide (s = [true])
/-- the challenge of the game next -/
def prefC (y : Bs) (i : Nat) : Bs := y.take i ++ true :: List.replicate (y.length - 1 - i) false
/-- the place of the last 1 -/
def ridx (ch : Bs) : Nat := (ch.reverse.dropWhile fun c => !c).length - 1
theorem ridx_pref {y : Bs} {i : Nat} (h : i < y.length) : ridx (prefC y i) = i := by
  have g : ∀ (k : Nat) (l : Bs), (List.replicate k false ++ true :: l).dropWhile (fun c => !c) = true :: l := by
    intro k l
    induction k with
    | zero => simp
    | succ k ih => simp [List.replicate_succ, ih]
  unfold ridx prefC
  simp only [List.reverse_append, List.reverse_cons, List.reverse_replicate, List.append_assoc, List.cons_append, List.nil_append]
  rw [g]
  simp
  omega
theorem prefC_len {y : Bs} {i : Nat} (h : i < y.length) : (prefC y i).length = y.length := by
  simp [prefC]; omega
theorem prefC_take {y : Bs} {i : Nat} (h : i < y.length) : (prefC y i).take i = y.take i := by
  unfold prefC
  rw [List.take_append_of_le_length (by simp; omega)]
  exact List.take_of_length_le (by rw [List.length_take]; exact Nat.min_le_left _ _)
def flipTo (s : Bs) (c : Bool) : Bs := [if isOne s then c else !c]
def nextT (m : Nat) (b : Br) (ch : Bs) : Tr Bs :=
  .draw (2 ^ (m - ridx ch)) fun v => (plainT b (ch.take (ridx ch) ++ bitsOf (m - ridx ch) v)).bind fun s => .ret (flipTo s (bitAt (bitsOf (m - ridx ch) v) 0))
def coverT (rows : List Bs) (n m : Nat) (real : Bool) : Tr Bs := if real then .draw (2 ^ n) fun v => .ret (rows.getD v []) else .draw (2 ^ m) fun v => .ret (bitsOf m v)
def nextG (rows : List Bs) (n m : Nat) (real : Bool) (bt : Bs → Tr Bs) : Tr Bool :=
  .draw m fun i => (coverT rows n m real).bind fun y => (bt (prefC y i)).bind fun s => .ret (isOne s == bitAt y i)
def genG (rows : List Bs) (n m : Nat) (real : Bool) (bt : Bs → Tr Bs) : Tr Bool :=
  (coverT rows n m real).bind fun y => (bt y).bind fun s => .ret (isOne s)

/-! ### what the law reckons -/
def meanL (l : List Rat) : Rat := sumL l / (l.length : Rat)
def stringsL (m : Nat) : List Bs := (List.range (2 ^ m)).map (bitsOf m)
def silentC (b : Br) (chs : List Bs) : Rat := sumL (chs.map fun c => b.p c) / (chs.length : Rat)
def gainL (b : Br) (rows : List Bs) (m : Nat) : Rat := silentC b rows - silentC b (stringsL m)
def pick (c : Bool) (q : Rat) : Rat := if c then q else 1 - q
def rightL (b : Br) (m : Nat) (y : Bs) (i : Nat) : List Rat := (stringsL (m - i)).map fun w => pick (bitAt w 0 == bitAt y i) (b.p (y.take i ++ w))
def dueL (b : Br) (m : Nat) (rows : List Bs) : List Rat := rows.flatMap fun y => (List.range m).map fun i => meanL (rightL b m y i)
def due (b : Br) (m : Nat) (rows : List Bs) : Rat := meanL (dueL b m rows)
def nextCL (b : Br) (m : Nat) (rows : List Bs) : List Rat := rows.flatMap fun y => (List.range m).map fun i => pick (bitAt y i) (b.p (prefC y i))
def nextC (b : Br) (m : Nat) (rows : List Bs) : Rat := meanL (nextCL b m rows)

/-! ### sums over lists as sums over numbers -/
theorem sumL_range (n : Nat) (f : Nat → Rat) : sumL ((List.range n).map f) = sumN n f := by
  rw [List.range_eq_range', sumL_range' n f 0]
  exact sumN_congr fun i _ => by rw [Nat.zero_add]
theorem sumL_getD {γ : Type} (d : γ) (f : γ → Rat) : ∀ l : List γ, sumL (l.map f) = sumN l.length fun j => f (l.getD j d)
  | [] => rfl
  | x :: l => by
    rw [List.map_cons, sumL, sumL_getD d f l, List.length_cons, sumN_head]
    rfl
theorem sumL_flatL {γ : Type} (f : γ → List Rat) : ∀ l : List γ, sumL (l.flatMap f) = sumL (l.map fun y => sumL (f y))
  | [] => rfl
  | x :: l => by rw [List.flatMap_cons, sumL_append, sumL_flatL f l]; rfl
theorem len_flat {γ δ : Type} {f : γ → List δ} {m : Nat} : ∀ {l : List γ}, (∀ y ∈ l, (f y).length = m) → (l.flatMap f).length = l.length * m
  | [], _ => by simp
  | x :: l, h => by
    rw [List.flatMap_cons, List.length_append, len_flat (fun y hy => h y (by simp [hy])), h x (by simp), List.length_cons, Nat.add_mul]; omega
theorem stringsL_len (m : Nat) : (stringsL m).length = 2 ^ m := by simp [stringsL]
theorem sum_strings (m : Nat) (f : Bs → Rat) : sumL ((stringsL m).map f) = sumN (2 ^ m) fun v => f (bitsOf m v) := by
  unfold stringsL
  rw [List.map_map, sumL_range]
  rfl
/-- the mean over all strings of k bits -/
def A : Nat → (Bs → Rat) → Rat
  | 0, F => F []
  | k + 1, F => (A k (fun w => F (false :: w)) + A k (fun w => F (true :: w))) / 2
theorem A_eq : ∀ (k : Nat) (F : Bs → Rat), sumN (2 ^ k) (fun v => F (bitsOf k v)) / ((2 ^ k : Nat) : Rat) = A k F
  | 0, F => by simp [sumN, A, bitsOf]; grind
  | k + 1, F => by
    have e : 2 ^ (k + 1) = 2 ^ k + 2 ^ k := by rw [Nat.pow_succ]; omega
    rw [e, sumN_split]
    have e1 : sumN (2 ^ k) (fun v => F (bitsOf (k + 1) v)) = sumN (2 ^ k) fun v => (fun w => F (false :: w)) (bitsOf k v) := sumN_congr fun i hi => by rw [bitsOf_low k i hi]
    have e2 : sumN (2 ^ k) (fun v => F (bitsOf (k + 1) (2 ^ k + v))) = sumN (2 ^ k) fun v => (fun w => F (true :: w)) (bitsOf k v) := sumN_congr fun i hi => by rw [bitsOf_high k i hi]
    rw [e1, e2]
    unfold A
    rw [← A_eq k, ← A_eq k]
    have p0 : ((2 ^ k : Nat) : Rat) ≠ 0 := by
      intro h
      have h' : (2 ^ k : Nat) = 0 := by exact_mod_cast h
      exact absurd h' (Nat.pos_iff_ne_zero.mp (Nat.pow_pos (by decide)))
    have p1 : ((2 ^ k + 2 ^ k : Nat) : Rat) = ((2 ^ k : Nat) : Rat) + ((2 ^ k : Nat) : Rat) := by simp
    rw [p1]
    generalize ((2 ^ k : Nat) : Rat) = c at *
    generalize sumN (2 ^ k) (fun v => (fun w => F (false :: w)) (bitsOf k v)) = x
    generalize sumN (2 ^ k) (fun v => (fun w => F (true :: w)) (bitsOf k v)) = y
    grind
theorem A_congr : ∀ {k : Nat} {F G : Bs → Rat}, (∀ w, w.length = k → F w = G w) → A k F = A k G
  | 0, F, G, h => h [] rfl
  | k + 1, F, G, h => by
    unfold A
    rw [A_congr (F := fun w => F (false :: w)) (G := fun w => G (false :: w)) fun w hw => h _ (by simp [hw]),
      A_congr (F := fun w => F (true :: w)) (G := fun w => G (true :: w)) fun w hw => h _ (by simp [hw])]
theorem A_other : ∀ (k : Nat) (F : Bs → Rat), A k (fun w => 1 - F w) = 1 - A k F
  | 0, F => rfl
  | k + 1, F => by
    unfold A
    rw [A_other k, A_other k]
    grind
/-! ### whoever tells apart guesses the next bit -/
theorem right_mean (b : Br) (m : Nat) (y : Bs) (i : Nat) : meanL (rightL b m y i) = A (m - i) fun w => pick (bitAt w 0 == bitAt y i) (b.p (y.take i ++ w)) := by
  unfold meanL rightL
  rw [sum_strings, List.length_map, stringsL_len]
  exact A_eq (m - i) fun w => pick (bitAt w 0 == bitAt y i) (b.p (y.take i ++ w))
/-- the hybrid: the first i bits of y, the others any -/
def hyb (b : Br) (y : Bs) (i : Nat) : Rat := A (y.length - i) fun w => b.p (y.take i ++ w)
theorem take_bit {y : Bs} {i : Nat} (h : i < y.length) : y.take (i + 1) = y.take i ++ [bitAt y i] := by
  rw [List.take_succ_eq_append_getElem h]
  congr 1
  simp [bitAt, List.getD_eq_getElem?_getD, List.getElem?_eq_getElem h]
theorem right_step (b : Br) {y : Bs} {i : Nat} (h : i < y.length) : meanL (rightL b y.length y i) = 1 / 2 + (hyb b y (i + 1) - hyb b y i) := by
  rw [right_mean]
  unfold hyb
  have e : y.length - i = (y.length - (i + 1)) + 1 := by omega
  rw [e]
  generalize y.length - (i + 1) = k
  simp only [A]
  have e1 : ∀ c w, bitAt (c :: w) 0 = c := fun c w => rfl
  simp only [e1, take_bit h, List.append_assoc, List.cons_append, List.nil_append]
  cases hb : bitAt y i with
  | true =>
    have q1 : (fun w : Bs => pick (false == true) (b.p (y.take i ++ false :: w))) = fun w => 1 - b.p (y.take i ++ false :: w) := rfl
    have q2 : (fun w : Bs => pick (true == true) (b.p (y.take i ++ true :: w))) = fun w => b.p (y.take i ++ true :: w) := rfl
    rw [q1, q2, A_other]
    grind
  | false =>
    have q1 : (fun w : Bs => pick (false == false) (b.p (y.take i ++ false :: w))) = fun w => b.p (y.take i ++ false :: w) := rfl
    have q2 : (fun w : Bs => pick (true == false) (b.p (y.take i ++ true :: w))) = fun w => 1 - b.p (y.take i ++ true :: w) := rfl
    rw [q1, q2, A_other]
    grind
theorem right_sum (b : Br) (y : Bs) : sumN y.length (fun i => meanL (rightL b y.length y i)) = (y.length : Rat) / 2 + (b.p y - A y.length fun w => b.p w) := by
  rw [sumN_congr fun i hi => right_step b hi, sumN_add, sumN_const, sumN_tele]
  have e1 : hyb b y y.length = b.p y := by
    unfold hyb
    rw [Nat.sub_self]
    simp [A]
  have e0 : hyb b y 0 = A y.length fun w => b.p w := by
    unfold hyb
    simp
  rw [e1, e0]
  grind
theorem due_sum (b : Br) {m : Nat} {rows : List Bs} (hr : ∀ y ∈ rows, y.length = m) : sumL (dueL b m rows) = sumL (rows.map fun y => (m : Rat) / 2 + (b.p y - A m fun w => b.p w)) := by
  unfold dueL
  rw [sumL_flatL]
  congr 1
  refine List.map_congr_left fun y hy => ?_
  have e := hr y hy
  subst e
  rw [sumL_range]
  exact right_sum b y
theorem dueL_len (b : Br) (m : Nat) (rows : List Bs) : (dueL b m rows).length = rows.length * m := len_flat fun _ _ => by simp
theorem nextCL_len (b : Br) (m : Nat) (rows : List Bs) : (nextCL b m rows).length = rows.length * m := len_flat fun _ _ => by simp
theorem sum_lin (f : Bs → Rat) (c d : Rat) : ∀ rows : List Bs, sumL (rows.map fun y => c + (f y - d)) = (rows.length : Rat) * c + (sumL (rows.map f) - rows.length * d)
  | [] => by simp [sumL]; grind
  | x :: l => by
    have q : ((x :: l).length : Rat) = (l.length : Rat) + 1 := by simp
    rw [q]
    simp only [List.map_cons, sumL]
    rw [sum_lin f c d l]
    grind
theorem cast_ne {n : Nat} (h : 0 < n) : (n : Rat) ≠ 0 := by
  intro q
  have q' : n = 0 := by exact_mod_cast q
  omega
theorem due_gain (b : Br) {m : Nat} {rows : List Bs} (hm : 0 < m) (h0 : 0 < rows.length) (hr : ∀ y ∈ rows, y.length = m) : due b m rows - 1 / 2 = gainL b rows m / m := by
  unfold due meanL gainL silentC
  rw [due_sum b hr, sum_lin, dueL_len, sum_strings, stringsL_len, A_eq]
  have n1 := cast_ne hm
  have n2 := cast_ne h0
  have e : ((rows.length * m : Nat) : Rat) = (rows.length : Rat) * (m : Rat) := by simp
  rw [e]
  generalize (rows.length : Rat) = N at *
  generalize (m : Rat) = M at *
  generalize sumL (rows.map fun y => b.p y) = x
  have e2 : (A m fun w => b.p w) = A m b.p := rfl
  rw [e2]
  generalize A m b.p = z
  grind
theorem strings_len {m : Nat} : ∀ y ∈ stringsL m, y.length = m := fun y h => by
  unfold stringsL at h
  obtain ⟨v, _, rfl⟩ := List.mem_map.mp h
  exact bitsOf_len m v
theorem due_ideal (b : Br) {m : Nat} (hm : 0 < m) : due b m (stringsL m) = 1 / 2 := by
  have h := due_gain b (m := m) (rows := stringsL m) hm (by rw [stringsL_len]; exact Nat.pow_pos (by decide)) strings_len
  have e : gainL b (stringsL m) m = 0 := by unfold gainL; grind
  rw [e] at h
  have z : (0 : Rat) / (m : Rat) = 0 := by grind
  rw [z] at h
  grind
/-! ### the games' chances -/
theorem E_bind {α : Type} (n : Nat) (k : Nat → Tr α) (f : α → Tr Bool) : ((Tr.draw n k).bind f).E = sumN n (fun i => ((k i).bind f).E) / n := rfl
theorem E_plain : ∀ {d B : Nat} {b : Br} (h : Bs) (c : Bool), b.Ok d B → ((plainT b h).bind fun s => .ret (isOne s == c)).E = pick c (b.p h)
  | _, _, .say ps, h, c, _ => by
    simp only [plainT, Tr.bind, Tr.E, Br.p, isOne, pick]
    by_cases q : made ps h = [true]
    · cases c <;> simp [q] <;> grind
    · cases c <;> simp [q] <;> grind
  | 0, _, .toss n f, h, c, ok => ok.elim
  | 0, _, .look k a b, h, c, ok => ok.elim
  | 0, _, .ask ps b, h, c, ok => ok.elim
  | d + 1, _, .toss n f, h, c, ok => by
    show sumN n (fun i => ((plainT (f i) h).bind fun s => .ret (isOne s == c)).E) / n = _
    obtain ⟨ok1, B', _, ok3⟩ := ok
    rw [sumN_congr fun i hi => E_plain h c (ok3 i hi)]
    simp only [Br.p]
    have n0 := cast_ne (show 0 < n from ok1)
    cases c with
    | true => rfl
    | false =>
      simp only [pick]
      show sumN n (fun i => 1 - (f i).p h) / n = 1 - sumN n (fun i => (f i).p h) / n
      rw [sumN_sub, sumN_const]
      generalize sumN n (fun i => (f i).p h) = x
      generalize (n : Rat) = N at *
      grind
  | d + 1, _, .look k a b, h, c, ok => by
    simp only [plainT, Br.p]
    by_cases q : bitAt h k = true
    · rw [if_pos q, if_pos q]; exact E_plain h c ok.2.2
    · rw [if_neg q, if_neg q]; exact E_plain h c ok.2.1
  | d + 1, _, .ask ps b, h, c, ok => E_plain (b := b) h c ok.2
theorem E_isOne {d B : Nat} {b : Br} (h : Bs) (ok : b.Ok d B) : ((plainT b h).bind fun s => .ret (isOne s)).E = b.p h := by
  have e := E_plain h true ok
  have z : (fun s => Tr.ret (isOne s == true)) = fun s => (Tr.ret (isOne s) : Tr Bool) := by funext s; simp
  rw [z] at e
  exact e
theorem bind_assoc {α β γ : Type} : ∀ (t : Tr α) (f : α → Tr β) (g : β → Tr γ), (t.bind f).bind g = t.bind fun a => (f a).bind g
  | .ret a, f, g => rfl
  | .draw n k, f, g => by
    simp only [Tr.bind]
    congr 1
    funext i
    exact bind_assoc (k i) f g
theorem E_next {d B : Nat} {b : Br} {y : Bs} {i : Nat} (ok : b.Ok d B) (h : i < y.length) (c : Bool) :
    ((nextT y.length b (prefC y i)).bind fun s => .ret (isOne s == c)).E = A (y.length - i) fun w => pick (bitAt w 0 == c) (b.p (y.take i ++ w)) := by
  unfold nextT
  rw [ridx_pref h, prefC_take h, E_bind, ← A_eq]
  congr 1
  refine sumN_congr fun v _ => ?_
  rw [bind_assoc]
  have e : (fun s => (Tr.ret (flipTo s (bitAt (bitsOf (y.length - i) v) 0))).bind fun s => .ret (isOne s == c)) = fun s => (Tr.ret (isOne s == (bitAt (bitsOf (y.length - i) v) 0 == c)) : Tr Bool) := by
    funext s
    simp only [Tr.bind, flipTo]
    congr 1
    cases isOne s <;> cases c <;> cases bitAt (bitsOf (y.length - i) v) 0 <;> rfl
  rw [e]
  exact E_plain _ _ ok
/-- the sum over the draws of y is that over the rows -/
theorem E_cover {rows : List Bs} {n m : Nat} (real : Bool) (f : Bs → Tr Bool) (hl : rows.length = 2 ^ n) : ((coverT rows n m real).bind f).E = sumL ((if real then rows else stringsL m).map fun y => (f y).E) / ((if real then rows else stringsL m).length : Rat) := by
  cases real with
  | true =>
    show sumN (2 ^ n) (fun v => (f (rows.getD v [])).E) / ((2 ^ n : Nat) : Rat) = sumL (rows.map fun y => (f y).E) / (rows.length : Rat)
    rw [sumL_getD [], hl]
  | false =>
    show sumN (2 ^ m) (fun v => (f (bitsOf m v)).E) / ((2 ^ m : Nat) : Rat) = sumL ((stringsL m).map fun y => (f y).E) / ((stringsL m).length : Rat)
    rw [sum_strings, stringsL_len]
theorem E_nextG {rows : List Bs} {n m : Nat} (real : Bool) (bt : Bs → Tr Bs) (g : Bs → Nat → Rat) (hl : rows.length = 2 ^ n) (h0 : 0 < (if real then rows else stringsL m).length)
    (hg : ∀ y ∈ (if real then rows else stringsL m), ∀ i, i < m → ((bt (prefC y i)).bind fun s => .ret (isOne s == bitAt y i)).E = g y i) :
    (nextG rows n m real bt).E = meanL ((if real then rows else stringsL m).flatMap fun y => (List.range m).map fun i => g y i) := by
  unfold nextG
  have e : (fun i => ((coverT rows n m real).bind fun y => (bt (prefC y i)).bind fun s => .ret (isOne s == bitAt y i)).E) = fun i => sumL ((if real then rows else stringsL m).map fun y => ((bt (prefC y i)).bind fun s => .ret (isOne s == bitAt y i)).E) / ((if real then rows else stringsL m).length : Rat) := by
    funext i
    exact E_cover real _ hl
  show sumN m (fun i => ((coverT rows n m real).bind fun y => (bt (prefC y i)).bind fun s => .ret (isOne s == bitAt y i)).E) / m = _
  rw [e]
  generalize (if real then rows else stringsL m) = ys at *
  unfold meanL
  rw [sumL_flatL, len_flat (m := m) fun _ _ => by simp, sumN_div]
  have e2 : sumN m (fun i => sumL (ys.map fun y => ((bt (prefC y i)).bind fun s => .ret (isOne s == bitAt y i)).E)) = sumL (ys.map fun y => sumL ((List.range m).map fun i => g y i)) := by
    have e3 : ∀ i, i < m → sumL (ys.map fun y => ((bt (prefC y i)).bind fun s => .ret (isOne s == bitAt y i)).E) = sumN ys.length fun j => g (ys.getD j []) i := by
      intro i hi
      rw [← sumL_getD [] (fun y => g y i)]
      congr 1
      exact List.map_congr_left fun y hy => hg y hy i hi
    rw [sumN_congr e3, sumN_swap, sumL_getD []]
    exact sumN_congr fun j _ => by rw [sumL_range]
  rw [e2]
  have n2 := cast_ne h0
  have e4 : ((ys.length * m : Nat) : Rat) = (ys.length : Rat) * (m : Rat) := by simp
  rw [e4]
  generalize sumL (ys.map fun y => sumL ((List.range m).map fun i => g y i)) = x
  generalize (ys.length : Rat) = N at *
  generalize (m : Rat) = M at *
  grind
theorem ys_len {rows : List Bs} {n m : Nat} (real : Bool) (hl : rows.length = 2 ^ n) : 0 < (if real then rows else stringsL m).length := by
  cases real
  · show 0 < (stringsL m).length
    rw [stringsL_len]; exact Nat.pow_pos (by decide)
  · show 0 < rows.length
    rw [hl]; exact Nat.pow_pos (by decide)
theorem ys_all {rows : List Bs} {m : Nat} (real : Bool) (hr : ∀ y ∈ rows, y.length = m) : ∀ y ∈ (if real then rows else stringsL m), y.length = m := by
  cases real
  · exact strings_len
  · exact hr
theorem E_made {d B : Nat} {b : Br} {rows : List Bs} {n m : Nat} (real : Bool) (ok : b.Ok d B) (hl : rows.length = 2 ^ n) (hr : ∀ y ∈ rows, y.length = m) : (nextG rows n m real (nextT m b)).E = due b m (if real then rows else stringsL m) := by
  rw [E_nextG real (nextT m b) (fun y i => meanL (rightL b m y i)) hl (ys_len real hl)]
  · rfl
  · intro y hy i hi
    have e := ys_all real hr y hy
    subst e
    rw [E_next ok hi, right_mean]
theorem E_direct {d B : Nat} {b : Br} {rows : List Bs} {n m : Nat} (real : Bool) (ok : b.Ok d B) (hl : rows.length = 2 ^ n) : (nextG rows n m real (plainT b)).E = nextC b m (if real then rows else stringsL m) := by
  rw [E_nextG real (plainT b) (fun y i => pick (bitAt y i) (b.p (prefC y i))) hl (ys_len real hl)]
  · rfl
  · intro y _ i _
    exact E_plain _ _ ok
theorem E_gen {d B : Nat} {b : Br} {rows : List Bs} {n m : Nat} (real : Bool) (ok : b.Ok d B) (hl : rows.length = 2 ^ n) : (genG rows n m real (plainT b)).E = silentC b (if real then rows else stringsL m) := by
  unfold genG
  rw [E_cover real _ hl]
  have e : (fun y => ((plainT b y).bind fun s => .ret (isOne s)).E) = fun y => b.p y := by funext y; exact E_isOne y ok
  rw [e]
  rfl
end NX
/-! Plain mathematics of the law, third part: sizes of trees, fractions, the counts. -/
namespace NX
/-! ### fractions with a common denominator -/
theorem nic (n : Nat) : (((n : Int)) : Rat) = (n : Rat) := rfl
/-- q is z / D, z at most K -/
def Fz (D K : Nat) (q : Rat) : Prop := 0 < D ∧ ∃ z : Int, q * (D : Rat) = (z : Rat) ∧ z.natAbs ≤ K
theorem Fz.eq {D K : Nat} {q : Rat} (h : Fz D K q) : ∃ z : Int, q = mkRat z D ∧ z.natAbs ≤ K := by
  obtain ⟨h0, z, e, hz⟩ := h
  refine ⟨z, ?_, hz⟩
  rw [Rat.mkRat_eq_div, ← e]
  have := cast_ne h0
  grind
theorem Fz.den {D K : Nat} {q : Rat} (h : Fz D K q) : q.den ∣ D := by
  obtain ⟨z, e, _⟩ := h.eq
  rw [e]
  have h0 : D ≠ 0 := by have := h.1; omega
  rw [Rat.den_mkRat]
  rw [if_neg h0]
  exact Nat.div_dvd_of_dvd (Nat.gcd_dvd_left _ _)
theorem Fz.den_le {D K : Nat} {q : Rat} (h : Fz D K q) : q.den ≤ D := Nat.le_of_dvd h.1 h.den
theorem Fz.num_le {D K : Nat} {q : Rat} (h : Fz D K q) : q.num.natAbs ≤ K := by
  obtain ⟨z, e, hz⟩ := h.eq
  rw [e]
  have h0 : D ≠ 0 := by have := h.1; omega
  rw [Rat.num_mkRat]
  rw [if_neg h0]
  refine Nat.le_trans ?_ hz
  have : (z / ((D.gcd z.natAbs : Nat) : Int)).natAbs ≤ z.natAbs := Int.natAbs_ediv_le_natAbs z _
  exact this
theorem Fz.add {D K L : Nat} {a b : Rat} (h : Fz D K a) (g : Fz D L b) : Fz D (K + L) (a + b) := by
  obtain ⟨h0, z, e, hz⟩ := h
  obtain ⟨_, y, f, hy⟩ := g
  refine ⟨h0, z + y, ?_, by omega⟩
  rw [Rat.intCast_add]
  grind
theorem Fz.sub {D K L : Nat} {a b : Rat} (h : Fz D K a) (g : Fz D L b) : Fz D (K + L) (a - b) := by
  obtain ⟨h0, z, e, hz⟩ := h
  obtain ⟨_, y, f, hy⟩ := g
  refine ⟨h0, z - y, ?_, by omega⟩
  rw [Rat.intCast_sub]
  grind
theorem Fz.mono {D K L : Nat} {a : Rat} (h : Fz D K a) (hl : K ≤ L) : Fz D L a := by
  obtain ⟨h0, z, e, hz⟩ := h
  exact ⟨h0, z, e, by omega⟩
theorem Fz.scale {D K : Nat} {a : Rat} (h : Fz D K a) {c : Nat} (hc : 0 < c) : Fz (D * c) (K * c) a := by
  obtain ⟨h0, z, e, hz⟩ := h
  refine ⟨Nat.mul_pos h0 hc, z * c, ?_, ?_⟩
  · rw [Rat.intCast_mul, ← e, nic, Rat.natCast_mul]
    grind
  · rw [Int.natAbs_mul]
    exact Nat.mul_le_mul_right _ hz
theorem Fz.over {D K : Nat} {a : Rat} (h : Fz D K a) {c : Nat} (hc : 0 < c) : Fz (D * c) K (a / c) := by
  obtain ⟨h0, z, e, hz⟩ := h
  refine ⟨Nat.mul_pos h0 hc, z, ?_, hz⟩
  have := cast_ne hc
  simp
  grind
theorem Fz.zero {D : Nat} (h : 0 < D) : Fz D 0 0 := ⟨h, 0, by simp, by simp⟩
theorem Fz.one {D : Nat} (h : 0 < D) : Fz D D 1 := ⟨h, D, by rw [nic]; grind, by simp⟩
theorem Fz.frac {D d : Nat} (h : 0 < D) (hd : d ∣ D) (c : Nat) : Fz D (c * D) ((c : Rat) / (d : Rat)) := by
  obtain ⟨r, rfl⟩ := hd
  have hd : 0 < d := Nat.pos_of_mul_pos_right h
  have hr : 0 < r := Nat.pos_of_mul_pos_left h
  refine ⟨h, (c * r : Nat), ?_, ?_⟩
  · have := cast_ne hd
    rw [nic, Rat.natCast_mul, Rat.natCast_mul]
    grind
  · simp only [Int.natAbs_natCast]
    exact Nat.mul_le_mul_left _ (Nat.le_mul_of_pos_left r hd)
theorem Fz.pick {D : Nat} {q : Rat} (h : Fz D D q) (c : Bool) : Fz D (2 * D) (pick c q) := by
  cases c with
  | true => exact h.mono (by omega)
  | false => exact ((Fz.one h.1).sub h).mono (by omega)
theorem Fz.sum {D K : Nat} (h0 : 0 < D) : ∀ {l : List Rat}, (∀ q ∈ l, Fz D K q) → Fz D (l.length * K) (sumL l)
  | [], _ => by simpa [sumL] using Fz.zero h0
  | x :: l, h => by
    have a := Fz.add (h x (by simp)) (Fz.sum h0 (l := l) fun q hq => h q (by simp [hq]))
    refine a.mono ?_
    rw [List.length_cons, Nat.add_mul]; omega
/-- lowest terms -/
theorem mk_num (o : Int) {u : Nat} (h : 0 < u) : (mkRat o u).num = o / ((Nat.gcd o.natAbs u : Nat) : Int) := by
  rw [Rat.num_mkRat, if_neg (by omega), Nat.gcd_comm]
theorem mk_den (o : Int) {u : Nat} (h : 0 < u) : (((mkRat o u).den : Nat) : Int) = (u : Int) / ((Nat.gcd o.natAbs u : Nat) : Int) := by
  rw [Rat.den_mkRat, if_neg (by omega), Nat.gcd_comm]
  rfl
theorem rat_mk (q : Rat) : q = mkRat q.num q.den := (Rat.mkRat_self q).symm
theorem add_mk (a b : Rat) : mkRat (a.num * (b.den : Int) + b.num * (a.den : Int)) (a.den * b.den) = a + b := by
  conv => rhs; rw [rat_mk a, rat_mk b]
  rw [Rat.mkRat_add_mkRat _ _ a.den_nz b.den_nz]
theorem sub_mk (a b : Rat) : mkRat (a.num * (b.den : Int) - b.num * (a.den : Int)) (a.den * b.den) = a - b := by
  have h := add_mk a (-b)
  rw [Rat.neg_num, Rat.neg_den, Int.neg_mul] at h
  rw [← Int.sub_eq_add_neg, ← Rat.sub_eq_add_neg] at h
  exact h
theorem add_frac (a : Rat) (c d : Nat) (hd : 0 < d) : mkRat (a.num * (d : Int) + (c : Int) * (a.den : Int)) (a.den * d) = a + (c : Rat) / (d : Rat) := by
  conv => rhs; rw [rat_mk a]
  have e : (c : Rat) / (d : Rat) = mkRat (c : Int) d := by rw [Rat.mkRat_eq_div]; rfl
  rw [e, Rat.mkRat_add_mkRat _ _ a.den_nz (by omega)]
theorem div_mk (a : Rat) (n : Nat) (h : 0 < n) : mkRat a.num (a.den * n) = a / (n : Rat) := by
  conv => rhs; rw [rat_mk a]
  rw [Rat.mkRat_eq_div, Rat.mkRat_eq_div]
  have h1 := cast_ne h
  have h2 := cast_ne (Nat.pos_of_ne_zero a.den_nz)
  simp
  grind
theorem other_mk (a : Rat) : mkRat ((a.den : Int) - a.num) a.den = 1 - a := by
  conv => rhs; rw [rat_mk a]
  rw [Rat.mkRat_eq_div, Rat.mkRat_eq_div]
  have h2 := cast_ne (Nat.pos_of_ne_zero a.den_nz)
  rw [Rat.intCast_sub, nic]
  grind
/-- Euclid's turns -/
structure Euc (N i a b g : Nat) : Prop where
  gc : Nat.gcd a b = g
  b0 : 0 < b
  lt : (i = 0 ∧ a * b < 2 ^ N) ∨ (1 ≤ i ∧ a < b ∧ a * b * 2 ^ (i - 1) < 2 ^ N)
theorem Euc.step {N i a b g : Nat} (h : Euc N i a b g) (ha : a ≠ 0) : Euc N (i + 1) (b % a) a g := by
  refine ⟨?_, by omega, .inr ⟨by omega, Nat.mod_lt _ (by omega), ?_⟩⟩
  · rw [← h.gc, Nat.gcd_rec a b]
  · rcases h.lt with ⟨rfl, q⟩ | ⟨hi, hab, q⟩
    · simp only [Nat.zero_add, Nat.sub_self, Nat.pow_zero, Nat.mul_one]
      refine Nat.lt_of_le_of_lt ?_ q
      rw [Nat.mul_comm a b]
      exact Nat.mul_le_mul_right _ (Nat.mod_le b a)
    · have e : 2 ^ (i + 1 - 1) = 2 * 2 ^ (i - 1) := by
        have : i + 1 - 1 = (i - 1) + 1 := by omega
        rw [this, Nat.pow_succ]; omega
      rw [e]
      have h2 : 2 * (b % a) ≤ b := by
        have h3 : b % a < a := Nat.mod_lt _ (by omega)
        have h4 : a * (b / a) + b % a = b := Nat.div_add_mod b a
        have h5 : 1 ≤ b / a := (Nat.one_le_div_iff (by omega)).mpr (by omega)
        have h6 : a * 1 ≤ a * (b / a) := Nat.mul_le_mul_left _ h5
        omega
      refine Nat.lt_of_le_of_lt ?_ q
      have h3 : b % a * a * (2 * 2 ^ (i - 1)) = (2 * (b % a)) * (a * 2 ^ (i - 1)) := by
        rw [Nat.mul_comm 2 (b % a), Nat.mul_assoc, Nat.mul_assoc, ← Nat.mul_assoc a 2, Nat.mul_comm a 2, Nat.mul_assoc]
      have h4 : a * b * 2 ^ (i - 1) = b * (a * 2 ^ (i - 1)) := by rw [Nat.mul_comm a b, Nat.mul_assoc]
      rw [h3, h4]
      exact Nat.mul_le_mul_right _ h2
theorem Euc.done {N a b g : Nat} (h : Euc N 4000 a b g) (hN : N ≤ 3999) : a = 0 := by
  rcases h.lt with ⟨q, _⟩ | ⟨_, _, q⟩
  · omega
  · rcases Nat.eq_zero_or_pos (a * b) with z | z
    · rcases Nat.mul_eq_zero.mp z with z | z
      · exact z
      · have := h.b0; omega
    · have : 2 ^ N ≤ 2 ^ (4000 - 1) := Nat.pow_le_pow_right (by decide) hN
      have q2 : 1 * 2 ^ (4000 - 1) ≤ a * b * 2 ^ (4000 - 1) := Nat.mul_le_mul_right _ z
      generalize 2 ^ (4000 - 1) = X at *
      omega
theorem Euc.zero {N i b g : Nat} (h : Euc N i 0 b g) : b = g := by
  have := h.gc
  simpa using this
theorem Euc.start {N a b : Nat} (h : a * b < 2 ^ N) (hb : 0 < b) : Euc N 0 a b (Nat.gcd a b) := ⟨rfl, hb, .inl ⟨rfl, h⟩⟩
/-! ### counts -/
abbrev Cnt := List (Nat × Nat)
def note (d : Nat) : Cnt → Cnt
  | [] => [(d, 1)]
  | (e, c) :: r => if e = d then (e, c + 1) :: r else (e, c) :: note d r
def cntVal (l : Cnt) : Rat := sumL (l.map fun x => (x.2 : Rat) / (x.1 : Rat))
def cntSum (l : Cnt) : Nat := (l.map (·.2)).sum
def notes (ds : List Nat) (l : Cnt) : Cnt := ds.foldl (fun l d => note d l) l
theorem note_val (d : Nat) : ∀ l : Cnt, cntVal (note d l) = cntVal l + 1 / (d : Rat)
  | [] => by
    simp [note, cntVal, sumL]
    grind
  | (e, c) :: r => by
    unfold note
    by_cases h : e = d
    · subst h
      rw [if_pos rfl]
      unfold cntVal
      simp [sumL]
      grind
    · rw [if_neg h]
      have ih := note_val d r
      unfold cntVal at *
      simp [sumL]
      rw [ih]
      grind
theorem note_sum (d : Nat) : ∀ l : Cnt, cntSum (note d l) = cntSum l + 1
  | [] => by simp [note, cntSum]
  | (e, c) :: r => by
    unfold note
    by_cases h : e = d
    · rw [if_pos h]; simp [cntSum]; omega
    · rw [if_neg h]
      have ih := note_sum d r
      simp [cntSum] at *
      omega
theorem note_len (d : Nat) : ∀ l : Cnt, (note d l).length ≤ l.length + 1
  | [] => by simp [note]
  | (e, c) :: r => by
    unfold note
    by_cases h : e = d
    · rw [if_pos h]; simp
    · rw [if_neg h]
      have ih := note_len d r
      simp
      exact ih
theorem note_keys (d : Nat) : ∀ l : Cnt, (note d l).map (·.1) = if d ∈ l.map (·.1) then l.map (·.1) else l.map (·.1) ++ [d]
  | [] => by simp [note]
  | (e, c) :: r => by
    unfold note
    by_cases h : e = d
    · subst h
      simp
    · rw [if_neg h, List.map_cons, note_keys d r]
      have h2 : ¬ d = e := fun q => h q.symm
      by_cases g : d ∈ r.map (·.1)
      · rw [if_pos g, if_pos (by simp only [List.map_cons, List.mem_cons]; exact .inr g)]
        rfl
      · rw [if_neg g, if_neg (by simp only [List.map_cons, List.mem_cons]; rintro (q | q); exact h2 q; exact g q)]
        rfl
theorem note_nodup (d : Nat) {l : Cnt} (h : (l.map (·.1)).Nodup) : ((note d l).map (·.1)).Nodup := by
  rw [note_keys]
  by_cases g : d ∈ l.map (·.1)
  · rw [if_pos g]; exact h
  · rw [if_neg g]
    refine List.nodup_append.mpr ⟨h, by simp, ?_⟩
    intro a ha b hb e
    simp at hb
    subst hb
    subst e
    exact g ha
theorem note_mem (d : Nat) {l : Cnt} {x : Nat} (h : x ∈ (note d l).map (·.1)) : x = d ∨ x ∈ l.map (·.1) := by
  rw [note_keys] at h
  by_cases g : d ∈ l.map (·.1)
  · rw [if_pos g] at h; exact .inr h
  · rw [if_neg g] at h
    rcases List.mem_append.mp h with h | h
    · exact .inr h
    · simp at h; exact .inl h
theorem notes_val : ∀ (ds : List Nat) (l : Cnt), cntVal (notes ds l) = cntVal l + sumL (ds.map fun (d : Nat) => 1 / (d : Rat))
  | [], l => by simp [notes, sumL]; grind
  | d :: ds, l => by
    show cntVal (notes ds (note d l)) = _
    rw [notes_val ds, note_val]
    simp [sumL]
    grind
theorem notes_sum : ∀ (ds : List Nat) (l : Cnt), cntSum (notes ds l) = cntSum l + ds.length
  | [], l => by simp [notes]
  | d :: ds, l => by
    show cntSum (notes ds (note d l)) = _
    rw [notes_sum ds, note_sum, List.length_cons]; omega
theorem notes_append (a b : List Nat) (l : Cnt) : notes (a ++ b) l = notes b (notes a l) := List.foldl_append
theorem notes_nodup : ∀ (ds : List Nat) {l : Cnt}, (l.map (·.1)).Nodup → ((notes ds l).map (·.1)).Nodup
  | [], l, h => h
  | d :: ds, l, h => notes_nodup ds (note_nodup d h)
theorem notes_mem : ∀ (ds : List Nat) {l : Cnt} {x : Nat}, x ∈ (notes ds l).map (·.1) → x ∈ ds ∨ x ∈ l.map (·.1)
  | [], l, x, h => .inr h
  | d :: ds, l, x, h => by
    rcases notes_mem ds (l := note d l) h with q | q
    · exact .inl (by simp [q])
    · rcases note_mem d q with q | q
      · exact .inl (by simp [q])
      · exact .inr q
theorem notes_len : ∀ (ds : List Nat) (l : Cnt), (notes ds l).length ≤ l.length + ds.length
  | [], l => by simp [notes]
  | d :: ds, l => by
    have := notes_len ds (note d l)
    have := note_len d l
    show (notes ds (note d l)).length ≤ _
    rw [List.length_cons]; omega
/-- the denominators of the ways in which it says "1" -/
def Br.wins : Br → Bs → Nat → List Nat
  | .say ps, h, d => if made ps h = [true] then [d] else []
  | .toss n f, h, d => (List.range n).flatMap fun i => (f i).wins h (d * n)
  | .look k a b, h, d => if bitAt h k then b.wins h d else a.wins h d
  | .ask _ b, h, d => b.wins h d
theorem sumL_map_flat {γ : Type} (g : Nat → Rat) (f : γ → List Nat) : ∀ l : List γ, sumL ((l.flatMap f).map g) = sumL (l.map fun j => sumL ((f j).map g))
  | [] => rfl
  | x :: l => by rw [List.flatMap_cons, List.map_append, sumL_append, sumL_map_flat g f l]; rfl
theorem wins_val : ∀ (b : Br) (h : Bs) (d : Nat), sumL ((b.wins h d).map fun (d : Nat) => 1 / (d : Rat)) = b.p h / (d : Rat)
  | .say ps, h, d => by
    simp only [Br.wins, Br.p]
    by_cases q : made ps h = [true]
    · rw [if_pos q, if_pos q]; simp [sumL]; grind
    · rw [if_neg q, if_neg q]; simp [sumL]; grind
  | .toss n f, h, d => by
    simp only [Br.wins, Br.p]
    rw [sumL_map_flat, sumL_range, sumN_congr fun i _ => wins_val (f i) h (d * n), sumN_div]
    have e : ((d * n : Nat) : Rat) = (d : Rat) * (n : Rat) := by simp
    rw [e]
    grind
  | .look k a b, h, d => by
    simp only [Br.wins, Br.p]
    by_cases q : bitAt h k = true
    · rw [if_pos q, if_pos q]; exact wins_val b h d
    · rw [if_neg q, if_neg q]; exact wins_val a h d
  | .ask _ b, h, d => wins_val b h d
theorem wins_mem : ∀ {b : Br} {dp B : Nat} (h : Bs) (d : Nat), b.Ok dp B → ∀ x ∈ b.wins h d, ∃ P, 1 ≤ P ∧ P ≤ B ∧ x = d * P
  | .say ps, dp, B, h, d, ok, x, hx => by
    have hB := ok.pos
    simp only [Br.wins] at hx
    by_cases q : made ps h = [true]
    · rw [if_pos q] at hx
      simp at hx
      exact ⟨1, Nat.le_refl _, hB, by omega⟩
    · rw [if_neg q] at hx
      simp at hx
  | .toss n f, 0, B, h, d, ok, x, hx => ok.elim
  | .look k a b, 0, B, h, d, ok, x, hx => ok.elim
  | .ask ps b, 0, B, h, d, ok, x, hx => ok.elim
  | .toss n f, dp + 1, B, h, d, ⟨h1, B', h2, h3⟩, x, hx => by
    simp only [Br.wins] at hx
    obtain ⟨i, hi, hx⟩ := List.mem_flatMap.mp hx
    obtain ⟨P, p1, p2, rfl⟩ := wins_mem h (d * n) (h3 i (List.mem_range.mp hi)) x hx
    refine ⟨n * P, Nat.mul_pos h1 p1, Nat.le_trans (Nat.mul_le_mul_left n p2) h2, by rw [Nat.mul_assoc]⟩
  | .look k a b, dp + 1, B, h, d, ok, x, hx => by
    simp only [Br.wins] at hx
    by_cases q : bitAt h k = true
    · rw [if_pos q] at hx; exact wins_mem h d ok.2.2 x hx
    · rw [if_neg q] at hx; exact wins_mem h d ok.2.1 x hx
  | .ask ps b, dp + 1, B, h, d, ok, x, hx => wins_mem (b := b) h d ok.2 x hx
theorem flat_len {γ : Type} {f : Nat → List γ} {B' : Nat} : ∀ {n : Nat}, (∀ i, i < n → (f i).length ≤ B') → ((List.range n).flatMap f).length ≤ n * B'
  | 0, _ => by simp
  | n + 1, h => by
    rw [List.range_succ, List.flatMap_append, List.length_append]
    have a := flat_len (n := n) fun i hi => h i (by omega)
    have b := h n (by omega)
    rw [List.flatMap_singleton, Nat.add_mul]; omega
theorem wins_len : ∀ {b : Br} {dp B : Nat} (h : Bs) (d : Nat), b.Ok dp B → (b.wins h d).length ≤ B
  | .say ps, dp, B, h, d, ok => by
    have hB := ok.pos
    simp only [Br.wins]
    by_cases q : made ps h = [true]
    · rw [if_pos q]; exact hB
    · rw [if_neg q]; exact Nat.zero_le _
  | .toss n f, 0, B, h, d, ok => ok.elim
  | .look k a b, 0, B, h, d, ok => ok.elim
  | .ask ps b, 0, B, h, d, ok => ok.elim
  | .toss n f, dp + 1, B, h, d, ⟨h1, B', h2, h3⟩ => by
    simp only [Br.wins]
    exact Nat.le_trans (flat_len fun i hi => wins_len h (d * n) (h3 i hi)) h2
  | .look k a b, dp + 1, B, h, d, ok => by
    simp only [Br.wins]
    by_cases q : bitAt h k = true
    · rw [if_pos q]; exact wins_len h d ok.2.2
    · rw [if_neg q]; exact wins_len h d ok.2.1
  | .ask ps b, dp + 1, B, h, d, ok => wins_len (b := b) h d ok.2
theorem twelve : ∀ P : Nat, 1 ≤ P → P ≤ 12 → P ∣ 27720 := by
  intro P h1 h2
  have : ∀ P : Fin 13, 1 ≤ P.val → P.val ∣ 27720 := by decide
  exact this ⟨P, by omega⟩ h1
theorem p_le : ∀ (b : Br) (h : Bs) {dp B : Nat}, b.Ok dp B → 0 ≤ b.p h ∧ b.p h ≤ 1
  | .say ps, h, dp, B, ok => by
    simp only [Br.p]
    by_cases q : made ps h = [true]
    · rw [if_pos q]; exact ⟨by decide, by decide⟩
    · rw [if_neg q]; exact ⟨by decide, by decide⟩
  | .toss n f, h, 0, B, ok => ok.elim
  | .look k a b, h, 0, B, ok => ok.elim
  | .ask ps b, h, 0, B, ok => ok.elim
  | .toss n f, h, dp + 1, B, ⟨h1, B', h2, h3⟩ => by
    simp only [Br.p]
    have g : ∀ k, k ≤ n → 0 ≤ sumN k (fun i => (f i).p h) ∧ sumN k (fun i => (f i).p h) ≤ (k : Rat) := by
      intro k
      induction k with
      | zero => intro _; simp [sumN]
      | succ k ih =>
        intro hk
        obtain ⟨a1, a2⟩ := ih (by omega)
        obtain ⟨b1, b2⟩ := p_le (f k) h (h3 k (by omega))
        have e : ((k + 1 : Nat) : Rat) = (k : Rat) + 1 := by simp
        rw [sumN, e]
        grind
    obtain ⟨g1, g2⟩ := g n (Nat.le_refl _)
    have n0 : (0 : Rat) < (n : Rat) := by exact_mod_cast h1
    generalize sumN n (fun i => (f i).p h) = x at *
    generalize (n : Rat) = N at *
    have i0 : (0 : Rat) < N⁻¹ := Rat.inv_pos.mpr n0
    have i1 : N * N⁻¹ = 1 := by grind
    constructor
    · rw [Rat.div_def]; exact Rat.mul_nonneg g1 (Rat.le_of_lt i0)
    · rw [Rat.div_def, ← i1]; exact Rat.mul_le_mul_of_nonneg_right g2 (Rat.le_of_lt i0)
  | .look k a b, h, dp + 1, B, ok => by
    simp only [Br.p]
    by_cases q : bitAt h k = true
    · rw [if_pos q]; exact p_le b h ok.2.2
    · rw [if_neg q]; exact p_le a h ok.2.1
  | .ask ps b, h, dp + 1, B, ok => p_le b h ok.2
end NX
/-! My own small layer: defs by their places, a def's promise by its body. -/
namespace NX
open PySem PySem.Spec PyProof.Rows L2
open C8 (Cal Met Mak pe_c pe_mk pe_mt pe_mt0)
/-- a def of the module -/
structure FnAt (K : PySem.W.Frag) (mg : Str → Option Value) (x : Str) (st : Stmt) : Prop where
  ex : ∃ (f : Addr) (fd : FuncData), mg x = some (.ref f) ∧ FunD K x x (defArgs st) (defBody st) (defScope st) [] [] f fd
/-- a method of the class at C -/
structure MtAt (K : PySem.W.Frag) (C : Addr) (m qual : Str) (st : Stmt) : Prop where
  ex : ∃ (f : Addr) (fd : FuncData), Cls K C ∧ Meth K C m f ∧ FunD K m qual (defArgs st) (defBody st) (defScope st) [] [] f fd
/-- a class's __init__ -/
structure InAt (K : PySem.W.Frag) (mg : Str → Option Value) (x : Str) (C : Addr) (qual : Str) (st : Stmt) : Prop where
  ex : ∃ (f : Addr) (fd : FuncData), Mk K C f ∧ mg x = some (.ref C) ∧ FunD K "__init__" qual (defArgs st) (defBody st) (defScope st) [] [] f fd
/-- how arguments bind, no defaults -/
abbrev Bd (x qual : Str) (st : Stmt) (ps : List Str) : Prop := ∀ (kV doc pm : Value) (an : Option Addr) (cdv ct : Value) (us : List Value), us.length = ps.length →
  bindArgs (PySem.W.fnOf x qual (defArgs st) (defBody st) (defScope st) .none kV doc pm an cdv ct) ⟨us, []⟩ = pure (ps.zip us)
section
variable {P : Program} {w : World} {K : PySem.W.Frag} {mg : Str → Option Value} {base : Heap} {N ps : List Str} {k : Nat} {sp : Sp}
theorem FnAt.cal {x : Str} {st : Stmt} (F : FnAt K mg x st) (S : FnScope N ps (defScope st)) (b : Bd x x st ps) (len : ∀ vs H Q E, sp vs H Q E → vs.length = ps.length)
    (hbody : ∀ (f : Addr) (cdv : Value) (A : Around) (outer : List Env) (s : Shared) (H : Hp) (vs : List V) (Q : VK) (E : XK), Room k (A.deeper (envOfC x (defScope st) s.heap.objs.size f cdv)) → sp vs H Q E →
      ∃ t, PSs (cxOf CX0 P w K mg base N x (defScope st) f cdv A outer s H E).nox (defBody st) t ∧ t { nx := fun _ H' => Q .non H', rt := Q } (start N vs) H) : Cal P w K mg base (k + 1) x sp [] := by
  obtain ⟨f, fd, hm, FD⟩ := F.ex
  refine ⟨f, fd, ps, [], FD.ok S len (fun cdv A outer s H vs Q E hr h => ?_), hm, FD.kp, FD.bindsN b, .nil⟩
  obtain ⟨t, h1, h2⟩ := hbody f cdv A outer s H vs Q E hr h
  exact ⟨t, h1.nox, h2⟩
theorem MtAt.met {C : Addr} {m qual : Str} {st : Stmt} (F : MtAt K C m qual st) (S : FnScope N ps (defScope st)) (b : Bd m qual st ps) (len : ∀ vs H Q E, sp vs H Q E → vs.length = ps.length)
    (hbody : ∀ (f : Addr) (cdv : Value) (A : Around) (outer : List Env) (s : Shared) (H : Hp) (vs : List V) (Q : VK) (E : XK), Room k (A.deeper (envOfC qual (defScope st) s.heap.objs.size f cdv)) → sp vs H Q E →
      ∃ t, PSs (cxOf CX0 P w K mg base N qual (defScope st) f cdv A outer s H E).nox (defBody st) t ∧ t { nx := fun _ H' => Q .non H', rt := Q } (start N vs) H) : Met P w K mg base (k + 1) C m sp [] := by
  obtain ⟨f, fd, hc, hm, FD⟩ := F.ex
  refine ⟨f, fd, ps, [], hc, hm, FD.ok S len (fun cdv A outer s H vs Q E hr h => ?_), FD.bindsN b, .nil⟩
  obtain ⟨t, h1, h2⟩ := hbody f cdv A outer s H vs Q E hr h
  exact ⟨t, h1.nox, h2⟩
theorem InAt.mak {x : Str} {C : Addr} {qual : Str} {st : Stmt} (F : InAt K mg x C qual st) (S : FnScope N ps (defScope st)) (b : Bd "__init__" qual st ps) (len : ∀ vs H Q E, sp vs H Q E → vs.length = ps.length)
    (hbody : ∀ (f : Addr) (cdv : Value) (A : Around) (outer : List Env) (s : Shared) (H : Hp) (vs : List V) (Q : VK) (E : XK), Room k (A.deeper (envOfC qual (defScope st) s.heap.objs.size f cdv)) → sp vs H Q E →
      ∃ t, PSs (cxOf CX0 P w K mg base N qual (defScope st) f cdv A outer s H E).nox (defBody st) t ∧ t { nx := fun _ H' => Q .non H', rt := Q } (start N vs) H) : Mak P w K mg base (k + 1) x C sp [] := by
  obtain ⟨f, fd, hc, hm, FD⟩ := F.ex
  refine ⟨f, fd, ps, [], hc, FD.ok S len (fun cdv A outer s H vs Q E hr h => ?_), hm, FD.bindsN b, .nil⟩
  obtain ⟨t, h1, h2⟩ := hbody f cdv A outer s H vs Q E hr h
  exact ⟨t, h1.nox, h2⟩
end
/-! ### a few rules more -/
section
variable {X : Cx} {x : Str} {pos p : Pos}
theorem pe_gi {i : Int} (h : ∃ t, X.mg x = some (.int i t)) (hg : Gl X x := by rfl) (hd : (x == ("__debug__" : Str)) = false := by decide) : PE X (.Name x pos) (tC (.int i)) := by
  obtain ⟨t, hm⟩ := h
  exact pe_glob hg hm ⟨t, rfl⟩ hd
theorem pe_gr {a : Addr} (h : X.mg x = some (.ref a)) (hg : Gl X x := by rfl) (hd : (x == ("__debug__" : Str)) = false := by decide) : PE X (.Name x pos) (tC (.ref a)) := pe_glob hg h rfl hd
/-- text * int -/
theorem op_repS : OpR X (binaryOp .Mult) (fun x y H Q => ∃ (z : Str) (n : Int), x = .str z ∧ y = .int n ∧ MulOk z n ∧ Q (.str (Txt.mul z n)) H) := by
  intro pins s σ H x y v u Q I rx ry h
  obtain ⟨z, n, rfl, rfl, ok, q⟩ := h
  obtain ⟨t, rfl⟩ := rx
  obtain ⟨t2, rfl⟩ := ry
  exact SB.mul ok fun t' k => ⟨.str _, H, I.tok _, ⟨_, rfl⟩, q⟩
/-- f(e, ..), f an expression that gives the def at g -/
def tCallE (g : Addr) (sp : Sp) (tf : TE) (t : TA) : TE := fun σ H Q => tf σ H fun y H1 => y = V.ref g ∧ t σ H1 fun vs H2 => sp vs H2 Q E0
theorem pe_callE {g : Addr} {k j : Nat} {fd : FuncData} {ps : List Str} {sp : Sp} {fe e : Expr} {es : List Expr} {tf : TE} {t : TA} (hf : PE X fe tf) (F : FnOk X.prog X.w X.K X.mg X.base CX0 k g fd ps sp) (hk : PySem.W.keepIn X.K (.ref g) = true) (hb : Binds X.K fd ps []) (hr : Room j X.A) (hj : k ≤ j) (ha : PA X (e :: es) t)
    (ht : eval (.Call fe (e :: es) [] pos) X.env = (do callWith pos (← eval fe X.env) [] (backTo pos (starEach (e :: es) X.env)) (backToKw pos (keywordEach [] X.env))) := by rfl)
    (he : starEach (e :: es) X.env = (false, eval e X.env) :: starEach es X.env := by rfl) (hpl : (backTo pos (starEach es X.env)).any (·.1) = false := by rfl) : PE X (.Call fe (e :: es) [] pos) (tCallE g sp tf t) := by
  refine ⟨fun pins s σ H Q I h => ?_⟩
  refine Call_ (thn (hf.run pins s σ H _ I h) fun u s1 ⟨y, H1, I1, ry, ey, q⟩ => ?_) ht
  subst ey
  obtain rfl : u = Value.ref g := ry
  refine PySem.W.callWith_K (h₀ := X.base) I1.ok.mod.kin hk (thn (ha.run pos pins s1 σ H1 _ I1 q) fun us s2 ⟨vs, H2, I2, r, q2⟩ => ⟨I2.kIn, ?_⟩) he hpl
  exact run_fn F (hr.mono hj) hb .nil pass0 I2 r (by rw [List.append_nil]; exact q2)
/-- C(), C a class without an __init__ of its own -/
def tNew (C : Addr) : TE := fun _ H Q => ∀ x dx, H x = none → H dx = none → dx ≠ x → Q (.ref x) (upd (upd H dx (.own x)) x (.ins C dx []))
theorem run_new0 {C : Addr} {pins : List (Addr × Obj)} {σ : L2.St} {H : Hp} {s : Shared} {Q : VK} (hm : PySem.W.makesIn X.K C = true) (hi : PySem.W.findIn X.K (.ref C) "__init__" = some (some (.builtin "object.__init__"))) (I : Inv X pins σ H s)
    (h : tNew C σ H Q) : wpAny (model X.prog X.w) X.A (call (.ref C) []) (EP X pins σ Q) X.xe s := by
  have hq := h (s.heap.objs.size + 1) s.heap.objs.size (I.hok.fresh (Nat.le_succ _)) (I.hok.fresh (Nat.le_refl _)) (Nat.ne_of_lt (Nat.lt_succ_self _))
  have I2 := Inv.made (C := C) I
  have Y := PySem.W.makes_of (M := model X.prog X.w) I.kIn hm
  refine wpAny_call (make_map0 I.kIn hm hi (fun self => PySem.W.Looks.of_pure (PySem.W.oi_bind self)) ?_)
  obtain ⟨hh, g, d, t, os⟩ := s
  have hx : ((hh.push PySem.W.emptyDict).push (PySem.W.instObj C hh.objs.size)).get? (hh.objs.size + 1) = some (PySem.W.instObj C hh.objs.size) := by heap_get
  have t1 : PySem.W.Looks (model X.prog X.w) ((hh.push PySem.W.emptyDict).push (PySem.W.instObj C hh.objs.size)) (typeOf (.ref (hh.objs.size + 1))) (.ref C) := (PySem.W.Looks.ld hx).andThen .now
  have t2 : PySem.W.Looks (model X.prog X.w) ((hh.push PySem.W.emptyDict).push (PySem.W.instObj C hh.objs.size)) (isInstance (.ref (hh.objs.size + 1)) (.type "object")) true := t1.andThen (Y.top.keeps fun b o e => Heap.get?_push_of_some _ (Heap.get?_push_of_some _ e))
  refine codeAny_call_builtin PySem.W.oi_plain PySem.W.entry_oi (@PySem.W.check_slot (model X.prog X.w) _ _ _ "object.__init__" "object" "__init__" (.ref (hh.objs.size + 1)) [] [] _ PySem.W.oi_kind PySem.W.oi_split t2 (PySem.W.oi_args (.ref (hh.objs.size + 1))) ?_)
  rw [PySem.W.oi_run]
  exact wpAny_pure (And.intro rfl ⟨V.ref (hh.objs.size + 1), _, I2, rfl, hq⟩)
theorem pe_new0 {C : Addr} (hm : PySem.W.makesIn X.K C = true) (hi : PySem.W.findIn X.K (.ref C) "__init__" = some (some (.builtin "object.__init__"))) (hk : PySem.W.keepIn X.K (.ref C) = true) (hx : X.mg x = some (.ref C)) (hg : Gl X x := by rfl)
    (hdb : (x == ("__debug__" : Str)) = false := by decide) : PE X (.Call (.Name x p) [] [] pos) (tNew C) := by
  refine ⟨fun pins s σ H Q I h => ?_⟩
  refine wpAny_Call_Name_kw (ld_glob I hg hx ?_ hdb)
  exact PySem.W.callWith_K0 I.kIn hk (run_new0 hm hi I h)
theorem pe_ty (n : String) (hm : X.mg x = none) (hv : bootBuiltins x = some (.type n)) (hg : Gl X x := by rfl) (hn : x ≠ "__name__" := by decide) (hd : (x == ("__debug__" : Str)) = false := by decide) : PE X (.Name x pos) (tC (.ty n)) := pe_bltn hg hm hv rfl hn hd
/-- a test that is never asked -/
theorem ptNever {e : Expr} : PT X e (fun _ _ _ => False) := ⟨fun _ _ _ _ _ _ h => h.elim⟩
theorem peNever {e : Expr} : PE X e (fun _ _ _ => False) := ⟨fun _ _ _ _ _ _ h => h.elim⟩
end
end NX
/-! The facts of the top that the walks use. -/
namespace NX
open PySem PySem.Spec PyProof.Rows L2
/-- a def of the module with the one keyword-only parameter most = 300000 -/
structure KwAt (K : PySem.W.Frag) (mg : Str → Option Value) (x : Str) (st : Stmt) : Prop where
  ex : ∃ (f : Addr) (fd : FuncData), mg x = some (.ref f) ∧ FunD K x x (defArgs st) (defBody st) (defScope st) [] [("most", .int 300000)] f fd
/-- an instance of C is none of D's, by isinstance -/
structure InsN (K : PySem.W.Frag) (C D : Addr) : Prop where
  cl : Cls K C
  ha : PySem.W.findIn K (.ref C) "__class__" = some (some (.builtin "object.__class__"))
  hn : PySem.W.specialIn K (.builtin "object.__class__") "__get__" = some (some (.builtin "getset_descriptor.__get__"))
  htk : PySem.W.takesIn K (.builtin "object.__class__") = some true
  hm : PySem.W.mroIn K C (.type "object") = some true
  no : PySem.W.kitOne K (.ref C) (.ref D) = some false
structure Txt (w : World) (K : PySem.W.Frag) (mg : Str → Option Value) : Prop where
  f_bits : FnAt K mg "bits" s_bits
  f_number_of : FnAt K mg "number_of" s_number_of
  f_is_number : FnAt K mg "is_number" s_is_number
  f_is_bits : FnAt K mg "is_bits" s_is_bits
  f_is_row : FnAt K mg "is_row" s_is_row
  f_is_generator : FnAt K mg "is_generator" s_is_generator
  f_check_block : FnAt K mg "check_block" s_check_block
  f_row_at : FnAt K mg "row_at" s_row_at
  f_are_parts : FnAt K mg "are_parts" s_are_parts
  f_inner_plain : FnAt K mg "inner_plain" s_inner_plain
  f_check_plain : FnAt K mg "check_plain" s_check_plain
  f_is_length : FnAt K mg "is_length" s_is_length
  f_fits_word : FnAt K mg "fits_word" s_fits_word
  f_has_plain_word : FnAt K mg "has_plain_word" s_has_plain_word
  f_check_breaker : FnAt K mg "check_breaker" s_check_breaker
  f_made_string : FnAt K mg "made_string" s_made_string
  f_run_plain : FnAt K mg "run_plain" s_run_plain
  f_prefix_challenge : FnAt K mg "prefix_challenge" s_prefix_challenge
  f_run_next : FnAt K mg "run_next" s_run_next
  f_run_breaker : FnAt K mg "run_breaker" s_run_breaker
  f_is_truth : FnAt K mg "is_truth" s_is_truth
  f_is_right : FnAt K mg "is_right" s_is_right
  f_check_game : FnAt K mg "check_game" s_check_game
  f_cover : FnAt K mg "cover" s_cover
  f_played : FnAt K mg "played" s_played
  f_fraction : FnAt K mg "fraction" s_fraction
  f_add : FnAt K mg "add" s_add
  f_less : FnAt K mg "less" s_less
  f_next_choices : FnAt K mg "next_choices" s_next_choices
  f_ways_of : FnAt K mg "ways_of" s_ways_of
  f_chance : KwAt K mg "chance" s_chance
  f_advantage : KwAt K mg "advantage" s_advantage
  f__law_mixed : FnAt K mg "_law_mixed" s__law_mixed
  f__law_tape : FnAt K mg "_law_tape" s__law_tape
  f__law_draw : FnAt K mg "_law_draw" s__law_draw
  f__law_pick : FnAt K mg "_law_pick" s__law_pick
  f__law_bits : FnAt K mg "_law_bits" s__law_bits
  f__law_string : FnAt K mg "_law_string" s__law_string
  f__law_fraction : FnAt K mg "_law_fraction" s__law_fraction
  f__law_sum : FnAt K mg "_law_sum" s__law_sum
  f__law_less : FnAt K mg "_law_less" s__law_less
  f__law_note : FnAt K mg "_law_note" s__law_note
  f__law_parts : FnAt K mg "_law_parts" s__law_parts
  f__law_say : FnAt K mg "_law_say" s__law_say
  f__law_breaker : FnAt K mg "_law_breaker" s__law_breaker
  f__law_made : FnAt K mg "_law_made" s__law_made
  f__law_silent : FnAt K mg "_law_silent" s__law_silent
  f__law_silent_chance : FnAt K mg "_law_silent_chance" s__law_silent_chance
  f__law_strings : FnAt K mg "_law_strings" s__law_strings
  f__law_generator : FnAt K mg "_law_generator" s__law_generator
  f__law_generator_gain : FnAt K mg "_law_generator_gain" s__law_generator_gain
  f__law_marked : FnAt K mg "_law_marked" s__law_marked
  f__law_ones : FnAt K mg "_law_ones" s__law_ones
  f__law_mean : FnAt K mg "_law_mean" s__law_mean
  f__law_other : FnAt K mg "_law_other" s__law_other
  f__law_next_chance : FnAt K mg "_law_next_chance" s__law_next_chance
  f__law_is : FnAt K mg "_law_is" s__law_is
  f__law_made_chance : FnAt K mg "_law_made_chance" s__law_made_chance
  cl_Silent : Cls K (He.ga K "Silent")
  g_Silent : mg "Silent" = some (.ref (He.ga K "Silent"))
  m_Silent_answer : MtAt K (He.ga K "Silent") "answer" "Silent.answer" s_Silent_answer
  cl_Stopped : Cls K (He.ga K "Stopped")
  g_Stopped : mg "Stopped" = some (.ref (He.ga K "Stopped"))
  i_Stopped : InAt K mg "Stopped" (He.ga K "Stopped") "Stopped.__init__" s_Stopped_init
  m_Stopped_now : MtAt K (He.ga K "Stopped") "now" "Stopped.now" s_Stopped_now
  n_Stopped_world : NoAttr K (He.ga K "Stopped") "world"
  cl_Notes : Cls K (He.ga K "Notes")
  g_Notes : mg "Notes" = some (.ref (He.ga K "Notes"))
  i_Notes : InAt K mg "Notes" (He.ga K "Notes") "Notes.__init__" s_Notes_init
  m_Notes_answer : MtAt K (He.ga K "Notes") "answer" "Notes.answer" s_Notes_answer
  n_Notes_world : NoAttr K (He.ga K "Notes") "world"
  n_Notes_asked : NoAttr K (He.ga K "Notes") "asked"
  cl_Play : Cls K (He.ga K "Play")
  g_Play : mg "Play" = some (.ref (He.ga K "Play"))
  i_Play : InAt K mg "Play" (He.ga K "Play") "Play.__init__" s_Play_init
  n_Play_outcome : NoAttr K (He.ga K "Play") "outcome"
  n_Play_said : NoAttr K (He.ga K "Play") "said"
  n_Play_draws : NoAttr K (He.ga K "Play") "draws"
  n_Play_asked : NoAttr K (He.ga K "Play") "asked"
  cl_Table : Cls K (He.ga K "Table")
  g_Table : mg "Table" = some (.ref (He.ga K "Table"))
  i_Table : InAt K mg "Table" (He.ga K "Table") "Table.__init__" s_Table_init
  m_Table_begin_challenge : MtAt K (He.ga K "Table") "begin_challenge" "Table.begin_challenge" s_Table_begin_challenge
  m_Table_has_won : MtAt K (He.ga K "Table") "has_won" "Table.has_won" s_Table_has_won
  n_Table_game : NoAttr K (He.ga K "Table") "game"
  n_Table_tape : NoAttr K (He.ga K "Table") "tape"
  n_Table_kind : NoAttr K (He.ga K "Table") "kind"
  n_Table_challenge : NoAttr K (He.ga K "Table") "challenge"
  n_Table_world : NoAttr K (He.ga K "Table") "world"
  n_Table_secret : NoAttr K (He.ga K "Table") "secret"
  cl_Tape : Cls K (He.ga K "Tape")
  g_Tape : mg "Tape" = some (.ref (He.ga K "Tape"))
  i_Tape : InAt K mg "Tape" (He.ga K "Tape") "Tape.__init__" s_Tape_init
  m_Tape_draw : MtAt K (He.ga K "Tape") "draw" "Tape.draw" s_Tape_draw
  m_Tape_string : MtAt K (He.ga K "Tape") "string" "Tape.string" s_Tape_string
  n_Tape_choices : NoAttr K (He.ga K "Tape") "choices"
  n_Tape_draws : NoAttr K (He.ga K "Tape") "draws"
  cl_Ways : Cls K (He.ga K "Ways")
  g_Ways : mg "Ways" = some (.ref (He.ga K "Ways"))
  i_Ways : InAt K mg "Ways" (He.ga K "Ways") "Ways.__init__" s_Ways_init
  m_Ways_count : MtAt K (He.ga K "Ways") "count" "Ways.count" s_Ways_count
  m_Ways_chance : MtAt K (He.ga K "Ways") "chance" "Ways.chance" s_Ways_chance
  n_Ways_most : NoAttr K (He.ga K "Ways") "most"
  n_Ways_many : NoAttr K (He.ga K "Ways") "many"
  n_Ways_won : NoAttr K (He.ga K "Ways") "won"
  b_range : mg "range" = none
  b_len : mg "len" = none
  b_isinstance : mg "isinstance" = none
  b_int : mg "int" = none
  b_bool : mg "bool" = none
  b_str : mg "str" = none
  b_tuple : mg "tuple" = none
  b_list : mg "list" = none
  b_all : mg "all" = none
  b_abs : mg "abs" = none
  b_sorted : mg "sorted" = none
  b_reversed : mg "reversed" = none
  g_MOST_LENGTH : ∃ t, mg "MOST_LENGTH" = some (.int 40 t)
  g_MOST_BIT : ∃ t, mg "MOST_BIT" = some (.int 9999 t)
  g_MOST_TOSSED : ∃ t, mg "MOST_TOSSED" = some (.int 64 t)
  g_MOST_DEPTH : ∃ t, mg "MOST_DEPTH" = some (.int 60 t)
  g_MOST_LAYERS : ∃ t, mg "MOST_LAYERS" = some (.int 20 t)
  g_MOST_WITHIN : ∃ t, mg "MOST_WITHIN" = some (.int 2000 t)
  g_OnetimeWorld : mg "OnetimeWorld" = some (.ref (He.ga K "OnetimeWorld"))
  g_PLAIN_WORDS : mg "PLAIN_WORDS" = some (.ref (He.ga K "PLAIN_WORDS"))
  g_RUNS : mg "RUNS" = some (.ref (He.ga K "RUNS"))
  g_SIZES : mg "SIZES" = some (.ref (He.ga K "SIZES"))
  g_gcd : mg "gcd" = some (.builtin "math.gcd")
  k_Silent : PySem.W.keepIn K (.ref (He.ga K "Silent")) = true
  mk_Silent : PySem.W.makesIn K (He.ga K "Silent") = true
  in_Silent : PySem.W.findIn K (.ref (He.ga K "Silent")) "__init__" = some (some (.builtin "object.__init__"))
  words : ∀ H : Hp, SqT K H (He.ga K "PLAIN_WORDS") [.str "say", .str "toss", .str "look", .str "ask"]
  d_SIZES : ∃ es n, KDict K w (He.ga K "SIZES") es n
  d_RUNS : ∃ es n, KDict K w (He.ga K "RUNS") es n
  sz_next : ∃ u, PySem.W.nsIn K (He.ga K "SIZES") "next" = some (some u) ∧ RelV (.int 3) u
  sz_gen : ∃ u, PySem.W.nsIn K (He.ga K "SIZES") "generator" = some (some u) ∧ RelV (.int 3) u
  r_next : ∃ u, PySem.W.nsIn K (He.ga K "RUNS") "next" = some (some u) ∧ RelV (.ref (He.ga K "run_next")) u
  r_say : PySem.W.nsIn K (He.ga K "RUNS") "say" = some none
  r_toss : PySem.W.nsIn K (He.ga K "RUNS") "toss" = some none
  r_look : PySem.W.nsIn K (He.ga K "RUNS") "look" = some none
  r_ask : PySem.W.nsIn K (He.ga K "RUNS") "ask" = some none
  at_run_next : mg "run_next" = some (.ref (He.ga K "run_next"))
  is_Silent : InsN K (He.ga K "Silent") (He.ga K "OnetimeWorld")
  is_Notes : InsN K (He.ga K "Notes") (He.ga K "OnetimeWorld")
end NX
/-! Texts of bits, heaps: small lemmas that all walks use. -/
namespace NX
open PySem PySem.Spec PyProof.Rows L2
def sg (b : Bool) : Nat := if b then 49 else 48
/-- a string of bits as a text -/
def S (b : Bs) : Str := ⟨(b.map sg).toArray⟩
theorem sg_inj {a b : Bool} (h : sg a = sg b) : a = b := by cases a <;> cases b <;> first | rfl | (simp [sg] at h)
theorem S_cps (b : Bs) : (S b).cps.toList = b.map sg := by simp [S]
theorem S_len (b : Bs) : (S b).length = b.length := by simp [S, Str.length]
theorem S_inj {a b : Bs} (h : S a = S b) : a = b := by
  have e : a.map sg = b.map sg := by rw [← S_cps, ← S_cps, h]
  exact (List.map_inj_right fun x y z => sg_inj z).mp e
theorem ext_cps {x y : Str} (h : x.cps.toList = y.cps.toList) : x = y := by
  obtain ⟨a⟩ := x
  obtain ⟨b⟩ := y
  have e : a = b := Array.ext' h
  rw [e]
theorem S_app (a b : Bs) : S a ++ S b = S (a ++ b) := by
  apply ext_cps
  show ((S a).cps ++ (S b).cps).toList = _
  rw [Array.toList_append, S_cps, S_cps, S_cps, List.map_append]
theorem S_one : ("1" : Str) = S [true] := rfl
theorem S_zero : ("0" : Str) = S [false] := rfl
theorem S_nil : ("" : Str) = S [] := rfl
theorem S_sign (c : Bool) : (⟨#[sg c]⟩ : Str) = S [c] := rfl
theorem S_bit (c : Bool) : (if c then ("1" : Str) else "0") = S [c] := by cases c <;> rfl
theorem S_dec (a b : Bs) : decide (V.str (S a) = V.str (S b)) = decide (a = b) := by
  by_cases h : a = b
  · subst h; simp
  · have : ¬ V.str (S a) = V.str (S b) := fun q => h (S_inj (V.str.inj q))
    rw [decide_eq_false h, decide_eq_false this]
theorem S_at {b : Bs} {i : Nat} (h : i < b.length) : atI (S b).cps.toList (i : Int) = some (sg (bitAt b i)) := by
  rw [S_cps]
  refine atI_nat ?_
  rw [List.getElem?_map, List.getElem?_eq_getElem h]
  simp [bitAt, List.getD_eq_getElem?_getD, List.getElem?_eq_getElem h]
theorem S_take (b : Bs) (i : Nat) : cutS (S b) none (some (i : Int)) = S (b.take i) := by
  apply ext_cps
  unfold cutS
  simp only [S_cps, S_len]
  have e0 : HT.sIx b.length 0 none = 0 := rfl
  rw [e0]
  have e1 : HT.sIx b.length b.length (some (i : Int)) = min i b.length := by
    unfold HT.sIx
    first
      | (simp; omega)
      | (split <;> omega)
  rw [e1]
  simp [List.map_take, List.take_eq_take_iff]
theorem sl {n : Nat} (h : n ≤ 100000) : n ≤ sizeLine := Nat.le_trans h (by decide)
theorem slt {n : Nat} (h : n ≤ 100000) : n < sizeLine := Nat.lt_of_le_of_lt h (by decide)
theorem int_sign (c : Bool) : PySem.intText? (S [c]) = some (if c then 1 else 0) := by cases c <;> decide +kernel
theorem same_new {H : Hp} {p : Addr} (h : H p = none) (o : HO) : Same H (upd H p o) := fun b u q => by rw [upd_ne (ne_of_none q h)]; exact q
/-- an object that H0 does not know is written -/
theorem _root_.L2.Same.mut {H0 H : Hp} {p : Addr} (s : Same H0 H) (h : H0 p = none) (o : HO) : Same H0 (upd H p o) := fun b u q => by rw [upd_ne (ne_of_none q h)]; exact s _ _ q
theorem _root_.L2.Same.tup {K : PySem.W.Frag} {H H' : Hp} {a : Addr} {xs : List V} (e : Same H H') (h : SqT K H a xs) : SqT K H' a xs := by
  rcases h with (h | ⟨o, h⟩) | h
  · exact .inl (.inl (e _ _ h))
  · exact .inl (.inr ⟨o, e _ _ h⟩)
  · exact .inr h
/-- an attribute by its place, the names told -/
theorem lk0 {f : Str} {v : V} : ∀ {fs : List (Str × V)} {i : Nat}, fs[i]? = some (f, v) → ((fs.map (·.1)).take i).all (fun g => !decide (g = f)) = true → fs.lookup f = some v
  | [], i, hv, _ => by simp at hv
  | (g, x) :: r, 0, hv, _ => by
    simp at hv
    obtain ⟨rfl, rfl⟩ := hv
    simp [List.lookup]
  | (g, x) :: r, i + 1, hv, hn => by
    simp at hv
    simp only [List.map_cons, List.take_succ_cons, List.all_cons, Bool.and_eq_true] at hn
    have ne : (f == g) = false := by
      have := hn.1
      simp at this
      exact beq_eq_false_iff_ne.mpr fun e => this e.symm
    simp only [List.lookup, ne]
    exact lk0 hv hn.2
theorem lkN0 {f : Str} : ∀ {fs : List (Str × V)}, (fs.map (·.1)).all (fun g => !decide (g = f)) = true → fs.lookup f = none
  | [], _ => rfl
  | (g, x) :: r, hn => by
    simp only [List.map_cons, List.all_cons, Bool.and_eq_true] at hn
    have ne : (f == g) = false := by
      have := hn.1
      simp at this
      exact beq_eq_false_iff_ne.mpr fun e => this e.symm
    simp only [List.lookup, ne]
    exact lkN0 hn.2
theorem lk (ks : List Str) (i : Nat) {fs : List (Str × V)} {f : Str} {v : V} (hv : fs[i]? = some (f, v) := by rfl) (hk : fs.map (·.1) = ks := by rfl) (hn : (ks.take i).all (fun g => !decide (g = f)) = true := by decide +kernel) : fs.lookup f = some v := lk0 hv (by rw [hk]; exact hn)
theorem lkN (ks : List Str) {fs : List (Str × V)} {f : Str} (hk : fs.map (·.1) = ks := by rfl) (hn : ks.all (fun g => !decide (g = f)) = true := by decide +kernel) : fs.lookup f = none := lkN0 (by rw [hk]; exact hn)
theorem putF_new0 {f : Str} {v : V} : ∀ {fs : List (Str × V)}, (fs.map (·.1)).all (fun g => !decide (g = f)) = true → putF f v fs = fs ++ [(f, v)]
  | [], _ => rfl
  | (g, x) :: r, hn => by
    simp only [List.map_cons, List.all_cons, Bool.and_eq_true] at hn
    have ne : ¬ g = f := by simpa using hn.1
    show (if g = f then (g, v) :: r else (g, x) :: putF f v r) = _
    rw [if_neg ne, putF_new0 hn.2]
    rfl
theorem putF_at0 {f : Str} {v x : V} : ∀ {fs : List (Str × V)} {i : Nat}, fs[i]? = some (f, x) → ((fs.map (·.1)).take i).all (fun g => !decide (g = f)) = true → putF f v fs = fs.set i (f, v)
  | [], i, hv, _ => by simp at hv
  | (g, y) :: r, 0, hv, _ => by
    simp at hv
    obtain ⟨rfl, rfl⟩ := hv
    show (if g = g then (g, v) :: r else (g, y) :: putF g v r) = _
    rw [if_pos rfl]
    rfl
  | (g, y) :: r, i + 1, hv, hn => by
    simp at hv
    simp only [List.map_cons, List.take_succ_cons, List.all_cons, Bool.and_eq_true] at hn
    have ne : ¬ g = f := by simpa using hn.1
    show (if g = f then (g, v) :: r else (g, y) :: putF f v r) = _
    rw [if_neg ne, putF_at0 hv hn.2]
    rfl
/-- a new attribute; one stored anew -/
theorem putF_new (ks : List Str) {fs gs : List (Str × V)} {f : Str} {v : V} (hg : gs = fs ++ [(f, v)] := by rfl) (hk : fs.map (·.1) = ks := by rfl) (hn : ks.all (fun g => !decide (g = f)) = true := by decide +kernel) : putF f v fs = gs := by rw [hg]; exact putF_new0 (by rw [hk]; exact hn)
theorem putF_at (ks : List Str) (i : Nat) {fs gs : List (Str × V)} {f : Str} {v x : V} (hv : fs[i]? = some (f, x) := by rfl) (hg : gs = fs.set i (f, v) := by rfl) (hk : fs.map (·.1) = ks := by rfl) (hn : (ks.take i).all (fun g => !decide (g = f)) = true := by decide +kernel) : putF f v fs = gs := by rw [hg]; exact putF_at0 hv (by rw [hk]; exact hn)
abbrev kNotes : List Str := ["world", "asked"]
abbrev kTape : List Str := ["choices", "draws"]
abbrev kPlay : List Str := ["outcome", "said", "draws", "asked"]
abbrev kTable : List Str := ["game", "tape", "kind", "challenge", "world", "secret"]
abbrev kWays : List Str := ["most", "many", "won"]
theorem S_get {b : Bs} {i : Nat} {n : Nat} (h : (S b).cps[i]? = some n) : ∃ c, b[i]? = some c ∧ n = sg c := by
  have e : (S b).cps[i]? = (b.map sg)[i]? := by
    rw [← S_cps, Array.getElem?_toList]
  rw [e, List.getElem?_map] at h
  cases q : b[i]? with
  | none => rw [q] at h; cases h
  | some c => rw [q] at h; exact ⟨c, rfl, (Option.some.inj h).symm⟩
theorem S_size (b : Bs) : (S b).cps.size = b.length := S_len b
/-- for sign in a string of bits -/
theorem for_bits {b : Bs} {g : TG} {tb : TS} {D : Ends} {σ : L2.St} {H : Hp} (Pv : Nat → L2.St → Hp → Prop) (h0 : Pv 0 σ H)
    (hs : ∀ i c σ H, b[i]? = some c → Pv i σ H → g (.str (S [c])) σ H fun σ2 H2 => tb { D with nx := Pv (i + 1), ct := Pv (i + 1), bk := D.nx } σ2 H2) (hd : ∀ σ H, Pv b.length σ H → D.nx σ H) :
    ∃ W : Nat → Nat → L2.St → Hp → Prop, (∃ m, W 0 m σ H) ∧ ∀ i m σ H, W i m σ H →
      ((Its (S b)).stop i H ∧ D.nx σ H) ∨ ((Its (S b)).go i H ∧ ∃ N : L2.St → Hp → Prop, (∀ σ' H', N σ' H' → ∃ m', m' < m ∧ W (i + 1) m' σ' H') ∧ ∀ x H', (Its (S b)).yld i H x H' → g x σ H' fun σ2 H2 => tb { D with nx := N, ct := N, bk := D.nx } σ2 H2) := by
  refine ⟨fun i m σ H => m = b.length - i ∧ i ≤ b.length ∧ Pv i σ H, ⟨b.length, by simp, Nat.zero_le _, h0⟩, ?_⟩
  rintro i m σ H ⟨rfl, hi, p⟩
  by_cases hlt : i < b.length
  · refine .inr ⟨by show i < (S b).cps.size; rw [S_size]; exact hlt, Pv (i + 1), fun σ' H' p' => ⟨b.length - (i + 1), by omega, rfl, hlt, p'⟩, fun x H' y => ?_⟩
    obtain ⟨e, n, hn, ex⟩ := y
    obtain ⟨c, hc, rfl⟩ := S_get hn
    subst e
    subst ex
    exact hs i c σ _ hc p
  · have e : i = b.length := by omega
    subst e
    exact .inl ⟨by show (S b).cps.size ≤ _; rw [S_size]; exact Nat.le_refl _, hd σ H p⟩
/-- [.. for sign in a string of bits] -/
theorem lc_bits {b : Bs} {g : TG} {tt : TT} {te : TE} {vs : List Nat} {σ : L2.St} {H1 : Hp} {D : Addr} {Qd : Hp → Prop} (Pv : Nat → Hp → Prop) (h0 : Pv 0 (upd H1 D (.lst [])))
    (hs : ∀ i c H, b[i]? = some c → Pv i H → g (.str (S [c])) (wipe σ vs) H fun σ2 H2 => wipe σ2 vs = wipe σ vs ∧ tt σ2 H2 fun b H3 =>
      if b = true then te σ2 H3 fun y H4 => ∃ acc, H4 D = some (.lst acc) ∧ acc.length < sizeLine ∧ Pv (i + 1) (upd H4 D (.lst (acc ++ [y]))) else Pv (i + 1) H3) (hd : ∀ H, Pv b.length H → Qd H) :
    ∃ W : Nat → Nat → Hp → Prop, (∃ m, W 0 m (upd H1 D (.lst []))) ∧ ∀ i m H, W i m H →
      ((Its (S b)).stop i H ∧ Qd H) ∨ ((Its (S b)).go i H ∧ ∃ Nx : Hp → Prop, (∀ H', Nx H' → ∃ m', m' < m ∧ W (i + 1) m' H') ∧ ∀ x H', (Its (S b)).yld i H x H' → g x (wipe σ vs) H' fun σ2 H2 => wipe σ2 vs = wipe σ vs ∧ tt σ2 H2 fun b H3 =>
        if b = true then te σ2 H3 fun y H4 => ∃ acc, H4 D = some (.lst acc) ∧ acc.length < sizeLine ∧ Nx (upd H4 D (.lst (acc ++ [y]))) else Nx H3) := by
  refine ⟨fun i m H => m = b.length - i ∧ i ≤ b.length ∧ Pv i H, ⟨b.length, by simp, Nat.zero_le _, h0⟩, ?_⟩
  rintro i m H ⟨rfl, hi, p⟩
  by_cases hlt : i < b.length
  · refine .inr ⟨by show i < (S b).cps.size; rw [S_size]; exact hlt, Pv (i + 1), fun H' p' => ⟨b.length - (i + 1), by omega, rfl, hlt, p'⟩, fun x H' y => ?_⟩
    obtain ⟨e, n, hn, ex⟩ := y
    obtain ⟨c, hc, rfl⟩ := S_get hn
    subst e
    subst ex
    exact hs i c _ hc p
  · have e : i = b.length := by omega
    subst e
    exact .inl ⟨by show (S b).cps.size ≤ _; rw [S_size]; exact Nat.le_refl _, hd H p⟩
/-- the first turns and one more -/
theorem take_more {γ : Type} : ∀ {l : List γ} {i : Nat} {x : γ}, l[i]? = some x → l.take (i + 1) = l.take i ++ [x]
  | [], i, x, h => by simp at h
  | a :: l, 0, x, h => by
    have e : a = x := Option.some.inj h
    subst e
    rfl
  | a :: l, i + 1, x, h => by
    have ih := take_more (l := l) (i := i) (x := x) h
    show a :: l.take (i + 1) = a :: l.take i ++ [x]
    rw [ih]
    rfl
theorem get_map {γ : Type} {f : γ → V} {l : List γ} {i : Nat} {y : V} (h : (l.map f)[i]? = some y) : ∃ z, l[i]? = some z ∧ y = f z := by
  rw [List.getElem?_map] at h
  cases e : l[i]? with
  | none => rw [e] at h; cases h
  | some z => rw [e] at h; exact ⟨z, rfl, (Option.some.inj h).symm⟩
/-- both branches of a conditional expression give v -/
theorem ite_val {c : Bool} {ta tb : TE} {σ : L2.St} {H : Hp} {Q : VK} (v : V) (H' : Hp) (k : Q v H') (h1 : c = true → ∀ Q : VK, Q v H' → ta σ H Q) (h2 : c = false → ∀ Q : VK, Q v H' → tb σ H Q) : if c = true then ta σ H Q else tb σ H Q := by
  cases c with
  | true => exact iteT (h1 rfl Q k)
  | false => exact iteF (h2 rfl Q k)
/-! ### comprehensions that only make things -/
theorem lp_range {lo : Int} {n : Nat} {g : TG} {te : TE} {vs : List Nat} {σ : L2.St} {H1 : Hp} {D : Addr} {Qd : Hp → Prop} (F : Nat → V) (hD : H1 D = none) (hn : n ≤ 100000)
    (hs : ∀ i H, i < n →  Same H1 H → ∀ Qe : VK, (∀ H', Same H H' → Qe (F i) H') → g (.int (lo + i)) (wipe σ vs) H fun σ2 H2 => wipe σ2 vs = wipe σ vs ∧ te σ2 H2 Qe)
    (hd : ∀ H, Same H1 H → H D = some (.lst ((List.range n).map F)) → Qd H) :
    ∃ W : Nat → Nat → Hp → Prop, (∃ m, W 0 m (upd H1 D (.lst []))) ∧ ∀ i m H, W i m H →
      ((Itr lo n).stop i H ∧ Qd H) ∨ ((Itr lo n).go i H ∧ ∃ Nx : Hp → Prop, (∀ H', Nx H' → ∃ m', m' < m ∧ W (i + 1) m' H') ∧ ∀ x H', (Itr lo n).yld i H x H' → g x (wipe σ vs) H' fun σ2 H2 => wipe σ2 vs = wipe σ vs ∧ tYes σ2 H2 fun b H3 =>
        if b = true then te σ2 H3 fun y H4 => ∃ acc, H4 D = some (.lst acc) ∧ acc.length < sizeLine ∧ Nx (upd H4 D (.lst (acc ++ [y]))) else Nx H3) := by
  refine lc_range (fun i H => Same H1 H ∧ H D = some (.lst ((List.range i).map F))) ⟨same_new hD _, upd_same⟩ (fun i H hi ⟨s0, hL⟩ => ?_) (fun H ⟨s0, hL⟩ => hd H s0 hL)
  have r := hs i H hi s0 (fun y H4 => ∃ acc, H4 D = some (.lst acc) ∧ acc.length < sizeLine ∧ (Same H1 (upd H4 D (.lst (acc ++ [y]))) ∧ upd H4 D (.lst (acc ++ [y])) D = some (.lst ((List.range (i + 1)).map F)))) (fun H' s1 =>
    ⟨_, s1 _ _ hL, by rw [List.length_map, List.length_range]; exact slt (by omega), (s0.trans s1).mut hD _, by rw [upd_same, List.range_succ, List.map_append]; rfl⟩)
  exact r
theorem lp_list {K : PySem.W.Frag} {a : Addr} {xs : List V} {g : TG} {te : TE} {vs : List Nat} {σ : L2.St} {H1 : Hp} {D : Addr} {Qd : Hp → Prop} (F : Nat → V) (hD : H1 D = none) (hn : xs.length ≤ 100000) (ha : SqL K H1 a xs)
    (hs : ∀ i x H, xs[i]? = some x →  Same H1 H → ∀ Qe : VK, (∀ H', Same H H' → Qe (F i) H') → g x (wipe σ vs) H fun σ2 H2 => wipe σ2 vs = wipe σ vs ∧ te σ2 H2 Qe)
    (hd : ∀ H, Same H1 H → H D = some (.lst ((List.range xs.length).map F)) → Qd H) :
    ∃ W : Nat → Nat → Hp → Prop, (∃ m, W 0 m (upd H1 D (.lst []))) ∧ ∀ i m H, W i m H →
      ((Itl K a).stop i H ∧ Qd H) ∨ ((Itl K a).go i H ∧ ∃ Nx : Hp → Prop, (∀ H', Nx H' → ∃ m', m' < m ∧ W (i + 1) m' H') ∧ ∀ x H', (Itl K a).yld i H x H' → g x (wipe σ vs) H' fun σ2 H2 => wipe σ2 vs = wipe σ vs ∧ tYes σ2 H2 fun b H3 =>
        if b = true then te σ2 H3 fun y H4 => ∃ acc, H4 D = some (.lst acc) ∧ acc.length < sizeLine ∧ Nx (upd H4 D (.lst (acc ++ [y]))) else Nx H3) := by
  refine lc_list (fun i H => Same H1 H ∧ H D = some (.lst ((List.range i).map F))) ⟨same_new hD _, upd_same⟩ (fun i H _ ⟨s0, _⟩ => s0.seq ha) (fun i x H hi ⟨s0, hL⟩ => ?_) (fun H ⟨s0, hL⟩ => hd H s0 hL)
  have r := hs i x H hi s0 (fun y H4 => ∃ acc, H4 D = some (.lst acc) ∧ acc.length < sizeLine ∧ (Same H1 (upd H4 D (.lst (acc ++ [y]))) ∧ upd H4 D (.lst (acc ++ [y])) D = some (.lst ((List.range (i + 1)).map F)))) (fun H' s1 =>
    ⟨_, s1 _ _ hL, by rw [List.length_map, List.length_range]; exact slt (by have := (List.getElem?_eq_some_iff.mp hi).1; omega), (s0.trans s1).mut hD _, by rw [upd_same, List.range_succ, List.map_append]; rfl⟩)
  exact r
theorem lp_tup {K : PySem.W.Frag} {a : Addr} {xs : List V} {g : TG} {te : TE} {vs : List Nat} {σ : L2.St} {H1 : Hp} {D : Addr} {Qd : Hp → Prop} (F : Nat → V) (hD : H1 D = none) (hn : xs.length ≤ 100000) (ha : SqT K H1 a xs)
    (hs : ∀ i x H, xs[i]? = some x →  Same H1 H → ∀ Qe : VK, (∀ H', Same H H' → Qe (F i) H') → g x (wipe σ vs) H fun σ2 H2 => wipe σ2 vs = wipe σ vs ∧ te σ2 H2 Qe)
    (hd : ∀ H, Same H1 H → H D = some (.lst ((List.range xs.length).map F)) → Qd H) :
    ∃ W : Nat → Nat → Hp → Prop, (∃ m, W 0 m (upd H1 D (.lst []))) ∧ ∀ i m H, W i m H →
      ((Itt K a).stop i H ∧ Qd H) ∨ ((Itt K a).go i H ∧ ∃ Nx : Hp → Prop, (∀ H', Nx H' → ∃ m', m' < m ∧ W (i + 1) m' H') ∧ ∀ x H', (Itt K a).yld i H x H' → g x (wipe σ vs) H' fun σ2 H2 => wipe σ2 vs = wipe σ vs ∧ tYes σ2 H2 fun b H3 =>
        if b = true then te σ2 H3 fun y H4 => ∃ acc, H4 D = some (.lst acc) ∧ acc.length < sizeLine ∧ Nx (upd H4 D (.lst (acc ++ [y]))) else Nx H3) := by
  refine lc_tup (fun i H => Same H1 H ∧ H D = some (.lst ((List.range i).map F))) ⟨same_new hD _, upd_same⟩ (fun i H _ ⟨s0, _⟩ => s0.tup ha) (fun i x H hi ⟨s0, hL⟩ => ?_) (fun H ⟨s0, hL⟩ => hd H s0 hL)
  have r := hs i x H hi s0 (fun y H4 => ∃ acc, H4 D = some (.lst acc) ∧ acc.length < sizeLine ∧ (Same H1 (upd H4 D (.lst (acc ++ [y]))) ∧ upd H4 D (.lst (acc ++ [y])) D = some (.lst ((List.range (i + 1)).map F)))) (fun H' s1 =>
    ⟨_, s1 _ _ hL, by rw [List.length_map, List.length_range]; exact slt (by have := (List.getElem?_eq_some_iff.mp hi).1; omega), (s0.trans s1).mut hD _, by rw [upd_same, List.range_succ, List.map_append]; rfl⟩)
  exact r
theorem lp_bits {b : Bs} {g : TG} {te : TE} {vs : List Nat} {σ : L2.St} {H1 : Hp} {D : Addr} {Qd : Hp → Prop} (F : Nat → V) (hD : H1 D = none) (hn : b.length ≤ 100000)
    (hs : ∀ i c H, b[i]? = some c →  Same H1 H → ∀ Qe : VK, (∀ H', Same H H' → Qe (F i) H') → g (.str (S [c])) (wipe σ vs) H fun σ2 H2 => wipe σ2 vs = wipe σ vs ∧ te σ2 H2 Qe)
    (hd : ∀ H, Same H1 H → H D = some (.lst ((List.range b.length).map F)) → Qd H) :
    ∃ W : Nat → Nat → Hp → Prop, (∃ m, W 0 m (upd H1 D (.lst []))) ∧ ∀ i m H, W i m H →
      ((Its (S b)).stop i H ∧ Qd H) ∨ ((Its (S b)).go i H ∧ ∃ Nx : Hp → Prop, (∀ H', Nx H' → ∃ m', m' < m ∧ W (i + 1) m' H') ∧ ∀ x H', (Its (S b)).yld i H x H' → g x (wipe σ vs) H' fun σ2 H2 => wipe σ2 vs = wipe σ vs ∧ tYes σ2 H2 fun b H3 =>
        if b = true then te σ2 H3 fun y H4 => ∃ acc, H4 D = some (.lst acc) ∧ acc.length < sizeLine ∧ Nx (upd H4 D (.lst (acc ++ [y]))) else Nx H3) := by
  refine lc_bits (fun i H => Same H1 H ∧ H D = some (.lst ((List.range i).map F))) ⟨same_new hD _, upd_same⟩ (fun i c H hi ⟨s0, hL⟩ => ?_) (fun H ⟨s0, hL⟩ => hd H s0 hL)
  have r := hs i c H hi s0 (fun y H4 => ∃ acc, H4 D = some (.lst acc) ∧ acc.length < sizeLine ∧ (Same H1 (upd H4 D (.lst (acc ++ [y]))) ∧ upd H4 D (.lst (acc ++ [y])) D = some (.lst ((List.range (i + 1)).map F)))) (fun H' s1 =>
    ⟨_, s1 _ _ hL, by rw [List.length_map, List.length_range]; exact slt (by have := (List.getElem?_eq_some_iff.mp hi).1; omega), (s0.trans s1).mut hD _, by rw [upd_same, List.range_succ, List.map_append]; rfl⟩)
  exact r
end NX
namespace NX
open PySem PySem.Spec PyProof.Rows L2
open C8 (Cal Met Mak pe_c pe_mk pe_mt pe_mt0)
/-! ### bits -/
def lowB : Nat → Nat → Bs
  | 0, _ => []
  | i + 1, v => (v % 2 == 1) :: lowB i (v / 2)
theorem lowB_rev : ∀ (k v : Nat), (lowB k v).reverse = bitsOf k v
  | 0, _ => rfl
  | k + 1, v => by rw [lowB, List.reverse_cons, lowB_rev k, bitsOf]
theorem lowB_len : ∀ (k v : Nat), (lowB k v).length = k
  | 0, _ => rfl
  | k + 1, v => by rw [lowB, List.length_cons, lowB_len k]
def hv : Nat → Nat → Nat
  | 0, v => v
  | i + 1, v => hv i v / 2
theorem hv_succ : ∀ (i v : Nat), hv i (v / 2) = hv (i + 1) v
  | 0, v => rfl
  | i + 1, v => by rw [hv, hv_succ i v]; rfl
theorem lowB_snoc : ∀ (k v : Nat), lowB (k + 1) v = lowB k v ++ [hv k v % 2 == 1]
  | 0, v => by simp [lowB, hv]
  | k + 1, v => by
    rw [lowB, lowB_snoc k, hv_succ]
    rfl
def SL (b : List Bool) : List V := b.map fun c => V.str (S [c])
theorem SL_map (b : Bs) : SL b = (b.map fun c => S [c]).map V.str := by simp [SL]
theorem glue_all : ∀ (l : List Str) (a : Str), (l.foldl (fun acc p => acc ++ ("" : Str).cps ++ p.cps) a.cps).toList = a.cps.toList ++ (l.map fun x => x.cps.toList).flatten
  | [], a => by simp
  | x :: l, a => by
    have e := glue_all l ⟨a.cps ++ ("" : Str).cps ++ x.cps⟩
    rw [List.foldl_cons]
    rw [e]
    have z : ("" : Str).cps = #[] := rfl
    simp [z]
theorem join_all (l : List Str) : (Txt.join ("" : Str) l).cps.toList = (l.map fun x => x.cps.toList).flatten := by
  unfold Txt.join Builtin.Str.glued
  cases l with
  | nil => rfl
  | cons x l =>
    show ((l.foldl (fun acc p => acc ++ ("" : Str).cps ++ p.cps) x.cps)).toList = _
    rw [glue_all]
    simp
theorem join_signs (b : Bs) : Txt.join ("" : Str) (b.map fun c => S [c]) = S b := by
  apply ext_cps
  rw [join_all, S_cps, List.map_map]
  induction b with
  | nil => rfl
  | cons c r ih =>
    rw [List.map_cons, List.flatten_cons, ih]
    rfl
theorem signs_len (b : Bs) : ((b.map fun c => S [c]).map (fun x => x.length)).sum = b.length := by
  rw [List.map_map]
  induction b with
  | nil => rfl
  | cons c r ih =>
    rw [List.map_cons, List.sum_cons, ih, List.length_cons, Nat.add_comm]
    rfl
section
variable {P : Program} {w : World} {K : PySem.W.Frag} {mg : Str → Option Value} {base : Heap}
def spBits : Sp := fun vs H Q _ => ∃ (k v : Nat), vs = [.int (k : Int), .int (v : Int)] ∧ k ≤ 1000 ∧ ∀ H', Same H H' → Q (.str (S (bitsOf k v))) H'
abbrev N_bits : List Str := ["length", "number", "signs", "_"]
abbrev P_bits : List Str := ["length", "number"]
theorem sc_bits : FnScope N_bits P_bits (defScope s_bits) := ⟨rfl, rfl, rfl, by decide +kernel, rfl, by decide +kernel, by decide +kernel⟩
theorem c_bits (T : Txt w K mg) : Cal P w K mg base 1 "bits" spBits [] := by
  refine T.f_bits.cal sc_bits (fun _ _ _ _ _ _ us hl => match us, hl with | [_, _], _ => rfl) (fun vs H Q E h => ?_) (fun f cdv A outer s H vs Q E hr h => ?_)
  · obtain ⟨k, v, rfl, _⟩ := h
    rfl
  obtain ⟨k, v, rfl, hk, q⟩ := h
  refine ⟨_, pss_cons (ps_set (i := 2) sc_bits.nd rfl (Or.inl rfl) (pe_lst pa_nil))
      (pss_cons (ps_for PassesOwn.never rfl (pi_range1 rfl T.b_range (pa_cons (pv 0) pa_nil)) (pg_name (i := 3) sc_bits.nd rfl (Or.inl rfl)) (pss_cons (ps_expr (pe_bm PySem.F.plainAttrs_list PySem.F.slot_list_append PySem.F.type_list_append mt_append (pv 2) (pa_cons (pe_ifExp (pt_cmpR op_eq (pe_op op_mod (pv 1) pe_int) pe_int (nomark _)) pe_str pe_str) pa_nil))) (pss_one (ps_set (i := 1) sc_bits.nd rfl (Or.inl rfl) (pe_op op_fdivW (pv 1) pe_int)))))
      (pss_one (ps_ret (pe_join pe_str (pe_revL (pv 2)))))), ?_⟩
  refine ⟨Nat.zero_le _, fun p hp => ?_⟩
  refine ⟨_, rfl, (k : Int), rfl, by omega, by omega, for_range (lo := 0) (n := k) (fun i σ H' => (∃ x : Option V, σ = [some (.int (k : Int)), some (.int ((hv i v : Nat) : Int)), some (.ref p), x]) ∧ Same H H' ∧ H' p = some (.lst (SL (lowB i v))))
    ⟨⟨none, rfl⟩, same_new hp _, upd_same⟩ ?_ ?_⟩
  · rintro i σ H' hi ⟨⟨x, rfl⟩, s0, hL⟩
    refine ⟨_, rfl, .inl ⟨rfl, _, SqL.of hL⟩, _, rfl, _, _, rfl, rfl, (by show (0 : Int) < 2; decide), rfl, _, rfl, ?_⟩
    have fin : ∀ b : Bool, b = (hv i v % 2 == 1) → rAppend (.ref p) [.str (S [b])] H' (fun _ H1 => tAsg (tOp (rI CDivW fun i j => V.int (i / j)) (tVar 1) (tC (.int 2))) (gName 1)
        { nx := fun σ H' => (∃ x : Option V, σ = [some (.int (k : Int)), some (.int ((hv (i + 1) v : Nat) : Int)), some (.ref p), x]) ∧ Same H H' ∧ H' p = some (.lst (SL (lowB (i + 1) v))), rt := fun _ _ => False }
        [some (.int (k : Int)), some (.int ((hv i v : Nat) : Int)), some (.ref p), some (.int (0 + (i : Int)))] H1) := by
      intro b hb
      refine ⟨p, _, _, rfl, rfl, hL, ?_, ?_⟩
      · show (SL (lowB i v)).length < sizeLine
        rw [SL, List.length_map, lowB_len]; exact slt (by omega)
      · refine ⟨_, rfl, _, _, rfl, rfl, ⟨by decide, by decide⟩, ⟨some (.int (0 + (i : Int))), ?_⟩, s0.mut hp _, ?_⟩
        · show [some (V.int (k : Int)), some (V.int (((hv i v : Nat) : Int) / 2)), some (V.ref p), some (V.int (0 + (i : Int)))] = _
          have e : (((hv i v : Nat) : Int) / 2) = ((hv (i + 1) v : Nat) : Int) := by rw [hv]; omega
          rw [e]
        · rw [upd_same, lowB_snoc, ← hb]
          simp [SL]
    refine ite2 (fun c => ?_) (fun c => ?_)
    · have c1 : V.int (((hv i v : Nat) : Int) % 2) = V.int 1 := of_decide_eq_true c
      have c2 : hv i v % 2 = 1 := by have := V.int.inj c1; omega
      exact fin true (by rw [c2]; rfl)
    · have c1 : ¬ V.int (((hv i v : Nat) : Int) % 2) = V.int 1 := of_decide_eq_false (Bool.eq_false_iff.mpr c)
      have c2 : hv i v % 2 = 0 := by
        have : ¬ (((hv i v : Nat) : Int) % 2) = 1 := fun z => c1 (congrArg V.int z)
        omega
      exact fin false (by rw [c2]; rfl)
  · rintro σ H' ⟨⟨x, rfl⟩, s0, hL⟩
    refine ⟨⟨_, rfl⟩, _, rfl, p, _, rfl, SqL.of hL, fun p2 hp2 => ?_⟩
    have e : (SL (lowB k v)).reverse = ((bitsOf k v).map fun c => S [c]).map V.str := by
      rw [← SL_map, ← lowB_rev]
      simp [SL]
    refine ⟨_, p2, (bitsOf k v).map fun c => S [c], rfl, rfl, .inl (SqL.of (by rw [upd_same, e])), ?_, ?_⟩
    · rw [signs_len, bitsOf_len]
      show k + _ * 0 ≤ _
      omega
    · show Q (.str (Txt.join ("" : Str) _)) _
      rw [join_signs]
      exact q _ (s0.trans (same_new hp2 _))
/-! ### number_of -/
def spNumOf : Sp := fun vs H Q _ => ∃ (b : Bs), vs = [.str (S b)] ∧ ∀ H', Same H H' → Q (.int (numOf b : Int)) H'
abbrev N_number_of : List Str := ["string", "number", "sign"]
abbrev P_number_of : List Str := ["string"]
theorem sc_number_of : FnScope N_number_of P_number_of (defScope s_number_of) := ⟨rfl, rfl, rfl, by decide +kernel, rfl, by decide +kernel, by decide +kernel⟩
theorem c_number_of (T : Txt w K mg) : Cal P w K mg base 1 "number_of" spNumOf [] := by
  refine T.f_number_of.cal sc_number_of (fun _ _ _ _ _ _ us hl => match us, hl with | [_], _ => rfl) (fun vs H Q E h => ?_) (fun f cdv A outer s H vs Q E hr h => ?_)
  · obtain ⟨b, rfl, _⟩ := h
    rfl
  obtain ⟨b, rfl, q⟩ := h
  refine ⟨_, pss_cons (ps_set (i := 1) sc_number_of.nd rfl (Or.inl rfl) pe_int)
      (pss_cons (ps_for PassesOwn.never rfl (pi_str (pv 0)) (pg_name (i := 2) sc_number_of.nd rfl (Or.inl rfl)) (pss_one (ps_set (i := 1) sc_number_of.nd rfl (Or.inl rfl) (pe_op op_add (pe_op op_mul (pv 1) pe_int) (pe_callTy call_int_str rfl T.b_int (by decide +kernel) (pa_cons (pv 2) pa_nil))))))
      (pss_one (ps_ret (pv 1)))), ?_⟩
  refine ⟨_, rfl, _, rfl, for_bits (fun i σ H' => (∃ x : Option V, σ = [some (.str (S b)), some (.int (numOf (b.take i) : Int)), x]) ∧ Same H H') ⟨⟨none, rfl⟩, Same.refl _⟩ ?_ ?_⟩
  · rintro i c σ H' hi ⟨⟨x, rfl⟩, s0⟩
    refine ⟨_, rfl, _, _, rfl, rfl, .inr ⟨by decide, by decide⟩, _, rfl, _, _, rfl, int_sign c, (by show 1 ≤ 640; decide), _, _, rfl, rfl, ⟨some (.str (S [c])), ?_⟩, s0⟩
    show [some (V.str (S b)), some (V.int ((numOf (b.take i) : Int) * 2 + (if c then 1 else 0))), some (V.str (S [c]))] = _
    rw [take_more hi, numOf_snoc]
    have e : (numOf (b.take i) : Int) * 2 + (if c then 1 else 0) = ((numOf (b.take i) * 2 + c.toNat : Nat) : Int) := by cases c <;> simp
    rw [e]
  · rintro σ H' ⟨⟨x, rfl⟩, s0⟩
    rw [List.take_length]
    exact ⟨_, rfl, q _ s0⟩
/-! ### is_number -/
def spIsNum : Sp := fun vs H Q _ => ∃ (v lo hi : Int), vs = [.int v, .int lo, .int hi] ∧ lo ≤ v ∧ v ≤ hi ∧ Q (.bl true) H
abbrev N_is_number : List Str := ["value", "least", "most"]
abbrev P_is_number : List Str := ["value", "least", "most"]
theorem sc_is_number : FnScope N_is_number P_is_number (defScope s_is_number) := ⟨rfl, rfl, rfl, by decide +kernel, rfl, by decide +kernel, by decide +kernel⟩
theorem c_is_number (T : Txt w K mg) : Cal P w K mg base 1 "is_number" spIsNum [] := by
  refine T.f_is_number.cal sc_is_number (fun _ _ _ _ _ _ us hl => match us, hl with | [_, _, _], _ => rfl) (fun vs H Q E h => ?_) (fun f cdv A outer s H vs Q E hr h => ?_)
  · obtain ⟨v, lo, hi, rfl, _⟩ := h
    rfl
  obtain ⟨v, lo, hi, rfl, h1, h2, q⟩ := h
  refine ⟨_, pss_one (ps_ret (pe_and (pe_callB call_isi rfl T.b_isinstance (by decide +kernel) (pa_cons (pv 0) (pa_cons (pe_ty "int" T.b_int (by decide +kernel)) pa_nil))) (pe_and (pe_not (pe_callB call_isi rfl T.b_isinstance (by decide +kernel) (pa_cons (pv 0) (pa_cons (pe_ty "bool" T.b_bool (by decide +kernel)) pa_nil)))) (pe_one (pe_chain op_le op_le (pv 1) (pv 0) (pv 2)))))), ?_⟩
  refine ⟨_, rfl, _, _, _, _, true, rfl, .ty _, .base (.int _), kit_ty (by decide +kernel), _, rfl, iteT ?_⟩
  refine ⟨_, rfl, _, _, _, _, false, rfl, .ty _, .base (.int _), kit_ty (by decide +kernel), _, rfl, _, rfl, iteT ?_⟩
  refine ⟨_, rfl, _, rfl, _, _, rfl, rfl, _, rfl, ite2 (fun _ => ?_) fun c => absurd (decide_eq_true h1) c⟩
  refine ⟨_, rfl, _, _, rfl, rfl, ?_⟩
  show Q (.bl (decide (v ≤ hi))) H
  rw [decide_eq_true h2]
  exact q
/-! ### is_bits -/
def spIsBits : Sp := fun vs H Q _ => (∃ b : Bs, vs = [.str (S b), .int (b.length : Int)] ∧ b.length ≤ 1000 ∧ ∀ H', Same H H' → Q (.bl true) H') ∨ (∃ i l : Int, vs = [.int i, .int l] ∧ Q (.bl false) H)
abbrev N_is_bits : List Str := ["value", "length", "sign"]
abbrev P_is_bits : List Str := ["value", "length"]
theorem sc_is_bits : FnScope N_is_bits P_is_bits (defScope s_is_bits) := ⟨rfl, rfl, rfl, by decide +kernel, rfl, by decide +kernel, by decide +kernel⟩
theorem c_is_bits (T : Txt w K mg) : Cal P w K mg base 1 "is_bits" spIsBits [] := by
  refine T.f_is_bits.cal sc_is_bits (fun _ _ _ _ _ _ us hl => match us, hl with | [_, _], _ => rfl) (fun vs H Q E h => ?_) (fun f cdv A outer s H vs Q E hr h => ?_)
  · rcases h with ⟨b, rfl, _⟩ | ⟨i, l, rfl, _⟩
    · rfl
    · rfl
  refine ⟨_, pss_one (ps_ret (pe_and (pe_callB call_isi rfl T.b_isinstance (by decide +kernel) (pa_cons (pv 0) (pa_cons (pe_ty "str" T.b_str (by decide +kernel)) pa_nil))) (pe_and (pe_cmpR op_eq (pe_callB call_len_str rfl T.b_len PySem.boot_len (pa_cons (pv 0) pa_nil)) (pv 1) (nomark _)) (pe_one (pe_callB (cr_all rfl) rfl T.b_all (by decide +kernel) (pa_cons (pe_lc (own := [("sign", 2)]) (g := gName 2) (tt := tYes) rfl sc_is_bits.nd (pi_str (pv 0)) (blkOk_by (own := [("sign", 2)]) (N := N_is_bits) (sc := defScope s_is_bits) (by decide +kernel)) (fun _ _ _ _ _ => pg_name (i := 2) sc_is_bits.nd rfl (Or.inl rfl)) (fun _ _ _ _ _ => pts_nil) (fun _ _ _ _ _ => (pe_cmpR op_in_sign (pv 2) pe_str rfl))) pa_nil)))))), ?_⟩
  rcases h with ⟨b, rfl, hb, q⟩ | ⟨i, l, rfl, q⟩
  · refine ⟨_, rfl, _, _, _, _, true, rfl, .ty _, .base (.str _), kit_ty (by decide +kernel), _, rfl, iteT ?_⟩
    refine ⟨_, rfl, _, rfl, (by rw [S_len]; exact sl (by omega)), _, rfl, rfl, _, rfl, ite2 (fun _ => ?_) fun c => absurd (decide_eq_true (by rw [S_len])) c⟩
    refine ⟨_, rfl, _, rfl, fun D hD => lp_bits (fun _ => .bl true) hD (by omega) (fun i c H1 hi s1 Qe qe => ?_) (fun H1 s1 hL => ?_)⟩
    · refine ⟨rfl, _, rfl, sg c, _, rfl, rfl, ?_⟩
      have e : decide (sg c ∈ ("01" : Str).cps.toList) = true := by cases c <;> decide +kernel
      show Qe (.bl (decide (sg c ∈ ("01" : Str).cps.toList))) H1
      rw [e]
      exact qe _ (Same.refl _)
    · refine ⟨_, (List.range b.length).map fun _ => true, rfl, SqL.of (by rw [hL, List.map_map]; rfl), ?_⟩
      have e : ((List.range b.length).map fun _ => true).all id = true := by simp
      rw [e]
      exact q _ s1
  · refine ⟨_, rfl, _, _, _, _, false, rfl, .ty _, .base (.int _), kit_ty (by decide +kernel), _, rfl, iteF ?_⟩
    exact q
/-! ### is_row -/
/-- a tuple of texts of m bits -/
def spIsRow : Sp := fun vs H Q _ => ∃ (r : Addr) (rows : List Bs) (m : Nat), vs = [.ref r, .int (rows.length : Int), .int (m : Int)] ∧ H r = some (.tup (rows.map fun y => V.str (S y))) ∧ (∀ y ∈ rows, y.length = m) ∧ rows.length ≤ 1000 ∧ m ≤ 1000 ∧ ∀ H', Same H H' → Q (.bl true) H'
abbrev N_is_row : List Str := ["value", "many", "length", "one"]
abbrev P_is_row : List Str := ["value", "many", "length"]
theorem sc_is_row : FnScope N_is_row P_is_row (defScope s_is_row) := ⟨rfl, rfl, rfl, by decide +kernel, rfl, by decide +kernel, by decide +kernel⟩
theorem c_is_row (T : Txt w K mg) : Cal P w K mg base 2 "is_row" spIsRow [] := by
  refine T.f_is_row.cal sc_is_row (fun _ _ _ _ _ _ us hl => match us, hl with | [_, _, _], _ => rfl) (fun vs H Q E h => ?_) (fun f cdv A outer s H vs Q E hr h => ?_)
  · obtain ⟨r, rows, m, rfl, _⟩ := h
    rfl
  obtain ⟨r, rows, m, rfl, hR, hm, hl, hm2, q⟩ := h
  refine ⟨_, pss_one (ps_ret (pe_and (pe_callB call_isi rfl T.b_isinstance (by decide +kernel) (pa_cons (pv 0) (pa_cons (pe_ty "tuple" T.b_tuple (by decide +kernel)) pa_nil))) (pe_and (pe_cmpR op_eq (pe_callB call_len_seq rfl T.b_len PySem.boot_len (pa_cons (pv 0) pa_nil)) (pv 1) (nomark _)) (pe_one (pe_callB (cr_all rfl) rfl T.b_all (by decide +kernel) (pa_cons (pe_lc (own := [("one", 3)]) (g := gName 3) (tt := tYes) rfl sc_is_row.nd (pi_tup (pv 0)) (blkOk_by (own := [("one", 3)]) (N := N_is_row) (sc := defScope s_is_row) (by decide +kernel)) (fun _ _ _ _ _ => pg_name (i := 3) sc_is_row.nd rfl (Or.inl rfl)) (fun _ _ _ _ _ => pts_nil) (fun _ _ _ _ _ => (pe_c (c_is_bits T) hr (by decide) rfl (pa_cons (pv 3) (pa_cons (pv 2) pa_nil))))) pa_nil)))))), ?_⟩
  have hlen : (rows.map fun y => V.str (S y)).length = rows.length := List.length_map _
  refine ⟨_, rfl, _, _, _, _, true, rfl, .ty _, .base (.tup hR), kit_ty (by decide +kernel), _, rfl, iteT ?_⟩
  refine ⟨_, rfl, r, _, rfl, .inr (SqT.of hR), _, rfl, rfl, _, rfl, ite2 (fun _ => ?_) fun c => absurd (decide_eq_true (by rw [hlen])) c⟩
  refine ⟨_, rfl, r, rfl, ⟨_, SqT.of hR⟩, fun D hD => lp_tup (xs := rows.map fun y => V.str (S y)) (fun _ => .bl true) hD (by omega) (SqT.of hR) (fun i x H1 hi s1 Qe qe => ?_) (fun H1 s1 hL => ?_)⟩
  · obtain ⟨y, hy, rfl⟩ := get_map hi
    have e := hm y (List.mem_of_getElem? hy)
    refine ⟨rfl, _, rfl, _, rfl, .inl ⟨y, (by show [V.str (S y), V.int (m : Int)] = _; rw [e]), by omega, fun H2 s2 => qe _ s2⟩⟩
  · refine ⟨_, (List.range (rows.map fun y => V.str (S y)).length).map fun _ => true, rfl, SqL.of (by rw [hL, List.map_map]; rfl), ?_⟩
    have e : ((List.range (rows.map fun y => V.str (S y)).length).map fun _ => true).all id = true := by simp
    rw [e]
    exact q _ s1
/-! ### generators -/
/-- at a: a generator from n to m bits -/
structure GenAt (H : Hp) (a : Addr) (rows : List Bs) (n m : Nat) : Prop where
  at_ : ∃ r, H a = some (.tup [.str "generator", .int (n : Int), .int (m : Int), .ref r]) ∧ H r = some (.tup (rows.map fun y => V.str (S y)))
  hl : rows.length = 2 ^ n
  hm : ∀ y ∈ rows, y.length = m
  n1 : 1 ≤ n
  n2 : n ≤ 2
  m1 : 1 ≤ m
  m3 : m ≤ 3
theorem GenAt.same {H H' : Hp} {a : Addr} {rows : List Bs} {n m : Nat} (g : GenAt H a rows n m) (s : Same H H') : GenAt H' a rows n m := by
  obtain ⟨r, h1, h2⟩ := g.at_
  exact ⟨⟨r, s _ _ h1, s _ _ h2⟩, g.hl, g.hm, g.n1, g.n2, g.m1, g.m3⟩
def spGen : Sp := fun vs H Q _ => ∃ (a : Addr) (rows : List Bs) (n m : Nat), vs = [.ref a] ∧ GenAt H a rows n m ∧ ∀ H', Same H H' → Q (.bl true) H'
abbrev N_is_generator : List Str := ["block"]
abbrev P_is_generator : List Str := ["block"]
theorem sc_is_generator : FnScope N_is_generator P_is_generator (defScope s_is_generator) := ⟨rfl, rfl, rfl, by decide +kernel, rfl, by decide +kernel, by decide +kernel⟩
theorem c_is_generator (T : Txt w K mg) : Cal P w K mg base 3 "is_generator" spGen [] := by
  refine T.f_is_generator.cal sc_is_generator (fun _ _ _ _ _ _ us hl => match us, hl with | [_], _ => rfl) (fun vs H Q E h => ?_) (fun f cdv A outer s H vs Q E hr h => ?_)
  · obtain ⟨a, rows, n, m, rfl, _⟩ := h
    rfl
  obtain ⟨a, rows, n, m, rfl, G, q⟩ := h
  obtain ⟨r, h1, h2⟩ := G.at_
  refine ⟨_, pss_cons (ps_if (PW.pt (pw_or (pt_not (pt_val (pe_callB call_isi rfl T.b_isinstance (by decide +kernel) (pa_cons (pv 0) (pa_cons (pe_ty "tuple" T.b_tuple (by decide +kernel)) pa_nil))))) (pw_or (pt_cmpR op_ne (pe_callB call_len_seq rfl T.b_len PySem.boot_len (pa_cons (pv 0) pa_nil)) pe_int (nomark _)) (pw_or1 (pt_cmpR op_ne (pe_ix ix_tup (pv 0) pe_int (fun _ _ => rfl)) pe_str (nomark _)))))) (pss_one (ps_ret pe_bl)) pss_nil)
      (pss_cons (ps_if (PW.pt (pw_or (pt_not (pt_val (pe_c (c_is_number T) hr (by decide) rfl (pa_cons (pe_ix ix_tup (pv 0) pe_int (fun _ _ => rfl)) (pa_cons pe_int (pa_cons pe_int pa_nil)))))) (pw_or1 (pt_not (pt_val (pe_c (c_is_number T) hr (by decide) rfl (pa_cons (pe_ix ix_tup (pv 0) pe_int (fun _ _ => rfl)) (pa_cons pe_int (pa_cons (pe_gi T.g_MOST_LENGTH) pa_nil))))))))) (pss_one (ps_ret pe_bl)) pss_nil)
      (pss_one (ps_ret (pe_c (c_is_row T) hr (by decide) rfl (pa_cons (pe_ix ix_tup (pv 0) pe_int (fun _ _ => rfl)) (pa_cons (pe_op op_shl pe_int (pe_ix ix_tup (pv 0) pe_int (fun _ _ => rfl))) (pa_cons (pe_ix ix_tup (pv 0) pe_int (fun _ _ => rfl)) pa_nil))))))), ?_⟩
  have n1 := G.n1
  have n2 := G.n2
  have m1 := G.m1
  have m3 := G.m3
  refine ⟨_, rfl, _, _, _, _, true, rfl, .ty _, .base (.tup h1), kit_ty (by decide +kernel), _, rfl, iteF ?_⟩
  refine ⟨_, rfl, a, _, rfl, .inr (SqT.of h1), rfl, _, rfl, iteF ?_⟩
  refine ⟨_, rfl, a, _, 0, _, rfl, rfl, SqT.of h1, rfl, rfl, _, rfl, iteNS rfl ?_⟩
  refine ⟨_, rfl, a, _, 1, _, rfl, rfl, SqT.of h1, rfl, _, _, _, rfl, by omega, by omega, _, rfl, iteF ?_⟩
  refine ⟨_, rfl, a, _, 2, _, rfl, rfl, SqT.of h1, rfl, _, _, _, rfl, by omega, by omega, _, rfl, iteF ?_⟩
  refine ⟨_, rfl, a, _, 3, _, rfl, rfl, SqT.of h1, rfl, _, rfl, a, _, 1, _, rfl, rfl, SqT.of h1, rfl, _, _, rfl, rfl, ⟨by omega, by omega, by decide⟩, _, rfl, a, _, 2, _, rfl, rfl, SqT.of h1, rfl, r, rows, m, ?_, h2, G.hm, ?_, by omega, q⟩
  · show [V.ref r, V.int (1 * 2 ^ (n : Int).toNat), V.int (m : Int)] = _
    rw [G.hl, Int.toNat_natCast]
    simp
  · rw [G.hl]
    have : 2 ^ n ≤ 2 ^ 2 := Nat.pow_le_pow_right (by decide) n2
    omega
abbrev N_check_block : List Str := ["block"]
abbrev P_check_block : List Str := ["block"]
theorem sc_check_block : FnScope N_check_block P_check_block (defScope s_check_block) := ⟨rfl, rfl, rfl, by decide +kernel, rfl, by decide +kernel, by decide +kernel⟩
def spChkBlock : Sp := fun vs H Q _ => ∃ (a : Addr) (rows : List Bs) (n m : Nat), vs = [.ref a] ∧ GenAt H a rows n m ∧ ∀ H', Same H H' → Q .non H'
theorem c_check_block (T : Txt w K mg) : Cal P w K mg base 4 "check_block" spChkBlock [] := by
  refine T.f_check_block.cal sc_check_block (fun _ _ _ _ _ _ us hl => match us, hl with | [_], _ => rfl) (fun vs H Q E h => ?_) (fun f cdv A outer s H vs Q E hr h => ?_)
  · obtain ⟨a, rows, n, m, rfl, _⟩ := h
    rfl
  obtain ⟨a, rows, n, m, rfl, G, q⟩ := h
  refine ⟨_, pss_one (ps_if (PW.pt (pw_and (pt_not (pt_val (pe_c (c_is_generator T) hr (by decide) rfl (pa_cons (pv 0) pa_nil)))) (pw_and1 ptNever))) (pss_one ps_never) pss_nil), ?_⟩
  exact ⟨_, rfl, a, rows, n, m, rfl, G, fun H' s' => ⟨_, rfl, iteF (iteF (q _ s'))⟩⟩
/-! ### row_at -/
def spRowAt : Sp := fun vs H Q _ => ∃ (a : Addr) (rows : List Bs) (n m : Nat) (b : Bs) (y : Bs), vs = [.ref a, .str (S b)] ∧ GenAt H a rows n m ∧ rows[numOf b]? = some y ∧ ∀ H', Same H H' → Q (.str (S y)) H'
abbrev N_row_at : List Str := ["block", "string"]
abbrev P_row_at : List Str := ["block", "string"]
theorem sc_row_at : FnScope N_row_at P_row_at (defScope s_row_at) := ⟨rfl, rfl, rfl, by decide +kernel, rfl, by decide +kernel, by decide +kernel⟩
theorem c_row_at (T : Txt w K mg) : Cal P w K mg base 2 "row_at" spRowAt [] := by
  refine T.f_row_at.cal sc_row_at (fun _ _ _ _ _ _ us hl => match us, hl with | [_, _], _ => rfl) (fun vs H Q E h => ?_) (fun f cdv A outer s H vs Q E hr h => ?_)
  · obtain ⟨a, rows, n, m, b, y, rfl, _⟩ := h
    rfl
  obtain ⟨a, rows, n, m, b, y, rfl, G, hy, q⟩ := h
  obtain ⟨r, h1, h2⟩ := G.at_
  refine ⟨_, pss_one (ps_ret (pe_ix ix_tup (pe_ix ix_tup (pv 0) pe_int (fun _ _ => rfl)) (pe_c (c_number_of T) hr (by decide) rfl (pa_cons (pv 1) pa_nil)) (fun _ _ => rfl))), ?_⟩
  refine ⟨_, rfl, a, _, 3, _, rfl, rfl, SqT.of h1, rfl, _, rfl, b, rfl, fun H' s' => ?_⟩
  exact ⟨r, _, _, _, rfl, rfl, SqT.of (s' _ _ h2), atI_nat (by rw [List.getElem?_map, hy]; rfl), q _ s'⟩
end
end NX
namespace NX
open PySem PySem.Spec PyProof.Rows L2
open C8 (Cal Met Mak pe_c pe_mk pe_mt pe_mt0)
/-! ### what stands: breakers, tapes, worlds -/
def PartV : Part → V
  | .inl b => .str (S [b])
  | .inr n => .int (n : Int)
def BrAt (H : Hp) : Br → Addr → Prop
  | .say ps, a => ∃ q, H a = some (.tup [.str "say", .ref q]) ∧ H q = some (.tup (ps.map PartV))
  | .toss n f, a => ∃ (q : Addr) (as : Nat → Addr), H a = some (.tup [.str "toss", .ref q]) ∧ H q = some (.tup ((List.range n).map fun i => V.ref (as i))) ∧ ∀ i, i < n → BrAt H (f i) (as i)
  | .look k x y, a => ∃ p q, H a = some (.tup [.str "look", .int (k : Int), .ref p, .ref q]) ∧ BrAt H x p ∧ BrAt H y q
  | .ask ps x, a => ∃ q p, H a = some (.tup [.str "ask", .ref q, .ref p]) ∧ H q = some (.tup (ps.map PartV)) ∧ BrAt H x p
/-- all but M stands as it stood; M are lists, before and behind -/
structure Kp (M : Addr → Prop) (H H' : Hp) : Prop where
  keep : ∀ b o, H b = some o → ¬ M b → H' b = some o
  lst : ∀ b xs, M b → H b = some (.lst xs) → ∃ ys, H' b = some (.lst ys)
/-- M are lists -/
def Ml (M : Addr → Prop) (H : Hp) : Prop := ∀ b, M b → ∃ xs, H b = some (.lst xs)
theorem Kp.refl (M : Addr → Prop) (H : Hp) : Kp M H H := ⟨fun _ _ h _ => h, fun _ xs _ h => ⟨xs, h⟩⟩
theorem Kp.trans {M : Addr → Prop} {H H1 H2 : Hp} (a : Kp M H H1) (b : Kp M H1 H2) : Kp M H H2 :=
  ⟨fun c o h n => b.keep c o (a.keep c o h n) n, fun c xs m h => by obtain ⟨ys, h1⟩ := a.lst c xs m h; exact b.lst c ys m h1⟩
theorem Kp.of_same {M : Addr → Prop} {H H' : Hp} (s : Same H H') : Kp M H H' := ⟨fun b o h _ => s b o h, fun b xs _ h => ⟨xs, s b _ h⟩⟩
theorem Kp.mono {M N : Addr → Prop} {H H' : Hp} (a : Kp M H H') (h : ∀ b, M b → N b) : Kp N H H' :=
  ⟨fun b o q n => a.keep b o q fun m => n (h b m), fun b xs m q => by
    by_cases c : M b
    · exact a.lst b xs c q
    · exact ⟨xs, a.keep b _ q c⟩⟩
theorem Kp.upd {M : Addr → Prop} {H : Hp} {l : Addr} {xs : List V} (m : M l) : Kp M H (upd H l (.lst xs)) :=
  ⟨fun b o h n => by rw [upd_ne (fun e : b = l => n (by rw [e]; exact m))]; exact h, fun b ys _ h => by
    by_cases e : b = l
    · subst e; exact ⟨xs, upd_same⟩
    · exact ⟨ys, by rw [upd_ne e]; exact h⟩⟩
theorem Kp.new {M : Addr → Prop} {H : Hp} {p : Addr} (h : H p = none) (o : HO) : Kp M H (L2.upd H p o) := .of_same (same_new h o)
theorem Ml.not {M : Addr → Prop} {H : Hp} (m : Ml M H) {b : Addr} {o : HO} (h : H b = some o) (n : ∀ xs, o ≠ .lst xs) : ¬ M b := fun q => by
  obtain ⟨xs, e⟩ := m b q
  rw [h] at e
  exact n xs (Option.some.inj e)
theorem Ml.kp {M : Addr → Prop} {H H' : Hp} (m : Ml M H) (k : Kp M H H') : Ml M H' := fun b q => by
  obtain ⟨xs, e⟩ := m b q
  exact k.lst b xs q e
theorem Kp.tup {M : Addr → Prop} {H H' : Hp} (k : Kp M H H') (m : Ml M H) {b : Addr} {xs : List V} (h : H b = some (.tup xs)) : H' b = some (.tup xs) := k.keep b _ h (m.not h fun _ z => nomatch z)
theorem Kp.ins {M : Addr → Prop} {H H' : Hp} (k : Kp M H H') (m : Ml M H) {b C dx : Addr} {fs : List (Str × V)} (h : H b = some (.ins C dx fs)) : H' b = some (.ins C dx fs) := k.keep b _ h (m.not h fun _ z => nomatch z)
theorem BrAt.keep {H H' : Hp} (k : ∀ b xs, H b = some (.tup xs) → H' b = some (.tup xs)) : ∀ {b : Br} {a : Addr}, BrAt H b a → BrAt H' b a
  | .say ps, a, ⟨q, h1, h2⟩ => ⟨q, k _ _ h1, k _ _ h2⟩
  | .toss n f, a, ⟨q, as, h1, h2, h3⟩ => ⟨q, as, k _ _ h1, k _ _ h2, fun i hi => BrAt.keep k (h3 i hi)⟩
  | .look n x y, a, ⟨p, q, h1, h2, h3⟩ => ⟨p, q, k _ _ h1, BrAt.keep k h2, BrAt.keep k h3⟩
  | .ask ps x, a, ⟨q, p, h1, h2, h3⟩ => ⟨q, p, k _ _ h1, k _ _ h2, BrAt.keep k h3⟩
theorem BrAt.kp {M : Addr → Prop} {H H' : Hp} {b : Br} {a : Addr} (h : BrAt H b a) (k : Kp M H H') (m : Ml M H) : BrAt H' b a := BrAt.keep (fun _ _ z => k.tup m z) h
theorem BrAt.same {H H' : Hp} {b : Br} {a : Addr} (h : BrAt H b a) (k : Same H H') : BrAt H' b a := BrAt.keep (fun _ _ z => k _ _ z) h
/-- the tuples of draws -/
def DrawsOk (H : Hp) (ts : List Addr) (ds : List (Nat × Nat)) : Prop := ts.length = ds.length ∧ ∀ (i : Nat) (t : Addr) (d : Nat × Nat), ts[i]? = some t → ds[i]? = some d → H t = some (.tup [.int (d.1 : Int), .int (d.2 : Int)])
theorem DrawsOk.keep {H H' : Hp} {ts : List Addr} {ds : List (Nat × Nat)} (d : DrawsOk H ts ds) (k : ∀ b xs, H b = some (.tup xs) → H' b = some (.tup xs)) : DrawsOk H' ts ds := ⟨d.1, fun i t x h1 h2 => k _ _ (d.2 i t x h1 h2)⟩
theorem DrawsOk.snoc {H : Hp} {ts : List Addr} {ds : List (Nat × Nat)} (d : DrawsOk H ts ds) {t : Addr} {c n : Nat} (h : H t = some (.tup [.int (c : Int), .int (n : Int)])) : DrawsOk H (ts ++ [t]) (ds ++ [(c, n)]) := by
  refine ⟨by simp [d.1], fun i t' x h1 h2 => ?_⟩
  by_cases hi : i < ds.length
  · rw [List.getElem?_append_left (by rw [d.1]; exact hi)] at h1
    rw [List.getElem?_append_left hi] at h2
    exact d.2 i t' x h1 h2
  · have e : i = ds.length := by
      have := (List.getElem?_eq_some_iff.mp h2).1
      simp at this
      omega
    subst e
    rw [List.getElem?_append_right (by rw [d.1]; exact Nat.le_refl _), d.1, Nat.sub_self] at h1
    rw [List.getElem?_append_right (Nat.le_refl _), Nat.sub_self] at h2
    simp at h1 h2
    subst h1 h2
    exact h
def TapeC (K : PySem.W.Frag) : Addr := He.ga K "Tape"
/-- a tape at tp, its draws in the list at dl: the choices cs, the draws ds so far -/
structure TapeAt (K : PySem.W.Frag) (M : Addr → Prop) (H : Hp) (tp dl : Addr) (cs : List Nat) (ds : List (Nat × Nat)) : Prop where
  ex : ∃ (dx cl : Addr) (ts : List Addr), H tp = some (.ins (He.ga K "Tape") dx [("choices", .ref cl), ("draws", .ref dl)]) ∧ H cl = some (.lst (cs.map fun (c : Nat) => V.int (c : Int))) ∧ ¬ M cl ∧ H dl = some (.lst (ts.map V.ref)) ∧ DrawsOk H ts ds
  md : M dl
/-- only lists of N change, dl is none of them -/
theorem TapeAt.other {K : PySem.W.Frag} {M N : Addr → Prop} {H H' : Hp} {tp dl : Addr} {cs : List Nat} {ds : List (Nat × Nat)} (t : TapeAt K M H tp dl cs ds) (k : Kp N H H') (m : Ml N H) (hN : ∀ b, N b → M b) (hd : ¬ N dl) : TapeAt K M H' tp dl cs ds := by
  obtain ⟨dx, cl, ts, h1, h2, h3, h4, h5⟩ := t.ex
  exact ⟨⟨dx, cl, ts, k.ins m h1, k.keep _ _ h2 (fun z => h3 (hN _ z)), h3, k.keep _ _ h4 hd, h5.keep fun _ _ z => k.tup m z⟩, t.md⟩
theorem TapeAt.same {K : PySem.W.Frag} {M : Addr → Prop} {H H' : Hp} {tp dl : Addr} {cs : List Nat} {ds : List (Nat × Nat)} (t : TapeAt K M H tp dl cs ds) (s : Same H H') : TapeAt K M H' tp dl cs ds := by
  obtain ⟨dx, cl, ts, h1, h2, h3, h4, h5⟩ := t.ex
  exact ⟨⟨dx, cl, ts, s _ _ h1, s _ _ h2, h3, s _ _ h4, h5.keep fun _ _ z => s _ _ z⟩, t.md⟩
/-- what answers: Silent (kd = false), or Notes over Silent (kd = true), k more asks -/
def wC (K : PySem.W.Frag) (kd : Bool) : Addr := match kd with
  | false => He.ga K "Silent"
  | true => He.ga K "Notes"
def WAt (K : PySem.W.Frag) (kd : Bool) (M : Addr → Prop) (dl : Addr) (H : Hp) (wd : Addr) (k : Nat) : Prop := match kd with
  | false => ∃ dx, H wd = some (.ins (He.ga K "Silent") dx [])
  | true => ∃ (dx si dx2 al : Addr) (xs : List V), H wd = some (.ins (He.ga K "Notes") dx [("world", .ref si), ("asked", .ref al)]) ∧ H si = some (.ins (He.ga K "Silent") dx2 []) ∧ H al = some (.lst xs) ∧ xs.length + k ≤ 1000 ∧ M al ∧ al ≠ dl
theorem WAt.ins {K : PySem.W.Frag} {kd : Bool} {M : Addr → Prop} {dl : Addr} {H : Hp} {wd : Addr} {k : Nat} (h : WAt K kd M dl H wd k) : ∃ dx fs, H wd = some (.ins (wC K kd) dx fs) ∧ fs.lookup ("answer" : Str) = none := by
  cases kd with
  | false =>
    obtain ⟨dx, h⟩ := h
    exact ⟨dx, [], h, rfl⟩
  | true =>
    obtain ⟨dx, si, dx2, al, xs, h, _⟩ := h
    exact ⟨dx, _, h, lkN kNotes⟩
/-- the tape's list alone changes, or nothing that stood -/
theorem WAt.dl {K : PySem.W.Frag} {kd : Bool} {M N : Addr → Prop} {dl : Addr} {H H' : Hp} {wd : Addr} {k : Nat} (h : WAt K kd M dl H wd k) (q : Kp N H H') (m : Ml N H) (hN : ∀ b, N b → b = dl) : WAt K kd M dl H' wd k := by
  cases kd with
  | false =>
    obtain ⟨dx, h⟩ := h
    exact ⟨dx, q.ins m h⟩
  | true =>
    obtain ⟨dx, si, dx2, al, xs, h1, h2, h3, h4, h5, h6⟩ := h
    exact ⟨dx, si, dx2, al, xs, q.ins m h1, q.ins m h2, q.keep _ _ h3 (fun z => h6 (hN _ z)), h4, h5, h6⟩
theorem WAt.same {K : PySem.W.Frag} {kd : Bool} {M : Addr → Prop} {dl : Addr} {H H' : Hp} {wd : Addr} {k : Nat} (h : WAt K kd M dl H wd k) (s : Same H H') : WAt K kd M dl H' wd k :=
  h.dl (N := fun _ => False) (.of_same s) (fun _ z => z.elim) fun _ z => z.elim
section
variable {P : Program} {w : World} {K : PySem.W.Frag} {mg : Str → Option Value} {base : Heap}
/-! ### made_string -/
def spMade : Sp := fun vs H Q _ => ∃ (q : Addr) (ps : List Part) (h : Bs), vs = [.ref q, .str (S h)] ∧ H q = some (.tup (ps.map PartV)) ∧ partsOk ps ∧ h.length ≤ 1000 ∧ Q (.str (S (made ps h))) H
abbrev N_made_string : List Str := ["parts", "handed", "found", "part"]
abbrev P_made_string : List Str := ["parts", "handed"]
theorem sc_made_string : FnScope N_made_string P_made_string (defScope s_made_string) := ⟨rfl, rfl, rfl, by decide +kernel, rfl, by decide +kernel, by decide +kernel⟩
def bit1 (h : Bs) : Part → Bool
  | .inl b => b
  | .inr n => bitAt h n
theorem made_eq (ps : List Part) (h : Bs) : made ps h = ps.map (bit1 h) := by
  unfold made
  refine List.map_congr_left fun q _ => ?_
  cases q <;> rfl
theorem c_made_string (T : Txt w K mg) : Cal P w K mg base 1 "made_string" spMade [] := by
  refine T.f_made_string.cal sc_made_string (fun _ _ _ _ _ _ us hl => match us, hl with | [_, _], _ => rfl) (fun vs H Q E h => ?_) (fun f cdv A outer s H vs Q E hr h => ?_)
  · obtain ⟨q, ps, h, rfl, _⟩ := h
    rfl
  obtain ⟨q, ps, h, rfl, hq, ⟨hp3, hp9⟩, hh, qq⟩ := h
  refine ⟨_, pss_cons (ps_set (i := 2) sc_made_string.nd rfl (Or.inl rfl) pe_str)
      (pss_cons (ps_for PassesOwn.never rfl (pi_tup (pv 0)) (pg_name (i := 3) sc_made_string.nd rfl (Or.inl rfl)) (pss_one (ps_if (pt_val (pe_callB call_isi rfl T.b_isinstance (by decide +kernel) (pa_cons (pv 3) (pa_cons (pe_ty "str" T.b_str (by decide +kernel)) pa_nil)))) (pss_one (ps_set (i := 2) sc_made_string.nd rfl (Or.inl rfl) (pe_op op_add_str (pv 2) (pv 3)))) (pss_one (ps_set (i := 2) sc_made_string.nd rfl (Or.inl rfl) (pe_op op_add_str (pv 2) (pe_ifExp (pt_cmpR op_lt (pv 3) (pe_callB call_len_str rfl T.b_len PySem.boot_len (pa_cons (pv 1) pa_nil)) (nomark _)) (pe_ix ix_str (pv 1) (pv 3) (fun _ _ => rfl)) pe_str)))))))
      (pss_one (ps_ret (pv 2)))), ?_⟩
  refine ⟨_, rfl, q, rfl, ⟨_, SqT.of hq⟩, for_tup (xs := ps.map PartV) (fun i σ H' => (∃ x : Option V, σ = [some (.ref q), some (.str (S h)), some (.str (S ((ps.take i).map (bit1 h)))), x]) ∧ H' = H)
    ⟨⟨none, rfl⟩, rfl⟩ (fun i σ H' _ ⟨_, e⟩ => by rw [e]; exact SqT.of hq) ?_ ?_⟩
  · rintro i y σ H' hi ⟨⟨x, rfl⟩, rfl⟩
    obtain ⟨z, hz, rfl⟩ := get_map hi
    have lz : i < ps.length := (List.getElem?_eq_some_iff.mp hz).1
    have more : ((ps.take (i + 1)).map (bit1 h)) = (ps.take i).map (bit1 h) ++ [bit1 h z] := by rw [take_more hz, List.map_append]; rfl
    have len : (S ((ps.take i).map (bit1 h))).length + 1 ≤ sizeLine := by rw [S_len, List.length_map]; exact sl (by have := List.length_take_le i ps; omega)
    cases z with
    | inl b =>
      refine ⟨_, rfl, _, _, _, _, true, rfl, .ty _, .base (.str _), kit_ty (by decide +kernel), _, rfl, iteT ?_⟩
      refine ⟨_, rfl, _, rfl, _, _, rfl, rfl, len, ⟨some (.str (S [b])), ?_⟩, rfl⟩
      · show [some (V.ref q), some (V.str (S h)), some (V.str (S ((ps.take i).map (bit1 h)) ++ S [b])), some (V.str (S [b]))] = _
        rw [S_app, more]
        rfl
    | inr n =>
      refine ⟨_, rfl, _, _, _, _, false, rfl, .ty _, .base (.int _), kit_ty (by decide +kernel), _, rfl, iteF ?_⟩
      refine ⟨_, rfl, _, rfl, _, rfl, _, rfl, (by rw [S_len]; exact sl (by omega)), _, _, rfl, rfl, _, rfl, ?_⟩
      refine ite2 (fun c => ?_) (fun c => ?_)
      · have c1 : (n : Int) < (((S h).length : Nat) : Int) := of_decide_eq_true c
        rw [S_len] at c1
        have c2 : n < h.length := by omega
        refine ⟨_, rfl, _, rfl, _, _, _, rfl, rfl, (by rw [S_len]; exact sl (by omega)), S_at c2, ?_⟩
        refine ⟨_, _, rfl, rfl, len, ⟨some (.int (n : Int)), ?_⟩, rfl⟩
        show [some (V.ref q), some (V.str (S h)), some (V.str (S ((ps.take i).map (bit1 h)) ++ S [bitAt h n])), some (V.int (n : Int))] = _
        rw [S_app, more]
        rfl
      · have c1 : ¬ (n : Int) < (((S h).length : Nat) : Int) := of_decide_eq_false (Bool.eq_false_iff.mpr c)
        rw [S_len] at c1
        have c2 : bitAt h n = false := by
          simp only [bitAt, List.getD_eq_getElem?_getD]
          rw [List.getElem?_eq_none (by omega)]
          rfl
        refine ⟨_, _, rfl, rfl, len, ⟨some (.int (n : Int)), ?_⟩, rfl⟩
        show [some (V.ref q), some (V.str (S h)), some (V.str (S ((ps.take i).map (bit1 h)) ++ S [false])), some (V.int (n : Int))] = _
        rw [S_app, more]
        show _ = [_, _, some (V.str (S (_ ++ [bitAt h n]))), _]
        rw [c2]
  · rintro σ H' ⟨⟨x, rfl⟩, rfl⟩
    refine ⟨_, rfl, ?_⟩
    rw [List.length_map, List.take_length, ← made_eq]
    exact qq
/-! ### worlds -/
def spAns (K : PySem.W.Frag) (kd : Bool) : Sp := fun vs H Q _ => ∃ (wd dl : Addr) (M : Addr → Prop) (k : Nat) (z : Str), vs = [.ref wd, .str z] ∧ WAt K kd M dl H wd (k + 1) ∧
  ∀ H', Kp (fun b => M b ∧ b ≠ dl) H H' → WAt K kd M dl H' wd k → Q (.str ("" : Str)) H'
abbrev N_Silent_answer : List Str := ["self", "string"]
abbrev P_Silent_answer : List Str := ["self", "string"]
theorem sc_Silent_answer : FnScope N_Silent_answer P_Silent_answer (defScope s_Silent_answer) := ⟨rfl, rfl, rfl, by decide +kernel, rfl, by decide +kernel, by decide +kernel⟩
theorem c_Silent_answer (T : Txt w K mg) : Met P w K mg base 1 (He.ga K "Silent") "answer" (spAns K false) [] := by
  refine T.m_Silent_answer.met sc_Silent_answer (fun _ _ _ _ _ _ us hl => match us, hl with | [_, _], _ => rfl) (fun vs H Q E h => ?_) (fun f cdv A outer s H vs Q E hr h => ?_)
  · obtain ⟨wd, dl, M, k, z, rfl, _⟩ := h
    rfl
  obtain ⟨wd, dl, M, k, z, rfl, hw, q⟩ := h
  exact ⟨_, pss_one (ps_ret pe_str), q H (Kp.refl _ _) hw⟩
abbrev N_Notes_answer : List Str := ["self", "string", "found"]
abbrev P_Notes_answer : List Str := ["self", "string"]
theorem sc_Notes_answer : FnScope N_Notes_answer P_Notes_answer (defScope s_Notes_answer) := ⟨rfl, rfl, rfl, by decide +kernel, rfl, by decide +kernel, by decide +kernel⟩
theorem c_Notes_answer (T : Txt w K mg) : Met P w K mg base 2 (He.ga K "Notes") "answer" (spAns K true) [] := by
  refine T.m_Notes_answer.met sc_Notes_answer (fun _ _ _ _ _ _ us hl => match us, hl with | [_, _], _ => rfl) (fun vs H Q E h => ?_) (fun f cdv A outer s H vs Q E hr h => ?_)
  · obtain ⟨wd, dl, M, k, z, rfl, _⟩ := h
    rfl
  obtain ⟨wd, dl, M, k, z, rfl, ⟨dx, si, dx2, al, xs, h1, h2, h3, h4, h5, h6⟩, q⟩ := h
  refine ⟨_, pss_cons (ps_set (i := 2) sc_Notes_answer.nd rfl (Or.inl rfl) (pe_mt (c_Silent_answer T) hr (by decide) (pe_fld (pv 0) rfl) (pa_cons (pv 1) pa_nil)))
      (pss_cons (ps_expr (pe_bm PySem.F.plainAttrs_list PySem.F.slot_list_append PySem.F.type_list_append mt_append (pe_fld (pv 0) rfl) (pa_cons (pe_tup (pa_cons (pv 1) (pa_cons (pv 2) pa_nil))) pa_nil)))
      (pss_one (ps_ret (pv 2)))), ?_⟩
  refine ⟨_, rfl, wd, _, dx, _, .ref si, rfl, h1, T.cl_Notes, T.n_Notes_world, lk kNotes 0, si, dx2, _, rfl, h2, rfl, _, rfl, si, dl, fun _ => False, 0, z, rfl, ⟨dx2, h2⟩, fun H1 k1 _ => ?_⟩
  have g1 := k1.keep _ _ h1 (fun z => z.1)
  have g2 := k1.keep _ _ h2 (fun z => z.1)
  have g3 := k1.keep _ _ h3 (fun z => z.1)
  refine ⟨_, rfl, wd, _, dx, _, .ref al, rfl, g1, T.cl_Notes, T.n_Notes_asked, lk kNotes 1, .inl ⟨rfl, _, SqL.of g3⟩, _, rfl, _, rfl, (by show 2 ≤ sizeLine; decide), fun p hp => ?_⟩
  have nap : al ≠ p := ne_of_none g3 hp
  refine ⟨al, _, _, rfl, rfl, (by rw [upd_ne nap]; exact g3), slt (by omega), _, rfl, ?_⟩
  refine q _ ?_ ⟨dx, si, dx2, al, xs ++ [V.ref p], ?_, ?_, upd_same, by rw [List.length_append]; show xs.length + 1 + k ≤ _; omega, h5, h6⟩
  · exact (k1.mono fun _ z => z.1.elim).trans ((Kp.new hp _).trans (Kp.upd ⟨h5, h6⟩))
  · rw [upd_ne (ne_of g1 g3 (by intro z; cases z)), upd_ne (ne_of_none g1 hp)]; exact g1
  · rw [upd_ne (ne_of g2 g3 (by intro z; cases z)), upd_ne (ne_of_none g2 hp)]; exact g2
theorem c_answer (T : Txt w K mg) (kd : Bool) : Met P w K mg base 2 (wC K kd) "answer" (spAns K kd) [] := by
  cases kd with
  | false =>
    obtain ⟨f, fd, ps, ds, a, b, c, d, e⟩ := (c_Silent_answer (P := P) (base := base) T).ex
    exact ⟨f, fd, ps, ds, a, b, c.mono (by decide), d, e⟩
  | true => exact c_Notes_answer T
end
end NX
namespace NX
open PySem PySem.Spec PyProof.Rows L2
open C8 (Cal Met Mak pe_c pe_mk pe_mt pe_mt0)
section
variable {P : Program} {w : World} {K : PySem.W.Frag} {mg : Str → Option Value} {base : Heap}
/-! ### Stopped -/
def spStopInit (K : PySem.W.Frag) : Sp := fun vs H Q _ => ∃ (x dx : Addr) (v : V), vs = [.ref x, v] ∧ H x = some (.ins (He.ga K "Stopped") dx []) ∧ Q .non (upd H x (.ins (He.ga K "Stopped") dx [("world", v)]))
abbrev N_Stopped_init : List Str := ["self", "world"]
abbrev P_Stopped_init : List Str := ["self", "world"]
theorem sc_Stopped_init : FnScope N_Stopped_init P_Stopped_init (defScope s_Stopped_init) := ⟨rfl, rfl, rfl, by decide +kernel, rfl, by decide +kernel, by decide +kernel⟩
theorem c_Stopped_init (T : Txt w K mg) : Mak P w K mg base 1 "Stopped" (He.ga K "Stopped") (spStopInit K) [] := by
  refine T.i_Stopped.mak sc_Stopped_init (fun _ _ _ _ _ _ us hl => match us, hl with | [_, _], _ => rfl) (fun vs H Q E h => ?_) (fun f cdv A outer s H vs Q E hr h => ?_)
  · obtain ⟨x, dx, v, rfl, _⟩ := h
    rfl
  obtain ⟨x, dx, v, rfl, hx, q⟩ := h
  exact ⟨_, pss_one (ps_fld (pv 0) (pv 1) rfl), ⟨_, rfl, _, rfl, x, _, dx, [], rfl, hx, T.cl_Stopped, T.n_Stopped_world, (by show 0 < 1000; decide), q⟩⟩
/-- the world of s is none that may stop -/
def spNow (K : PySem.W.Frag) (kd : Bool) : Sp := fun vs H Q _ => ∃ (x dx wd dw : Addr) (fs : List (Str × V)), vs = [.ref x] ∧ H x = some (.ins (He.ga K "Stopped") dx [("world", .ref wd)]) ∧ H wd = some (.ins (wC K kd) dw fs) ∧ Q (.bl false) H
abbrev N_Stopped_now : List Str := ["self"]
abbrev P_Stopped_now : List Str := ["self"]
theorem sc_Stopped_now : FnScope N_Stopped_now P_Stopped_now (defScope s_Stopped_now) := ⟨rfl, rfl, rfl, by decide +kernel, rfl, by decide +kernel, by decide +kernel⟩
theorem is_kd (T : Txt w K mg) (kd : Bool) : InsN K (wC K kd) (He.ga K "OnetimeWorld") := by
  cases kd with
  | false => exact T.is_Silent
  | true => exact T.is_Notes
theorem c_now (T : Txt w K mg) (kd : Bool) : Met P w K mg base 1 (He.ga K "Stopped") "now" (spNow K kd) [] := by
  refine T.m_Stopped_now.met sc_Stopped_now (fun _ _ _ _ _ _ us hl => match us, hl with | [_], _ => rfl) (fun vs H Q E h => ?_) (fun f cdv A outer s H vs Q E hr h => ?_)
  · obtain ⟨x, dx, wd, dw, fs, rfl, _⟩ := h
    rfl
  obtain ⟨x, dx, wd, dw, fs, rfl, hx, hw, q⟩ := h
  have I := is_kd T kd
  refine ⟨_, pss_one (ps_ret (pe_and (pe_callB call_isi rfl T.b_isinstance (by decide +kernel) (pa_cons (pe_fld (pv 0) rfl) (pa_cons (pe_gr T.g_OnetimeWorld) pa_nil))) (pe_one peNever))), ?_⟩
  exact ⟨_, rfl, x, _, dx, _, .ref wd, rfl, hx, T.cl_Stopped, T.n_Stopped_world, lk ["world"] 0, _, _, _, _, false, rfl, .own _, .base (.ins hw I.cl I.ha I.hn I.htk I.hm), I.no, _, rfl, iteF q⟩
/-! ### tapes -/
def spTapeInit (K : PySem.W.Frag) : Sp := fun vs H Q _ => ∃ (x dx a : Addr) (cs : List Nat), vs = [.ref x, .ref a] ∧ H x = some (.ins (He.ga K "Tape") dx []) ∧ H a = some (.lst (cs.map fun (c : Nat) => V.int (c : Int))) ∧ cs.length ≤ 1000 ∧
  ∀ (cl dl : Addr) (H' : Hp), H cl = none → H dl = none → dl ≠ cl → Kp (fun _ => False) (fun b => if b = x then none else H b) H' → H' x = some (.ins (He.ga K "Tape") dx [("choices", .ref cl), ("draws", .ref dl)]) → H' cl = some (.lst (cs.map fun (c : Nat) => V.int (c : Int))) → H' dl = some (.lst []) → Q .non H'
abbrev N_Tape_init : List Str := ["self", "choices"]
abbrev P_Tape_init : List Str := ["self", "choices"]
theorem sc_Tape_init : FnScope N_Tape_init P_Tape_init (defScope s_Tape_init) := ⟨rfl, rfl, rfl, by decide +kernel, rfl, by decide +kernel, by decide +kernel⟩
theorem c_Tape_init (T : Txt w K mg) : Mak P w K mg base 1 "Tape" (He.ga K "Tape") (spTapeInit K) [] := by
  refine T.i_Tape.mak sc_Tape_init (fun _ _ _ _ _ _ us hl => match us, hl with | [_, _], _ => rfl) (fun vs H Q E h => ?_) (fun f cdv A outer s H vs Q E hr h => ?_)
  · obtain ⟨x, dx, a, cs, rfl, _⟩ := h
    rfl
  obtain ⟨x, dx, a, cs, rfl, hx, ha, hl, q⟩ := h
  refine ⟨_, pss_cons (ps_fld (pv 0) (pe_callTy call_list_of rfl T.b_list (by decide +kernel) (pa_cons (pv 1) pa_nil)) rfl)
      (pss_one (ps_fld (pv 0) (pe_lst pa_nil) rfl)), ?_⟩
  refine ⟨_, rfl, a, _, rfl, .inl (SqL.of ha), fun cl hcl => ?_⟩
  have nxc : x ≠ cl := ne_of_none hx hcl
  refine ⟨_, rfl, x, _, dx, [], rfl, (by rw [upd_ne nxc]; exact hx), T.cl_Tape, T.n_Tape_choices, (by show 0 < 1000; decide), ?_⟩
  refine ⟨Nat.zero_le _, fun dl hdl => ?_⟩
  have ndx : dl ≠ x := fun e => by rw [e, upd_same] at hdl; cases hdl
  have ndc : dl ≠ cl := fun e => by rw [e, upd_ne nxc.symm, upd_same] at hdl; cases hdl
  have hdl0 : H dl = none := by rw [upd_ne ndx, upd_ne ndc] at hdl; exact hdl
  refine ⟨_, rfl, x, _, dx, _, rfl, (by rw [upd_ne ndx.symm, upd_same]), T.cl_Tape, T.n_Tape_draws, (by show 1 < 1000; decide), ?_⟩
  refine q cl dl _ hcl hdl0 ndc ⟨fun b o h _ => ?_, fun _ _ z => z.elim⟩ ?_ ?_ ?_
  · by_cases e : b = x
    · simp [e] at h
    · simp only [if_neg e] at h
      rw [upd_ne e, upd_ne (ne_of_none h hdl0), upd_ne e, upd_ne (ne_of_none h hcl)]
      exact h
  · rw [upd_same]
    have e1 : putF "choices" (V.ref cl) [] = [(("choices" : Str), V.ref cl)] := rfl
    rw [e1, putF_new ["choices"]]
    rfl
  · rw [upd_ne nxc.symm, upd_ne ndc.symm, upd_ne nxc.symm, upd_same]
  · rw [upd_ne ndx, upd_same]
def spDraw (K : PySem.W.Frag) : Sp := fun vs H Q _ => ∃ (M : Addr → Prop) (tp dl : Addr) (cs : List Nat) (ds : List (Nat × Nat)) (n : Nat), vs = [.ref tp, .int (n : Int)] ∧ TapeAt K M H tp dl cs ds ∧ ds.length ≤ 1000 ∧ cs.length ≤ 1000 ∧ (cs.drop ds.length).headD 0 < n ∧
  ∀ H', Kp (fun b => b = dl) H H' → TapeAt K M H' tp dl cs (ds ++ [((cs.drop ds.length).headD 0, n)]) → Q (.int (((cs.drop ds.length).headD 0 : Nat) : Int)) H'
abbrev N_Tape_draw : List Str := ["self", "many", "at", "choice"]
abbrev P_Tape_draw : List Str := ["self", "many"]
theorem sc_Tape_draw : FnScope N_Tape_draw P_Tape_draw (defScope s_Tape_draw) := ⟨rfl, rfl, rfl, by decide +kernel, rfl, by decide +kernel, by decide +kernel⟩
theorem c_draw (T : Txt w K mg) : Met P w K mg base 1 (He.ga K "Tape") "draw" (spDraw K) [] := by
  refine T.m_Tape_draw.met sc_Tape_draw (fun _ _ _ _ _ _ us hl => match us, hl with | [_, _], _ => rfl) (fun vs H Q E h => ?_) (fun f cdv A outer s H vs Q E hr h => ?_)
  · obtain ⟨M, tp, dl, cs, ds, n, rfl, _⟩ := h
    rfl
  obtain ⟨M, tp, dl, cs, ds, n, rfl, ⟨⟨dx, cl, ts, h1, h2, h3, h4, h5⟩, hmd⟩, hds, hcs, hc, q⟩ := h
  refine ⟨_, pss_cons (ps_set (i := 2) sc_Tape_draw.nd rfl (Or.inl rfl) (pe_callB call_len_seq rfl T.b_len PySem.boot_len (pa_cons (pe_fld (pv 0) rfl) pa_nil)))
      (pss_cons (ps_set (i := 3) sc_Tape_draw.nd rfl (Or.inl rfl) (pe_ifExp (pt_cmpR op_lt (pv 2) (pe_callB call_len_seq rfl T.b_len PySem.boot_len (pa_cons (pe_fld (pv 0) rfl) pa_nil)) (nomark _)) (pe_ix ix_list (pe_fld (pv 0) rfl) (pv 2) (fun _ _ => rfl)) pe_int))
      (pss_cons (ps_if (pt_not (pt_chain op_le op_lt pe_int (pv 3) (pv 1))) (pss_one ps_never) pss_nil)
      (pss_cons (ps_expr (pe_bm PySem.F.plainAttrs_list PySem.F.slot_list_append PySem.F.type_list_append mt_append (pe_fld (pv 0) rfl) (pa_cons (pe_tup (pa_cons (pv 3) (pa_cons (pv 1) pa_nil))) pa_nil)))
      (pss_one (ps_ret (pv 3)))))), ?_⟩
  have lts : (ts.map V.ref).length = ds.length := by rw [List.length_map]; exact h5.1
  refine ⟨_, rfl, tp, _, dx, _, .ref dl, rfl, h1, T.cl_Tape, T.n_Tape_draws, lk kTape 1, dl, _, rfl, .inl (SqL.of h4), ?_⟩
  refine ⟨_, rfl, _, rfl, tp, _, dx, _, .ref cl, rfl, h1, T.cl_Tape, T.n_Tape_choices, lk kTape 0, cl, _, rfl, .inl (SqL.of h2), _, _, rfl, rfl, _, rfl, ?_⟩
  refine ite_val (.int (((cs.drop ds.length).headD 0 : Nat) : Int)) H ?_ (fun c Q' k' => ?_) (fun c Q' k' => ?_)
  rotate_left
  · have c1 : (((ts.map V.ref).length : Nat) : Int) < (((cs.map fun (c : Nat) => V.int (c : Int)).length : Nat) : Int) := of_decide_eq_true c
    rw [lts, List.length_map] at c1
    have c2 : ds.length < cs.length := by omega
    refine ⟨_, rfl, tp, _, dx, _, .ref cl, rfl, h1, T.cl_Tape, T.n_Tape_choices, lk kTape 0, _, rfl, cl, _, _, _, rfl, rfl, SqL.of h2, ?_, k'⟩
    rw [lts]
    refine atI_nat ?_
    rw [List.getElem?_map, List.getElem?_eq_getElem c2]
    simp [List.headD_eq_head?_getD, List.head?_drop, List.getElem?_eq_getElem c2]
  · have c1 : ¬ (((ts.map V.ref).length : Nat) : Int) < (((cs.map fun (c : Nat) => V.int (c : Int)).length : Nat) : Int) := of_decide_eq_false c
    rw [lts, List.length_map] at c1
    have e : (cs.drop ds.length).headD 0 = 0 := by rw [List.drop_eq_nil_of_le (by omega)]; rfl
    rw [e] at k'
    exact k'
  generalize hcc : (cs.drop ds.length).headD 0 = c at *
  refine ⟨_, rfl, _, _, rfl, rfl, _, rfl, ite2 (fun _ => ?_) (fun z => absurd (decide_eq_true (show (0 : Int) ≤ (c : Int) by omega)) z)⟩
  refine ⟨_, rfl, _, _, rfl, rfl, _, rfl, iteNS (show (c : Int) < (n : Int) by omega) ?_⟩
  refine ⟨_, rfl, tp, _, dx, _, .ref dl, rfl, h1, T.cl_Tape, T.n_Tape_draws, lk kTape 1, .inl ⟨rfl, _, SqL.of h4⟩, _, rfl, _, rfl, (by show 2 ≤ sizeLine; decide), fun p hp => ?_⟩
  have ndp : dl ≠ p := ne_of_none h4 hp
  refine ⟨dl, _, _, rfl, rfl, (by rw [upd_ne ndp]; exact h4), (by rw [lts]; exact slt (by omega)), _, rfl, ?_⟩
  refine q _ ((Kp.new hp _).trans (Kp.upd rfl)) ⟨⟨dx, cl, ts ++ [p], ?_, ?_, h3, ?_, ?_⟩, hmd⟩
  · rw [upd_ne (ne_of h1 h4 (by intro z; cases z)), upd_ne (ne_of_none h1 hp)]; exact h1
  · rw [upd_ne (fun e => h3 (by rw [e]; exact hmd)), upd_ne (ne_of_none h2 hp)]; exact h2
  · rw [upd_same, List.map_append]; rfl
  · have k1 : ∀ b xs, H b = some (.tup xs) → (upd (upd H p (.tup [.int (c : Int), .int (n : Int)])) dl (.lst (ts.map V.ref ++ [V.ref p]))) b = some (.tup xs) := fun b xs z => by
      rw [upd_ne (ne_of z h4 (by intro z; cases z)), upd_ne (ne_of_none z hp)]; exact z
    exact (h5.keep k1).snoc (by rw [upd_ne ndp.symm, upd_same])
def spString (K : PySem.W.Frag) : Sp := fun vs H Q _ => ∃ (M : Addr → Prop) (tp dl : Addr) (cs : List Nat) (ds : List (Nat × Nat)) (n : Nat), vs = [.ref tp, .int (n : Int)] ∧ TapeAt K M H tp dl cs ds ∧ ds.length ≤ 1000 ∧ cs.length ≤ 1000 ∧ n ≤ 100 ∧ (cs.drop ds.length).headD 0 < 2 ^ n ∧
  ∀ H', Kp (fun b => b = dl) H H' → TapeAt K M H' tp dl cs (ds ++ [((cs.drop ds.length).headD 0, 2 ^ n)]) → Q (.str (S (bitsOf n ((cs.drop ds.length).headD 0)))) H'
abbrev N_Tape_string : List Str := ["self", "length"]
abbrev P_Tape_string : List Str := ["self", "length"]
theorem sc_Tape_string : FnScope N_Tape_string P_Tape_string (defScope s_Tape_string) := ⟨rfl, rfl, rfl, by decide +kernel, rfl, by decide +kernel, by decide +kernel⟩
theorem Ml.one {H : Hp} {dl : Addr} {xs : List V} (h : H dl = some (.lst xs)) : Ml (fun b => b = dl) H := fun b e => ⟨xs, by rw [e]; exact h⟩
theorem c_string (T : Txt w K mg) : Met P w K mg base 2 (He.ga K "Tape") "string" (spString K) [] := by
  refine T.m_Tape_string.met sc_Tape_string (fun _ _ _ _ _ _ us hl => match us, hl with | [_, _], _ => rfl) (fun vs H Q E h => ?_) (fun f cdv A outer s H vs Q E hr h => ?_)
  · obtain ⟨M, tp, dl, cs, ds, n, rfl, _⟩ := h
    rfl
  obtain ⟨M, tp, dl, cs, ds, n, rfl, TA, hds, hcs, hn, hc, q⟩ := h
  obtain ⟨dx, cl, ts, h1, h2, h3, h4, h5⟩ := TA.ex
  refine ⟨_, pss_one (ps_ret (pe_c (c_bits T) hr (by decide) rfl (pa_cons (pv 1) (pa_cons (pe_mt (c_draw T) hr (by decide) (pv 0) (pa_cons (pe_op op_shl pe_int (pv 1)) pa_nil)) pa_nil)))), ?_⟩
  refine ⟨_, rfl, _, rfl, tp, dx, _, rfl, h1, lkN kTape, _, rfl, _, _, rfl, rfl, ⟨by omega, by omega, by decide⟩, M, tp, dl, cs, ds, 2 ^ n, ?_, TA, hds, hcs, hc, fun H1 k1 T1 => ?_⟩
  · show [V.ref tp, V.int (1 * 2 ^ (n : Int).toNat)] = _
    rw [Int.toNat_natCast]
    simp
  · refine ⟨n, _, rfl, by omega, fun H2 s2 => ?_⟩
    exact q H2 (k1.trans (.of_same s2)) (T1.same s2)
def spNotesInit (K : PySem.W.Frag) : Sp := fun vs H Q _ => ∃ (x dx wd : Addr), vs = [.ref x, .ref wd] ∧ H x = some (.ins (He.ga K "Notes") dx []) ∧
  ∀ (al : Addr) (H' : Hp), H al = none → (∀ b o, H b = some o → b ≠ x → H' b = some o) → H' x = some (.ins (He.ga K "Notes") dx [("world", .ref wd), ("asked", .ref al)]) → H' al = some (.lst []) → Q .non H'
abbrev N_Notes_init : List Str := ["self", "world"]
abbrev P_Notes_init : List Str := ["self", "world"]
theorem sc_Notes_init : FnScope N_Notes_init P_Notes_init (defScope s_Notes_init) := ⟨rfl, rfl, rfl, by decide +kernel, rfl, by decide +kernel, by decide +kernel⟩
theorem c_Notes_init (T : Txt w K mg) : Mak P w K mg base 1 "Notes" (He.ga K "Notes") (spNotesInit K) [] := by
  refine T.i_Notes.mak sc_Notes_init (fun _ _ _ _ _ _ us hl => match us, hl with | [_, _], _ => rfl) (fun vs H Q E h => ?_) (fun f cdv A outer s H vs Q E hr h => ?_)
  · obtain ⟨x, dx, wd, rfl, _⟩ := h
    rfl
  obtain ⟨x, dx, wd, rfl, hx, q⟩ := h
  refine ⟨_, pss_cons (ps_fld (pv 0) (pv 1) rfl) (pss_one (ps_fld (pv 0) (pe_lst pa_nil) rfl)), ?_⟩
  refine ⟨_, rfl, _, rfl, x, _, dx, [], rfl, hx, T.cl_Notes, T.n_Notes_world, (by show 0 < 1000; decide), ?_⟩
  refine ⟨Nat.zero_le _, fun al hal => ?_⟩
  have nax : al ≠ x := fun e => by rw [e, upd_same] at hal; cases hal
  have hal0 : H al = none := by rw [upd_ne nax] at hal; exact hal
  refine ⟨_, rfl, x, _, dx, _, rfl, (by rw [upd_ne nax.symm, upd_same]), T.cl_Notes, T.n_Notes_asked, (by show 1 < 1000; decide), ?_⟩
  refine q al _ hal0 (fun b o h e => ?_) ?_ ?_
  · rw [upd_ne e, upd_ne (ne_of_none h hal0), upd_ne e]; exact h
  · rw [upd_same]
    have e1 : putF "world" (V.ref wd) [] = [(("world" : Str), V.ref wd)] := rfl
    rw [e1, putF_new ["world"]]
    rfl
  · rw [upd_ne nax, upd_same]
end
end NX
namespace NX
open PySem PySem.Spec PyProof.Rows L2
open C8 (Cal Met Mak pe_c pe_mk pe_mt pe_mt0)
theorem iteDT {c A B : Prop} [Decidable c] (hc : c) (h : A) : if decide c = true then A else B := by rw [decide_eq_true hc]; exact iteT h
theorem iteDF {c A B : Prop} [Decidable c] (hc : ¬ c) (h : B) : if decide c = true then A else B := by rw [decide_eq_false hc]; exact iteF h
theorem iteNT {c A B : Prop} [Decidable c] (hc : ¬ c) (h : A) : if (!decide c) = true then A else B := by rw [decide_eq_false hc]; exact iteT h
section
variable {P : Program} {w : World} {K : PySem.W.Frag} {mg : Str → Option Value} {base : Heap}
def spRunP (K : PySem.W.Frag) (kd : Bool) : Sp := fun vs H Q _ => ∃ (M : Addr → Prop) (tp dl : Addr) (cs : List Nat) (ds : List (Nat × Nat)) (wd ba : Addr) (b : Br) (dp B : Nat) (ch : Bs),
  vs = [.ref ba, .ref tp, .str (S ch), .ref wd] ∧ BrAt H b ba ∧ b.Ok dp B ∧ dp ≤ 10 ∧ TapeAt K M H tp dl cs ds ∧ WAt K kd M dl H wd 100 ∧ Ml M H ∧ ch.length ≤ 100 ∧ ds.length ≤ 500 ∧ cs.length ≤ 500 ∧ (plainT b ch).Ok (cs.drop ds.length) ∧
  ∀ H', Kp M H H' → TapeAt K M H' tp dl cs (ds ++ ((plainT b ch).run (cs.drop ds.length)).2) → Q (.str (S ((plainT b ch).run (cs.drop ds.length)).1)) H'
abbrev N_run_plain : List Str := ["breaker", "tape", "challenge", "world", "handed", "stopped"]
abbrev P_run_plain : List Str := ["breaker", "tape", "challenge", "world"]
theorem sc_run_plain : FnScope N_run_plain P_run_plain (defScope s_run_plain) := ⟨rfl, rfl, rfl, by decide +kernel, rfl, by decide +kernel, by decide +kernel⟩
/-- between two turns of run_plain: the breaker b' is to be gone on with -/
def PlainW (K : PySem.W.Frag) (kd : Bool) (M : Addr → Prop) (tp dl : Addr) (cs : List Nat) (wd st : Addr) (ch : Bs) (H0 : Hp) (res : Bs × List (Nat × Nat)) (m : Nat) (σ : L2.St) (H : Hp) : Prop :=
  ∃ (ba dx : Addr) (b : Br) (B k : Nat) (ds : List (Nat × Nat)), σ = [some (.ref ba), some (.ref tp), some (.str (S ch)), some (.ref wd), some (.str (S ch)), some (.ref st)] ∧ BrAt H b ba ∧ b.Ok m B ∧ TapeAt K M H tp dl cs ds ∧ WAt K kd M dl H wd k ∧ m ≤ k ∧ m + ds.length ≤ 510 ∧
    H st = some (.ins (He.ga K "Stopped") dx [("world", .ref wd)]) ∧ (plainT b ch).Ok (cs.drop ds.length) ∧ ((plainT b ch).run (cs.drop ds.length)).1 = res.1 ∧ ds ++ ((plainT b ch).run (cs.drop ds.length)).2 = res.2 ∧ Kp M H0 H ∧ Ml M H
theorem drop_more {cs : List Nat} {ds : List (Nat × Nat)} {x : Nat × Nat} : (cs.drop ds.length).tail = cs.drop (ds ++ [x]).length := by simp
theorem c_run_plain (T : Txt w K mg) (kd : Bool) : Cal P w K mg base 3 "run_plain" (spRunP K kd) [] := by
  refine T.f_run_plain.cal sc_run_plain (fun _ _ _ _ _ _ us hl => match us, hl with | [_, _, _, _], _ => rfl) (fun vs H Q E h => ?_) (fun f cdv A outer s H vs Q E hr h => ?_)
  · obtain ⟨M, tp, dl, cs, ds, wd, ba, b, dp, B, ch, rfl, _⟩ := h
    rfl
  obtain ⟨M, tp, dl, cs, ds, wd, ba, b, dp, B, ch, rfl, hb, ok, hdp, TA, WA, ml, hch, hds, hcs, hok, q⟩ := h
  refine ⟨_, pss_cons (ps_set (i := 4) sc_run_plain.nd rfl (Or.inl rfl) (pv 2))
      (pss_cons (ps_set (i := 5) sc_run_plain.nd rfl (Or.inl rfl) (pe_mk (c_Stopped_init T) hr (by decide) rfl (pa_cons (pv 3) pa_nil)))
      (pss_cons (ps_while PassesOwn.never (pt_cmpR op_ne (pe_ix ix_tup (pv 0) pe_int (fun _ _ => rfl)) pe_str (nomark _)) (pss_one (ps_if (pt_cmpR op_eq (pe_ix ix_tup (pv 0) pe_int (fun _ _ => rfl)) pe_str (nomark _)) (pss_one (ps_set (i := 0) sc_run_plain.nd rfl (Or.inl rfl) (pe_ix ix_tup (pe_ix ix_tup (pv 0) pe_int (fun _ _ => rfl)) (pe_mt (c_draw T) hr (by decide) (pv 1) (pa_cons (pe_callB call_len_seq rfl T.b_len PySem.boot_len (pa_cons (pe_ix ix_tup (pv 0) pe_int (fun _ _ => rfl)) pa_nil)) pa_nil)) (fun _ _ => rfl)))) (pss_one (ps_if (pt_cmpR op_eq (pe_ix ix_tup (pv 0) pe_int (fun _ _ => rfl)) pe_str (nomark _)) (pss_one (ps_set (i := 0) sc_run_plain.nd rfl (Or.inl rfl) (pe_ifExp (pt_cmpR op_eq (pe_c (c_made_string T) hr (by decide) rfl (pa_cons (pe_tup (pa_cons (pe_ix ix_tup (pv 0) pe_int (fun _ _ => rfl)) pa_nil)) (pa_cons (pv 4) pa_nil))) pe_str (nomark _)) (pe_ix ix_tup (pv 0) pe_int (fun _ _ => rfl)) (pe_ix ix_tup (pv 0) pe_int (fun _ _ => rfl))))) (pss_cons (ps_set (i := 4) sc_run_plain.nd rfl (Or.inl rfl) (pe_op op_add_str (pv 4) (pe_mt (c_answer T kd) hr (by decide) (pv 3) (pa_cons (pe_c (c_made_string T) hr (by decide) rfl (pa_cons (pe_ix ix_tup (pv 0) pe_int (fun _ _ => rfl)) (pa_cons (pv 4) pa_nil))) pa_nil)))) (pss_cons (ps_if (pt_val (pe_mt0 (c_now T kd) hr (by decide) (pv 5))) (pss_one (ps_ret pe_str)) pss_nil) (pss_one (ps_set (i := 0) sc_run_plain.nd rfl (Or.inl rfl) (pe_ix ix_tup (pv 0) pe_int (fun _ _ => rfl)))))))))))
      (pss_one (ps_ret (pe_c (c_made_string T) hr (by decide) rfl (pa_cons (pe_ix ix_tup (pv 0) pe_int (fun _ _ => rfl)) (pa_cons (pv 4) pa_nil))))))), ?_⟩
  refine ⟨_, rfl, _, rfl, fun st dx nst ndx nex => ?_⟩
  refine ⟨st, dx, .ref wd, rfl, upd_same, rfl, ?_⟩
  have s0 : Same H (upd (upd (upd H dx (.own st)) st (.ins (He.ga K "Stopped") dx [])) st (.ins (He.ga K "Stopped") dx [("world", .ref wd)])) := ((same_new ndx _).mut nst _).mut nst _
  refine ⟨PlainW K kd M tp dl cs wd st ch H ⟨((plainT b ch).run (cs.drop ds.length)).1, ds ++ ((plainT b ch).run (cs.drop ds.length)).2⟩, ⟨dp, ba, dx, b, B, 100, ds, rfl, hb.same s0, ok, TA.same s0, WA.same s0, by omega, by omega, upd_same, hok, rfl, rfl, .of_same s0, ml.kp (.of_same s0)⟩, ?_⟩
  rintro m σ H1 ⟨ba', dx', b', B', k, ds', rfl, hb', ok', TA', WA', hmk, hmd, hst, hok', e1, e2, k1, ml1⟩
  cases b' with
  | say ps =>
    obtain ⟨p, g1, g2⟩ := hb'
    refine ⟨_, rfl, ba', _, 0, _, rfl, rfl, SqT.of g1, rfl, rfl, _, rfl, iteNS rfl ?_⟩
    have pok : partsOk ps := by cases m <;> exact ok'.1
    refine ⟨_, rfl, ba', _, 1, _, rfl, rfl, SqT.of g1, rfl, _, rfl, p, ps, ch, rfl, g2, pok, by omega, ?_⟩
    have a1 : made ps ch = ((plainT b ch).run (cs.drop ds.length)).1 := e1
    have a2 : ds' ++ [] = ds ++ ((plainT b ch).run (cs.drop ds.length)).2 := e2
    show Q (.str (S (made ps ch))) H1
    rw [a1]
    rw [List.append_nil] at a2
    exact q H1 k1 (by rw [← a2]; exact TA')
  | toss n g =>
    obtain ⟨p, as, g1, g2, g3⟩ := hb'
    cases m with
    | zero => exact ok'.elim
    | succ m =>
      obtain ⟨o1, B2, o2, o3⟩ := ok'
      obtain ⟨c1, c2⟩ := hok'
      refine ⟨_, rfl, ba', _, 0, _, rfl, rfl, SqT.of g1, rfl, rfl, _, rfl, iteNT (by decide) ⟨fun σ' H' => ∃ m', m' < m + 1 ∧ PlainW K kd M tp dl cs wd st ch H _ m' σ' H', fun _ _ z => z, ?_⟩⟩
      refine ⟨_, rfl, ba', _, 0, _, rfl, rfl, SqT.of g1, rfl, rfl, _, rfl, iteDT rfl ?_⟩
      obtain ⟨tdx, tcl, tts, t1, _⟩ := TA'.ex
      have hlen : ((List.range n).map fun i => V.ref (as i)).length = n := by simp
      refine ⟨_, rfl, ba', _, 1, _, rfl, rfl, SqT.of g1, rfl, _, rfl, tp, tdx, _, rfl, t1, lkN kTape, _, rfl, ba', _, 1, _, rfl, rfl, SqT.of g1, rfl, p, _, rfl, .inr (SqT.of g2), M, tp, dl, cs, ds', n, ?_, TA', by omega, by omega, c1, fun H2 k2 TA2 => ?_⟩
      · show [V.ref tp, V.int (((((List.range n).map fun i => V.ref (as i)).length : Nat)) : Int)] = _
        rw [hlen]
      obtain ⟨xs0, hx0⟩ := ml1 dl TA'.md
      have m2 : Ml (fun b => b = dl) H1 := Ml.one hx0
      have k2' : Kp M H1 H2 := k2.mono fun b e => by rw [e]; exact TA'.md
      refine ⟨p, _, _, _, rfl, rfl, SqT.of (k2.tup m2 g2), atI_nat (by rw [List.getElem?_map, List.getElem?_range c1]; rfl), ?_⟩
      refine ⟨m, Nat.lt_succ_self _, as ((cs.drop ds'.length).headD 0), dx', g ((cs.drop ds'.length).headD 0), B2, k, ds' ++ [((cs.drop ds'.length).headD 0, n)], rfl, (g3 _ c1).kp k2 m2, o3 _ c1, TA2, WA'.dl k2 m2 (fun _ z => z), by omega, by rw [List.length_append]; show m + (ds'.length + 1) ≤ 510; omega, k2.ins m2 hst, ?_, ?_, ?_, k1.trans k2', ml1.kp k2'⟩
      · rw [← drop_more]; exact c2
      · rw [← drop_more]; exact e1
      · rw [← drop_more, List.append_assoc]; exact e2
  | look n x y =>
    obtain ⟨p, p2, g1, g2, g3⟩ := hb'
    cases m with
    | zero => exact ok'.elim
    | succ m =>
      obtain ⟨o1, o2, o3⟩ := ok'
      refine ⟨_, rfl, ba', _, 0, _, rfl, rfl, SqT.of g1, rfl, rfl, _, rfl, iteNT (by decide) ⟨fun σ' H' => ∃ m', m' < m + 1 ∧ PlainW K kd M tp dl cs wd st ch H _ m' σ' H', fun _ _ z => z, ?_⟩⟩
      refine ⟨_, rfl, ba', _, 0, _, rfl, rfl, SqT.of g1, rfl, rfl, _, rfl, iteDF (by decide) ?_⟩
      refine ⟨_, rfl, ba', _, 0, _, rfl, rfl, SqT.of g1, rfl, rfl, _, rfl, iteDT rfl ?_⟩
      refine ⟨_, rfl, ba', _, 1, _, rfl, rfl, SqT.of g1, rfl, (by show 1 ≤ sizeLine; decide), fun t ht => ?_⟩
      have s2 : Same H1 (upd H1 t (.tup [.int (n : Int)])) := same_new ht _
      refine ⟨_, rfl, t, [.inr n], ch, rfl, upd_same, ⟨(by show 1 ≤ 3; decide), fun z hz => by simp at hz; omega⟩, by omega, rfl, _, rfl, ?_⟩
      have TA2 := TA'.same s2
      refine ite_val (.ref (if bitAt ch n then p2 else p)) (upd H1 t (.tup [.int (n : Int)])) ?_ (fun c Q' k' => ?_) (fun c Q' k' => ?_)
      · have rest : ∀ (z : Br) (pz : Addr), BrAt H1 z pz → z.Ok m B' → plainT (.look n x y) ch = plainT z ch → PlainW K kd M tp dl cs wd st ch H ⟨((plainT b ch).run (cs.drop ds.length)).1, ds ++ ((plainT b ch).run (cs.drop ds.length)).2⟩ m [some (.ref pz), some (.ref tp), some (.str (S ch)), some (.ref wd), some (.str (S ch)), some (.ref st)] (upd H1 t (.tup [.int (n : Int)])) := fun z pz hz oz ez => by
          rw [ez] at hok' e1 e2
          exact ⟨pz, dx', z, B', k, ds', rfl, hz.same s2, oz, TA2, WA'.same s2, by omega, by omega, s2 _ _ hst, hok', e1, e2, k1.trans (.of_same s2), ml1.kp (.of_same s2)⟩
        refine ⟨m, Nat.lt_succ_self _, ?_⟩
        by_cases c : bitAt ch n = true
        · have e : (V.ref (if bitAt ch n then p2 else p)) = V.ref p2 := by rw [if_pos c]
          rw [e]
          exact rest y p2 g3 o3 (by simp only [plainT]; rw [if_pos c])
        · have e : (V.ref (if bitAt ch n then p2 else p)) = V.ref p := by rw [if_neg c]
          rw [e]
          exact rest x p g2 o2 (by simp only [plainT]; rw [if_neg c])
      · have c1 : S (made [.inr n] ch) = S [false] := V.str.inj (of_decide_eq_true c)
        have c2 : made [.inr n] ch = [false] := S_inj c1
        have c3 : bitAt ch n = false := (List.cons.inj c2).1
        refine ⟨_, rfl, ba', _, 2, _, rfl, rfl, SqT.of (s2 _ _ g1), rfl, ?_⟩
        rw [c3] at k'
        exact k'
      · have c1 : ¬ V.str (S (made [.inr n] ch)) = V.str (S [false]) := of_decide_eq_false c
        have c3 : bitAt ch n = true := by
          cases q : bitAt ch n with
          | true => rfl
          | false => exact absurd (by show V.str (S [bitAt ch n]) = _; rw [q]) c1
        refine ⟨_, rfl, ba', _, 3, _, rfl, rfl, SqT.of (s2 _ _ g1), rfl, ?_⟩
        rw [c3] at k'
        exact k'
  | ask ps x =>
    obtain ⟨p, p2, g1, g2, g3⟩ := hb'
    cases m with
    | zero => exact ok'.elim
    | succ m =>
      obtain ⟨o1, o2⟩ := ok'
      obtain ⟨k, rfl⟩ : ∃ k', k = k' + 1 := ⟨k - 1, by omega⟩
      refine ⟨_, rfl, ba', _, 0, _, rfl, rfl, SqT.of g1, rfl, rfl, _, rfl, iteNT (by decide) ⟨fun σ' H' => ∃ m', m' < m + 1 ∧ PlainW K kd M tp dl cs wd st ch H _ m' σ' H', fun _ _ z => z, ?_⟩⟩
      refine ⟨_, rfl, ba', _, 0, _, rfl, rfl, SqT.of g1, rfl, rfl, _, rfl, iteDF (by decide) ?_⟩
      refine ⟨_, rfl, ba', _, 0, _, rfl, rfl, SqT.of g1, rfl, rfl, _, rfl, iteDF (by decide) ?_⟩
      obtain ⟨wdx, wfs, w1, w2⟩ := WA'.ins
      refine ⟨_, rfl, _, rfl, wd, wdx, wfs, rfl, w1, w2, _, rfl, ba', _, 1, _, rfl, rfl, SqT.of g1, rfl, _, rfl, p, ps, ch, rfl, g2, o1, by omega, ?_⟩
      refine ⟨wd, dl, M, k, _, rfl, WA', fun H2 k2 WA2 => ?_⟩
      have ml2 : Ml (fun b => M b ∧ b ≠ dl) H1 := fun b z => ml1 b z.1
      have k2' : Kp M H1 H2 := k2.mono fun b z => z.1
      have TA2 : TapeAt K M H2 tp dl cs ds' := TA'.other k2 ml2 (fun b z => z.1) (fun z => z.2 rfl)
      refine ⟨_, _, rfl, rfl, (by rw [S_len]; show _ + 0 ≤ _; exact sl (by omega)), ?_⟩
      have hst2 := k2.ins ml2 hst
      obtain ⟨wdx2, wfs2, w12, _⟩ := WA2.ins
      refine ⟨_, rfl, st, dx', _, rfl, hst2, lkN ["world"], st, dx', wd, wdx2, wfs2, rfl, hst2, w12, _, rfl, iteF ?_⟩
      refine ⟨_, rfl, ba', _, 2, _, rfl, rfl, SqT.of (k2.tup ml2 g1), rfl, ?_⟩
      have es : S ch ++ ("" : Str) = S ch := by rw [S_nil, S_app, List.append_nil]
      refine ⟨m, Nat.lt_succ_self _, p2, dx', x, B', k, ds', ?_, g3.kp k2 ml2, o2, TA2, WA2, by omega, by omega, hst2, hok', e1, e2, k1.trans k2', ml1.kp k2'⟩
      show [some (V.ref p2), some (V.ref tp), some (V.str (S ch)), some (V.ref wd), some (V.str (S ch ++ ("" : Str))), some (V.ref st)] = _
      rw [es]
end
end NX
namespace NX
open PySem PySem.Spec PyProof.Rows L2
open C8 (Cal Met Mak pe_c pe_mk pe_mt pe_mt0)
theorem rindex_pref {y : Bs} {i : Nat} (h : i < y.length) (h3 : y.length ≤ 3) : Txt.rindex0 (S (prefC y i)) ("1" : Str) = some i := by
  match y, h, h3 with
  | [a], h, _ =>
    have : i = 0 := by simp at h; exact h
    subst this
    cases a <;> decide +kernel
  | [a, b], h, _ =>
    have : i = 0 ∨ i = 1 := by simp at h; omega
    rcases this with rfl | rfl <;> cases a <;> cases b <;> decide +kernel
  | [a, b, c], h, _ =>
    have : i = 0 ∨ i = 1 ∨ i = 2 := by simp at h; omega
    rcases this with rfl | rfl | rfl <;> cases a <;> cases b <;> cases c <;> decide +kernel
  | a :: b :: c :: d :: r, _, h3 => simp at h3
/-- a breaker: plain, or made by next out of it -/
def MkAt (H : Hp) (mk : Bool) (m : Nat) (b : Br) (a : Addr) : Prop := match mk with
  | false => BrAt H b a
  | true => ∃ ba, H a = some (.tup [.str "next", .int (m : Int), .ref ba]) ∧ BrAt H b ba
def btT (mk : Bool) (m : Nat) (b : Br) : Bs → Tr Bs := match mk with
  | false => plainT b
  | true => nextT m b
def NextCh (mk : Bool) (m : Nat) (ch : Bs) : Prop := match mk with
  | false => True
  | true => ∃ y i, ch = prefC y i ∧ y.length = m ∧ i < m ∧ m ≤ 3
theorem run_ret {α β : Type} (t : Tr α) (g : α → β) (cs : List Nat) : (t.bind fun s => .ret (g s)).run cs = (g (t.run cs).1, (t.run cs).2) := by
  rw [Tr.run_bind]
  simp [Tr.run]
section
variable {P : Program} {w : World} {K : PySem.W.Frag} {mg : Str → Option Value} {base : Heap}
def bnd (mk : Bool) : Nat := if mk then 100 else 400
def spRunB (K : PySem.W.Frag) (kd mk : Bool) : Sp := fun vs H Q _ => ∃ (M : Addr → Prop) (tp dl : Addr) (cs : List Nat) (ds : List (Nat × Nat)) (wd ba : Addr) (m : Nat) (b : Br) (dp B : Nat) (ch : Bs),
  vs = [.ref ba, .ref tp, .str (S ch), .ref wd] ∧ MkAt H mk m b ba ∧ NextCh mk m ch ∧ b.Ok dp B ∧ dp ≤ 10 ∧ TapeAt K M H tp dl cs ds ∧ WAt K kd M dl H wd 100 ∧ Ml M H ∧ ch.length ≤ 50 ∧ ds.length ≤ bnd mk ∧ cs.length ≤ 500 ∧ (btT mk m b ch).Ok (cs.drop ds.length) ∧
  ∀ H', Kp M H H' → TapeAt K M H' tp dl cs (ds ++ ((btT mk m b ch).run (cs.drop ds.length)).2) → Q (.str (S ((btT mk m b ch).run (cs.drop ds.length)).1)) H'
abbrev N_run_breaker : List Str := ["breaker", "tape", "challenge", "world"]
abbrev P_run_breaker : List Str := ["breaker", "tape", "challenge", "world"]
theorem sc_run_breaker : FnScope N_run_breaker P_run_breaker (defScope s_run_breaker) := ⟨rfl, rfl, rfl, by decide +kernel, rfl, by decide +kernel, by decide +kernel⟩
theorem br_word (T : Txt w K mg) {H : Hp} {b : Br} {a : Addr} (h : BrAt H b a) : ∃ z r, H a = some (.tup (.str z :: r)) ∧ PySem.W.nsIn K (He.ga K "RUNS") z = some none := by
  cases b with
  | say ps => obtain ⟨q, h1, _⟩ := h; exact ⟨_, _, h1, T.r_say⟩
  | toss n f => obtain ⟨q, as, h1, _⟩ := h; exact ⟨_, _, h1, T.r_toss⟩
  | look n x y => obtain ⟨p, q, h1, _⟩ := h; exact ⟨_, _, h1, T.r_look⟩
  | ask ps x => obtain ⟨q, p, h1, _⟩ := h; exact ⟨_, _, h1, T.r_ask⟩
theorem c_run_plainB (T : Txt w K mg) (kd : Bool) : Cal P w K mg base 4 "run_breaker" (spRunB K kd false) [] := by
  refine T.f_run_breaker.cal sc_run_breaker (fun _ _ _ _ _ _ us hl => match us, hl with | [_, _, _, _], _ => rfl) (fun vs H Q E h => ?_) (fun f cdv A outer s H vs Q E hr h => ?_)
  · obtain ⟨M, tp, dl, cs, ds, wd, ba, m, b, dp, B, ch, rfl, _⟩ := h
    rfl
  obtain ⟨M, tp, dl, cs, ds, wd, ba, m, b, dp, B, ch, rfl, hb, _, ok, hdp, TA, WA, ml, hch, hds, hcs, hok, q⟩ := h
  have hds : ds.length ≤ 400 := hds
  obtain ⟨es, n, D⟩ := T.d_RUNS
  obtain ⟨z, r, g1, g2⟩ := br_word T hb
  refine ⟨_, pss_cons (ps_if (pt_cmpR (op_in_kd D) (pe_ix ix_tup (pv 0) pe_int (fun _ _ => rfl)) (pe_gr T.g_RUNS) rfl) (pss_one ps_never) pss_nil)
      (pss_one (ps_ret (pe_c (c_run_plain T kd) hr (by decide) rfl (pa_cons (pv 0) (pa_cons (pv 1) (pa_cons (pv 2) (pa_cons (pv 3) pa_nil))))))), ?_⟩
  refine ⟨_, rfl, ba, _, 0, _, rfl, rfl, SqT.of g1, (show atI _ ((0 : Nat) : Int) = _ from atI_nat rfl), z, none, rfl, rfl, g2, _, rfl, iteF ?_⟩
  exact ⟨_, rfl, _, rfl, _, rfl, _, rfl, M, tp, dl, cs, ds, wd, ba, b, dp, B, ch, rfl, hb, ok, hdp, TA, WA, ml, by omega, by omega, by omega, hok, q⟩
abbrev N_run_next : List Str := ["breaker", "tape", "challenge", "world", "_", "m", "inner", "i", "rest", "said"]
abbrev P_run_next : List Str := ["breaker", "tape", "challenge", "world"]
theorem sc_run_next : FnScope N_run_next P_run_next (defScope s_run_next) := ⟨rfl, rfl, rfl, by decide +kernel, rfl, by decide +kernel, by decide +kernel⟩
theorem c_run_next (T : Txt w K mg) (kd : Bool) : Cal P w K mg base 5 "run_next" (spRunB K kd true) [] := by
  refine T.f_run_next.cal sc_run_next (fun _ _ _ _ _ _ us hl => match us, hl with | [_, _, _, _], _ => rfl) (fun vs H Q E h => ?_) (fun f cdv A outer s H vs Q E hr h => ?_)
  · obtain ⟨M, tp, dl, cs, ds, wd, ba, m, b, dp, B, ch, rfl, _⟩ := h
    rfl
  obtain ⟨M, tp, dl, cs, ds, wd, ma, m, b, dp, B, ch, rfl, ⟨ba, g1, hb⟩, ⟨y, i, rfl, hy, hi, h3⟩, ok, hdp, TA, WA, ml, hch, hds, hcs, hok, q⟩ := h
  subst hy
  have hds : ds.length ≤ 100 := hds
  refine ⟨_, pss_cons (ps_asg (pv 0) (pg_tup rfl (pgs_cons (pg_name (i := 4) sc_run_next.nd rfl (.inl rfl)) (pgs_cons (pg_name (i := 5) sc_run_next.nd rfl (.inl rfl)) (pgs_cons (pg_name (i := 6) sc_run_next.nd rfl (.inl rfl)) pgs_nil)))))
      (pss_cons (ps_set (i := 7) sc_run_next.nd rfl (Or.inl rfl) (pe_bmS PySem.F.plainAttrs_str PySem.F.slot_str_rindex PySem.F.type_str_rindex (mt_rindexX rfl takes0) (pv 2) (pa_cons pe_str pa_nil)))
      (pss_cons (ps_set (i := 8) sc_run_next.nd rfl (Or.inl rfl) (pe_mt (c_string T) hr (by decide) (pv 1) (pa_cons (pe_op op_sub (pv 5) (pv 7)) pa_nil)))
      (pss_cons (ps_set (i := 9) sc_run_next.nd rfl (Or.inl rfl) (pe_c (c_run_plainB T false) hr (by decide) rfl (pa_cons (pv 6) (pa_cons (pv 1) (pa_cons (pe_op op_add_str (pe_slice sl_str (pv 2) po_none (po_some (pv 7))) (pv 8)) (pa_cons (pe_new0 T.mk_Silent T.in_Silent T.k_Silent T.g_Silent) pa_nil))))))
      (pss_cons (ps_if (pt_cmpR op_eq (pv 9) pe_str (nomark _)) (pss_one (ps_ret (pe_ix ix_str (pv 8) pe_int (fun _ _ => rfl)))) pss_nil)
      (pss_one (ps_ret (pe_ifExp (pt_cmpR op_eq (pe_ix ix_str (pv 8) pe_int (fun _ _ => rfl)) pe_str (nomark _)) pe_str pe_str))))))), ?_⟩
  have hr1 := ridx_pref hi
  have ht1 := prefC_take hi
  refine ⟨_, rfl, ma, _, rfl, SqT.of g1, rfl, _, _, rfl, _, _, rfl, _, _, rfl, rfl, ?_⟩
  refine ⟨_, rfl, rfl, _, _, rfl, rfl, fun k hk => ?_, fun hn => ?_⟩
  rotate_left
  · rw [rindex_pref hi h3] at hn; cases hn
  obtain rfl : k = i := by rw [rindex_pref hi h3] at hk; exact (Option.some.inj hk).symm
  obtain ⟨tdx, tcl, tts, t1, _⟩ := TA.ex
  have hok' : (nextT y.length b (prefC y k)).Ok (cs.drop ds.length) := hok
  have hq' : ∀ H', Kp M H H' → TapeAt K M H' tp dl cs (ds ++ ((nextT y.length b (prefC y k)).run (cs.drop ds.length)).2) → Q (.str (S ((nextT y.length b (prefC y k)).run (cs.drop ds.length)).1)) H' := q
  unfold nextT at hok' hq'
  rw [hr1, ht1] at hok' hq'
  obtain ⟨ok1, ok2⟩ := hok'
  have ok3 := (Tr.ok_bind ok2).1
  simp only [Tr.run, run_ret] at hq'
  generalize hv : (cs.drop ds.length).headD 0 = v at *
  refine ⟨_, rfl, tp, tdx, _, rfl, t1, lkN kTape, _, rfl, _, rfl, _, _, rfl, rfl, M, tp, dl, cs, ds, y.length - k, ?_, TA, by omega, by omega, by omega, by rw [hv]; exact ok1, fun H1 k1 TA1 => ?_⟩
  · show [V.ref tp, V.int ((y.length : Int) - (k : Int))] = _
    have e : (y.length : Int) - (k : Int) = ((y.length - k : Nat) : Int) := by omega
    rw [e]
  rw [hv] at TA1
  rw [hv]
  obtain ⟨xs0, hx0⟩ := ml dl TA.md
  have m1 : Ml (fun b => b = dl) H := Ml.one hx0
  have k1' : Kp M H H1 := k1.mono fun b e => by rw [e]; exact TA.md
  have lch : (prefC y k).length = y.length := prefC_len hi
  have l1 : bitAt (bitsOf (y.length - k) v) 0 = (bitsOf (y.length - k) v).headD false := by
    cases bitsOf (y.length - k) v <;> rfl
  have lb : (bitsOf (y.length - k) v).length = y.length - k := bitsOf_len _ _
  generalize hw : bitsOf (y.length - k) v = rest at *
  have a0 : atI (S rest).cps.toList (0 : Int) = some (sg (bitAt rest 0)) := S_at (b := rest) (i := 0) (by omega)
  refine ⟨_, rfl, _, rfl, _, rfl, _, rfl, _, rfl, _, rfl, (by rw [S_len, lch]; exact sl (by omega)), ?_⟩
  rw [S_take, ht1]
  have lt : (y.take k).length = k := by rw [List.length_take]; omega
  refine ⟨_, rfl, _, _, rfl, rfl, (by rw [S_len, S_len, lt, lb]; exact sl (by omega)), fun x dx nx ndx nex => ?_⟩
  rw [S_app]
  have s2 : Same H1 (upd (upd H1 dx (.own x)) x (.ins (He.ga K "Silent") dx [])) := (same_new ndx _).mut nx _
  have TA2 := TA1.same s2
  refine ⟨M, tp, dl, cs, _, x, ba, 0, b, dp, B, y.take k ++ rest, rfl, (hb.kp k1 m1).same s2, trivial, ok, hdp, TA2, ⟨dx, upd_same⟩, (ml.kp k1').kp (.of_same s2), by rw [List.length_append, lt, lb]; omega, by rw [List.length_append]; show ds.length + 1 ≤ 400; omega, hcs, ?_, fun H3 k3 TA3 => ?_⟩
  · rw [← drop_more]; exact ok3
  have TA3' : TapeAt K M H3 tp dl cs (ds ++ (v, 2 ^ (y.length - k)) :: ((plainT b (y.take k ++ rest)).run (cs.drop ds.length).tail).2) := by
    have e : (ds ++ [(v, 2 ^ (y.length - k))]) ++ ((plainT b (y.take k ++ rest)).run (cs.drop (ds ++ [(v, 2 ^ (y.length - k))]).length)).2 = ds ++ (v, 2 ^ (y.length - k)) :: ((plainT b (y.take k ++ rest)).run (cs.drop ds.length).tail).2 := by
      rw [← drop_more, List.append_assoc]
      rfl
    rw [← e]
    exact TA3
  have fin := hq' H3 ((k1'.trans (.of_same s2)).trans k3) TA3'
  have ed : ((btT false 0 b (y.take k ++ rest)).run (cs.drop (ds ++ [(v, 2 ^ (y.length - k))]).length)).1 = ((plainT b (y.take k ++ rest)).run (cs.drop ds.length).tail).1 := by rw [← drop_more]; rfl
  rw [ed]
  generalize ((plainT b (y.take k ++ rest)).run (cs.drop ds.length).tail).1 = said at *
  refine ⟨_, rfl, rfl, _, rfl, ?_⟩
  refine ite2 (fun c => ?_) (fun c => ?_)
  · have c1 : S said = S [true] := V.str.inj (of_decide_eq_true c)
    have c2 : isOne said = true := decide_eq_true (S_inj c1)
    refine ⟨_, rfl, _, _, _, rfl, rfl, (by rw [S_len, lb]; exact sl (by omega)), a0, ?_⟩
    unfold flipTo at fin
    rw [c2] at fin
    exact fin
  · have c1 : ¬ V.str (S said) = V.str (S [true]) := of_decide_eq_false (Bool.eq_false_iff.mpr c)
    have c2 : isOne said = false := decide_eq_false fun e => c1 (by rw [e])
    refine ⟨_, rfl, _, _, _, rfl, rfl, (by rw [S_len, lb]; exact sl (by omega)), a0, rfl, _, rfl, ?_⟩
    unfold flipTo at fin
    rw [c2] at fin
    refine ite_val (.str (S [!bitAt rest 0])) H3 fin (fun z Q' k' => ?_) (fun z Q' k' => ?_)
    · have z1 : S [bitAt rest 0] = S [true] := V.str.inj (of_decide_eq_true z)
      have z2 : bitAt rest 0 = true := (List.cons.inj (S_inj z1)).1
      rw [z2] at k'
      exact k'
    · have z1 : ¬ V.str (S [bitAt rest 0]) = V.str (S [true]) := of_decide_eq_false z
      have z2 : bitAt rest 0 = false := by
        cases e : bitAt rest 0 with
        | true => exact absurd (by rw [e]) z1
        | false => rfl
      rw [z2] at k'
      exact k'
theorem c_run_madeB (T : Txt w K mg) (kd : Bool) : Cal P w K mg base 6 "run_breaker" (spRunB K kd true) [] := by
  refine T.f_run_breaker.cal sc_run_breaker (fun _ _ _ _ _ _ us hl => match us, hl with | [_, _, _, _], _ => rfl) (fun vs H Q E h => ?_) (fun f cdv A outer s H vs Q E hr h => ?_)
  · obtain ⟨M, tp, dl, cs, ds, wd, ba, m, b, dp, B, ch, rfl, _⟩ := h
    rfl
  obtain ⟨M, tp, dl, cs, ds, wd, ma, m, b, dp, B, ch, rfl, hb, rest⟩ := h
  obtain ⟨ba, g1, hb2⟩ := id hb
  obtain ⟨es, n, D⟩ := T.d_RUNS
  obtain ⟨u, r1, r2⟩ := T.r_next
  obtain ⟨fa, fd, ps, dsv, F, hm, kp, bd, dv⟩ := (c_run_next (P := P) (base := base) T kd).ex
  have ef : fa = He.ga K "run_next" := by
    have e := hm.symm.trans T.at_run_next
    exact Value.ref.inj (Option.some.inj e)
  subst ef
  have ed : dsv = [] := by cases dv; rfl
  subst ed
  refine ⟨_, pss_cons (ps_if (pt_cmpR (op_in_kd D) (pe_ix ix_tup (pv 0) pe_int (fun _ _ => rfl)) (pe_gr T.g_RUNS) rfl) (pss_one (ps_ret (pe_callE (pe_ix ix_kdict (pe_gr T.g_RUNS) (pe_ix ix_tup (pv 0) pe_int (fun _ _ => rfl)) (fun _ _ => rfl)) F kp bd hr (by decide) (pa_cons (pv 0) (pa_cons (pv 1) (pa_cons (pv 2) (pa_cons (pv 3) pa_nil))))))) pss_nil)
      pss_never, ?_⟩
  refine ⟨_, rfl, ma, _, 0, _, rfl, rfl, SqT.of g1, rfl, _, some u, rfl, rfl, r1, _, rfl, iteT ?_⟩
  refine ⟨_, rfl, ma, _, 0, _, rfl, rfl, SqT.of g1, rfl, _, _, _, rfl, rfl, ⟨es, n, u, D.at_, D.lit, r1, r2⟩, rfl, ?_⟩
  exact ⟨_, rfl, _, rfl, _, rfl, _, rfl, M, tp, dl, cs, ds, wd, ma, m, b, dp, B, ch, rfl, hb, rest⟩
/-- run_breaker, of both kinds -/
theorem c_run_breaker (T : Txt w K mg) (kd mk : Bool) : Cal P w K mg base 6 "run_breaker" (spRunB K kd mk) [] := by
  cases mk with
  | false =>
    obtain ⟨f, fd, ps, ds, a, b⟩ := (c_run_plainB (P := P) (base := base) T kd).ex
    exact ⟨f, fd, ps, ds, a.mono (by decide), b⟩
  | true => exact c_run_madeB T kd
end
end NX
namespace NX
open PySem PySem.Spec PyProof.Rows L2
open C8 (Cal Met Mak pe_c pe_mk pe_mt pe_mt0)
/-! ### how many there are -/
def Br.kids : Br → List Br
  | .say _ => []
  | .toss n f => (List.range n).map f
  | .look _ x y => [x, y]
  | .ask _ x => [x]
def Br.cnt : Br → Nat
  | .say _ => 0
  | .toss n f => n + ((List.range n).map fun i => (f i).cnt).sum
  | .look _ x y => 2 + (x.cnt + y.cnt)
  | .ask _ x => 1 + x.cnt
theorem cnt_kids (b : Br) : b.cnt = (b.kids.map fun c => 1 + c.cnt).sum := by
  cases b with
  | say _ => rfl
  | toss n f =>
    show n + ((List.range n).map fun i => (f i).cnt).sum = (((List.range n).map f).map fun c => 1 + c.cnt).sum
    rw [List.map_map]
    induction n with
    | zero => rfl
    | succ n ih =>
      rw [List.range_succ, List.map_append, List.map_append, List.sum_append, List.sum_append, ← ih]
      simp
      omega
  | look _ x y => simp [Br.cnt, Br.kids]; omega
  | ask _ x => simp [Br.cnt, Br.kids]
def capD : Nat → Nat
  | 0 => 0
  | d + 1 => 12 + 12 * capD d
theorem cnt_le : ∀ {b : Br} {d B : Nat}, b.Ok d B → B ≤ 12 → b.cnt ≤ capD d
  | .say _, _, _, _, _ => Nat.zero_le _
  | .toss n f, 0, _, h, _ => h.elim
  | .look _ x y, 0, _, h, _ => h.elim
  | .ask _ x, 0, _, h, _ => h.elim
  | .toss n f, d + 1, B, ⟨h1, B', h2, h3⟩, hB => by
    have hB' : 1 ≤ B' := (h3 0 (by omega)).pos
    have hn : n ≤ 12 := by
      have : n * 1 ≤ n * B' := Nat.mul_le_mul_left n hB'
      omega
    have hB2 : B' ≤ 12 := by
      have : 1 * B' ≤ n * B' := Nat.mul_le_mul_right B' h1
      omega
    have g : ∀ k, k ≤ n → ((List.range k).map fun i => (f i).cnt).sum ≤ k * capD d := by
      intro k
      induction k with
      | zero => intro _; simp
      | succ k ih =>
        intro hk
        rw [List.range_succ, List.map_append, List.sum_append]
        have a := ih (by omega)
        have b := cnt_le (h3 k (by omega)) hB2
        simp
        rw [Nat.add_mul]
        omega
    have q := g n (Nat.le_refl _)
    have q2 : n * capD d ≤ 12 * capD d := Nat.mul_le_mul_right _ hn
    simp only [Br.cnt, capD]
    omega
  | .look _ x y, d + 1, B, ⟨_, h2, h3⟩, hB => by
    have a := cnt_le h2 hB
    have b := cnt_le h3 hB
    simp only [Br.cnt, capD]
    omega
  | .ask _ x, d + 1, B, ⟨_, h2⟩, hB => by
    have a := cnt_le h2 hB
    simp only [Br.cnt, capD]
    omega
theorem Ok.kid {b : Br} {d B : Nat} (h : b.Ok d B) {i : Nat} {c : Br} (hc : b.kids[i]? = some c) : ∃ d' B', d = d' + 1 ∧ B' ≤ B ∧ c.Ok d' B' := by
  cases b with
  | say _ => simp [Br.kids] at hc
  | toss n f =>
    cases d with
    | zero => exact h.elim
    | succ d =>
      obtain ⟨h1, B', h2, h3⟩ := h
      have hi : i < n := by
        have := (List.getElem?_eq_some_iff.mp hc).1
        simpa [Br.kids] using this
      have e : c = f i := by
        simp [Br.kids, List.getElem?_range hi] at hc
        exact hc.symm
      subst e
      refine ⟨d, B', rfl, ?_, h3 i hi⟩
      have : 1 * B' ≤ n * B' := Nat.mul_le_mul_right B' h1
      omega
  | look _ x y =>
    cases d with
    | zero => exact h.elim
    | succ d =>
      obtain ⟨_, h2, h3⟩ := h
      match i, hc with
      | 0, hc => simp [Br.kids] at hc; subst hc; exact ⟨d, B, rfl, Nat.le_refl _, h2⟩
      | 1, hc => simp [Br.kids] at hc; subst hc; exact ⟨d, B, rfl, Nat.le_refl _, h3⟩
      | i + 2, hc => simp [Br.kids] at hc
  | ask _ x =>
    cases d with
    | zero => exact h.elim
    | succ d =>
      obtain ⟨_, h2⟩ := h
      match i, hc with
      | 0, hc => simp [Br.kids] at hc; subst hc; exact ⟨d, B, rfl, Nat.le_refl _, h2⟩
      | i + 1, hc => simp [Br.kids] at hc
/-- the kids of b stand at ks -/
def KidsAt (H : Hp) (ks : List Addr) (b : Br) : Prop := ks.length = b.kids.length ∧ ∀ (i : Nat) (k : Addr) (c : Br), ks[i]? = some k → b.kids[i]? = some c → BrAt H c k
section
variable {P : Program} {w : World} {K : PySem.W.Frag} {mg : Str → Option Value} {base : Heap}
def spParts : Sp := fun vs H Q _ => ∃ (q : Addr) (ps : List Part), vs = [.ref q] ∧ H q = some (.tup (ps.map PartV)) ∧ partsOk ps ∧ ∀ H', Same H H' → Q (.bl true) H'
abbrev N_are_parts : List Str := ["value", "part"]
abbrev P_are_parts : List Str := ["value"]
theorem sc_are_parts : FnScope N_are_parts P_are_parts (defScope s_are_parts) := ⟨rfl, rfl, rfl, by decide +kernel, rfl, by decide +kernel, by decide +kernel⟩
theorem c_are_parts (T : Txt w K mg) : Cal P w K mg base 2 "are_parts" spParts [] := by
  refine T.f_are_parts.cal sc_are_parts (fun _ _ _ _ _ _ us hl => match us, hl with | [_], _ => rfl) (fun vs H Q E h => ?_) (fun f cdv A outer s H vs Q E hr h => ?_)
  · obtain ⟨q, ps, rfl, _⟩ := h
    rfl
  obtain ⟨q, ps, rfl, hq, ⟨hp3, hp9⟩, qq⟩ := h
  refine ⟨_, pss_cons (ps_if (pt_not (pt_val (pe_callB call_isi rfl T.b_isinstance (by decide +kernel) (pa_cons (pv 0) (pa_cons (pe_ty "tuple" T.b_tuple (by decide +kernel)) pa_nil))))) (pss_one (ps_ret pe_bl)) pss_nil)
      (pss_cons (ps_for PassesOwn.never rfl (pi_tup (pv 0)) (pg_name (i := 1) sc_are_parts.nd rfl (Or.inl rfl)) (pss_one (ps_if (PW.pt (pw_and (pt_not (pt_val (pe_c (c_is_bits T) hr (by decide) rfl (pa_cons (pv 1) (pa_cons pe_int pa_nil))))) (pw_and1 (pt_not (pt_val (pe_c (c_is_number T) hr (by decide) rfl (pa_cons (pv 1) (pa_cons pe_int (pa_cons (pe_gi T.g_MOST_BIT) pa_nil))))))))) (pss_one (ps_ret pe_bl)) pss_nil)))
      (pss_one (ps_ret pe_bl))), ?_⟩
  refine ⟨_, rfl, _, _, _, _, true, rfl, .ty _, .base (.tup hq), kit_ty (by decide +kernel), _, rfl, iteF ?_⟩
  refine ⟨_, rfl, q, rfl, ⟨_, SqT.of hq⟩, for_tup (xs := ps.map PartV) (fun i σ H' => (∃ x : Option V, σ = [some (.ref q), x]) ∧ Same H H') ⟨⟨none, rfl⟩, Same.refl _⟩ (fun i σ H' _ ⟨_, e⟩ => e.tup (SqT.of hq)) ?_ ?_⟩
  · rintro i y σ H' hi ⟨⟨x, rfl⟩, s0⟩
    obtain ⟨z, hz, rfl⟩ := get_map hi
    cases z with
    | inl b =>
      exact ⟨_, rfl, .inl ⟨[b], rfl, (by show 1 ≤ 1000; decide), fun H2 s2 => ⟨_, rfl, iteF (iteF ⟨⟨some (.str (S [b])), rfl⟩, s0.trans s2⟩)⟩⟩⟩
    | inr n =>
      have h9 := hp9 n (List.mem_of_getElem? hz)
      exact ⟨_, rfl, .inr ⟨_, _, rfl, _, rfl, iteT ⟨_, rfl, _, _, _, rfl, by omega, by omega, _, rfl, iteF ⟨⟨some (.int (n : Int)), rfl⟩, s0⟩⟩⟩⟩
  · rintro σ H' ⟨⟨x, rfl⟩, s0⟩
    exact qq _ s0
/-- does the tuple begin with a word of a plain breaker -/
def spHpw : Sp := fun vs H Q _ => ∃ (a : Addr) (z : Str) (r : List V), vs = [.ref a] ∧ H a = some (.tup (.str z :: r)) ∧ r.length ≤ 100 ∧ Q (.bl (inV (.str z) [.str "say", .str "toss", .str "look", .str "ask"])) H
abbrev N_has_plain_word : List Str := ["value"]
abbrev P_has_plain_word : List Str := ["value"]
theorem sc_has_plain_word : FnScope N_has_plain_word P_has_plain_word (defScope s_has_plain_word) := ⟨rfl, rfl, rfl, by decide +kernel, rfl, by decide +kernel, by decide +kernel⟩
theorem c_has_plain_word (T : Txt w K mg) : Cal P w K mg base 1 "has_plain_word" spHpw [] := by
  refine T.f_has_plain_word.cal sc_has_plain_word (fun _ _ _ _ _ _ us hl => match us, hl with | [_], _ => rfl) (fun vs H Q E h => ?_) (fun f cdv A outer s H vs Q E hr h => ?_)
  · obtain ⟨a, z, r, rfl, _⟩ := h
    rfl
  obtain ⟨a, z, r, rfl, ha, hl, q⟩ := h
  refine ⟨_, pss_one (ps_ret (pe_and (pe_callB call_isi rfl T.b_isinstance (by decide +kernel) (pa_cons (pv 0) (pa_cons (pe_ty "tuple" T.b_tuple (by decide +kernel)) pa_nil))) (pe_and (pe_cmpR op_gt (pe_callB call_len_seq rfl T.b_len PySem.boot_len (pa_cons (pv 0) pa_nil)) pe_int (nomark _)) (pe_and (pe_callB call_isi rfl T.b_isinstance (by decide +kernel) (pa_cons (pe_ix ix_tup (pv 0) pe_int (fun _ _ => rfl)) (pa_cons (pe_ty "str" T.b_str (by decide +kernel)) pa_nil))) (pe_one (pe_cmpR op_in_seq (pe_ix ix_tup (pv 0) pe_int (fun _ _ => rfl)) (pe_gr T.g_PLAIN_WORDS) rfl)))))), ?_⟩
  have a0 : atI (V.str z :: r) 0 = some (V.str z) := show atI _ ((0 : Nat) : Int) = _ from atI_nat rfl
  refine ⟨_, rfl, _, _, _, _, true, rfl, .ty _, .base (.tup ha), kit_ty (by decide +kernel), _, rfl, iteT ?_⟩
  refine ⟨_, rfl, a, _, rfl, .inr (SqT.of ha), _, _, rfl, rfl, _, rfl, iteDT (by show (0 : Int) < ((r.length + 1 : Nat) : Int); omega) ?_⟩
  refine ⟨_, rfl, a, _, 0, _, rfl, rfl, SqT.of ha, a0, _, _, _, _, true, rfl, .ty _, .base (.str _), kit_ty (by decide +kernel), _, rfl, iteT ?_⟩
  exact ⟨_, rfl, a, _, 0, _, rfl, rfl, SqT.of ha, a0, _, _, rfl, .inr (T.words H), rfl, rfl, q⟩
/-! ### inner_plain -/
def spInner : Sp := fun vs H Q _ => ∃ (a : Addr) (b : Br) (d B : Nat), vs = [.ref a] ∧ BrAt H b a ∧ b.Ok d B ∧ B ≤ 12 ∧ ∀ (r : Addr) (ks : List Addr) (H' : Hp), Same H H' → H' r = some (.tup (ks.map V.ref)) → KidsAt H' ks b → Q (.ref r) H'
abbrev N_inner_plain : List Str := ["breaker", "word", "rest"]
abbrev P_inner_plain : List Str := ["breaker"]
theorem sc_inner_plain : FnScope N_inner_plain P_inner_plain (defScope s_inner_plain) := ⟨rfl, rfl, rfl, by decide +kernel, rfl, by decide +kernel, by decide +kernel⟩
theorem c_inner_plain (T : Txt w K mg) : Cal P w K mg base 3 "inner_plain" spInner [] := by
  refine T.f_inner_plain.cal sc_inner_plain (fun _ _ _ _ _ _ us hl => match us, hl with | [_], _ => rfl) (fun vs H Q E h => ?_) (fun f cdv A outer s H vs Q E hr h => ?_)
  · obtain ⟨a, b, d, B, rfl, _⟩ := h
    rfl
  obtain ⟨a, b, d, B, rfl, hb, ok, hB, q⟩ := h
  refine ⟨_, pss_cons (ps_if (PW.pt (pw_and (pt_val (pe_callB call_isi rfl T.b_isinstance (by decide +kernel) (pa_cons (pv 0) (pa_cons (pe_ty "tuple" T.b_tuple (by decide +kernel)) pa_nil)))) (pw_and (pt_cmpR op_gt (pe_callB call_len_seq rfl T.b_len PySem.boot_len (pa_cons (pv 0) pa_nil)) pe_int (nomark _)) (pw_and1 (pt_val (pe_callB call_isi rfl T.b_isinstance (by decide +kernel) (pa_cons (pe_ix ix_tup (pv 0) pe_int (fun _ _ => rfl)) (pa_cons (pe_ty "str" T.b_str (by decide +kernel)) pa_nil)))))))) (pss_cons (ps_par (i := 1) (j := 2) rfl sc_inner_plain.nd rfl rfl (by decide) rfl rfl (pa_cons (pe_ix ix_tup (pv 0) pe_int (fun _ _ => rfl)) (pa_cons (pe_slice sl_tup (pv 0) (po_some pe_int) po_none) pa_nil)) rfl) (pss_cons (ps_if (PW.pt (pw_and (pt_cmpR op_eq (pv 1) pe_str (nomark _)) (pw_and (pt_cmpR op_eq (pe_callB call_len_seq rfl T.b_len PySem.boot_len (pa_cons (pv 2) pa_nil)) pe_int (nomark _)) (pw_and1 (pt_val (pe_c (c_are_parts T) hr (by decide) rfl (pa_cons (pe_ix ix_tup (pv 2) pe_int (fun _ _ => rfl)) pa_nil))))))) (pss_one (ps_ret (pe_tup pa_nil))) pss_nil) (pss_cons (ps_if (PW.pt (pw_and (pt_cmpR op_eq (pv 1) pe_str (nomark _)) (pw_and (pt_cmpR op_eq (pe_callB call_len_seq rfl T.b_len PySem.boot_len (pa_cons (pv 2) pa_nil)) pe_int (nomark _)) (pw_and (pt_val (pe_callB call_isi rfl T.b_isinstance (by decide +kernel) (pa_cons (pe_ix ix_tup (pv 2) pe_int (fun _ _ => rfl)) (pa_cons (pe_ty "tuple" T.b_tuple (by decide +kernel)) pa_nil)))) (pw_and1 (pt_chain op_le op_le pe_int (pe_callB call_len_seq rfl T.b_len PySem.boot_len (pa_cons (pe_ix ix_tup (pv 2) pe_int (fun _ _ => rfl)) pa_nil)) (pe_gi T.g_MOST_TOSSED))))))) (pss_one (ps_ret (pe_ix ix_tup (pv 2) pe_int (fun _ _ => rfl)))) pss_nil) (pss_cons (ps_if (PW.pt (pw_and (pt_cmpR op_eq (pv 1) pe_str (nomark _)) (pw_and (pt_cmpR op_eq (pe_callB call_len_seq rfl T.b_len PySem.boot_len (pa_cons (pv 2) pa_nil)) pe_int (nomark _)) (pw_and1 (pt_val (pe_c (c_is_number T) hr (by decide) rfl (pa_cons (pe_ix ix_tup (pv 2) pe_int (fun _ _ => rfl)) (pa_cons pe_int (pa_cons (pe_gi T.g_MOST_BIT) pa_nil))))))))) (pss_one (ps_ret (pe_slice sl_tup (pv 2) (po_some pe_int) po_none))) pss_nil) (pss_one (ps_if (PW.pt (pw_and (pt_cmpR op_eq (pv 1) pe_str (nomark _)) (pw_and (pt_cmpR op_eq (pe_callB call_len_seq rfl T.b_len PySem.boot_len (pa_cons (pv 2) pa_nil)) pe_int (nomark _)) (pw_and1 (pt_val (pe_c (c_are_parts T) hr (by decide) rfl (pa_cons (pe_ix ix_tup (pv 2) pe_int (fun _ _ => rfl)) pa_nil))))))) (pss_one (ps_ret (pe_slice sl_tup (pv 2) (po_some pe_int) po_none))) pss_nil)))))) pss_nil)
      (pss_one ps_never), ?_⟩
  cases b with
  | say ps =>
    obtain ⟨p, g1, g2⟩ := hb
    have pok : partsOk ps := by cases d <;> exact ok.1
    refine ⟨_, rfl, _, _, _, _, true, rfl, .ty _, .base (.tup g1), kit_ty (by decide +kernel), _, rfl, iteT ?_⟩
    refine ⟨_, rfl, a, _, rfl, .inr (SqT.of g1), _, _, rfl, rfl, _, rfl, iteDT (by show (0 : Int) < 2; decide) ?_⟩
    refine ⟨_, rfl, a, _, 0, _, rfl, rfl, SqT.of g1, rfl, _, _, _, _, true, rfl, .ty _, .base (.str _), kit_ty (by decide +kernel), _, rfl, iteT ?_⟩
    refine ⟨_, rfl, a, _, 0, _, rfl, rfl, SqT.of g1, rfl, _, rfl, _, rfl, a, _, rfl, SqT.of g1, (show ¬ (HT.sIx 2 0 (some 1) = 0 ∧ HT.sIx 2 2 none = 2) by decide), fun t ht => ⟨_, _, rfl, ?_⟩⟩
    have s1 := same_new ht (.tup (cutV [V.str "say", V.ref p] (some 1) none))
    have e1 : (upd H t (.tup (cutV [V.str "say", V.ref p] (some 1) none))) t = some (.tup [.ref p]) := upd_same
    refine ⟨_, rfl, rfl, _, rfl, iteDT rfl ?_⟩
    refine ⟨_, rfl, t, _, rfl, .inr (SqT.of e1), rfl, _, rfl, iteDT rfl ?_⟩
    refine ⟨_, rfl, t, _, 0, _, rfl, rfl, SqT.of e1, rfl, p, ps, rfl, s1 _ _ g2, pok, fun H2 s2 => ⟨_, rfl, iteT ?_⟩⟩
    exact ⟨Nat.zero_le _, fun r hr' => q r [] _ (s1.trans (s2.trans (same_new hr' _))) upd_same ⟨rfl, fun i k c h1 _ => by simp at h1⟩⟩
  | toss n g =>
    obtain ⟨p, as, g1, g2, g3⟩ := hb
    cases d with
    | zero => exact ok.elim
    | succ d =>
      obtain ⟨o1, B2, o2, o3⟩ := ok
      have hn : n ≤ 12 := by
        have h1 := (o3 0 (by omega)).pos
        have : n * 1 ≤ n * B2 := Nat.mul_le_mul_left n h1
        omega
      have hlen : ((List.range n).map fun i => V.ref (as i)).length = n := by simp
      refine ⟨_, rfl, _, _, _, _, true, rfl, .ty _, .base (.tup g1), kit_ty (by decide +kernel), _, rfl, iteT ?_⟩
      refine ⟨_, rfl, a, _, rfl, .inr (SqT.of g1), _, _, rfl, rfl, _, rfl, iteDT (by show (0 : Int) < 2; decide) ?_⟩
      refine ⟨_, rfl, a, _, 0, _, rfl, rfl, SqT.of g1, rfl, _, _, _, _, true, rfl, .ty _, .base (.str _), kit_ty (by decide +kernel), _, rfl, iteT ?_⟩
      refine ⟨_, rfl, a, _, 0, _, rfl, rfl, SqT.of g1, rfl, _, rfl, _, rfl, a, _, rfl, SqT.of g1, (show ¬ (HT.sIx 2 0 (some 1) = 0 ∧ HT.sIx 2 2 none = 2) by decide), fun t ht => ⟨_, _, rfl, ?_⟩⟩
      have s1 := same_new ht (.tup (cutV [V.str "toss", V.ref p] (some 1) none))
      have e1 : (upd H t (.tup (cutV [V.str "toss", V.ref p] (some 1) none))) t = some (.tup [.ref p]) := upd_same
      refine ⟨_, rfl, rfl, _, rfl, iteDF (by decide) (iteF ?_)⟩
      refine ⟨_, rfl, rfl, _, rfl, iteDT rfl ?_⟩
      refine ⟨_, rfl, t, _, rfl, .inr (SqT.of e1), rfl, _, rfl, iteDT rfl ?_⟩
      refine ⟨_, rfl, t, _, 0, _, rfl, rfl, SqT.of e1, rfl, _, _, _, _, true, rfl, .ty _, .base (.tup (s1 _ _ g2)), kit_ty (by decide +kernel), _, rfl, iteT ?_⟩
      refine ⟨_, rfl, t, _, 0, _, rfl, rfl, SqT.of e1, rfl, p, _, rfl, .inr (SqT.of (s1 _ _ g2)), _, _, rfl, rfl, _, rfl, iteDT (by rw [hlen]; omega) ?_⟩
      refine ⟨_, _, rfl, rfl, _, rfl, iteDT (by rw [hlen]; omega) ?_⟩
      refine ⟨_, rfl, t, _, 0, _, rfl, rfl, SqT.of e1, rfl, q p ((List.range n).map as) _ s1 (by rw [List.map_map]; exact s1 _ _ g2) ⟨by simp [Br.kids], fun i k c h1 h2 => ?_⟩⟩
      have hi : i < n := by
        have := (List.getElem?_eq_some_iff.mp h1).1
        simpa using this
      simp [List.getElem?_range hi] at h1
      simp [Br.kids, List.getElem?_range hi] at h2
      subst h1 h2
      exact (g3 i hi).same s1
  | look n x y =>
    obtain ⟨p, p2, g1, g2, g3⟩ := hb
    cases d with
    | zero => exact ok.elim
    | succ d =>
      obtain ⟨o1, o2, o3⟩ := ok
      refine ⟨_, rfl, _, _, _, _, true, rfl, .ty _, .base (.tup g1), kit_ty (by decide +kernel), _, rfl, iteT ?_⟩
      refine ⟨_, rfl, a, _, rfl, .inr (SqT.of g1), _, _, rfl, rfl, _, rfl, iteDT (by show (0 : Int) < 4; decide) ?_⟩
      refine ⟨_, rfl, a, _, 0, _, rfl, rfl, SqT.of g1, rfl, _, _, _, _, true, rfl, .ty _, .base (.str _), kit_ty (by decide +kernel), _, rfl, iteT ?_⟩
      refine ⟨_, rfl, a, _, 0, _, rfl, rfl, SqT.of g1, rfl, _, rfl, _, rfl, a, _, rfl, SqT.of g1, (show ¬ (HT.sIx 4 0 (some 1) = 0 ∧ HT.sIx 4 4 none = 4) by decide), fun t ht => ⟨_, _, rfl, ?_⟩⟩
      have s1 := same_new ht (.tup (cutV [V.str "look", V.int (n : Int), V.ref p, V.ref p2] (some 1) none))
      have e1 : (upd H t (.tup (cutV [V.str "look", V.int (n : Int), V.ref p, V.ref p2] (some 1) none))) t = some (.tup [.int (n : Int), .ref p, .ref p2]) := upd_same
      refine ⟨_, rfl, rfl, _, rfl, iteDF (by decide) (iteF ?_)⟩
      refine ⟨_, rfl, rfl, _, rfl, iteDF (by decide) (iteF ?_)⟩
      refine ⟨_, rfl, rfl, _, rfl, iteDT rfl ?_⟩
      refine ⟨_, rfl, t, _, rfl, .inr (SqT.of e1), rfl, _, rfl, iteDT rfl ?_⟩
      refine ⟨_, rfl, t, _, 0, _, rfl, rfl, SqT.of e1, rfl, _, _, _, rfl, by omega, by omega, _, rfl, iteT ?_⟩
      refine ⟨_, rfl, _, rfl, t, _, rfl, SqT.of e1, (show ¬ (HT.sIx 3 0 (some 1) = 0 ∧ HT.sIx 3 3 none = 3) by decide), fun r hr' => ?_⟩
      have s2 := s1.trans (same_new hr' (.tup (cutV [V.int (n : Int), V.ref p, V.ref p2] (some 1) none)))
      refine q r [p, p2] _ s2 upd_same ⟨rfl, fun i k c h1 h2 => ?_⟩
      match i, h1, h2 with
      | 0, h1, h2 => simp at h1; simp [Br.kids] at h2; subst h1 h2; exact g2.same s2
      | 1, h1, h2 => simp at h1; simp [Br.kids] at h2; subst h1 h2; exact g3.same s2
      | i + 2, h1, h2 => simp at h1
  | ask ps x =>
    obtain ⟨p, p2, g1, g2, g3⟩ := hb
    cases d with
    | zero => exact ok.elim
    | succ d =>
      obtain ⟨o1, o2⟩ := ok
      refine ⟨_, rfl, _, _, _, _, true, rfl, .ty _, .base (.tup g1), kit_ty (by decide +kernel), _, rfl, iteT ?_⟩
      refine ⟨_, rfl, a, _, rfl, .inr (SqT.of g1), _, _, rfl, rfl, _, rfl, iteDT (by show (0 : Int) < 3; decide) ?_⟩
      refine ⟨_, rfl, a, _, 0, _, rfl, rfl, SqT.of g1, rfl, _, _, _, _, true, rfl, .ty _, .base (.str _), kit_ty (by decide +kernel), _, rfl, iteT ?_⟩
      refine ⟨_, rfl, a, _, 0, _, rfl, rfl, SqT.of g1, rfl, _, rfl, _, rfl, a, _, rfl, SqT.of g1, (show ¬ (HT.sIx 3 0 (some 1) = 0 ∧ HT.sIx 3 3 none = 3) by decide), fun t ht => ⟨_, _, rfl, ?_⟩⟩
      have s1 := same_new ht (.tup (cutV [V.str "ask", V.ref p, V.ref p2] (some 1) none))
      have e1 : (upd H t (.tup (cutV [V.str "ask", V.ref p, V.ref p2] (some 1) none))) t = some (.tup [.ref p, .ref p2]) := upd_same
      refine ⟨_, rfl, rfl, _, rfl, iteDF (by decide) (iteF ?_)⟩
      refine ⟨_, rfl, rfl, _, rfl, iteDF (by decide) (iteF ?_)⟩
      refine ⟨_, rfl, rfl, _, rfl, iteDF (by decide) (iteF ?_)⟩
      refine ⟨_, rfl, rfl, _, rfl, iteDT rfl ?_⟩
      refine ⟨_, rfl, t, _, rfl, .inr (SqT.of e1), rfl, _, rfl, iteDT rfl ?_⟩
      refine ⟨_, rfl, t, _, 0, _, rfl, rfl, SqT.of e1, rfl, p, ps, rfl, s1 _ _ g2, o1, fun H2 s2 => ⟨_, rfl, iteT ?_⟩⟩
      refine ⟨_, rfl, _, rfl, t, _, rfl, SqT.of (s2 _ _ e1), (show ¬ (HT.sIx 2 0 (some 1) = 0 ∧ HT.sIx 2 2 none = 2) by decide), fun r hr' => ?_⟩
      have s3 := (s1.trans s2).trans (same_new hr' (.tup (cutV [V.ref p, V.ref p2] (some 1) none)))
      refine q r [p2] _ s3 upd_same ⟨rfl, fun i k c h1 h2 => ?_⟩
      match i, h1, h2 with
      | 0, h1, h2 => simp at h1; simp [Br.kids] at h2; subst h1 h2; exact g3.same s3
      | i + 1, h1, h2 => simp at h1
end
end NX
namespace NX
open PySem PySem.Spec PyProof.Rows L2
open C8 (Cal Met Mak pe_c pe_mk pe_mt pe_mt0)
/-- one that waits: its tuple t holds the breaker b at k and its depth -/
structure WItem where
  t : Addr
  k : Addr
  b : Br
  d : Nat
def WItem.At (H : Hp) (x : WItem) : Prop := H x.t = some (.tup [.ref x.k, .int (x.d : Int)]) ∧ BrAt H x.b x.k ∧ ∃ dp B, x.b.Ok dp B ∧ B ≤ 12 ∧ dp + x.d ≤ 20
theorem WItem.At.keep {H H' : Hp} {x : WItem} (h : x.At H) (k : ∀ b xs, H b = some (.tup xs) → H' b = some (.tup xs)) : x.At H' := ⟨k _ _ h.1, h.2.1.keep k, h.2.2⟩
def csum (l : List WItem) : Nat := (l.map fun x => x.b.cnt).sum
theorem csum_append (a b : List WItem) : csum (a ++ b) = csum a + csum b := by simp [csum]
theorem kids_sum (b : Br) : b.cnt = b.kids.length + (b.kids.map fun c => c.cnt).sum := by
  rw [cnt_kids]
  generalize b.kids = l
  induction l with
  | nil => rfl
  | cons x r ih => simp; omega
theorem csum_kids {l : List WItem} {ks : List Br} (hl : l.length = ks.length) (h : ∀ (i : Nat) (x : WItem), l[i]? = some x → ks[i]? = some x.b) : csum l = (ks.map fun c => c.cnt).sum := by
  have e : l.map (fun x => x.b) = ks := by
    apply List.ext_getElem?
    intro i
    rw [List.getElem?_map]
    cases q : l[i]? with
    | none =>
      have := List.getElem?_eq_none_iff.mp q
      rw [List.getElem?_eq_none (by omega)]
      rfl
    | some x => rw [h i x q]; rfl
  unfold csum
  rw [← e, List.map_map]
  rfl
def wsum (l : List WItem) : Nat := (l.map fun x => 1 + x.b.cnt).sum
theorem wsum_append (a b : List WItem) : wsum (a ++ b) = wsum a + wsum b := by simp [wsum]
section
variable {P : Program} {w : World} {K : PySem.W.Frag} {mg : Str → Option Value} {base : Heap}
def spChkPlain : Sp := fun vs H Q _ => ∃ (a : Addr) (b : Br) (d B : Nat), vs = [.ref a] ∧ BrAt H b a ∧ b.Ok d B ∧ B ≤ 12 ∧ d ≤ 2 ∧ ∀ (H' : Hp), Same H H' → Q .non H'
abbrev N_check_plain : List Str := ["breaker", "waiting", "within", "one", "depth", "inner", "other"]
abbrev P_check_plain : List Str := ["breaker"]
theorem sc_check_plain : FnScope N_check_plain P_check_plain (defScope s_check_plain) := ⟨rfl, rfl, rfl, by decide +kernel, rfl, by decide +kernel, by decide +kernel⟩
theorem c_check_plain (T : Txt w K mg) : Cal P w K mg base 4 "check_plain" spChkPlain [] := by
  refine T.f_check_plain.cal sc_check_plain (fun _ _ _ _ _ _ us hl => match us, hl with | [_], _ => rfl) (fun vs H Q E h => ?_) (fun f cdv A outer s H vs Q E hr h => ?_)
  · obtain ⟨a, b, d, B, rfl, _⟩ := h
    rfl
  obtain ⟨a, b, d, B, rfl, hb, ok, hB, hd, q⟩ := h
  refine ⟨_, pss_cons (ps_set (i := 1) sc_check_plain.nd rfl (Or.inl rfl) (pe_lst (pa_cons (pe_tup (pa_cons (pv 0) (pa_cons pe_int pa_nil))) pa_nil)))
      (pss_cons (ps_set (i := 2) sc_check_plain.nd rfl (Or.inl rfl) pe_int)
      (pss_one (ps_while PassesOwn.never (pt_cmpR op_gt (pe_callB call_len_seq rfl T.b_len PySem.boot_len (pa_cons (pv 1) pa_nil)) pe_int (nomark _)) (pss_cons (ps_asg (pe_bm0 PySem.F.plainAttrs_list PySem.F.slot_list_pop PySem.F.type_list_pop mt_pop (pv 1)) (pg_tup rfl (pgs_cons (pg_name (i := 3) sc_check_plain.nd rfl (.inl rfl)) (pgs_cons (pg_name (i := 4) sc_check_plain.nd rfl (.inr rfl) (.inl rfl)) pgs_nil)))) (pss_cons (ps_set (i := 5) sc_check_plain.nd rfl (Or.inl rfl) (pe_c (c_inner_plain T) hr (by decide) rfl (pa_cons (pv 3) pa_nil))) (pss_cons (ps_aug (i := 2) sc_check_plain.nd rfl (.inl rfl) (pe_callB call_len_seq rfl T.b_len PySem.boot_len (pa_cons (pv 5) pa_nil)) ip_add) (pss_cons (ps_if (PW.pt (pw_or (pt_cmpR op_gt (pv 4) (pe_gi T.g_MOST_DEPTH) (nomark _)) (pw_or1 (pt_cmpR op_gt (pv 2) (pe_gi T.g_MOST_WITHIN) (nomark _))))) (pss_one ps_never) pss_nil) (pss_one (ps_expr (pe_bm PySem.F.plainAttrs_list PySem.F.slot_list_extend PySem.F.type_list_extend mt_extend (pv 1) (pa_cons (pe_lc (own := [("other", 6)]) (g := gName 6) (tt := tYes) rfl sc_check_plain.nd (pi_tup (pv 5)) (blkOk_by (own := [("other", 6)]) (N := N_check_plain) (sc := defScope s_check_plain) (by decide +kernel)) (fun _ _ _ _ _ => pg_name (i := 6) sc_check_plain.nd rfl (Or.inl rfl)) (fun _ _ _ _ _ => pts_nil) (fun _ _ _ _ _ => (pe_tup (pa_cons (pv 6) (pa_cons (pe_op op_add (pv 4) pe_int) pa_nil))))) pa_nil))))))))))), ?_⟩
  refine ⟨_, rfl, (by show 2 ≤ sizeLine; decide), fun t0 ht0 => ⟨(by show 1 ≤ sizeLine; decide), fun wl hwl => ?_⟩⟩
  have ntw : t0 ≠ wl := fun e => by rw [← e, upd_same] at hwl; cases hwl
  have hwl0 : H wl = none := by rw [upd_ne ntw.symm] at hwl; exact hwl
  refine ⟨fun m σ H1 => ∃ (its : List WItem) (wi : Nat) (x1 x2 x3 x4 : Option V), m = its.length + csum its ∧ σ = [some (.ref a), some (.ref wl), some (.int (wi : Int)), x1, x2, x3, x4] ∧ H1 wl = some (.lst (its.map fun x => V.ref x.t)) ∧ (∀ x ∈ its, x.At H1) ∧ wi + csum its ≤ 2000 ∧ its.length ≤ wi + 1 ∧ Same H H1,
    ⟨_, [⟨t0, a, b, 1⟩], 0, none, none, none, none, rfl, rfl, upd_same, ?_, ?_, (by show 1 ≤ 0 + 1; decide), (same_new ht0 _).mut hwl0 _⟩, ?_⟩
  · intro x hx
    simp at hx
    subst hx
    refine ⟨by rw [upd_ne ntw, upd_same]; rfl, hb.same ((same_new ht0 _).mut hwl0 _), d, B, ok, hB, by show d + 1 ≤ 20; omega⟩
  · have c1 := cnt_le ok hB
    have c2 : capD d ≤ 156 := by
      match d, hd with
      | 0, _ => decide
      | 1, _ => decide
      | 2, _ => decide
    show 0 + (b.cnt + 0) ≤ 2000
    omega
  rintro m σ H1 ⟨its, wi, x1, x2, x3, x4, rfl, rfl, hL, hA, hw, hlen, s1⟩
  have e1 : (its.map fun x => V.ref x.t).length = its.length := List.length_map _
  refine ⟨_, rfl, wl, _, rfl, .inl (SqL.of hL), _, _, rfl, rfl, _, rfl, ?_⟩
  refine ite2 (fun c => ?_) (fun c => q H1 s1)
  have c1 : (0 : Int) < (((its.map fun x => V.ref x.t).length : Nat) : Int) := of_decide_eq_true c
  rw [e1] at c1
  obtain ⟨its', x, rfl⟩ : ∃ its' x, its = its' ++ [x] := by
    have hne : its ≠ [] := by intro z; subst z; simp at c1
    exact ⟨its.dropLast, its.getLast hne, (List.dropLast_concat_getLast hne).symm⟩
  obtain ⟨a1, a2, dp, B2, a3, a4, a5⟩ := hA x (by simp)
  refine ⟨fun σ' H' => ∃ m', m' < (its' ++ [x]).length + csum (its' ++ [x]) ∧ _, fun _ _ z => z, ?_⟩
  have ed : ((its' ++ [x]).map fun x => V.ref x.t).dropLast = its'.map fun x => V.ref x.t := by simp
  refine ⟨_, rfl, .inl ⟨rfl, _, SqL.of hL⟩, wl, _, .ref x.t, rfl, rfl, hL, (by simp), x.t, _, rfl, SqT.of (by rw [upd_ne (ne_of a1 hL (by intro z; cases z))]; exact a1), rfl, _, _, rfl, _, _, rfl, rfl, ?_⟩
  rw [ed]
  have s2 : Same H (upd H1 wl (.lst (its'.map fun x => V.ref x.t))) := s1.mut hwl0 _
  have k2 : ∀ b xs, H1 b = some (.tup xs) → (upd H1 wl (.lst (its'.map fun x => V.ref x.t))) b = some (.tup xs) := fun b xs z => by
    rw [upd_ne (ne_of z hL (by intro z; cases z))]; exact z
  refine ⟨_, rfl, x.k, x.b, dp, B2, rfl, a2.keep k2, a3, a4, fun r ks H2 s3 hr2 hk => ?_⟩
  have e2 : (ks.map V.ref).length = x.b.kids.length := by rw [List.length_map]; exact hk.1
  refine ⟨_, rfl, _, rfl, r, _, rfl, .inr (SqT.of hr2), _, _, rfl, rfl, ?_⟩
  have cx := kids_sum x.b
  have cs1 : csum (its' ++ [x]) = csum its' + x.b.cnt := by rw [csum_append]; simp [csum]
  refine ⟨_, rfl, _, _, rfl, rfl, _, rfl, iteDF (by omega) ?_⟩
  refine ⟨_, rfl, _, _, rfl, rfl, _, rfl, iteDF (by rw [e2]; show ¬ (2000 : Int) < (wi : Int) + (x.b.kids.length : Int); omega) ?_⟩
  have hL2 : H2 wl = some (.lst (its'.map fun x => V.ref x.t)) := s3 _ _ upd_same
  refine ⟨_, rfl, .inl ⟨rfl, _, SqL.of hL2⟩, _, rfl, r, rfl, ⟨_, SqT.of hr2⟩, fun D hD => ?_⟩
  have nDw : D ≠ wl := fun e => by rw [e, hL2] at hD; cases hD
  have s23 : Same H H2 := s2.trans s3
  have hD0 : H D = none := s23.free hD
  refine lc_tup (K := K) (a := r) (xs := ks.map V.ref) (fun j Hj => Same H Hj ∧ (∀ b xs, H2 b = some (.tup xs) → Hj b = some (.tup xs)) ∧ Hj wl = some (.lst (its'.map fun x => V.ref x.t)) ∧ ∃ ni : List WItem, ni.length = j ∧ Hj D = some (.lst (ni.map fun x => V.ref x.t)) ∧ ∀ (i : Nat) (z : WItem), ni[i]? = some z → z.At Hj ∧ x.b.kids[i]? = some z.b)
    ⟨s23.mut hD0 _, fun b xs z => by rw [upd_ne (ne_of_none z hD)]; exact z, by rw [upd_ne nDw.symm]; exact hL2, [], rfl, upd_same, fun i z h => by simp at h⟩ (fun i Hj _ ⟨_, k, _⟩ => SqT.of (k _ _ hr2)) ?_ ?_
  · rintro j y Hj hj ⟨sj, kj, wj, ni, nl, nD, nA⟩
    obtain ⟨kk, hkk, rfl⟩ := get_map hj
    have lj : j < ks.length := (List.getElem?_eq_some_iff.mp hkk).1
    have lj2 : j < x.b.kids.length := by rw [← hk.1]; exact lj
    refine ⟨rfl, _, rfl, _, rfl, _, _, rfl, rfl, (by show 2 ≤ sizeLine; decide), fun t ht => ?_⟩
    have nDt : D ≠ t := fun e => by rw [← e, nD] at ht; cases ht
    have nwt : wl ≠ t := fun e => by rw [← e, wj] at ht; cases ht
    refine ⟨_, (by rw [upd_ne nDt]; exact nD), (by rw [List.length_map, nl]; exact slt (by omega)), ?_⟩
    have kt : ∀ b xs, Hj b = some (.tup xs) → (upd (upd Hj t (.tup [V.ref kk, V.int ((x.d : Int) + 1)])) D (.lst (ni.map (fun x => V.ref x.t) ++ [V.ref t]))) b = some (.tup xs) := fun b xs z => by
      rw [upd_ne (ne_of z nD (by intro z; cases z)), upd_ne (ne_of_none z ht)]; exact z
    refine ⟨(sj.trans (same_new ht _)).mut hD0 _, fun b xs z => kt _ _ (kj _ _ z), by rw [upd_ne nDw.symm, upd_ne nwt]; exact wj, ni ++ [⟨t, kk, x.b.kids[j], x.d + 1⟩], by simp [nl], by rw [upd_same, List.map_append]; rfl, fun i z h => ?_⟩
    by_cases hi : i < ni.length
    · rw [List.getElem?_append_left hi] at h
      obtain ⟨h1, h2⟩ := nA i z h
      exact ⟨h1.keep kt, h2⟩
    · have hi2 : i = ni.length := by
        have := (List.getElem?_eq_some_iff.mp h).1
        simp at this
        omega
      subst hi2
      rw [List.getElem?_append_right (Nat.le_refl _), Nat.sub_self] at h
      simp at h
      subst h
      have hkid : x.b.kids[j]? = some x.b.kids[j] := List.getElem?_eq_getElem lj2
      obtain ⟨d', B', ed', hB', ok'⟩ := Ok.kid a3 hkid
      refine ⟨⟨?_, ((hk.2 j kk _ hkk hkid).keep kj).keep kt, d', B', ok', by omega, by show d' + (x.d + 1) ≤ 20; omega⟩, by rw [nl]; exact hkid⟩
      show upd (upd Hj t _) D _ t = some (.tup [.ref kk, .int ((x.d + 1 : Nat) : Int)])
      rw [upd_ne nDt.symm, upd_same]
      have : ((x.d + 1 : Nat) : Int) = (x.d : Int) + 1 := by omega
      rw [this]
  · rintro Hj ⟨sj, kj, wj, ni, nl, nD, nA⟩
    rw [e2] at nl
    refine ⟨wl, D, _, _, rfl, rfl, wj, nD, ?_, ?_⟩
    · rw [List.length_map, List.length_map, nl]
      have : its'.length + 1 ≤ wi + 1 := by rw [List.length_append] at hlen; exact hlen
      exact sl (by omega)
    · have cn : csum ni = (x.b.kids.map fun c => c.cnt).sum := csum_kids nl fun i z h => (nA i z h).2
      have kd : ∀ b xs, Hj b = some (.tup xs) → (upd Hj wl (.lst ((its'.map fun x => V.ref x.t) ++ (ni.map fun x => V.ref x.t)))) b = some (.tup xs) := fun b xs z => by
        rw [upd_ne (ne_of z wj (by intro z; cases z))]; exact z
      refine ⟨(its' ++ ni).length + csum (its' ++ ni), ?_, its' ++ ni, wi + x.b.kids.length, some (.ref x.k), some (.int (x.d : Int)), some (.ref r), x4, rfl, ?_, ?_, ?_, ?_, ?_, sj.mut hwl0 _⟩
      · rw [List.length_append, List.length_append, csum_append, cs1, cn, nl]
        simp
        omega
      · show [_, _, some (V.int ((wi : Int) + (((ks.map V.ref).length : Nat) : Int))), _, _, _, _] = _
        rw [e2]
        have : ((wi + x.b.kids.length : Nat) : Int) = (wi : Int) + (x.b.kids.length : Int) := by omega
        rw [this]
      · rw [upd_same, List.map_append]
      · intro z hz
        rcases List.mem_append.mp hz with hz | hz
        · exact (((hA z (by simp [hz])).keep k2).keep (fun b xs h => s3 _ _ h)).keep (fun b xs h => kd _ _ (kj _ _ h))
        · obtain ⟨i, hi, ei⟩ := List.mem_iff_getElem.mp hz
          exact (nA i z (by rw [List.getElem?_eq_getElem hi, ei])).1.keep kd
      · rw [csum_append, cn]; omega
      · rw [List.length_append, nl]
        rw [List.length_append] at hlen
        simp at hlen
        omega
def spIsLen : Sp := fun vs H Q _ => ∃ (v : Int), vs = [.int v] ∧ 1 ≤ v ∧ v ≤ 40 ∧ Q (.bl true) H
abbrev N_is_length : List Str := ["value"]
abbrev P_is_length : List Str := ["value"]
theorem sc_is_length : FnScope N_is_length P_is_length (defScope s_is_length) := ⟨rfl, rfl, rfl, by decide +kernel, rfl, by decide +kernel, by decide +kernel⟩
theorem c_is_length (T : Txt w K mg) : Cal P w K mg base 2 "is_length" spIsLen [] := by
  refine T.f_is_length.cal sc_is_length (fun _ _ _ _ _ _ us hl => match us, hl with | [_], _ => rfl) (fun vs H Q E h => ?_) (fun f cdv A outer s H vs Q E hr h => ?_)
  · obtain ⟨v, rfl, _⟩ := h
    rfl
  obtain ⟨v, rfl, h1, h2, q⟩ := h
  exact ⟨_, pss_one (ps_ret (pe_c (c_is_number T) hr (by decide) rfl (pa_cons (pv 0) (pa_cons pe_int (pa_cons (pe_gi T.g_MOST_LENGTH) pa_nil))))), ⟨_, rfl, _, _, _, rfl, h1, h2, q⟩⟩
/-- the words and parts of a breaker made by next -/
def spFits : Sp := fun vs H Q _ => ∃ (t : Addr) (m : Nat), vs = [.str ("next" : Str), .ref t] ∧ H t = some (.tup [.int (m : Int)]) ∧ 1 ≤ m ∧ m ≤ 40 ∧ ∀ H', Same H H' → Q (.bl true) H'
abbrev N_fits_word : List Str := ["word", "parts"]
abbrev P_fits_word : List Str := ["word", "parts"]
theorem sc_fits_word : FnScope N_fits_word P_fits_word (defScope s_fits_word) := ⟨rfl, rfl, rfl, by decide +kernel, rfl, by decide +kernel, by decide +kernel⟩
theorem c_fits_word (T : Txt w K mg) : Cal P w K mg base 3 "fits_word" spFits [] := by
  refine T.f_fits_word.cal sc_fits_word (fun _ _ _ _ _ _ us hl => match us, hl with | [_, _], _ => rfl) (fun vs H Q E h => ?_) (fun f cdv A outer s H vs Q E hr h => ?_)
  · obtain ⟨t, m, rfl, _⟩ := h
    rfl
  obtain ⟨t, m, rfl, ht, h1, h2, q⟩ := h
  refine ⟨_, pss_cons (ps_if (PW.pt (pw_and (pt_cmpR op_eq (pv 0) pe_str (nomark _)) (pw_and1 ptNever))) (pss_one ps_never) pss_nil)
      (pss_cons (ps_if (PW.pt (pw_and (pt_cmpR op_eq (pv 0) pe_str (nomark _)) (pw_and1 ptNever))) (pss_one ps_never) pss_nil)
      (pss_cons (ps_if (PW.pt (pw_and (pt_cmpR op_in_seq (pv 0) (pe_tup (pa_cons pe_str (pa_cons pe_str pa_nil))) rfl) (pw_and1 ptNever))) (pss_one ps_never) pss_nil)
      (pss_cons (ps_if (PW.pt (pw_and (pt_cmpR op_in_seq (pv 0) (pe_tup (pa_cons pe_str (pa_cons pe_str (pa_cons pe_str (pa_cons pe_str pa_nil))))) rfl) (pw_and1 (pt_cmpR op_eq (pe_callB call_len_seq rfl T.b_len PySem.boot_len (pa_cons (pv 1) pa_nil)) pe_int (nomark _))))) (pss_one (ps_ret (pe_c (c_is_length T) hr (by decide) rfl (pa_cons (pe_ix ix_tup (pv 1) pe_int (fun _ _ => rfl)) pa_nil)))) pss_nil)
      pss_never))), ?_⟩
  refine ⟨_, rfl, rfl, _, rfl, iteDF (by decide) (iteF ?_)⟩
  refine ⟨_, rfl, rfl, _, rfl, iteDF (by decide) (iteF ?_)⟩
  refine ⟨_, rfl, (by show 2 ≤ sizeLine; decide), fun p hp => ⟨p, _, rfl, .inr (SqT.of upd_same), rfl, rfl, _, rfl, ite2 (fun c => absurd c (by decide +kernel)) fun _ => iteF ?_⟩⟩
  have s1 := same_new hp (.tup [V.str "marks", V.str "secrets"])
  refine ⟨_, rfl, (by show 4 ≤ sizeLine; decide), fun p2 hp2 => ⟨p2, _, rfl, .inr (SqT.of upd_same), rfl, rfl, _, rfl, ite2 (fun _ => ?_) fun c => absurd (by decide +kernel) c⟩⟩
  have s2 := s1.trans (same_new hp2 (.tup [V.str "once", V.str "next", V.str "guess", V.str "cut"]))
  refine ⟨_, rfl, t, _, rfl, .inr (SqT.of (s2 _ _ ht)), rfl, _, rfl, iteDT rfl ?_⟩
  exact ⟨_, rfl, t, _, 0, _, rfl, rfl, SqT.of (s2 _ _ ht), rfl, _, rfl, by omega, by omega, q _ s2⟩
/-! ### check_breaker -/
def spChkBr : Sp := fun vs H Q _ => ∃ (mk : Bool) (m : Nat) (a : Addr) (b : Br) (d B : Nat), vs = [.ref a] ∧ MkAt H mk m b a ∧ 1 ≤ m ∧ m ≤ 40 ∧ b.Ok d B ∧ B ≤ 12 ∧ d ≤ 2 ∧ ∀ (H' : Hp), Same H H' → Q .non H'
abbrev N_check_breaker : List Str := ["breaker", "layers", "word"]
abbrev P_check_breaker : List Str := ["breaker"]
theorem sc_check_breaker : FnScope N_check_breaker P_check_breaker (defScope s_check_breaker) := ⟨rfl, rfl, rfl, by decide +kernel, rfl, by decide +kernel, by decide +kernel⟩
theorem br_plain {H : Hp} {b : Br} {a : Addr} (h : BrAt H b a) : ∃ z r, H a = some (.tup (.str z :: r)) ∧ r.length ≤ 100 ∧ inV (.str z) [.str "say", .str "toss", .str "look", .str "ask"] = true := by
  cases b with
  | say ps => obtain ⟨q, h1, _⟩ := h; exact ⟨_, _, h1, (by show 1 ≤ 100; decide), by decide +kernel⟩
  | toss n f => obtain ⟨q, as, h1, _⟩ := h; exact ⟨_, _, h1, (by show 1 ≤ 100; decide), by decide +kernel⟩
  | look n x y => obtain ⟨p, q, h1, _⟩ := h; exact ⟨_, _, h1, (by show 3 ≤ 100; decide), by decide +kernel⟩
  | ask ps x => obtain ⟨q, p, h1, _⟩ := h; exact ⟨_, _, h1, (by show 2 ≤ 100; decide), by decide +kernel⟩
theorem c_check_breaker (T : Txt w K mg) : Cal P w K mg base 5 "check_breaker" spChkBr [] := by
  refine T.f_check_breaker.cal sc_check_breaker (fun _ _ _ _ _ _ us hl => match us, hl with | [_], _ => rfl) (fun vs H Q E h => ?_) (fun f cdv A outer s H vs Q E hr h => ?_)
  · obtain ⟨mk, m, a, b, d, B, rfl, _⟩ := h
    rfl
  obtain ⟨mk, m, a, b, d, B, rfl, hb, m1, m2, ok, hB, hd, q⟩ := h
  refine ⟨_, pss_cons (ps_set (i := 1) sc_check_breaker.nd rfl (Or.inl rfl) pe_int)
      (pss_cons (ps_set (i := 2) sc_check_breaker.nd rfl (Or.inl rfl) pe_non)
      (pss_cons (ps_while PassesOwn.never (pt_not (pt_val (pe_c (c_has_plain_word T) hr (by decide) rfl (pa_cons (pv 0) pa_nil)))) (pss_cons (ps_if (PW.pt (pw_or (pt_not (pt_val (pe_callB call_isi rfl T.b_isinstance (by decide +kernel) (pa_cons (pv 0) (pa_cons (pe_ty "tuple" T.b_tuple (by decide +kernel)) pa_nil))))) (pw_or (pt_cmpR op_lt (pe_callB call_len_seq rfl T.b_len PySem.boot_len (pa_cons (pv 0) pa_nil)) pe_int (nomark _)) (pw_or1 (pt_not (pt_val (pe_callB call_isi rfl T.b_isinstance (by decide +kernel) (pa_cons (pe_ix ix_tup (pv 0) pe_int (fun _ _ => rfl)) (pa_cons (pe_ty "str" T.b_str (by decide +kernel)) pa_nil))))))))) (pss_one ps_never) pss_nil) (pss_cons (ps_if (PW.pt (pw_or (pt_cmpR op_eq (pv 2) pe_str (nomark _)) (pw_or1 (pt_not (pt_val (pe_c (c_fits_word T) hr (by decide) rfl (pa_cons (pe_ix ix_tup (pv 0) pe_int (fun _ _ => rfl)) (pa_cons (pe_slice sl_tup (pv 0) (po_some pe_int) (po_some (pe_un un_neg pe_int))) pa_nil)))))))) (pss_one ps_never) pss_nil) (pss_cons (ps_aug (i := 1) sc_check_breaker.nd rfl (.inl rfl) pe_int ip_add) (pss_cons (ps_if (pt_cmpR op_gt (pv 1) (pe_gi T.g_MOST_LAYERS) (nomark _)) (pss_one ps_never) pss_nil) (pss_one (ps_par (i := 2) (j := 0) rfl sc_check_breaker.nd rfl rfl (by decide) rfl rfl (pa_cons (pe_ix ix_tup (pv 0) pe_int (fun _ _ => rfl)) (pa_cons (pe_ix ix_tup (pv 0) (pe_un un_neg pe_int) (fun _ _ => rfl)) pa_nil)) rfl)))))))
      (pss_one (ps_expr (pe_c (c_check_plain T) hr (by decide) rfl (pa_cons (pv 0) pa_nil)))))), ?_⟩
  refine ⟨fun k σ H1 => Same H H1 ∧ ((k = 1 ∧ mk = true ∧ σ = [some (.ref a), some (.int 0), some .non]) ∨ (k = 0 ∧ ∃ (p : Addr) (x1 x2 : Option V), σ = [some (.ref p), x1, x2] ∧ BrAt H1 b p)), ?_, ?_⟩
  · cases mk with
    | false => exact ⟨0, Same.refl _, .inr ⟨rfl, a, _, _, rfl, hb⟩⟩
    | true => exact ⟨1, Same.refl _, .inl ⟨rfl, rfl, rfl⟩⟩
  rintro k σ H1 ⟨s1, ⟨rfl, rfl, rfl⟩ | ⟨rfl, p, x1, x2, rfl, hp⟩⟩
  · obtain ⟨ba, g0, g2⟩ := hb
    have g1 := s1 _ _ g0
    refine ⟨_, rfl, a, _, _, rfl, g1, (by show 2 ≤ 100; decide), _, rfl, ite2 (fun _ => ?_) fun c => absurd (by decide +kernel) c⟩
    refine ⟨fun σ' H' => ∃ k', k' < 1 ∧ _, fun _ _ z => z, ?_⟩
    refine ⟨_, rfl, _, _, _, _, true, rfl, .ty _, .base (.tup g1), kit_ty (by decide +kernel), _, rfl, iteF ?_⟩
    refine ⟨_, rfl, a, _, rfl, .inr (SqT.of g1), _, _, rfl, rfl, _, rfl, iteDF (by show ¬ (3 : Int) < 2; decide) ?_⟩
    refine ⟨_, rfl, a, _, 0, _, rfl, rfl, SqT.of g1, rfl, _, _, _, _, true, rfl, .ty _, .base (.str _), kit_ty (by decide +kernel), _, rfl, iteF ?_⟩
    refine ⟨_, rfl, rfl, _, rfl, iteDF (by decide) ?_⟩
    refine ⟨_, rfl, a, _, 0, _, rfl, rfl, SqT.of g1, rfl, _, rfl, _, rfl, _, rfl, _, rfl, a, _, rfl, SqT.of g1, (show ¬ (HT.sIx 3 0 (some 1) = 0 ∧ HT.sIx 3 3 (some (-1)) = 3) by decide), fun t ht => ?_⟩
    have s2 := same_new ht (.tup (cutV [V.str "next", V.int (m : Int), V.ref ba] (some 1) (some (-1))))
    refine ⟨t, m, rfl, upd_same, m1, m2, fun H2 s3 => ⟨_, rfl, iteF ?_⟩⟩
    have g3 := s3 _ _ (s2 _ _ g1)
    refine ⟨_, rfl, _, _, rfl, rfl, ?_⟩
    refine ⟨_, rfl, _, _, rfl, rfl, _, rfl, iteDF (by decide) ?_⟩
    refine ⟨_, rfl, a, _, 0, _, rfl, rfl, SqT.of g3, rfl, _, rfl, _, rfl, a, _, -1, _, rfl, rfl, SqT.of g3, rfl, _, _, rfl, 0, by decide, (s1.trans s2).trans s3, .inr ⟨rfl, ba, _, _, rfl, ((g2.same s1).same s2).same s3⟩⟩
  · obtain ⟨z, r, e1, e2, e3⟩ := br_plain hp
    refine ⟨_, rfl, p, z, r, rfl, e1, e2, _, rfl, ?_⟩
    rw [e3]
    refine iteF ?_
    exact ⟨_, rfl, p, b, d, B, rfl, hp, ok, hB, hd, fun H' s2 => q _ (s1.trans s2)⟩
def spTruth : Sp := fun vs H Q _ => ∃ (v : Bool), vs = [.bl v] ∧ Q (.bl true) H
abbrev N_is_truth : List Str := ["value"]
abbrev P_is_truth : List Str := ["value"]
theorem sc_is_truth : FnScope N_is_truth P_is_truth (defScope s_is_truth) := ⟨rfl, rfl, rfl, by decide +kernel, rfl, by decide +kernel, by decide +kernel⟩
theorem c_is_truth (T : Txt w K mg) : Cal P w K mg base 1 "is_truth" spTruth [] := by
  refine T.f_is_truth.cal sc_is_truth (fun _ _ _ _ _ _ us hl => match us, hl with | [_], _ => rfl) (fun vs H Q E h => ?_) (fun f cdv A outer s H vs Q E hr h => ?_)
  · obtain ⟨v, rfl, _⟩ := h
    rfl
  obtain ⟨v, rfl, q⟩ := h
  exact ⟨_, pss_one (ps_ret (pe_callB call_isi rfl T.b_isinstance (by decide +kernel) (pa_cons (pv 0) (pa_cons (pe_ty "bool" T.b_bool (by decide +kernel)) pa_nil)))), ⟨_, rfl, _, _, _, _, true, rfl, .ty _, .base (.bl _), kit_ty (by decide +kernel), q⟩⟩
/-! ### games -/
def gName_ (nx : Bool) : Str := match nx with
  | true => "next"
  | false => "generator"
/-- at a: the game next or generator of the block at g -/
def GameAt (H : Hp) (nx : Bool) (real : Bool) (g a : Addr) : Prop := H a = some (.tup [.str (gName_ nx), .ref g, .bl real])
def spChkGame : Sp := fun vs H Q _ => ∃ (nx real : Bool) (a g : Addr) (rows : List Bs) (n m : Nat), vs = [.ref a] ∧ GameAt H nx real g a ∧ GenAt H g rows n m ∧ ∀ (H' : Hp), Same H H' → Q .non H'
def spRight : Sp := fun vs H Q _ => ∃ (nx real : Bool) (a g : Addr) (rows : List Bs) (n m : Nat), vs = [.ref a] ∧ GameAt H nx real g a ∧ GenAt H g rows n m ∧ ∀ (H' : Hp), Same H H' → Q (.bl true) H'
abbrev N_is_right : List Str := ["game", "kind", "rest", "right"]
abbrev P_is_right : List Str := ["game"]
theorem sc_is_right : FnScope N_is_right P_is_right (defScope s_is_right) := ⟨rfl, rfl, rfl, by decide +kernel, rfl, by decide +kernel, by decide +kernel⟩
theorem c_is_right (T : Txt w K mg) : Cal P w K mg base 4 "is_right" spRight [] := by
  refine T.f_is_right.cal sc_is_right (fun _ _ _ _ _ _ us hl => match us, hl with | [_], _ => rfl) (fun vs H Q E h => ?_) (fun f cdv A outer s H vs Q E hr h => ?_)
  · obtain ⟨nx, real, a, g, rows, n, m, rfl, _⟩ := h
    rfl
  obtain ⟨nx, real, a, g, rows, n, m, rfl, g1, G, q⟩ := h
  refine ⟨_, pss_cons (ps_par (i := 1) (j := 2) rfl sc_is_right.nd rfl rfl (by decide) rfl rfl (pa_cons (pe_ix ix_tup (pv 0) pe_int (fun _ _ => rfl)) (pa_cons (pe_slice sl_tup (pv 0) (po_some pe_int) po_none) pa_nil)) rfl)
      (pss_cons (ps_if (pt_cmpR op_eq (pv 1) pe_str (nomark _)) (pss_one ps_never) pss_nil)
      (pss_cons (ps_if (pt_cmpR op_eq (pv 1) pe_str (nomark _)) (pss_one ps_never) pss_nil)
      (pss_cons (ps_if (pt_cmpR op_in_seq (pv 1) (pe_tup (pa_cons pe_str (pa_cons pe_str (pa_cons pe_str pa_nil)))) rfl) pss_never pss_nil)
      (pss_cons (ps_if (pt_not (pt_val (pe_c (c_is_generator T) hr (by decide) rfl (pa_cons (pe_ix ix_tup (pv 2) pe_int (fun _ _ => rfl)) pa_nil)))) (pss_one (ps_ret pe_bl)) pss_nil)
      (pss_cons (ps_if (pt_cmpR op_in_seq (pv 1) (pe_tup (pa_cons pe_str (pa_cons pe_str pa_nil))) rfl) (pss_one (ps_ret (pe_c (c_is_truth T) hr (by decide) rfl (pa_cons (pe_ix ix_tup (pv 2) pe_int (fun _ _ => rfl)) pa_nil)))) pss_nil)
      pss_never))))), ?_⟩
  have g1' : H a = some (.tup [.str (gName_ nx), .ref g, .bl real]) := g1
  refine ⟨_, rfl, a, _, 0, _, rfl, rfl, SqT.of g1', rfl, _, rfl, _, rfl, a, _, rfl, SqT.of g1', (show ¬ (HT.sIx 3 0 (some 1) = 0 ∧ HT.sIx 3 3 none = 3) by decide), fun t ht => ⟨_, _, rfl, ?_⟩⟩
  have s1 := same_new ht (.tup (cutV [V.str (gName_ nx), V.ref g, V.bl real] (some 1) none))
  have e1 : (upd H t (.tup (cutV [V.str (gName_ nx), V.ref g, V.bl real] (some 1) none))) t = some (.tup [.ref g, .bl real]) := upd_same
  refine ⟨_, rfl, rfl, _, rfl, iteDF (by cases nx <;> decide) ?_⟩
  refine ⟨_, rfl, rfl, _, rfl, iteDF (by cases nx <;> decide) ?_⟩
  refine ⟨_, rfl, (by show 3 ≤ sizeLine; decide), fun p hp => ⟨p, _, rfl, .inr (SqT.of upd_same), rfl, rfl, _, rfl, ite2 (fun c => absurd c (by cases nx <;> decide +kernel)) fun _ => ?_⟩⟩
  have s2 := s1.trans (same_new hp (.tup [V.str "function", V.str "marks", V.str "secrets"]))
  have e2 := same_new hp (.tup [V.str "function", V.str "marks", V.str "secrets"]) _ _ e1
  refine ⟨_, rfl, t, _, 0, _, rfl, rfl, SqT.of e2, rfl, g, rows, n, m, rfl, G.same s2, fun H2 s3 => ⟨_, rfl, iteF ?_⟩⟩
  refine ⟨_, rfl, (by show 2 ≤ sizeLine; decide), fun p2 hp2 => ⟨p2, _, rfl, .inr (SqT.of upd_same), rfl, rfl, _, rfl, ite2 (fun _ => ?_) fun c => absurd (by cases nx <;> decide +kernel) c⟩⟩
  have s4 := same_new hp2 (.tup [V.str "generator", V.str "next"])
  exact ⟨_, rfl, t, _, 1, _, rfl, rfl, SqT.of (s4 _ _ (s3 _ _ e2)), rfl, real, rfl, q _ ((s2.trans s3).trans s4)⟩
abbrev N_check_game : List Str := ["game"]
abbrev P_check_game : List Str := ["game"]
theorem sc_check_game : FnScope N_check_game P_check_game (defScope s_check_game) := ⟨rfl, rfl, rfl, by decide +kernel, rfl, by decide +kernel, by decide +kernel⟩
theorem sizes (T : Txt w K mg) (nx : Bool) : ∃ u, PySem.W.nsIn K (He.ga K "SIZES") (gName_ nx) = some (some u) ∧ RelV (.int 3) u := by
  cases nx with
  | true => exact T.sz_next
  | false => exact T.sz_gen
theorem c_check_game (T : Txt w K mg) : Cal P w K mg base 5 "check_game" spChkGame [] := by
  refine T.f_check_game.cal sc_check_game (fun _ _ _ _ _ _ us hl => match us, hl with | [_], _ => rfl) (fun vs H Q E h => ?_) (fun f cdv A outer s H vs Q E hr h => ?_)
  · obtain ⟨nx, real, a, g, rows, n, m, rfl, _⟩ := h
    rfl
  obtain ⟨nx, real, a, g, rows, n, m, rfl, g1, G, q⟩ := h
  obtain ⟨es, nn, D⟩ := T.d_SIZES
  obtain ⟨u, u1, u2⟩ := sizes T nx
  refine ⟨_, pss_cons (ps_if (PW.pt (pw_or (pt_not (pt_val (pe_callB call_isi rfl T.b_isinstance (by decide +kernel) (pa_cons (pv 0) (pa_cons (pe_ty "tuple" T.b_tuple (by decide +kernel)) pa_nil))))) (pw_or (pt_cmpR op_eq (pe_callB call_len_seq rfl T.b_len PySem.boot_len (pa_cons (pv 0) pa_nil)) pe_int (nomark _)) (pw_or (pt_not (pt_val (pe_callB call_isi rfl T.b_isinstance (by decide +kernel) (pa_cons (pe_ix ix_tup (pv 0) pe_int (fun _ _ => rfl)) (pa_cons (pe_ty "str" T.b_str (by decide +kernel)) pa_nil))))) (pw_or1 (pt_cmpR (op_notIn_kd D) (pe_ix ix_tup (pv 0) pe_int (fun _ _ => rfl)) (pe_gr T.g_SIZES) rfl)))))) (pss_one ps_never) pss_nil)
      (pss_one (ps_if (PW.pt (pw_or (pt_cmpR op_ne (pe_callB call_len_seq rfl T.b_len PySem.boot_len (pa_cons (pv 0) pa_nil)) (pe_ix ix_kdict (pe_gr T.g_SIZES) (pe_ix ix_tup (pv 0) pe_int (fun _ _ => rfl)) (fun _ _ => rfl)) (nomark _)) (pw_or1 (pt_not (pt_val (pe_c (c_is_right T) hr (by decide) rfl (pa_cons (pv 0) pa_nil))))))) (pss_one ps_never) pss_nil)), ?_⟩
  have g1' : H a = some (.tup [.str (gName_ nx), .ref g, .bl real]) := g1
  refine ⟨_, rfl, _, _, _, _, true, rfl, .ty _, .base (.tup g1'), kit_ty (by decide +kernel), _, rfl, iteF ?_⟩
  refine ⟨_, rfl, a, _, rfl, .inr (SqT.of g1'), rfl, _, rfl, iteDF (by show ¬ V.int (3 : Nat) = V.int 0; decide) ?_⟩
  refine ⟨_, rfl, a, _, 0, _, rfl, rfl, SqT.of g1', rfl, _, _, _, _, true, rfl, .ty _, .base (.str _), kit_ty (by decide +kernel), _, rfl, iteF ?_⟩
  refine ⟨_, rfl, a, _, 0, _, rfl, rfl, SqT.of g1', rfl, _, some u, rfl, rfl, u1, _, rfl, iteF ?_⟩
  refine ⟨_, rfl, a, _, rfl, .inr (SqT.of g1'), _, rfl, a, _, 0, _, rfl, rfl, SqT.of g1', rfl, _, _, .int 3, rfl, rfl, ⟨es, nn, u, D.at_, D.lit, u1, u2⟩, rfl, _, rfl, iteNS rfl ?_⟩
  exact ⟨_, rfl, nx, real, a, g, rows, n, m, rfl, g1, G, fun H2 s2 => ⟨_, rfl, iteF (q _ s2)⟩⟩
end
end NX
namespace NX
open PySem PySem.Spec PyProof.Rows L2
open C8 (Cal Met Mak pe_c pe_mk pe_mt pe_mt0)
theorem rep_zero : ∀ k, k ≤ 3 → Txt.mul ("0" : Str) ((k : Nat) : Int) = S (List.replicate k false)
  | 0, _ => by decide +kernel
  | 1, _ => by decide +kernel
  | 2, _ => by decide +kernel
  | 3, _ => by decide +kernel
  | k + 4, h => by omega
theorem rep_ok (k : Nat) (h : k ≤ 3) : MulOk ("0" : Str) ((k : Nat) : Int) := by
  have h2 : k = 0 ∨ k = 1 ∨ k = 2 ∨ k = 3 := by omega
  rcases h2 with rfl | rfl | rfl | rfl <;> (unfold MulOk; decide +kernel)
section
variable {P : Program} {w : World} {K : PySem.W.Frag} {mg : Str → Option Value} {base : Heap}
def spPrefC : Sp := fun vs H Q _ => ∃ (y : Bs) (i : Nat), vs = [.str (S y), .int (i : Int)] ∧ i < y.length ∧ y.length ≤ 3 ∧ Q (.str (S (prefC y i))) H
abbrev N_prefix_challenge : List Str := ["string", "i"]
abbrev P_prefix_challenge : List Str := ["string", "i"]
theorem sc_prefix_challenge : FnScope N_prefix_challenge P_prefix_challenge (defScope s_prefix_challenge) := ⟨rfl, rfl, rfl, by decide +kernel, rfl, by decide +kernel, by decide +kernel⟩
theorem c_prefix_challenge (T : Txt w K mg) : Cal P w K mg base 1 "prefix_challenge" spPrefC [] := by
  refine T.f_prefix_challenge.cal sc_prefix_challenge (fun _ _ _ _ _ _ us hl => match us, hl with | [_, _], _ => rfl) (fun vs H Q E h => ?_) (fun f cdv A outer s H vs Q E hr h => ?_)
  · obtain ⟨y, i, rfl, _⟩ := h
    rfl
  obtain ⟨y, i, rfl, hi, h3, q⟩ := h
  refine ⟨_, pss_one (ps_ret (pe_op op_add_str (pe_op op_add_str (pe_slice sl_str (pv 0) po_none (po_some (pv 1))) pe_str) (pe_op op_repS pe_str (pe_op op_sub (pe_op op_sub (pe_callB call_len_str rfl T.b_len PySem.boot_len (pa_cons (pv 0) pa_nil)) pe_int) (pv 1))))), ?_⟩
  have e1 : (((S y).length : Nat) : Int) - 1 - (i : Int) = ((y.length - 1 - i : Nat) : Int) := by rw [S_len]; omega
  have lt : (y.take i).length = i := by rw [List.length_take]; omega
  refine ⟨_, rfl, _, rfl, _, rfl, _, rfl, (by rw [S_len]; exact sl (by omega)), ?_⟩
  rw [S_take, S_one]
  refine ⟨_, _, rfl, rfl, (by rw [S_len, S_len, lt]; exact sl (by show i + 1 ≤ _; omega)), ?_⟩
  rw [S_app]
  refine ⟨_, rfl, _, rfl, (by rw [S_len]; exact sl (by omega)), _, _, rfl, rfl, _, rfl, _, _, rfl, rfl, ?_⟩
  refine ⟨_, ((y.length - 1 - i : Nat) : Int), rfl, congrArg V.int e1, rep_ok _ (by omega), ?_⟩
  rw [rep_zero _ (by omega)]
  refine ⟨_, _, rfl, rfl, (by rw [S_len, S_len, List.length_append, lt, List.length_replicate]; exact sl (by show i + 1 + _ ≤ _; omega)), ?_⟩
  rw [S_app]
  have e2 : y.take i ++ [true] ++ List.replicate (y.length - 1 - i) false = prefC y i := by simp [prefC]
  rw [e2]
  exact q
def spCover (K : PySem.W.Frag) : Sp := fun vs H Q _ => ∃ (M : Addr → Prop) (tp dl g : Addr) (cs : List Nat) (ds : List (Nat × Nat)) (rows : List Bs) (n m : Nat) (real : Bool), vs = [.ref tp, .ref g, .bl real] ∧ GenAt H g rows n m ∧ TapeAt K M H tp dl cs ds ∧ ds.length ≤ 1000 ∧ cs.length ≤ 1000 ∧ (coverT rows n m real).Ok (cs.drop ds.length) ∧
  ∀ H', Kp (fun b => b = dl) H H' → TapeAt K M H' tp dl cs (ds ++ ((coverT rows n m real).run (cs.drop ds.length)).2) → ((coverT rows n m real).run (cs.drop ds.length)).1.length = m → Q (.str (S ((coverT rows n m real).run (cs.drop ds.length)).1)) H'
theorem GenAt.kp {M : Addr → Prop} {H H' : Hp} {a : Addr} {rows : List Bs} {n m : Nat} (g : GenAt H a rows n m) (k : Kp M H H') (ml : Ml M H) : GenAt H' a rows n m := by
  obtain ⟨r, h1, h2⟩ := g.at_
  exact ⟨⟨r, k.tup ml h1, k.tup ml h2⟩, g.hl, g.hm, g.n1, g.n2, g.m1, g.m3⟩
abbrev N_cover : List Str := ["tape", "block", "real"]
abbrev P_cover : List Str := ["tape", "block", "real"]
theorem sc_cover : FnScope N_cover P_cover (defScope s_cover) := ⟨rfl, rfl, rfl, by decide +kernel, rfl, by decide +kernel, by decide +kernel⟩
theorem c_cover (T : Txt w K mg) : Cal P w K mg base 3 "cover" (spCover K) [] := by
  refine T.f_cover.cal sc_cover (fun _ _ _ _ _ _ us hl => match us, hl with | [_, _, _], _ => rfl) (fun vs H Q E h => ?_) (fun f cdv A outer s H vs Q E hr h => ?_)
  · obtain ⟨M, tp, dl, g, cs, ds, rows, n, m, real, rfl, _⟩ := h
    rfl
  obtain ⟨M, tp, dl, g, cs, ds, rows, n, m, real, rfl, G, TA, hds, hcs, hok, q⟩ := h
  obtain ⟨r, g1, g2⟩ := G.at_
  obtain ⟨tdx, tcl, tts, t1, t2, t3, t4, _⟩ := TA.ex
  have m1 : Ml (fun b => b = dl) H := Ml.one t4
  have gn := G.n2
  have gm := G.m3
  refine ⟨_, pss_cons (ps_if (pt_val (pv 2)) (pss_one (ps_ret (pe_c (c_row_at T) hr (by decide) rfl (pa_cons (pv 1) (pa_cons (pe_mt (c_string T) hr (by decide) (pv 0) (pa_cons (pe_ix ix_tup (pv 1) pe_int (fun _ _ => rfl)) pa_nil)) pa_nil))))) pss_nil)
      (pss_one (ps_ret (pe_mt (c_string T) hr (by decide) (pv 0) (pa_cons (pe_ix ix_tup (pv 1) pe_int (fun _ _ => rfl)) pa_nil)))), ?_⟩
  cases real with
  | true =>
    have ok1 := hok.1
    refine ⟨_, rfl, _, rfl, iteT ?_⟩
    refine ⟨_, rfl, _, rfl, tp, tdx, _, rfl, t1, lkN kTape, _, rfl, g, _, 1, _, rfl, rfl, SqT.of g1, rfl, M, tp, dl, cs, ds, n, rfl, TA, hds, hcs, by omega, ok1, fun H1 k1 TA1 => ?_⟩
    have lt : (cs.drop ds.length).headD 0 < rows.length := by rw [G.hl]; exact ok1
    have ey : rows[numOf (bitsOf n ((cs.drop ds.length).headD 0))]? = some (rows.getD ((cs.drop ds.length).headD 0) []) := by
      rw [numOf_bits _ _ ok1, List.getD_eq_getElem?_getD, List.getElem?_eq_getElem lt]
      rfl
    refine ⟨g, rows, n, m, _, _, rfl, G.kp k1 m1, ey, fun H2 s2 => q H2 (k1.trans (.of_same s2)) (TA1.same s2) ?_⟩
    refine G.hm _ ?_
    show rows.getD ((cs.drop ds.length).headD 0) [] ∈ rows
    rw [List.getD_eq_getElem?_getD, List.getElem?_eq_getElem lt]
    exact List.getElem_mem lt
  | false =>
    have ok1 := hok.1
    refine ⟨_, rfl, _, rfl, iteF ?_⟩
    refine ⟨_, rfl, tp, tdx, _, rfl, t1, lkN kTape, _, rfl, g, _, 2, _, rfl, rfl, SqT.of g1, rfl, M, tp, dl, cs, ds, m, rfl, TA, hds, hcs, by omega, ok1, fun H1 k1 TA1 => q H1 k1 TA1 (bitsOf_len _ _)⟩
/-! ### Play -/
/-- all but N stands as it stood -/
def Fr (N : Addr → Prop) (H H' : Hp) : Prop := ∀ b o, H b = some o → ¬ N b → H' b = some o
theorem Fr.refl (N : Addr → Prop) (H : Hp) : Fr N H H := fun _ _ h _ => h
theorem Fr.trans {N : Addr → Prop} {H H1 H2 : Hp} (a : Fr N H H1) (b : Fr N H1 H2) : Fr N H H2 := fun c o h n => b c o (a c o h n) n
theorem Fr.of_same {N : Addr → Prop} {H H' : Hp} (s : Same H H') : Fr N H H' := fun b o h _ => s b o h
theorem Fr.mono {M N : Addr → Prop} {H H' : Hp} (a : Fr M H H') (h : ∀ b, M b → N b) : Fr N H H' := fun b o q n => a b o q fun m => n (h b m)
theorem Fr.upd {N : Addr → Prop} {H : Hp} {x : Addr} {o : HO} (m : N x) : Fr N H (upd H x o) := fun b u h n => by rw [upd_ne (fun e : b = x => n (by rw [e]; exact m))]; exact h
theorem Kp.fr {M : Addr → Prop} {H H' : Hp} (k : Kp M H H') : Fr M H H' := fun b o h n => k.keep b o h n
/-- what is written is new -/
theorem Fr.same {N : Addr → Prop} {H0 H H' : Hp} (a : Fr N H H') (s : Same H0 H) (h : ∀ b, N b → H0 b = none) : Same H0 H' := fun b o q => a b o (s b o q) fun n => by rw [h b n] at q; cases q
abbrev playF (o s d a : V) : List (Str × V) := [("outcome", o), ("said", s), ("draws", d), ("asked", a)]
def spPlayInit (K : PySem.W.Frag) : Sp := fun vs H Q _ => ∃ (x dx : Addr) (o s d a : V), vs = [.ref x, o, s, d, a] ∧ H x = some (.ins (He.ga K "Play") dx []) ∧
  ∀ H', Fr (fun b => b = x) H H' → H' x = some (.ins (He.ga K "Play") dx (playF o s d a)) → Q .non H'
abbrev N_Play_init : List Str := ["self", "outcome", "said", "draws", "asked"]
abbrev P_Play_init : List Str := ["self", "outcome", "said", "draws", "asked"]
theorem sc_Play_init : FnScope N_Play_init P_Play_init (defScope s_Play_init) := ⟨rfl, rfl, rfl, by decide +kernel, rfl, by decide +kernel, by decide +kernel⟩
theorem c_Play_init (T : Txt w K mg) : Mak P w K mg base 1 "Play" (He.ga K "Play") (spPlayInit K) [] := by
  refine T.i_Play.mak sc_Play_init (fun _ _ _ _ _ _ us hl => match us, hl with | [_, _, _, _, _], _ => rfl) (fun vs H Q E h => ?_) (fun f cdv A outer s H vs Q E hr h => ?_)
  · obtain ⟨x, dx, o, s, d, a, rfl, _⟩ := h
    rfl
  obtain ⟨x, dx, o, sd, d, a, rfl, hx, q⟩ := h
  refine ⟨_, pss_cons (ps_fld (pv 0) (pv 1) rfl)
      (pss_cons (ps_fld (pv 0) (pv 2) rfl)
      (pss_cons (ps_fld (pv 0) (pv 3) rfl)
      (pss_one (ps_fld (pv 0) (pv 4) rfl)))), ?_⟩
  refine ⟨_, rfl, _, rfl, x, _, dx, [], rfl, hx, T.cl_Play, T.n_Play_outcome, (by show 0 < 1000; decide), ?_⟩
  refine ⟨_, rfl, _, rfl, x, _, dx, _, rfl, upd_same, T.cl_Play, T.n_Play_said, (by show 1 < 1000; decide), ?_⟩
  rw [putF_new (f := "outcome") []]
  refine ⟨_, rfl, _, rfl, x, _, dx, _, rfl, upd_same, T.cl_Play, T.n_Play_draws, (by show 2 < 1000; decide), ?_⟩
  rw [putF_new (f := "said") ["outcome"]]
  refine ⟨_, rfl, _, rfl, x, _, dx, _, rfl, upd_same, T.cl_Play, T.n_Play_asked, (by show 3 < 1000; decide), ?_⟩
  rw [putF_new (f := "draws") ["outcome", "said"]]
  exact q _ ((((Fr.upd (N := fun b => b = x) rfl).trans (Fr.upd rfl)).trans (Fr.upd rfl)).trans (Fr.upd rfl)) (by rw [upd_same, putF_new (f := "asked") ["outcome", "said", "draws"]]; rfl)
/-! ### Table -/
abbrev tabF (a tp : Addr) (nx : Bool) (ch : Str) (si : Addr) (sec : V) : List (Str × V) := [("game", .ref a), ("tape", .ref tp), ("kind", .str (gName_ nx)), ("challenge", .str ch), ("world", .ref si), ("secret", sec)]
def tabT (nx : Bool) (rows : List Bs) (n m : Nat) (real : Bool) : Tr (Bs × Nat) := match nx with
  | true => .draw m fun i => (coverT rows n m real).bind fun y => .ret (y, i)
  | false => (coverT rows n m real).bind fun y => .ret (y, 0)
def chT (nx : Bool) (p : Bs × Nat) : Bs := match nx with
  | true => prefC p.1 p.2
  | false => p.1
def secT (nx : Bool) (p : Bs × Nat) : V := match nx with
  | true => .str (S [bitAt p.1 p.2])
  | false => .non
def wonT (nx : Bool) (p : Bs × Nat) (s : Bs) : Bool := match nx with
  | true => isOne s == bitAt p.1 p.2
  | false => isOne s
theorem TapeAt.ins {M : Addr → Prop} {H : Hp} {tp dl x C dx : Addr} {fs : List (Str × V)} {cs : List Nat} {ds : List (Nat × Nat)} {o : HO} (t : TapeAt K M H tp dl cs ds) (hx : H x = some (.ins C dx fs)) (hn : tp ≠ x) : TapeAt K M (upd H x o) tp dl cs ds := by
  obtain ⟨dx2, cl, ts, h1, h2, h3, h4, h5⟩ := t.ex
  refine ⟨⟨dx2, cl, ts, ?_, ?_, h3, ?_, h5.keep fun b xs z => ?_⟩, t.md⟩
  · rw [upd_ne hn]; exact h1
  · rw [upd_ne (ne_of h2 hx (by intro z; cases z))]; exact h2
  · rw [upd_ne (ne_of h4 hx (by intro z; cases z))]; exact h4
  · rw [upd_ne (ne_of z hx (by intro z; cases z))]; exact z
theorem TapeAt.ne {M : Addr → Prop} {H : Hp} {tp dl x C dx : Addr} {cs : List Nat} {ds : List (Nat × Nat)} {a b c d e f : Str × V} (t : TapeAt K M H tp dl cs ds) (hx : H x = some (.ins C dx [a, b, c, d, e, f])) : tp ≠ x := by
  obtain ⟨dx2, cl, ts, h1, _⟩ := t.ex
  exact ne_of h1 hx (by intro z; cases z)
theorem GenAt.ins {H : Hp} {g x C dx : Addr} {fs : List (Str × V)} {o : HO} {rows : List Bs} {n m : Nat} (G : GenAt H g rows n m) (hx : H x = some (.ins C dx fs)) : GenAt (upd H x o) g rows n m := by
  obtain ⟨r, h1, h2⟩ := G.at_
  exact ⟨⟨r, by rw [upd_ne (ne_of h1 hx (by intro z; cases z))]; exact h1, by rw [upd_ne (ne_of h2 hx (by intro z; cases z))]; exact h2⟩, G.hl, G.hm, G.n1, G.n2, G.m1, G.m3⟩
/-- what a table is when it has begun -/
structure TabAt (K : PySem.W.Frag) (H : Hp) (x a tp : Addr) (nx : Bool) (m : Nat) (p : Bs × Nat) : Prop where
  ex : ∃ dx si dsi, H x = some (.ins (He.ga K "Table") dx (tabF a tp nx (S (chT nx p)) si (secT nx p))) ∧ H si = some (.ins (He.ga K "Silent") dsi [])
  len : p.1.length = m
  lt : nx = true → p.2 < m
def spBegin (K : PySem.W.Frag) : Sp := fun vs H Q _ => ∃ (nx real : Bool) (x dx a tp dl g si dsi : Addr) (cs : List Nat) (ds : List (Nat × Nat)) (rows : List Bs) (n m : Nat), vs = [.ref x] ∧ H x = some (.ins (He.ga K "Table") dx (tabF a tp nx (S []) si .non)) ∧ H si = some (.ins (He.ga K "Silent") dsi []) ∧ GameAt H nx real g a ∧ GenAt H g rows n m ∧
  TapeAt K (fun b => b = dl) H tp dl cs ds ∧ ds.length ≤ 900 ∧ cs.length ≤ 1000 ∧ (tabT nx rows n m real).Ok (cs.drop ds.length) ∧
  ∀ H', Fr (fun b => b = x ∨ b = dl) H H' → TapeAt K (fun b => b = dl) H' tp dl cs (ds ++ ((tabT nx rows n m real).run (cs.drop ds.length)).2) → TabAt K H' x a tp nx m ((tabT nx rows n m real).run (cs.drop ds.length)).1 → Q .non H'
abbrev N_Table_begin_challenge : List Str := ["self", "game", "tape", "block", "row", "i", "string", "_", "strings", "rows", "x", "r"]
abbrev P_Table_begin_challenge : List Str := ["self"]
theorem sc_Table_begin_challenge : FnScope N_Table_begin_challenge P_Table_begin_challenge (defScope s_Table_begin_challenge) := ⟨rfl, rfl, rfl, by decide +kernel, rfl, by decide +kernel, by decide +kernel⟩
theorem c_begin (T : Txt w K mg) : Met P w K mg base 4 (He.ga K "Table") "begin_challenge" (spBegin K) [] := by
  refine T.m_Table_begin_challenge.met sc_Table_begin_challenge (fun _ _ _ _ _ _ us hl => match us, hl with | [_], _ => rfl) (fun vs H Q E h => ?_) (fun f cdv A outer s H vs Q E hr h => ?_)
  · obtain ⟨nx, real, x, dx, a, tp, dl, g, si, dsi, cs, ds, rows, n, m, rfl, _⟩ := h
    rfl
  obtain ⟨nx, real, x, dx, a, tp, dl, g, si, dsi, cs, ds, rows, n, m, rfl, hx, hsi, ga, G, TA, hds, hcs, hok, q⟩ := h
  have gm1 := G.m1
  have gm3 := G.m3
  obtain ⟨tdx, tcl, tts, t1, t2, t3, t4, _⟩ := TA.ex
  have ga' : H a = some (.tup [.str (gName_ nx), .ref g, .bl real]) := ga
  have nxd : x ≠ dl := fun e => by rw [e, t4] at hx; cases hx
  have ml : Ml (fun b => b = dl) H := Ml.one t4
  have ntx : tp ≠ x := TA.ne hx
  have nsx : si ≠ x := fun e => by
    rw [e, hx] at hsi
    have z := (HO.ins.inj (Option.some.inj hsi)).2.2
    cases z
  refine ⟨_, pss_cons (ps_asg (pe_tup (pa_cons (pe_fld (pv 0) rfl) (pa_cons (pe_fld (pv 0) rfl) (pa_cons (pe_ix ix_tup (pe_fld (pv 0) rfl) pe_int (fun _ _ => rfl)) pa_nil)))) (pg_tup rfl (pgs_cons (pg_name (i := 1) sc_Table_begin_challenge.nd rfl (.inl rfl)) (pgs_cons (pg_name (i := 2) sc_Table_begin_challenge.nd rfl (.inr rfl)) (pgs_cons (pg_name (i := 3) sc_Table_begin_challenge.nd rfl (.inr rfl)) pgs_nil)))))
      (pss_one (ps_if (pt_cmpR op_eq (pe_fld (pv 0) rfl) pe_str (nomark _)) (pss_one (ps_fld (pv 0) (pe_c (c_cover T) hr (by decide) rfl (pa_cons (pv 2) (pa_cons (pv 3) (pa_cons (pe_ix ix_tup (pv 1) pe_int (fun _ _ => rfl)) pa_nil)))) rfl)) (pss_one (ps_if (pt_cmpR op_eq (pe_fld (pv 0) rfl) pe_str (nomark _)) pss_never (pss_one (ps_if (pt_cmpR op_eq (pe_fld (pv 0) rfl) pe_str (nomark _)) pss_never (pss_one (ps_if (pt_cmpR op_eq (pe_fld (pv 0) rfl) pe_str (nomark _)) (pss_cons (ps_set (i := 5) sc_Table_begin_challenge.nd rfl (Or.inl rfl) (pe_mt (c_draw T) hr (by decide) (pv 2) (pa_cons (pe_ix ix_tup (pv 3) pe_int (fun _ _ => rfl)) pa_nil))) (pss_cons (ps_set (i := 6) sc_Table_begin_challenge.nd rfl (Or.inl rfl) (pe_c (c_cover T) hr (by decide) rfl (pa_cons (pv 2) (pa_cons (pv 3) (pa_cons (pe_ix ix_tup (pv 1) pe_int (fun _ _ => rfl)) pa_nil))))) (pss_cons (ps_fld (pv 0) (pe_c (c_prefix_challenge T) hr (by decide) rfl (pa_cons (pv 6) (pa_cons (pv 5) pa_nil))) rfl) (pss_one (ps_fld (pv 0) (pe_ix ix_str (pv 6) (pv 5) (fun _ _ => rfl)) rfl))))) pss_never)))))))), ?_⟩
  refine ⟨_, rfl, x, _, dx, _, .ref a, rfl, hx, T.cl_Table, T.n_Table_game, lk kTable 0, _, rfl, x, _, dx, _, .ref tp, rfl, hx, T.cl_Table, T.n_Table_tape, lk kTable 1, _, rfl, x, _, dx, _, .ref a, rfl, hx, T.cl_Table, T.n_Table_game, lk kTable 0, a, _, 1, _, rfl, rfl, SqT.of ga', rfl, (by show 3 ≤ sizeLine; decide), fun pt hpt => ⟨pt, _, rfl, SqT.of upd_same, rfl, _, _, rfl, _, _, rfl, _, _, rfl, rfl, ?_⟩⟩
  have s1 := same_new hpt (.tup [V.ref a, V.ref tp, V.ref g])
  generalize (upd H pt (.tup [V.ref a, V.ref tp, V.ref g])) = H0 at *
  replace q := fun H' (f : Fr (fun b => b = x ∨ b = dl) H0 H') => q H' ((Fr.of_same s1).trans f)
  replace hx := s1 _ _ hx
  replace hsi := s1 _ _ hsi
  replace ga' := s1 _ _ ga'
  replace G := G.same s1
  replace TA := TA.same s1
  replace t1 := s1 _ _ t1
  replace ml := ml.kp (.of_same s1)
  refine ⟨_, rfl, x, _, dx, _, .str (gName_ nx), rfl, hx, T.cl_Table, T.n_Table_kind, lk kTable 2, rfl, _, rfl, ?_⟩
  cases nx with
  | false =>
    refine iteDT (by decide) ?_
    simp only [tabT, run_ret] at q
    have ok1 := (Tr.ok_bind hok).1
    refine ⟨_, rfl, _, rfl, _, rfl, a, _, 2, _, rfl, rfl, SqT.of ga', rfl, _, tp, dl, g, cs, ds, rows, n, m, real, rfl, G, TA, by omega, hcs, ok1, fun H1 k1 TA1 l1 => ?_⟩
    have hx1 := k1.ins ml hx
    refine ⟨_, rfl, x, _, dx, _, rfl, hx1, T.cl_Table, T.n_Table_challenge, (by show 6 < 1000; decide), ?_⟩
    refine q _ ((k1.fr.mono fun _ z => .inr z).trans (Fr.upd (.inl rfl))) (TA1.ins hx1 ntx) ⟨⟨dx, si, dsi, ?_, ?_⟩, l1, fun z => nomatch z⟩
    · rw [upd_same]; exact congrArg (fun z => some (HO.ins _ dx z)) (putF_at kTable 3)
    · rw [upd_ne nsx]; exact k1.ins ml hsi
  | true =>
    refine iteDF (by decide) ?_
    refine ⟨_, rfl, x, _, dx, _, .str (gName_ true), rfl, hx, T.cl_Table, T.n_Table_kind, lk kTable 2, rfl, _, rfl, iteDF (by decide) ?_⟩
    refine ⟨_, rfl, x, _, dx, _, .str (gName_ true), rfl, hx, T.cl_Table, T.n_Table_kind, lk kTable 2, rfl, _, rfl, iteDF (by decide) ?_⟩
    refine ⟨_, rfl, x, _, dx, _, .str (gName_ true), rfl, hx, T.cl_Table, T.n_Table_kind, lk kTable 2, rfl, _, rfl, iteDT (by decide) ?_⟩
    obtain ⟨r, g1, g2⟩ := G.at_
    simp only [tabT, Tr.run, run_ret] at q
    obtain ⟨ok1, ok2⟩ := hok
    have ok3 := (Tr.ok_bind ok2).1
    refine ⟨_, rfl, tp, tdx, _, rfl, t1, lkN kTape, _, rfl, g, _, 2, _, rfl, rfl, SqT.of g1, rfl, _, tp, dl, cs, ds, m, rfl, TA, by omega, hcs, ok1, fun H1 k1 TA1 => ?_⟩
    generalize hv : (cs.drop ds.length).headD 0 = v at *
    refine ⟨_, rfl, _, rfl, _, rfl, a, _, 2, _, rfl, rfl, SqT.of (k1.tup ml ga'), rfl, _, tp, dl, g, cs, _, rows, n, m, real, rfl, G.kp k1 ml, TA1, by rw [List.length_append]; show ds.length + 1 ≤ 1000; omega, hcs, by rw [← drop_more]; exact ok3, fun H2 k2 TA2 l2 => ?_⟩
    rw [← drop_more] at l2
    have TA2' : TapeAt K (fun b => b = dl) H2 tp dl cs (ds ++ (v, m) :: ((coverT rows n m real).run (cs.drop ds.length).tail).2) := by
      rw [← drop_more, List.append_assoc] at TA2
      exact TA2
    rw [← drop_more]
    generalize hy : ((coverT rows n m real).run (cs.drop ds.length).tail).1 = y at *
    have k12 := k1.trans k2
    have hx2 := k12.ins ml hx
    refine ⟨_, rfl, _, rfl, y, v, rfl, by omega, by omega, _, rfl, x, _, dx, _, rfl, hx2, T.cl_Table, T.n_Table_challenge, (by show 6 < 1000; decide), ?_⟩
    rw [putF_at kTable 3]
    refine ⟨_, rfl, _, rfl, _, _, _, rfl, rfl, (by rw [S_len]; exact sl (by omega)), S_at (by omega), _, rfl, x, _, dx, _, rfl, upd_same, T.cl_Table, T.n_Table_secret, (by show 6 < 1000; decide), ?_⟩
    refine q _ (((k12.fr.mono fun _ z => .inr z).trans (Fr.upd (.inl rfl))).trans (Fr.upd (.inl rfl))) ((TA2'.ins hx2 ntx).ins upd_same ntx) ⟨⟨dx, si, dsi, ?_, ?_⟩, l2, fun _ => ok1⟩
    · rw [upd_same]; exact congrArg (fun z => some (HO.ins _ dx z)) (putF_at kTable 5)
    · rw [upd_ne nsx, upd_ne nsx]; exact k12.ins ml hsi
def spTabInit (K : PySem.W.Frag) : Sp := fun vs H Q _ => ∃ (nx real : Bool) (x dx a tp dl g : Addr) (cs : List Nat) (ds : List (Nat × Nat)) (rows : List Bs) (n m : Nat), vs = [.ref x, .ref a, .ref tp] ∧ H x = some (.ins (He.ga K "Table") dx []) ∧ GameAt H nx real g a ∧ GenAt H g rows n m ∧
  TapeAt K (fun b => b = dl) H tp dl cs ds ∧ ds.length ≤ 900 ∧ cs.length ≤ 1000 ∧ (tabT nx rows n m real).Ok (cs.drop ds.length) ∧
  ∀ H', Fr (fun b => b = x ∨ b = dl) H H' → TapeAt K (fun b => b = dl) H' tp dl cs (ds ++ ((tabT nx rows n m real).run (cs.drop ds.length)).2) → TabAt K H' x a tp nx m ((tabT nx rows n m real).run (cs.drop ds.length)).1 → Q .non H'
theorem TapeAt.ne0 {M : Addr → Prop} {H : Hp} {tp dl x C dx : Addr} {cs : List Nat} {ds : List (Nat × Nat)} (t : TapeAt K M H tp dl cs ds) (hx : H x = some (.ins C dx [])) : tp ≠ x := by
  obtain ⟨dx2, cl, ts, h1, _⟩ := t.ex
  exact ne_of h1 hx (by intro z; cases z)
abbrev N_Table_init : List Str := ["self", "game", "tape"]
abbrev P_Table_init : List Str := ["self", "game", "tape"]
theorem sc_Table_init : FnScope N_Table_init P_Table_init (defScope s_Table_init) := ⟨rfl, rfl, rfl, by decide +kernel, rfl, by decide +kernel, by decide +kernel⟩
theorem c_Table_init (T : Txt w K mg) : Mak P w K mg base 5 "Table" (He.ga K "Table") (spTabInit K) [] := by
  refine T.i_Table.mak sc_Table_init (fun _ _ _ _ _ _ us hl => match us, hl with | [_, _, _], _ => rfl) (fun vs H Q E h => ?_) (fun f cdv A outer s H vs Q E hr h => ?_)
  · obtain ⟨nx, real, x, dx, a, tp, dl, g, cs, ds, rows, n, m, rfl, _⟩ := h
    rfl
  obtain ⟨nx, real, x, dx, a, tp, dl, g, cs, ds, rows, n, m, rfl, hx, ga, G, TA, hds, hcs, hok, q⟩ := h
  have ga' : H a = some (.tup [.str (gName_ nx), .ref g, .bl real]) := ga
  have ntx : tp ≠ x := TA.ne0 hx
  have nax : a ≠ x := ne_of ga' hx (by intro z; cases z)
  refine ⟨_, pss_cons (ps_fld (pv 0) (pv 1) rfl)
      (pss_cons (ps_fld (pv 0) (pv 2) rfl)
      (pss_cons (ps_fld (pv 0) (pe_ix ix_tup (pv 1) pe_int (fun _ _ => rfl)) rfl)
      (pss_cons (ps_fld (pv 0) pe_str rfl)
      (pss_cons (ps_fld (pv 0) (pe_new0 T.mk_Silent T.in_Silent T.k_Silent T.g_Silent) rfl)
      (pss_cons (ps_fld (pv 0) pe_non rfl)
      (pss_one (ps_if (pt_cmpR op_in_seq (pe_fld (pv 0) rfl) (pe_tup (pa_cons pe_str (pa_cons pe_str (pa_cons pe_str (pa_cons pe_str (pa_cons pe_str pa_nil)))))) rfl) pss_never (pss_one (ps_expr (pe_mt0 (c_begin T) hr (by decide) (pv 0))))))))))), ?_⟩
  refine ⟨_, rfl, _, rfl, x, _, dx, [], rfl, hx, T.cl_Table, T.n_Table_game, (by show 0 < 1000; decide), ?_⟩
  rw [putF_new (f := "game") []]
  refine ⟨_, rfl, _, rfl, x, _, dx, _, rfl, upd_same, T.cl_Table, T.n_Table_tape, (by show 1 < 1000; decide), ?_⟩
  rw [putF_new (f := "tape") ["game"]]
  refine ⟨_, rfl, a, _, 0, _, rfl, rfl, SqT.of (by rw [upd_ne nax, upd_ne nax]; exact ga'), rfl, _, rfl, x, _, dx, _, rfl, upd_same, T.cl_Table, T.n_Table_kind, (by show 2 < 1000; decide), ?_⟩
  rw [putF_new (f := "kind") ["game", "tape"]]
  refine ⟨_, rfl, x, _, dx, _, rfl, upd_same, T.cl_Table, T.n_Table_challenge, (by show 3 < 1000; decide), fun si dsi nsi ndsi nes => ?_⟩
  rw [putF_new (f := "challenge") ["game", "tape", "kind"]] at nsi ndsi ⊢
  have f1 : Fr (fun b => b = x) H (upd (upd (upd (upd H x (.ins (He.ga K "Table") dx ([] ++ [(("game" : Str), V.ref a)]))) x (.ins (He.ga K "Table") dx ([] ++ [(("game" : Str), V.ref a)] ++ [(("tape" : Str), V.ref tp)]))) x (.ins (He.ga K "Table") dx ([] ++ [(("game" : Str), V.ref a)] ++ [(("tape" : Str), V.ref tp)] ++ [(("kind" : Str), V.str (gName_ nx))]))) x (.ins (He.ga K "Table") dx ([] ++ [(("game" : Str), V.ref a)] ++ [(("tape" : Str), V.ref tp)] ++ [(("kind" : Str), V.str (gName_ nx))] ++ [(("challenge" : Str), V.str (S []))]))) :=
    (((Fr.upd (N := fun b => b = x) rfl).trans (Fr.upd rfl)).trans (Fr.upd rfl)).trans (Fr.upd rfl)
  have TA1 := (((TA.ins (o := .ins (He.ga K "Table") dx ([] ++ [(("game" : Str), V.ref a)])) hx ntx).ins (o := .ins (He.ga K "Table") dx ([] ++ [(("game" : Str), V.ref a)] ++ [(("tape" : Str), V.ref tp)])) upd_same ntx).ins (o := .ins (He.ga K "Table") dx ([] ++ [(("game" : Str), V.ref a)] ++ [(("tape" : Str), V.ref tp)] ++ [(("kind" : Str), V.str (gName_ nx))])) upd_same ntx).ins (o := .ins (He.ga K "Table") dx ([] ++ [(("game" : Str), V.ref a)] ++ [(("tape" : Str), V.ref tp)] ++ [(("kind" : Str), V.str (gName_ nx))] ++ [(("challenge" : Str), V.str (S []))])) upd_same ntx
  have G1 := (((G.ins (o := .ins (He.ga K "Table") dx ([] ++ [(("game" : Str), V.ref a)])) hx).ins (o := .ins (He.ga K "Table") dx ([] ++ [(("game" : Str), V.ref a)] ++ [(("tape" : Str), V.ref tp)])) upd_same).ins (o := .ins (He.ga K "Table") dx ([] ++ [(("game" : Str), V.ref a)] ++ [(("tape" : Str), V.ref tp)] ++ [(("kind" : Str), V.str (gName_ nx))])) upd_same).ins (o := .ins (He.ga K "Table") dx ([] ++ [(("game" : Str), V.ref a)] ++ [(("tape" : Str), V.ref tp)] ++ [(("kind" : Str), V.str (gName_ nx))] ++ [(("challenge" : Str), V.str (S []))])) upd_same
  have hx1 : (upd (upd (upd (upd H x (.ins (He.ga K "Table") dx ([] ++ [(("game" : Str), V.ref a)]))) x (.ins (He.ga K "Table") dx ([] ++ [(("game" : Str), V.ref a)] ++ [(("tape" : Str), V.ref tp)]))) x (.ins (He.ga K "Table") dx ([] ++ [(("game" : Str), V.ref a)] ++ [(("tape" : Str), V.ref tp)] ++ [(("kind" : Str), V.str (gName_ nx))]))) x (.ins (He.ga K "Table") dx ([] ++ [(("game" : Str), V.ref a)] ++ [(("tape" : Str), V.ref tp)] ++ [(("kind" : Str), V.str (gName_ nx))] ++ [(("challenge" : Str), V.str (S []))]))) x = some (.ins (He.ga K "Table") dx ([] ++ [(("game" : Str), V.ref a)] ++ [(("tape" : Str), V.ref tp)] ++ [(("kind" : Str), V.str (gName_ nx))] ++ [(("challenge" : Str), V.str (S []))])) := upd_same
  rw [S_nil] at nsi ndsi ⊢
  generalize (upd (upd (upd (upd H x (.ins (He.ga K "Table") dx ([] ++ [(("game" : Str), V.ref a)]))) x (.ins (He.ga K "Table") dx ([] ++ [(("game" : Str), V.ref a)] ++ [(("tape" : Str), V.ref tp)]))) x (.ins (He.ga K "Table") dx ([] ++ [(("game" : Str), V.ref a)] ++ [(("tape" : Str), V.ref tp)] ++ [(("kind" : Str), V.str (gName_ nx))]))) x (.ins (He.ga K "Table") dx ([] ++ [(("game" : Str), V.ref a)] ++ [(("tape" : Str), V.ref tp)] ++ [(("kind" : Str), V.str (gName_ nx))] ++ [(("challenge" : Str), V.str (S []))]))) = H1 at *
  have nxs : x ≠ si := ne_of_none hx1 nsi
  have nxds : x ≠ dsi := ne_of_none hx1 ndsi
  have s2 : Same H1 (upd (upd H1 dsi (.own si)) si (.ins (He.ga K "Silent") dsi [])) := (same_new ndsi _).mut nsi _
  have hs2 : (upd (upd H1 dsi (.own si)) si (.ins (He.ga K "Silent") dsi [])) si = some (.ins (He.ga K "Silent") dsi []) := upd_same
  generalize (upd (upd H1 dsi (.own si)) si (.ins (He.ga K "Silent") dsi [])) = H2 at *
  have hx2 := s2 _ _ hx1
  refine ⟨_, rfl, x, _, dx, _, rfl, hx2, T.cl_Table, T.n_Table_world, (by show 4 < 1000; decide), ?_⟩
  rw [putF_new (f := "world") ["game", "tape", "kind", "challenge"]]
  refine ⟨_, rfl, x, _, dx, _, rfl, upd_same, T.cl_Table, T.n_Table_secret, (by show 5 < 1000; decide), ?_⟩
  rw [putF_new (f := "secret") ["game", "tape", "kind", "challenge", "world"]]
  refine ⟨_, rfl, x, _, dx, _, .str (gName_ nx), rfl, upd_same, T.cl_Table, T.n_Table_kind, lk kTable 2, (by show 5 ≤ sizeLine; decide), fun pt hpt => ⟨pt, _, rfl, .inr (SqT.of upd_same), rfl, rfl, _, rfl, ite2 (fun c => absurd c (by cases nx <;> decide +kernel)) fun _ => ?_⟩⟩
  have TA3 := ((TA1.same s2).ins (o := .ins (He.ga K "Table") dx (([] ++ [(("game" : Str), V.ref a)] ++ [(("tape" : Str), V.ref tp)] ++ [(("kind" : Str), V.str (gName_ nx))] ++ [(("challenge" : Str), V.str (S []))]) ++ [(("world" : Str), V.ref si)])) hx2 ntx).ins (o := .ins (He.ga K "Table") dx (([] ++ [(("game" : Str), V.ref a)] ++ [(("tape" : Str), V.ref tp)] ++ [(("kind" : Str), V.str (gName_ nx))] ++ [(("challenge" : Str), V.str (S []))]) ++ [(("world" : Str), V.ref si)] ++ [(("secret" : Str), V.non)])) upd_same ntx
  have G3 := ((G1.same s2).ins (o := .ins (He.ga K "Table") dx (([] ++ [(("game" : Str), V.ref a)] ++ [(("tape" : Str), V.ref tp)] ++ [(("kind" : Str), V.str (gName_ nx))] ++ [(("challenge" : Str), V.str (S []))]) ++ [(("world" : Str), V.ref si)])) hx2).ins (o := .ins (He.ga K "Table") dx (([] ++ [(("game" : Str), V.ref a)] ++ [(("tape" : Str), V.ref tp)] ++ [(("kind" : Str), V.str (gName_ nx))] ++ [(("challenge" : Str), V.str (S []))]) ++ [(("world" : Str), V.ref si)] ++ [(("secret" : Str), V.non)])) upd_same
  have s4 := same_new hpt (.tup [V.str "permutation", V.str "swaps", V.str "function", V.str "marks", V.str "secrets"])
  have f3 : Fr (fun b => b = x) H2 _ := (Fr.upd (N := fun b => b = x) (o := .ins (He.ga K "Table") dx (([] ++ [(("game" : Str), V.ref a)] ++ [(("tape" : Str), V.ref tp)] ++ [(("kind" : Str), V.str (gName_ nx))] ++ [(("challenge" : Str), V.str (S []))]) ++ [(("world" : Str), V.ref si)])) rfl).trans (Fr.upd (o := .ins (He.ga K "Table") dx (([] ++ [(("game" : Str), V.ref a)] ++ [(("tape" : Str), V.ref tp)] ++ [(("kind" : Str), V.str (gName_ nx))] ++ [(("challenge" : Str), V.str (S []))]) ++ [(("world" : Str), V.ref si)] ++ [(("secret" : Str), V.non)])) rfl)
  have f4 : Fr (fun b => b = x) H _ := ((f1.trans (Fr.of_same s2)).trans f3).trans (Fr.of_same s4)
  refine ⟨_, rfl, x, dx, _, rfl, s4 _ _ upd_same, lkN kTable, nx, real, x, dx, a, tp, dl, g, si, dsi, cs, ds, rows, n, m, rfl, s4 _ _ upd_same, s4 _ _ ?_, ?_, G3.same s4, TA3.same s4, hds, hcs, hok, fun H' f TA' TB' => q H' ((f4.mono fun _ z => .inl z).trans f) TA' TB'⟩
  · rw [upd_ne nxs.symm, upd_ne nxs.symm]; exact hs2
  · exact f4 _ _ ga' nax
def spWon (K : PySem.W.Frag) : Sp := fun vs H Q _ => ∃ (nx : Bool) (x a tp : Addr) (m : Nat) (p : Bs × Nat) (said : Bs) (av : V), vs = [.ref x, .str (S said), av] ∧ TabAt K H x a tp nx m p ∧ Q (.bl (wonT nx p said)) H
theorem one_dec (a b : Bool) : decide (V.str (S [a]) = V.str (S [b])) = (a == b) := by rw [S_dec]; cases a <;> cases b <;> rfl
abbrev N_Table_has_won : List Str := ["self", "said", "asked", "block"]
abbrev P_Table_has_won : List Str := ["self", "said", "asked"]
theorem sc_Table_has_won : FnScope N_Table_has_won P_Table_has_won (defScope s_Table_has_won) := ⟨rfl, rfl, rfl, by decide +kernel, rfl, by decide +kernel, by decide +kernel⟩
theorem c_has_won (T : Txt w K mg) : Met P w K mg base 1 (He.ga K "Table") "has_won" (spWon K) [] := by
  refine T.m_Table_has_won.met sc_Table_has_won (fun _ _ _ _ _ _ us hl => match us, hl with | [_, _, _], _ => rfl) (fun vs H Q E h => ?_) (fun f cdv A outer s H vs Q E hr h => ?_)
  · obtain ⟨nx, x, a, tp, m, p, said, av, rfl, _⟩ := h
    rfl
  obtain ⟨nx, x, a, tp, m, p, said, av, rfl, ⟨⟨dx, si, dsi, hx, hsi⟩, _, _⟩, q⟩ := h
  refine ⟨_, pss_cons (ps_if (pt_cmpR op_eq (pe_fld (pv 0) rfl) pe_str (nomark _)) pss_never pss_nil)
      (pss_cons (ps_if (PW.pt (pw_or (pt_cmpR op_eq (pe_fld (pv 0) rfl) pe_str (nomark _)) (pw_or1 (pt_cmpR op_eq (pe_fld (pv 0) rfl) pe_str (nomark _))))) (pss_one (ps_ret (pe_cmpR op_eq (pe_ifExp (pt_cmpR op_eq (pv 1) pe_str (nomark _)) pe_str pe_str) (pe_fld (pv 0) rfl) (nomark _)))) pss_nil)
      (pss_cons (ps_if (pt_cmpR op_eq (pe_fld (pv 0) rfl) pe_str (nomark _)) pss_never pss_nil)
      (pss_cons (ps_if (pt_cmpR op_eq (pe_fld (pv 0) rfl) pe_str (nomark _)) pss_never pss_nil)
      (pss_one (ps_ret (pe_cmpR op_eq (pv 1) pe_str (nomark _))))))), ?_⟩
  refine ⟨_, rfl, x, _, dx, _, .str (gName_ nx), rfl, hx, T.cl_Table, T.n_Table_kind, lk kTable 2, rfl, _, rfl, iteDF (by cases nx <;> decide) ?_⟩
  cases nx with
  | true =>
    refine ⟨_, rfl, x, _, dx, _, .str (gName_ true), rfl, hx, T.cl_Table, T.n_Table_kind, lk kTable 2, rfl, _, rfl, iteDT (by decide) (iteT ?_)⟩
    refine ⟨_, rfl, rfl, _, rfl, ite_val (.str (S [isOne said])) H ?_ (fun c Q' k' => ?_) (fun c Q' k' => ?_)⟩
    · refine ⟨_, rfl, x, _, dx, _, .str (S [bitAt p.1 p.2]), rfl, hx, T.cl_Table, T.n_Table_secret, lk kTable 5, rfl, ?_⟩
      show Q (.bl (decide (V.str (S [isOne said]) = V.str (S [bitAt p.1 p.2])))) H
      rw [one_dec]
      exact q
    · have c1 : S said = S [true] := V.str.inj (of_decide_eq_true c)
      have c2 : isOne said = true := decide_eq_true (S_inj c1)
      rw [c2] at k'
      exact k'
    · have c1 : ¬ V.str (S said) = V.str (S [true]) := of_decide_eq_false c
      have c2 : isOne said = false := decide_eq_false fun e => c1 (by rw [e])
      rw [c2] at k'
      exact k'
  | false =>
    refine ⟨_, rfl, x, _, dx, _, .str (gName_ false), rfl, hx, T.cl_Table, T.n_Table_kind, lk kTable 2, rfl, _, rfl, iteDF (by decide) ?_⟩
    refine ⟨_, rfl, x, _, dx, _, .str (gName_ false), rfl, hx, T.cl_Table, T.n_Table_kind, lk kTable 2, rfl, _, rfl, iteDF (by decide) ?_⟩
    refine ⟨_, rfl, x, _, dx, _, .str (gName_ false), rfl, hx, T.cl_Table, T.n_Table_kind, lk kTable 2, rfl, _, rfl, iteDF (by decide) ?_⟩
    refine ⟨_, rfl, x, _, dx, _, .str (gName_ false), rfl, hx, T.cl_Table, T.n_Table_kind, lk kTable 2, rfl, _, rfl, iteDF (by decide) ?_⟩
    refine ⟨_, rfl, rfl, ?_⟩
    show Q (.bl (decide (V.str (S said) = V.str (S [true])))) H
    rw [S_dec]
    exact q
end
end NX
namespace NX
open PySem PySem.Spec PyProof.Rows L2
open C8 (Cal Met Mak pe_c pe_mk pe_mt pe_mt0)
/-- a game as a tree -/
def gameT (nx : Bool) (rows : List Bs) (n m : Nat) (real : Bool) (bt : Bs → Tr Bs) : Tr Bool := (tabT nx rows n m real).bind fun p => (bt (chT nx p)).bind fun s => .ret (wonT nx p s)
theorem gameT_next (rows : List Bs) (n m : Nat) (real : Bool) (bt : Bs → Tr Bs) : gameT true rows n m real bt = nextG rows n m real bt := by
  unfold gameT tabT nextG
  simp only [Tr.bind, bind_assoc]
  rfl
theorem gameT_gen (rows : List Bs) (n m : Nat) (real : Bool) (bt : Bs → Tr Bs) : gameT false rows n m real bt = genG rows n m real bt := by
  unfold gameT tabT genG
  simp only [bind_assoc, Tr.bind]
  rfl
theorem gameT_run (nx : Bool) (rows : List Bs) (n m : Nat) (real : Bool) (bt : Bs → Tr Bs) (cs : List Nat) :
    (gameT nx rows n m real bt).run cs = (wonT nx ((tabT nx rows n m real).run cs).1 ((bt (chT nx ((tabT nx rows n m real).run cs).1)).run (cs.drop ((tabT nx rows n m real).run cs).2.length)).1,
      ((tabT nx rows n m real).run cs).2 ++ ((bt (chT nx ((tabT nx rows n m real).run cs).1)).run (cs.drop ((tabT nx rows n m real).run cs).2.length)).2) := by
  unfold gameT
  rw [Tr.run_bind, run_ret]
theorem cover_len (rows : List Bs) (n m : Nat) (real : Bool) (cs : List Nat) : ((coverT rows n m real).run cs).2.length = 1 := by
  unfold coverT
  cases real <;> rfl
theorem tab_len (nx : Bool) (rows : List Bs) (n m : Nat) (real : Bool) (cs : List Nat) : ((tabT nx rows n m real).run cs).2.length ≤ 2 := by
  cases nx with
  | true =>
    simp only [tabT, Tr.run, run_ret, List.length_cons, cover_len]
    omega
  | false =>
    simp only [tabT, run_ret, cover_len]
    omega
section
variable {P : Program} {w : World} {K : PySem.W.Frag} {mg : Str → Option Value} {base : Heap}
theorem MkAt.keep {H H' : Hp} {mk : Bool} {m : Nat} {b : Br} {a : Addr} (h : MkAt H mk m b a) (k : ∀ b xs, H b = some (.tup xs) → H' b = some (.tup xs)) : MkAt H' mk m b a := by
  cases mk with
  | false => exact BrAt.keep k h
  | true =>
    obtain ⟨ba, h1, h2⟩ := h
    exact ⟨ba, k _ _ h1, BrAt.keep k h2⟩
theorem GenAt.keep {H H' : Hp} {a : Addr} {rows : List Bs} {n m : Nat} (g : GenAt H a rows n m) (k : ∀ b xs, H b = some (.tup xs) → H' b = some (.tup xs)) : GenAt H' a rows n m := by
  obtain ⟨r, h1, h2⟩ := g.at_
  exact ⟨⟨r, k _ _ h1, k _ _ h2⟩, g.hl, g.hm, g.n1, g.n2, g.m1, g.m3⟩
/-- new from H on -/
abbrev Nw (H : Hp) : Addr → Prop := fun b => H b = none
theorem Fr.toSame {H H' : Hp} (f : Fr (Nw H) H H') : Same H H' := fun b o q => f b o q fun n => by rw [show H b = none from n] at q; cases q
/-- what is new later was not there before -/
theorem Fr.nw {H H1 : Hp} (f : Fr (Nw H) H H1) {b : Addr} (h : H1 b = none) : H b = none := by
  cases q : H b with
  | none => rfl
  | some o =>
    have := f b o q (fun n => by rw [show H b = none from n] at q; cases q)
    rw [this] at h
    cases h
theorem upd_none {H : Hp} {p b : Addr} {o : HO} (h : upd H p o b = none) : H b = none := by
  by_cases e : b = p
  · subst e; rw [upd_same] at h; cases h
  · rw [upd_ne e] at h; exact h
/-- a play's outcome and draws -/
structure PlayAt (K : PySem.W.Frag) (H : Hp) (pl : Addr) (out : Bool) (ds : List (Nat × Nat)) : Prop where
  ex : ∃ dx sd dl av ts, H pl = some (.ins (He.ga K "Play") dx (playF (.int (if out then 1 else 0)) sd (.ref dl) av)) ∧ H dl = some (.lst (ts.map V.ref)) ∧ DrawsOk H ts ds
def spPlayed (K : PySem.W.Frag) : Sp := fun vs H Q _ => ∃ (nx real mk : Bool) (a g ba cl : Addr) (cs : List Nat) (rows : List Bs) (n m : Nat) (b : Br) (dp B : Nat), vs = [.ref a, .ref ba, .ref cl] ∧ GameAt H nx real g a ∧ GenAt H g rows n m ∧ MkAt H mk m b ba ∧ (mk = true → nx = true) ∧ b.Ok dp B ∧ dp ≤ 10 ∧
  H cl = some (.lst (cs.map fun (c : Nat) => V.int (c : Int))) ∧ cs.length ≤ 500 ∧ (gameT nx rows n m real (btT mk m b)).Ok cs ∧
  ∀ H' pl, Same H H' → PlayAt K H' pl ((gameT nx rows n m real (btT mk m b)).run cs).1 ((gameT nx rows n m real (btT mk m b)).run cs).2 → Q (.ref pl) H'
abbrev N_played : List Str := ["game", "breaker", "choices", "tape", "table", "notes", "said", "outcome"]
abbrev P_played : List Str := ["game", "breaker", "choices"]
theorem sc_played : FnScope N_played P_played (defScope s_played) := ⟨rfl, rfl, rfl, by decide +kernel, rfl, by decide +kernel, by decide +kernel⟩
theorem c_played (T : Txt w K mg) : Cal P w K mg base 7 "played" (spPlayed K) [] := by
  refine T.f_played.cal sc_played (fun _ _ _ _ _ _ us hl => match us, hl with | [_, _, _], _ => rfl) (fun vs H Q E h => ?_) (fun f cdv A outer s H vs Q E hr h => ?_)
  · obtain ⟨nx, real, mk, a, g, ba, cl, cs, rows, n, m, b, dp, B, rfl, _⟩ := h
    rfl
  obtain ⟨nx, real, mk, a, g, ba, c0, cs, rows, n, m, b, dp, B, rfl, ga, G, hb, hmk, ok, hdp, hc, hcs, hok, q⟩ := h
  rw [gameT_run] at q
  obtain ⟨ok1, ok2⟩ := Tr.ok_bind hok
  have ok3 := (Tr.ok_bind ok2).1
  have l12 := tab_len nx rows n m real cs
  have gm3 := G.m3
  refine ⟨_, pss_cons (ps_set (i := 3) sc_played.nd rfl (Or.inl rfl) (pe_mk (c_Tape_init T) hr (by decide) rfl (pa_cons (pv 2) pa_nil)))
      (pss_cons (ps_set (i := 4) sc_played.nd rfl (Or.inl rfl) (pe_mk (c_Table_init T) hr (by decide) rfl (pa_cons (pv 0) (pa_cons (pv 3) pa_nil))))
      (pss_cons (ps_set (i := 5) sc_played.nd rfl (Or.inl rfl) (pe_mk (c_Notes_init T) hr (by decide) rfl (pa_cons (pe_fld (pv 4) rfl) pa_nil)))
      (pss_cons (ps_set (i := 6) sc_played.nd rfl (Or.inl rfl) (pe_c (c_run_breaker T true mk) hr (by decide) rfl (pa_cons (pv 1) (pa_cons (pv 3) (pa_cons (pe_fld (pv 4) rfl) (pa_cons (pv 5) pa_nil))))))
      (pss_cons (ps_set (i := 7) sc_played.nd rfl (Or.inl rfl) (pe_callTy call_int1 rfl T.b_int (by decide +kernel) (pa_cons (pe_mt (c_has_won T) hr (by decide) (pv 4) (pa_cons (pv 6) (pa_cons (pe_fld (pv 5) rfl) pa_nil))) pa_nil)))
      (pss_one (ps_ret (pe_mk (c_Play_init T) hr (by decide) rfl (pa_cons (pv 7) (pa_cons (pv 6) (pa_cons (pe_fld (pv 3) rfl) (pa_cons (pe_fld (pv 5) rfl) pa_nil))))))))))), ?_⟩
  refine ⟨_, rfl, fun tp tdx ntp ntdx nne => ⟨tp, tdx, c0, cs, rfl, upd_same, ?_, by omega, fun chl dl H1 hch hdl ndc k1 e1 e2 e3 => ⟨rfl, ?_⟩⟩⟩
  · rw [upd_ne (ne_of_none hc ntp), upd_ne (ne_of_none hc ntdx)]; exact hc
  have f1 : Fr (Nw H) H H1 := fun b o h _ => k1.keep b o (show (if b = tp then none else _) = some o by rw [if_neg (ne_of_none h ntp), upd_ne (ne_of_none h ntp), upd_ne (ne_of_none h ntdx)]; exact h) (fun z => z)
  have ndl : H dl = none := upd_none (upd_none hdl)
  have TA1 : TapeAt K (fun b => b = dl) H1 tp dl cs [] := ⟨⟨tdx, chl, [], e1, e2, fun e => ndc e.symm, e3, ⟨rfl, fun i t d h => by simp at h⟩⟩, rfl⟩
  refine ⟨_, rfl, _, rfl, fun x dx nxx ndx nex => ?_⟩
  have s1 : Same H1 (upd (upd H1 dx (.own x)) x (.ins (He.ga K "Table") dx [])) := (same_new ndx _).mut nxx _
  have k1t : ∀ b xs, H b = some (.tup xs) → H1 b = some (.tup xs) := fun b xs z => f1 b _ z (fun n => by rw [show H b = none from n] at z; cases z)
  have hx1 : (upd (upd H1 dx (.own x)) x (.ins (He.ga K "Table") dx [])) x = some (.ins (He.ga K "Table") dx []) := upd_same
  have k1t' : ∀ b xs, H b = some (.tup xs) → (upd (upd H1 dx (.own x)) x (.ins (He.ga K "Table") dx [])) b = some (.tup xs) := fun b xs z => s1 _ _ (k1t b xs z)
  refine ⟨nx, real, x, dx, a, tp, dl, g, cs, [], rows, n, m, rfl, hx1, k1t' _ _ ga, G.keep k1t', TA1.same s1, Nat.zero_le _, by omega, ok1, fun H2 f2 TA2 TB2 => ⟨rfl, ?_⟩⟩
  simp only [List.length_nil, List.drop_zero, List.nil_append] at TA2 TB2
  have f2' : Fr (Nw H) H H2 := f1.trans ((Fr.of_same s1).trans (f2.mono (fun b z => by
    rcases z with rfl | rfl
    · exact f1.nw nxx
    · exact ndl)))
  obtain ⟨⟨dx2, si, dsi, hx2, hsi2⟩, p1, p2⟩ := TB2
  obtain ⟨tdx2, tcl, tts, t1, t2, t3, t4, t5⟩ := TA2.ex
  generalize hr1 : (tabT nx rows n m real).run cs = r1 at *
  obtain ⟨p, d1⟩ := r1
  simp only at *
  refine ⟨_, rfl, x, _, dx2, _, .ref si, rfl, hx2, T.cl_Table, T.n_Table_world, lk kTable 4, fun nt ndx2 nnt nndx nne2 => ⟨nt, ndx2, si, rfl, upd_same, fun al H3 hal f3 e4 e5 => ⟨rfl, ?_⟩⟩⟩
  have s3 : Same H2 H3 := fun b o h => f3 b o (by rw [upd_ne (ne_of_none h nnt), upd_ne (ne_of_none h nndx)]; exact h) (ne_of_none h nnt)
  have hal2 : H2 al = none := upd_none (upd_none hal)
  have nald : al ≠ dl := fun e => by rw [e, t4] at hal2; cases hal2
  have nMcl : ¬ (tcl = dl ∨ tcl = al) := fun z => by
    rcases z with z | z
    · exact t3 z
    · rw [z, hal2] at t2; cases t2
  have TA3 : TapeAt K (fun b => b = dl ∨ b = al) H3 tp dl cs d1 := ⟨⟨tdx2, tcl, tts, s3 _ _ t1, s3 _ _ t2, nMcl, s3 _ _ t4, t5.keep fun b xs z => s3 _ _ z⟩, .inl rfl⟩
  have hx3 := s3 _ _ hx2
  have WA3 : WAt K true (fun b => b = dl ∨ b = al) dl H3 nt 100 := ⟨ndx2, si, dsi, al, [], e4, s3 _ _ hsi2, e5, by show 0 + 100 ≤ 1000; decide, .inr rfl, nald⟩
  have ml3 : Ml (fun b => b = dl ∨ b = al) H3 := fun b z => by
    rcases z with rfl | rfl
    · exact ⟨_, s3 _ _ t4⟩
    · exact ⟨_, e5⟩
  have kt3 : ∀ b xs, H b = some (.tup xs) → H3 b = some (.tup xs) := fun b xs z => s3 _ _ (f2'.toSame _ _ z)
  have lch : (chT nx p).length = m := by
    cases nx with
    | false => exact p1
    | true => exact (prefC_len (by rw [p1]; exact p2 rfl)).trans p1
  have nch : NextCh mk m (chT nx p) := by
    cases mk with
    | false => exact trivial
    | true =>
      have e := hmk rfl
      subst e
      exact ⟨p.1, p.2, rfl, p1, p2 rfl, gm3⟩
  have lb : d1.length ≤ bnd mk := by
    cases mk
    · show d1.length ≤ 400; omega
    · show d1.length ≤ 100; omega
  refine ⟨_, rfl, _, rfl, _, rfl, x, _, dx2, _, .str (S (chT nx p)), rfl, hx3, T.cl_Table, T.n_Table_challenge, lk kTable 3, _, rfl, _, tp, dl, cs, d1, nt, ba, m, b, dp, B, chT nx p, rfl, hb.keep kt3, nch, ok, hdp, TA3, WA3, ml3, by omega, lb, hcs, ok3, fun H4 k4 TA4 => ?_⟩
  generalize hr2 : (btT mk m b (chT nx p)).run (cs.drop d1.length) = r2 at *
  obtain ⟨said, d2⟩ := r2
  simp only at *
  have hx4 := k4.ins ml3 hx3
  have hn4 := k4.ins ml3 e4
  refine ⟨_, rfl, x, dx2, _, rfl, hx4, lkN kTable, _, rfl, _, rfl, nt, _, ndx2, _, .ref al, rfl, hn4, T.cl_Notes, T.n_Notes_asked, lk kNotes 1, nx, x, a, tp, m, p, said, _, rfl, ⟨⟨dx2, si, dsi, hx4, k4.ins ml3 (s3 _ _ hsi2)⟩, p1, p2⟩, .inr ⟨_, rfl, ?_⟩⟩
  obtain ⟨tdx4, tcl4, tts4, u1, u2, u3, u4, u5⟩ := TA4.ex
  refine ⟨_, rfl, _, rfl, _, rfl, tp, _, tdx4, _, .ref dl, rfl, u1, T.cl_Tape, T.n_Tape_draws, lk kTape 1, _, rfl, nt, _, ndx2, _, .ref al, rfl, hn4, T.cl_Notes, T.n_Notes_asked, lk kNotes 1, fun pl pdx npl npdx nne3 => ⟨pl, pdx, _, _, _, _, rfl, upd_same, fun H6 f6 e6 => ⟨rfl, ?_⟩⟩⟩
  have s5 : Same H4 H6 := fun b o h => f6 b o (by rw [upd_ne (ne_of_none h npl), upd_ne (ne_of_none h npdx)]; exact h) (ne_of_none h npl)
  have f3' := f2'.trans (Fr.of_same s3)
  have f4 : Fr (Nw H) H H4 := f3'.trans (k4.fr.mono fun b z => by
    rcases z with rfl | rfl
    · exact ndl
    · exact f2'.nw hal2)
  exact q H6 pl (f4.toSame.trans s5) ⟨⟨pdx, _, dl, _, tts4, e6, s5 _ _ u4, u5.keep fun b xs z => s5 _ _ z⟩⟩
end
end NX
namespace NX
open PySem PySem.Spec PyProof.Rows L2
open C8 (Cal Met Mak pe_c pe_mk pe_mt pe_mt0)
/-- the tuple of a fraction in lowest terms -/
def RatAt (H : Hp) (p : Addr) (q : Rat) : Prop := H p = some (.tup [.int q.num, .int ((q.den : Nat) : Int)])
/-- small -/
def Sm (q : Rat) : Prop := q.num.natAbs < 2 ^ 500 ∧ q.den < 2 ^ 500
theorem Fz.sm {D K : Nat} {q : Rat} (h : Fz D K q) (hD : D < 2 ^ 500) (hK : K < 2 ^ 500) : Sm q := ⟨Nat.lt_of_le_of_lt h.num_le hK, Nat.lt_of_le_of_lt h.den_le hD⟩
theorem sm_mul {i j : Int} (h1 : i.natAbs < 2 ^ 500) (h2 : j.natAbs < 2 ^ 500) : CMulW i j := wide_mul h1 h2 (by decide) (by decide) (by decide)
theorem mul_8000 {a b : Nat} (h1 : a < 2 ^ 500) (h2 : b < 2 ^ 500) : a * b < 2 ^ 1000 := by
  have e : (2 : Nat) ^ 1000 = 2 ^ 500 * 2 ^ 500 := by rw [← Nat.pow_add]
  rw [e]
  exact Nat.mul_lt_mul_of_lt_of_le h1 (Nat.le_of_lt h2) (Nat.pow_pos (by decide))
theorem p1000 : (2 : Nat) ^ 1000 ≤ 2 ^ 8000 := Nat.pow_le_pow_right (by decide) (by decide)
section
variable {P : Program} {w : World} {K : PySem.W.Frag} {mg : Str → Option Value} {base : Heap}
def spFrac : Sp := fun vs H Q _ => ∃ (a : Int) (u : Nat), vs = [.int a, .int ((u : Nat) : Int)] ∧ 0 < u ∧ u < 2 ^ 8000 ∧ ∀ H' p, Same H H' → RatAt H' p (mkRat a u) → Q (.ref p) H'
abbrev N_fraction : List Str := ["numerator", "denominator", "divisor"]
abbrev P_fraction : List Str := ["numerator", "denominator"]
theorem sc_fraction : FnScope N_fraction P_fraction (defScope s_fraction) := ⟨rfl, rfl, rfl, by decide +kernel, rfl, by decide +kernel, by decide +kernel⟩
theorem c_fraction (T : Txt w K mg) : Cal P w K mg base 1 "fraction" spFrac [] := by
  refine T.f_fraction.cal sc_fraction (fun _ _ _ _ _ _ us hl => match us, hl with | [_, _], _ => rfl) (fun vs H Q E h => ?_) (fun f cdv A outer s H vs Q E hr h => ?_)
  · obtain ⟨a, u, rfl, _⟩ := h
    rfl
  obtain ⟨a, u, rfl, hu, hu8, q⟩ := h
  refine ⟨_, pss_cons (ps_set (i := 2) sc_fraction.nd rfl (Or.inl rfl) (pe_callBfun cr_gcd rfl T.g_gcd (pa_cons (pv 0) (pa_cons (pv 1) pa_nil))))
      (pss_cons (ps_if (pt_cmpR op_lt (pv 1) pe_int (nomark _)) (pss_one ps_never) pss_nil)
      (pss_one (ps_ret (pe_tup (pa_cons (pe_op op_fdivW (pv 0) (pv 2)) (pa_cons (pe_op op_fdivW (pv 1) (pv 2)) pa_nil)))))), ?_⟩
  have eg : Nat.gcd a.natAbs ((u : Nat) : Int).natAbs = Nat.gcd a.natAbs u := by rw [Int.natAbs_natCast]
  have g0 : 0 < Nat.gcd a.natAbs u := Nat.gcd_pos_of_pos_right _ hu
  have gl : Nat.gcd a.natAbs u < 2 ^ 8000 := Nat.lt_of_le_of_lt (Nat.gcd_le_right _ hu) hu8
  have cd : ∀ i : Int, CDivW i ((Nat.gcd a.natAbs u : Nat) : Int) := fun i => wide_div (by omega) (by rw [Int.natAbs_natCast]; exact gl) (by decide) (by decide)
  refine ⟨_, rfl, _, rfl, _, _, rfl, ?_⟩
  rw [eg]
  refine ⟨_, rfl, _, _, rfl, rfl, _, rfl, iteDF (by omega) ?_⟩
  refine ⟨_, rfl, _, rfl, _, _, rfl, rfl, cd _, _, rfl, _, rfl, _, _, rfl, rfl, cd _, (by show 2 ≤ sizeLine; decide), fun p hp => q _ p (same_new hp _) ?_⟩
  show upd H p _ p = _
  rw [upd_same, mk_num a hu, mk_den a hu]
def spAdd (f : Rat → Rat → Rat) : Sp := fun vs H Q _ => ∃ (p r : Addr) (a b : Rat), vs = [.ref p, .ref r] ∧ RatAt H p a ∧ RatAt H r b ∧ Sm a ∧ Sm b ∧ ∀ H' t, Same H H' → RatAt H' t (f a b) → Q (.ref t) H'
abbrev N_add : List Str := ["first", "second"]
abbrev P_add : List Str := ["first", "second"]
theorem sc_add : FnScope N_add P_add (defScope s_add) := ⟨rfl, rfl, rfl, by decide +kernel, rfl, by decide +kernel, by decide +kernel⟩
theorem sc_less : FnScope N_add P_add (defScope s_less) := ⟨rfl, rfl, rfl, by decide +kernel, rfl, by decide +kernel, by decide +kernel⟩
theorem den_pos (q : Rat) : 0 < q.den := Nat.pos_of_ne_zero q.den_nz
theorem c_add (T : Txt w K mg) : Cal P w K mg base 2 "add" (spAdd fun a b => a + b) [] := by
  refine T.f_add.cal sc_add (fun _ _ _ _ _ _ us hl => match us, hl with | [_, _], _ => rfl) (fun vs H Q E h => ?_) (fun f cdv A outer s H vs Q E hr h => ?_)
  · obtain ⟨p, r, a, b, rfl, _⟩ := h
    rfl
  obtain ⟨p, r, a, b, rfl, hp, hr1, ⟨a1, a2⟩, ⟨b1, b2⟩, q⟩ := h
  refine ⟨_, pss_one (ps_ret (pe_c (c_fraction T) hr (by decide) rfl (pa_cons (pe_op op_add (pe_op op_mulW (pe_ix ix_tup (pv 0) pe_int (fun _ _ => rfl)) (pe_ix ix_tup (pv 1) pe_int (fun _ _ => rfl))) (pe_op op_mulW (pe_ix ix_tup (pv 1) pe_int (fun _ _ => rfl)) (pe_ix ix_tup (pv 0) pe_int (fun _ _ => rfl)))) (pa_cons (pe_op op_mulW (pe_ix ix_tup (pv 0) pe_int (fun _ _ => rfl)) (pe_ix ix_tup (pv 1) pe_int (fun _ _ => rfl))) pa_nil)))), ?_⟩
  refine ⟨_, rfl, p, _, 0, _, rfl, rfl, SqT.of hp, rfl, _, rfl, r, _, 1, _, rfl, rfl, SqT.of hr1, rfl, _, _, rfl, rfl, sm_mul a1 (by rw [Int.natAbs_natCast]; exact b2), _, rfl, r, _, 0, _, rfl, rfl, SqT.of hr1, rfl, _, rfl, p, _, 1, _, rfl, rfl, SqT.of hp, rfl, _, _, rfl, rfl, sm_mul b1 (by rw [Int.natAbs_natCast]; exact a2), _, _, rfl, rfl,
    _, rfl, p, _, 1, _, rfl, rfl, SqT.of hp, rfl, _, rfl, r, _, 1, _, rfl, rfl, SqT.of hr1, rfl, _, _, rfl, rfl, sm_mul (by rw [Int.natAbs_natCast]; exact a2) (by rw [Int.natAbs_natCast]; exact b2), a.num * (b.den : Int) + b.num * (a.den : Int), a.den * b.den, ?_, Nat.mul_pos (den_pos a) (den_pos b), Nat.lt_of_lt_of_le (mul_8000 a2 b2) p1000, fun H' t s' ht => q H' t s' ?_⟩
  · show [V.int _, V.int ((a.den : Int) * (b.den : Int))] = _
    rw [Int.natCast_mul]
  · rw [add_mk] at ht; exact ht
theorem c_less (T : Txt w K mg) : Cal P w K mg base 2 "less" (spAdd fun a b => a - b) [] := by
  refine T.f_less.cal sc_less (fun _ _ _ _ _ _ us hl => match us, hl with | [_, _], _ => rfl) (fun vs H Q E h => ?_) (fun f cdv A outer s H vs Q E hr h => ?_)
  · obtain ⟨p, r, a, b, rfl, _⟩ := h
    rfl
  obtain ⟨p, r, a, b, rfl, hp, hr1, ⟨a1, a2⟩, ⟨b1, b2⟩, q⟩ := h
  refine ⟨_, pss_one (ps_ret (pe_c (c_fraction T) hr (by decide) rfl (pa_cons (pe_op op_sub (pe_op op_mulW (pe_ix ix_tup (pv 0) pe_int (fun _ _ => rfl)) (pe_ix ix_tup (pv 1) pe_int (fun _ _ => rfl))) (pe_op op_mulW (pe_ix ix_tup (pv 1) pe_int (fun _ _ => rfl)) (pe_ix ix_tup (pv 0) pe_int (fun _ _ => rfl)))) (pa_cons (pe_op op_mulW (pe_ix ix_tup (pv 0) pe_int (fun _ _ => rfl)) (pe_ix ix_tup (pv 1) pe_int (fun _ _ => rfl))) pa_nil)))), ?_⟩
  refine ⟨_, rfl, p, _, 0, _, rfl, rfl, SqT.of hp, rfl, _, rfl, r, _, 1, _, rfl, rfl, SqT.of hr1, rfl, _, _, rfl, rfl, sm_mul a1 (by rw [Int.natAbs_natCast]; exact b2), _, rfl, r, _, 0, _, rfl, rfl, SqT.of hr1, rfl, _, rfl, p, _, 1, _, rfl, rfl, SqT.of hp, rfl, _, _, rfl, rfl, sm_mul b1 (by rw [Int.natAbs_natCast]; exact a2), _, _, rfl, rfl,
    _, rfl, p, _, 1, _, rfl, rfl, SqT.of hp, rfl, _, rfl, r, _, 1, _, rfl, rfl, SqT.of hr1, rfl, _, _, rfl, rfl, sm_mul (by rw [Int.natAbs_natCast]; exact a2) (by rw [Int.natAbs_natCast]; exact b2), a.num * (b.den : Int) - b.num * (a.den : Int), a.den * b.den, ?_, Nat.mul_pos (den_pos a) (den_pos b), Nat.lt_of_lt_of_le (mul_8000 a2 b2) p1000, fun H' t s' ht => q H' t s' ?_⟩
  · show [V.int _, V.int ((a.den : Int) * (b.den : Int))] = _
    rw [Int.natCast_mul]
  · rw [sub_mk] at ht; exact ht
end
/-! ### the next way -/
theorem next_at : ∀ {a b : List (Nat × Nat)} {c n : Nat}, next b = none → c + 1 < n → next (a ++ (c, n) :: b) = some (a.map (·.1) ++ [c + 1])
  | [], b, c, n, h, hc => by simp [next, h, hc]
  | (e, k) :: a, b, c, n, h, hc => by
    have ih := next_at (a := a) h hc
    simp only [List.cons_append, next, ih]
    rfl
theorem next_no {b : List (Nat × Nat)} {c n : Nat} (h : next b = none) (hc : ¬ c + 1 < n) : next ((c, n) :: b) = none := by simp [next, h, hc]
section
variable {P : Program} {w : World} {K : PySem.W.Frag} {mg : Str → Option Value} {base : Heap}
theorem cutV_take (xs : List V) (i : Nat) : cutV xs none (some (i : Int)) = xs.take i := by
  unfold cutV
  have e0 : HT.sIx xs.length 0 none = 0 := rfl
  have e1 : HT.sIx xs.length xs.length (some (i : Int)) = min i xs.length := by
    unfold HT.sIx
    first
      | (simp; omega)
      | (split <;> omega)
  simp only [e0, e1]
  simp [List.take_eq_take_iff]
theorem range_getD {γ : Type} (f : γ → V) (d : γ) (l : List γ) : (List.range l.length).map (fun k => f (l.getD k d)) = l.map f := by
  apply List.ext_getElem
  · simp
  · intro k h1 h2
    simp at h1
    simp [List.getD_eq_getElem?_getD, List.getElem?_eq_getElem h1]
def spNext : Sp := fun vs H Q _ => ∃ (dl : Addr) (ts : List Addr) (ds : List (Nat × Nat)), vs = [.ref dl] ∧ H dl = some (.lst (ts.map V.ref)) ∧ DrawsOk H ts ds ∧ ds.length ≤ 1000 ∧
  (next ds = none → ∀ H', Same H H' → Q .non H') ∧ ∀ cs, next ds = some cs → ∀ H' p, Same H H' → H' p = some (.lst (cs.map fun (c : Nat) => V.int (c : Int))) → Q (.ref p) H'
abbrev N_next_choices : List Str := ["draws", "at", "choice", "many", "one", "_"]
abbrev P_next_choices : List Str := ["draws"]
theorem sc_next_choices : FnScope N_next_choices P_next_choices (defScope s_next_choices) := ⟨rfl, rfl, rfl, by decide +kernel, rfl, by decide +kernel, by decide +kernel⟩
theorem c_next_choices (T : Txt w K mg) : Cal P w K mg base 1 "next_choices" spNext [] := by
  refine T.f_next_choices.cal sc_next_choices (fun _ _ _ _ _ _ us hl => match us, hl with | [_], _ => rfl) (fun vs H Q E h => ?_) (fun f cdv A outer s H vs Q E hr h => ?_)
  · obtain ⟨dl, ts, ds, rfl, _⟩ := h
    rfl
  obtain ⟨dl, ts, ds, rfl, hdl, ⟨hl, hd⟩, h1000, q1, q2⟩ := h
  refine ⟨_, pss_cons (ps_for PassesOwn.never rfl (pi_revR rfl T.b_reversed (prg_1 rfl T.b_range (pe_callB call_len_seq rfl T.b_len PySem.boot_len (pa_cons (pv 0) pa_nil)))) (pg_name (i := 1) sc_next_choices.nd rfl (Or.inl rfl)) (pss_cons (ps_asg (pe_ix ix_list (pv 0) (pv 1) (fun _ _ => rfl)) (pg_tup rfl (pgs_cons (pg_name (i := 2) sc_next_choices.nd rfl (.inl rfl)) (pgs_cons (pg_name (i := 3) sc_next_choices.nd rfl (.inl rfl)) pgs_nil)))) (pss_one (ps_if (pt_cmpR op_lt (pe_op op_add (pv 2) pe_int) (pv 3) (nomark _)) (pss_one (ps_ret (pe_op op_cat (pe_lc (own := [("one", 4), ("_", 5)]) (g := gTup K 2 (gCons (gName 4) (gCons (gName 5) gNil))) (tt := tYes) rfl sc_next_choices.nd (pi_list (pe_slice sl_list (pv 0) po_none (po_some (pv 1)))) (blkOk_by (own := [("one", 4), ("_", 5)]) (N := N_next_choices) (sc := defScope s_next_choices) (by decide +kernel)) (fun _ _ _ _ _ => pg_tup rfl (pgs_cons (pg_name (i := 4) sc_next_choices.nd rfl (.inl rfl)) (pgs_cons (pg_name (i := 5) sc_next_choices.nd rfl (.inl rfl)) pgs_nil))) (fun _ _ _ _ _ => pts_nil) (fun _ _ _ _ _ => (pv 4))) (pe_lst (pa_cons (pe_op op_add (pv 2) pe_int) pa_nil))))) pss_nil))))
      (pss_one (ps_ret pe_non)), ?_⟩
  have lts : (ts.map V.ref).length = ds.length := by rw [List.length_map]; exact hl
  refine ⟨_, rfl, dl, _, rfl, .inl (SqL.of hdl), _, rfl, by decide, by decide, by rw [lts]; omega, by rw [lts]; omega, ?_⟩
  rw [lts]
  have en : ((ds.length : Nat) : Int) - 0 = ((ds.length : Nat) : Int) := by omega
  rw [en, Int.toNat_natCast]
  refine for_rangeC (fun j σ H' => (∃ x1 x2 x3 x4 x5, σ = [some (.ref dl), x1, x2, x3, x4, x5]) ∧ H' = H ∧ next (ds.drop (ds.length - j)) = none) ⟨⟨none, none, none, none, none, rfl⟩, rfl, by simp [next]⟩ ?_ ?_
  · rintro j σ H' hj ⟨⟨x1, x2, x3, x4, x5, rfl⟩, rfl, hn⟩
    have hi : ds.length - 1 - j < ds.length := by omega
    have ei : (0 : Int) + ((ds.length : Nat) : Int) - 1 + ((j : Nat) : Int) * (-1) = ((ds.length - 1 - j : Nat) : Int) := by omega
    rw [ei]
    have ej : ds.length - j = (ds.length - 1 - j) + 1 := by omega
    rw [ej] at hn
    generalize hii : ds.length - 1 - j = i at *
    have e1 : ds[i]? = some ds[i] := List.getElem?_eq_getElem hi
    have hti : i < ts.length := by rw [hl]; exact hi
    have e2 : ts[i]? = some ts[i] := List.getElem?_eq_getElem hti
    have ht := hd i _ _ e2 e1
    have ed : ds.drop i = ds[i] :: ds.drop (i + 1) := List.drop_eq_getElem_cons hi
    have etk : ds = ds.take i ++ ds[i] :: ds.drop (i + 1) := by rw [← ed, List.take_append_drop]
    refine ⟨_, rfl, _, rfl, dl, _, _, _, rfl, rfl, SqL.of hdl, atI_nat (by rw [List.getElem?_map, e2]; rfl), ts[i], _, rfl, SqT.of ht, rfl, _, _, rfl, _, _, rfl, rfl, ?_⟩
    refine ⟨_, rfl, _, _, rfl, rfl, _, rfl, _, _, rfl, rfl, _, rfl, ?_⟩
    refine ite2 (fun c => ?_) (fun c => ?_)
    · have c1 : ((ds[i].1 : Nat) : Int) + 1 < ((ds[i].2 : Nat) : Int) := of_decide_eq_true c
      have hx := next_at (a := ds.take i) (b := ds.drop (i + 1)) (c := ds[i].1) (n := ds[i].2) hn (by omega)
      rw [← etk] at hx
      refine ⟨_, rfl, _, rfl, _, rfl, dl, _, rfl, SqL.of hdl, fun p hp => ?_⟩
      rw [cutV_take]
      have s1 := same_new hp (.lst ((ts.map V.ref).take i))
      have hpx : (upd H' p (.lst ((ts.map V.ref).take i))) p = some (.lst ((ts.map V.ref).take i)) := upd_same
      generalize (upd H' p (.lst ((ts.map V.ref).take i))) = H1 at *
      have lx : ((ts.map V.ref).take i).length = i := by rw [List.length_take, lts]; omega
      refine ⟨p, rfl, ⟨_, SqL.of hpx⟩, fun D hD => ?_⟩
      refine lp_list (K := K) (a := p) (xs := (ts.map V.ref).take i) (fun k => V.int (((ds.take i).getD k (0, 0)).1 : Int)) hD (by omega) (SqL.of hpx) (fun k x Hk hk sk Qe qe => ?_) (fun Hk sk hDk => ?_)
      · have lk1 : k < i := by have := (List.getElem?_eq_some_iff.mp hk).1; omega
        rw [List.getElem?_take_of_lt lk1] at hk
        obtain ⟨t, htk, rfl⟩ := get_map hk
        have e4 : ds[k]? = some ds[k] := List.getElem?_eq_getElem (by omega)
        have e5 : (ds.take i).getD k (0, 0) = ds[k] := by
          rw [List.getD_eq_getElem?_getD, List.getElem?_take_of_lt lk1, e4]
          rfl
        rw [e5] at qe
        exact ⟨t, _, rfl, SqT.of (sk _ _ (s1 _ _ (hd k t _ htk e4))), rfl, _, _, rfl, _, _, rfl, rfl, rfl, _, rfl, qe _ (Same.refl _)⟩
      · rw [lx] at hDk
        have lt : (ds.take i).length = i := by rw [List.length_take]; omega
        have eD : (List.range i).map (fun k => V.int (((ds.take i).getD k (0, 0)).1 : Int)) = (ds.take i).map fun d => V.int (d.1 : Int) := by
          have e := range_getD (fun d : Nat × Nat => V.int (d.1 : Int)) (0, 0) (ds.take i)
          rw [lt] at e
          exact e
        rw [eD] at hDk
        refine ⟨_, rfl, _, _, rfl, rfl, (by show 1 ≤ sizeLine; decide), fun p2 hp2 => ?_⟩
        refine ⟨D, p2, _, _, rfl, rfl, (by rw [upd_ne (ne_of_none hDk hp2)]; exact hDk), upd_same, (by rw [List.length_map, lt]; exact sl (by show i + 1 ≤ _; omega)), fun p3 hp3 => ?_⟩
        refine q2 _ hx _ p3 (((s1.trans sk).trans (same_new hp2 _)).trans (same_new hp3 _)) ?_
        rw [upd_same, List.map_append, List.map_map]
        rfl
    · have c1 : ¬ ((ds[i].1 : Nat) : Int) + 1 < ((ds[i].2 : Nat) : Int) := of_decide_eq_false (Bool.eq_false_iff.mpr c)
      refine ⟨⟨_, _, _, _, _, rfl⟩, rfl, ?_⟩
      have e3 : ds.length - (j + 1) = i := by omega
      rw [e3, ed]
      exact next_no hn (fun z => c1 (by have z1 : ds[i].1 + 1 < ds[i].2 := z; omega))
  · rintro σ H' ⟨⟨x1, x2, x3, x4, x5, rfl⟩, rfl, hn⟩
    rw [Nat.sub_self, List.drop_zero] at hn
    exact q1 hn H' (Same.refl _)
end
end NX
/-! Facts about the games' trees; the counts as dicts. -/
namespace NX
open PySem PySem.Spec PyProof.Rows L2
/-! ### every draw is among some, so many ways, such products -/
theorem plain_pos : ∀ {b : Br} {d B : Nat} (h : Bs), b.Ok d B → (plainT b h).Pos
  | .say ps, d, B, h, ok => trivial
  | .toss n f, 0, B, h, ok => ok.elim
  | .look k a b, 0, B, h, ok => ok.elim
  | .ask ps b, 0, B, h, ok => ok.elim
  | .toss n f, d + 1, B, h, ⟨h1, B', h2, h3⟩ => ⟨h1, fun i hi => plain_pos h (h3 i hi)⟩
  | .look k a b, d + 1, B, h, ok => by
    simp only [plainT]
    by_cases q : bitAt h k = true
    · rw [if_pos q]; exact plain_pos h ok.2.2
    · rw [if_neg q]; exact plain_pos h ok.2.1
  | .ask ps b, d + 1, B, h, ok => plain_pos (b := b) h ok.2
theorem plain_most : ∀ {b : Br} {d B : Nat} (h : Bs), b.Ok d B → (plainT b h).Most B
  | .say ps, d, B, h, ok => ok.pos
  | .toss n f, 0, B, h, ok => ok.elim
  | .look k a b, 0, B, h, ok => ok.elim
  | .ask ps b, 0, B, h, ok => ok.elim
  | .toss n f, d + 1, B, h, ⟨h1, B', h2, h3⟩ => ⟨B', h2, fun i hi => plain_most h (h3 i hi)⟩
  | .look k a b, d + 1, B, h, ok => by
    simp only [plainT]
    by_cases q : bitAt h k = true
    · rw [if_pos q]; exact plain_most h ok.2.2
    · rw [if_neg q]; exact plain_most h ok.2.1
  | .ask ps b, d + 1, B, h, ok => plain_most (b := b) h ok.2
abbrev CM : Nat := 300000
theorem plain_pp : ∀ {b : Br} {d B : Nat} (h : Bs), b.Ok d B → B ≤ CM → (plainT b h).PP CM fun x => 1 ≤ x ∧ x ≤ B
  | .say ps, d, B, h, ok, hB => Tr.pp_ret ⟨Nat.le_refl _, ok.pos⟩
  | .toss n f, 0, B, h, ok, _ => ok.elim
  | .look k a b, 0, B, h, ok, _ => ok.elim
  | .ask ps b, 0, B, h, ok, _ => ok.elim
  | .toss n f, d + 1, B, h, ⟨h1, B', h2, h3⟩, hB => by
    have p := (h3 0 h1).pos
    have n1 : n * 1 ≤ n * B' := Nat.mul_le_mul_left n p
    have b1 : 1 * B' ≤ n * B' := Nat.mul_le_mul_right B' h1
    exact Tr.pp_draw (Q := fun x => 1 ≤ x ∧ x ≤ B') (by omega) (fun i hi => plain_pp h (h3 i hi) (by omega)) fun x hx => ⟨Nat.mul_pos h1 hx.1, Nat.le_trans (Nat.mul_le_mul_left n hx.2) h2⟩
  | .look k a b, d + 1, B, h, ok, hB => by
    simp only [plainT]
    by_cases q : bitAt h k = true
    · rw [if_pos q]; exact plain_pp h ok.2.2 hB
    · rw [if_neg q]; exact plain_pp h ok.2.1 hB
  | .ask ps b, d + 1, B, h, ok, hB => plain_pp (b := b) h ok.2 hB
theorem Tr.pp_mono {α : Type} {C : Nat} {P Q : Nat → Prop} {t : Tr α} (h : t.PP C P) (hq : ∀ x, P x → Q x) : t.PP C Q := fun cs ok => ⟨hq _ (h cs ok).1, (h cs ok).2⟩
/-- a power of two up to 8 times a number up to 12 -/
def KeyP (x : Nat) : Prop := ∃ j P, j ≤ 3 ∧ 1 ≤ P ∧ P ≤ 12 ∧ x = 2 ^ j * P
theorem pow_le8 {k m : Nat} (hm : m ≤ 3) (hk : k ≤ m) : 2 ^ k ≤ 8 := by
  have : 2 ^ k ≤ 2 ^ 3 := Nat.pow_le_pow_right (by decide) (by omega)
  exact this
theorem bt_pos {d B m : Nat} {b : Br} (mk : Bool) (ok : b.Ok d B) (ch : Bs) : (btT mk m b ch).Pos := by
  cases mk with
  | false => exact plain_pos ch ok
  | true => exact ⟨Nat.pow_pos (by decide), fun i _ => Tr.pos_bind (plain_pos _ ok) fun _ => trivial⟩
theorem bt_most {d B m : Nat} {b : Br} (mk : Bool) (ok : b.Ok d B) (hB : B ≤ 12) (hm : m ≤ 3) (ch : Bs) : (btT mk m b ch).Most 96 := by
  cases mk with
  | false => exact Tr.most_mono (by omega) (plain_most ch ok)
  | true =>
    have h8 := pow_le8 hm (Nat.sub_le m (ridx ch))
    refine ⟨12 * 1, by omega, fun i _ => ?_⟩
    exact Tr.most_bind (Tr.most_mono hB (plain_most _ ok)) fun _ => Nat.le_refl 1
theorem bt_pp {d B m : Nat} {b : Br} (mk : Bool) (ok : b.Ok d B) (hB : B ≤ 12) (hm : m ≤ 3) (ch : Bs) : (btT mk m b ch).PP CM KeyP := by
  have p1 : ∀ h, (plainT b h).PP CM fun x => 1 ≤ x ∧ x ≤ 12 := fun h => Tr.pp_mono (plain_pp h ok (by show B ≤ 300000; omega)) fun x hx => ⟨hx.1, by omega⟩
  cases mk with
  | false => exact Tr.pp_mono (p1 ch) fun x hx => ⟨0, x, by decide, hx.1, hx.2, by simp⟩
  | true =>
    have h8 := pow_le8 hm (Nat.sub_le m (ridx ch))
    refine Tr.pp_draw (Q := fun x => 1 ≤ x ∧ x ≤ 12) (by show _ ≤ 300000; omega) (fun i _ => ?_) fun x hx => ⟨m - ridx ch, x, by omega, hx.1, hx.2, rfl⟩
    exact Tr.pp_bind (Q := fun x => 1 ≤ x ∧ x ≤ 12) (R := fun x => x = 1) (p1 _) (fun _ => Tr.pp_ret rfl) fun x y hx hy => by rw [hy, Nat.mul_one]; exact hx
def cS (n m : Nat) (real : Bool) : Nat := if real then 2 ^ n else 2 ^ m
theorem cover_pos (rows : List Bs) (n m : Nat) (real : Bool) : (coverT rows n m real).Pos := by
  cases real
  · exact ⟨Nat.pow_pos (by decide), fun _ _ => trivial⟩
  · exact ⟨Nat.pow_pos (by decide), fun _ _ => trivial⟩
theorem cover_most (rows : List Bs) {n m : Nat} (real : Bool) (hn : n ≤ 2) (hm : m ≤ 3) : (coverT rows n m real).Most 8 := by
  cases real
  · exact ⟨1, by rw [Nat.mul_one]; exact pow_le8 hm (Nat.le_refl _), fun _ _ => Nat.le_refl 1⟩
  · exact ⟨1, by rw [Nat.mul_one]; exact pow_le8 (m := 3) (by decide) (by omega), fun _ _ => Nat.le_refl 1⟩
theorem cover_pp (rows : List Bs) {n m : Nat} (real : Bool) (hn : n ≤ 2) (hm : m ≤ 3) : (coverT rows n m real).PP CM fun x => x = cS n m real := by
  cases real
  · exact Tr.pp_draw (Q := fun x => x = 1) (Nat.le_trans (pow_le8 hm (Nat.le_refl _)) (by decide)) (fun _ _ => Tr.pp_ret rfl) fun x hx => by rw [hx, Nat.mul_one]; rfl
  · exact Tr.pp_draw (Q := fun x => x = 1) (Nat.le_trans (pow_le8 (m := 3) (by decide) (by omega)) (by decide)) (fun _ _ => Tr.pp_ret rfl) fun x hx => by rw [hx, Nat.mul_one]; rfl
def aS (nx : Bool) (m : Nat) : Nat := if nx then m else 1
theorem tab_pos (nx : Bool) (rows : List Bs) {n m : Nat} (real : Bool) (hm : 1 ≤ m) : (tabT nx rows n m real).Pos := by
  cases nx
  · exact Tr.pos_bind (cover_pos _ _ _ _) fun _ => trivial
  · exact ⟨hm, fun _ _ => Tr.pos_bind (cover_pos _ _ _ _) fun _ => trivial⟩
theorem tab_most (nx : Bool) (rows : List Bs) {n m : Nat} (real : Bool) (hn : n ≤ 2) (hm : m ≤ 3) : (tabT nx rows n m real).Most 24 := by
  cases nx
  · exact Tr.most_mono (by decide) (Tr.most_bind (cover_most rows real hn hm) fun _ => Nat.le_refl 1)
  · exact ⟨8 * 1, by omega, fun _ _ => Tr.most_bind (cover_most rows real hn hm) fun _ => Nat.le_refl 1⟩
theorem tab_pp (nx : Bool) (rows : List Bs) {n m : Nat} (real : Bool) (hn : n ≤ 2) (hm : m ≤ 3) : (tabT nx rows n m real).PP CM fun x => x = aS nx m * cS n m real := by
  have h := Tr.pp_bind (P := fun x => x = cS n m real) (R := fun x => x = 1) (f := fun y => Tr.ret (y, 0)) (cover_pp rows real hn hm) (fun _ => Tr.pp_ret rfl) fun x y hx hy => by rw [hx, hy, Nat.mul_one]
  cases nx
  · exact Tr.pp_mono h fun x hx => by rw [hx]; show _ = 1 * _; rw [Nat.one_mul]
  · refine Tr.pp_draw (Q := fun x => x = cS n m real) (by show m ≤ 300000; omega) (fun i _ => ?_) fun x hx => by rw [hx]; rfl
    exact Tr.pp_bind (R := fun x => x = 1) (cover_pp rows real hn hm) (fun _ => Tr.pp_ret rfl) fun x y hx hy => by rw [hx, hy, Nat.mul_one]
/-- the products of a game -/
def KeyG (k x : Nat) : Prop := ∃ y, KeyP y ∧ x = k * y
section
variable {nx mk real : Bool} {rows : List Bs} {n m d B : Nat} {b : Br}
theorem game_pos (ok : b.Ok d B) (hm : 1 ≤ m) : (gameT nx rows n m real (btT mk m b)).Pos := Tr.pos_bind (tab_pos nx rows real hm) fun _ => Tr.pos_bind (bt_pos mk ok _) fun _ => trivial
theorem game_most (ok : b.Ok d B) (hB : B ≤ 12) (hn : n ≤ 2) (hm : m ≤ 3) : (gameT nx rows n m real (btT mk m b)).Most 2304 :=
  Tr.most_mono (by decide) (Tr.most_bind (tab_most nx rows real hn hm) fun _ => Tr.most_bind (bt_most mk ok hB hm _) fun _ => Nat.le_refl 1)
theorem game_pp (ok : b.Ok d B) (hB : B ≤ 12) (hn : n ≤ 2) (hm : m ≤ 3) : (gameT nx rows n m real (btT mk m b)).PP CM (KeyG (aS nx m * cS n m real)) :=
  Tr.pp_bind (R := KeyP) (tab_pp nx rows real hn hm) (fun p => Tr.pp_bind (Q := KeyP) (R := fun x => x = 1) (bt_pp mk ok hB hm _) (fun _ => Tr.pp_ret rfl) fun x y hx hy => by rw [hy, Nat.mul_one]; exact hx) fun x y hx hy => ⟨y, hy, by rw [hx]⟩
end
/-- the leaves are runs -/
theorem rem_runs {α : Type} : ∀ {t : Tr α} {cs : List Nat}, t.Pos → t.Ok cs → ∀ l ∈ t.rem cs, ∃ cs', t.Ok cs' ∧ l = t.run cs'
  | .ret a, cs, _, _, l, hl => by
    simp [Tr.rem] at hl
    exact ⟨[], trivial, hl⟩
  | .draw n k, cs, hp, ho, l, hl => by
    simp only [Tr.rem] at hl
    rcases List.mem_append.mp hl with h | h
    · obtain ⟨l', h1, rfl⟩ := List.mem_map.mp h
      obtain ⟨cs', o, rfl⟩ := rem_runs (hp.2 _ ho.1) ho.2 l' h1
      exact ⟨cs.headD 0 :: cs', ⟨ho.1, o⟩, rfl⟩
    · obtain ⟨j, hj, h⟩ := List.mem_flatMap.mp h
      obtain ⟨l', h1, rfl⟩ := List.mem_map.mp h
      have hjn : j < n := by
        have := List.mem_range'_1.mp hj
        omega
      obtain ⟨cs', o, rfl⟩ := rem_runs (hp.2 j hjn) (Tr.ok_nil (hp.2 j hjn)) l' h1
      exact ⟨j :: cs', ⟨hjn, o⟩, rfl⟩
def winsL (l : List (Leaf Bool)) : List Nat := (l.filter (·.1)).map fun x => prodD x.2
theorem winsL_append (a b : List (Leaf Bool)) : winsL (a ++ b) = winsL a ++ winsL b := by simp [winsL]
theorem winsL_val : ∀ l : List (Leaf Bool), sumL ((winsL l).map fun (d : Nat) => 1 / (d : Rat)) = sumL (l.map wt)
  | [] => rfl
  | (o, ds) :: l => by
    have ih := winsL_val l
    cases o with
    | true =>
      show 1 / (prodD ds : Rat) + sumL ((winsL l).map fun (d : Nat) => 1 / (d : Rat)) = wt (true, ds) + _
      rw [ih]
      rfl
    | false =>
      show sumL ((winsL l).map fun (d : Nat) => 1 / (d : Rat)) = wt (false, ds) + _
      rw [ih]
      have e : wt (false, ds) = 0 := rfl
      rw [e]
      grind
/-- what Ways counts -/
def cntT (t : Tr Bool) : Cnt := notes (winsL (t.rem [])) []
theorem cntT_val {t : Tr Bool} (h : t.Pos) : cntVal (cntT t) = t.E := by
  unfold cntT
  rw [notes_val, winsL_val, Tr.sum_rem t h]
  simp [cntVal, sumL]
  grind
theorem cntT_nodup (t : Tr Bool) : ((cntT t).map (·.1)).Nodup := notes_nodup _ (by simp)
def keysL (k : Nat) : List Nat := (List.range 4).flatMap fun j => (List.range' 1 12).map fun P => k * (2 ^ j * P)
theorem keysL_len (k : Nat) : (keysL k).length = 48 := by simp [keysL, List.length_flatMap, List.range, List.range.loop]
theorem keysL_mem {k x : Nat} (h : KeyG k x) : x ∈ keysL k := by
  obtain ⟨y, ⟨j, P, h1, h2, h3, rfl⟩, rfl⟩ := h
  refine List.mem_flatMap.mpr ⟨j, List.mem_range.mpr (by omega), List.mem_map.mpr ⟨P, List.mem_range'_1.mpr ⟨h2, by omega⟩, rfl⟩⟩
/-- a common multiple of all that is divided by -/
abbrev M0 : Nat := 6 * 8 * 8 * 27720
theorem pow_dvd8 {k : Nat} (h : k ≤ 3) : 2 ^ k ∣ 8 := Nat.pow_dvd_pow 2 (n := 3) h
theorem key_dvd {nx real : Bool} {n m x : Nat} (hn : n ≤ 2) (hm1 : 1 ≤ m) (hm : m ≤ 3) (h : KeyG (aS nx m * cS n m real) x) : x ∣ M0 ∧ 0 < x := by
  obtain ⟨y, ⟨j, P, h1, h2, h3, rfl⟩, rfl⟩ := h
  have a1 : aS nx m ∣ 6 ∧ 0 < aS nx m := by
    have : m = 1 ∨ m = 2 ∨ m = 3 := by omega
    rcases this with rfl | rfl | rfl <;> cases nx <;> decide
  have c1 : cS n m real ∣ 8 ∧ 0 < cS n m real := by
    cases real
    · exact ⟨pow_dvd8 hm, Nat.pow_pos (by decide)⟩
    · exact ⟨pow_dvd8 (by omega), Nat.pow_pos (by decide)⟩
  refine ⟨?_, Nat.mul_pos (Nat.mul_pos a1.2 c1.2) (Nat.mul_pos (Nat.pow_pos (by decide)) h2)⟩
  have e : M0 = 6 * 8 * (8 * 27720) := rfl
  rw [e]
  exact Nat.mul_dvd_mul (Nat.mul_dvd_mul a1.1 c1.1) (Nat.mul_dvd_mul (pow_dvd8 h1) (twelve P h2 h3))
/-- what is known of the counts of a game -/
structure CntOk (l : Cnt) : Prop where
  nd : (l.map (·.1)).Nodup
  few : l.length < 64
  dv : ∀ x ∈ l, x.1 ∣ M0 ∧ 0 < x.1
  sum : cntSum l ≤ 300000
theorem game_cnt {nx mk real : Bool} {rows : List Bs} {n m d B : Nat} {b : Br} (ok : b.Ok d B) (hB : B ≤ 12) (hn : n ≤ 2) (hm1 : 1 ≤ m) (hm : m ≤ 3) : CntOk (cntT (gameT nx rows n m real (btT mk m b))) := by
  have gp : (gameT nx rows n m real (btT mk m b)).Pos := game_pos ok hm1
  have hk : ∀ x ∈ (cntT (gameT nx rows n m real (btT mk m b))).map (·.1), KeyG (aS nx m * cS n m real) x := fun x hx => by
    rcases notes_mem _ hx with q | q
    · obtain ⟨l, hl, rfl⟩ := List.mem_map.mp q
      obtain ⟨cs, o, rfl⟩ := rem_runs gp (Tr.ok_nil gp) l (List.mem_filter.mp hl).1
      exact (game_pp ok hB hn hm cs o).1
    · simp at q
  refine ⟨cntT_nodup _, ?_, fun x hx => key_dvd hn hm1 hm (hk _ (List.mem_map.mpr ⟨x, hx, rfl⟩)), ?_⟩
  · have l1 := List.Nodup.length_le_of_subset (cntT_nodup (gameT nx rows n m real (btT mk m b))) (l₂ := keysL (aS nx m * cS n m real)) fun x hx => keysL_mem (hk x hx)
    rw [keysL_len, List.length_map] at l1
    omega
  · unfold cntT
    rw [notes_sum]
    have l2 := Tr.len_rem _ _ gp (game_most ok hB hn hm)
    have l3 : (winsL ((gameT nx rows n m real (btT mk m b)).rem [])).length ≤ ((gameT nx rows n m real (btT mk m b)).rem []).length := by
      unfold winsL
      rw [List.length_map]
      exact List.length_filter_le _ _
    show 0 + _ ≤ 300000
    omega
/-! ### the counts as a dict -/
def cntK (l : Cnt) : List (Key × V) := l.map fun x => (.inl (x.1 : Int), .int (x.2 : Int))
def cget (d : Nat) : Cnt → Nat
  | [] => 0
  | (e, c) :: r => if e = d then c else cget d r
theorem key_eq {e d : Nat} : ((Sum.inl (e : Int) : Key) = Sum.inl (d : Int)) ↔ e = d := ⟨fun h => by have := Sum.inl.inj h; omega, fun h => by rw [h]⟩
theorem cntK_get (d : Nat) : ∀ l : Cnt, (valV (cntK l) (.inl (d : Int))).getD (.int 0) = .int (cget d l : Int)
  | [] => rfl
  | (e, c) :: r => by
    unfold cget
    by_cases h : e = d
    · rw [if_pos h]
      show (valV ((Sum.inl (e : Int), V.int (c : Int)) :: cntK r) _).getD _ = _
      rw [valV_pos (key_eq.mpr h)]
      rfl
    · rw [if_neg h, ← cntK_get d r]
      show (valV ((Sum.inl (e : Int), V.int (c : Int)) :: cntK r) _).getD _ = _
      rw [valV_neg (fun z => h (key_eq.mp z))]
theorem cntK_none {d : Nat} : ∀ {l : Cnt}, d ∉ l.map (·.1) → valV (cntK l) (.inl (d : Int)) = none
  | [], _ => rfl
  | (e, c) :: r, h => by
    simp at h
    show valV ((Sum.inl (e : Int), V.int (c : Int)) :: cntK r) _ = _
    rw [valV_neg (fun z => h.1 (key_eq.mp z).symm)]
    exact cntK_none (by simpa using h.2)
theorem cntK_mem : ∀ {l : Cnt} {x : Nat × Nat}, (l.map (·.1)).Nodup → x ∈ l → valV (cntK l) (.inl (x.1 : Int)) = some (.int (x.2 : Int))
  | [], x, _, h => by simp at h
  | (e, c) :: r, x, hn, h => by
    simp only [List.map_cons, List.nodup_cons] at hn
    show valV ((Sum.inl (e : Int), V.int (c : Int)) :: cntK r) _ = _
    rcases List.mem_cons.mp h with q | q
    · subst q
      exact valV_pos rfl
    · rw [valV_neg (fun z => hn.1 (by rw [key_eq.mp z]; exact List.mem_map.mpr ⟨x, q, rfl⟩))]
      exact cntK_mem hn.2 q
theorem cntK_any (d : Nat) (l : Cnt) : ((cntK l).any fun kv => decide (kv.1 = (Sum.inl (d : Int) : Key))) = true ↔ d ∈ l.map (·.1) := by
  simp only [List.any_eq_true, cntK, List.mem_map]
  constructor
  · rintro ⟨y, ⟨x, hx, rfl⟩, h⟩
    exact ⟨x, hx, key_eq.mp (of_decide_eq_true h)⟩
  · rintro ⟨x, hx, rfl⟩
    exact ⟨_, ⟨x, hx, rfl⟩, by simp⟩
theorem cntK_same {d : Nat} {v : V} : ∀ {l : Cnt}, d ∉ l.map (·.1) → ((cntK l).map fun kv => if kv.1 = (Sum.inl (d : Int) : Key) then (kv.1, v) else kv) = cntK l
  | [], _ => rfl
  | (e, c) :: r, h => by
    simp at h
    show (if (Sum.inl (e : Int) : Key) = Sum.inl (d : Int) then _ else _) :: _ = _
    rw [if_neg (fun z => h.1 (key_eq.mp z).symm)]
    congr 1
    exact cntK_same (by simpa using h.2)
theorem cntK_put (d : Nat) : ∀ {l : Cnt}, (l.map (·.1)).Nodup → putK (cntK l) (.inl (d : Int)) (.int ((cget d l : Int) + 1)) = cntK (note d l)
  | [], _ => rfl
  | (e, c) :: r, hn => by
    simp only [List.map_cons, List.nodup_cons] at hn
    by_cases h : e = d
    · subst h
      have e1 : ((cntK ((e, c) :: r)).any fun kv => decide (kv.1 = (Sum.inl (e : Int) : Key))) = true := (cntK_any e _).mpr (by simp)
      unfold putK
      rw [if_pos e1]
      unfold cget note
      rw [if_pos rfl, if_pos rfl]
      show (if (Sum.inl (e : Int) : Key) = Sum.inl (e : Int) then _ else _) :: _ = _
      rw [if_pos rfl]
      have e2 := cntK_same (v := .int ((c : Int) + 1)) hn.1
      exact congrArg (List.cons _) e2
    · have ih := cntK_put d hn.2
      unfold cget note
      rw [if_neg h, if_neg h]
      unfold putK at ih ⊢
      by_cases g : d ∈ r.map (·.1)
      · rw [if_pos ((cntK_any d _).mpr (by simp only [List.map_cons, List.mem_cons]; exact .inr g))]
        rw [if_pos ((cntK_any d _).mpr g)] at ih
        show (if (Sum.inl (e : Int) : Key) = Sum.inl (d : Int) then _ else _) :: _ = _
        rw [if_neg (fun z => h (key_eq.mp z))]
        exact congrArg (List.cons _) ih
      · rw [if_neg (fun z => g ((cntK_any d _).mp z))] at ih
        rw [if_neg (fun z => by
          have := (cntK_any d _).mp z
          simp only [List.map_cons, List.mem_cons] at this
          rcases this with q | q
          · exact h q.symm
          · exact g q)]
        exact congrArg (List.cons _) ih
theorem cntK_len (l : Cnt) : (cntK l).length = l.length := by simp [cntK]
theorem cntK_keys (l : Cnt) : (cntK l).map (·.1) = ((l.map fun x => ((x.1 : Nat) : Int)).map Sum.inl) := by simp [cntK, List.map_map, Function.comp_def]
end NX
namespace NX
open PySem PySem.Spec PyProof.Rows L2
open C8 (Cal Met Mak pe_c pe_mk pe_mt pe_mt0)
abbrev wayF (many : Nat) (wn : Addr) : List (Str × V) := [("most", .int 300000), ("many", .int ((many : Nat) : Int)), ("won", .ref wn)]
theorem prodD_lt {ds : List (Nat × Nat)} (h : ∀ d ∈ ds, d.2 ≤ 300000) : prodD ds < 2 ^ (20 * ds.length + 1) := by
  induction ds with
  | nil => decide
  | cons d r ih =>
    rw [prodD_cons]
    have a := h d (by simp)
    have b := ih fun x hx => h x (by simp [hx])
    have e : 20 * (d :: r).length + 1 = 20 + (20 * r.length + 1) := by rw [List.length_cons]; omega
    rw [e, Nat.pow_add]
    have p : d.2 < 2 ^ 20 := Nat.lt_of_le_of_lt a (by decide)
    exact Nat.mul_lt_mul_of_lt_of_le p (Nat.le_of_lt b) (Nat.pow_pos (by decide))
theorem prodD_snoc (ds : List (Nat × Nat)) (d : Nat × Nat) : prodD (ds ++ [d]) = prodD ds * d.2 := by
  rw [prodD_append]
  congr 1
  simp [prodD]
theorem sumL_perm {a b : List Rat} (h : a.Perm b) : sumL a = sumL b := by
  induction h with
  | nil => rfl
  | cons x _ ih => simp only [sumL, ih]
  | swap x y l => simp only [sumL]; grind
  | trans _ _ i1 i2 => exact i1.trans i2
theorem cget_mem {l : Cnt} {e : Nat × Nat} (hn : (l.map (·.1)).Nodup) (h : e ∈ l) : cget e.1 l = e.2 := by
  have a := cntK_get e.1 l
  rw [cntK_mem hn h] at a
  have b : (V.int ((e.2 : Nat) : Int)) = V.int ((cget e.1 l : Nat) : Int) := a
  have c := V.int.inj b
  omega
theorem mem_sum : ∀ {l : Cnt} {e : Nat × Nat}, e ∈ l → e.2 ≤ cntSum l
  | [], e, h => by simp at h
  | x :: l, e, h => by
    have d : cntSum (x :: l) = x.2 + cntSum l := by simp [cntSum]
    rcases List.mem_cons.mp h with rfl | h
    · omega
    · have := mem_sum h; omega
/-- the share of a denominator -/
def share (l : Cnt) (y : Int) : Rat := (cget y.toNat l : Rat) / (y.toNat : Rat)
theorem share_mem {l : Cnt} {e : Nat × Nat} (hn : (l.map (·.1)).Nodup) (h : e ∈ l) : share l ((e.1 : Nat) : Int) = (e.2 : Rat) / (e.1 : Rat) := by
  unfold share
  rw [Int.toNat_natCast, cget_mem hn h]
theorem share_sum {l : Cnt} (hn : (l.map (·.1)).Nodup) : sumL ((l.map fun x => ((x.1 : Nat) : Int)).map (share l)) = cntVal l := by
  unfold cntVal
  rw [List.map_map]
  congr 1
  exact List.map_congr_left fun e he => share_mem hn he
abbrev KW : Nat := 300000 * M0
theorem share_fz {l : Cnt} (ok : CntOk l) {e : Nat × Nat} (h : e ∈ l) : Fz M0 KW (share l ((e.1 : Nat) : Int)) := by
  rw [share_mem ok.nd h]
  refine (Fz.frac (by decide) (ok.dv e h).1 e.2).mono ?_
  exact Nat.mul_le_mul_right _ (Nat.le_trans (mem_sum h) ok.sum)
theorem m0_small : M0 < 2 ^ 500 := Nat.lt_of_lt_of_le (by decide : M0 < 2 ^ 200) (Nat.pow_le_pow_right (by decide) (by decide))
theorem kw_small : 64 * KW < 2 ^ 500 := Nat.lt_of_lt_of_le (by decide : 64 * KW < 2 ^ 200) (Nat.pow_le_pow_right (by decide) (by decide))
section
variable {P : Program} {w : World} {K : PySem.W.Frag} {mg : Str → Option Value} {base : Heap}
theorem hu_of {k : Nat} {A : Around} {e : Env} (hr : Room k (A.deeper e)) : (A.deeper e).units + 1 < cLine := by
  have := hr.units
  omega
def noteIf (out : Bool) (d : Nat) (l : Cnt) : Cnt := if out then note d l else l
def spCount (K : PySem.W.Frag) : Sp := fun vs H Q _ => ∃ (x dx wn pl : Addr) (out : Bool) (ds : List (Nat × Nat)) (l : Cnt) (many : Nat), vs = [.ref x, .ref pl] ∧ H x = some (.ins (He.ga K "Ways") dx (wayF many wn)) ∧ H wn = some (.dK (cntK l)) ∧ PlayAt K H pl out ds ∧ (∀ d ∈ ds, d.2 ≤ 300000) ∧ ds.length ≤ 1000 ∧ many + 1 ≤ 300000 ∧ (l.map (·.1)).Nodup ∧ l.length ≤ 5000 ∧
  ∀ H', Fr (fun b => b = x ∨ b = wn) H H' → H' x = some (.ins (He.ga K "Ways") dx (wayF (many + 1) wn)) → H' wn = some (.dK (cntK (noteIf out (prodD ds) l))) → Q .non H'
abbrev N_Ways_count : List Str := ["self", "play", "under", "_", "many"]
abbrev P_Ways_count : List Str := ["self", "play"]
theorem sc_Ways_count : FnScope N_Ways_count P_Ways_count (defScope s_Ways_count) := ⟨rfl, rfl, rfl, by decide +kernel, rfl, by decide +kernel, by decide +kernel⟩
theorem c_count (T : Txt w K mg) : Met P w K mg base 1 (He.ga K "Ways") "count" (spCount K) [] := by
  refine T.m_Ways_count.met sc_Ways_count (fun _ _ _ _ _ _ us hl => match us, hl with | [_, _], _ => rfl) (fun vs H Q E h => ?_) (fun f cdv A outer s H vs Q E hr h => ?_)
  · obtain ⟨x, dx, wn, pl, out, ds, l, many, rfl, _⟩ := h
    rfl
  obtain ⟨x, dx, wn, pl, out, ds, l, many, rfl, hx, hw, PL, hds, hl1, hmany, hnd, hll, q⟩ := h
  obtain ⟨pdx, sd, dl, av, ts, hp, hdl, hts, hd⟩ := PL.ex
  have hu := hu_of hr
  refine ⟨_, pss_cons (ps_fldaug (pv 0) pe_int in_add)
      (pss_cons (ps_set (i := 2) sc_Ways_count.nd rfl (Or.inl rfl) pe_int)
      (pss_cons (ps_for PassesOwn.never rfl (pi_list (pe_fld (pv 1) rfl)) (pg_tup rfl (pgs_cons (pg_name (i := 3) sc_Ways_count.nd rfl (.inl rfl)) (pgs_cons (pg_name (i := 4) sc_Ways_count.nd rfl (.inl rfl)) pgs_nil))) (pss_cons (ps_if (pt_cmpR op_gt (pv 4) (pe_fld (pv 0) rfl) (nomark _)) (pss_one ps_never) pss_nil) (pss_one (ps_set (i := 2) sc_Ways_count.nd rfl (Or.inl rfl) (pe_op op_mulW (pv 2) (pv 4))))))
      (pss_cons (ps_if (pt_cmpR op_gt (pe_fld (pv 0) rfl) (pe_fld (pv 0) rfl) (nomark _)) (pss_one ps_never) pss_nil)
      (pss_one (ps_if (pt_cmpR op_eq (pe_fld (pv 1) rfl) pe_int (nomark _)) (pss_one (ps_dput hu (pe_fld (pv 0) rfl) (pv 2) (pe_op op_add (pe_dget2 hu (pe_fld (pv 0) rfl) (pv 2) pe_int (M2.mk rfl rfl rfl rfl)) pe_int) rfl)) pss_nil))))), ?_⟩
  refine ⟨_, rfl, x, _, dx, _, .int ((many : Nat) : Int), rfl, hx, T.cl_Ways, T.n_Ways_many, lk kWays 1, _, _, rfl, rfl, dx, _, hx, (by show 3 < 1000; decide), ?_⟩
  rw [putF_at kWays 1 (gs := wayF (many + 1) wn)]
  have npx : pl ≠ x := fun e => by
    rw [e, hx] at hp
    have z := (HO.ins.inj (Option.some.inj hp)).2.2
    cases z
  have ndx : dl ≠ x := ne_of hdl hx (by intro z; cases z)
  have nwx : wn ≠ x := ne_of hw hx (by intro z; cases z)
  have hx1 : (upd H x (.ins (He.ga K "Ways") dx (wayF (many + 1) wn))) x = some (.ins (He.ga K "Ways") dx (wayF (many + 1) wn)) := upd_same
  have hp1 : (upd H x (.ins (He.ga K "Ways") dx (wayF (many + 1) wn))) pl = _ := (upd_ne npx).trans hp
  have hdl1 : (upd H x (.ins (He.ga K "Ways") dx (wayF (many + 1) wn))) dl = _ := (upd_ne ndx).trans hdl
  have hw1 : (upd H x (.ins (He.ga K "Ways") dx (wayF (many + 1) wn))) wn = _ := (upd_ne nwx).trans hw
  have ht1 : ∀ b xs, H b = some (.tup xs) → (upd H x (.ins (He.ga K "Ways") dx (wayF (many + 1) wn))) b = some (.tup xs) := fun b xs z => (upd_ne (ne_of z hx (by intro z; cases z))).trans z
  have f1 : Fr (fun b => b = x ∨ b = wn) H (upd H x (.ins (He.ga K "Ways") dx (wayF (many + 1) wn))) := Fr.upd (.inl rfl)
  generalize (upd H x (.ins (He.ga K "Ways") dx (wayF (many + 1) wn))) = H1 at *
  refine ⟨_, rfl, pl, _, pdx, _, .ref dl, rfl, hp1, T.cl_Play, T.n_Play_draws, lk kPlay 2, dl, rfl, ⟨_, SqL.of hdl1⟩, for_list (K := K) (xs := ts.map V.ref) (fun i σ H' => (∃ x3 x4, σ = [some (.ref x), some (.ref pl), some (.int ((prodD (ds.take i) : Nat) : Int)), x3, x4]) ∧ H' = H1)
    ⟨⟨none, none, rfl⟩, rfl⟩ (fun i σ H' _ ⟨_, e⟩ => by rw [e]; exact SqL.of hdl1) ?_ ?_⟩
  · rintro i y σ H' hi ⟨⟨x3, x4, rfl⟩, rfl⟩
    obtain ⟨t, ht, rfl⟩ := get_map hi
    have li : i < ds.length := by rw [← hts]; exact (List.getElem?_eq_some_iff.mp ht).1
    have e1 : ds[i]? = some ds[i] := List.getElem?_eq_getElem li
    have hm := hds ds[i] (List.getElem_mem li)
    have lp := prodD_lt (ds := ds.take i) fun d hd' => hds d (List.mem_of_mem_take hd')
    have lt : (ds.take i).length = i := by rw [List.length_take]; omega
    refine ⟨t, _, rfl, SqT.of (ht1 _ _ (hd i t _ ht e1)), rfl, _, _, rfl, _, _, rfl, rfl, ?_⟩
    refine ⟨_, rfl, _, rfl, x, _, dx, _, .int 300000, rfl, hx1, T.cl_Ways, T.n_Ways_most, lk kWays 0, _, _, rfl, rfl, _, rfl, iteDF (by have h2 := hm; omega) ?_⟩
    refine ⟨_, rfl, _, rfl, _, _, rfl, rfl, wide_mul (a := 20 * i + 1) (b := 20) (by rw [Int.natAbs_natCast]; rw [lt] at lp; exact lp) (by rw [Int.natAbs_natCast]; exact Nat.lt_of_le_of_lt hm (by decide)) (by omega) (by decide) (by omega), ⟨some (.int ((ds[i].1 : Nat) : Int)), some (.int ((ds[i].2 : Nat) : Int)), ?_⟩, rfl⟩
    show [_, _, some (V.int (((prodD (ds.take i) : Nat) : Int) * ((ds[i].2 : Nat) : Int))), _, _] = _
    rw [take_more e1, prodD_snoc, Int.natCast_mul]
  · rintro σ H' ⟨⟨x3, x4, rfl⟩, rfl⟩
    rw [List.length_map, hts, List.take_length]
    refine ⟨_, rfl, x, _, dx, _, .int (((many + 1 : Nat) : Int)), rfl, hx1, T.cl_Ways, T.n_Ways_many, lk kWays 1, _, rfl, x, _, dx, _, .int 300000, rfl, hx1, T.cl_Ways, T.n_Ways_most, lk kWays 0, _, _, rfl, rfl, _, rfl, iteDF (by omega) ?_⟩
    refine ⟨_, rfl, pl, _, pdx, _, _, rfl, hp1, T.cl_Play, T.n_Play_outcome, lk kPlay 0, rfl, _, rfl, ?_⟩
    cases out with
    | false =>
      exact iteDF (by decide) (q _ f1 hx1 hw1)
    | true =>
      refine iteDT (by decide) ?_
      have e2 : wn ≠ x := nwx
      refine ⟨_, rfl, x, _, dx, _, .ref wn, rfl, hx1, T.cl_Ways, T.n_Ways_won, lk kWays 2, wn, rfl, .inl ⟨_, .inl hw1⟩, _, rfl, _, DGet.k (k := .inl ((prodD ds : Nat) : Int)) hw1, ?_⟩
      rw [cntK_get]
      refine ⟨_, _, rfl, rfl, _, rfl, x, _, dx, _, .ref wn, rfl, hx1, T.cl_Ways, T.n_Ways_won, lk kWays 2, _, rfl, wn, _, rfl, DPut.k (k := .inl ((prodD ds : Nat) : Int)) hw1 (by rw [cntK_len]; exact slt (by omega)), ?_⟩
      rw [cntK_put _ hnd]
      exact q _ (f1.trans (Fr.upd (.inr rfl))) (by rw [upd_ne nwx.symm]; exact hx1) upd_same
def spChance (K : PySem.W.Frag) : Sp := fun vs H Q _ => ∃ (x dx wn : Addr) (many : Nat) (l : Cnt), vs = [.ref x] ∧ H x = some (.ins (He.ga K "Ways") dx (wayF many wn)) ∧ H wn = some (.dK (cntK l)) ∧ CntOk l ∧ ∀ H' p, Same H H' → RatAt H' p (cntVal l) → Q (.ref p) H'
abbrev N_Ways_chance : List Str := ["self", "total", "under"]
abbrev P_Ways_chance : List Str := ["self"]
theorem sc_Ways_chance : FnScope N_Ways_chance P_Ways_chance (defScope s_Ways_chance) := ⟨rfl, rfl, rfl, by decide +kernel, rfl, by decide +kernel, by decide +kernel⟩
theorem c_Wchance (T : Txt w K mg) : Met P w K mg base 3 (He.ga K "Ways") "chance" (spChance K) [] := by
  refine T.m_Ways_chance.met sc_Ways_chance (fun _ _ _ _ _ _ us hl => match us, hl with | [_], _ => rfl) (fun vs H Q E h => ?_) (fun f cdv A outer s H vs Q E hr h => ?_)
  · obtain ⟨x, dx, wn, many, l, rfl, _⟩ := h
    rfl
  obtain ⟨x, dx, wn, many, l, rfl, hx, hw, ok, q⟩ := h
  have hu := hu_of hr
  refine ⟨_, pss_cons (ps_set (i := 1) sc_Ways_chance.nd rfl (Or.inl rfl) (pe_tup (pa_cons pe_int (pa_cons pe_int pa_nil))))
      (pss_cons (ps_for PassesOwn.never rfl (pi_list (pe_callB (call_sortedDI rfl) rfl T.b_sorted (by decide +kernel) (pa_cons (pe_fld (pv 0) rfl) pa_nil))) (pg_name (i := 2) sc_Ways_chance.nd rfl (Or.inl rfl)) (pss_one (ps_set (i := 1) sc_Ways_chance.nd rfl (Or.inl rfl) (pe_c (c_add T) hr (by decide) rfl (pa_cons (pv 1) (pa_cons (pe_c (c_fraction T) hr (by decide) rfl (pa_cons (pe_dget hu (pe_fld (pv 0) rfl) (pv 2) (fun _ _ => rfl)) (pa_cons (pv 2) pa_nil))) pa_nil))))))
      (pss_one (ps_ret (pv 1)))), ?_⟩
  refine ⟨(by show 2 ≤ sizeLine; decide), fun p0 hp0 => ?_⟩
  have s0 := same_new hp0 (.tup [V.int 0, V.int 1])
  have h0 : RatAt (upd H p0 (.tup [V.int 0, V.int 1])) p0 0 := upd_same
  generalize (upd H p0 (.tup [V.int 0, V.int 1])) = H0 at *
  refine ⟨_, rfl, x, _, dx, _, .ref wn, rfl, s0 _ _ hx, T.cl_Ways, T.n_Ways_won, lk kWays 2, wn, cntK l, _, rfl, .inl (s0 _ _ hw), cntK_keys l, (by rw [List.length_map]; exact ok.few), fun ys L hperm _ hL => ?_⟩
  have s1 := s0.trans (same_new hL (.lst (ys.map V.int)))
  have h1 : RatAt (upd H0 L (.lst (ys.map V.int))) p0 0 := same_new hL _ _ _ h0
  have hLL : (upd H0 L (.lst (ys.map V.int))) L = some (.lst (ys.map V.int)) := upd_same
  generalize (upd H0 L (.lst (ys.map V.int))) = H1 at *
  have hym : ∀ y ∈ ys, ∃ e ∈ l, y = ((e.1 : Nat) : Int) := fun y hy => by
    obtain ⟨e, he, rfl⟩ := List.mem_map.mp (hperm.mem_iff.mp hy)
    exact ⟨e, he, rfl⟩
  have ylen : ys.length < 64 := by rw [hperm.length_eq, List.length_map]; exact ok.few
  have fzs : ∀ i, Fz M0 (64 * KW) (sumL ((ys.take i).map (share l))) := fun i => by
    refine (Fz.sum (K := KW) (by decide) (l := (ys.take i).map (share l)) fun q hq => ?_).mono ?_
    · obtain ⟨y, hy, rfl⟩ := List.mem_map.mp hq
      obtain ⟨e, he, rfl⟩ := hym y (List.mem_of_mem_take hy)
      exact share_fz ok he
    · refine Nat.mul_le_mul_right _ ?_
      rw [List.length_map, List.length_take]
      omega
  refine ⟨L, rfl, ⟨_, SqL.of hLL⟩, for_list (K := K) (xs := ys.map V.int) (fun i σ H' => (∃ pt x2, σ = [some (.ref x), some (.ref pt), x2] ∧ RatAt H' pt (sumL ((ys.take i).map (share l)))) ∧ Same H1 H')
    ⟨⟨p0, none, rfl, h1⟩, Same.refl _⟩ (fun i σ H' _ ⟨_, e⟩ => SqL.of (e _ _ hLL)) ?_ ?_⟩
  · rintro i y σ H' hi ⟨⟨pt, x2, rfl, hpt⟩, sH⟩
    obtain ⟨z, hz, rfl⟩ := get_map hi
    obtain ⟨e, he, rfl⟩ := hym z (List.mem_of_getElem? hz)
    have s2 := s1.trans sH
    have d1 : e.1 < 2 ^ 500 := Nat.lt_of_le_of_lt (Nat.le_of_dvd (by decide) (ok.dv e he).1) m0_small
    refine ⟨_, rfl, _, rfl, x, _, dx, _, .ref wn, rfl, s2 _ _ hx, T.cl_Ways, T.n_Ways_won, lk kWays 2, _, rfl, wn, _, rfl, .inl ⟨_, .inl ((e.1 : Nat) : Int), .inl (s2 _ _ hw), rfl, (cntK_mem ok.nd he).symm⟩, _, rfl, ((e.2 : Nat) : Int), e.1, rfl, (ok.dv e he).2, Nat.lt_of_lt_of_le d1 (Nat.pow_le_pow_right (by decide) (by decide)), fun H2 t s3 ht => ?_⟩
    have em : mkRat ((e.2 : Nat) : Int) e.1 = share l ((e.1 : Nat) : Int) := by
      rw [share_mem ok.nd he, Rat.mkRat_eq_div]
      rfl
    rw [em] at ht
    refine ⟨pt, t, _, _, rfl, s3 _ _ hpt, ht, (fzs i).sm m0_small kw_small, (share_fz ok he).sm m0_small (Nat.lt_of_le_of_lt (by decide) kw_small), fun H3 t3 s4 ht3 => ⟨⟨t3, some (.int ((e.1 : Nat) : Int)), rfl, ?_⟩, (sH.trans s3).trans s4⟩⟩
    have e4 : sumL ((ys.take (i + 1)).map (share l)) = sumL ((ys.take i).map (share l)) + share l ((e.1 : Nat) : Int) := by
      rw [take_more hz, List.map_append, sumL_append]
      show _ + (share l ((e.1 : Nat) : Int) + 0) = _
      grind
    rw [e4]
    exact ht3
  · rintro σ H' ⟨⟨pt, x2, rfl, hpt⟩, sH⟩
    rw [List.length_map, List.take_length, sumL_perm (hperm.map (share l)), share_sum ok.nd] at hpt
    exact ⟨_, rfl, q H' pt (s1.trans sH) hpt⟩
end
end NX
namespace NX
open PySem PySem.Spec PyProof.Rows L2
open C8 (Cal Met Mak pe_c pe_mk pe_mt pe_mt0)
/-! ### so many draws at most -/
def Tr.LL {α : Type} (k : Nat) (t : Tr α) : Prop := ∀ cs, t.Ok cs → (t.run cs).2.length ≤ k
theorem Tr.ll_draw {α : Type} {k n : Nat} {f : Nat → Tr α} (h : ∀ i, i < n → (f i).LL k) : (Tr.draw n f).LL (k + 1) := fun cs ok => by
  have := h _ ok.1 _ ok.2
  simp only [Tr.run, List.length_cons]
  omega
theorem Tr.ll_bind {α β : Type} {j k : Nat} {t : Tr α} {f : α → Tr β} (h : t.LL j) (hf : ∀ a, (f a).LL k) : (t.bind f).LL (j + k) := fun cs ok => by
  obtain ⟨o1, o2⟩ := Tr.ok_bind ok
  have a := h _ o1
  have b := hf _ _ o2
  rw [Tr.run_bind, List.length_append]
  omega
theorem plain_ll : ∀ {b : Br} {d B : Nat} (h : Bs), b.Ok d B → (plainT b h).LL d
  | .say ps, d, B, h, ok => fun cs _ => Nat.zero_le _
  | .toss n f, 0, B, h, ok => ok.elim
  | .look k a b, 0, B, h, ok => ok.elim
  | .ask ps b, 0, B, h, ok => ok.elim
  | .toss n f, d + 1, B, h, ⟨h1, B', h2, h3⟩ => Tr.ll_draw fun i hi => plain_ll h (h3 i hi)
  | .look k a b, d + 1, B, h, ok => by
    simp only [plainT]
    intro cs o
    by_cases q : bitAt h k = true
    · rw [if_pos q] at o ⊢; exact Nat.le_succ_of_le (plain_ll h ok.2.2 cs o)
    · rw [if_neg q] at o ⊢; exact Nat.le_succ_of_le (plain_ll h ok.2.1 cs o)
  | .ask ps b, d + 1, B, h, ok => fun cs o => Nat.le_succ_of_le (plain_ll (b := b) h ok.2 cs o)
theorem ret_ll {α : Type} (a : α) : (Tr.ret a).LL 0 := fun _ _ => Nat.le_refl 0
theorem bt_ll {d B m : Nat} {b : Br} (mk : Bool) (ok : b.Ok d B) (ch : Bs) : (btT mk m b ch).LL (d + 1) := by
  cases mk with
  | false => exact fun cs o => Nat.le_succ_of_le (plain_ll ch ok cs o)
  | true => exact Tr.ll_draw fun i _ => Tr.ll_bind (k := 0) (plain_ll _ ok) fun _ => ret_ll _
theorem game_ll {nx mk real : Bool} {rows : List Bs} {n m d B : Nat} {b : Br} (ok : b.Ok d B) : (gameT nx rows n m real (btT mk m b)).LL (2 + (d + 1 + 0)) :=
  Tr.ll_bind (fun cs _ => tab_len nx rows n m real cs) fun _ => Tr.ll_bind (bt_ll mk ok _) fun _ => ret_ll _
theorem next_len : ∀ {ds : List (Nat × Nat)} {cs : List Nat}, next ds = some cs → cs.length ≤ ds.length
  | [], cs, h => by simp [next] at h
  | (c, n) :: ds, cs, h => by
    simp only [next] at h
    cases e : next ds with
    | some cs' =>
      rw [e] at h
      have := next_len e
      simp only [Option.some.injEq] at h
      subst h
      simp; omega
    | none =>
      rw [e] at h
      simp only at h
      by_cases q : c + 1 < n
      · rw [if_pos q] at h
        simp only [Option.some.injEq] at h
        subst h
        simp
      · rw [if_neg q] at h; cases h
theorem winsL_snoc (l : List (Leaf Bool)) (x : Leaf Bool) (c : Cnt) : notes (winsL (l ++ [x])) c = noteIf x.1 (prodD x.2) (notes (winsL l) c) := by
  rw [winsL_append, notes_append]
  obtain ⟨o, ds⟩ := x
  cases o <;> rfl
section
variable {P : Program} {w : World} {K : PySem.W.Frag} {mg : Str → Option Value} {base : Heap}
/-- what Ways is asked with -/
structure Asked (H : Hp) (nx real mk : Bool) (a g ba : Addr) (rows : List Bs) (n m : Nat) (b : Br) (d B : Nat) : Prop where
  ga : GameAt H nx real g a
  gn : GenAt H g rows n m
  mk_ : MkAt H mk m b ba
  hm : mk = true → nx = true
  ok : b.Ok d B
  hB : B ≤ 12
  hd : d ≤ 10
theorem Asked.keep {H H' : Hp} {nx real mk : Bool} {a g ba : Addr} {rows : List Bs} {n m : Nat} {b : Br} {d B : Nat} (h : Asked H nx real mk a g ba rows n m b d B) (k : ∀ b xs, H b = some (.tup xs) → H' b = some (.tup xs)) : Asked H' nx real mk a g ba rows n m b d B :=
  ⟨k _ _ h.ga, h.gn.keep k, h.mk_.keep k, h.hm, h.ok, h.hB, h.hd⟩
def spWaysInit (K : PySem.W.Frag) : Sp := fun vs H Q _ => ∃ (nx real mk : Bool) (x dx a g ba : Addr) (rows : List Bs) (n m : Nat) (b : Br) (d B : Nat), vs = [.ref x, .ref a, .ref ba, .int 300000] ∧ H x = some (.ins (He.ga K "Ways") dx []) ∧ Asked H nx real mk a g ba rows n m b d B ∧
  ∀ H' wn many, Fr (fun b => b = x) H H' → H' x = some (.ins (He.ga K "Ways") dx (wayF many wn)) → H' wn = some (.dK (cntK (cntT (gameT nx rows n m real (btT mk m b))))) → Q .non H'
abbrev N_Ways_init : List Str := ["self", "game", "breaker", "most", "choices", "play"]
abbrev P_Ways_init : List Str := ["self", "game", "breaker", "most"]
theorem sc_Ways_init : FnScope N_Ways_init P_Ways_init (defScope s_Ways_init) := ⟨rfl, rfl, rfl, by decide +kernel, rfl, by decide +kernel, by decide +kernel⟩
/-- the loop of Ways: done are counted, rest are left -/
structure WaysW (K : PySem.W.Frag) (H : Hp) (x dx wn a ba : Addr) (t : Tr Bool) (m : Nat) (σ : L2.St) (H1 : Hp) (done rest : List (Leaf Bool)) (c : V) : Prop where
  all : t.rem [] = done ++ rest
  len : m = rest.length
  st : ∃ x5, σ = [some (.ref x), some (.ref a), some (.ref ba), some (.int 300000), some c, x5]
  fr : Fr (fun b => b = x ∨ H b = none) H H1
  hx : H1 x = some (.ins (He.ga K "Ways") dx (wayF done.length wn))
  hw : H1 wn = some (.dK (cntK (notes (winsL done) [])))
  cs : (rest = [] ∧ c = .non) ∨ ∃ cs cl, c = .ref cl ∧ H1 cl = some (.lst (cs.map fun (k : Nat) => V.int (k : Int))) ∧ t.Ok cs ∧ rest = t.rem cs ∧ cs.length ≤ 500
theorem c_Ways_init (T : Txt w K mg) : Mak P w K mg base 8 "Ways" (He.ga K "Ways") (spWaysInit K) [] := by
  refine T.i_Ways.mak sc_Ways_init (fun _ _ _ _ _ _ us hl => match us, hl with | [_, _, _, _], _ => rfl) (fun vs H Q E h => ?_) (fun f cdv A outer s H vs Q E hr h => ?_)
  · obtain ⟨nx, real, mk, x, dx, a, g, ba, rows, n, m, b, d, B, rfl, _⟩ := h
    rfl
  obtain ⟨nx, real, mk, x, dx, a, g, ba, rows, n, m, b, d, B, rfl, hx, AK, q⟩ := h
  have gn2 := AK.gn.n2
  have gm1 := AK.gn.m1
  have gm3 := AK.gn.m3
  have tp : (gameT nx rows n m real (btT mk m b)).Pos := game_pos AK.ok gm1
  have tl : (gameT nx rows n m real (btT mk m b)).LL (2 + (d + 1 + 0)) := game_ll AK.ok
  have tpp := game_pp (nx := nx) (mk := mk) (real := real) (rows := rows) AK.ok AK.hB gn2 gm3
  have tm : ((gameT nx rows n m real (btT mk m b)).rem []).length ≤ 2304 := Tr.len_rem _ _ tp (game_most AK.ok AK.hB gn2 gm3)
  have hd10 := AK.hd
  generalize ht : gameT nx rows n m real (btT mk m b) = t at *
  refine ⟨_, pss_cons (ps_fld (pv 0) (pv 3) rfl)
      (pss_cons (ps_fld (pv 0) pe_int rfl)
      (pss_cons (ps_fld (pv 0) pe_dnewK rfl)
      (pss_cons (ps_set (i := 4) sc_Ways_init.nd rfl (Or.inl rfl) (pe_lst pa_nil))
      (pss_one (ps_while PassesOwn.never (pt_cmpR op_notN (pv 4) pe_non (nomark _)) (pss_cons (ps_set (i := 5) sc_Ways_init.nd rfl (Or.inl rfl) (pe_c (c_played T) hr (by decide) rfl (pa_cons (pv 1) (pa_cons (pv 2) (pa_cons (pv 4) pa_nil))))) (pss_cons (ps_expr (pe_mt (c_count T) hr (by decide) (pv 0) (pa_cons (pv 5) pa_nil))) (pss_one (ps_set (i := 4) sc_Ways_init.nd rfl (Or.inl rfl) (pe_c (c_next_choices T) hr (by decide) rfl (pa_cons (pe_fld (pv 5) rfl) pa_nil))))))))))), ?_⟩
  refine ⟨_, rfl, _, rfl, x, _, dx, [], rfl, hx, T.cl_Ways, T.n_Ways_most, (by show 0 < 1000; decide), ?_⟩
  rw [putF_new (f := "most") []]
  refine ⟨_, rfl, x, _, dx, _, rfl, upd_same, T.cl_Ways, T.n_Ways_many, (by show 1 < 1000; decide), ?_⟩
  rw [putF_new (f := "many") ["most"]]
  intro wn hwn
  have hwn0 : H wn = none := upd_none (upd_none hwn)
  have nxw : x ≠ wn := ne_of_none hx hwn0
  refine ⟨_, rfl, x, _, dx, _, rfl, (by rw [upd_ne nxw, upd_same]), T.cl_Ways, T.n_Ways_won, (by show 2 < 1000; decide), ?_⟩
  rw [putF_new (f := "won") ["most", "many"]]
  refine ⟨Nat.zero_le _, fun c0 hc0 => ?_⟩
  have hc00 := upd_none (upd_none (upd_none (upd_none hc0)))
  have ncx : x ≠ c0 := ne_of_none hx hc00
  have ncw : wn ≠ c0 := fun e => by
    rw [← e, upd_ne nxw.symm, upd_same] at hc0
    cases hc0
  refine ⟨fun mm σ H1 => ∃ done rest c, WaysW K H x dx wn a ba t mm σ H1 done rest c, ⟨_, [], t.rem [], .ref c0, rfl, rfl, ⟨none, rfl⟩, ?_, ?_, ?_, .inr ⟨[], c0, rfl, upd_same, Tr.ok_nil tp, rfl, Nat.zero_le _⟩⟩, ?_⟩
  · exact ((((Fr.upd (N := fun b => b = x ∨ H b = none) (.inl rfl)).trans (Fr.upd (.inl rfl))).trans (Fr.upd (.inr hwn0))).trans (Fr.upd (.inl rfl))).trans (Fr.upd (.inr hc00))
  · rw [upd_ne ncx, upd_same]; rfl
  · rw [upd_ne ncw, upd_ne nxw.symm, upd_same]; rfl
  rintro mm σ H1 ⟨done, rest, c, W⟩
  obtain ⟨wall, wlen, ⟨x5, rfl⟩, wfr, whx, whw, wcs⟩ := W
  rcases wcs with ⟨rfl, rfl⟩ | ⟨cs, cl, rfl, hcl, okc, rfl, hcs⟩
  · refine ⟨_, rfl, rfl, _, rfl, iteF ?_⟩
    rw [List.append_nil] at wall
    have e : cntT t = notes (winsL done) [] := by unfold cntT; rw [wall]
    rw [← e] at whw
    exact q H1 wn _ (fun b o h n => wfr b o h fun z => z.elim n fun z => by rw [z] at h; cases h) whx whw
  · refine ⟨_, rfl, rfl, _, rfl, iteT ?_⟩
    obtain ⟨r1, r2⟩ := Tr.rem_step tp okc
    have run_in : t.run cs ∈ t.rem [] := by rw [wall, r2]; simp
    have lrun := tl cs okc
    have ppr := (tpp cs okc).2
    have kt : ∀ b xs, H b = some (.tup xs) → H1 b = some (.tup xs) := fun b xs z => wfr b _ z fun n => by
      rcases n with rfl | n
      · rw [hx] at z; cases z
      · rw [n] at z; cases z
    have A1 := AK.keep kt
    have okc' : (gameT nx rows n m real (btT mk m b)).Ok cs := by rw [ht]; exact okc
    refine ⟨fun σ' H' => ∃ m', m' < mm ∧ _, fun _ _ z => z, ?_⟩
    refine ⟨_, rfl, _, rfl, _, rfl, nx, real, mk, a, g, ba, cl, cs, rows, n, m, b, d, B, rfl, A1.ga, A1.gn, A1.mk_, A1.hm, A1.ok, A1.hd, hcl, hcs, okc', fun H2 pl s2 PL => ?_⟩
    rw [ht] at PL
    have hx2 := s2 _ _ whx
    have hw2 := s2 _ _ whw
    have dl1 : done.length + (t.rem cs).length ≤ 2304 := by rw [← List.length_append, ← wall]; exact tm
    have dl2 : 1 ≤ (t.rem cs).length := by rw [r2]; simp
    have nd2 : ((notes (winsL done) []).map (·.1)).Nodup := notes_nodup _ (by simp)
    have ln2 : (notes (winsL done) []).length ≤ 5000 := by
      have a1 := notes_len (winsL done) []
      have a2 : (winsL done).length ≤ done.length := by
        unfold winsL
        rw [List.length_map]
        exact List.length_filter_le _ _
      have a3 : ([] : Cnt).length = 0 := rfl
      omega
    refine ⟨_, rfl, x, dx, _, rfl, hx2, lkN kWays, _, rfl, x, dx, wn, pl, _, _, _, _, rfl, hx2, hw2, PL, ppr, by omega, by omega, nd2, ln2, fun H3 f3 e1 e2 => ?_⟩
    obtain ⟨pdx, sd, dl, av, ts, hp, hdl, hts⟩ := PL.ex
    have npx : pl ≠ x := fun e => by
      rw [e, hx2] at hp
      have z := (HO.ins.inj (Option.some.inj hp)).2.2
      cases z
    have npw : pl ≠ wn := fun e => by rw [e, hw2] at hp; cases hp
    have ndx : dl ≠ x := fun e => by rw [e, hx2] at hdl; cases hdl
    have ndw : dl ≠ wn := fun e => by rw [e, hw2] at hdl; cases hdl
    have hp3 := f3 _ _ hp fun z => z.elim npx npw
    have hdl3 := f3 _ _ hdl fun z => z.elim ndx ndw
    have hts3 : DrawsOk H3 ts (t.run cs).2 := hts.keep fun b xs z => f3 _ _ z fun n => by
      rcases n with rfl | rfl
      · rw [hx2] at z; cases z
      · rw [hw2] at z; cases z
    have fr3 : Fr (fun b => b = x ∨ H b = none) H H3 := (wfr.trans (Fr.of_same s2)).trans (f3.mono fun b z => by
      rcases z with rfl | rfl
      · exact .inl rfl
      · exact .inr hwn0)
    have e2' : H3 wn = some (.dK (cntK (notes (winsL (done ++ [t.run cs])) []))) := by rw [winsL_snoc]; exact e2
    have e1' : H3 x = some (.ins (He.ga K "Ways") dx (wayF (done ++ [t.run cs]).length wn)) := by rw [List.length_append]; exact e1
    refine ⟨_, rfl, pl, _, pdx, _, .ref dl, rfl, hp3, T.cl_Play, T.n_Play_draws, lk kPlay 2, dl, ts, _, rfl, hdl3, hts3, by omega, fun hn H4 s4 => ?_, fun cs' hn H4 p s4 e4 => ?_⟩
    · rw [hn] at r2
      simp only at r2
      refine ⟨0, by omega, done ++ [t.run cs], [], .non, ?_, rfl, ⟨_, rfl⟩, fr3.trans (Fr.of_same s4), s4 _ _ e1', s4 _ _ e2', .inl ⟨rfl, rfl⟩⟩
      rw [wall, r2, List.append_nil]
    · rw [hn] at r2
      simp only at r2
      refine ⟨(t.rem cs').length, by rw [wlen, r2]; simp, done ++ [t.run cs], t.rem cs', .ref p, ?_, rfl, ⟨_, rfl⟩, fr3.trans (Fr.of_same s4), s4 _ _ e1', s4 _ _ e2', .inr ⟨cs', p, rfl, e4, r1 cs' hn, rfl, ?_⟩⟩
      · rw [wall, r2, List.append_assoc]; rfl
      · have := next_len hn; omega
/-- the counts of a game, ready -/
def WaysAt (K : PySem.W.Frag) (H : Hp) (x : Addr) (l : Cnt) : Prop := ∃ dx wn many, H x = some (.ins (He.ga K "Ways") dx (wayF many wn)) ∧ H wn = some (.dK (cntK l))
def spWaysOf (K : PySem.W.Frag) : Sp := fun vs H Q _ => ∃ (nx real mk : Bool) (a g ba : Addr) (rows : List Bs) (n m : Nat) (b : Br) (d B : Nat), vs = [.ref a, .ref ba, .int 300000] ∧ Asked H nx real mk a g ba rows n m b d B ∧ d ≤ 2 ∧
  ∀ H' x, Same H H' → WaysAt K H' x (cntT (gameT nx rows n m real (btT mk m b))) → Q (.ref x) H'
/-- Ways(..) made anew: what holds behind it -/
theorem ways_made {H H1 H2 : Hp} {x dx : Addr} (nx : H1 x = none) (ndx : H1 dx = none) (f : Fr (fun b => b = x) (upd (upd H1 dx (.own x)) x (.ins (He.ga K "Ways") dx [])) H2) : Same H1 H2 := fun b o h => f b o (by rw [upd_ne (ne_of_none h nx), upd_ne (ne_of_none h ndx)]; exact h) (ne_of_none h nx)
abbrev N_ways_of : List Str := ["game", "breaker", "most"]
abbrev P_ways_of : List Str := ["game", "breaker", "most"]
theorem sc_ways_of : FnScope N_ways_of P_ways_of (defScope s_ways_of) := ⟨rfl, rfl, rfl, by decide +kernel, rfl, by decide +kernel, by decide +kernel⟩
theorem c_ways_of (T : Txt w K mg) : Cal P w K mg base 10 "ways_of" (spWaysOf K) [] := by
  refine T.f_ways_of.cal sc_ways_of (fun _ _ _ _ _ _ us hl => match us, hl with | [_, _, _], _ => rfl) (fun vs H Q E h => ?_) (fun f cdv A outer s H vs Q E hr h => ?_)
  · obtain ⟨nx, real, mk, a, g, ba, rows, n, m, b, d, B, rfl, _⟩ := h
    rfl
  obtain ⟨nx, real, mk, a, g, ba, rows, n, m, b, d, B, rfl, AK, hd2, q⟩ := h
  refine ⟨_, pss_cons (ps_expr (pe_c (c_check_game T) hr (by decide) rfl (pa_cons (pv 0) pa_nil)))
      (pss_cons (ps_expr (pe_c (c_check_breaker T) hr (by decide) rfl (pa_cons (pv 1) pa_nil)))
      (pss_one (ps_ret (pe_mk (c_Ways_init T) hr (by decide) rfl (pa_cons (pv 0) (pa_cons (pv 1) (pa_cons (pv 2) pa_nil))))))), ?_⟩
  refine ⟨_, rfl, nx, real, a, g, rows, n, m, rfl, AK.ga, AK.gn, fun H1 s1 => ?_⟩
  have A1 := AK.keep fun b xs z => s1 _ _ z
  refine ⟨_, rfl, mk, m, ba, b, d, B, rfl, A1.mk_, A1.gn.m1, (by have := A1.gn.m3; omega), A1.ok, A1.hB, hd2, fun H2 s2 => ?_⟩
  have A2 := A1.keep fun b xs z => s2 _ _ z
  refine ⟨_, rfl, _, rfl, _, rfl, fun x dx nxx ndx nne => ⟨nx, real, mk, x, dx, a, g, ba, rows, n, m, b, d, B, rfl, upd_same, A2.keep fun b xs z => by rw [upd_ne (ne_of_none z nxx), upd_ne (ne_of_none z ndx)]; exact z, fun H3 wn many f3 e1 e2 => ⟨rfl, ?_⟩⟩⟩
  exact q H3 x ((s1.trans s2).trans (ways_made (H := H) nxx ndx f3)) ⟨dx, wn, many, e1, e2⟩
theorem Asked.cnt {H : Hp} {nx real mk : Bool} {a g ba : Addr} {rows : List Bs} {n m : Nat} {b : Br} {d B : Nat} (h : Asked H nx real mk a g ba rows n m b d B) : CntOk (cntT (gameT nx rows n m real (btT mk m b))) := game_cnt h.ok h.hB h.gn.n2 h.gn.m1 h.gn.m3
theorem Asked.val {H : Hp} {nx real mk : Bool} {a g ba : Addr} {rows : List Bs} {n m : Nat} {b : Br} {d B : Nat} (h : Asked H nx real mk a g ba rows n m b d B) : cntVal (cntT (gameT nx rows n m real (btT mk m b))) = (gameT nx rows n m real (btT mk m b)).E := cntT_val (game_pos h.ok h.gn.m1)
def spChanceF : Sp := fun vs H Q _ => ∃ (nx real mk : Bool) (a g ba : Addr) (rows : List Bs) (n m : Nat) (b : Br) (d B : Nat), vs = [.ref a, .ref ba, .int 300000] ∧ Asked H nx real mk a g ba rows n m b d B ∧ d ≤ 2 ∧
  ∀ H' p, Same H H' → RatAt H' p (gameT nx rows n m real (btT mk m b)).E → Q (.ref p) H'
theorem KwAt.cal {N ps : List Str} {k n : Nat} {sp : Sp} {x : Str} {st : Stmt} (F : KwAt K mg x st) (S : FnScope N ps (defScope st)) (hn : n + 1 = ps.length)
    (b : ∀ (D : Addr) (doc pm : Value) (an : Option Addr) (cdv ct : Value) (us ks : List Value), us.length = n → ks.length = 1 → KwChain D ((["most"] : List Str).zip ks) (bindArgs (PySem.W.fnOf x x (defArgs st) (defBody st) (defScope st) .none (.ref D) doc pm an cdv ct) ⟨us, []⟩) (ps.zip (us ++ ks)))
    (len : ∀ vs H Q E, sp vs H Q E → vs.length = ps.length)
    (hbody : ∀ (f : Addr) (cdv : Value) (A : Around) (outer : List Env) (s : Shared) (H : Hp) (vs : List V) (Q : VK) (E : XK), Room k (A.deeper (envOfC x (defScope st) s.heap.objs.size f cdv)) → sp vs H Q E →
      ∃ t, PSs (cxOf CX0 P w K mg base N x (defScope st) f cdv A outer s H E).nox (defBody st) t ∧ t { nx := fun _ H' => Q .non H', rt := Q } (start N vs) H) : Cal P w K mg base (k + 1) x sp [.int 300000] := by
  obtain ⟨f, fd, hm, FD⟩ := F.ex
  obtain ⟨ds, hv, hb⟩ := FD.binds0 n (by simp) hn b
  refine ⟨f, fd, ps, ds, FD.ok S len (fun cdv A outer s H vs Q E hr h => ?_), hm, FD.kp, hb, hv⟩
  obtain ⟨t, h1, h2⟩ := hbody f cdv A outer s H vs Q E hr h
  exact ⟨t, h1.nox, h2⟩
abbrev N_chance : List Str := ["game", "breaker", "most"]
abbrev P_chance : List Str := ["game", "breaker", "most"]
theorem sc_chance : FnScope N_chance P_chance (defScope s_chance) := ⟨rfl, rfl, rfl, by decide +kernel, rfl, by decide +kernel, by decide +kernel⟩
theorem c_chance (T : Txt w K mg) : Cal P w K mg base 11 "chance" spChanceF [.int 300000] := by
  refine T.f_chance.cal (n := 2) sc_chance rfl (fun D doc pm an cdv ct us ks hl hk => match us, ks, hl, hk with | [_, _], [_], _, _ => ⟨_, _, _, _, _, _, rfl, rfl, rfl⟩) (fun vs H Q E h => ?_) (fun f cdv A outer s H vs Q E hr h => ?_)
  · obtain ⟨nx, real, mk, a, g, ba, rows, n, m, b, d, B, rfl, _⟩ := h
    rfl
  obtain ⟨nx, real, mk, a, g, ba, rows, n, m, b, d, B, rfl, AK, hd2, q⟩ := h
  refine ⟨_, pss_one (ps_ret (pe_mt0 (c_Wchance T) hr (by decide) (pe_c (c_ways_of T) hr (by decide) rfl (pa_cons (pv 0) (pa_cons (pv 1) (pa_cons (pv 2) pa_nil)))))), ?_⟩
  refine ⟨_, rfl, _, rfl, _, rfl, nx, real, mk, a, g, ba, rows, n, m, b, d, B, rfl, AK, hd2, fun H1 x s1 W => ?_⟩
  obtain ⟨dx, wn, many, e1, e2⟩ := W
  refine ⟨x, dx, _, rfl, e1, lkN kWays, x, dx, wn, many, _, rfl, e1, e2, AK.cnt, fun H2 p s2 hp => ?_⟩
  rw [AK.val] at hp
  exact q H2 p (s1.trans s2) hp
/-- the fractions of a game are small -/
theorem Asked.fz {H : Hp} {nx real mk : Bool} {a g ba : Addr} {rows : List Bs} {n m : Nat} {b : Br} {d B : Nat} (h : Asked H nx real mk a g ba rows n m b d B) : Fz M0 (64 * KW) (gameT nx rows n m real (btT mk m b)).E := by
  rw [← h.val]
  have ok := h.cnt
  rw [← share_sum ok.nd]
  refine (Fz.sum (D := M0) (K := KW) (by decide) (l := ((cntT (gameT nx rows n m real (btT mk m b))).map fun x => ((x.1 : Nat) : Int)).map (share (cntT (gameT nx rows n m real (btT mk m b))))) fun q hq => ?_).mono ?_
  · obtain ⟨y, hy, rfl⟩ := List.mem_map.mp hq
    obtain ⟨e, he, rfl⟩ := List.mem_map.mp hy
    exact share_fz ok he
  · refine Nat.mul_le_mul_right _ ?_
    rw [List.length_map, List.length_map]
    exact Nat.le_of_lt ok.few
theorem Asked.sm {H : Hp} {nx real mk : Bool} {a g ba : Addr} {rows : List Bs} {n m : Nat} {b : Br} {d B : Nat} (h : Asked H nx real mk a g ba rows n m b d B) : Sm (gameT nx rows n m real (btT mk m b)).E := h.fz.sm m0_small kw_small
def spAdv : Sp := fun vs H Q _ => ∃ (g ba : Addr) (rows : List Bs) (n m : Nat) (b : Br) (d B : Nat), vs = [.ref g, .ref ba, .int 300000] ∧ GenAt H g rows n m ∧ BrAt H b ba ∧ b.Ok d B ∧ B ≤ 12 ∧ d ≤ 2 ∧
  ∀ H' p, Same H H' → RatAt H' p ((genG rows n m true (plainT b)).E - (genG rows n m false (plainT b)).E) → Q (.ref p) H'
abbrev N_advantage : List Str := ["block", "breaker", "most", "real"]
abbrev P_advantage : List Str := ["block", "breaker", "most"]
theorem sc_advantage : FnScope N_advantage P_advantage (defScope s_advantage) := ⟨rfl, rfl, rfl, by decide +kernel, rfl, by decide +kernel, by decide +kernel⟩
theorem c_advantage (T : Txt w K mg) : Cal P w K mg base 10 "advantage" spAdv [.int 300000] := by
  refine T.f_advantage.cal (n := 2) sc_advantage rfl (fun D doc pm an cdv ct us ks hl hk => match us, ks, hl, hk with | [_, _], [_], _, _ => ⟨_, _, _, _, _, _, rfl, rfl, rfl⟩) (fun vs H Q E h => ?_) (fun f cdv A outer s H vs Q E hr h => ?_)
  · obtain ⟨g, ba, rows, n, m, b, d, B, rfl, _⟩ := h
    rfl
  obtain ⟨g, ba, rows, n, m, b, d, B, rfl, G, hb, ok, hB, hd2, q⟩ := h
  refine ⟨_, pss_cons (ps_expr (pe_c (c_check_block T) hr (by decide) rfl (pa_cons (pv 0) pa_nil)))
      (pss_cons (ps_expr (pe_c (c_check_breaker T) hr (by decide) rfl (pa_cons (pv 1) pa_nil)))
      (pss_cons (ps_set (i := 3) sc_advantage.nd rfl (Or.inl rfl) (pe_mt0 (c_Wchance T) hr (by decide) (pe_mk (c_Ways_init T) hr (by decide) rfl (pa_cons (pe_tup (pa_cons (pe_ix ix_tup (pv 0) pe_int (fun _ _ => rfl)) (pa_cons (pv 0) (pa_cons pe_bl pa_nil)))) (pa_cons (pv 1) (pa_cons (pv 2) pa_nil))))))
      (pss_one (ps_ret (pe_c (c_less T) hr (by decide) rfl (pa_cons (pv 3) (pa_cons (pe_mt0 (c_Wchance T) hr (by decide) (pe_mk (c_Ways_init T) hr (by decide) rfl (pa_cons (pe_tup (pa_cons (pe_ix ix_tup (pv 0) pe_int (fun _ _ => rfl)) (pa_cons (pv 0) (pa_cons pe_bl pa_nil)))) (pa_cons (pv 1) (pa_cons (pv 2) pa_nil))))) pa_nil))))))), ?_⟩
  have gm3 := G.m3
  have AKof : ∀ (real : Bool) (H1 : Hp) (t : Addr), Same H H1 → H1 t = some (.tup [.str "generator", .ref g, .bl real]) → Asked H1 false real false t g ba rows n m b d B := fun real H1 t s1 ht =>
    ⟨ht, G.same s1, hb.same s1, (fun z => nomatch z), ok, hB, by omega⟩
  refine ⟨_, rfl, g, rows, n, m, rfl, G, fun H1 s1 => ?_⟩
  refine ⟨_, rfl, false, m, ba, b, d, B, rfl, hb.same s1, G.m1, by omega, ok, hB, hd2, fun H2 s2 => ?_⟩
  have s12 := s1.trans s2
  obtain ⟨r, g1, g2⟩ := (G.same s12).at_
  refine ⟨_, rfl, g, _, 0, _, rfl, rfl, SqT.of g1, rfl, _, rfl, (by show 3 ≤ sizeLine; decide), fun t ht => ⟨_, rfl, _, rfl, fun x dx nxx ndx nne => ?_⟩⟩
  have s3 := s12.trans (same_new ht (.tup [V.str "generator", V.ref g, V.bl true]))
  have ht3 : (upd H2 t (.tup [V.str "generator", V.ref g, V.bl true])) t = some (.tup [.str "generator", .ref g, .bl true]) := upd_same
  generalize (upd H2 t (.tup [V.str "generator", V.ref g, V.bl true])) = H3 at *
  have A3 := AKof true H3 t s3 ht3
  refine ⟨false, true, false, x, dx, t, g, ba, rows, n, m, b, d, B, rfl, upd_same, A3.keep fun b xs z => by rw [upd_ne (ne_of_none z nxx), upd_ne (ne_of_none z ndx)]; exact z, fun H4 wn many f4 e1 e2 => ⟨rfl, ?_⟩⟩
  have s4 := s3.trans (ways_made (H := H) nxx ndx f4)
  refine ⟨x, dx, _, rfl, e1, lkN kWays, x, dx, wn, many, _, rfl, e1, e2, A3.cnt, fun H5 p s5 hp => ?_⟩
  rw [A3.val] at hp
  have s45 := s4.trans s5
  obtain ⟨r', g1', g2'⟩ := (G.same s45).at_
  refine ⟨_, rfl, _, rfl, g, _, 0, _, rfl, rfl, SqT.of g1', rfl, _, rfl, (by show 3 ≤ sizeLine; decide), fun t' ht' => ⟨_, rfl, _, rfl, fun x' dx' nxx' ndx' nne' => ?_⟩⟩
  have s6' := same_new ht' (.tup [V.str "generator", V.ref g, V.bl false])
  have ht6 : (upd H5 t' (.tup [V.str "generator", V.ref g, V.bl false])) t' = some (.tup [.str "generator", .ref g, .bl false]) := upd_same
  generalize (upd H5 t' (.tup [V.str "generator", V.ref g, V.bl false])) = H6 at *
  have s6 := s45.trans s6'
  have A6 := AKof false H6 t' s6 ht6
  refine ⟨false, false, false, x', dx', t', g, ba, rows, n, m, b, d, B, rfl, upd_same, A6.keep fun b xs z => by rw [upd_ne (ne_of_none z nxx'), upd_ne (ne_of_none z ndx')]; exact z, fun H7 wn' many' f7 e1' e2' => ⟨rfl, ?_⟩⟩
  have s7' := ways_made (H := H) nxx' ndx' f7
  refine ⟨x', dx', _, rfl, e1', lkN kWays, x', dx', wn', many', _, rfl, e1', e2', A6.cnt, fun H8 p' s8 hp' => ?_⟩
  rw [A6.val] at hp'
  refine ⟨p, p', _, _, rfl, s8 _ _ (s7' _ _ (s6' _ _ hp)), hp', A3.sm, A6.sm, fun H9 z s9 hz => q H9 z ((((s6.trans s7').trans s8)).trans s9) ?_⟩
  rw [gameT_gen, gameT_gen] at hz
  exact hz
end
end NX
namespace NX
open PySem PySem.Spec PyProof.Rows L2
open C8 (Cal Met Mak pe_c pe_mk pe_mt pe_mt0)
/-- a statement whose ends in front meet in M -/
def tJoin (t : TS) : TS := fun D σ H => ∃ M : L2.St → Hp → Prop, t { D with nx := M } σ H ∧ ∀ σ' H', M σ' H' → D.nx σ' H'
theorem ps_join {X : Cx} {st : Stmt} {t : TS} (h : PS X st t) : PS X st (tJoin t) := by
  refine ⟨fun pins s σ H D I hw => ?_⟩
  obtain ⟨M, h1, h2⟩ := hw
  refine thn (h.run pins s σ H _ I h1) fun f s1 q => ?_
  cases f with
  | next => obtain ⟨σ', H', I2, q⟩ := q; exact ⟨σ', H', I2, h2 _ _ q⟩
  | brk => exact q
  | cont => exact q
  | ret v => exact q
/-! ### dicts by text keys -/
theorem vget0 {k : Key} {v : V} : ∀ {kvs : List (Key × V)} {i : Nat}, kvs[i]? = some (k, v) → ((kvs.map (·.1)).take i).all (fun g => !decide (g = k)) = true → valV kvs k = some v
  | [], i, hv, _ => by simp at hv
  | (g, x) :: r, 0, hv, _ => by
    simp at hv
    obtain ⟨rfl, rfl⟩ := hv
    exact valV_pos rfl
  | (g, x) :: r, i + 1, hv, hn => by
    simp at hv
    simp only [List.map_cons, List.take_succ_cons, List.all_cons, Bool.and_eq_true] at hn
    have ne : ¬ g = k := by simpa using hn.1
    rw [valV_neg ne]
    exact vget0 hv hn.2
theorem vget (ks : List Key) (i : Nat) {kvs : List (Key × V)} {k : Key} {v : V} (hv : kvs[i]? = some (k, v) := by rfl) (hk : kvs.map (·.1) = ks := by rfl) (hn : (ks.take i).all (fun g => !decide (g = k)) = true := by decide +kernel) : valV kvs k = some v := vget0 hv (by rw [hk]; exact hn)
theorem vput (ks : List Key) (i : Nat) {kvs kws : List (Key × V)} {k : Key} {v : V} (hg : kws = kvs.set i (k, v) := by rfl) (hk : kvs.map (·.1) = ks := by rfl) (hi : ks[i]? = some k := by rfl) (hn : ((ks.take i).all (fun g => !decide (g = k)) && (ks.drop (i + 1)).all (fun g => !decide (g = k))) = true := by decide +kernel) : putK kvs k v = kws := by
  subst hg
  subst hk
  rw [Bool.and_eq_true] at hn
  have e1 : (kvs.any fun kv => decide (kv.1 = k)) = true := by
    rw [List.getElem?_map] at hi
    cases q : kvs[i]? with
    | none => rw [q] at hi; cases hi
    | some z =>
      rw [q] at hi
      exact List.any_eq_true.mpr ⟨z, List.mem_of_getElem? q, decide_eq_true (Option.some.inj hi)⟩
  unfold putK
  rw [if_pos e1]
  have ne : ∀ (l : List Key), l.all (fun g => !decide (g = k)) = true → ∀ x ∈ l, ¬ x = k := fun l h x hx => by simpa using List.all_eq_true.mp h x hx
  have n1 := ne _ hn.1
  have n2 := ne _ hn.2
  have hi2 : i < kvs.length := by
    have := (List.getElem?_eq_some_iff.mp hi).1
    simpa using this
  apply List.ext_getElem?
  intro j
  rw [List.getElem?_map, List.getElem?_set]
  by_cases hj : i = j
  · subst hj
    rw [if_pos rfl, if_pos hi2, List.getElem?_eq_getElem hi2]
    have e3 : kvs[i].1 = k := by
      rw [List.getElem?_map, List.getElem?_eq_getElem hi2] at hi
      exact Option.some.inj hi
    show some (if kvs[i].1 = k then _ else _) = _
    rw [if_pos e3, e3]
  · rw [if_neg hj]
    cases q : kvs[j]? with
    | none => rfl
    | some z =>
      have hz : z.1 ≠ k := by
        have hjl := (List.getElem?_eq_some_iff.mp q).1
        have hm : (kvs.map (·.1))[j]? = some z.1 := by rw [List.getElem?_map, q]; rfl
        by_cases hlt : j < i
        · exact n1 _ (List.mem_of_getElem? (by rw [List.getElem?_take_of_lt hlt]; exact hm))
        · refine n2 _ (List.mem_of_getElem? (i := j - (i + 1)) ?_)
          rw [List.getElem?_drop]
          have : i + 1 + (j - (i + 1)) = j := by omega
          rw [this]; exact hm
      show some (if z.1 = k then _ else _) = _
      rw [if_neg hz]
abbrev kTL : List Key := [.inr "cells", .inr "at", .inr "great", .inr "left", .inr "seed", .inr "turn"]
abbrev tpK (cl : Addr) (at_ : Nat) (gr lf sd tn : Int) : List (Key × V) := [(.inr "cells", .ref cl), (.inr "at", .int ((at_ : Nat) : Int)), (.inr "great", .int gr), (.inr "left", .int lf), (.inr "seed", .int sd), (.inr "turn", .int tn)]
theorem tget {H : Hp} {tp : Addr} {kvs : List (Key × V)} (h : H tp = some (.dK kvs)) (z : Str) {v : V} (i : Nat) (hv : kvs[i]? = some (.inr z, v) := by rfl) (hk : kvs.map (·.1) = kTL := by rfl) (hn : (kTL.take i).all (fun g => !decide (g = (Sum.inr z : Key))) = true := by decide +kernel) : DGet H tp (.str z) (some v) := .inl ⟨kvs, .inr z, .inl h, rfl, (vget kTL i hv hk hn).symm⟩
theorem tput {H : Hp} {tp : Addr} {kvs : List (Key × V)} (h : H tp = some (.dK kvs)) (z : Str) {v : V} (i : Nat) {kws : List (Key × V)} (hg : kws = kvs.set i (.inr z, v) := by rfl) (hk : kvs.map (·.1) = kTL := by rfl) (hi : kTL[i]? = some (.inr z) := by rfl) (hn : ((kTL.take i).all (fun g => !decide (g = (Sum.inr z : Key))) && (kTL.drop (i + 1)).all (fun g => !decide (g = (Sum.inr z : Key)))) = true := by decide +kernel) : DPut H tp (.str z) v (upd H tp (.dK kws)) := .inl ⟨kvs, .inr z, h, rfl, (by
    have e := congrArg List.length hk
    rw [List.length_map] at e
    rw [e]
    decide), by rw [vput kTL i hg hk hi hn]⟩
/-- a tape of the law at tp -/
structure TL (H : Hp) (tp cl : Addr) (cells : List Int) (at_ : Nat) (gr lf sd tn : Int) : Prop where
  d : H tp = some (.dK (tpK cl at_ gr lf sd tn))
  c : H cl = some (.lst (cells.map V.int))
theorem TL.put {H : Hp} {tp cl : Addr} {cells : List Int} {at_ : Nat} {gr lf sd tn : Int} (h : TL H tp cl cells at_ gr lf sd tn) (at2 : Nat) (gr2 lf2 sd2 tn2 : Int) : TL (upd H tp (.dK (tpK cl at2 gr2 lf2 sd2 tn2))) tp cl cells at2 gr2 lf2 sd2 tn2 := ⟨upd_same, by rw [upd_ne (ne_of h.c h.d (by intro z; cases z))]; exact h.c⟩
def LTc (H : Hp) (tp cl : Addr) : Prop := ∃ cells at_ gr lf sd tn, TL H tp cl cells at_ gr lf sd tn
def LT (H : Hp) (tp : Addr) : Prop := ∃ cl, LTc H tp cl
theorem LTc.keep {H H' : Hp} {tp cl : Addr} (h : LTc H tp cl) (s : Same H H') : LTc H' tp cl := by
  obtain ⟨cells, at_, gr, lf, sd, tn, a, b⟩ := h
  exact ⟨cells, at_, gr, lf, sd, tn, s _ _ a, s _ _ b⟩
theorem LT.keep {H H' : Hp} {tp : Addr} (h : LT H tp) (s : Same H H') : LT H' tp := by
  obtain ⟨cl, h⟩ := h
  exact ⟨cl, h.keep s⟩
theorem TL.same_cl {H : Hp} {tp cl cl' : Addr} {cells : List Int} {at_ : Nat} {gr lf sd tn : Int} (h : TL H tp cl cells at_ gr lf sd tn) (h' : LTc H tp cl') : cl' = cl := by
  obtain ⟨cells', at', gr', lf', sd', tn', a, b⟩ := h'
  have e := a.symm.trans h.d
  have e2 := HO.dK.inj (Option.some.inj e)
  have e3 := congrArg Prod.snd (List.cons.inj e2).1
  exact V.ref.inj e3
/-- only the tape changes, and it stays one -/
structure Lk (tp : Addr) (H H' : Hp) : Prop where
  fr : Fr (fun b => b = tp) H H'
  tl : ∀ cl, LTc H tp cl → LTc H' tp cl
theorem Lk.refl (tp : Addr) (H : Hp) : Lk tp H H := ⟨Fr.refl _ _, fun _ h => h⟩
theorem Lk.trans {tp : Addr} {H H1 H2 : Hp} (a : Lk tp H H1) (b : Lk tp H1 H2) : Lk tp H H2 := ⟨a.fr.trans b.fr, fun c t => b.tl c (a.tl c t)⟩
theorem Lk.of_same {tp : Addr} {H H' : Hp} (s : Same H H') : Lk tp H H' := ⟨Fr.of_same s, fun c t => t.keep s⟩
theorem Lk.lt {tp : Addr} {H H' : Hp} (k : Lk tp H H') (t : LT H tp) : LT H' tp := by
  obtain ⟨cl, h⟩ := t
  exact ⟨cl, k.tl cl h⟩
theorem LT.dk {H : Hp} {tp : Addr} (h : LT H tp) : ∃ kvs, H tp = some (.dK kvs) := by
  obtain ⟨cl, cells, at_, gr, lf, sd, tn, a, b⟩ := h
  exact ⟨_, a⟩
theorem Lk.tup {tp : Addr} {H H' : Hp} (k : Lk tp H H') (t : LT H tp) {b : Addr} {xs : List V} (h : H b = some (.tup xs)) : H' b = some (.tup xs) := k.fr _ _ h fun e => by
  obtain ⟨kvs, z⟩ := t.dk
  rw [e, z] at h
  cases h
theorem Lk.lst {tp : Addr} {H H' : Hp} (k : Lk tp H H') (t : LT H tp) {b : Addr} {xs : List V} (h : H b = some (.lst xs)) : H' b = some (.lst xs) := k.fr _ _ h fun e => by
  obtain ⟨kvs, z⟩ := t.dk
  rw [e, z] at h
  cases h
section
variable {P : Program} {w : World} {K : PySem.W.Frag} {mg : Str → Option Value} {base : Heap}
def spMixed : Sp := fun vs H Q _ => ∃ a b : Int, vs = [.int a, .int b] ∧ ∀ v : Int, Q (.int v) H
abbrev N__law_mixed : List Str := ["_law_number", "_law_turn", "_law_first", "_law_second"]
abbrev P__law_mixed : List Str := ["_law_number", "_law_turn"]
theorem sc__law_mixed : FnScope N__law_mixed P__law_mixed (defScope s__law_mixed) := ⟨rfl, rfl, rfl, by decide +kernel, rfl, by decide +kernel, by decide +kernel⟩
theorem c__law_mixed (T : Txt w K mg) : Cal P w K mg base 1 "_law_mixed" spMixed [] := by
  refine T.f__law_mixed.cal sc__law_mixed (fun _ _ _ _ _ _ us hl => match us, hl with | [_, _], _ => rfl) (fun vs H Q E h => ?_) (fun f cdv A outer s H vs Q E hr h => ?_)
  · obtain ⟨a, b, rfl, _⟩ := h
    rfl
  obtain ⟨a, b, rfl, q⟩ := h
  refine ⟨_, pss_cons (ps_set (i := 2) sc__law_mixed.nd rfl (Or.inl rfl) (pe_op op_mod (pe_callTy call_int1 rfl T.b_int (by decide +kernel) (pa_cons (pe_op op_add (pe_op op_add (pe_op op_mul (pv 0) pe_int) (pe_op op_mul (pv 1) pe_int)) pe_int) pa_nil)) pe_int))
      (pss_cons (ps_set (i := 3) sc__law_mixed.nd rfl (Or.inl rfl) (pe_op op_mod (pe_callTy call_int1 rfl T.b_int (by decide +kernel) (pa_cons (pe_op op_add (pe_op op_add (pe_op op_mul (pv 2) pe_int) (pe_op op_fdivW (pv 2) pe_int)) (pe_op op_mul (pv 1) pe_int)) pa_nil)) pe_int))
      (pss_one (ps_ret (pe_op op_mod (pe_callTy call_int1 rfl T.b_int (by decide +kernel) (pa_cons (pe_op op_add (pe_op op_mul (pv 3) (pv 3)) (pe_op op_fdivW (pv 2) pe_int)) pa_nil)) pe_int)))), ?_⟩
  refine ⟨_, rfl, _, _, rfl, rfl, .inr ⟨by decide, by decide⟩, _, rfl, _, _, rfl, rfl, .inr ⟨by decide, by decide⟩, _, _, rfl, rfl, _, _, rfl, rfl, .inl ⟨_, rfl, _, _, rfl, rfl, (by show (0 : Int) < 2147483647; decide), ?_⟩⟩
  refine ⟨_, rfl, _, _, rfl, rfl, .inr ⟨by decide, by decide⟩, _, rfl, _, _, rfl, rfl, ⟨by decide, by decide +kernel⟩, _, _, rfl, rfl, _, rfl, _, _, rfl, rfl, .inr ⟨by decide, by decide⟩, _, _, rfl, rfl, .inl ⟨_, rfl, _, _, rfl, rfl, (by show (0 : Int) < 1000003; decide), ?_⟩⟩
  refine ⟨_, rfl, _, rfl, _, _, rfl, rfl, .inr ⟨?_, ?_⟩, _, rfl, _, _, rfl, rfl, ⟨by decide, by decide +kernel⟩, _, _, rfl, rfl, .inl ⟨_, rfl, _, _, rfl, rfl, (by show (0 : Int) < 999983; decide), q _⟩⟩
  · exact Int.lt_of_lt_of_le (by decide) (Int.emod_nonneg _ (by decide))
  · exact Int.lt_of_lt_of_le (Int.emod_lt_of_pos _ (by decide)) (by decide)
def spTape (K : PySem.W.Frag) : Sp := fun vs H Q _ => ∃ (r : Addr) (cells : List Int), vs = [.ref r] ∧ (SqL K H r (cells.map V.int) ∨ SqT K H r (cells.map V.int)) ∧ ∀ H' tp, Same H H' → H tp = none → LT H' tp → Q (.ref tp) H'
abbrev N__law_tape : List Str := ["_law_script"]
abbrev P__law_tape : List Str := ["_law_script"]
theorem sc__law_tape : FnScope N__law_tape P__law_tape (defScope s__law_tape) := ⟨rfl, rfl, rfl, by decide +kernel, rfl, by decide +kernel, by decide +kernel⟩
theorem c__law_tape (T : Txt w K mg) : Cal P w K mg base 1 "_law_tape" (spTape K) [] := by
  refine T.f__law_tape.cal sc__law_tape (fun _ _ _ _ _ _ us hl => match us, hl with | [_], _ => rfl) (fun vs H Q E h => ?_) (fun f cdv A outer s H vs Q E hr h => ?_)
  · obtain ⟨r, cells, rfl, _⟩ := h
    rfl
  obtain ⟨r, cells, rfl, hs, q⟩ := h
  refine ⟨_, pss_one (ps_ret (pe_disp (pps_cons pe_str (pe_callTy call_list_of rfl T.b_list (by decide +kernel) (pa_cons (pv 0) pa_nil)) (pps_cons pe_str pe_int (pps_cons pe_str pe_int (pps_cons pe_str pe_int (pps_cons pe_str pe_int (pps_cons pe_str pe_int pps_nil)))))) (by rfl) (by rfl) (fun z => by cases z) (by decide))), ?_⟩
  intro tp htp
  have s1 := same_new htp (.dK [])
  have hs1 : SqL K (upd H tp (.dK [])) r (cells.map V.int) ∨ SqT K (upd H tp (.dK [])) r (cells.map V.int) := by
    rcases hs with h | h
    · exact .inl (s1.seq h)
    · exact .inr (s1.tup h)
  refine ⟨_, rfl, r, _, rfl, hs1, fun cl hcl => ?_⟩
  have ntc : tp ≠ cl := fun e => by rw [← e, upd_same] at hcl; cases hcl
  refine ⟨(by rw [upd_ne ntc, upd_same]), tpK cl 0 0 0 7 0, rfl, (by show 6 ≤ 15; decide), ?_⟩
  have em : mergeK [] (tpK cl 0 0 0 7 0) = tpK cl 0 0 0 7 0 := by rfl
  rw [em]
  refine q _ tp ((s1.trans (same_new hcl _)).mut htp _) htp ⟨cl, cells, 0, 0, 0, 7, 0, upd_same, ?_⟩
  rw [upd_ne ntc.symm, upd_same]
def spLDraw : Sp := fun vs H Q _ => ∃ (tp : Addr) (many : Nat), vs = [.ref tp, .int (many : Int)] ∧ LT H tp ∧ 1 ≤ many ∧ ∀ H' (v : Nat), Lk tp H H' → v < many → Q (.int (v : Int)) H'
abbrev N__law_draw : List Str := ["_law_tape_here", "_law_many", "_law_cell", "_law_digit"]
abbrev P__law_draw : List Str := ["_law_tape_here", "_law_many"]
theorem sc__law_draw : FnScope N__law_draw P__law_draw (defScope s__law_draw) := ⟨rfl, rfl, rfl, by decide +kernel, rfl, by decide +kernel, by decide +kernel⟩
theorem mod_nat (x : Int) {n : Nat} (h : 1 ≤ n) : ∃ v : Nat, x % (n : Int) = (v : Int) ∧ v < n := by
  have h1 : 0 ≤ x % (n : Int) := Int.emod_nonneg _ (by omega)
  have h2 : x % (n : Int) < (n : Int) := Int.emod_lt_of_pos _ (by omega)
  exact ⟨(x % (n : Int)).toNat, by omega, by omega⟩
theorem c__law_draw (T : Txt w K mg) : Cal P w K mg base 2 "_law_draw" spLDraw [] := by
  refine T.f__law_draw.cal sc__law_draw (fun _ _ _ _ _ _ us hl => match us, hl with | [_, _], _ => rfl) (fun vs H Q E h => ?_) (fun f cdv A outer s H vs Q E hr h => ?_)
  · obtain ⟨tp, many, rfl, _⟩ := h
    rfl
  obtain ⟨tp, many, rfl, ⟨cl, cells, at0, gr0, lf0, sd0, tn0, t0⟩, hm, q⟩ := h
  have hu := hu_of hr
  refine ⟨_, pss_cons (ps_dput hu (pv 0) pe_str (pe_op op_add (pe_dget hu (pv 0) pe_str (fun _ _ => rfl)) pe_int) rfl)
      (pss_cons (ps_join (ps_if (PW.pt (pw_and (pt_cmpR op_eq (pe_dget hu (pv 0) pe_str (fun _ _ => rfl)) pe_int (nomark _)) (pw_and1 (pt_cmpR op_lt (pe_dget hu (pv 0) pe_str (fun _ _ => rfl)) (pe_callB call_len_seq rfl T.b_len PySem.boot_len (pa_cons (pe_dget hu (pv 0) pe_str (fun _ _ => rfl)) pa_nil)) (nomark _))))) (pss_cons (ps_set (i := 2) sc__law_draw.nd rfl (Or.inl rfl) (pe_ix ix_list (pe_dget hu (pv 0) pe_str (fun _ _ => rfl)) (pe_dget hu (pv 0) pe_str (fun _ _ => rfl)) (fun _ _ => rfl))) (pss_cons (ps_dput hu (pv 0) pe_str (pe_op op_add (pe_dget hu (pv 0) pe_str (fun _ _ => rfl)) pe_int) rfl) (pss_cons (ps_dput hu (pv 0) pe_str (pe_c (c__law_mixed T) hr (by decide) rfl (pa_cons (pe_op op_add (pe_dget hu (pv 0) pe_str (fun _ _ => rfl)) (pv 2)) (pa_cons (pe_dget hu (pv 0) pe_str (fun _ _ => rfl)) pa_nil))) rfl) (pss_cons (ps_dput hu (pv 0) pe_str pe_int rfl) (pss_one (ps_if (pt_cmpR op_ge (pv 2) (pe_op op_pow pe_int pe_int) (nomark _)) (pss_cons (ps_dput hu (pv 0) pe_str (pv 2) rfl) (pss_one (ps_dput hu (pv 0) pe_str pe_int rfl))) pss_nil)))))) pss_nil))
      (pss_cons (ps_join (ps_if (pt_cmpR op_gt (pe_dget hu (pv 0) pe_str (fun _ _ => rfl)) pe_int (nomark _)) (pss_one (ps_dput hu (pv 0) pe_str (pe_op op_sub (pe_dget hu (pv 0) pe_str (fun _ _ => rfl)) pe_int) rfl)) pss_nil))
      (pss_cons (ps_if (pt_cmpR op_eq (pe_dget hu (pv 0) pe_str (fun _ _ => rfl)) pe_int (nomark _)) (pss_one (ps_ret (pe_op op_mod (pe_callTy call_int1 rfl T.b_int (by decide +kernel) (pa_cons (pe_c (c__law_mixed T) hr (by decide) rfl (pa_cons (pe_dget hu (pv 0) pe_str (fun _ _ => rfl)) (pa_cons (pe_dget hu (pv 0) pe_str (fun _ _ => rfl)) pa_nil))) pa_nil)) (pv 1)))) pss_nil)
      (pss_cons (ps_set (i := 3) sc__law_draw.nd rfl (Or.inl rfl) (pe_op op_mod (pe_callTy call_int1 rfl T.b_int (by decide +kernel) (pa_cons (pe_dget hu (pv 0) pe_str (fun _ _ => rfl)) pa_nil)) pe_int))
      (pss_cons (ps_dput hu (pv 0) pe_str (pe_op op_fdivW (pe_dget hu (pv 0) pe_str (fun _ _ => rfl)) pe_int) rfl)
      (pss_cons (ps_join (ps_if (PW.pt (pw_or (pt_cmpR op_eq (pe_dget hu (pv 0) pe_str (fun _ _ => rfl)) pe_int (nomark _)) (pw_or1 (pt_cmpR op_eq (pe_dget hu (pv 0) pe_str (fun _ _ => rfl)) pe_int (nomark _))))) (pss_cons (ps_dput hu (pv 0) pe_str pe_int rfl) (pss_one (ps_dput hu (pv 0) pe_str pe_int rfl))) pss_nil))
      (pss_one (ps_ret (pe_op op_mod (pe_callTy call_int1 rfl T.b_int (by decide +kernel) (pa_cons (pv 3) pa_nil)) (pv 1)))))))))), ?_⟩
  have up : ∀ (H1 : Hp) (o : HO), Fr (fun b => b = tp) H H1 → Fr (fun b => b = tp) H (upd H1 tp o) := fun H1 o f => f.trans (Fr.upd rfl)
  refine ⟨_, rfl, _, _, rfl, tget t0.d "turn" 5, _, _, rfl, rfl, _, rfl, _, _, rfl, tput t0.d "turn" 5 (kws := tpK cl at0 gr0 lf0 sd0 (tn0 + 1)), ?_⟩
  have t1 := t0.put at0 gr0 lf0 sd0 (tn0 + 1)
  have f1 := up H (.dK (tpK cl at0 gr0 lf0 sd0 (tn0 + 1))) (Fr.refl _ _)
  generalize (upd H tp (.dK (tpK cl at0 gr0 lf0 sd0 (tn0 + 1)))) = H1 at *
  generalize tn0 + 1 = tn1 at *
  refine ⟨fun σ' H' => (∃ x2 x3, σ' = [some (.ref tp), some (.int (many : Int)), x2, x3]) ∧ Fr (fun b => b = tp) H H' ∧ LTc H' tp cl, ?_, ?_⟩
  · refine ⟨_, rfl, _, _, rfl, tget t1.d "left" 3, rfl, _, rfl, ite2 (fun c => ?_) (fun c => iteF ⟨⟨_, _, rfl⟩, f1, cells, _, _, _, _, _, t1⟩)⟩
    refine ⟨_, rfl, _, _, rfl, tget t1.d "at" 1, _, rfl, _, _, rfl, tget t1.d "cells" 0, cl, _, rfl, .inl (SqL.of t1.c), _, _, rfl, rfl, _, rfl, ite2 (fun c2 => ?_) (fun c2 => ⟨⟨_, _, rfl⟩, f1, cells, _, _, _, _, _, t1⟩)⟩
    have c3 : ((at0 : Nat) : Int) < (((cells.map V.int).length : Nat) : Int) := of_decide_eq_true c2
    rw [List.length_map] at c3
    have c4 : at0 < cells.length := by omega
    refine ⟨_, rfl, _, _, rfl, tget t1.d "cells" 0, _, rfl, _, _, rfl, tget t1.d "at" 1, cl, _, _, .int cells[at0], rfl, rfl, SqL.of t1.c, atI_nat (by rw [List.getElem?_map, List.getElem?_eq_getElem c4]; rfl), ?_⟩
    refine ⟨_, rfl, _, _, rfl, tget t1.d "at" 1, _, _, rfl, rfl, _, rfl, _, _, rfl, tput t1.d "at" 1 (kws := tpK cl (at0 + 1) gr0 lf0 sd0 tn1), ?_⟩
    have t2 := t1.put (at0 + 1) gr0 lf0 sd0 tn1
    have f2 := up _ (.dK (tpK cl (at0 + 1) gr0 lf0 sd0 tn1)) f1
    refine ⟨_, rfl, _, _, rfl, tget t2.d "seed" 4, _, rfl, _, _, rfl, rfl, _, rfl, _, _, rfl, tget t2.d "at" 1, _, _, rfl, fun v => ⟨_, rfl, _, _, rfl, tput t2.d "seed" 4 (kws := tpK cl (at0 + 1) gr0 lf0 v tn1), ?_⟩⟩
    have t3 := t2.put (at0 + 1) gr0 lf0 v tn1
    have f3 := up _ (.dK (tpK cl (at0 + 1) gr0 lf0 v tn1)) f2
    refine ⟨_, rfl, _, _, rfl, tput t3.d "left" 3 (kws := tpK cl (at0 + 1) gr0 4 v tn1), ?_⟩
    have t4 := t3.put (at0 + 1) gr0 4 v tn1
    have f4 := up _ (.dK (tpK cl (at0 + 1) gr0 4 v tn1)) f3
    refine ⟨_, rfl, _, _, rfl, rfl, ⟨by decide, by decide, by decide⟩, _, _, rfl, rfl, _, rfl, ite2 (fun c5 => ?_) (fun c5 => ⟨⟨_, _, rfl⟩, f4, cells, _, _, _, _, _, t4⟩)⟩
    refine ⟨_, rfl, _, rfl, _, _, rfl, tput t4.d "great" 2 (kws := tpK cl (at0 + 1) cells[at0] 4 v tn1), ?_⟩
    have t5 := t4.put (at0 + 1) cells[at0] 4 v tn1
    have f5 := up _ (.dK (tpK cl (at0 + 1) cells[at0] 4 v tn1)) f4
    refine ⟨_, rfl, _, _, rfl, tput t5.d "left" 3 (kws := tpK cl (at0 + 1) cells[at0] 60 v tn1), ?_⟩
    exact ⟨⟨_, _, rfl⟩, up _ _ f5, cells, _, _, _, _, _, t5.put (at0 + 1) cells[at0] 60 v tn1⟩
  rintro σ' H2 ⟨⟨x2, x3, rfl⟩, f2, cells2, at2, gr2, lf2, sd2, tn2, t2⟩
  refine ⟨fun σ' H' => (∃ x2 x3, σ' = [some (.ref tp), some (.int (many : Int)), x2, x3]) ∧ Fr (fun b => b = tp) H H' ∧ LTc H' tp cl, ?_, ?_⟩
  · refine ⟨_, rfl, _, _, rfl, tget t2.d "left" 3, _, _, rfl, rfl, _, rfl, ite2 (fun c => ?_) (fun c => ⟨⟨_, _, rfl⟩, f2, cells2, _, _, _, _, _, t2⟩)⟩
    refine ⟨_, rfl, _, _, rfl, tget t2.d "left" 3, _, _, rfl, rfl, _, rfl, _, _, rfl, tput t2.d "left" 3 (kws := tpK cl at2 gr2 (lf2 - 1) sd2 tn2), ?_⟩
    exact ⟨⟨_, _, rfl⟩, up _ _ f2, cells2, _, _, _, _, _, t2.put at2 gr2 (lf2 - 1) sd2 tn2⟩
  clear t2 f2
  rintro σ' H3 ⟨⟨x2, x3, rfl⟩, f3, cells3, at3, gr3, lf3, sd3, tn3, t3⟩
  have hm0 : (0 : Int) < (many : Int) := by omega
  refine ⟨_, rfl, _, _, rfl, tget t3.d "great" 2, rfl, _, rfl, ite2 (fun c => ?_) (fun c => ?_)⟩
  · refine ⟨_, rfl, _, _, rfl, tget t3.d "seed" 4, _, rfl, _, _, rfl, tget t3.d "turn" 5, _, _, rfl, fun v => .inl ⟨_, rfl, _, rfl, _, _, rfl, rfl, hm0, ?_⟩⟩
    obtain ⟨z, e1, e2⟩ := mod_nat v hm
    show Q (.int (v % (many : Int))) H3
    rw [e1]
    exact q H3 z ⟨f3, fun c h => by rw [t0.same_cl h]; exact ⟨cells3, _, _, _, _, _, t3⟩⟩ e2
  refine ⟨_, rfl, _, _, rfl, tget t3.d "great" 2, .inl ⟨_, rfl, _, _, rfl, rfl, (by show (0 : Int) < 1009; decide), ?_⟩⟩
  refine ⟨_, rfl, _, _, rfl, tget t3.d "great" 2, _, _, rfl, rfl, ⟨by decide, by decide +kernel⟩, _, rfl, _, _, rfl, tput t3.d "great" 2 (kws := tpK cl at3 (gr3 / 1009) lf3 sd3 tn3), ?_⟩
  have t4 := t3.put at3 (gr3 / 1009) lf3 sd3 tn3
  have f4 := up _ (.dK (tpK cl at3 (gr3 / 1009) lf3 sd3 tn3)) f3
  refine ⟨fun σ' H' => (∃ x2, σ' = [some (.ref tp), some (.int (many : Int)), x2, some (.int (gr3 % 1009))]) ∧ Fr (fun b => b = tp) H H' ∧ LTc H' tp cl, ?_, ?_⟩
  · have t5 := t4.put at3 0 lf3 sd3 tn3
    have f5 := up _ (.dK (tpK cl at3 0 lf3 sd3 tn3)) f4
    have t6 := t5.put at3 0 0 sd3 tn3
    have f6 := up _ (.dK (tpK cl at3 0 0 sd3 tn3)) f5
    refine ⟨_, rfl, _, _, rfl, tget t4.d "great" 2, rfl, _, rfl, ite2 (fun c => iteT ?_) (fun c => ⟨_, rfl, _, _, rfl, tget t4.d "left" 3, rfl, _, rfl, ite2 (fun c => ?_) (fun c => ⟨⟨_, rfl⟩, f4, cells3, _, _, _, _, _, t4⟩)⟩)⟩
    · exact ⟨_, rfl, _, _, rfl, tput t4.d "great" 2 (kws := tpK cl at3 0 lf3 sd3 tn3), _, rfl, _, _, rfl, tput t5.d "left" 3 (kws := tpK cl at3 0 0 sd3 tn3), ⟨_, rfl⟩, f6, cells3, _, _, _, _, _, t6⟩
    · exact ⟨_, rfl, _, _, rfl, tput t4.d "great" 2 (kws := tpK cl at3 0 lf3 sd3 tn3), _, rfl, _, _, rfl, tput t5.d "left" 3 (kws := tpK cl at3 0 0 sd3 tn3), ⟨_, rfl⟩, f6, cells3, _, _, _, _, _, t6⟩
  rintro σ' H5 ⟨⟨x2', rfl⟩, f5, t5⟩
  refine ⟨_, rfl, .inl ⟨_, rfl, _, rfl, _, _, rfl, rfl, hm0, ?_⟩⟩
  obtain ⟨z, e1, e2⟩ := mod_nat (gr3 % 1009) hm
  show Q (.int (gr3 % 1009 % (many : Int))) H5
  rw [e1]
  exact q H5 z ⟨f5, fun c h => by rw [t0.same_cl h]; exact t5⟩ e2
end
end NX
namespace NX
open PySem PySem.Spec PyProof.Rows L2
open C8 (Cal Met Mak pe_c pe_mk pe_mt pe_mt0)
theorem hv_div : ∀ (i v : Nat), hv i v = v / 2 ^ i
  | 0, v => by simp [hv]
  | i + 1, v => by rw [hv, hv_div i v, Nat.div_div_eq_div_mul, ← Nat.pow_succ]
theorem bitsOf_succ (k v : Nat) : bitsOf (k + 1) v = (hv k v % 2 == 1) :: bitsOf k v := by
  rw [← lowB_rev, lowB_snoc, List.reverse_append, lowB_rev]
  rfl
theorem toStr_bit (c : Bool) : (Str.ofString (toString (if c then (1 : Int) else 0)) : Str) = S [c] := by cases c <;> decide +kernel
section
variable {P : Program} {w : World} {K : PySem.W.Frag} {mg : Str → Option Value} {base : Heap}
def spPick : Sp := fun vs H Q _ => ∃ (tp r : Addr) (xs : List V), vs = [.ref tp, .ref r] ∧ LT H tp ∧ H r = some (.lst xs) ∧ 1 ≤ xs.length ∧ xs.length ≤ 100 ∧ ∀ H' x, Lk tp H H' → x ∈ xs → Q x H'
abbrev N__law_pick : List Str := ["_law_tape_here", "_law_row"]
abbrev P__law_pick : List Str := ["_law_tape_here", "_law_row"]
theorem sc__law_pick : FnScope N__law_pick P__law_pick (defScope s__law_pick) := ⟨rfl, rfl, rfl, by decide +kernel, rfl, by decide +kernel, by decide +kernel⟩
theorem c__law_pick (T : Txt w K mg) : Cal P w K mg base 3 "_law_pick" spPick [] := by
  refine T.f__law_pick.cal sc__law_pick (fun _ _ _ _ _ _ us hl => match us, hl with | [_, _], _ => rfl) (fun vs H Q E h => ?_) (fun f cdv A outer s H vs Q E hr h => ?_)
  · obtain ⟨tp, r, xs, rfl, _⟩ := h
    rfl
  obtain ⟨tp, r, xs, rfl, ht, hx, h1, h2, q⟩ := h
  refine ⟨_, pss_one (ps_ret (pe_ix ix_list (pv 1) (pe_c (c__law_draw T) hr (by decide) rfl (pa_cons (pv 0) (pa_cons (pe_callB call_len_seq rfl T.b_len PySem.boot_len (pa_cons (pv 1) pa_nil)) pa_nil))) (fun _ _ => rfl))), ?_⟩
  refine ⟨_, rfl, _, rfl, _, rfl, r, _, rfl, .inl (SqL.of hx), tp, xs.length, rfl, ht, h1, fun H' v k hv => ?_⟩
  exact ⟨r, _, _, xs[v], rfl, rfl, SqL.of (k.lst ht hx), atI_nat (List.getElem?_eq_getElem hv), q H' _ k (List.getElem_mem hv)⟩
def spLBits : Sp := fun vs H Q _ => ∃ (k v : Nat), vs = [.int (k : Int), .int (v : Int)] ∧ k ≤ 1000 ∧ Q (.str (S (bitsOf k v))) H
abbrev N__law_bits : List Str := ["_law_length", "_law_number", "_law_found", "_law_k"]
abbrev P__law_bits : List Str := ["_law_length", "_law_number"]
theorem sc__law_bits : FnScope N__law_bits P__law_bits (defScope s__law_bits) := ⟨rfl, rfl, rfl, by decide +kernel, rfl, by decide +kernel, by decide +kernel⟩
theorem c__law_bits (T : Txt w K mg) : Cal P w K mg base 1 "_law_bits" spLBits [] := by
  refine T.f__law_bits.cal sc__law_bits (fun _ _ _ _ _ _ us hl => match us, hl with | [_, _], _ => rfl) (fun vs H Q E h => ?_) (fun f cdv A outer s H vs Q E hr h => ?_)
  · obtain ⟨k, v, rfl, _⟩ := h
    rfl
  obtain ⟨k, v, rfl, hk, q⟩ := h
  refine ⟨_, pss_cons (ps_set (i := 2) sc__law_bits.nd rfl (Or.inl rfl) pe_str)
      (pss_cons (ps_for PassesOwn.never rfl (pi_range1 rfl T.b_range (pa_cons (pv 0) pa_nil)) (pg_name (i := 3) sc__law_bits.nd rfl (Or.inl rfl)) (pss_one (ps_set (i := 2) sc__law_bits.nd rfl (Or.inl rfl) (pe_op op_add_str (pe_callTy call_str_int rfl T.b_str (by decide +kernel) (pa_cons (pe_op op_mod (pe_callTy call_int1 rfl T.b_int (by decide +kernel) (pa_cons (pe_op op_shr (pv 1) (pv 3)) pa_nil)) pe_int) pa_nil)) (pv 2)))))
      (pss_one (ps_ret (pv 2)))), ?_⟩
  refine ⟨_, rfl, (k : Int), rfl, by omega, by omega, for_range (lo := 0) (n := k) (fun i σ H' => (∃ x : Option V, σ = [some (.int (k : Int)), some (.int (v : Int)), some (.str (S (bitsOf i v))), x]) ∧ H' = H)
    ⟨⟨none, rfl⟩, rfl⟩ ?_ ?_⟩
  · rintro i σ H' hi ⟨⟨x, rfl⟩, rfl⟩
    have e1 : (v : Int) / 2 ^ ((0 : Int) + (i : Int)).toNat = ((hv i v : Nat) : Int) := by
      have : ((0 : Int) + (i : Int)).toNat = i := by omega
      rw [this, hv_div]
      simp
    have e2 : ((hv i v : Nat) : Int) % 2 = if (hv i v % 2 == 1) then (1 : Int) else 0 := by
      have : hv i v % 2 = 0 ∨ hv i v % 2 = 1 := by omega
      rcases this with h | h
      · rw [h]; simp; omega
      · rw [h]; simp; omega
    refine ⟨_, rfl, _, rfl, _, _, rfl, rfl, (by omega), .inl ⟨_, rfl, _, _, rfl, rfl, (by show (0 : Int) < 2; decide), ?_⟩⟩
    rw [e1]
    refine ⟨_, congrArg (fun z => [V.int z]) e2, (by cases (hv i v % 2 == 1) <;> decide +kernel), _, rfl, _, _, rfl, rfl, ?_, ?_⟩
    · rw [toStr_bit, S_len, S_len, bitsOf_len]
      exact sl (by show 1 + i ≤ _; omega)
    · rw [toStr_bit, S_app]
      refine ⟨⟨some (.int (0 + (i : Int))), ?_⟩, rfl⟩
      show [_, _, some (V.str (S ([hv i v % 2 == 1] ++ bitsOf i v))), _] = _
      rw [bitsOf_succ]
      rfl
  · rintro σ H' ⟨⟨x, rfl⟩, rfl⟩
    exact ⟨_, rfl, q⟩
def spLString : Sp := fun vs H Q _ => ∃ (tp : Addr) (n : Nat), vs = [.ref tp, .int (n : Int)] ∧ LT H tp ∧ n ≤ 1000 ∧ ∀ H' b, Lk tp H H' → b.length = n → Q (.str (S b)) H'
abbrev N__law_string : List Str := ["_law_tape_here", "_law_length", "_law_k"]
abbrev P__law_string : List Str := ["_law_tape_here", "_law_length"]
theorem sc__law_string : FnScope N__law_string P__law_string (defScope s__law_string) := ⟨rfl, rfl, rfl, by decide +kernel, rfl, by decide +kernel, by decide +kernel⟩
theorem zo_at (v : Nat) (h : v < 2) : atI ("01" : Str).cps.toList (v : Int) = some (sg (v == 1)) := by
  have : v = 0 ∨ v = 1 := by omega
  rcases this with rfl | rfl <;> rfl
/-- a new list is written beside the tape -/
theorem Lk.mut {tp : Addr} {H0 H : Hp} {D : Addr} (k : Lk tp H0 H) (h0 : H0 D = none) {xs : List V} (hD : H D = some (.lst xs)) (o : HO) : Lk tp H0 (upd H D o) := by
  refine ⟨fun b u q n => by rw [upd_ne (ne_of_none q h0)]; exact k.fr _ _ q n, fun cl t => ?_⟩
  obtain ⟨cells0, at0, gr0, lf0, sd0, tn0, a0, b0⟩ := id t
  obtain ⟨cells, at_, gr, lf, sd, tn, a, b⟩ := k.tl cl t
  exact ⟨cells, at_, gr, lf, sd, tn, by rw [upd_ne (ne_of a hD (by intro z; cases z))]; exact a, by rw [upd_ne (ne_of_none b0 h0)]; exact b⟩
theorem c__law_string (T : Txt w K mg) : Cal P w K mg base 3 "_law_string" spLString [] := by
  refine T.f__law_string.cal sc__law_string (fun _ _ _ _ _ _ us hl => match us, hl with | [_, _], _ => rfl) (fun vs H Q E h => ?_) (fun f cdv A outer s H vs Q E hr h => ?_)
  · obtain ⟨tp, n, rfl, _⟩ := h
    rfl
  obtain ⟨tp, n, rfl, ht, hn, q⟩ := h
  refine ⟨_, pss_one (ps_ret (pe_join pe_str (pe_lc (own := [("_law_k", 2)]) (g := gName 2) (tt := tYes) rfl sc__law_string.nd (pi_range1 rfl T.b_range (pa_cons (pv 1) pa_nil)) (blkOk_by (own := [("_law_k", 2)]) (N := N__law_string) (sc := defScope s__law_string) (by decide +kernel)) (fun _ _ _ _ _ => pg_name (i := 2) sc__law_string.nd rfl (Or.inl rfl)) (fun _ _ _ _ _ => pts_nil) (fun _ _ _ _ _ => (pe_ix ix_str pe_str (pe_c (c__law_draw T) hr (by decide) rfl (pa_cons (pv 0) (pa_cons pe_int pa_nil))) (fun _ _ => rfl)))))), ?_⟩
  refine ⟨⟨_, rfl⟩, _, rfl, (n : Int), rfl, by omega, by omega, fun D hD => ?_⟩
  have k0 : Lk tp H (upd H D (.lst [])) := .of_same (same_new hD _)
  refine lc_range (lo := 0) (n := n) (fun i Hi => Lk tp H Hi ∧ ∃ b : Bs, b.length = i ∧ Hi D = some (.lst (SL b))) ⟨k0, [], rfl, upd_same⟩ (fun i Hi hi ⟨k1, b, lb, hL⟩ => ?_) (fun Hi ⟨k1, b, lb, hL⟩ => ?_)
  · refine ⟨rfl, _, rfl, tp, 2, rfl, k1.lt ht, by decide, fun H' v k2 hv => ?_⟩
    have hL' : H' D = some (.lst (SL b)) := k2.lst (k1.lt ht) hL
    refine ⟨_, _, _, rfl, rfl, (by decide +kernel), zo_at v hv, _, hL', ?_, (k1.trans k2).mut hD hL' _, b ++ [v == 1], ?_, ?_⟩
    · rw [SL, List.length_map, lb]; exact slt (by omega)
    · rw [List.length_append, lb]; rfl
    · rw [upd_same]; simp [SL]; rfl
  · refine ⟨_, D, b.map fun c => S [c], rfl, rfl, .inl (SqL.of (by rw [← SL_map]; exact hL)), ?_, ?_⟩
    · rw [signs_len, lb]
      show n + _ * 0 ≤ _
      omega
    · show Q (.str (Txt.join ("" : Str) _)) _
      rw [join_signs]
      exact q _ b k1 lb
def spLStrs : Sp := fun vs H Q _ => ∃ (m : Nat), vs = [.int (m : Int)] ∧ m ≤ 3 ∧ ∀ H' r, Same H H' → H' r = some (.lst ((stringsL m).map fun y => V.str (S y))) → Q (.ref r) H'
abbrev N__law_strings : List Str := ["_law_length", "_law_number"]
abbrev P__law_strings : List Str := ["_law_length"]
theorem sc__law_strings : FnScope N__law_strings P__law_strings (defScope s__law_strings) := ⟨rfl, rfl, rfl, by decide +kernel, rfl, by decide +kernel, by decide +kernel⟩
theorem c__law_strings (T : Txt w K mg) : Cal P w K mg base 2 "_law_strings" spLStrs [] := by
  refine T.f__law_strings.cal sc__law_strings (fun _ _ _ _ _ _ us hl => match us, hl with | [_], _ => rfl) (fun vs H Q E h => ?_) (fun f cdv A outer s H vs Q E hr h => ?_)
  · obtain ⟨m, rfl, _⟩ := h
    rfl
  obtain ⟨m, rfl, hm, q⟩ := h
  refine ⟨_, pss_one (ps_ret (pe_lc (own := [("_law_number", 1)]) (g := gName 1) (tt := tYes) rfl sc__law_strings.nd (pi_range1 rfl T.b_range (pa_cons (pe_op op_shl pe_int (pv 0)) pa_nil)) (blkOk_by (own := [("_law_number", 1)]) (N := N__law_strings) (sc := defScope s__law_strings) (by decide +kernel)) (fun _ _ _ _ _ => pg_name (i := 1) sc__law_strings.nd rfl (Or.inl rfl)) (fun _ _ _ _ _ => pts_nil) (fun _ _ _ _ _ => (pe_c (c__law_bits T) hr (by decide) rfl (pa_cons (pv 0) (pa_cons (pv 1) pa_nil)))))), ?_⟩
  have e8 : 2 ^ m ≤ 8 := pow_le8 hm (Nat.le_refl _)
  have e1 : (1 : Int) * 2 ^ ((m : Int)).toNat = ((2 ^ m : Nat) : Int) := by rw [Int.toNat_natCast]; simp
  refine ⟨_, rfl, _, _, rfl, rfl, ⟨by omega, by omega, by decide⟩, ((2 ^ m : Nat) : Int), congrArg (fun z => [V.int z]) e1, Int.le_trans (by decide) (Int.natCast_nonneg _), Int.lt_of_le_of_lt (Int.ofNat_le.mpr e8) (by decide), fun D hD => ?_⟩
  have en : ((2 ^ m : Nat) : Int).toNat = 2 ^ m := Int.toNat_natCast _
  rw [en]
  refine lp_range (lo := 0) (n := 2 ^ m) (fun k => V.str (S (bitsOf m k))) hD (by omega) (fun i Hi hi si Qe qe => ?_) (fun Hi si hDi => ?_)
  · refine ⟨rfl, _, rfl, _, rfl, m, i, ?_, by omega, qe _ (Same.refl _)⟩
    show [V.int (m : Int), V.int (0 + (i : Int))] = _
    rw [Int.zero_add]
  · refine q Hi D si ?_
    rw [hDi]
    simp [stringsL, List.map_map, Function.comp_def]
def spLGen : Sp := fun vs H Q _ => ∃ (tp : Addr) (n m : Nat), vs = [.ref tp, .int (n : Int), .int (m : Int)] ∧ LT H tp ∧ 1 ≤ n ∧ n ≤ 2 ∧ 1 ≤ m ∧ m ≤ 3 ∧ ∀ H' g rows, Lk tp H H' → GenAt H' g rows n m → Q (.ref g) H'
abbrev N__law_generator : List Str := ["_law_tape_here", "_law_n", "_law_m", "_law_k"]
abbrev P__law_generator : List Str := ["_law_tape_here", "_law_n", "_law_m"]
theorem sc__law_generator : FnScope N__law_generator P__law_generator (defScope s__law_generator) := ⟨rfl, rfl, rfl, by decide +kernel, rfl, by decide +kernel, by decide +kernel⟩
theorem c__law_generator (T : Txt w K mg) : Cal P w K mg base 4 "_law_generator" spLGen [] := by
  refine T.f__law_generator.cal sc__law_generator (fun _ _ _ _ _ _ us hl => match us, hl with | [_, _, _], _ => rfl) (fun vs H Q E h => ?_) (fun f cdv A outer s H vs Q E hr h => ?_)
  · obtain ⟨tp, n, m, rfl, _⟩ := h
    rfl
  obtain ⟨tp, n, m, rfl, ht, n1, n2, m1, m3, q⟩ := h
  refine ⟨_, pss_one (ps_ret (pe_tup (pa_cons pe_str (pa_cons (pv 1) (pa_cons (pv 2) (pa_cons (pe_callTy call_tuple_of rfl T.b_tuple (by decide +kernel) (pa_cons (pe_lc (own := [("_law_k", 3)]) (g := gName 3) (tt := tYes) rfl sc__law_generator.nd (pi_range1 rfl T.b_range (pa_cons (pe_op op_shl pe_int (pv 1)) pa_nil)) (blkOk_by (own := [("_law_k", 3)]) (N := N__law_generator) (sc := defScope s__law_generator) (by decide +kernel)) (fun _ _ _ _ _ => pg_name (i := 3) sc__law_generator.nd rfl (Or.inl rfl)) (fun _ _ _ _ _ => pts_nil) (fun _ _ _ _ _ => (pe_c (c__law_string T) hr (by decide) rfl (pa_cons (pv 0) (pa_cons (pv 2) pa_nil))))) pa_nil)) pa_nil)))))), ?_⟩
  have e8 : 2 ^ n ≤ 8 := pow_le8 (m := 3) (by decide) (by omega)
  have e1 : (1 : Int) * 2 ^ ((n : Int)).toNat = ((2 ^ n : Nat) : Int) := by rw [Int.toNat_natCast]; simp
  refine ⟨_, rfl, _, rfl, _, rfl, _, _, rfl, rfl, ⟨by omega, by omega, by decide⟩, ((2 ^ n : Nat) : Int), congrArg (fun z => [V.int z]) e1, Int.le_trans (by decide) (Int.natCast_nonneg _), Int.lt_of_le_of_lt (Int.ofNat_le.mpr e8) (by decide), fun D hD => ?_⟩
  have en : ((2 ^ n : Nat) : Int).toNat = 2 ^ n := Int.toNat_natCast _
  rw [en]
  have k0 : Lk tp H (upd H D (.lst [])) := .of_same (same_new hD _)
  refine lc_range (lo := 0) (n := 2 ^ n) (fun i Hi => Lk tp H Hi ∧ ∃ rows : List Bs, rows.length = i ∧ (∀ y ∈ rows, y.length = m) ∧ Hi D = some (.lst (rows.map fun y => V.str (S y)))) ⟨k0, [], rfl, (fun y h => by simp at h), upd_same⟩ (fun i Hi hi ⟨k1, rows, lr, hy, hL⟩ => ?_) (fun Hi ⟨k1, rows, lr, hy, hL⟩ => ?_)
  · refine ⟨rfl, _, rfl, _, rfl, tp, m, rfl, k1.lt ht, by omega, fun H' b k2 hb => ?_⟩
    have hL' := k2.lst (k1.lt ht) hL
    refine ⟨_, hL', ?_, (k1.trans k2).mut hD hL' _, rows ++ [b], ?_, ?_, ?_⟩
    · rw [List.length_map, lr]; exact slt (by omega)
    · rw [List.length_append, lr]; rfl
    · intro y h
      rcases List.mem_append.mp h with h | h
      · exact hy y h
      · simp at h; rw [h]; exact hb
    · rw [upd_same]; simp
  · refine ⟨D, _, rfl, .inl ⟨SqL.of hL, fun r hr1 => ?_⟩⟩
    refine ⟨(by show 4 ≤ sizeLine; decide), fun g hg => ?_⟩
    have nrg : r ≠ g := fun e => by rw [← e, upd_same] at hg; cases hg
    refine q _ g rows ((k1.trans (.of_same (same_new hr1 _))).trans (.of_same (same_new hg _))) ⟨⟨r, upd_same, by rw [upd_ne nrg, upd_same]⟩, lr, hy, n1, n2, m1, m3⟩
end
end NX
namespace NX
open PySem PySem.Spec PyProof.Rows L2
open C8 (Cal Met Mak pe_c pe_mk pe_mt pe_mt0)
theorem and_val {c : Bool} {tb : TE} {σ : L2.St} {H : Hp} {Q : VK} (b : Bool) (k : Q (.bl b) H) (h1 : c = true → ∀ Q : VK, Q (.bl b) H → tb σ H Q) (h2 : c = false → b = false) : if c = true then tb σ H Q else Q (.bl false) H := by
  cases c with
  | true => exact iteT (h1 rfl Q k)
  | false => rw [h2 rfl] at k; exact iteF k
theorem parts_snoc {ps : List Part} {z : Part} (h : ∀ n, Sum.inr n ∈ ps → n ≤ 9999) (hz : ∀ n, z = .inr n → n ≤ 9999) : ∀ n, Sum.inr n ∈ ps ++ [z] → n ≤ 9999 := fun n hn => by
  rcases List.mem_append.mp hn with hn | hn
  · exact h n hn
  · simp at hn; exact hz n hn.symm
section
variable {P : Program} {w : World} {K : PySem.W.Frag} {mg : Str → Option Value} {base : Heap}
def spLParts : Sp := fun vs H Q _ => ∃ (tp : Addr) (size seen : Nat), vs = [.ref tp, .int (size : Int), .int (seen : Int)] ∧ LT H tp ∧ size ≤ 3 ∧ seen ≤ 100 ∧ ∀ H' q ps, Lk tp H H' → H' q = some (.tup (ps.map PartV)) → partsOk ps → Q (.ref q) H'
abbrev N__law_parts : List Str := ["_law_tape_here", "_law_size", "_law_seen", "_law_found", "_law_k"]
abbrev P__law_parts : List Str := ["_law_tape_here", "_law_size", "_law_seen"]
theorem sc__law_parts : FnScope N__law_parts P__law_parts (defScope s__law_parts) := ⟨rfl, rfl, rfl, by decide +kernel, rfl, by decide +kernel, by decide +kernel⟩
theorem c__law_parts (T : Txt w K mg) : Cal P w K mg base 4 "_law_parts" spLParts [] := by
  refine T.f__law_parts.cal sc__law_parts (fun _ _ _ _ _ _ us hl => match us, hl with | [_, _, _], _ => rfl) (fun vs H Q E h => ?_) (fun f cdv A outer s H vs Q E hr h => ?_)
  · obtain ⟨tp, size, seen, rfl, _⟩ := h
    rfl
  obtain ⟨tp, size, seen, rfl, ht, hs3, hseen, q⟩ := h
  refine ⟨_, pss_cons (ps_set (i := 3) sc__law_parts.nd rfl (Or.inl rfl) (pe_lst pa_nil))
      (pss_cons (ps_for PassesOwn.never rfl (pi_range1 rfl T.b_range (pa_cons (pv 1) pa_nil)) (pg_name (i := 4) sc__law_parts.nd rfl (Or.inl rfl)) (pss_cons (ps_expr (pe_bm PySem.F.plainAttrs_list PySem.F.slot_list_append PySem.F.type_list_append mt_append (pv 3) (pa_cons (pe_c (c__law_pick T) hr (by decide) rfl (pa_cons (pv 0) (pa_cons (pe_lst (pa_cons pe_str (pa_cons pe_str (pa_cons (pe_c (c__law_draw T) hr (by decide) rfl (pa_cons (pv 0) (pa_cons (pe_op op_add (pv 2) pe_int) pa_nil))) (pa_cons (pe_c (c__law_draw T) hr (by decide) rfl (pa_cons (pv 0) (pa_cons (pe_op op_add (pv 2) pe_int) pa_nil))) pa_nil))))) pa_nil))) pa_nil))) (pss_one (ps_if (pt_cmpR op_eq (pe_c (c__law_draw T) hr (by decide) rfl (pa_cons (pv 0) (pa_cons pe_int pa_nil))) pe_int (nomark _)) (pss_one (ps_asg (pe_c (c__law_draw T) hr (by decide) rfl (pa_cons (pv 0) (pa_cons pe_int pa_nil))) (pg_sub (pv 3) (pv 4) set_list))) pss_nil))))
      (pss_one (ps_ret (pe_callTy call_tuple_of rfl T.b_tuple (by decide +kernel) (pa_cons (pv 3) pa_nil))))), ?_⟩
  refine ⟨Nat.zero_le _, fun D hD => ?_⟩
  have k0 : Lk tp H (upd H D (.lst [])) := .of_same (same_new hD _)
  refine ⟨_, rfl, (size : Int), rfl, by omega, by omega, for_range (lo := 0) (n := size) (fun i σ H' => (∃ x : Option V, σ = [some (.ref tp), some (.int (size : Int)), some (.int (seen : Int)), some (.ref D), x]) ∧ Lk tp H H' ∧ ∃ ps : List Part, ps.length = i ∧ (∀ n, Sum.inr n ∈ ps → n ≤ 9999) ∧ H' D = some (.lst (ps.map PartV)))
    ⟨⟨none, rfl⟩, k0, [], rfl, (fun n h => by simp at h), upd_same⟩ ?_ ?_⟩
  · rintro i σ H' hi ⟨⟨x, rfl⟩, k1, ps, lp, h9, hL⟩
    refine ⟨_, rfl, .inl ⟨rfl, _, SqL.of hL⟩, _, rfl, _, rfl, _, rfl, _, _, rfl, rfl, tp, seen + 2, rfl, k1.lt ht, by omega, fun H1 v1 k2 hv1 => ?_⟩
    have k12 := k1.trans k2
    refine ⟨_, rfl, _, rfl, _, _, rfl, rfl, tp, seen + 2, rfl, k12.lt ht, by omega, fun H2 v2 k3 hv2 => ?_⟩
    have k13 := k12.trans k3
    refine ⟨(by show 4 ≤ sizeLine; decide), fun r hr1 => ?_⟩
    have k14 := k13.trans (.of_same (same_new hr1 (.lst [V.str "0", V.str "1", V.int (v1 : Int), V.int (v2 : Int)])))
    refine ⟨tp, r, _, rfl, k14.lt ht, upd_same, by show 1 ≤ 4; decide, by show 4 ≤ 100; decide, fun H3 y k4 hy => ?_⟩
    have k15 := k14.trans k4
    have hL3 : H3 D = some (.lst (ps.map PartV)) := k4.lst (k14.lt ht) (same_new hr1 _ _ _ (k3.lst (k12.lt ht) (k2.lst (k1.lt ht) hL)))
    obtain ⟨z, rfl, hz⟩ : ∃ z : Part, y = PartV z ∧ ∀ n, z = .inr n → n ≤ 9999 := by
      simp only [List.mem_cons, List.not_mem_nil, or_false] at hy
      rcases hy with rfl | rfl | rfl | rfl
      · exact ⟨.inl false, rfl, fun n e => nomatch e⟩
      · exact ⟨.inl true, rfl, fun n e => nomatch e⟩
      · exact ⟨.inr v1, rfl, fun n e => by cases e; omega⟩
      · exact ⟨.inr v2, rfl, fun n e => by cases e; omega⟩
    refine ⟨D, _, _, rfl, rfl, hL3, (by rw [List.length_map, lp]; exact slt (by omega)), ?_⟩
    have k16 : Lk tp H (upd H3 D (.lst (ps.map PartV ++ [PartV z]))) := k15.mut hD hL3 _
    have hL4 : (upd H3 D (.lst (ps.map PartV ++ [PartV z]))) D = some (.lst ((ps ++ [z]).map PartV)) := by rw [upd_same, List.map_append]; rfl
    generalize (upd H3 D (.lst (ps.map PartV ++ [PartV z]))) = H4 at *
    refine ⟨_, rfl, tp, 30, rfl, k16.lt ht, by decide, fun H5 v5 k5 hv5 => ⟨rfl, _, rfl, ite2 (fun c => ?_) (fun c => ?_)⟩⟩
    · have k17 := k16.trans k5
      refine ⟨_, rfl, tp, 10000, rfl, k17.lt ht, by decide, fun H6 v6 k6 hv6 => ?_⟩
      have hL6 := k6.lst (k17.lt ht) (k5.lst (k16.lt ht) hL4)
      refine ⟨_, rfl, _, rfl, D, _, ((0 : Int) + (i : Int)), i, rfl, rfl, hL6, ?_, ⟨_, rfl⟩, (k17.trans k6).mut hD hL6 _, ps ++ [.inr v6], ?_, parts_snoc h9 (fun n e => by cases e; omega), ?_⟩
      · rw [List.length_map, List.length_append, lp]
        unfold ixN
        have e1 : ((0 : Int) + (i : Int)) = ((i : Nat) : Int) := by omega
        rw [e1]
        first
          | (simp; done)
          | (simp; omega)
      · rw [List.length_append, lp]; rfl
      · rw [upd_same, List.map_append, List.map_append]
        rw [List.set_append_right _ _ (by rw [List.length_map, lp]; exact Nat.le_refl _), List.length_map, lp, Nat.sub_self]
        rfl
    · refine ⟨⟨_, rfl⟩, k16.trans k5, ps ++ [z], ?_, parts_snoc h9 hz, k5.lst (k16.lt ht) hL4⟩
      rw [List.length_append, lp]; rfl
  · rintro σ H' ⟨⟨x, rfl⟩, k1, ps, lp, h9, hL⟩
    refine ⟨_, rfl, D, _, rfl, .inl ⟨SqL.of hL, fun r hr1 => ?_⟩⟩
    exact q _ r ps (k1.trans (.of_same (same_new hr1 _))) upd_same ⟨by omega, h9⟩
def spLSay : Sp := fun vs H Q _ => ∃ (tp : Addr) (said seen : Nat), vs = [.ref tp, .int (said : Int), .int (seen : Int)] ∧ LT H tp ∧ said ≤ 3 ∧ seen ≤ 100 ∧ ∀ H' a ps, Lk tp H H' → BrAt H' (.say ps) a → partsOk ps → Q (.ref a) H'
abbrev N__law_say : List Str := ["_law_tape_here", "_law_said", "_law_seen", "_law_size"]
abbrev P__law_say : List Str := ["_law_tape_here", "_law_said", "_law_seen"]
theorem sc__law_say : FnScope N__law_say P__law_say (defScope s__law_say) := ⟨rfl, rfl, rfl, by decide +kernel, rfl, by decide +kernel, by decide +kernel⟩
theorem c__law_say (T : Txt w K mg) : Cal P w K mg base 5 "_law_say" spLSay [] := by
  refine T.f__law_say.cal sc__law_say (fun _ _ _ _ _ _ us hl => match us, hl with | [_, _, _], _ => rfl) (fun vs H Q E h => ?_) (fun f cdv A outer s H vs Q E hr h => ?_)
  · obtain ⟨tp, said, seen, rfl, _⟩ := h
    rfl
  obtain ⟨tp, said, seen, rfl, ht, hs3, hseen, q⟩ := h
  refine ⟨_, pss_cons (ps_set (i := 3) sc__law_say.nd rfl (Or.inl rfl) (pv 1))
      (pss_cons (ps_join (ps_if (pt_cmpR op_eq (pe_c (c__law_draw T) hr (by decide) rfl (pa_cons (pv 0) (pa_cons pe_int pa_nil))) pe_int (nomark _)) (pss_one (ps_set (i := 3) sc__law_say.nd rfl (Or.inl rfl) (pe_c (c__law_draw T) hr (by decide) rfl (pa_cons (pv 0) (pa_cons pe_int pa_nil))))) pss_nil))
      (pss_one (ps_ret (pe_tup (pa_cons pe_str (pa_cons (pe_c (c__law_parts T) hr (by decide) rfl (pa_cons (pv 0) (pa_cons (pv 3) (pa_cons (pv 2) pa_nil)))) pa_nil)))))), ?_⟩
  refine ⟨_, rfl, fun σ' H' => ∃ sz : Nat, sz ≤ 3 ∧ σ' = [some (.ref tp), some (.int (said : Int)), some (.int (seen : Int)), some (.int (sz : Int))] ∧ Lk tp H H', ?_, ?_⟩
  · refine ⟨_, rfl, tp, 9, rfl, ht, by decide, fun H1 v1 k1 hv1 => ⟨rfl, _, rfl, ite2 (fun c => ?_) (fun c => ⟨said, hs3, rfl, k1⟩)⟩⟩
    exact ⟨_, rfl, tp, 4, rfl, k1.lt ht, by decide, fun H2 v2 k2 hv2 => ⟨v2, by omega, rfl, k1.trans k2⟩⟩
  rintro σ' H' ⟨sz, hsz, rfl, k1⟩
  refine ⟨_, rfl, _, rfl, _, rfl, tp, sz, seen, rfl, k1.lt ht, hsz, hseen, fun H2 qa ps k2 hq pok => ⟨(by show 2 ≤ sizeLine; decide), fun a ha => ?_⟩⟩
  exact q _ a ps ((k1.trans k2).trans (.of_same (same_new ha _))) ⟨qa, upd_same, same_new ha _ _ _ hq⟩ pok
end
end NX
namespace NX
open PySem PySem.Spec PyProof.Rows L2
open C8 (Cal Met Mak pe_c pe_mk pe_mt pe_mt0)
def bud : Nat → Nat → Nat
  | 0, _ => 1
  | 1, 0 => 12
  | 1, _ => 3
  | _, _ => 12
def valid (d a : Nat) : Prop := a ≤ 1 ∧ (d ≤ 1 ∨ (d = 2 ∧ a = 1))
theorem valid_cases {e a : Nat} (h : valid (e + 1) a) : (e = 0 ∧ a = 0) ∨ (e = 0 ∧ a = 1) ∨ (e = 1 ∧ a = 1) := by
  obtain ⟨h1, h2⟩ := h
  omega
theorem bud_pos (d a : Nat) : 1 ≤ bud d a := by
  unfold bud
  split <;> decide
theorem bud_look {e a : Nat} (h : valid (e + 1) a) : bud e a ≤ bud (e + 1) a := by
  rcases valid_cases h with ⟨rfl, rfl⟩ | ⟨rfl, rfl⟩ | ⟨rfl, rfl⟩ <;> decide
theorem bud_ask {e : Nat} (h : valid (e + 1) 1) : bud e 0 ≤ bud (e + 1) 1 := by
  rcases valid_cases h with ⟨rfl, h⟩ | ⟨rfl, _⟩ | ⟨rfl, _⟩
  · omega
  · decide
  · decide
theorem bud_toss {e a n : Nat} (h : valid (e + 1) a) (hn : n ≤ 3 ∨ (n ≤ 12 ∧ e = 0 ∧ a = 0)) : n * bud e a ≤ bud (e + 1) a := by
  rcases valid_cases h with ⟨rfl, rfl⟩ | ⟨rfl, rfl⟩ | ⟨rfl, rfl⟩
  · show n * 1 ≤ 12; omega
  · show n * 1 ≤ 3; omega
  · show n * 3 ≤ 12; omega
theorem valid_same {e a : Nat} (h : valid (e + 1) a) : valid e a := by
  rcases valid_cases h with ⟨rfl, rfl⟩ | ⟨rfl, rfl⟩ | ⟨rfl, rfl⟩ <;> (unfold valid; omega)
theorem valid_ask {e : Nat} (h : valid (e + 1) 1) : valid e 0 := by
  rcases valid_cases h with ⟨rfl, h⟩ | ⟨rfl, _⟩ | ⟨rfl, _⟩
  · omega
  · unfold valid; omega
  · unfold valid; omega
theorem if_post {t : TT} {tb tr t2 : TS} {D : Ends} {σ : L2.St} {H : Hp} (Pst : Bool → Hp → Prop) (hv : ∀ K : Bool → Hp → Prop, (∀ b H', Pst b H' → K b H') → t σ H K)
    (k : ∀ b H', Pst b H' → if b = true then tb { D with nx := fun σ' H' => t2 D σ' H' } σ H' else tr { D with nx := fun σ' H' => t2 D σ' H' } σ H') : tNext { D with nx := fun σ' H' => tSeq (tIfS t tb tr) t2 D σ' H' } σ H := hv _ k
section
variable {P : Program} {w : World} {K : PySem.W.Frag} {mg : Str → Option Value} {base : Heap}
def spLBr (d : Nat) : Sp := fun vs H Q _ => ∃ (tp sh : Addr) (a m : Nat), vs = [.ref tp, .int (d : Int), .int (a : Int), .ref sh] ∧ LT H tp ∧ H sh = some (.tup [.int 2, .int 1, .int (m : Int)]) ∧ m ≤ 3 ∧ valid d a ∧ ∀ H' p b, Lk tp H H' → BrAt H' b p → b.Ok d (bud d a) → Q (.ref p) H'
/-- of depth at most D -/
def spLBrU (D : Nat) : Sp := fun vs H Q E => ∃ d, d ≤ D ∧ spLBr d vs H Q E
abbrev N__law_breaker : List Str := ["_law_tape_here", "_law_depth", "_law_asks", "_law_shape", "_law_length", "_law_said", "_law_seen", "_law_kind", "_law_first", "_law_many", "_law_k", "_law_size"]
abbrev P__law_breaker : List Str := ["_law_tape_here", "_law_depth", "_law_asks", "_law_shape"]
theorem sc__law_breaker : FnScope N__law_breaker P__law_breaker (defScope s__law_breaker) := ⟨rfl, rfl, rfl, by decide +kernel, rfl, by decide +kernel, by decide +kernel⟩
theorem c__law_breaker0 (T : Txt w K mg) : Cal P w K mg base 6 "_law_breaker" (spLBrU 0) [] := by
  refine T.f__law_breaker.cal sc__law_breaker (fun _ _ _ _ _ _ us hl => match us, hl with | [_, _, _, _], _ => rfl) (fun vs H Q E h => ?_) (fun f cdv A outer s H vs Q E hr h => ?_)
  · obtain ⟨d, hd, tp, sh, a, m, rfl, _⟩ := h
    rfl
  obtain ⟨d, hd, tp, sh, a, m, rfl, ht, hsh, hm, hv, q⟩ := h
  obtain rfl : d = 0 := by omega
  refine ⟨_, pss_cons (ps_asg (pv 3) (pg_tup rfl (pgs_cons (pg_name (i := 4) sc__law_breaker.nd rfl (.inl rfl)) (pgs_cons (pg_name (i := 5) sc__law_breaker.nd rfl (.inl rfl)) (pgs_cons (pg_name (i := 6) sc__law_breaker.nd rfl (.inl rfl)) pgs_nil)))))
      (pss_cons (ps_set (i := 7) sc__law_breaker.nd rfl (Or.inl rfl) (pe_c (c__law_draw T) hr (by decide) rfl (pa_cons (pv 0) (pa_cons pe_int pa_nil))))
      (pss_cons (ps_if (PW.pt (pw_or (pt_cmpR op_eq (pv 1) pe_int (nomark _)) (pw_or1 ptNever))) (pss_one (ps_ret (pe_c (c__law_say T) hr (by decide) rfl (pa_cons (pv 0) (pa_cons (pv 5) (pa_cons (pv 6) pa_nil)))))) pss_nil)
      pss_never)), ?_⟩
  refine ⟨_, rfl, sh, _, rfl, SqT.of hsh, rfl, _, _, rfl, _, _, rfl, _, _, rfl, rfl, ?_⟩
  refine ⟨_, rfl, tp, 7, rfl, ht, by decide, fun H1 kd k1 hkd => ?_⟩
  refine ⟨_, rfl, rfl, _, rfl, iteDT rfl (iteT ?_)⟩
  exact ⟨_, rfl, _, rfl, _, rfl, tp, 1, m, rfl, k1.lt ht, by decide, by omega, fun H2 p ps k2 hb pok => q _ p (.say ps) (k1.trans k2) hb ⟨pok, bud_pos _ _⟩⟩
theorem c__law_breakerS (T : Txt w K mg) (D j : Nat) (hj : 6 ≤ j) (ih : Cal P w K mg base j "_law_breaker" (spLBrU D) []) : Cal P w K mg base (j + 1) "_law_breaker" (spLBrU (D + 1)) [] := by
  refine T.f__law_breaker.cal sc__law_breaker (fun _ _ _ _ _ _ us hl => match us, hl with | [_, _, _, _], _ => rfl) (fun vs H Q E h => ?_) (fun f cdv A outer s H vs Q E hr h => ?_)
  · obtain ⟨d, hd, tp, sh, a, m, rfl, _⟩ := h
    rfl
  obtain ⟨d, hd, tp, sh, a, m, rfl, ht, hsh, hm, hv, q⟩ := h
  match d, hd, hv, q with
  | 0, _, hv, q =>
    refine ⟨_, pss_cons (ps_asg (pv 3) (pg_tup rfl (pgs_cons (pg_name (i := 4) sc__law_breaker.nd rfl (.inl rfl)) (pgs_cons (pg_name (i := 5) sc__law_breaker.nd rfl (.inl rfl)) (pgs_cons (pg_name (i := 6) sc__law_breaker.nd rfl (.inl rfl)) pgs_nil)))))
        (pss_cons (ps_set (i := 7) sc__law_breaker.nd rfl (Or.inl rfl) (pe_c (c__law_draw T) hr (by omega) rfl (pa_cons (pv 0) (pa_cons pe_int pa_nil))))
        (pss_cons (ps_if (PW.pt (pw_or (pt_cmpR op_eq (pv 1) pe_int (nomark _)) (pw_or1 ptNever))) (pss_one (ps_ret (pe_c (c__law_say T) hr (by omega) rfl (pa_cons (pv 0) (pa_cons (pv 5) (pa_cons (pv 6) pa_nil)))))) pss_nil)
        pss_never)), ?_⟩
    refine ⟨_, rfl, sh, _, rfl, SqT.of hsh, rfl, _, _, rfl, _, _, rfl, _, _, rfl, rfl, ?_⟩
    refine ⟨_, rfl, tp, 7, rfl, ht, by decide, fun H1 kd k1 hkd => ?_⟩
    refine ⟨_, rfl, rfl, _, rfl, iteDT rfl (iteT ?_)⟩
    exact ⟨_, rfl, _, rfl, _, rfl, tp, 1, m, rfl, k1.lt ht, by decide, by omega, fun H2 p ps k2 hb pok => q _ p (.say ps) (k1.trans k2) hb ⟨pok, bud_pos _ _⟩⟩
  | e + 1, hd, hv, q =>
    have he : e ≤ D := by omega
    refine ⟨_, pss_cons (ps_asg (pv 3) (pg_tup rfl (pgs_cons (pg_name (i := 4) sc__law_breaker.nd rfl (.inl rfl)) (pgs_cons (pg_name (i := 5) sc__law_breaker.nd rfl (.inl rfl)) (pgs_cons (pg_name (i := 6) sc__law_breaker.nd rfl (.inl rfl)) pgs_nil)))))
        (pss_cons (ps_set (i := 7) sc__law_breaker.nd rfl (Or.inl rfl) (pe_c (c__law_draw T) hr (by omega) rfl (pa_cons (pv 0) (pa_cons pe_int pa_nil))))
        (pss_cons (ps_if (PW.pt (pw_or (pt_cmpR op_eq (pv 1) pe_int (nomark _)) (pw_or1 (pt_cmpR op_eq (pv 7) pe_int (nomark _))))) (pss_one (ps_ret (pe_c (c__law_say T) hr (by omega) rfl (pa_cons (pv 0) (pa_cons (pv 5) (pa_cons (pv 6) pa_nil)))))) pss_nil)
        (pss_cons (ps_if (PW.pt (pw_or (pt_cmpR op_in_seq (pv 7) (pe_tup (pa_cons pe_int (pa_cons pe_int pa_nil))) rfl) (pw_or1 (PW.pt (pw_and (pt_cmpR op_gt (pv 7) pe_int (nomark _)) (pw_and1 (pt_cmpR op_eq (pv 2) pe_int (nomark _)))))))) (pss_cons (ps_set (i := 8) sc__law_breaker.nd rfl (Or.inl rfl) (pe_c ih hr (by omega) rfl (pa_cons (pv 0) (pa_cons (pe_op op_sub (pv 1) pe_int) (pa_cons (pv 2) (pa_cons (pv 3) pa_nil)))))) (pss_one (ps_ret (pe_tup (pa_cons pe_str (pa_cons (pe_c (c__law_draw T) hr (by omega) rfl (pa_cons (pv 0) (pa_cons (pe_op op_add (pv 6) pe_int) pa_nil))) (pa_cons (pv 8) (pa_cons (pe_c ih hr (by omega) rfl (pa_cons (pv 0) (pa_cons (pe_op op_sub (pv 1) pe_int) (pa_cons (pv 2) (pa_cons (pv 3) pa_nil))))) pa_nil)))))))) pss_nil)
        (pss_cons (ps_if (pt_cmpR op_eq (pv 7) pe_int (nomark _)) (pss_cons (ps_set (i := 9) sc__law_breaker.nd rfl (Or.inl rfl) (pe_op op_add pe_int (pe_c (c__law_draw T) hr (by omega) rfl (pa_cons (pv 0) (pa_cons (pe_c (c__law_pick T) hr (by omega) rfl (pa_cons (pv 0) (pa_cons (pe_lst (pa_cons pe_int (pa_cons pe_int (pa_cons pe_int (pa_cons (pe_ix ix_list (pe_lst (pa_cons pe_int (pa_cons pe_int pa_nil))) (pe_callTy call_int1 rfl T.b_int (by decide +kernel) (pa_cons (pe_and (pe_cmpR op_eq (pv 1) pe_int (nomark _)) (pe_and (pe_cmpR op_eq (pv 2) pe_int (nomark _)) (pe_one (pe_cmpR op_lt (pv 6) pe_int (nomark _))))) pa_nil)) (fun _ _ => rfl)) pa_nil))))) pa_nil))) pa_nil))))) (pss_one (ps_ret (pe_tup (pa_cons pe_str (pa_cons (pe_callTy call_tuple_of rfl T.b_tuple (by decide +kernel) (pa_cons (pe_lc (own := [("_law_k", 10)]) (g := gName 10) (tt := tYes) rfl sc__law_breaker.nd (pi_range1 rfl T.b_range (pa_cons (pv 9) pa_nil)) (blkOk_by (own := [("_law_k", 10)]) (N := N__law_breaker) (sc := defScope s__law_breaker) (by decide +kernel)) (fun _ _ _ _ _ => pg_name (i := 10) sc__law_breaker.nd rfl (Or.inl rfl)) (fun _ _ _ _ _ => pts_nil) (fun _ _ _ _ _ => (pe_c ih hr (by omega) rfl (pa_cons (pv 0) (pa_cons (pe_op op_sub (pv 1) pe_int) (pa_cons (pv 2) (pa_cons (pv 3) pa_nil))))))) pa_nil)) pa_nil)))))) pss_nil)
        (pss_cons (ps_set (i := 11) sc__law_breaker.nd rfl (Or.inl rfl) (pv 4))
        (pss_cons (ps_join (ps_if (pt_cmpR op_eq (pe_c (c__law_draw T) hr (by omega) rfl (pa_cons (pv 0) (pa_cons pe_int pa_nil))) pe_int (nomark _)) (pss_one (ps_set (i := 11) sc__law_breaker.nd rfl (Or.inl rfl) (pe_c (c__law_draw T) hr (by omega) rfl (pa_cons (pv 0) (pa_cons (pe_op op_add (pv 4) pe_int) pa_nil))))) pss_nil))
        (pss_one (ps_ret (pe_tup (pa_cons pe_str (pa_cons (pe_c (c__law_parts T) hr (by omega) rfl (pa_cons (pv 0) (pa_cons (pv 11) (pa_cons (pv 6) pa_nil)))) (pa_cons (pe_c ih hr (by omega) rfl (pa_cons (pv 0) (pa_cons (pe_op op_sub (pv 1) pe_int) (pa_cons (pe_op op_sub (pv 2) pe_int) (pa_cons (pv 3) pa_nil))))) pa_nil)))))))))))), ?_⟩
    have e1 : ((e + 1 : Nat) : Int) - 1 = (e : Int) := by omega
    have ea : ∀ z : Int, [V.ref tp, V.int (((e + 1 : Nat) : Int) - 1), V.int z, V.ref sh] = [V.ref tp, V.int (e : Int), V.int z, V.ref sh] := fun z => by rw [e1]
    refine ⟨_, rfl, sh, _, rfl, SqT.of hsh, rfl, _, _, rfl, _, _, rfl, _, _, rfl, rfl, ?_⟩
    refine ⟨_, rfl, tp, 7, rfl, ht, by decide, fun H1 kd k1 hkd => ?_⟩
    refine ⟨_, rfl, rfl, _, rfl, iteDF (fun z => by have := V.int.inj z; omega) ⟨_, rfl, rfl, _, rfl, ite2 (fun c => ?_) (fun c => ?_)⟩⟩
    · exact ⟨_, rfl, _, rfl, _, rfl, tp, 1, m, rfl, k1.lt ht, by decide, by omega, fun H2 p ps k2 hb pok => q _ p (.say ps) (k1.trans k2) hb ⟨pok, bud_pos _ _⟩⟩
    have hk0 : kd ≠ 0 := fun w => c (decide_eq_true (by rw [w]; rfl))
    clear c
    refine if_post (fun b Hx => Lk tp H Hx ∧ (b = false → kd = 3 ∨ a = 1)) ?_ ?_
    · intro K2 hK
      refine ⟨_, rfl, (by show 2 ≤ sizeLine; decide), fun p hp => ⟨p, _, rfl, .inr (SqT.of upd_same), rfl, rfl, _, rfl, ?_⟩⟩
      have k2 := k1.trans (.of_same (same_new hp (.tup [V.int 1, V.int 2])))
      refine ite2 (fun c => hK true _ ⟨k2, fun z => nomatch z⟩) (fun c => ?_)
      have hk12 : ¬ (kd = 1 ∨ kd = 2) := fun z => by
        rcases z with rfl | rfl
        · exact absurd c (by decide +kernel)
        · exact absurd c (by decide +kernel)
      refine ⟨_, rfl, _, _, rfl, rfl, _, rfl, ite2 (fun c2 => ?_) (fun c2 => ?_)⟩
      · refine ⟨_, rfl, rfl, _, rfl, hK _ _ ⟨k2, fun z => ?_⟩⟩
        have z1 : ¬ V.int (a : Int) = V.int 0 := of_decide_eq_false z
        have z2 : a ≠ 0 := fun w => z1 (by rw [w]; rfl)
        have := hv.1
        omega
      · refine hK false _ ⟨k2, fun _ => .inl ?_⟩
        have z1 : ¬ (3 : Int) < (kd : Int) := of_decide_eq_false (Bool.eq_false_iff.mpr c2)
        omega
    rintro b H2 ⟨k2, hb2⟩
    have ktup : ∀ {Hy : Hp}, Lk tp H Hy → Hy sh = some (.tup [.int 2, .int 1, .int (m : Int)]) := fun k => k.tup ht hsh
    refine ite2 (fun c => ?_) (fun c => ?_)
    · refine ⟨_, rfl, _, rfl, _, _, rfl, rfl, _, rfl, _, rfl, e, he, tp, sh, a, m, ea _, k2.lt ht, ktup k2, hm, valid_same hv, fun H3 p1 b1 k3 hb1 ok1 => ?_⟩
      have k23 := k2.trans k3
      refine ⟨_, rfl, _, rfl, _, _, rfl, rfl, tp, m + 1, rfl, k23.lt ht, by omega, fun H4 v k4 hv4 => ?_⟩
      have k24 := k23.trans k4
      refine ⟨_, rfl, _, rfl, _, rfl, _, _, rfl, rfl, _, rfl, _, rfl, e, he, tp, sh, a, m, ea _, k24.lt ht, ktup k24, hm, valid_same hv, fun H5 p2 b2 k5 hb2' ok2 => ⟨(by show 4 ≤ sizeLine; decide), fun r hr1 => ?_⟩⟩
      have k25 := k24.trans k5
      refine q _ r (.look v b1 b2) (k25.trans (.of_same (same_new hr1 _))) ⟨p1, p2, upd_same, ?_, hb2'.same (same_new hr1 _)⟩ ⟨by omega, ok1.mono (Nat.le_refl _) (bud_look hv), ok2.mono (Nat.le_refl _) (bud_look hv)⟩
      exact ((hb1.keep fun b xs z => k4.tup (k23.lt ht) z).keep fun b xs z => k5.tup (k24.lt ht) z).same (same_new hr1 _)
    have hb3 : kd = 3 ∨ a = 1 := hb2 (Bool.eq_false_iff.mpr c)
    clear hb2
    refine ⟨_, rfl, rfl, _, rfl, ite2 (fun c3 => ?_) (fun c3 => ?_)⟩
    · refine ⟨_, rfl, _, rfl, (by show 2 ≤ sizeLine; decide), fun r1 hr1 => ⟨_, rfl, rfl, _, rfl, and_val (decide (e = 0) && decide (a = 0)) ?_ (fun c4 Q' k' => ?_) (fun c4 => ?_)⟩⟩
      rotate_left
      · have d1 : V.int ((e + 1 : Nat) : Int) = V.int 1 := of_decide_eq_true c4
        have d2 : e = 0 := by have := V.int.inj d1; omega
        refine ⟨_, rfl, rfl, _, rfl, and_val (decide (e = 0) && decide (a = 0)) k' (fun c5 Q2 k2' => ?_) (fun c5 => ?_)⟩
        · have d3 : V.int (a : Int) = V.int 0 := of_decide_eq_true c5
          have d4 : a = 0 := by have := V.int.inj d3; omega
          refine ⟨_, rfl, _, _, rfl, rfl, ?_⟩
          have d5 : decide ((m : Int) < 4) = (decide (e = 0) && decide (a = 0)) := by rw [decide_eq_true (show (m : Int) < 4 by omega), d2, d4]; rfl
          show Q2 (.bl (decide ((m : Int) < 4))) _
          rw [d5]
          exact k2'
        · have d3 : ¬ V.int (a : Int) = V.int 0 := of_decide_eq_false c5
          have d4 : ¬ a = 0 := fun w => d3 (by rw [w]; rfl)
          rw [decide_eq_false d4, Bool.and_false]
      · have d1 : ¬ V.int ((e + 1 : Nat) : Int) = V.int 1 := of_decide_eq_false c4
        have d2 : ¬ e = 0 := fun w => d1 (by rw [w]; rfl)
        rw [decide_eq_false d2, Bool.false_and]
      have hdd : (decide (e = 0) && decide (a = 0)) = true → e = 0 ∧ a = 0 := fun z => by simpa using z
      generalize (decide (e = 0) && decide (a = 0)) = dd at *
      refine .inr ⟨_, rfl, r1, _, _, .int (if dd then 12 else 3), rfl, rfl, SqL.of upd_same, (by cases dd <;> rfl), (by show 4 ≤ sizeLine; decide), fun r2 hr2 => ?_⟩
      have k3 : Lk tp H (upd (upd H2 r1 (.lst [V.int 3, V.int 12])) r2 (.lst [V.int 3, V.int 3, V.int 3, V.int (if dd = true then 12 else 3)])) := (k2.trans (.of_same (same_new hr1 _))).trans (.of_same (same_new hr2 _))
      refine ⟨tp, r2, _, rfl, k3.lt ht, upd_same, by show 1 ≤ 4; decide, by show 4 ≤ 100; decide, fun H4 y k4 hy => ?_⟩
      have k34 := k3.trans k4
      obtain ⟨xn, rfl, hx1, hx⟩ : ∃ xn : Nat, y = V.int (xn : Int) ∧ 1 ≤ xn ∧ (xn ≤ 3 ∨ (xn ≤ 12 ∧ e = 0 ∧ a = 0)) := by
        simp only [List.mem_cons, List.not_mem_nil, or_false] at hy
        rcases hy with rfl | rfl | rfl | rfl
        · exact ⟨3, rfl, by decide, .inl (Nat.le_refl _)⟩
        · exact ⟨3, rfl, by decide, .inl (Nat.le_refl _)⟩
        · exact ⟨3, rfl, by decide, .inl (Nat.le_refl _)⟩
        · cases dd with
          | true => exact ⟨12, rfl, by decide, .inr ⟨Nat.le_refl _, hdd rfl⟩⟩
          | false => exact ⟨3, rfl, by decide, .inl (Nat.le_refl _)⟩
      refine ⟨tp, xn, rfl, k34.lt ht, hx1, fun H5 v k5 hv5 => ⟨_, _, rfl, rfl, ?_⟩⟩
      have k35 := k34.trans k5
      have en : (1 : Int) + (v : Int) = ((1 + v : Nat) : Int) := by omega
      have hn : 1 + v ≤ 3 ∨ (1 + v ≤ 12 ∧ e = 0 ∧ a = 0) := by omega
      refine ⟨_, rfl, ((1 + v : Nat) : Int), congrArg (fun z => [V.int z]) en, by omega, by omega, fun D hD => ?_⟩
      rw [Int.toNat_natCast]
      have k0 : Lk tp H (upd H5 D (.lst [])) := k35.trans (.of_same (same_new hD _))
      have hD0 : H D = none := by
        cases z : H D with
        | none => rfl
        | some o =>
          by_cases w : D = tp
          · obtain ⟨kvs, w2⟩ := (k35.lt ht).dk
            rw [← w, hD] at w2
            cases w2
          · rw [k35.fr _ _ z w] at hD; cases hD
      refine lc_range (lo := 0) (n := 1 + v) (fun i Hi => Lk tp H Hi ∧ ∃ (as : Nat → Addr) (f : Nat → Br), Hi D = some (.lst ((List.range i).map fun j => V.ref (as j))) ∧ ∀ j, j < i → BrAt Hi (f j) (as j) ∧ (f j).Ok e (bud e a)) ⟨k0, fun _ => 0, fun _ => .say [], upd_same, fun j hj => by omega⟩ (fun i Hi hi ⟨k6, as, f, hL, hall⟩ => ?_) (fun Hi ⟨k6, as, f, hL, hall⟩ => ?_)
      · refine ⟨rfl, _, rfl, _, rfl, _, _, rfl, rfl, _, rfl, _, rfl, e, he, tp, sh, a, m, ea _, k6.lt ht, ktup k6, hm, valid_same hv, fun H7 p b k7 hb ok => ?_⟩
        have hL7 := k7.lst (k6.lt ht) hL
        have kt : ∀ b xs, H7 b = some (.tup xs) → (upd H7 D (.lst ((List.range i).map (fun j => V.ref (as j)) ++ [V.ref p]))) b = some (.tup xs) := fun b xs z => by rw [upd_ne (ne_of z hL7 (by intro z; cases z))]; exact z
        refine ⟨_, hL7, ?_, (k6.trans k7).mut hD0 hL7 _, fun j => if j < i then as j else p, fun j => if j < i then f j else b, ?_, fun j hj => ?_⟩
        · rw [List.length_map, List.length_range]; exact slt (by omega)
        · rw [upd_same, List.range_succ, List.map_append]
          congr 3
          · refine List.map_congr_left fun j hj => ?_
            simp only [if_pos (List.mem_range.mp hj)]
          · simp
        · by_cases hji : j < i
          · simp only [if_pos hji]
            obtain ⟨g1, g2⟩ := hall j hji
            exact ⟨(g1.keep fun b xs z => k7.tup (k6.lt ht) z).keep kt, g2⟩
          · simp only [if_neg hji]
            exact ⟨hb.keep kt, ok⟩
      · refine ⟨D, _, rfl, .inl ⟨SqL.of hL, fun r3 hr3 => ⟨(by show 2 ≤ sizeLine; decide), fun r4 hr4 => ?_⟩⟩⟩
        have s3 := (same_new hr3 (.tup ((List.range (1 + v)).map fun j => V.ref (as j)))).trans (same_new hr4 (.tup [V.str "toss", V.ref r3]))
        have nr : r3 ≠ r4 := fun w => by rw [← w, upd_same] at hr4; cases hr4
        refine q _ r4 (.toss (1 + v) f) (k6.trans (.of_same s3)) ⟨r3, as, upd_same, by rw [upd_ne nr, upd_same], fun i hi => ((hall i hi).1).same s3⟩ ⟨by omega, bud e a, bud_toss hv hn, fun i hi => (hall i hi).2⟩
    · have h3 : a = 1 := by
        rcases hb3 with rfl | h
        · exact absurd (decide_eq_true (show V.int ((3 : Nat) : Int) = V.int 3 from rfl)) c3
        · exact h
      subst h3
      refine ⟨_, rfl, fun σ' H' => ∃ sz : Nat, sz ≤ 3 ∧ σ' = [some (.ref tp), some (.int ((e + 1 : Nat) : Int)), some (.int ((1 : Nat) : Int)), some (.ref sh), some (.int 2), some (.int 1), some (.int (m : Int)), some (.int (kd : Int)), none, none, none, some (.int (sz : Int))] ∧ Lk tp H H', ?_, ?_⟩
      · refine ⟨_, rfl, tp, 9, rfl, k2.lt ht, by decide, fun H3 v k3 hv3 => ⟨rfl, _, rfl, ite2 (fun c4 => ?_) (fun c4 => ⟨2, by decide, rfl, k2.trans k3⟩)⟩⟩
        exact ⟨_, rfl, _, rfl, _, _, rfl, rfl, tp, 4, rfl, (k2.trans k3).lt ht, by decide, fun H4 v4 k4 hv4 => ⟨v4, by omega, rfl, (k2.trans k3).trans k4⟩⟩
      rintro σ' H3 ⟨sz, hsz, rfl, k3⟩
      refine ⟨_, rfl, _, rfl, _, rfl, tp, sz, m, rfl, k3.lt ht, hsz, by omega, fun H4 qa ps k4 hq pok => ?_⟩
      have k34 := k3.trans k4
      have e0 : [V.ref tp, V.int (((e + 1 : Nat) : Int) - 1), V.int (((1 : Nat) : Int) - 1), V.ref sh] = [V.ref tp, V.int (e : Int), V.int ((0 : Nat) : Int), V.ref sh] := by rw [e1]; rfl
      refine ⟨_, rfl, _, rfl, _, _, rfl, rfl, _, rfl, _, _, rfl, rfl, _, rfl, e, he, tp, sh, 0, m, e0, k34.lt ht, ktup k34, hm, valid_ask hv, fun H5 p b k5 hb ok => ⟨(by show 3 ≤ sizeLine; decide), fun r hr1 => ?_⟩⟩
      refine q _ r (.ask ps b) ((k34.trans k5).trans (.of_same (same_new hr1 _))) ⟨qa, p, upd_same, same_new hr1 _ _ _ (k5.tup (k34.lt ht) hq), hb.same (same_new hr1 _)⟩ ⟨pok, ok.mono (Nat.le_refl _) (bud_ask hv)⟩
/-- _law_breaker, of depths up to two -/
theorem c__law_breaker (T : Txt w K mg) : Cal P w K mg base 8 "_law_breaker" (spLBrU 2) [] :=
  c__law_breakerS T 1 7 (by decide) (c__law_breakerS T 0 6 (by decide) (c__law_breaker0 T))
end
end NX
namespace NX
open PySem PySem.Spec PyProof.Rows L2
open C8 (Cal Met Mak pe_c pe_mk pe_mt pe_mt0)
theorem big_mul {a b : Nat} {i j : Nat} (h1 : a < 2 ^ i) (h2 : b < 2 ^ j) : a * b < 2 ^ (i + j) := by
  rw [Nat.pow_add]
  exact Nat.mul_lt_mul_of_lt_of_le h1 (Nat.le_of_lt h2) (Nat.pow_pos (by decide))
theorem big_add {a b : Int} {i : Nat} (h1 : a.natAbs < 2 ^ i) (h2 : b.natAbs < 2 ^ i) : (a + b).natAbs < 2 ^ (i + 1) := by
  have h3 := Int.natAbs_add_le a b
  have h4 : (2 : Nat) ^ (i + 1) = 2 ^ i + 2 ^ i := by rw [Nat.pow_succ]; omega
  omega
theorem big_sub {a b : Int} {i : Nat} (h1 : a.natAbs < 2 ^ i) (h2 : b.natAbs < 2 ^ i) : (a - b).natAbs < 2 ^ (i + 1) := by
  have h3 := Int.natAbs_sub_le a b
  have h4 : (2 : Nat) ^ (i + 1) = 2 ^ i + 2 ^ i := by rw [Nat.pow_succ]; omega
  omega
theorem big_up {a i j : Nat} (h : a < 2 ^ i) (hij : i ≤ j) : a < 2 ^ j := Nat.lt_of_lt_of_le h (Nat.pow_le_pow_right (by decide) hij)
theorem big_mulZ {x y : Int} {i j : Nat} (h1 : x.natAbs < 2 ^ i) (h2 : y.natAbs < 2 ^ j) : (x * y).natAbs < 2 ^ (i + j) := by
  rw [Int.natAbs_mul]
  exact big_mul h1 h2
section
variable {P : Program} {w : World} {K : PySem.W.Frag} {mg : Str → Option Value} {base : Heap}
abbrev N__law_made : List Str := ["_law_parts_here", "_law_handed", "_law_found", "_law_part"]
abbrev P__law_made : List Str := ["_law_parts_here", "_law_handed"]
theorem sc__law_made : FnScope N__law_made P__law_made (defScope s__law_made) := ⟨rfl, rfl, rfl, by decide +kernel, rfl, by decide +kernel, by decide +kernel⟩
theorem c__law_made (T : Txt w K mg) : Cal P w K mg base 1 "_law_made" spMade [] := by
  refine T.f__law_made.cal sc__law_made (fun _ _ _ _ _ _ us hl => match us, hl with | [_, _], _ => rfl) (fun vs H Q E h => ?_) (fun f cdv A outer s H vs Q E hr h => ?_)
  · obtain ⟨q, ps, h, rfl, _⟩ := h
    rfl
  obtain ⟨q, ps, h, rfl, hq, ⟨hp3, hp9⟩, hh, qq⟩ := h
  refine ⟨_, pss_cons (ps_set (i := 2) sc__law_made.nd rfl (Or.inl rfl) pe_str)
      (pss_cons (ps_for PassesOwn.never rfl (pi_tup (pv 0)) (pg_name (i := 3) sc__law_made.nd rfl (Or.inl rfl)) (pss_one (ps_if (pt_val (pe_callB call_isi rfl T.b_isinstance (by decide +kernel) (pa_cons (pv 3) (pa_cons (pe_ty "str" T.b_str (by decide +kernel)) pa_nil)))) (pss_one (ps_set (i := 2) sc__law_made.nd rfl (Or.inl rfl) (pe_op op_add_str (pv 2) (pv 3)))) (pss_one (ps_if (pt_cmpR op_lt (pv 3) (pe_callB call_len_str rfl T.b_len PySem.boot_len (pa_cons (pv 1) pa_nil)) (nomark _)) (pss_one (ps_set (i := 2) sc__law_made.nd rfl (Or.inl rfl) (pe_op op_add_str (pv 2) (pe_ix ix_str (pv 1) (pv 3) (fun _ _ => rfl))))) (pss_one (ps_set (i := 2) sc__law_made.nd rfl (Or.inl rfl) (pe_op op_add_str (pv 2) pe_str))))))))
      (pss_one (ps_ret (pv 2)))), ?_⟩
  refine ⟨_, rfl, q, rfl, ⟨_, SqT.of hq⟩, for_tup (xs := ps.map PartV) (fun i σ H' => (∃ x : Option V, σ = [some (.ref q), some (.str (S h)), some (.str (S ((ps.take i).map (bit1 h)))), x]) ∧ H' = H)
    ⟨⟨none, rfl⟩, rfl⟩ (fun i σ H' _ ⟨_, e⟩ => by rw [e]; exact SqT.of hq) ?_ ?_⟩
  · rintro i y σ H' hi ⟨⟨x, rfl⟩, rfl⟩
    obtain ⟨z, hz, rfl⟩ := get_map hi
    have lz : i < ps.length := (List.getElem?_eq_some_iff.mp hz).1
    have more : ((ps.take (i + 1)).map (bit1 h)) = (ps.take i).map (bit1 h) ++ [bit1 h z] := by rw [take_more hz, List.map_append]; rfl
    have len : (S ((ps.take i).map (bit1 h))).length + 1 ≤ sizeLine := by rw [S_len, List.length_map]; exact sl (by have := List.length_take_le i ps; omega)
    cases z with
    | inl b =>
      refine ⟨_, rfl, _, _, _, _, true, rfl, .ty _, .base (.str _), kit_ty (by decide +kernel), _, rfl, iteT ?_⟩
      refine ⟨_, rfl, _, rfl, _, _, rfl, rfl, len, ⟨some (.str (S [b])), ?_⟩, rfl⟩
      show [some (V.ref q), some (V.str (S h)), some (V.str (S ((ps.take i).map (bit1 h)) ++ S [b])), some (V.str (S [b]))] = _
      rw [S_app, more]
      rfl
    | inr n =>
      refine ⟨_, rfl, _, _, _, _, false, rfl, .ty _, .base (.int _), kit_ty (by decide +kernel), _, rfl, iteF ?_⟩
      refine ⟨_, rfl, _, rfl, _, rfl, (by rw [S_len]; exact sl (by omega)), _, _, rfl, rfl, _, rfl, ?_⟩
      refine ite2 (fun c => ?_) (fun c => ?_)
      · have c1 : (n : Int) < (((S h).length : Nat) : Int) := of_decide_eq_true c
        rw [S_len] at c1
        have c2 : n < h.length := by omega
        refine ⟨_, rfl, _, rfl, _, rfl, _, _, _, rfl, rfl, (by rw [S_len]; exact sl (by omega)), S_at c2, ?_⟩
        refine ⟨_, _, rfl, rfl, len, ⟨some (.int (n : Int)), ?_⟩, rfl⟩
        show [some (V.ref q), some (V.str (S h)), some (V.str (S ((ps.take i).map (bit1 h)) ++ S [bitAt h n])), some (V.int (n : Int))] = _
        rw [S_app, more]
        rfl
      · have c1 : ¬ (n : Int) < (((S h).length : Nat) : Int) := of_decide_eq_false (Bool.eq_false_iff.mpr c)
        rw [S_len] at c1
        have c2 : bitAt h n = false := by
          simp only [bitAt, List.getD_eq_getElem?_getD]
          rw [List.getElem?_eq_none (by omega)]
          rfl
        refine ⟨_, rfl, _, _, rfl, rfl, len, ⟨some (.int (n : Int)), ?_⟩, rfl⟩
        show [some (V.ref q), some (V.str (S h)), some (V.str (S ((ps.take i).map (bit1 h)) ++ S [false])), some (V.int (n : Int))] = _
        rw [S_app, more]
        show _ = [_, _, some (V.str (S (_ ++ [bitAt h n]))), _]
        rw [c2]
  · rintro σ H' ⟨⟨x, rfl⟩, rfl⟩
    refine ⟨_, rfl, ?_⟩
    rw [List.length_map, List.take_length, ← made_eq]
    exact qq
def spNote : Sp := fun vs H Q _ => ∃ (c : Addr) (d : Nat) (l : Cnt), vs = [.ref c, .int ((d : Nat) : Int)] ∧ H c = some (.dK (cntK l)) ∧ (l.map (·.1)).Nodup ∧ l.length ≤ 5000 ∧ Q .non (upd H c (.dK (cntK (note d l))))
abbrev N__law_note : List Str := ["_law_counts", "_law_den"]
abbrev P__law_note : List Str := ["_law_counts", "_law_den"]
theorem sc__law_note : FnScope N__law_note P__law_note (defScope s__law_note) := ⟨rfl, rfl, rfl, by decide +kernel, rfl, by decide +kernel, by decide +kernel⟩
theorem c__law_note (T : Txt w K mg) : Cal P w K mg base 1 "_law_note" spNote [] := by
  refine T.f__law_note.cal sc__law_note (fun _ _ _ _ _ _ us hl => match us, hl with | [_, _], _ => rfl) (fun vs H Q E h => ?_) (fun f cdv A outer s H vs Q E hr h => ?_)
  · obtain ⟨c, d, l, rfl, _⟩ := h
    rfl
  obtain ⟨c, d, l, rfl, hc, hnd, hll, q⟩ := h
  have hu := hu_of hr
  refine ⟨_, pss_one (ps_dput hu (pv 0) (pv 1) (pe_op op_add (pe_dget2 hu (pv 0) (pv 1) pe_int (M2.mk rfl rfl rfl rfl)) pe_int) rfl), ?_⟩
  refine ⟨_, rfl, c, rfl, .inl ⟨_, .inl hc⟩, _, rfl, _, DGet.k (k := .inl ((d : Nat) : Int)) hc, ?_⟩
  rw [cntK_get]
  refine ⟨_, _, rfl, rfl, _, rfl, _, rfl, c, _, rfl, DPut.k (k := .inl ((d : Nat) : Int)) hc (by rw [cntK_len]; exact slt (by omega)), ?_⟩
  rw [cntK_put _ hnd]
  exact q
def spLFrac : Sp := fun vs H Q _ => ∃ (a : Int) (u : Nat), vs = [.int a, .int ((u : Nat) : Int)] ∧ 0 < u ∧ a.natAbs < 2 ^ 1999 ∧ u < 2 ^ 1999 ∧ ∀ H' p, Same H H' → RatAt H' p (mkRat a u) → Q (.ref p) H'
abbrev N__law_fraction : List Str := ["_law_over", "_law_under", "_law_a", "_law_b", "_law_k", "_law_c"]
abbrev P__law_fraction : List Str := ["_law_over", "_law_under"]
theorem sc__law_fraction : FnScope N__law_fraction P__law_fraction (defScope s__law_fraction) := ⟨rfl, rfl, rfl, by decide +kernel, rfl, by decide +kernel, by decide +kernel⟩
theorem c__law_fraction (T : Txt w K mg) : Cal P w K mg base 1 "_law_fraction" spLFrac [] := by
  refine T.f__law_fraction.cal sc__law_fraction (fun _ _ _ _ _ _ us hl => match us, hl with | [_, _], _ => rfl) (fun vs H Q E h => ?_) (fun f cdv A outer s H vs Q E hr h => ?_)
  · obtain ⟨a, u, rfl, _⟩ := h
    rfl
  obtain ⟨a, u, rfl, hu, ha9, hu9, q⟩ := h
  refine ⟨_, pss_cons (ps_set (i := 2) sc__law_fraction.nd rfl (Or.inl rfl) (pe_callB call_abs rfl T.b_abs (by decide +kernel) (pa_cons (pv 0) pa_nil)))
      (pss_cons (ps_set (i := 3) sc__law_fraction.nd rfl (Or.inl rfl) (pv 1))
      (pss_cons (ps_join (ps_for PassesOwn.never rfl (pi_range1 rfl T.b_range (pa_cons pe_int pa_nil)) (pg_name (i := 4) sc__law_fraction.nd rfl (Or.inl rfl)) (pss_cons (ps_if (pt_cmpR op_eq (pv 2) pe_int (nomark _)) (pss_one ps_break) pss_nil) (pss_cons (ps_set (i := 5) sc__law_fraction.nd rfl (Or.inl rfl) (pe_op op_mod (pe_callTy call_int1 rfl T.b_int (by decide +kernel) (pa_cons (pv 3) pa_nil)) (pv 2))) (pss_cons (ps_set (i := 3) sc__law_fraction.nd rfl (Or.inl rfl) (pv 2)) (pss_one (ps_set (i := 2) sc__law_fraction.nd rfl (Or.inl rfl) (pv 5))))))))
      (pss_one (ps_ret (pe_tup (pa_cons (pe_op op_fdivW (pv 0) (pv 3)) (pa_cons (pe_op op_fdivW (pv 1) (pv 3)) pa_nil))))))), ?_⟩
  have ea : (if a < 0 then -a else a) = ((a.natAbs : Nat) : Int) := by split <;> omega
  refine ⟨_, rfl, a, rfl, ?_⟩
  rw [ea]
  refine ⟨_, rfl, fun σ' H' => (∃ x2 x4 x5, σ' = [some (.int a), some (.int ((u : Nat) : Int)), x2, some (.int ((Nat.gcd a.natAbs u : Nat) : Int)), x4, x5]) ∧ H' = H, ?_, ?_⟩
  · refine ⟨(4000 : Int), rfl, by decide, by decide, for_range (lo := 0) (n := 4000) (fun i σ H' => (∃ (A B : Nat) (x4 x5 : Option V), σ = [some (.int a), some (.int ((u : Nat) : Int)), some (.int ((A : Nat) : Int)), some (.int ((B : Nat) : Int)), x4, x5] ∧ Euc 3998 i A B (Nat.gcd a.natAbs u)) ∧ H' = H)
      ⟨⟨a.natAbs, u, none, none, rfl, .start (big_mul ha9 hu9) hu⟩, rfl⟩ ?_ ?_⟩
    · rintro i σ H' hi ⟨⟨A, B, x4, x5, rfl, eu⟩, rfl⟩
      refine ⟨_, rfl, rfl, _, rfl, ite2 (fun c => ?_) (fun c => ?_)⟩
      · have c1 : V.int ((A : Nat) : Int) = V.int 0 := of_decide_eq_true c
        have c2 : A = 0 := by have := V.int.inj c1; omega
        subst c2
        have eb := eu.zero
        subst eb
        exact ⟨⟨_, _, _, rfl⟩, rfl⟩
      · have c1 : ¬ V.int ((A : Nat) : Int) = V.int 0 := of_decide_eq_false (Bool.eq_false_iff.mpr c)
        have c2 : A ≠ 0 := fun w => c1 (by rw [w]; rfl)
        refine ⟨_, rfl, .inl ⟨_, rfl, _, rfl, _, _, rfl, rfl, (by show (0 : Int) < (A : Int); omega), ?_⟩⟩
        refine ⟨_, rfl, _, rfl, ⟨B % A, A, some (.int (0 + (i : Int))), some (.int (((B % A : Nat)) : Int)), ?_, eu.step c2⟩, rfl⟩
        show [_, _, some (V.int ((B : Int) % (A : Int))), some (V.int (A : Int)), _, some (V.int ((B : Int) % (A : Int)))] = _
        rw [Int.natCast_emod]
    · rintro σ H' ⟨⟨A, B, x4, x5, rfl, eu⟩, rfl⟩
      have c2 := eu.done (by decide)
      subst c2
      have eb := eu.zero
      subst eb
      exact ⟨⟨_, _, _, rfl⟩, rfl⟩
  rintro σ' H' ⟨⟨x2, x4, x5, rfl⟩, rfl⟩
  have g0 : 0 < Nat.gcd a.natAbs u := Nat.gcd_pos_of_pos_right _ hu
  have gl : Nat.gcd a.natAbs u < 2 ^ 8000 := big_up (Nat.lt_of_le_of_lt (Nat.gcd_le_right _ hu) hu9) (by decide)
  have cd : ∀ i : Int, CDivW i ((Nat.gcd a.natAbs u : Nat) : Int) := fun i => wide_div (by omega) (by rw [Int.natAbs_natCast]; exact gl) (by decide) (by decide)
  refine ⟨_, rfl, _, rfl, _, _, rfl, rfl, cd _, _, rfl, _, rfl, _, _, rfl, rfl, cd _, (by show 2 ≤ sizeLine; decide), fun p hp => q _ p (same_new hp _) ?_⟩
  show upd H' p _ p = _
  rw [upd_same, mk_num a hu, mk_den a hu]
end
end NX
namespace NX
open PySem PySem.Spec PyProof.Rows L2
open C8 (Cal Met Mak pe_c pe_mk pe_mt pe_mt0)
theorem lf_under {a b : Nat} (h1 : a < 2 ^ 500) (h2 : b < 2 ^ 500) : a * b < 2 ^ 1999 := big_up (big_mul h1 h2) (by decide)
theorem lf_over {x y z v : Int} (h1 : x.natAbs < 2 ^ 500) (h2 : y.natAbs < 2 ^ 500) (h3 : z.natAbs < 2 ^ 500) (h4 : v.natAbs < 2 ^ 500) : (x * y + z * v).natAbs < 2 ^ 1999 := big_up (big_add (big_mulZ h1 h2) (big_mulZ h3 h4)) (by decide)
theorem lf_overS {x y z v : Int} (h1 : x.natAbs < 2 ^ 500) (h2 : y.natAbs < 2 ^ 500) (h3 : z.natAbs < 2 ^ 500) (h4 : v.natAbs < 2 ^ 500) : (x * y - z * v).natAbs < 2 ^ 1999 := big_up (big_sub (big_mulZ h1 h2) (big_mulZ h3 h4)) (by decide)
theorem nz {a : Nat} {k : Nat} (h : a < k) : ((a : Nat) : Int).natAbs < k := by rw [Int.natAbs_natCast]; exact h
/-- partial sums of the counts are small -/
theorem part_fz {l : Cnt} (ok : CntOk l) (i : Nat) : Fz M0 (64 * KW) (sumL ((l.take i).map fun x => (x.2 : Rat) / (x.1 : Rat))) := by
  refine (Fz.sum (D := M0) (K := KW) (by decide) (l := (l.take i).map fun x => (x.2 : Rat) / (x.1 : Rat)) fun q hq => ?_).mono ?_
  · obtain ⟨e, he, rfl⟩ := List.mem_map.mp hq
    rw [← share_mem ok.nd (List.mem_of_mem_take he)]
    exact share_fz ok (List.mem_of_mem_take he)
  · refine Nat.mul_le_mul_right _ ?_
    have := ok.few
    rw [List.length_map, List.length_take]
    omega
theorem cnt_fz {l : Cnt} (ok : CntOk l) : Fz M0 (64 * KW) (cntVal l) := by
  have h := part_fz ok l.length
  rw [List.take_length] at h
  exact h
section
variable {P : Program} {w : World} {K : PySem.W.Frag} {mg : Str → Option Value} {base : Heap}
theorem sc__law_less : FnScope ["_law_first", "_law_second"] ["_law_first", "_law_second"] (defScope s__law_less) := ⟨rfl, rfl, rfl, by decide +kernel, rfl, by decide +kernel, by decide +kernel⟩
theorem c__law_less (T : Txt w K mg) : Cal P w K mg base 2 "_law_less" (spAdd fun a b => a - b) [] := by
  refine T.f__law_less.cal sc__law_less (fun _ _ _ _ _ _ us hl => match us, hl with | [_, _], _ => rfl) (fun vs H Q E h => ?_) (fun f cdv A outer s H vs Q E hr h => ?_)
  · obtain ⟨p, r, a, b, rfl, _⟩ := h
    rfl
  obtain ⟨p, r, a, b, rfl, hp, hr1, ⟨a1, a2⟩, ⟨b1, b2⟩, q⟩ := h
  refine ⟨_, pss_one (ps_ret (pe_c (c__law_fraction T) hr (by decide) rfl (pa_cons (pe_op op_sub (pe_op op_mulW (pe_ix ix_tup (pv 0) pe_int (fun _ _ => rfl)) (pe_ix ix_tup (pv 1) pe_int (fun _ _ => rfl))) (pe_op op_mulW (pe_ix ix_tup (pv 1) pe_int (fun _ _ => rfl)) (pe_ix ix_tup (pv 0) pe_int (fun _ _ => rfl)))) (pa_cons (pe_op op_mulW (pe_ix ix_tup (pv 0) pe_int (fun _ _ => rfl)) (pe_ix ix_tup (pv 1) pe_int (fun _ _ => rfl))) pa_nil)))), ?_⟩
  refine ⟨_, rfl, p, _, 0, _, rfl, rfl, SqT.of hp, rfl, _, rfl, r, _, 1, _, rfl, rfl, SqT.of hr1, rfl, _, _, rfl, rfl, sm_mul a1 (nz b2), _, rfl, r, _, 0, _, rfl, rfl, SqT.of hr1, rfl, _, rfl, p, _, 1, _, rfl, rfl, SqT.of hp, rfl, _, _, rfl, rfl, sm_mul b1 (nz a2), _, _, rfl, rfl,
    _, rfl, p, _, 1, _, rfl, rfl, SqT.of hp, rfl, _, rfl, r, _, 1, _, rfl, rfl, SqT.of hr1, rfl, _, _, rfl, rfl, sm_mul (nz a2) (nz b2), a.num * (b.den : Int) - b.num * (a.den : Int), a.den * b.den, ?_, Nat.mul_pos (den_pos a) (den_pos b), lf_overS a1 (nz b2) b1 (nz a2), lf_under a2 b2, fun H' t s' ht => q H' t s' ?_⟩
  · show [V.int _, V.int ((a.den : Int) * (b.den : Int))] = _
    rw [Int.natCast_mul]
  · rw [sub_mk] at ht; exact ht
def spOther : Sp := fun vs H Q _ => ∃ (p : Addr) (a : Rat), vs = [.ref p] ∧ RatAt H p a ∧ Sm a ∧ ∀ H' t, Same H H' → RatAt H' t (1 - a) → Q (.ref t) H'
theorem sc__law_other : FnScope ["_law_one"] ["_law_one"] (defScope s__law_other) := ⟨rfl, rfl, rfl, by decide +kernel, rfl, by decide +kernel, by decide +kernel⟩
theorem c__law_other (T : Txt w K mg) : Cal P w K mg base 2 "_law_other" spOther [] := by
  refine T.f__law_other.cal sc__law_other (fun _ _ _ _ _ _ us hl => match us, hl with | [_], _ => rfl) (fun vs H Q E h => ?_) (fun f cdv A outer s H vs Q E hr h => ?_)
  · obtain ⟨p, a, rfl, _⟩ := h
    rfl
  obtain ⟨p, a, rfl, hp, ⟨a1, a2⟩, q⟩ := h
  refine ⟨_, pss_one (ps_ret (pe_c (c__law_fraction T) hr (by decide) rfl (pa_cons (pe_op op_sub (pe_ix ix_tup (pv 0) pe_int (fun _ _ => rfl)) (pe_ix ix_tup (pv 0) pe_int (fun _ _ => rfl))) (pa_cons (pe_ix ix_tup (pv 0) pe_int (fun _ _ => rfl)) pa_nil)))), ?_⟩
  refine ⟨_, rfl, p, _, 1, _, rfl, rfl, SqT.of hp, rfl, _, rfl, p, _, 0, _, rfl, rfl, SqT.of hp, rfl, _, _, rfl, rfl, _, rfl, p, _, 1, _, rfl, rfl, SqT.of hp, rfl, (a.den : Int) - a.num, a.den, rfl, den_pos a, big_up (big_sub (nz a2) a1) (by decide), big_up a2 (by decide), fun H' t s' ht => q H' t s' ?_⟩
  rw [other_mk] at ht
  exact ht
def spSum : Sp := fun vs H Q _ => ∃ (c : Addr) (l : Cnt), vs = [.ref c] ∧ H c = some (.dK (cntK l)) ∧ CntOk l ∧ ∀ H' t, Same H H' → RatAt H' t (cntVal l) → Q (.ref t) H'
abbrev N__law_sum : List Str := ["_law_counts", "_law_over", "_law_under", "_law_den"]
abbrev P__law_sum : List Str := ["_law_counts"]
theorem sc__law_sum : FnScope N__law_sum P__law_sum (defScope s__law_sum) := ⟨rfl, rfl, rfl, by decide +kernel, rfl, by decide +kernel, by decide +kernel⟩
theorem c__law_sum (T : Txt w K mg) : Cal P w K mg base 2 "_law_sum" spSum [] := by
  refine T.f__law_sum.cal sc__law_sum (fun _ _ _ _ _ _ us hl => match us, hl with | [_], _ => rfl) (fun vs H Q E h => ?_) (fun f cdv A outer s H vs Q E hr h => ?_)
  · obtain ⟨c, l, rfl, _⟩ := h
    rfl
  obtain ⟨c, l, rfl, hc, ok, q⟩ := h
  have hu := hu_of hr
  refine ⟨_, pss_cons (ps_set (i := 1) sc__law_sum.nd rfl (Or.inl rfl) pe_int)
      (pss_cons (ps_set (i := 2) sc__law_sum.nd rfl (Or.inl rfl) pe_int)
      (pss_cons (ps_lock (ps_for PassesOwn.never rfl (pi_keys (pv 0)) (pg_name (i := 3) sc__law_sum.nd rfl (Or.inl rfl)) (pss_cons (ps_set (i := 1) sc__law_sum.nd rfl (Or.inl rfl) (pe_op op_add (pe_op op_mulW (pv 1) (pv 3)) (pe_op op_mulW (pe_dget hu (pv 0) (pv 3) (fun _ _ => rfl)) (pv 2)))) (pss_cons (ps_set (i := 2) sc__law_sum.nd rfl (Or.inl rfl) (pe_op op_mulW (pv 2) (pv 3))) (pss_one (ps_asg (pe_c (c__law_fraction T) hr (by decide) rfl (pa_cons (pv 1) (pa_cons (pv 2) pa_nil))) (pg_tup rfl (pgs_cons (pg_name (i := 1) sc__law_sum.nd rfl (.inl rfl)) (pgs_cons (pg_name (i := 2) sc__law_sum.nd rfl (.inl rfl)) pgs_nil)))))))))
      (pss_one (ps_ret (pe_tup (pa_cons (pv 1) (pa_cons (pv 2) pa_nil))))))), ?_⟩
  refine ⟨c, _, hc, trivial, fun od => ⟨_, rfl, c, od, rfl, .inl ⟨cntK l, upd_same, ?_⟩⟩⟩
  have cl : (cntK l).length = l.length := cntK_len l
  refine for_it (walk_keys (d := c) (o := od) (kvs := cntK l)) (fun i σ H' => (∃ x3, σ = [some (.ref c), some (.int (sumL ((l.take i).map fun x => (x.2 : Rat) / (x.1 : Rat))).num), some (.int (((sumL ((l.take i).map fun x => (x.2 : Rat) / (x.1 : Rat))).den : Nat) : Int)), x3]) ∧ Same (upd H c (.frz od (.dK (cntK l)))) H')
    ⟨⟨none, rfl⟩, Same.refl _⟩ (fun i σ H' _ ⟨_, s'⟩ => s' _ _ upd_same) ?_ ?_
  · rintro i x σ H0 H' hi ⟨⟨x3, rfl⟩, s1⟩ ⟨rfl, k, v, hkv, rfl⟩
    rw [cl] at hi
    have hl : l[i]? = some l[i] := List.getElem?_eq_getElem hi
    have hm : l[i] ∈ l := List.getElem_mem hi
    have ek : (k, v) = (Sum.inl ((l[i].1 : Nat) : Int), V.int ((l[i].2 : Nat) : Int)) := by
      unfold cntK at hkv
      rw [List.getElem?_map, hl] at hkv
      exact (Option.some.inj hkv).symm
    obtain ⟨rfl, rfl⟩ := Prod.mk.inj ek
    have f1 := (part_fz ok i).sm m0_small kw_small
    have e4 : sumL ((l.take (i + 1)).map fun x => (x.2 : Rat) / (x.1 : Rat)) = sumL ((l.take i).map fun x => (x.2 : Rat) / (x.1 : Rat)) + (l[i].2 : Rat) / (l[i].1 : Rat) := by
      rw [take_more hl, List.map_append, sumL_append]
      show _ + ((l[i].2 : Rat) / (l[i].1 : Rat) + 0) = _
      grind
    generalize sumL ((l.take i).map fun x => (x.2 : Rat) / (x.1 : Rat)) = S0 at *
    rw [e4]
    obtain ⟨n1, d1⟩ := f1
    obtain ⟨dv, dp⟩ := ok.dv _ hm
    have b1 : l[i].1 < 2 ^ 500 := Nat.lt_of_le_of_lt (Nat.le_of_dvd (by decide) dv) m0_small
    have b2 : l[i].2 < 2 ^ 500 := Nat.lt_of_le_of_lt (Nat.le_trans (mem_sum hm) ok.sum) (big_up (by decide : 300000 < 2 ^ 20) (by decide))
    have hf := s1 _ _ upd_same
    have gd : DGet H' c (.int ((l[i].1 : Nat) : Int)) (some (.int ((l[i].2 : Nat) : Int))) := .inl ⟨_, .inl ((l[i].1 : Nat) : Int), .inr ⟨_, hf⟩, rfl, (cntK_mem ok.nd hm).symm⟩
    refine ⟨_, rfl, _, rfl, _, _, rfl, rfl, sm_mul n1 (nz b1), _, rfl, _, rfl, c, _, rfl, gd, _, rfl, _, _, rfl, rfl, sm_mul (nz b2) (nz d1), _, _, rfl, rfl, ?_⟩
    refine ⟨_, rfl, _, rfl, _, _, rfl, rfl, sm_mul (nz d1) (nz b1), ?_⟩
    refine ⟨_, rfl, _, rfl, S0.num * ((l[i].1 : Nat) : Int) + ((l[i].2 : Nat) : Int) * (S0.den : Int), S0.den * l[i].1, ?_, Nat.mul_pos (den_pos _) dp, lf_over n1 (nz b1) (nz b2) (nz d1), lf_under d1 b1, fun H2 t s2 ht => ?_⟩
    · show [V.int _, V.int ((S0.den : Int) * ((l[i].1 : Nat) : Int))] = _
      rw [Int.natCast_mul]
    · rw [add_frac _ _ _ dp] at ht
      exact ⟨t, _, rfl, SqT.of ht, rfl, _, _, rfl, _, _, rfl, rfl, ⟨_, rfl⟩, s1.trans s2⟩
  · rintro σ H' ⟨⟨x3, rfl⟩, s1⟩
    rw [cl, List.take_length]
    refine ⟨s1 _ _ upd_same, _, rfl, _, rfl, (by show 2 ≤ sizeLine; decide), fun p hp => ?_⟩
    have sU : Same H (upd H' c (.dK (cntK l))) := fun b o h => by
      by_cases e : b = c
      · subst e
        rw [hc] at h
        rw [upd_same]
        exact h
      · rw [upd_ne e]
        exact s1 _ _ (by rw [upd_ne e]; exact h)
    exact q _ p (sU.trans (same_new hp _)) upd_same
end
end NX
namespace NX
open PySem PySem.Spec PyProof.Rows L2
open C8 (Cal Met Mak pe_c pe_mk pe_mt pe_mt0)
section
variable {P : Program} {w : World} {K : PySem.W.Frag} {mg : Str → Option Value} {base : Heap}
def spSilent (d : Nat) : Sp := fun vs H Q _ => ∃ (ba c : Addr) (b : Br) (B : Nat) (h : Bs) (den : Nat) (l : Cnt), vs = [.ref ba, .str (S h), .int ((den : Nat) : Int), .ref c] ∧ BrAt H b ba ∧ b.Ok d B ∧ h.length ≤ 100 ∧ den * B < 2 ^ 100 ∧ H c = some (.dK (cntK l)) ∧ (l.map (·.1)).Nodup ∧ l.length + B ≤ 5000 ∧
  ∀ H', Fr (fun b => b = c) H H' → H' c = some (.dK (cntK (notes (b.wins h den) l))) → Q .non H'
abbrev N__law_silent : List Str := ["_law_breaker_here", "_law_handed", "_law_den", "_law_counts", "_law_one"]
abbrev P__law_silent : List Str := ["_law_breaker_here", "_law_handed", "_law_den", "_law_counts"]
theorem sc__law_silent : FnScope N__law_silent P__law_silent (defScope s__law_silent) := ⟨rfl, rfl, rfl, by decide +kernel, rfl, by decide +kernel, by decide +kernel⟩
theorem c__law_silent0 (T : Txt w K mg) : Cal P w K mg base 2 "_law_silent" (spSilent 0) [] := by
  refine T.f__law_silent.cal sc__law_silent (fun _ _ _ _ _ _ us hl => match us, hl with | [_, _, _, _], _ => rfl) (fun vs H Q E h => ?_) (fun f cdv A outer s H vs Q E hr h => ?_)
  · obtain ⟨ba, c, b, B, h, den, l, rfl, _⟩ := h
    rfl
  obtain ⟨ba, c, b, B, h, den, l, rfl, hb, ok, hh, hden, hc, hnd, hll, q⟩ := h
  refine ⟨_, pss_one (ps_if (pt_cmpR op_eq (pe_ix ix_tup (pv 0) pe_int (fun _ _ => rfl)) pe_str (nomark _)) (pss_one (ps_if (pt_cmpR op_eq (pe_c (c__law_made T) hr (by decide) rfl (pa_cons (pe_ix ix_tup (pv 0) pe_int (fun _ _ => rfl)) (pa_cons (pv 1) pa_nil))) pe_str (nomark _)) (pss_one (ps_expr (pe_c (c__law_note T) hr (by decide) rfl (pa_cons (pv 3) (pa_cons (pv 2) pa_nil))))) pss_nil)) pss_never), ?_⟩
  cases b with
  | toss n f => exact ok.elim
  | look n x y => exact ok.elim
  | ask ps x => exact ok.elim
  | say ps =>
    obtain ⟨qa, g1, g2⟩ := hb
    refine ⟨_, rfl, ba, _, 0, _, rfl, rfl, SqT.of g1, rfl, rfl, _, rfl, iteDT rfl ?_⟩
    refine ⟨_, rfl, ba, _, 1, _, rfl, rfl, SqT.of g1, rfl, _, rfl, qa, ps, h, rfl, g2, ok.1, by omega, rfl, _, rfl, ite2 (fun c1 => ?_) (fun c1 => ?_)⟩
    · have c2 : S (made ps h) = S [true] := V.str.inj (of_decide_eq_true c1)
      have c3 : made ps h = [true] := S_inj c2
      refine ⟨_, rfl, _, rfl, c, den, l, rfl, hc, hnd, by omega, q _ (Fr.upd rfl) ?_⟩
      simp only [Br.wins, if_pos c3]
      exact upd_same
    · have c2 : ¬ V.str (S (made ps h)) = V.str (S [true]) := of_decide_eq_false (Bool.eq_false_iff.mpr c1)
      have c3 : ¬ made ps h = [true] := fun e => c2 (by rw [e])
      refine q _ (Fr.refl _ _) ?_
      simp only [Br.wins, if_neg c3]
      exact hc
theorem c__law_silentS (T : Txt w K mg) (e j : Nat) (hj : 2 ≤ j) (ih : Cal P w K mg base j "_law_silent" (spSilent e) []) : Cal P w K mg base (j + 1) "_law_silent" (spSilent (e + 1)) [] := by
  refine T.f__law_silent.cal sc__law_silent (fun _ _ _ _ _ _ us hl => match us, hl with | [_, _, _, _], _ => rfl) (fun vs H Q E h => ?_) (fun f cdv A outer s H vs Q E hr h => ?_)
  · obtain ⟨ba, c, b, B, h, den, l, rfl, _⟩ := h
    rfl
  obtain ⟨ba, c, b, B, h, den, l, rfl, hb, ok, hh, hden, hc, hnd, hll, q⟩ := h
  refine ⟨_, pss_one (ps_if (pt_cmpR op_eq (pe_ix ix_tup (pv 0) pe_int (fun _ _ => rfl)) pe_str (nomark _)) (pss_one (ps_if (pt_cmpR op_eq (pe_c (c__law_made T) hr (by omega) rfl (pa_cons (pe_ix ix_tup (pv 0) pe_int (fun _ _ => rfl)) (pa_cons (pv 1) pa_nil))) pe_str (nomark _)) (pss_one (ps_expr (pe_c (c__law_note T) hr (by omega) rfl (pa_cons (pv 3) (pa_cons (pv 2) pa_nil))))) pss_nil)) (pss_one (ps_if (pt_cmpR op_eq (pe_ix ix_tup (pv 0) pe_int (fun _ _ => rfl)) pe_str (nomark _)) (pss_one (ps_for PassesOwn.never rfl (pi_tup (pe_ix ix_tup (pv 0) pe_int (fun _ _ => rfl))) (pg_name (i := 4) sc__law_silent.nd rfl (Or.inl rfl)) (pss_one (ps_expr (pe_c ih hr (by omega) rfl (pa_cons (pv 4) (pa_cons (pv 1) (pa_cons (pe_op op_mulW (pv 2) (pe_callB call_len_seq rfl T.b_len PySem.boot_len (pa_cons (pe_ix ix_tup (pv 0) pe_int (fun _ _ => rfl)) pa_nil))) (pa_cons (pv 3) pa_nil))))))))) (pss_one (ps_if (pt_cmpR op_eq (pe_ix ix_tup (pv 0) pe_int (fun _ _ => rfl)) pe_str (nomark _)) (pss_one (ps_expr (pe_c ih hr (by omega) rfl (pa_cons (pe_ix ix_tup (pv 0) (pe_op op_add pe_int (pe_callTy call_int_str rfl T.b_int (by decide +kernel) (pa_cons (pe_c (c__law_made T) hr (by omega) rfl (pa_cons (pe_tup (pa_cons (pe_ix ix_tup (pv 0) pe_int (fun _ _ => rfl)) pa_nil)) (pa_cons (pv 1) pa_nil))) pa_nil))) (fun _ _ => rfl)) (pa_cons (pv 1) (pa_cons (pv 2) (pa_cons (pv 3) pa_nil))))))) (pss_one (ps_expr (pe_c ih hr (by omega) rfl (pa_cons (pe_ix ix_tup (pv 0) pe_int (fun _ _ => rfl)) (pa_cons (pv 1) (pa_cons (pv 2) (pa_cons (pv 3) pa_nil)))))))))))), ?_⟩
  have ktup : ∀ {Hy : Hp}, Fr (fun b => b = c) H Hy → ∀ b xs, H b = some (.tup xs) → Hy b = some (.tup xs) := fun k b xs z => k _ _ z fun e => by rw [e, hc] at z; cases z
  cases b with
  | say ps =>
    obtain ⟨qa, g1, g2⟩ := hb
    refine ⟨_, rfl, ba, _, 0, _, rfl, rfl, SqT.of g1, rfl, rfl, _, rfl, iteDT rfl ?_⟩
    refine ⟨_, rfl, ba, _, 1, _, rfl, rfl, SqT.of g1, rfl, _, rfl, qa, ps, h, rfl, g2, ok.1, by omega, rfl, _, rfl, ite2 (fun c1 => ?_) (fun c1 => ?_)⟩
    · have c2 : S (made ps h) = S [true] := V.str.inj (of_decide_eq_true c1)
      have c3 : made ps h = [true] := S_inj c2
      refine ⟨_, rfl, _, rfl, c, den, l, rfl, hc, hnd, by omega, q _ (Fr.upd rfl) ?_⟩
      simp only [Br.wins, if_pos c3]
      exact upd_same
    · have c2 : ¬ V.str (S (made ps h)) = V.str (S [true]) := of_decide_eq_false (Bool.eq_false_iff.mpr c1)
      have c3 : ¬ made ps h = [true] := fun e => c2 (by rw [e])
      refine q _ (Fr.refl _ _) ?_
      simp only [Br.wins, if_neg c3]
      exact hc
  | toss n f =>
    obtain ⟨qa, as, g1, g2, g3⟩ := hb
    obtain ⟨n1, B', hB', hf⟩ := ok
    have bp : 1 ≤ B' := (hf 0 n1).pos
    refine ⟨_, rfl, ba, _, 0, _, rfl, rfl, SqT.of g1, rfl, rfl, _, rfl, iteDF (by decide) ?_⟩
    refine ⟨_, rfl, ba, _, 0, _, rfl, rfl, SqT.of g1, rfl, rfl, _, rfl, iteDT rfl ?_⟩
    have e1 : ((List.range n).map fun i => V.ref (as i)).length = n := by rw [List.length_map, List.length_range]
    have nB : n ≤ n * B' := Nat.le_mul_of_pos_right n bp
    have dn : den * n ≤ den * B := Nat.mul_le_mul_left _ (Nat.le_trans nB hB')
    have dnB : den * n * B' ≤ den * B := by rw [Nat.mul_assoc]; exact Nat.mul_le_mul_left _ hB'
    have dl : den * 1 ≤ den * B := Nat.mul_le_mul_left _ (Nat.le_trans n1 (Nat.le_trans nB hB'))
    have hB5 : B ≤ 5000 := by omega
    refine ⟨_, rfl, ba, _, 1, _, rfl, rfl, SqT.of g1, rfl, qa, rfl, ⟨_, SqT.of g2⟩, for_tup (xs := (List.range n).map fun i => V.ref (as i)) (fun i σ H' => (∃ x : Option V, σ = [some (.ref ba), some (.str (S h)), some (.int ((den : Nat) : Int)), some (.ref c), x]) ∧ Fr (fun b => b = c) H H' ∧ H' c = some (.dK (cntK (notes ((List.range i).flatMap fun j => (f j).wins h (den * n)) l))))
      ⟨⟨none, rfl⟩, Fr.refl _ _, hc⟩ (fun i σ H' _ ⟨_, k, _⟩ => SqT.of (ktup k _ _ g2)) ?_ ?_⟩
    · rintro i y σ H' hi ⟨⟨x, rfl⟩, k1, hc1⟩
      have li : i < n := by have := (List.getElem?_eq_some_iff.mp hi).1; omega
      have ey : y = V.ref (as i) := by
        rw [List.getElem?_map, List.getElem?_range li] at hi
        exact (Option.some.inj hi).symm
      subst ey
      have g1' := ktup k1 _ _ g1
      have g2' := ktup k1 _ _ g2
      have lf : ((List.range i).flatMap fun j => (f j).wins h (den * n)).length ≤ i * B' := flat_len fun j hj => wins_len h (den * n) (hf j (by omega))
      have ln := notes_len ((List.range i).flatMap fun j => (f j).wins h (den * n)) l
      have li2 : (i + 1) * B' ≤ n * B' := Nat.mul_le_mul_right _ li
      rw [Nat.add_mul] at li2
      refine ⟨_, rfl, _, rfl, _, rfl, _, rfl, ba, _, 1, _, rfl, rfl, SqT.of g1', rfl, qa, _, rfl, .inr (SqT.of g2'), _, _, rfl, rfl, wide_mul (a := 100) (b := 20) (nz (Nat.lt_of_le_of_lt (by omega) hden)) (nz (by rw [e1]; exact Nat.lt_of_le_of_lt (show n ≤ 5000 by omega) (by decide))) (by decide) (by decide) (by decide), _, rfl, as i, c, f i, B', h, den * n, _, ?_, (g3 i li).keep (ktup k1), hf i li, hh, by omega, hc1, notes_nodup _ hnd, by omega, fun H2 k2 hc2 => ⟨⟨_, rfl⟩, k1.trans k2, ?_⟩⟩
      · show [V.ref (as i), V.str (S h), V.int ((den : Int) * ((((List.range n).map fun i => V.ref (as i)).length : Nat) : Int)), V.ref c] = _
        rw [e1, Int.natCast_mul]
      · rw [List.range_succ, List.flatMap_append, notes_append, List.flatMap_singleton]
        exact hc2
    · rintro σ H' ⟨⟨x, rfl⟩, k1, hc1⟩
      rw [e1] at hc1
      exact q _ k1 hc1
  | look k x y =>
    obtain ⟨p1, p2, g1, g2, g3⟩ := hb
    obtain ⟨hk, okx, oky⟩ := ok
    refine ⟨_, rfl, ba, _, 0, _, rfl, rfl, SqT.of g1, rfl, rfl, _, rfl, iteDF (by decide) ?_⟩
    refine ⟨_, rfl, ba, _, 0, _, rfl, rfl, SqT.of g1, rfl, rfl, _, rfl, iteDF (by decide) ?_⟩
    refine ⟨_, rfl, ba, _, 0, _, rfl, rfl, SqT.of g1, rfl, rfl, _, rfl, iteDT rfl ?_⟩
    refine ⟨_, rfl, _, rfl, ba, _, 1, _, rfl, rfl, SqT.of g1, rfl, (by show 1 ≤ sizeLine; decide), fun p hp => ?_⟩
    have s1 := same_new hp (.tup [V.int (k : Int)])
    refine ⟨_, rfl, p, [.inr k], h, rfl, upd_same, ⟨(by show 1 ≤ 3; decide), fun n hn => by simp at hn; omega⟩, by omega, ?_⟩
    have em : made [Sum.inr k] h = [bitAt h k] := rfl
    rw [em]
    refine ⟨_, _, rfl, int_sign (bitAt h k), (by rw [S_len]; show 1 ≤ 640; decide), _, _, rfl, rfl, ba, _, _, .ref (if bitAt h k then p2 else p1), rfl, rfl, SqT.of (s1 _ _ g1), (by cases bitAt h k <;> rfl), _, rfl, _, rfl, _, rfl, (if bitAt h k then p2 else p1), c, (if bitAt h k then y else x), B, h, den, l, rfl, ?_, ?_, hh, hden, s1 _ _ hc, hnd, hll, fun H2 k2 hc2 => q _ ((Fr.of_same s1).trans k2) ?_⟩
    · cases bitAt h k
      · exact g2.same s1
      · exact g3.same s1
    · cases bitAt h k
      · exact okx
      · exact oky
    · simp only [Br.wins]
      cases e : bitAt h k
      · rw [e] at hc2; exact hc2
      · rw [e] at hc2; exact hc2
  | ask ps x =>
    obtain ⟨qa, p1, g1, g2, g3⟩ := hb
    refine ⟨_, rfl, ba, _, 0, _, rfl, rfl, SqT.of g1, rfl, rfl, _, rfl, iteDF (by decide) ?_⟩
    refine ⟨_, rfl, ba, _, 0, _, rfl, rfl, SqT.of g1, rfl, rfl, _, rfl, iteDF (by decide) ?_⟩
    refine ⟨_, rfl, ba, _, 0, _, rfl, rfl, SqT.of g1, rfl, rfl, _, rfl, iteDF (by decide) ?_⟩
    exact ⟨_, rfl, ba, _, 2, _, rfl, rfl, SqT.of g1, rfl, _, rfl, _, rfl, _, rfl, p1, c, x, B, h, den, l, rfl, g3, ok.2, hh, hden, hc, hnd, hll, q⟩
theorem c__law_silent (T : Txt w K mg) (d : Nat) (h : d ≤ 2) : Cal P w K mg base 4 "_law_silent" (spSilent d) [] := by
  have up : ∀ {k : Nat} {d : Nat}, k ≤ 4 → Cal P w K mg base k "_law_silent" (spSilent d) [] → Cal P w K mg base 4 "_law_silent" (spSilent d) [] := fun hk c => by
    obtain ⟨f, fd, ps, ds, a, b⟩ := c.ex
    exact ⟨f, fd, ps, ds, a.mono hk, b⟩
  have c0 := c__law_silent0 (P := P) (base := base) T
  have c1 := c__law_silentS (P := P) (base := base) T 0 2 (by decide) c0
  have c2 := c__law_silentS (P := P) (base := base) T 1 3 (by decide) c1
  match d, h with
  | 0, _ => exact up (by decide) c0
  | 1, _ => exact up (by decide) c1
  | 2, _ => exact c2
end
end NX
namespace NX
open PySem PySem.Spec PyProof.Rows L2
open C8 (Cal Met Mak pe_c pe_mk pe_mt pe_mt0)
theorem sumL_div (c : Rat) : ∀ (l : List Rat), sumL (l.map (· / c)) = sumL l / c
  | [] => by simp [sumL]; grind
  | x :: l => by
    show x / c + sumL (l.map (· / c)) = (x + sumL l) / c
    rw [sumL_div c l]; grind
/-- the law's counts over some challenges -/
def wcnt (b : Br) (N : Nat) (chs : List Bs) : Cnt := notes (chs.flatMap fun y => b.wins y N) []
theorem wcnt_ok {b : Br} {d B N : Nat} {chs : List Bs} (ok : b.Ok d B) (hB : B ≤ 12) (hN : N ∣ 8) (hc : chs.length ≤ 100) : CntOk (wcnt b N chs) := by
  have n0 : 0 < N := Nat.pos_of_dvd_of_pos hN (by decide)
  have hk : ∀ x ∈ (wcnt b N chs).map (·.1), ∃ P, 1 ≤ P ∧ P ≤ 12 ∧ x = N * P := fun x hx => by
    rcases notes_mem _ hx with q | q
    · obtain ⟨y, _, hy⟩ := List.mem_flatMap.mp q
      obtain ⟨P, h1, h2, h3⟩ := wins_mem y N ok x hy
      exact ⟨P, h1, by omega, h3⟩
    · simp at q
  have nd : ((wcnt b N chs).map (·.1)).Nodup := notes_nodup _ (by simp)
  refine ⟨nd, ?_, fun x hx => ?_, ?_⟩
  · have l1 := List.Nodup.length_le_of_subset nd (l₂ := (List.range' 1 12).map fun P => N * P) fun x hx => by
      obtain ⟨P, h1, h2, rfl⟩ := hk x hx
      exact List.mem_map.mpr ⟨P, List.mem_range'_1.mpr ⟨h1, by omega⟩, rfl⟩
    rw [List.length_map, List.length_map, List.length_range'] at l1
    omega
  · obtain ⟨P, h1, h2, h3⟩ := hk x.1 (List.mem_map.mpr ⟨x, hx, rfl⟩)
    rw [h3]
    refine ⟨?_, Nat.mul_pos n0 h1⟩
    have e : M0 = (6 * 8) * (8 * 27720) := rfl
    rw [e]
    exact Nat.dvd_mul_left_of_dvd (Nat.mul_dvd_mul hN (twelve P h1 h2)) _
  · unfold wcnt
    rw [notes_sum]
    have l2 : ∀ l : List Bs, (l.flatMap fun y => b.wins y N).length ≤ l.length * 12 := fun l => by
      induction l with
      | nil => simp
      | cons x r ih =>
        rw [List.flatMap_cons, List.length_append, List.length_cons, Nat.add_mul]
        have := wins_len x N ok
        omega
    have := l2 chs
    show 0 + _ ≤ 300000
    omega
theorem wcnt_val {b : Br} {N : Nat} {chs : List Bs} (n0 : 0 < N) : cntVal (wcnt b N chs) = sumL (chs.map fun y => b.p y) / (N : Rat) := by
  unfold wcnt
  rw [notes_val, sumL_map_flat, ← sumL_div, List.map_map]
  have e : (fun j => sumL ((b.wins j N).map fun (d : Nat) => 1 / (d : Rat))) = (fun x => x / (N : Rat)) ∘ fun y => b.p y := by
    funext j
    exact wins_val b j N
  rw [e]
  simp [cntVal, sumL]
  grind
/-- refs of fractions -/
def RL (H : Hp) (ts : List Addr) (qs : List Rat) : Prop := ts.length = qs.length ∧ ∀ (i : Nat) (t : Addr) (q : Rat), ts[i]? = some t → qs[i]? = some q → RatAt H t q
theorem RL.keep {H H' : Hp} {ts : List Addr} {qs : List Rat} (d : RL H ts qs) (k : ∀ b xs, H b = some (.tup xs) → H' b = some (.tup xs)) : RL H' ts qs := ⟨d.1, fun i t x h1 h2 => k _ _ (d.2 i t x h1 h2)⟩
theorem RL.nil (H : Hp) : RL H [] [] := ⟨rfl, fun i t q h => by simp at h⟩
theorem RL.snoc {H : Hp} {ts : List Addr} {qs : List Rat} (d : RL H ts qs) {t : Addr} {q : Rat} (h : RatAt H t q) : RL H (ts ++ [t]) (qs ++ [q]) := by
  refine ⟨by simp [d.1], fun i t' x h1 h2 => ?_⟩
  by_cases hi : i < qs.length
  · rw [List.getElem?_append_left (by rw [d.1]; exact hi)] at h1
    rw [List.getElem?_append_left hi] at h2
    exact d.2 i t' x h1 h2
  · have e : i = qs.length := by
      have := (List.getElem?_eq_some_iff.mp h2).1
      simp at this
      omega
    subst e
    rw [List.getElem?_append_right (by rw [d.1]; exact Nat.le_refl _), d.1, Nat.sub_self] at h1
    rw [List.getElem?_append_right (Nat.le_refl _), Nat.sub_self] at h2
    simp at h1 h2
    subst h1 h2
    exact h
section
variable {P : Program} {w : World} {K : PySem.W.Frag} {mg : Str → Option Value} {base : Heap}
def spOnes : Sp := fun vs H Q _ => ∃ (ba : Addr) (b : Br) (d B : Nat) (h : Bs), vs = [.ref ba, .str (S h)] ∧ BrAt H b ba ∧ b.Ok d B ∧ d ≤ 2 ∧ B ≤ 12 ∧ h.length ≤ 100 ∧ ∀ H' t, Same H H' → RatAt H' t (b.p h) → Q (.ref t) H'
theorem silent2 (T : Txt w K mg) : Cal P w K mg base 4 "_law_silent" (spSilent 2) [] := c__law_silent T 2 (Nat.le_refl _)
abbrev N__law_ones : List Str := ["_law_breaker_here", "_law_challenge", "_law_counts"]
abbrev P__law_ones : List Str := ["_law_breaker_here", "_law_challenge"]
theorem sc__law_ones : FnScope N__law_ones P__law_ones (defScope s__law_ones) := ⟨rfl, rfl, rfl, by decide +kernel, rfl, by decide +kernel, by decide +kernel⟩
theorem c__law_ones (T : Txt w K mg) : Cal P w K mg base 5 "_law_ones" spOnes [] := by
  refine T.f__law_ones.cal sc__law_ones (fun _ _ _ _ _ _ us hl => match us, hl with | [_, _], _ => rfl) (fun vs H Q E h => ?_) (fun f cdv A outer s H vs Q E hr h => ?_)
  · obtain ⟨ba, b, d, B, h, rfl, _⟩ := h
    rfl
  obtain ⟨ba, b, d, B, h, rfl, hb, ok, hd, hB, hh, q⟩ := h
  refine ⟨_, pss_cons (ps_set (i := 2) sc__law_ones.nd rfl (Or.inl rfl) pe_dnewK)
      (pss_cons (ps_expr (pe_c (silent2 T) hr (by decide) rfl (pa_cons (pv 0) (pa_cons (pv 1) (pa_cons pe_int (pa_cons (pv 2) pa_nil))))))
      (pss_one (ps_ret (pe_c (c__law_sum T) hr (by decide) rfl (pa_cons (pv 2) pa_nil))))), ?_⟩
  intro c hc
  have s1 := same_new hc (.dK [])
  refine ⟨_, rfl, _, rfl, _, rfl, ba, c, b, B, h, 1, [], rfl, hb.same s1, ok.mono hd (Nat.le_refl _), hh, Nat.lt_of_le_of_lt (show 1 * B ≤ 12 by omega) (by decide), upd_same, (by simp), (by show 0 + B ≤ 5000; omega), fun H2 f2 hc2 => ?_⟩
  have s2 : Same H H2 := f2.same s1 fun b e => by rw [e]; exact hc
  have ew : notes (b.wins h 1) [] = wcnt b 1 [h] := by simp [wcnt]
  rw [ew] at hc2
  refine ⟨_, rfl, c, _, rfl, hc2, wcnt_ok ok hB ⟨8, rfl⟩ (by show 1 ≤ 100; decide), fun H3 t s3 ht => q H3 t (s2.trans s3) ?_⟩
  rw [wcnt_val (by decide)] at ht
  have ev : sumL (([h] : List Bs).map fun y => b.p y) / ((1 : Nat) : Rat) = b.p h := by
    simp [sumL]
    grind
  rw [ev] at ht
  exact ht
abbrev N__law_silent_chance : List Str := ["_law_breaker_here", "_law_challenges", "_law_counts", "_law_challenge"]
abbrev P__law_silent_chance : List Str := ["_law_breaker_here", "_law_challenges"]
theorem sc__law_silent_chance : FnScope N__law_silent_chance P__law_silent_chance (defScope s__law_silent_chance) := ⟨rfl, rfl, rfl, by decide +kernel, rfl, by decide +kernel, by decide +kernel⟩
def spSilCT (K : PySem.W.Frag) : Sp := fun vs H Q _ => ∃ (ba r : Addr) (b : Br) (d B : Nat) (chs : List Bs), vs = [.ref ba, .ref r] ∧ BrAt H b ba ∧ b.Ok d B ∧ d ≤ 2 ∧ B ≤ 12 ∧ H r = some (.tup (chs.map fun y => V.str (S y))) ∧ (∀ y ∈ chs, y.length ≤ 100) ∧ chs.length ∣ 8 ∧ ∀ H' t, Same H H' → RatAt H' t (silentC b chs) → Q (.ref t) H'
theorem c__law_silent_chanceT (T : Txt w K mg) : Cal P w K mg base 5 "_law_silent_chance" (spSilCT K) [] := by
  refine T.f__law_silent_chance.cal sc__law_silent_chance (fun _ _ _ _ _ _ us hl => match us, hl with | [_, _], _ => rfl) (fun vs H Q E h => ?_) (fun f cdv A outer s H vs Q E hr h => ?_)
  · obtain ⟨ba, r, b, d, B, chs, rfl, _⟩ := h
    rfl
  obtain ⟨ba, r, b, d, B, chs, rfl, hb, ok, hd, hB, hx, hy, hdv, q⟩ := h
  refine ⟨_, pss_cons (ps_set (i := 2) sc__law_silent_chance.nd rfl (Or.inl rfl) pe_dnewK)
      (pss_cons (ps_for PassesOwn.never rfl (pi_tup (pv 1)) (pg_name (i := 3) sc__law_silent_chance.nd rfl (Or.inl rfl)) (pss_one (ps_expr (pe_c (silent2 T) hr (by decide) rfl (pa_cons (pv 0) (pa_cons (pv 3) (pa_cons (pe_callB call_len_seq rfl T.b_len PySem.boot_len (pa_cons (pv 1) pa_nil)) (pa_cons (pv 2) pa_nil))))))))
      (pss_one (ps_ret (pe_c (c__law_sum T) hr (by decide) rfl (pa_cons (pv 2) pa_nil))))), ?_⟩
  have n8 : chs.length ≤ 8 := Nat.le_of_dvd (by decide) hdv
  have n0 : 0 < chs.length := Nat.pos_of_dvd_of_pos hdv (by decide)
  have lm : (chs.map fun y => V.str (S y)).length = chs.length := List.length_map _
  intro c hc
  have s1 := same_new hc (.dK [])
  have hc1 : (upd H c (.dK [])) c = some (.dK (cntK [])) := upd_same
  generalize (upd H c (.dK [])) = H1 at *
  have hx1 := s1 _ _ hx
  have kx : ∀ {Hy : Hp}, Fr (fun b => b = c) H1 Hy → Hy r = some (.tup (chs.map fun y => V.str (S y))) := fun k => k _ _ hx1 fun e => by rw [e, hc1] at hx1; cases hx1
  have kt : ∀ {Hy : Hp}, Fr (fun b => b = c) H1 Hy → ∀ b xs, H b = some (.tup xs) → Hy b = some (.tup xs) := fun k b xs z => k _ _ (s1 _ _ z) fun e => by rw [e, hc] at z; cases z
  refine ⟨_, rfl, r, rfl, ⟨_, SqT.of hx1⟩, for_tup (xs := chs.map fun y => V.str (S y)) (fun i σ H' => (∃ x : Option V, σ = [some (.ref ba), some (.ref r), some (.ref c), x]) ∧ Fr (fun b => b = c) H1 H' ∧ H' c = some (.dK (cntK (wcnt b chs.length (chs.take i)))))
    ⟨⟨none, rfl⟩, Fr.refl _ _, hc1⟩ (fun i σ H' _ ⟨_, k, _⟩ => SqT.of (kx k)) ?_ ?_⟩
  · rintro i y σ H' hi ⟨⟨x, rfl⟩, k1, hcc⟩
    obtain ⟨z, hz, rfl⟩ := get_map hi
    have ln := (wcnt_ok (N := chs.length) (chs := chs.take i) ok hB hdv (by rw [List.length_take]; omega)).few
    refine ⟨_, rfl, _, rfl, _, rfl, r, _, rfl, .inr (SqT.of (kx k1)), _, rfl, ba, c, b, B, z, chs.length, _, ?_, hb.keep (kt k1), ok.mono hd (Nat.le_refl _), hy z (List.mem_of_getElem? hz), Nat.lt_of_le_of_lt (Nat.mul_le_mul n8 hB) (by decide), hcc, notes_nodup _ (by simp), by omega, fun H2 k2 hc2 => ⟨⟨_, rfl⟩, k1.trans k2, ?_⟩⟩
    · show [V.ref ba, V.str (S z), V.int (((chs.map fun y => V.str (S y)).length : Nat) : Int), V.ref c] = _
      rw [lm]
    · rw [hc2, take_more hz]
      unfold wcnt
      rw [List.flatMap_append, notes_append, List.flatMap_singleton]
  · rintro σ H' ⟨⟨x, rfl⟩, k1, hcc⟩
    rw [lm, List.take_length] at hcc
    have s2 : Same H H' := k1.same s1 fun b e => by rw [e]; exact hc
    refine ⟨_, rfl, c, _, rfl, hcc, wcnt_ok ok hB hdv (by omega), fun H3 t s3 ht => q H3 t (s2.trans s3) ?_⟩
    rw [wcnt_val n0] at ht
    exact ht
def spSilCL (K : PySem.W.Frag) : Sp := fun vs H Q _ => ∃ (ba r : Addr) (b : Br) (d B : Nat) (chs : List Bs), vs = [.ref ba, .ref r] ∧ BrAt H b ba ∧ b.Ok d B ∧ d ≤ 2 ∧ B ≤ 12 ∧ H r = some (.lst (chs.map fun y => V.str (S y))) ∧ (∀ y ∈ chs, y.length ≤ 100) ∧ chs.length ∣ 8 ∧ ∀ H' t, Same H H' → RatAt H' t (silentC b chs) → Q (.ref t) H'
theorem c__law_silent_chanceL (T : Txt w K mg) : Cal P w K mg base 5 "_law_silent_chance" (spSilCL K) [] := by
  refine T.f__law_silent_chance.cal sc__law_silent_chance (fun _ _ _ _ _ _ us hl => match us, hl with | [_, _], _ => rfl) (fun vs H Q E h => ?_) (fun f cdv A outer s H vs Q E hr h => ?_)
  · obtain ⟨ba, r, b, d, B, chs, rfl, _⟩ := h
    rfl
  obtain ⟨ba, r, b, d, B, chs, rfl, hb, ok, hd, hB, hx, hy, hdv, q⟩ := h
  refine ⟨_, pss_cons (ps_set (i := 2) sc__law_silent_chance.nd rfl (Or.inl rfl) pe_dnewK)
      (pss_cons (ps_for PassesOwn.never rfl (pi_list (pv 1)) (pg_name (i := 3) sc__law_silent_chance.nd rfl (Or.inl rfl)) (pss_one (ps_expr (pe_c (silent2 T) hr (by decide) rfl (pa_cons (pv 0) (pa_cons (pv 3) (pa_cons (pe_callB call_len_seq rfl T.b_len PySem.boot_len (pa_cons (pv 1) pa_nil)) (pa_cons (pv 2) pa_nil))))))))
      (pss_one (ps_ret (pe_c (c__law_sum T) hr (by decide) rfl (pa_cons (pv 2) pa_nil))))), ?_⟩
  have n8 : chs.length ≤ 8 := Nat.le_of_dvd (by decide) hdv
  have n0 : 0 < chs.length := Nat.pos_of_dvd_of_pos hdv (by decide)
  have lm : (chs.map fun y => V.str (S y)).length = chs.length := List.length_map _
  intro c hc
  have s1 := same_new hc (.dK [])
  have hc1 : (upd H c (.dK [])) c = some (.dK (cntK [])) := upd_same
  generalize (upd H c (.dK [])) = H1 at *
  have hx1 := s1 _ _ hx
  have kx : ∀ {Hy : Hp}, Fr (fun b => b = c) H1 Hy → Hy r = some (.lst (chs.map fun y => V.str (S y))) := fun k => k _ _ hx1 fun e => by rw [e, hc1] at hx1; cases hx1
  have kt : ∀ {Hy : Hp}, Fr (fun b => b = c) H1 Hy → ∀ b xs, H b = some (.tup xs) → Hy b = some (.tup xs) := fun k b xs z => k _ _ (s1 _ _ z) fun e => by rw [e, hc] at z; cases z
  refine ⟨_, rfl, r, rfl, ⟨_, SqL.of hx1⟩, for_list (K := K) (xs := chs.map fun y => V.str (S y)) (fun i σ H' => (∃ x : Option V, σ = [some (.ref ba), some (.ref r), some (.ref c), x]) ∧ Fr (fun b => b = c) H1 H' ∧ H' c = some (.dK (cntK (wcnt b chs.length (chs.take i)))))
    ⟨⟨none, rfl⟩, Fr.refl _ _, hc1⟩ (fun i σ H' _ ⟨_, k, _⟩ => SqL.of (kx k)) ?_ ?_⟩
  · rintro i y σ H' hi ⟨⟨x, rfl⟩, k1, hcc⟩
    obtain ⟨z, hz, rfl⟩ := get_map hi
    have ln := (wcnt_ok (N := chs.length) (chs := chs.take i) ok hB hdv (by rw [List.length_take]; omega)).few
    refine ⟨_, rfl, _, rfl, _, rfl, r, _, rfl, .inl (SqL.of (kx k1)), _, rfl, ba, c, b, B, z, chs.length, _, ?_, hb.keep (kt k1), ok.mono hd (Nat.le_refl _), hy z (List.mem_of_getElem? hz), Nat.lt_of_le_of_lt (Nat.mul_le_mul n8 hB) (by decide), hcc, notes_nodup _ (by simp), by omega, fun H2 k2 hc2 => ⟨⟨_, rfl⟩, k1.trans k2, ?_⟩⟩
    · show [V.ref ba, V.str (S z), V.int (((chs.map fun y => V.str (S y)).length : Nat) : Int), V.ref c] = _
      rw [lm]
    · rw [hc2, take_more hz]
      unfold wcnt
      rw [List.flatMap_append, notes_append, List.flatMap_singleton]
  · rintro σ H' ⟨⟨x, rfl⟩, k1, hcc⟩
    rw [lm, List.take_length] at hcc
    have s2 : Same H H' := k1.same s1 fun b e => by rw [e]; exact hc
    refine ⟨_, rfl, c, _, rfl, hcc, wcnt_ok ok hB hdv (by omega), fun H3 t s3 ht => q H3 t (s2.trans s3) ?_⟩
    rw [wcnt_val n0] at ht
    exact ht
end
end NX
namespace NX
open PySem PySem.Spec PyProof.Rows L2
open C8 (Cal Met Mak pe_c pe_mk pe_mt pe_mt0)
/-- fractions over D, at most K, are small, also their sums of up to 64 -/
structure Rng (D K : Nat) : Prop where
  d : D < 2 ^ 490
  k : 64 * K < 2 ^ 490
  d0 : 0 < D
theorem Rng.sm {D K : Nat} (r : Rng D K) {q : Rat} (h : Fz D (64 * K) q) : Sm q := h.sm (big_up r.d (by decide)) (big_up r.k (by decide))
theorem Rng.sm1 {D K : Nat} (r : Rng D K) {q : Rat} (h : Fz D K q) : Sm q := r.sm (h.mono (by omega))
theorem mean_fz {D K : Nat} (r : Rng D K) {qs : List Rat} (h : ∀ q ∈ qs, Fz D K q) (h64 : qs.length ≤ 64) (h1 : 1 ≤ qs.length) : Fz (D * qs.length) (64 * K) (meanL qs) :=
  Fz.over ((Fz.sum r.d0 h).mono (Nat.mul_le_mul_right _ h64)) h1
section
variable {P : Program} {w : World} {K : PySem.W.Frag} {mg : Str → Option Value} {base : Heap}
def spMean : Sp := fun vs H Q _ => ∃ (r : Addr) (ts : List Addr) (qs : List Rat) (D Kb : Nat), vs = [.ref r] ∧ H r = some (.lst (ts.map V.ref)) ∧ RL H ts qs ∧ (∀ q ∈ qs, Fz D Kb q) ∧ Rng D Kb ∧ 1 ≤ qs.length ∧ qs.length ≤ 64 ∧ ∀ H' t, Same H H' → RatAt H' t (meanL qs) → Q (.ref t) H'
abbrev N__law_mean : List Str := ["_law_parts_here", "_law_over", "_law_under", "_law_one"]
abbrev P__law_mean : List Str := ["_law_parts_here"]
theorem sc__law_mean : FnScope N__law_mean P__law_mean (defScope s__law_mean) := ⟨rfl, rfl, rfl, by decide +kernel, rfl, by decide +kernel, by decide +kernel⟩
theorem c__law_mean (T : Txt w K mg) : Cal P w K mg base 2 "_law_mean" spMean [] := by
  refine T.f__law_mean.cal sc__law_mean (fun _ _ _ _ _ _ us hl => match us, hl with | [_], _ => rfl) (fun vs H Q E h => ?_) (fun f cdv A outer s H vs Q E hr h => ?_)
  · obtain ⟨r, ts, qs, D, Kb, rfl, _⟩ := h
    rfl
  obtain ⟨r, ts, qs, D, Kb, rfl, hx, ⟨hlen, hrl⟩, hfz, rg, h1, h64, q⟩ := h
  refine ⟨_, pss_cons (ps_set (i := 1) sc__law_mean.nd rfl (Or.inl rfl) pe_int)
      (pss_cons (ps_set (i := 2) sc__law_mean.nd rfl (Or.inl rfl) pe_int)
      (pss_cons (ps_for PassesOwn.never rfl (pi_list (pv 0)) (pg_name (i := 3) sc__law_mean.nd rfl (Or.inl rfl)) (pss_one (ps_asg (pe_c (c__law_fraction T) hr (by decide) rfl (pa_cons (pe_op op_add (pe_op op_mulW (pv 1) (pe_ix ix_tup (pv 3) pe_int (fun _ _ => rfl))) (pe_op op_mulW (pe_ix ix_tup (pv 3) pe_int (fun _ _ => rfl)) (pv 2))) (pa_cons (pe_op op_mulW (pv 2) (pe_ix ix_tup (pv 3) pe_int (fun _ _ => rfl))) pa_nil))) (pg_tup rfl (pgs_cons (pg_name (i := 1) sc__law_mean.nd rfl (.inl rfl)) (pgs_cons (pg_name (i := 2) sc__law_mean.nd rfl (.inl rfl)) pgs_nil))))))
      (pss_one (ps_ret (pe_c (c__law_fraction T) hr (by decide) rfl (pa_cons (pv 1) (pa_cons (pe_op op_mulW (pv 2) (pe_callB call_len_seq rfl T.b_len PySem.boot_len (pa_cons (pv 0) pa_nil))) pa_nil))))))), ?_⟩
  have lm : (ts.map V.ref).length = qs.length := by rw [List.length_map]; exact hlen
  have fz : ∀ i, Fz D (64 * Kb) (sumL (qs.take i)) := fun i => (Fz.sum rg.d0 (l := qs.take i) fun q hq => hfz q (List.mem_of_mem_take hq)).mono (Nat.mul_le_mul_right _ (by rw [List.length_take]; omega))
  refine ⟨_, rfl, r, rfl, ⟨_, SqL.of hx⟩, for_list (K := K) (xs := ts.map V.ref) (fun i σ H' => (∃ x3, σ = [some (.ref r), some (.int (sumL (qs.take i)).num), some (.int (((sumL (qs.take i)).den : Nat) : Int)), x3]) ∧ Same H H')
    ⟨⟨none, rfl⟩, Same.refl _⟩ (fun i σ H' _ ⟨_, s'⟩ => SqL.of (s' _ _ hx)) ?_ ?_⟩
  · rintro i y σ H' hi ⟨⟨x3, rfl⟩, s1⟩
    obtain ⟨t, ht, rfl⟩ := get_map hi
    have li : i < qs.length := by rw [← hlen]; exact (List.getElem?_eq_some_iff.mp ht).1
    have hq : qs[i]? = some qs[i] := List.getElem?_eq_getElem li
    have hti : RatAt H' t qs[i] := s1 _ _ (hrl i t _ ht hq)
    have e4 : sumL (qs.take (i + 1)) = sumL (qs.take i) + qs[i] := by
      rw [take_more hq, sumL_append]
      show _ + (qs[i] + 0) = _
      grind
    have f1 := rg.sm (fz i)
    have f2 := rg.sm1 (hfz _ (List.getElem_mem li))
    rw [e4]
    generalize sumL (qs.take i) = S0 at *
    generalize qs[i] = q0 at *
    obtain ⟨n1, d1⟩ := f1
    obtain ⟨n2, d2⟩ := f2
    refine ⟨_, rfl, _, rfl, t, _, 1, _, rfl, rfl, SqT.of hti, rfl, _, _, rfl, rfl, sm_mul n1 (nz d2), _, rfl, t, _, 0, _, rfl, rfl, SqT.of hti, rfl, _, rfl, _, _, rfl, rfl, sm_mul n2 (nz d1), _, _, rfl, rfl, _, rfl, _, rfl, t, _, 1, _, rfl, rfl, SqT.of hti, rfl, _, _, rfl, rfl, sm_mul (nz d1) (nz d2), S0.num * (q0.den : Int) + q0.num * (S0.den : Int), S0.den * q0.den, ?_, Nat.mul_pos (den_pos _) (den_pos _), lf_over n1 (nz d2) n2 (nz d1), lf_under d1 d2, fun H2 t2 s2 ht2 => ?_⟩
    · show [V.int _, V.int ((S0.den : Int) * (q0.den : Int))] = _
      rw [Int.natCast_mul]
    · rw [add_mk] at ht2
      exact ⟨t2, _, rfl, SqT.of ht2, rfl, _, _, rfl, _, _, rfl, rfl, ⟨_, rfl⟩, s1.trans s2⟩
  · rintro σ H' ⟨⟨x3, rfl⟩, s1⟩
    have f1 := rg.sm (fz qs.length)
    rw [lm]
    rw [List.take_length] at *
    obtain ⟨n1, d1⟩ := f1
    have b64 : qs.length < 2 ^ 500 := Nat.lt_of_le_of_lt h64 (big_up (by decide : 64 < 2 ^ 7) (by decide))
    refine ⟨_, rfl, _, rfl, _, rfl, r, _, rfl, .inl (SqL.of (s1 _ _ hx)), _, _, rfl, rfl, sm_mul (nz d1) (nz (by rw [lm]; exact b64)), (sumL qs).num, (sumL qs).den * qs.length, ?_, Nat.mul_pos (den_pos _) h1, big_up n1 (by decide), lf_under d1 b64, fun H2 t2 s2 ht2 => q H2 t2 (s1.trans s2) ?_⟩
    · show [V.int _, V.int (((sumL qs).den : Int) * (((ts.map V.ref).length : Nat) : Int))] = _
      rw [lm, Int.natCast_mul]
    · rw [div_mk _ _ h1] at ht2
      exact ht2
def spMarked : Sp := fun vs H Q _ => ∃ (y : Bs) (i : Nat), vs = [.str (S y), .int (i : Int)] ∧ i < y.length ∧ y.length ≤ 3 ∧ ∀ H', Same H H' → Q (.str (S (prefC y i))) H'
abbrev N__law_marked : List Str := ["_law_y", "_law_i", "_law_k"]
abbrev P__law_marked : List Str := ["_law_y", "_law_i"]
theorem sc__law_marked : FnScope N__law_marked P__law_marked (defScope s__law_marked) := ⟨rfl, rfl, rfl, by decide +kernel, rfl, by decide +kernel, by decide +kernel⟩
theorem c__law_marked (T : Txt w K mg) : Cal P w K mg base 1 "_law_marked" spMarked [] := by
  refine T.f__law_marked.cal sc__law_marked (fun _ _ _ _ _ _ us hl => match us, hl with | [_, _], _ => rfl) (fun vs H Q E h => ?_) (fun f cdv A outer s H vs Q E hr h => ?_)
  · obtain ⟨y, i, rfl, _⟩ := h
    rfl
  obtain ⟨y, i, rfl, hi, h3, q⟩ := h
  refine ⟨_, pss_one (ps_ret (pe_op op_add_str (pe_op op_add_str (pe_slice sl_str (pv 0) po_none (po_some (pv 1))) pe_str) (pe_join pe_str (pe_lc (own := [("_law_k", 2)]) (g := gName 2) (tt := tYes) rfl sc__law_marked.nd (pi_range1 rfl T.b_range (pa_cons (pe_op op_sub (pe_op op_sub (pe_callB call_len_str rfl T.b_len PySem.boot_len (pa_cons (pv 0) pa_nil)) pe_int) (pv 1)) pa_nil)) (blkOk_by (own := [("_law_k", 2)]) (N := N__law_marked) (sc := defScope s__law_marked) (by decide +kernel)) (fun _ _ _ _ _ => pg_name (i := 2) sc__law_marked.nd rfl (Or.inl rfl)) (fun _ _ _ _ _ => pts_nil) (fun _ _ _ _ _ => pe_str))))), ?_⟩
  have e1 : (((S y).length : Nat) : Int) - 1 - (i : Int) = ((y.length - 1 - i : Nat) : Int) := by rw [S_len]; omega
  have lt : (y.take i).length = i := by rw [List.length_take]; omega
  refine ⟨_, rfl, _, rfl, _, rfl, _, rfl, (by rw [S_len]; exact sl (by omega)), ?_⟩
  rw [S_take, S_one]
  refine ⟨_, _, rfl, rfl, (by rw [S_len, S_len, lt]; exact sl (by show i + 1 ≤ _; omega)), ?_⟩
  rw [S_app]
  refine ⟨⟨_, rfl⟩, _, rfl, _, rfl, (by rw [S_len]; exact sl (by omega)), _, _, rfl, rfl, _, rfl, _, _, rfl, rfl, ((y.length - 1 - i : Nat) : Int), congrArg (fun z => [V.int z]) e1, by omega, by omega, fun D hD => ?_⟩
  rw [Int.toNat_natCast]
  refine lp_range (lo := 0) (n := y.length - 1 - i) (fun _ => V.str (S [false])) hD (by omega) (fun j Hj hj sj Qe qe => ⟨rfl, qe _ (Same.refl _)⟩) (fun Hj sj hDj => ?_)
  have er : (List.range (y.length - 1 - i)).map (fun _ => V.str (S [false])) = ((List.replicate (y.length - 1 - i) false).map fun c => S [c]).map V.str := by
    rw [List.map_map, List.map_replicate, List.map_const', List.length_range]
    rfl
  rw [er] at hDj
  refine ⟨_, D, (List.replicate (y.length - 1 - i) false).map fun c => S [c], rfl, rfl, .inl (SqL.of hDj), ?_, ?_⟩
  · rw [signs_len, List.length_replicate]
    show _ + _ * 0 ≤ _
    omega
  · have ej : Txt.join ("" : Str) ((List.replicate (y.length - 1 - i) false).map fun c => S [c]) = S (List.replicate (y.length - 1 - i) false) := join_signs _
    refine ⟨_, _, rfl, rfl, ?_, ?_⟩
    · show (S (y.take i ++ [true])).length + (Txt.join ("" : Str) _).length ≤ _
      rw [ej, S_len, S_len, List.length_append, lt, List.length_replicate]
      exact sl (by show i + 1 + _ ≤ _; omega)
    · show Q (.str (S (y.take i ++ [true]) ++ Txt.join ("" : Str) _)) _
      rw [ej, S_app]
      have e2 : y.take i ++ [true] ++ List.replicate (y.length - 1 - i) false = prefC y i := by simp [prefC]
      rw [e2]
      exact q _ sj
def spGain : Sp := fun vs H Q _ => ∃ (ba g : Addr) (b : Br) (d B : Nat) (rows : List Bs) (n m : Nat), vs = [.ref ba, .ref g] ∧ BrAt H b ba ∧ b.Ok d B ∧ d ≤ 2 ∧ B ≤ 12 ∧ GenAt H g rows n m ∧ ∀ H' t, Same H H' → RatAt H' t (gainL b rows m) → Q (.ref t) H'
theorem silC_sm {b : Br} {d B : Nat} {chs : List Bs} (ok : b.Ok d B) (hB : B ≤ 12) (hdv : chs.length ∣ 8) : Sm (silentC b chs) := by
  have n8 : chs.length ≤ 8 := Nat.le_of_dvd (by decide) hdv
  have n0 : 0 < chs.length := Nat.pos_of_dvd_of_pos hdv (by decide)
  unfold silentC
  rw [← wcnt_val n0]
  exact (cnt_fz (wcnt_ok ok hB hdv (by omega))).sm m0_small kw_small
theorem dvd8 {n : Nat} (h : n ≤ 3) : 2 ^ n ∣ 8 := pow_dvd8 h
abbrev N__law_generator_gain : List Str := ["_law_breaker_here", "_law_table"]
abbrev P__law_generator_gain : List Str := ["_law_breaker_here", "_law_table"]
theorem sc__law_generator_gain : FnScope N__law_generator_gain P__law_generator_gain (defScope s__law_generator_gain) := ⟨rfl, rfl, rfl, by decide +kernel, rfl, by decide +kernel, by decide +kernel⟩
theorem c__law_generator_gain (T : Txt w K mg) : Cal P w K mg base 6 "_law_generator_gain" spGain [] := by
  refine T.f__law_generator_gain.cal sc__law_generator_gain (fun _ _ _ _ _ _ us hl => match us, hl with | [_, _], _ => rfl) (fun vs H Q E h => ?_) (fun f cdv A outer s H vs Q E hr h => ?_)
  · obtain ⟨ba, g, b, d, B, rows, n, m, rfl, _⟩ := h
    rfl
  obtain ⟨ba, g, b, d, B, rows, n, m, rfl, hb, ok, hd, hB, G, q⟩ := h
  refine ⟨_, pss_one (ps_ret (pe_c (c__law_less T) hr (by decide) rfl (pa_cons (pe_c (c__law_silent_chanceT T) hr (by decide) rfl (pa_cons (pv 0) (pa_cons (pe_ix ix_tup (pv 1) pe_int (fun _ _ => rfl)) pa_nil))) (pa_cons (pe_c (c__law_silent_chanceL T) hr (by decide) rfl (pa_cons (pv 0) (pa_cons (pe_c (c__law_strings T) hr (by decide) rfl (pa_cons (pe_ix ix_tup (pv 1) pe_int (fun _ _ => rfl)) pa_nil)) pa_nil))) pa_nil)))), ?_⟩
  obtain ⟨r, g1, g2⟩ := G.at_
  have gm3 := G.m3
  have gn2 := G.n2
  have d1 : rows.length ∣ 8 := by rw [G.hl]; exact dvd8 (by omega)
  have d2 : (stringsL m).length ∣ 8 := by rw [stringsL_len]; exact dvd8 gm3
  refine ⟨_, rfl, _, rfl, g, _, 3, _, rfl, rfl, SqT.of g1, rfl, ba, r, b, d, B, rows, rfl, hb, ok, hd, hB, g2, fun y hy => by rw [G.hm y hy]; omega, d1, fun H1 t1 s1 ht1 => ?_⟩
  refine ⟨_, rfl, _, rfl, g, _, 2, _, rfl, rfl, SqT.of (s1 _ _ g1), rfl, m, rfl, gm3, fun H2 r2 s2 hr2 => ?_⟩
  refine ⟨ba, r2, b, d, B, stringsL m, rfl, (hb.same s1).same s2, ok, hd, hB, hr2, fun y hy => by rw [strings_len y hy]; omega, d2, fun H3 t3 s3 ht3 => ?_⟩
  exact ⟨t1, t3, _, _, rfl, s3 _ _ (s2 _ _ ht1), ht3, silC_sm ok hB d1, silC_sm ok hB d2, fun H4 t4 s4 ht4 => q H4 t4 (((s1.trans s2).trans s3).trans s4) ht4⟩
end
end NX
namespace NX
open PySem PySem.Spec PyProof.Rows L2
open C8 (Cal Met Mak pe_c pe_mk pe_mt pe_mt0)
abbrev KP : Nat := 65 * KW
theorem p_fz {b : Br} {d B : Nat} (ok : b.Ok d B) (hB : B ≤ 12) (h : Bs) : Fz M0 (64 * KW) (b.p h) := by
  have f := cnt_fz (wcnt_ok (N := 1) (chs := [h]) ok hB ⟨8, rfl⟩ (by show 1 ≤ 100; decide))
  rw [wcnt_val (by decide)] at f
  have ev : sumL (([h] : List Bs).map fun y => b.p y) / ((1 : Nat) : Rat) = b.p h := by
    simp [sumL]
    grind
  rw [ev] at f
  exact f
theorem pick_fz {b : Br} {d B : Nat} (ok : b.Ok d B) (hB : B ≤ 12) (h : Bs) (c : Bool) : Fz M0 KP (pick c (b.p h)) := by
  cases c with
  | true => exact (p_fz ok hB h).mono (by decide)
  | false => exact ((Fz.one (D := M0) (by decide)).sub (p_fz ok hB h)).mono (by decide)
theorem rngP : Rng M0 KP := ⟨big_up (by decide : M0 < 2 ^ 200) (by decide), big_up (by decide : 64 * KP < 2 ^ 200) (by decide), by decide⟩
theorem p_sm {b : Br} {d B : Nat} (ok : b.Ok d B) (hB : B ≤ 12) (h : Bs) : Sm (b.p h) := (p_fz ok hB h).sm m0_small kw_small
def RatsAt (H : Hp) (D : Addr) (qs : List Rat) : Prop := ∃ ts, H D = some (.lst (ts.map V.ref)) ∧ RL H ts qs
theorem RatsAt.fr {N : Addr → Prop} {H H' : Hp} {D : Addr} {qs : List Rat} (r : RatsAt H D qs) (f : Fr N H H') (hD : ¬ N D) (ht : ∀ b xs, H b = some (.tup xs) → ¬ N b) : RatsAt H' D qs := by
  obtain ⟨ts, h1, h2⟩ := r
  exact ⟨ts, f _ _ h1 hD, h2.keep fun b xs z => f _ _ z (ht b xs z)⟩
theorem RatsAt.same {H H' : Hp} {D : Addr} {qs : List Rat} (r : RatsAt H D qs) (s : Same H H') : RatsAt H' D qs := by
  obtain ⟨ts, h1, h2⟩ := r
  exact ⟨ts, s _ _ h1, h2.keep fun b xs z => s _ _ z⟩
/-- one more, by append -/
theorem RatsAt.put {H : Hp} {D : Addr} {qs : List Rat} {ts : List Addr} {t : Addr} {q : Rat} (h1 : H D = some (.lst (ts.map V.ref))) (h2 : RL H ts qs) (ht : RatAt H t q) : RatsAt (upd H D (.lst (ts.map V.ref ++ [V.ref t]))) D (qs ++ [q]) := by
  have k : ∀ b xs, H b = some (.tup xs) → (upd H D (.lst (ts.map V.ref ++ [V.ref t]))) b = some (.tup xs) := fun b xs z => by rw [upd_ne (ne_of z h1 (by intro z; cases z))]; exact z
  exact ⟨ts ++ [t], by rw [upd_same, List.map_append]; rfl, (h2.keep k).snoc (k _ _ ht)⟩
section
variable {P : Program} {w : World} {K : PySem.W.Frag} {mg : Str → Option Value} {base : Heap}
def spIs : Sp := fun vs H Q _ => ∃ (p r : Addr) (q : Rat), vs = [.ref p, .ref r] ∧ RatAt H p q ∧ RatAt H r q ∧ Q (.bl true) H
theorem dp_rat {H : Hp} {p : Addr} {q : Rat} (h : RatAt H p q) : Dp K H (.ref p) (.tuple [.int q.num, .int ((q.den : Nat) : Int)]) := .tup (SqT.of h) (.cons (.int _) (.cons (.int _) .nil))
theorem sh_rat (a b : Int) : SeqAt.shaped (.tuple [.int a, .int b]) = true := by rfl
theorem eq_rat (a b : Int) : PyData.eqv (.tuple [.int a, .int b]) (.tuple [.int a, .int b]) = true := by
  show ((a == a) && ((b == b) && true)) = true
  simp
abbrev N__law_is : List Str := ["_law_actual", "_law_due", "_law_part"]
abbrev P__law_is : List Str := ["_law_actual", "_law_due"]
theorem sc__law_is : FnScope N__law_is P__law_is (defScope s__law_is) := ⟨rfl, rfl, rfl, by decide +kernel, rfl, by decide +kernel, by decide +kernel⟩
theorem c__law_is (T : Txt w K mg) : Cal P w K mg base 1 "_law_is" spIs [] := by
  refine T.f__law_is.cal sc__law_is (fun _ _ _ _ _ _ us hl => match us, hl with | [_, _], _ => rfl) (fun vs H Q E h => ?_) (fun f cdv A outer s H vs Q E hr h => ?_)
  · obtain ⟨p, r, q, rfl, _⟩ := h
    rfl
  obtain ⟨p, r, q, rfl, hp, hr1, qq⟩ := h
  refine ⟨_, pss_cons (ps_if (PW.pt (pw_or (pt_not (pt_val (pe_callB call_isi rfl T.b_isinstance (by decide +kernel) (pa_cons (pv 0) (pa_cons (pe_ty "tuple" T.b_tuple (by decide +kernel)) pa_nil))))) (pw_or1 (pt_cmpR op_ne (pe_callB call_len_seq rfl T.b_len PySem.boot_len (pa_cons (pv 0) pa_nil)) pe_int (nomark _))))) (pss_one (ps_ret pe_bl)) pss_nil)
      (pss_cons (ps_for PassesOwn.never rfl (pi_tup (pv 0)) (pg_name (i := 2) sc__law_is.nd rfl (Or.inl rfl)) (pss_one (ps_if (PW.pt (pw_or (pt_not (pt_val (pe_callB call_isi rfl T.b_isinstance (by decide +kernel) (pa_cons (pv 2) (pa_cons (pe_ty "int" T.b_int (by decide +kernel)) pa_nil))))) (pw_or1 (pt_val (pe_callB call_isi rfl T.b_isinstance (by decide +kernel) (pa_cons (pv 2) (pa_cons (pe_ty "bool" T.b_bool (by decide +kernel)) pa_nil))))))) (pss_one (ps_ret pe_bl)) pss_nil)))
      (pss_one (ps_ret (pe_cmpR (op_eqD hr.units) (pv 0) (pv 1) (nomark _))))), ?_⟩
  refine ⟨_, rfl, _, _, _, _, true, rfl, .ty _, .base (.tup hp), kit_ty (by decide +kernel), _, rfl, iteF ?_⟩
  refine ⟨_, rfl, p, _, rfl, .inr (SqT.of hp), rfl, _, rfl, iteNS rfl ?_⟩
  refine ⟨_, rfl, p, rfl, ⟨_, SqT.of hp⟩, for_tup (xs := [.int q.num, .int ((q.den : Nat) : Int)]) (fun i σ H' => (∃ x2, σ = [some (.ref p), some (.ref r), x2]) ∧ H' = H) ⟨⟨none, rfl⟩, rfl⟩ (fun i σ H' _ ⟨_, e⟩ => by rw [e]; exact SqT.of hp) ?_ ?_⟩
  · rintro i y σ H' hi ⟨⟨x2, rfl⟩, rfl⟩
    obtain ⟨z, rfl⟩ : ∃ z : Int, y = V.int z := by
      match i, hi with
      | 0, hi => exact ⟨_, (Option.some.inj hi).symm⟩
      | 1, hi => exact ⟨_, (Option.some.inj hi).symm⟩
    refine ⟨_, rfl, _, _, _, _, true, rfl, .ty _, .base (.int _), kit_ty (by decide +kernel), _, rfl, iteF ?_⟩
    exact ⟨_, rfl, _, _, _, _, false, rfl, .ty _, .base (.int _), kit_ty (by decide +kernel), _, rfl, iteF ⟨⟨_, rfl⟩, rfl⟩⟩
  · rintro σ H' ⟨⟨x2, rfl⟩, rfl⟩
    refine ⟨_, rfl, _, rfl, _, _, dp_rat hp, dp_rat hr1, sh_rat _ _, sh_rat _ _, ?_⟩
    rw [eq_rat]
    exact qq
def spNextC : Sp := fun vs H Q _ => ∃ (ba r : Addr) (b : Br) (d B : Nat) (rows : List Bs) (m : Nat), vs = [.ref ba, .ref r] ∧ BrAt H b ba ∧ b.Ok d B ∧ d ≤ 2 ∧ B ≤ 12 ∧ H r = some (.tup (rows.map fun y => V.str (S y))) ∧ (∀ y ∈ rows, y.length = m) ∧ 1 ≤ m ∧ m ≤ 3 ∧ 1 ≤ rows.length ∧ rows.length ≤ 8 ∧ ∀ H' t, Same H H' → RatAt H' t (nextC b m rows) → Q (.ref t) H'
abbrev N__law_next_chance : List Str := ["_law_breaker_here", "_law_strings_here", "_law_parts_here", "_law_y", "_law_i", "_law_ones_here"]
abbrev P__law_next_chance : List Str := ["_law_breaker_here", "_law_strings_here"]
theorem sc__law_next_chance : FnScope N__law_next_chance P__law_next_chance (defScope s__law_next_chance) := ⟨rfl, rfl, rfl, by decide +kernel, rfl, by decide +kernel, by decide +kernel⟩
theorem nextCL_fz {b : Br} {d B : Nat} (ok : b.Ok d B) (hB : B ≤ 12) (m : Nat) (rows : List Bs) : ∀ q ∈ nextCL b m rows, Fz M0 KP q := fun q hq => by
  obtain ⟨y, _, h⟩ := List.mem_flatMap.mp hq
  obtain ⟨i, _, rfl⟩ := List.mem_map.mp h
  exact pick_fz ok hB _ _
theorem c__law_next_chance (T : Txt w K mg) : Cal P w K mg base 6 "_law_next_chance" spNextC [] := by
  refine T.f__law_next_chance.cal sc__law_next_chance (fun _ _ _ _ _ _ us hl => match us, hl with | [_, _], _ => rfl) (fun vs H Q E h => ?_) (fun f cdv A outer s H vs Q E hr h => ?_)
  · obtain ⟨ba, r, b, d, B, rows, m, rfl, _⟩ := h
    rfl
  obtain ⟨ba, r, b, d, B, rows, m, rfl, hb, ok, hd, hB, hx, hy, m1, m3, r1, r8, q⟩ := h
  refine ⟨_, pss_cons (ps_set (i := 2) sc__law_next_chance.nd rfl (Or.inl rfl) (pe_lst pa_nil))
      (pss_cons (ps_for PassesOwn.never rfl (pi_tup (pv 1)) (pg_name (i := 3) sc__law_next_chance.nd rfl (Or.inl rfl)) (pss_one (ps_for PassesOwn.never rfl (pi_range1 rfl T.b_range (pa_cons (pe_callB call_len_str rfl T.b_len PySem.boot_len (pa_cons (pv 3) pa_nil)) pa_nil)) (pg_name (i := 4) sc__law_next_chance.nd rfl (Or.inl rfl)) (pss_cons (ps_set (i := 5) sc__law_next_chance.nd rfl (Or.inl rfl) (pe_c (c__law_ones T) hr (by decide) rfl (pa_cons (pv 0) (pa_cons (pe_c (c__law_marked T) hr (by decide) rfl (pa_cons (pv 3) (pa_cons (pv 4) pa_nil))) pa_nil)))) (pss_one (ps_expr (pe_bm PySem.F.plainAttrs_list PySem.F.slot_list_append PySem.F.type_list_append mt_append (pv 2) (pa_cons (pe_ix ix_list (pe_lst (pa_cons (pe_c (c__law_other T) hr (by decide) rfl (pa_cons (pv 5) pa_nil)) (pa_cons (pv 5) pa_nil))) (pe_callTy call_int_str rfl T.b_int (by decide +kernel) (pa_cons (pe_ix ix_str (pv 3) (pv 4) (fun _ _ => rfl)) pa_nil)) (fun _ _ => rfl)) pa_nil))))))))
      (pss_one (ps_ret (pe_c (c__law_mean T) hr (by decide) rfl (pa_cons (pv 2) pa_nil))))), ?_⟩
  have lm : (rows.map fun y => V.str (S y)).length = rows.length := List.length_map _
  refine ⟨Nat.zero_le _, fun D hD => ?_⟩
  refine ⟨_, rfl, r, rfl, ⟨_, SqT.of (same_new hD _ _ _ hx)⟩, for_tup (xs := rows.map fun y => V.str (S y)) (fun j σ H' => (∃ x3 x4 x5, σ = [some (.ref ba), some (.ref r), some (.ref D), x3, x4, x5]) ∧ Fr (Nw H) H H' ∧ RatsAt H' D (nextCL b m (rows.take j)))
    ⟨⟨none, none, none, rfl⟩, Fr.of_same (same_new hD _), [], upd_same, RL.nil _⟩ (fun i σ H' _ ⟨_, k, _⟩ => SqT.of (k.toSame _ _ hx)) ?_ ?_⟩
  · rintro j y0 σ H1 hj ⟨⟨x3, x4, x5, rfl⟩, f1, R1⟩
    obtain ⟨y, hyj, rfl⟩ := get_map hj
    have ly := hy y (List.mem_of_getElem? hyj)
    have en : (((S y).length : Nat) : Int) = ((m : Nat) : Int) := by rw [S_len, ly]
    have lj : j < rows.length := (List.getElem?_eq_some_iff.mp hyj).1
    have lc : (nextCL b m (rows.take j)).length ≤ 8 * 3 := by
      rw [nextCL_len, List.length_take]
      exact Nat.mul_le_mul (by omega) m3
    refine ⟨_, rfl, _, rfl, (by rw [S_len]; exact sl (by omega)), ((m : Nat) : Int), congrArg (fun z => [V.int z]) en, by omega, by omega, for_range (lo := 0) (n := m) (fun i σ H' => (∃ x4 x5, σ = [some (.ref ba), some (.ref r), some (.ref D), some (.str (S y)), x4, x5]) ∧ Fr (Nw H) H H' ∧ RatsAt H' D (nextCL b m (rows.take j) ++ (List.range i).map fun i => pick (bitAt y i) (b.p (prefC y i))))
      ⟨⟨x4, x5, rfl⟩, f1, by simpa using R1⟩ ?_ ?_⟩
    · rintro i σ H2 hi ⟨⟨x4, x5, rfl⟩, f2, ts, hL, hR⟩
      have ei : (0 : Int) + (i : Int) = (i : Int) := Int.zero_add _
      rw [ei]
      refine ⟨_, rfl, _, rfl, _, rfl, y, i, rfl, by omega, by omega, fun H3 s3 => ⟨ba, b, d, B, prefC y i, rfl, (hb.same f2.toSame).same s3, ok, hd, hB, by rw [prefC_len (by omega)]; omega, fun H4 t s4 ht => ?_⟩⟩
      have s34 := s3.trans s4
      refine ⟨_, rfl, .inl ⟨rfl, _, SqL.of (s34 _ _ hL)⟩, _, rfl, t, _, rfl, ht, p_sm ok hB _, fun H5 t2 s5 ht2 => ⟨_, rfl, (by show 2 ≤ sizeLine; decide), fun p hp => ?_⟩⟩
      have s6 := same_new hp (.lst [V.ref t2, V.ref t])
      have sall := (s34.trans s5).trans s6
      refine ⟨_, rfl, _, rfl, _, _, _, rfl, rfl, (by rw [S_len]; exact sl (by omega)), S_at (by omega), _, _, rfl, int_sign (bitAt y i), (by show 1 ≤ 640; decide), p, _, _, .ref (if bitAt y i then t else t2), rfl, rfl, SqL.of upd_same, (by cases bitAt y i <;> rfl), ?_⟩
      have hD6 := sall _ _ hL
      have R6 := hR.keep fun b xs z => sall _ _ z
      refine ⟨D, _, _, rfl, rfl, hD6, (by rw [List.length_map, hR.1, List.length_append, List.length_map, List.length_range]; exact slt (by omega)), ⟨_, _, rfl⟩, (f2.trans (Fr.of_same sall)).trans (Fr.upd hD), ?_⟩
      have e6 : nextCL b m (rows.take j) ++ (List.range (i + 1)).map (fun i => pick (bitAt y i) (b.p (prefC y i))) = (nextCL b m (rows.take j) ++ (List.range i).map fun i => pick (bitAt y i) (b.p (prefC y i))) ++ [pick (bitAt y i) (b.p (prefC y i))] := by
        rw [List.range_succ, List.map_append, List.append_assoc]
        rfl
      rw [e6]
      refine RatsAt.put hD6 R6 ?_
      cases bitAt y i
      · exact s6 _ _ ht2
      · exact s6 _ _ (s5 _ _ ht)
    · rintro σ H2 ⟨⟨x4, x5, rfl⟩, f2, R2⟩
      refine ⟨⟨_, _, _, rfl⟩, f2, ?_⟩
      have e7 : nextCL b m (rows.take (j + 1)) = nextCL b m (rows.take j) ++ (List.range m).map fun i => pick (bitAt y i) (b.p (prefC y i)) := by
        rw [take_more hyj]
        unfold nextCL
        rw [List.flatMap_append, List.flatMap_singleton]
      rw [e7]
      exact R2
  · rintro σ H1 ⟨⟨x3, x4, x5, rfl⟩, f1, ts, hL, hR⟩
    rw [lm, List.take_length] at hR
    have ln : (nextCL b m rows).length = rows.length * m := nextCL_len _ _ _
    have l1 : 1 * 1 ≤ rows.length * m := Nat.mul_le_mul r1 m1
    have l2 : rows.length * m ≤ 8 * 3 := Nat.mul_le_mul r8 m3
    exact ⟨_, rfl, D, ts, _, M0, KP, rfl, hL, hR, nextCL_fz ok hB m rows, rngP, by omega, by omega, fun H2 t s2 ht => q H2 t (f1.toSame.trans s2) ht⟩
end
end NX
namespace NX
open PySem PySem.Spec PyProof.Rows L2
open C8 (Cal Met Mak pe_c pe_mk pe_mt pe_mt0)
abbrev KR : Nat := 64 * KP * 8
theorem rngR : Rng (M0 * 8) KR := ⟨big_up (by decide : M0 * 8 < 2 ^ 200) (by decide), big_up (by decide : 64 * KR < 2 ^ 200) (by decide), by decide⟩
theorem rightL_len (b : Br) (m : Nat) (y : Bs) (i : Nat) : (rightL b m y i).length = 2 ^ (m - i) := by simp [rightL, stringsL]
theorem rightL_fz {b : Br} {d B : Nat} (ok : b.Ok d B) (hB : B ≤ 12) (m : Nat) (y : Bs) (i : Nat) : ∀ q ∈ rightL b m y i, Fz M0 KP q := fun q hq => by
  obtain ⟨w, _, rfl⟩ := List.mem_map.mp hq
  exact pick_fz ok hB _ _
theorem right_fz {b : Br} {d B : Nat} (ok : b.Ok d B) (hB : B ≤ 12) {m : Nat} (hm : m ≤ 3) (y : Bs) (i : Nat) : Fz (M0 * 8) KR (meanL (rightL b m y i)) := by
  have l1 := rightL_len b m y i
  have h1 : 1 ≤ 2 ^ (m - i) := Nat.pow_pos (by decide)
  have h8 : 2 ^ (m - i) ≤ 8 := pow_le8 hm (Nat.sub_le _ _)
  have f := mean_fz rngP (rightL_fz ok hB m y i) (by omega) (by omega)
  rw [l1] at f
  obtain ⟨c, hc⟩ := dvd8 (n := m - i) (by omega)
  have c0 : 0 < c := Nat.pos_of_ne_zero fun z => by rw [z] at hc; simp at hc
  have c8 : c ≤ 8 := by
    have : 1 * c ≤ 2 ^ (m - i) * c := Nat.mul_le_mul_right _ h1
    omega
  have g := f.scale c0
  rw [Nat.mul_assoc, ← hc] at g
  exact g.mono (Nat.mul_le_mul_left _ c8)
theorem dueL_fz {b : Br} {d B : Nat} (ok : b.Ok d B) (hB : B ≤ 12) {m : Nat} (hm : m ≤ 3) (rows : List Bs) : ∀ q ∈ dueL b m rows, Fz (M0 * 8) KR q := fun q hq => by
  obtain ⟨y, _, h⟩ := List.mem_flatMap.mp hq
  obtain ⟨i, _, rfl⟩ := List.mem_map.mp h
  exact right_fz ok hB hm y i
theorem due_sm {b : Br} {d B : Nat} (ok : b.Ok d B) (hB : B ≤ 12) {m : Nat} (hm1 : 1 ≤ m) (hm : m ≤ 3) {rows : List Bs} (r1 : 1 ≤ rows.length) (r8 : rows.length ≤ 8) : Sm (due b m rows) := by
  have ln : (dueL b m rows).length = rows.length * m := dueL_len _ _ _
  have l1 : 1 * 1 ≤ rows.length * m := Nat.mul_le_mul r1 hm1
  have l2 : rows.length * m ≤ 8 * 3 := Nat.mul_le_mul r8 hm
  have f := mean_fz rngR (dueL_fz ok hB hm rows) (by omega) (by omega)
  rw [ln] at f
  refine f.sm (Nat.lt_of_le_of_lt (Nat.mul_le_mul_left _ l2) (big_up (by decide : M0 * 8 * (8 * 3) < 2 ^ 200) (by decide))) (big_up (by decide : 64 * KR < 2 ^ 200) (by decide))
section
variable {P : Program} {w : World} {K : PySem.W.Frag} {mg : Str → Option Value} {base : Heap}
abbrev N__law_made_chance : List Str := ["_law_breaker_here", "_law_strings_here", "_law_parts_here", "_law_y", "_law_m", "_law_i", "_law_right", "_law_w", "_law_ones_here"]
abbrev P__law_made_chance : List Str := ["_law_breaker_here", "_law_strings_here"]
theorem sc__law_made_chance : FnScope N__law_made_chance P__law_made_chance (defScope s__law_made_chance) := ⟨rfl, rfl, rfl, by decide +kernel, rfl, by decide +kernel, by decide +kernel⟩
def spMadeCT : Sp := fun vs H Q _ => ∃ (ba r : Addr) (b : Br) (d B : Nat) (rows : List Bs) (m : Nat), vs = [.ref ba, .ref r] ∧ BrAt H b ba ∧ b.Ok d B ∧ d ≤ 2 ∧ B ≤ 12 ∧ H r = some (.tup (rows.map fun y => V.str (S y))) ∧ (∀ y ∈ rows, y.length = m) ∧ 1 ≤ m ∧ m ≤ 3 ∧ 1 ≤ rows.length ∧ rows.length ≤ 8 ∧ ∀ H' t, Same H H' → RatAt H' t (due b m rows) → Q (.ref t) H'
theorem c__law_made_chanceT (T : Txt w K mg) : Cal P w K mg base 6 "_law_made_chance" spMadeCT [] := by
  refine T.f__law_made_chance.cal sc__law_made_chance (fun _ _ _ _ _ _ us hl => match us, hl with | [_, _], _ => rfl) (fun vs H Q E h => ?_) (fun f cdv A outer s H vs Q E hr h => ?_)
  · obtain ⟨ba, r, b, d, B, rows, m, rfl, _⟩ := h
    rfl
  obtain ⟨ba, r, b, d, B, rows, m, rfl, hb, ok, hd, hB, hx, hy, m1, m3, r1, r8, q⟩ := h
  refine ⟨_, pss_cons (ps_set (i := 2) sc__law_made_chance.nd rfl (Or.inl rfl) (pe_lst pa_nil))
      (pss_cons (ps_for PassesOwn.never rfl (pi_tup (pv 1)) (pg_name (i := 3) sc__law_made_chance.nd rfl (Or.inl rfl)) (pss_cons (ps_set (i := 4) sc__law_made_chance.nd rfl (Or.inl rfl) (pe_callB call_len_str rfl T.b_len PySem.boot_len (pa_cons (pv 3) pa_nil))) (pss_one (ps_for PassesOwn.never rfl (pi_range1 rfl T.b_range (pa_cons (pv 4) pa_nil)) (pg_name (i := 5) sc__law_made_chance.nd rfl (Or.inl rfl)) (pss_cons (ps_set (i := 6) sc__law_made_chance.nd rfl (Or.inl rfl) (pe_lst pa_nil)) (pss_cons (ps_for PassesOwn.never rfl (pi_list (pe_c (c__law_strings T) hr (by decide) rfl (pa_cons (pe_op op_sub (pv 4) (pv 5)) pa_nil))) (pg_name (i := 7) sc__law_made_chance.nd rfl (Or.inl rfl)) (pss_cons (ps_set (i := 8) sc__law_made_chance.nd rfl (Or.inl rfl) (pe_c (c__law_ones T) hr (by decide) rfl (pa_cons (pv 0) (pa_cons (pe_op op_add_str (pe_slice sl_str (pv 3) po_none (po_some (pv 5))) (pv 7)) pa_nil)))) (pss_one (ps_expr (pe_bm PySem.F.plainAttrs_list PySem.F.slot_list_append PySem.F.type_list_append mt_append (pv 6) (pa_cons (pe_ix ix_list (pe_lst (pa_cons (pe_c (c__law_other T) hr (by decide) rfl (pa_cons (pv 8) pa_nil)) (pa_cons (pv 8) pa_nil))) (pe_callTy call_int1 rfl T.b_int (by decide +kernel) (pa_cons (pe_cmpR op_eq (pe_ix ix_str (pv 7) pe_int (fun _ _ => rfl)) (pe_ix ix_str (pv 3) (pv 5) (fun _ _ => rfl)) (nomark _)) pa_nil)) (fun _ _ => rfl)) pa_nil)))))) (pss_one (ps_expr (pe_bm PySem.F.plainAttrs_list PySem.F.slot_list_append PySem.F.type_list_append mt_append (pv 2) (pa_cons (pe_c (c__law_mean T) hr (by decide) rfl (pa_cons (pv 6) pa_nil)) pa_nil))))))))))
      (pss_one (ps_ret (pe_c (c__law_mean T) hr (by decide) rfl (pa_cons (pv 2) pa_nil))))), ?_⟩
  have lm : (rows.map fun y => V.str (S y)).length = rows.length := List.length_map _
  refine ⟨Nat.zero_le _, fun D hD => ?_⟩
  refine ⟨_, rfl, r, rfl, ⟨_, SqT.of (same_new hD _ _ _ hx)⟩, for_tup (xs := rows.map fun y => V.str (S y)) (fun j σ H' => (∃ x3 x4 x5 x6 x7 x8, σ = [some (.ref ba), some (.ref r), some (.ref D), x3, x4, x5, x6, x7, x8]) ∧ Fr (Nw H) H H' ∧ RatsAt H' D (dueL b m (rows.take j)))
    ⟨⟨none, none, none, none, none, none, rfl⟩, Fr.of_same (same_new hD _), [], upd_same, RL.nil _⟩ (fun i σ H' _ ⟨_, k, _⟩ => SqT.of (k.toSame _ _ hx)) ?_ ?_⟩
  · rintro j y0 σ H1 hj ⟨⟨x3, x4, x5, x6, x7, x8, rfl⟩, f1, R1⟩
    obtain ⟨y, hyj, rfl⟩ := get_map hj
    have ly := hy y (List.mem_of_getElem? hyj)
    have en : (((S y).length : Nat) : Int) = ((m : Nat) : Int) := by rw [S_len, ly]
    have lj : j < rows.length := (List.getElem?_eq_some_iff.mp hyj).1
    have lc : (dueL b m (rows.take j)).length ≤ 8 * 3 := by
      rw [dueL_len, List.length_take]
      exact Nat.mul_le_mul (by omega) m3
    refine ⟨_, rfl, _, rfl, (by rw [S_len]; exact sl (by omega)), ?_⟩
    rw [en]
    refine ⟨_, rfl, ((m : Nat) : Int), rfl, by omega, by omega, for_range (lo := 0) (n := m) (fun i σ H' => (∃ x5 x6 x7 x8, σ = [some (.ref ba), some (.ref r), some (.ref D), some (.str (S y)), some (.int ((m : Nat) : Int)), x5, x6, x7, x8]) ∧ Fr (Nw H) H H' ∧ RatsAt H' D (dueL b m (rows.take j) ++ (List.range i).map fun i => meanL (rightL b m y i)))
      ⟨⟨x5, x6, x7, x8, rfl⟩, f1, by simpa using R1⟩ ?_ ?_⟩
    · rintro i σ H2 hi ⟨⟨x5, x6, x7, x8, rfl⟩, f2, R2⟩
      have ei : (0 : Int) + (i : Int) = (i : Int) := Int.zero_add _
      rw [ei]
      have em : [V.int ((m : Int) - (i : Int))] = [V.int ((m - i : Nat) : Int)] := by
        have : (m : Int) - (i : Int) = ((m - i : Nat) : Int) := by omega
        rw [this]
      refine ⟨Nat.zero_le _, fun R hR => ?_⟩
      have hR0 : H R = none := f2.nw hR
      have s2 := same_new hR (.lst [])
      have hR2 : (upd H2 R (.lst [])) R = some (.lst []) := upd_same
      generalize (upd H2 R (.lst [])) = H3 at *
      refine ⟨_, rfl, _, rfl, _, _, rfl, rfl, m - i, em, by omega, fun H4 W s4 hW => ⟨W, rfl, ⟨_, SqL.of hW⟩, ?_⟩⟩
      have hR4 := s4 _ _ hR2
      have s24 := s2.trans s4
      have R4 := R2.same s24
      have nDR : D ≠ R := fun e => by
        obtain ⟨ts, h1, _⟩ := R2
        rw [e, hR] at h1
        cases h1
      have nWR : W ≠ R := fun e => by
        rw [e, hR4] at hW
        have z := HO.lst.inj (Option.some.inj hW)
        have l1 := congrArg List.length z
        rw [List.length_map, stringsL_len] at l1
        have : 1 ≤ 2 ^ (m - i) := Nat.pow_pos (by decide)
        simp at l1
        omega
      have f4 := f2.trans (Fr.of_same s24)
      have lw : ((stringsL (m - i)).map fun y => V.str (S y)).length = (stringsL (m - i)).length := List.length_map _
      have sl8 : (stringsL (m - i)).length ≤ 8 := by rw [stringsL_len]; exact pow_le8 m3 (Nat.sub_le _ _)
      refine for_list (K := K) (xs := (stringsL (m - i)).map fun y => V.str (S y)) (fun k σ H' => (∃ x7 x8, σ = [some (.ref ba), some (.ref r), some (.ref D), some (.str (S y)), some (.int ((m : Nat) : Int)), some (.int (i : Int)), some (.ref R), x7, x8]) ∧ Fr (fun b => b = R) H4 H' ∧ RatsAt H' R (((stringsL (m - i)).take k).map fun w => pick (bitAt w 0 == bitAt y i) (b.p (y.take i ++ w))))
        ⟨⟨x7, x8, rfl⟩, Fr.refl _ _, [], hR4, RL.nil _⟩ (fun k σ H' _ ⟨_, k1, _⟩ => SqL.of (k1 _ _ hW nWR)) ?_ ?_
      · rintro k w0 σ H5 hk ⟨⟨x7, x8, rfl⟩, k5, ts, hL, hRL⟩
        obtain ⟨w, hw, rfl⟩ := get_map hk
        have lw2 : w.length = m - i := strings_len w (List.mem_of_getElem? hw)
        have lk : k < (stringsL (m - i)).length := (List.getElem?_eq_some_iff.mp hw).1
        have lt : (y.take i).length = i := by rw [List.length_take]; omega
        have fr5 : Fr (Nw H) H H5 := f4.trans (k5.mono fun b e => by rw [e]; exact hR0)
        refine ⟨_, rfl, _, rfl, _, rfl, _, rfl, _, rfl, (by rw [S_len]; exact sl (by omega)), ?_⟩
        rw [S_take]
        refine ⟨_, rfl, _, _, rfl, rfl, (by rw [S_len, S_len, lt, lw2]; exact sl (by omega)), ?_⟩
        rw [S_app]
        refine ⟨ba, b, d, B, y.take i ++ w, rfl, hb.same fr5.toSame, ok, hd, hB, by rw [List.length_append, lt, lw2]; omega, fun H6 t s6 ht => ?_⟩
        refine ⟨_, rfl, .inl ⟨rfl, _, SqL.of (s6 _ _ hL)⟩, _, rfl, t, _, rfl, ht, p_sm ok hB _, fun H7 t2 s7 ht2 => ⟨_, rfl, (by show 2 ≤ sizeLine; decide), fun p hp => ?_⟩⟩
        have s8 := same_new hp (.lst [V.ref t2, V.ref t])
        have sall := (s6.trans s7).trans s8
        have a0 : atI (S w).cps.toList (0 : Int) = some (sg (bitAt w 0)) := S_at (b := w) (i := 0) (by omega)
        refine ⟨_, rfl, _, _, _, rfl, rfl, (by rw [S_len]; exact sl (by omega)), a0, _, rfl, _, rfl, _, _, _, rfl, rfl, (by rw [S_len]; exact sl (by omega)), S_at (by omega), rfl, .inr ⟨_, rfl, p, _, _, .ref (if (bitAt w 0 == bitAt y i) then t else t2), rfl, rfl, SqL.of upd_same, ?_, ?_⟩⟩
        · show atI _ (if decide (V.str (S [bitAt w 0]) = V.str (S [bitAt y i])) = true then (1 : Int) else 0) = _
          rw [one_dec]
          cases (bitAt w 0 == bitAt y i) <;> rfl
        have hL8 := sall _ _ hL
        have RL8 := hRL.keep fun b xs z => sall _ _ z
        refine ⟨R, _, _, rfl, rfl, hL8, (by rw [List.length_map, hRL.1, List.length_map, List.length_take]; exact slt (by omega)), ⟨_, _, rfl⟩, (k5.trans (Fr.of_same sall)).trans (Fr.upd rfl), ?_⟩
        have e6 : ((stringsL (m - i)).take (k + 1)).map (fun w => pick (bitAt w 0 == bitAt y i) (b.p (y.take i ++ w))) = ((stringsL (m - i)).take k).map (fun w => pick (bitAt w 0 == bitAt y i) (b.p (y.take i ++ w))) ++ [pick (bitAt w 0 == bitAt y i) (b.p (y.take i ++ w))] := by
          rw [take_more hw, List.map_append]
          rfl
        rw [e6]
        refine RatsAt.put hL8 RL8 ?_
        cases (bitAt w 0 == bitAt y i)
        · exact s8 _ _ ht2
        · exact s8 _ _ (s7 _ _ ht)
      · rintro σ H5 ⟨⟨x7, x8, rfl⟩, k5, ts, hL, hRL⟩
        rw [lw, List.take_length] at hRL
        have fr5 : Fr (Nw H) H H5 := f4.trans (k5.mono fun b e => by rw [e]; exact hR0)
        have R5 := R4.fr k5 nDR fun b xs z e => by rw [e, hR4] at z; cases z
        obtain ⟨ts5, hL5, hRL5⟩ := R5
        have l1 := rightL_len b m y i
        have h1 : 1 ≤ 2 ^ (m - i) := Nat.pow_pos (by decide)
        have h8 : 2 ^ (m - i) ≤ 8 := pow_le8 m3 (Nat.sub_le _ _)
        refine ⟨_, rfl, .inl ⟨rfl, _, SqL.of hL5⟩, _, rfl, R, ts, rightL b m y i, M0, KP, rfl, hL, hRL, rightL_fz ok hB m y i, rngP, by omega, by omega, fun H6 t s6 ht => ?_⟩
        have hL6 := s6 _ _ hL5
        refine ⟨D, _, _, rfl, rfl, hL6, (by rw [List.length_map, hRL5.1, List.length_append, List.length_map, List.length_range]; exact slt (by omega)), ⟨_, _, _, _, rfl⟩, (fr5.trans (Fr.of_same s6)).trans (Fr.upd hD), ?_⟩
        have e6 : dueL b m (rows.take j) ++ (List.range (i + 1)).map (fun i => meanL (rightL b m y i)) = (dueL b m (rows.take j) ++ (List.range i).map fun i => meanL (rightL b m y i)) ++ [meanL (rightL b m y i)] := by
          rw [List.range_succ, List.map_append, List.append_assoc]
          rfl
        rw [e6]
        exact RatsAt.put hL6 (hRL5.keep fun b xs z => s6 _ _ z) ht
    · rintro σ H2 ⟨⟨x5, x6, x7, x8, rfl⟩, f2, R2⟩
      refine ⟨⟨_, _, _, _, _, _, rfl⟩, f2, ?_⟩
      have e7 : dueL b m (rows.take (j + 1)) = dueL b m (rows.take j) ++ (List.range m).map fun i => meanL (rightL b m y i) := by
        rw [take_more hyj]
        unfold dueL
        rw [List.flatMap_append, List.flatMap_singleton]
      rw [e7]
      exact R2
  · rintro σ H1 ⟨⟨x3, x4, x5, x6, x7, x8, rfl⟩, f1, ts, hL, hR⟩
    rw [lm, List.take_length] at hR
    have ln : (dueL b m rows).length = rows.length * m := dueL_len _ _ _
    have l1 : 1 * 1 ≤ rows.length * m := Nat.mul_le_mul r1 m1
    have l2 : rows.length * m ≤ 8 * 3 := Nat.mul_le_mul r8 m3
    exact ⟨_, rfl, D, ts, _, M0 * 8, KR, rfl, hL, hR, dueL_fz ok hB m3 rows, rngR, by omega, by omega, fun H2 t s2 ht => q H2 t (f1.toSame.trans s2) ht⟩
def spMadeCL : Sp := fun vs H Q _ => ∃ (ba r : Addr) (b : Br) (d B : Nat) (rows : List Bs) (m : Nat), vs = [.ref ba, .ref r] ∧ BrAt H b ba ∧ b.Ok d B ∧ d ≤ 2 ∧ B ≤ 12 ∧ H r = some (.lst (rows.map fun y => V.str (S y))) ∧ (∀ y ∈ rows, y.length = m) ∧ 1 ≤ m ∧ m ≤ 3 ∧ 1 ≤ rows.length ∧ rows.length ≤ 8 ∧ ∀ H' t, Same H H' → RatAt H' t (due b m rows) → Q (.ref t) H'
theorem c__law_made_chanceL (T : Txt w K mg) : Cal P w K mg base 6 "_law_made_chance" spMadeCL [] := by
  refine T.f__law_made_chance.cal sc__law_made_chance (fun _ _ _ _ _ _ us hl => match us, hl with | [_, _], _ => rfl) (fun vs H Q E h => ?_) (fun f cdv A outer s H vs Q E hr h => ?_)
  · obtain ⟨ba, r, b, d, B, rows, m, rfl, _⟩ := h
    rfl
  obtain ⟨ba, r, b, d, B, rows, m, rfl, hb, ok, hd, hB, hx, hy, m1, m3, r1, r8, q⟩ := h
  refine ⟨_, pss_cons (ps_set (i := 2) sc__law_made_chance.nd rfl (Or.inl rfl) (pe_lst pa_nil))
      (pss_cons (ps_for PassesOwn.never rfl (pi_list (pv 1)) (pg_name (i := 3) sc__law_made_chance.nd rfl (Or.inl rfl)) (pss_cons (ps_set (i := 4) sc__law_made_chance.nd rfl (Or.inl rfl) (pe_callB call_len_str rfl T.b_len PySem.boot_len (pa_cons (pv 3) pa_nil))) (pss_one (ps_for PassesOwn.never rfl (pi_range1 rfl T.b_range (pa_cons (pv 4) pa_nil)) (pg_name (i := 5) sc__law_made_chance.nd rfl (Or.inl rfl)) (pss_cons (ps_set (i := 6) sc__law_made_chance.nd rfl (Or.inl rfl) (pe_lst pa_nil)) (pss_cons (ps_for PassesOwn.never rfl (pi_list (pe_c (c__law_strings T) hr (by decide) rfl (pa_cons (pe_op op_sub (pv 4) (pv 5)) pa_nil))) (pg_name (i := 7) sc__law_made_chance.nd rfl (Or.inl rfl)) (pss_cons (ps_set (i := 8) sc__law_made_chance.nd rfl (Or.inl rfl) (pe_c (c__law_ones T) hr (by decide) rfl (pa_cons (pv 0) (pa_cons (pe_op op_add_str (pe_slice sl_str (pv 3) po_none (po_some (pv 5))) (pv 7)) pa_nil)))) (pss_one (ps_expr (pe_bm PySem.F.plainAttrs_list PySem.F.slot_list_append PySem.F.type_list_append mt_append (pv 6) (pa_cons (pe_ix ix_list (pe_lst (pa_cons (pe_c (c__law_other T) hr (by decide) rfl (pa_cons (pv 8) pa_nil)) (pa_cons (pv 8) pa_nil))) (pe_callTy call_int1 rfl T.b_int (by decide +kernel) (pa_cons (pe_cmpR op_eq (pe_ix ix_str (pv 7) pe_int (fun _ _ => rfl)) (pe_ix ix_str (pv 3) (pv 5) (fun _ _ => rfl)) (nomark _)) pa_nil)) (fun _ _ => rfl)) pa_nil)))))) (pss_one (ps_expr (pe_bm PySem.F.plainAttrs_list PySem.F.slot_list_append PySem.F.type_list_append mt_append (pv 2) (pa_cons (pe_c (c__law_mean T) hr (by decide) rfl (pa_cons (pv 6) pa_nil)) pa_nil))))))))))
      (pss_one (ps_ret (pe_c (c__law_mean T) hr (by decide) rfl (pa_cons (pv 2) pa_nil))))), ?_⟩
  have lm : (rows.map fun y => V.str (S y)).length = rows.length := List.length_map _
  refine ⟨Nat.zero_le _, fun D hD => ?_⟩
  refine ⟨_, rfl, r, rfl, ⟨_, SqL.of (same_new hD _ _ _ hx)⟩, for_list (K := K) (xs := rows.map fun y => V.str (S y)) (fun j σ H' => (∃ x3 x4 x5 x6 x7 x8, σ = [some (.ref ba), some (.ref r), some (.ref D), x3, x4, x5, x6, x7, x8]) ∧ Fr (Nw H) H H' ∧ RatsAt H' D (dueL b m (rows.take j)))
    ⟨⟨none, none, none, none, none, none, rfl⟩, Fr.of_same (same_new hD _), [], upd_same, RL.nil _⟩ (fun i σ H' _ ⟨_, k, _⟩ => SqL.of (k.toSame _ _ hx)) ?_ ?_⟩
  · rintro j y0 σ H1 hj ⟨⟨x3, x4, x5, x6, x7, x8, rfl⟩, f1, R1⟩
    obtain ⟨y, hyj, rfl⟩ := get_map hj
    have ly := hy y (List.mem_of_getElem? hyj)
    have en : (((S y).length : Nat) : Int) = ((m : Nat) : Int) := by rw [S_len, ly]
    have lj : j < rows.length := (List.getElem?_eq_some_iff.mp hyj).1
    have lc : (dueL b m (rows.take j)).length ≤ 8 * 3 := by
      rw [dueL_len, List.length_take]
      exact Nat.mul_le_mul (by omega) m3
    refine ⟨_, rfl, _, rfl, (by rw [S_len]; exact sl (by omega)), ?_⟩
    rw [en]
    refine ⟨_, rfl, ((m : Nat) : Int), rfl, by omega, by omega, for_range (lo := 0) (n := m) (fun i σ H' => (∃ x5 x6 x7 x8, σ = [some (.ref ba), some (.ref r), some (.ref D), some (.str (S y)), some (.int ((m : Nat) : Int)), x5, x6, x7, x8]) ∧ Fr (Nw H) H H' ∧ RatsAt H' D (dueL b m (rows.take j) ++ (List.range i).map fun i => meanL (rightL b m y i)))
      ⟨⟨x5, x6, x7, x8, rfl⟩, f1, by simpa using R1⟩ ?_ ?_⟩
    · rintro i σ H2 hi ⟨⟨x5, x6, x7, x8, rfl⟩, f2, R2⟩
      have ei : (0 : Int) + (i : Int) = (i : Int) := Int.zero_add _
      rw [ei]
      have em : [V.int ((m : Int) - (i : Int))] = [V.int ((m - i : Nat) : Int)] := by
        have : (m : Int) - (i : Int) = ((m - i : Nat) : Int) := by omega
        rw [this]
      refine ⟨Nat.zero_le _, fun R hR => ?_⟩
      have hR0 : H R = none := f2.nw hR
      have s2 := same_new hR (.lst [])
      have hR2 : (upd H2 R (.lst [])) R = some (.lst []) := upd_same
      generalize (upd H2 R (.lst [])) = H3 at *
      refine ⟨_, rfl, _, rfl, _, _, rfl, rfl, m - i, em, by omega, fun H4 W s4 hW => ⟨W, rfl, ⟨_, SqL.of hW⟩, ?_⟩⟩
      have hR4 := s4 _ _ hR2
      have s24 := s2.trans s4
      have R4 := R2.same s24
      have nDR : D ≠ R := fun e => by
        obtain ⟨ts, h1, _⟩ := R2
        rw [e, hR] at h1
        cases h1
      have nWR : W ≠ R := fun e => by
        rw [e, hR4] at hW
        have z := HO.lst.inj (Option.some.inj hW)
        have l1 := congrArg List.length z
        rw [List.length_map, stringsL_len] at l1
        have : 1 ≤ 2 ^ (m - i) := Nat.pow_pos (by decide)
        simp at l1
        omega
      have f4 := f2.trans (Fr.of_same s24)
      have lw : ((stringsL (m - i)).map fun y => V.str (S y)).length = (stringsL (m - i)).length := List.length_map _
      have sl8 : (stringsL (m - i)).length ≤ 8 := by rw [stringsL_len]; exact pow_le8 m3 (Nat.sub_le _ _)
      refine for_list (K := K) (xs := (stringsL (m - i)).map fun y => V.str (S y)) (fun k σ H' => (∃ x7 x8, σ = [some (.ref ba), some (.ref r), some (.ref D), some (.str (S y)), some (.int ((m : Nat) : Int)), some (.int (i : Int)), some (.ref R), x7, x8]) ∧ Fr (fun b => b = R) H4 H' ∧ RatsAt H' R (((stringsL (m - i)).take k).map fun w => pick (bitAt w 0 == bitAt y i) (b.p (y.take i ++ w))))
        ⟨⟨x7, x8, rfl⟩, Fr.refl _ _, [], hR4, RL.nil _⟩ (fun k σ H' _ ⟨_, k1, _⟩ => SqL.of (k1 _ _ hW nWR)) ?_ ?_
      · rintro k w0 σ H5 hk ⟨⟨x7, x8, rfl⟩, k5, ts, hL, hRL⟩
        obtain ⟨w, hw, rfl⟩ := get_map hk
        have lw2 : w.length = m - i := strings_len w (List.mem_of_getElem? hw)
        have lk : k < (stringsL (m - i)).length := (List.getElem?_eq_some_iff.mp hw).1
        have lt : (y.take i).length = i := by rw [List.length_take]; omega
        have fr5 : Fr (Nw H) H H5 := f4.trans (k5.mono fun b e => by rw [e]; exact hR0)
        refine ⟨_, rfl, _, rfl, _, rfl, _, rfl, _, rfl, (by rw [S_len]; exact sl (by omega)), ?_⟩
        rw [S_take]
        refine ⟨_, rfl, _, _, rfl, rfl, (by rw [S_len, S_len, lt, lw2]; exact sl (by omega)), ?_⟩
        rw [S_app]
        refine ⟨ba, b, d, B, y.take i ++ w, rfl, hb.same fr5.toSame, ok, hd, hB, by rw [List.length_append, lt, lw2]; omega, fun H6 t s6 ht => ?_⟩
        refine ⟨_, rfl, .inl ⟨rfl, _, SqL.of (s6 _ _ hL)⟩, _, rfl, t, _, rfl, ht, p_sm ok hB _, fun H7 t2 s7 ht2 => ⟨_, rfl, (by show 2 ≤ sizeLine; decide), fun p hp => ?_⟩⟩
        have s8 := same_new hp (.lst [V.ref t2, V.ref t])
        have sall := (s6.trans s7).trans s8
        have a0 : atI (S w).cps.toList (0 : Int) = some (sg (bitAt w 0)) := S_at (b := w) (i := 0) (by omega)
        refine ⟨_, rfl, _, _, _, rfl, rfl, (by rw [S_len]; exact sl (by omega)), a0, _, rfl, _, rfl, _, _, _, rfl, rfl, (by rw [S_len]; exact sl (by omega)), S_at (by omega), rfl, .inr ⟨_, rfl, p, _, _, .ref (if (bitAt w 0 == bitAt y i) then t else t2), rfl, rfl, SqL.of upd_same, ?_, ?_⟩⟩
        · show atI _ (if decide (V.str (S [bitAt w 0]) = V.str (S [bitAt y i])) = true then (1 : Int) else 0) = _
          rw [one_dec]
          cases (bitAt w 0 == bitAt y i) <;> rfl
        have hL8 := sall _ _ hL
        have RL8 := hRL.keep fun b xs z => sall _ _ z
        refine ⟨R, _, _, rfl, rfl, hL8, (by rw [List.length_map, hRL.1, List.length_map, List.length_take]; exact slt (by omega)), ⟨_, _, rfl⟩, (k5.trans (Fr.of_same sall)).trans (Fr.upd rfl), ?_⟩
        have e6 : ((stringsL (m - i)).take (k + 1)).map (fun w => pick (bitAt w 0 == bitAt y i) (b.p (y.take i ++ w))) = ((stringsL (m - i)).take k).map (fun w => pick (bitAt w 0 == bitAt y i) (b.p (y.take i ++ w))) ++ [pick (bitAt w 0 == bitAt y i) (b.p (y.take i ++ w))] := by
          rw [take_more hw, List.map_append]
          rfl
        rw [e6]
        refine RatsAt.put hL8 RL8 ?_
        cases (bitAt w 0 == bitAt y i)
        · exact s8 _ _ ht2
        · exact s8 _ _ (s7 _ _ ht)
      · rintro σ H5 ⟨⟨x7, x8, rfl⟩, k5, ts, hL, hRL⟩
        rw [lw, List.take_length] at hRL
        have fr5 : Fr (Nw H) H H5 := f4.trans (k5.mono fun b e => by rw [e]; exact hR0)
        have R5 := R4.fr k5 nDR fun b xs z e => by rw [e, hR4] at z; cases z
        obtain ⟨ts5, hL5, hRL5⟩ := R5
        have l1 := rightL_len b m y i
        have h1 : 1 ≤ 2 ^ (m - i) := Nat.pow_pos (by decide)
        have h8 : 2 ^ (m - i) ≤ 8 := pow_le8 m3 (Nat.sub_le _ _)
        refine ⟨_, rfl, .inl ⟨rfl, _, SqL.of hL5⟩, _, rfl, R, ts, rightL b m y i, M0, KP, rfl, hL, hRL, rightL_fz ok hB m y i, rngP, by omega, by omega, fun H6 t s6 ht => ?_⟩
        have hL6 := s6 _ _ hL5
        refine ⟨D, _, _, rfl, rfl, hL6, (by rw [List.length_map, hRL5.1, List.length_append, List.length_map, List.length_range]; exact slt (by omega)), ⟨_, _, _, _, rfl⟩, (fr5.trans (Fr.of_same s6)).trans (Fr.upd hD), ?_⟩
        have e6 : dueL b m (rows.take j) ++ (List.range (i + 1)).map (fun i => meanL (rightL b m y i)) = (dueL b m (rows.take j) ++ (List.range i).map fun i => meanL (rightL b m y i)) ++ [meanL (rightL b m y i)] := by
          rw [List.range_succ, List.map_append, List.append_assoc]
          rfl
        rw [e6]
        exact RatsAt.put hL6 (hRL5.keep fun b xs z => s6 _ _ z) ht
    · rintro σ H2 ⟨⟨x5, x6, x7, x8, rfl⟩, f2, R2⟩
      refine ⟨⟨_, _, _, _, _, _, rfl⟩, f2, ?_⟩
      have e7 : dueL b m (rows.take (j + 1)) = dueL b m (rows.take j) ++ (List.range m).map fun i => meanL (rightL b m y i) := by
        rw [take_more hyj]
        unfold dueL
        rw [List.flatMap_append, List.flatMap_singleton]
      rw [e7]
      exact R2
  · rintro σ H1 ⟨⟨x3, x4, x5, x6, x7, x8, rfl⟩, f1, ts, hL, hR⟩
    rw [lm, List.take_length] at hR
    have ln : (dueL b m rows).length = rows.length * m := dueL_len _ _ _
    have l1 : 1 * 1 ≤ rows.length * m := Nat.mul_le_mul r1 m1
    have l2 : rows.length * m ≤ 8 * 3 := Nat.mul_le_mul r8 m3
    exact ⟨_, rfl, D, ts, _, M0 * 8, KR, rfl, hL, hR, dueL_fz ok hB m3 rows, rngR, by omega, by omega, fun H2 t s2 ht => q H2 t (f1.toSame.trans s2) ht⟩
end
end NX
namespace NX
open PySem PySem.Spec PyProof.Rows L2
open C8 (Cal Met Mak pe_c pe_mk pe_mt pe_mt0)
theorem half_num : (1 / 2 : Rat).num = 1 := by decide +kernel
theorem half_den : (1 / 2 : Rat).den = 2 := by decide +kernel
theorem half_sm : Sm (1 / 2 : Rat) := by
  refine ⟨?_, ?_⟩
  · rw [half_num]; exact big_up (by decide : (1 : Int).natAbs < 2 ^ 2) (by decide)
  · rw [half_den]; exact big_up (by decide : 2 < 2 ^ 2) (by decide)
theorem half_at {H : Hp} {p : Addr} (h : H p = some (.tup [.int 1, .int 2])) : RatAt H p (1 / 2) := by
  unfold RatAt
  rw [half_num, half_den]
  exact h
theorem gain_sm {b : Br} {d B : Nat} (ok : b.Ok d B) (hB : B ≤ 12) {rows : List Bs} {m : Nat} (h1 : rows.length ∣ 8) (hm : m ≤ 3) : Sm (gainL b rows m) := by
  have f : ∀ chs : List Bs, chs.length ∣ 8 → Fz M0 (64 * KW) (silentC b chs) := fun chs hdv => by
    have n8 : chs.length ≤ 8 := Nat.le_of_dvd (by decide) hdv
    have n0 : 0 < chs.length := Nat.pos_of_dvd_of_pos hdv (by decide)
    unfold silentC
    rw [← wcnt_val n0]
    exact cnt_fz (wcnt_ok ok hB hdv (by omega))
  have g := (f rows h1).sub (f (stringsL m) (by rw [stringsL_len]; exact dvd8 hm))
  exact g.sm m0_small (big_up (by decide : 64 * KW + 64 * KW < 2 ^ 200) (by decide))
theorem bud12 {d : Nat} (h : d ≤ 2) : bud d 1 ≤ 12 := by
  have : d = 0 ∨ d = 1 ∨ d = 2 := by omega
  rcases this with rfl | rfl | rfl <;> decide
section
variable {P : Program} {w : World} {K : PySem.W.Frag} {mg : Str → Option Value} {base : Heap}
def spLaw (K : PySem.W.Frag) : Sp := fun vs H Q _ => ∃ (r : Addr) (cells : List Int), vs = [.ref r] ∧ (SqL K H r (cells.map V.int) ∨ SqT K H r (cells.map V.int)) ∧ ∀ H', Q (.bl true) H'
abbrev N_law : List Str := ["_law_script", "_law_tape_here", "_law_n", "_law_m", "_law_table", "_law_at", "_law_breaker_here", "_law_made_here", "_law_due", "_law_gained", "_law_ideal"]
abbrev P_law : List Str := ["_law_script"]
theorem sc_law : FnScope N_law P_law (defScope s_law) := ⟨rfl, rfl, rfl, by decide +kernel, rfl, by decide +kernel, by decide +kernel⟩
theorem ok_law (T : Txt w K mg) {f : Addr} {fd : FuncData} (F : FunD K "law" "law" (defArgs s_law) (defBody s_law) (defScope s_law) [] [] f fd) : FnOk P w K mg base CX0 12 f fd ["_law_script"] (spLaw K) := by
  refine F.ok sc_law (fun vs H Q E h => ?_) (fun cdv A outer s H vs Q E hr h => ?_)
  · obtain ⟨r, cells, rfl, _⟩ := h
    rfl
  obtain ⟨r, cells, rfl, hs, q⟩ := h
  refine ⟨_, PSs.nox (pss_cons (ps_set (i := 1) sc_law.nd rfl (Or.inl rfl) (pe_c (c__law_tape T) hr (by decide) rfl (pa_cons (pv 0) pa_nil)))
      (pss_cons (ps_set (i := 2) sc_law.nd rfl (Or.inl rfl) (pe_op op_add pe_int (pe_c (c__law_draw T) hr (by decide) rfl (pa_cons (pv 1) (pa_cons pe_int pa_nil)))))
      (pss_cons (ps_set (i := 3) sc_law.nd rfl (Or.inl rfl) (pe_op op_add pe_int (pe_c (c__law_draw T) hr (by decide) rfl (pa_cons (pv 1) (pa_cons pe_int pa_nil)))))
      (pss_cons (ps_set (i := 4) sc_law.nd rfl (Or.inl rfl) (pe_c (c__law_generator T) hr (by decide) rfl (pa_cons (pv 1) (pa_cons (pv 2) (pa_cons (pv 3) pa_nil)))))
      (pss_cons (ps_for PassesOwn.never rfl (pi_range1 rfl T.b_range (pa_cons (pe_op op_add pe_int (pe_c (c__law_draw T) hr (by decide) rfl (pa_cons (pv 1) (pa_cons pe_int pa_nil)))) pa_nil)) (pg_name (i := 5) sc_law.nd rfl (Or.inl rfl)) (pss_cons (ps_set (i := 6) sc_law.nd rfl (Or.inl rfl) (pe_c (c__law_breaker T) hr (by decide) rfl (pa_cons (pv 1) (pa_cons (pe_c (c__law_draw T) hr (by decide) rfl (pa_cons (pv 1) (pa_cons pe_int pa_nil))) (pa_cons pe_int (pa_cons (pe_tup (pa_cons pe_int (pa_cons pe_int (pa_cons (pv 3) pa_nil)))) pa_nil)))))) (pss_cons (ps_set (i := 7) sc_law.nd rfl (Or.inl rfl) (pe_tup (pa_cons pe_str (pa_cons (pv 3) (pa_cons (pv 6) pa_nil))))) (pss_cons (ps_set (i := 8) sc_law.nd rfl (Or.inl rfl) (pe_c (c__law_made_chanceT T) hr (by decide) rfl (pa_cons (pv 6) (pa_cons (pe_ix ix_tup (pv 4) pe_int (fun _ _ => rfl)) pa_nil)))) (pss_cons (ps_if (pt_not (pt_val (pe_c (c__law_is T) hr (by decide) rfl (pa_cons (pe_c (c_chance T) hr (by decide) rfl (pa_cons (pe_tup (pa_cons pe_str (pa_cons (pv 4) (pa_cons pe_bl pa_nil)))) (pa_cons (pv 7) pa_nil))) (pa_cons (pv 8) pa_nil))))) (pss_one (ps_ret pe_bl)) pss_nil) (pss_cons (ps_set (i := 9) sc_law.nd rfl (Or.inl rfl) (pe_c (c__law_generator_gain T) hr (by decide) rfl (pa_cons (pv 6) (pa_cons (pv 4) pa_nil)))) (pss_cons (ps_if (pt_not (pt_val (pe_c (c__law_is T) hr (by decide) rfl (pa_cons (pe_c (c_advantage T) hr (by decide) rfl (pa_cons (pv 4) (pa_cons (pv 6) pa_nil))) (pa_cons (pv 9) pa_nil))))) (pss_one (ps_ret pe_bl)) pss_nil) (pss_cons (ps_if (pt_cmpR (op_neD hr.units) (pe_c (c__law_less T) hr (by decide) rfl (pa_cons (pv 8) (pa_cons (pe_tup (pa_cons pe_int (pa_cons pe_int pa_nil))) pa_nil))) (pe_c (c__law_fraction T) hr (by decide) rfl (pa_cons (pe_ix ix_tup (pv 9) pe_int (fun _ _ => rfl)) (pa_cons (pe_op op_mulW (pe_ix ix_tup (pv 9) pe_int (fun _ _ => rfl)) (pv 3)) pa_nil))) (nomark _)) (pss_one (ps_ret pe_bl)) pss_nil) (pss_cons (ps_set (i := 10) sc_law.nd rfl (Or.inl rfl) (pe_c (c__law_made_chanceL T) hr (by decide) rfl (pa_cons (pv 6) (pa_cons (pe_c (c__law_strings T) hr (by decide) rfl (pa_cons (pv 3) pa_nil)) pa_nil)))) (pss_cons (ps_if (PW.pt (pw_or (pt_cmpR (op_neD hr.units) (pv 10) (pe_tup (pa_cons pe_int (pa_cons pe_int pa_nil))) (nomark _)) (pw_or1 (pt_not (pt_val (pe_c (c__law_is T) hr (by decide) rfl (pa_cons (pe_c (c_chance T) hr (by decide) rfl (pa_cons (pe_tup (pa_cons pe_str (pa_cons (pv 4) (pa_cons pe_bl pa_nil)))) (pa_cons (pv 7) pa_nil))) (pa_cons (pv 10) pa_nil)))))))) (pss_one (ps_ret pe_bl)) pss_nil) (pss_one (ps_if (pt_not (pt_val (pe_c (c__law_is T) hr (by decide) rfl (pa_cons (pe_c (c_chance T) hr (by decide) rfl (pa_cons (pe_tup (pa_cons pe_str (pa_cons (pv 4) (pa_cons pe_bl pa_nil)))) (pa_cons (pv 6) pa_nil))) (pa_cons (pe_c (c__law_next_chance T) hr (by decide) rfl (pa_cons (pv 6) (pa_cons (pe_ix ix_tup (pv 4) pe_int (fun _ _ => rfl)) pa_nil))) pa_nil))))) (pss_one (ps_ret pe_bl)) pss_nil))))))))))))
      (pss_one (ps_ret pe_bl))))))), ?_⟩
  refine ⟨_, rfl, r, cells, rfl, hs, fun H1 tp s1 hn lt1 => ?_⟩
  refine ⟨_, rfl, tp, 2, rfl, lt1, by decide, fun H2 v1 k2 hv1 => ⟨_, _, rfl, rfl, ?_⟩⟩
  refine ⟨_, rfl, tp, 3, rfl, k2.lt lt1, by decide, fun H3 v2 k3 hv2 => ⟨_, _, rfl, rfl, ?_⟩⟩
  have k23 := k2.trans k3
  refine ⟨_, rfl, _, rfl, _, rfl, tp, 1 + v1, 1 + v2, rfl, k23.lt lt1, by omega, by omega, by omega, by omega, fun H4 g rows k4 G => ?_⟩
  have k24 := k23.trans k4
  refine ⟨_, rfl, tp, 2, rfl, k24.lt lt1, by decide, fun H5 v5 k5 hv5 => ⟨_, _, rfl, rfl, ((1 + v5 : Nat) : Int), rfl, by omega, by omega, ?_⟩⟩
  have k25 := k24.trans k5
  have G5 : GenAt H5 g rows (1 + v1) (1 + v2) := G.keep fun b xs z => k5.tup (k24.lt lt1) z
  refine for_range (lo := 0) (n := 1 + v5) (fun i σ H' => (∃ x5 x6 x7 x8 x9 x10, σ = [some (.ref r), some (.ref tp), some (.int ((1 + v1 : Nat) : Int)), some (.int ((1 + v2 : Nat) : Int)), some (.ref g), x5, x6, x7, x8, x9, x10]) ∧ Lk tp H1 H' ∧ GenAt H' g rows (1 + v1) (1 + v2))
    ⟨⟨_, _, _, _, _, _, rfl⟩, k25, G5⟩ ?_ (fun σ H' _ => q H')
  generalize hn1 : 1 + v1 = n at *
  generalize hm1 : 1 + v2 = m at *
  rintro i σ H6 hi ⟨⟨x5, x6, x7, x8, x9, x10, rfl⟩, k6, G6⟩
  have m1 : 1 ≤ m := by omega
  have m3 : m ≤ 3 := by omega
  have n2 : n ≤ 2 := by omega
  have rl : rows.length = 2 ^ n := G.hl
  have r1 : 1 ≤ rows.length := by rw [rl]; exact Nat.pow_pos (by decide)
  have r8 : rows.length ≤ 8 := by rw [rl]; exact pow_le8 (m := 3) (by decide) (by omega)
  have rd : rows.length ∣ 8 := by rw [rl]; exact dvd8 (by omega)
  have s1l : 1 ≤ (stringsL m).length := by rw [stringsL_len]; exact Nat.pow_pos (by decide)
  have s8l : (stringsL m).length ≤ 8 := by rw [stringsL_len]; exact pow_le8 m3 (Nat.le_refl _)
  refine ⟨_, rfl, _, rfl, tp, 3, rfl, k6.lt lt1, by decide, fun H7 vd k7 hvd => ⟨_, rfl, (by show 3 ≤ sizeLine; decide), fun sh hsh => ?_⟩⟩
  have k7' := (k6.trans k7).trans (.of_same (same_new hsh (.tup [V.int 2, V.int 1, V.int ((m : Nat) : Int)])))
  refine ⟨vd, by omega, tp, sh, 1, m, rfl, k7'.lt lt1, upd_same, m3, ⟨by decide, by omega⟩, fun H8 ba b k8 hb ok0 => ?_⟩
  have ok : b.Ok 2 12 := ok0.mono (by omega) (bud12 (by omega))
  have k68 := k7'.trans k8
  have G8 : GenAt H8 g rows n m := ((G6.keep fun b xs z => k7.tup (k6.lt lt1) z).same (same_new hsh _)).keep fun b xs z => k8.tup (k7'.lt lt1) z
  refine ⟨_, rfl, _, rfl, (by show 3 ≤ sizeLine; decide), fun ma hma => ?_⟩
  have sA := same_new hma (.tup [V.str "next", V.int ((m : Nat) : Int), V.ref ba])
  have hmA : (upd H8 ma (.tup [V.str "next", V.int ((m : Nat) : Int), V.ref ba])) ma = some (.tup [.str "next", .int ((m : Nat) : Int), .ref ba]) := upd_same
  generalize (upd H8 ma (.tup [V.str "next", V.int ((m : Nat) : Int), V.ref ba])) = HA at *
  have GA := G8.same sA
  have bA := hb.same sA
  obtain ⟨rr, g1, g2⟩ := GA.at_
  have hm := G.hm
  refine ⟨_, rfl, _, rfl, g, _, 3, _, rfl, rfl, SqT.of g1, rfl, ba, rr, b, 2, 12, rows, m, rfl, bA, ok, Nat.le_refl _, Nat.le_refl _, g2, hm, m1, m3, r1, r8, fun HB t1 sB ht1 => ?_⟩
  -- the game next with rows, the breaker made
  refine ⟨_, rfl, (by show 3 ≤ sizeLine; decide), fun gc hgc => ⟨_, rfl, ?_⟩⟩
  have sC := sB.trans (same_new hgc (.tup [V.str "next", V.ref g, V.bl true]))
  have ht1C : RatAt (upd HB gc (.tup [V.str "next", V.ref g, V.bl true])) t1 (due b m rows) := same_new hgc _ _ _ ht1
  have hgC : (upd HB gc (.tup [V.str "next", V.ref g, V.bl true])) gc = some (.tup [.str "next", .ref g, .bl true]) := upd_same
  generalize (upd HB gc (.tup [V.str "next", V.ref g, V.bl true])) = HC at *
  refine ⟨true, true, true, gc, g, ma, rows, n, m, b, 2, 12, rfl, ⟨hgC, GA.same sC, ⟨ba, sC _ _ hmA, bA.same sC⟩, fun _ => rfl, ok, Nat.le_refl _, by decide⟩, Nat.le_refl _, fun HD p1 sD hp1 => ?_⟩
  have e1 : (gameT true rows n m true (btT true m b)).E = due b m rows := by rw [gameT_next]; exact E_made true ok rl hm
  rw [e1] at hp1
  refine ⟨_, rfl, p1, t1, _, rfl, hp1, sD _ _ ht1C, _, rfl, iteF ?_⟩
  have sAD := sC.trans sD
  -- the gain
  refine ⟨_, rfl, _, rfl, ba, g, b, 2, 12, rows, n, m, rfl, bA.same sAD, ok, Nat.le_refl _, Nat.le_refl _, GA.same sAD, fun HE t2 sE ht2 => ?_⟩
  have sAE := sAD.trans sE
  refine ⟨_, rfl, _, rfl, g, ba, rows, n, m, b, 2, 12, rfl, GA.same sAE, bA.same sAE, ok, Nat.le_refl _, Nat.le_refl _, fun HF p2 sF hp2 => ?_⟩
  have e2 : (genG rows n m true (plainT b)).E - (genG rows n m false (plainT b)).E = gainL b rows m := by rw [E_gen true ok rl, E_gen false ok rl]; rfl
  rw [e2] at hp2
  refine ⟨_, rfl, p2, t2, _, rfl, hp2, sF _ _ ht2, _, rfl, iteF ?_⟩
  have sAF := sAE.trans sF
  have ht1F : RatAt HF t1 (due b m rows) := sF _ _ (sE _ _ (sD _ _ ht1C))
  have ht2F : RatAt HF t2 (gainL b rows m) := sF _ _ ht2
  -- due - 1/2 is the m-th part of the gain
  refine ⟨_, rfl, (by show 2 ≤ sizeLine; decide), fun h12 hh12 => ?_⟩
  have sG' := same_new hh12 (.tup [V.int 1, V.int 2])
  have hhG : RatAt (upd HF h12 (.tup [V.int 1, V.int 2])) h12 (1 / 2) := half_at upd_same
  generalize (upd HF h12 (.tup [V.int 1, V.int 2])) = HG at *
  refine ⟨t1, h12, _, _, rfl, sG' _ _ ht1F, hhG, due_sm ok (Nat.le_refl _) m1 m3 r1 r8, half_sm, fun HH l1 sH hl1 => ?_⟩
  have ht2H : RatAt HH t2 (gainL b rows m) := sH _ _ (sG' _ _ ht2F)
  obtain ⟨gn, gd⟩ := gain_sm ok (Nat.le_refl _) rd m3
  have bm : m < 2 ^ 500 := Nat.lt_of_le_of_lt m3 (big_up (by decide : 3 < 2 ^ 2) (by decide))
  refine ⟨_, rfl, t2, _, 0, _, rfl, rfl, SqT.of ht2H, rfl, _, rfl, t2, _, 1, _, rfl, rfl, SqT.of ht2H, rfl, _, rfl, _, _, rfl, rfl, sm_mul (nz gd) (nz bm), (gainL b rows m).num, (gainL b rows m).den * m, ?_, Nat.mul_pos (den_pos _) m1, big_up gn (by decide), lf_under gd bm, fun HI f1 sI hf1 => ?_⟩
  · show [V.int _, V.int (((gainL b rows m).den : Int) * ((m : Nat) : Int))] = _
    rw [Int.natCast_mul]
  rw [div_mk _ _ m1, ← due_gain b m1 r1 hm] at hf1
  refine ⟨_, _, dp_rat (sI _ _ hl1), dp_rat hf1, sh_rat _ _, sh_rat _ _, ?_⟩
  rw [eq_rat]
  refine ⟨_, rfl, iteF ?_⟩
  have sAI := ((sAF.trans sG').trans sH).trans sI
  -- with any strings
  refine ⟨_, rfl, _, rfl, m, rfl, m3, fun HJ rs sJ hrs => ⟨ba, rs, b, 2, 12, stringsL m, m, rfl, (bA.same sAI).same sJ, ok, Nat.le_refl _, Nat.le_refl _, hrs, strings_len, m1, m3, s1l, s8l, fun HK t3 sK ht3 => ?_⟩⟩
  rw [due_ideal b m1] at ht3
  have sAK := (sAI.trans sJ).trans sK
  refine ⟨_, rfl, (by show 2 ≤ sizeLine; decide), fun h22 hh22 => ?_⟩
  have sL' := same_new hh22 (.tup [V.int 1, V.int 2])
  have hhL : RatAt (upd HK h22 (.tup [V.int 1, V.int 2])) h22 (1 / 2) := half_at upd_same
  have ht3L : RatAt (upd HK h22 (.tup [V.int 1, V.int 2])) t3 (1 / 2) := sL' _ _ ht3
  generalize (upd HK h22 (.tup [V.int 1, V.int 2])) = HL at *
  refine ⟨_, _, dp_rat ht3L, dp_rat hhL, sh_rat _ _, sh_rat _ _, ?_⟩
  rw [eq_rat]
  refine ⟨_, rfl, iteF ?_⟩
  have sAL := sAK.trans sL'
  refine ⟨_, rfl, (by show 3 ≤ sizeLine; decide), fun gm hgm => ⟨_, rfl, ?_⟩⟩
  have sM := sAL.trans (same_new hgm (.tup [V.str "next", V.ref g, V.bl false]))
  have ht3M : RatAt (upd HL gm (.tup [V.str "next", V.ref g, V.bl false])) t3 (1 / 2) := same_new hgm _ _ _ ht3L
  have hgM : (upd HL gm (.tup [V.str "next", V.ref g, V.bl false])) gm = some (.tup [.str "next", .ref g, .bl false]) := upd_same
  generalize (upd HL gm (.tup [V.str "next", V.ref g, V.bl false])) = HM at *
  refine ⟨true, false, true, gm, g, ma, rows, n, m, b, 2, 12, rfl, ⟨hgM, GA.same sM, ⟨ba, sM _ _ hmA, bA.same sM⟩, fun _ => rfl, ok, Nat.le_refl _, by decide⟩, Nat.le_refl _, fun HN p3 sN hp3 => ?_⟩
  have e3 : (gameT true rows n m false (btT true m b)).E = 1 / 2 := by
    rw [gameT_next]
    exact (E_made false ok rl hm).trans (due_ideal b m1)
  rw [e3] at hp3
  refine ⟨_, rfl, p3, t3, _, rfl, hp3, sN _ _ ht3M, _, rfl, iteF ?_⟩
  have sAN := sM.trans sN
  -- the breaker itself
  refine ⟨_, rfl, (by show 3 ≤ sizeLine; decide), fun go hgo => ⟨_, rfl, ?_⟩⟩
  have sO := sAN.trans (same_new hgo (.tup [V.str "next", V.ref g, V.bl true]))
  have hgO : (upd HN go (.tup [V.str "next", V.ref g, V.bl true])) go = some (.tup [.str "next", .ref g, .bl true]) := upd_same
  generalize (upd HN go (.tup [V.str "next", V.ref g, V.bl true])) = HO at *
  refine ⟨true, true, false, go, g, ba, rows, n, m, b, 2, 12, rfl, ⟨hgO, GA.same sO, bA.same sO, fun _ => rfl, ok, Nat.le_refl _, by decide⟩, Nat.le_refl _, fun HQ p4 sQ hp4 => ?_⟩
  have e4 : (gameT true rows n m true (btT false m b)).E = nextC b m rows := by
    rw [gameT_next]
    exact E_direct true ok rl
  rw [e4] at hp4
  have sAQ := sO.trans sQ
  refine ⟨_, rfl, _, rfl, g, _, 3, _, rfl, rfl, SqT.of (sAQ _ _ g1), rfl, ba, rr, b, 2, 12, rows, m, rfl, bA.same sAQ, ok, Nat.le_refl _, Nat.le_refl _, sAQ _ _ g2, hm, m1, m3, r1, r8, fun HR t4 sR ht4 => ?_⟩
  refine ⟨p4, t4, _, rfl, sR _ _ hp4, ht4, _, rfl, iteF ?_⟩
  have sAR := sAQ.trans sR
  exact ⟨⟨_, _, _, _, _, _, rfl⟩, (k68.trans (.of_same sA)).trans (.of_same sAR), GA.same sAR⟩
end
end NX
namespace NX
open PySem PySem.Spec PyProof.Rows L2
theorem ex_at {K : PySem.W.Frag} (h : exB K = true) (i : Nat) {b : Bool} (hb : (exL K)[i]? = some b) : b = true := List.all_eq_true.mp (show ((exL K).all fun b => b) = true from h) b (List.mem_of_getElem? hb)
theorem ins_of {K : PySem.W.Frag} {x : Str} (cl : Cls K (He.ga K x)) (h : insB K x = true) (hn : PySem.W.specialIn K (.builtin "object.__class__") "__get__" = some (some (.builtin "getset_descriptor.__get__"))) (ht : PySem.W.takesIn K (.builtin "object.__class__") = some true) : InsN K (He.ga K x) (He.ga K "OnetimeWorld") := by
  unfold insB at h
  obtain ⟨h1, h2⟩ := Bool.and_eq_true_iff.mp h
  obtain ⟨h3, h4⟩ := Bool.and_eq_true_iff.mp h2
  exact ⟨cl, He.eqO_ok h1, hn, ht, of_decide_eq_true h3, of_decide_eq_true h4⟩
section
variable {w : World} {K : PySem.W.Frag} {mg : Str → Option Value} {h : Heap}
theorem tx_f_bits (X : K.In h) (G : h.Ns mainGlobals mg) (c : He.SaysT faL fnL tabs w K) (e : exB K = true) : FnAt K mg "bits" s_bits := by
  obtain ⟨fd, F⟩ := c.d.def_ 0 (d := d_bits) rfl
  exact ⟨_, fd, (He.glo_ok X G (c.d.fact 0 (f := .glo "bits") rfl)), F⟩
theorem tx_f_number_of (X : K.In h) (G : h.Ns mainGlobals mg) (c : He.SaysT faL fnL tabs w K) (e : exB K = true) : FnAt K mg "number_of" s_number_of := by
  obtain ⟨fd, F⟩ := c.d.def_ 1 (d := d_number_of) rfl
  exact ⟨_, fd, (He.glo_ok X G (c.d.fact 1 (f := .glo "number_of") rfl)), F⟩
theorem tx_f_is_number (X : K.In h) (G : h.Ns mainGlobals mg) (c : He.SaysT faL fnL tabs w K) (e : exB K = true) : FnAt K mg "is_number" s_is_number := by
  obtain ⟨fd, F⟩ := c.d.def_ 2 (d := d_is_number) rfl
  exact ⟨_, fd, (He.glo_ok X G (c.d.fact 2 (f := .glo "is_number") rfl)), F⟩
theorem tx_f_is_bits (X : K.In h) (G : h.Ns mainGlobals mg) (c : He.SaysT faL fnL tabs w K) (e : exB K = true) : FnAt K mg "is_bits" s_is_bits := by
  obtain ⟨fd, F⟩ := c.d.def_ 3 (d := d_is_bits) rfl
  exact ⟨_, fd, (He.glo_ok X G (c.d.fact 3 (f := .glo "is_bits") rfl)), F⟩
theorem tx_f_is_row (X : K.In h) (G : h.Ns mainGlobals mg) (c : He.SaysT faL fnL tabs w K) (e : exB K = true) : FnAt K mg "is_row" s_is_row := by
  obtain ⟨fd, F⟩ := c.d.def_ 4 (d := d_is_row) rfl
  exact ⟨_, fd, (He.glo_ok X G (c.d.fact 4 (f := .glo "is_row") rfl)), F⟩
theorem tx_f_is_generator (X : K.In h) (G : h.Ns mainGlobals mg) (c : He.SaysT faL fnL tabs w K) (e : exB K = true) : FnAt K mg "is_generator" s_is_generator := by
  obtain ⟨fd, F⟩ := c.d.def_ 5 (d := d_is_generator) rfl
  exact ⟨_, fd, (He.glo_ok X G (c.d.fact 5 (f := .glo "is_generator") rfl)), F⟩
theorem tx_f_check_block (X : K.In h) (G : h.Ns mainGlobals mg) (c : He.SaysT faL fnL tabs w K) (e : exB K = true) : FnAt K mg "check_block" s_check_block := by
  obtain ⟨fd, F⟩ := c.d.def_ 6 (d := d_check_block) rfl
  exact ⟨_, fd, (He.glo_ok X G (c.d.fact 6 (f := .glo "check_block") rfl)), F⟩
theorem tx_f_row_at (X : K.In h) (G : h.Ns mainGlobals mg) (c : He.SaysT faL fnL tabs w K) (e : exB K = true) : FnAt K mg "row_at" s_row_at := by
  obtain ⟨fd, F⟩ := c.d.def_ 7 (d := d_row_at) rfl
  exact ⟨_, fd, (He.glo_ok X G (c.d.fact 7 (f := .glo "row_at") rfl)), F⟩
theorem tx_f_are_parts (X : K.In h) (G : h.Ns mainGlobals mg) (c : He.SaysT faL fnL tabs w K) (e : exB K = true) : FnAt K mg "are_parts" s_are_parts := by
  obtain ⟨fd, F⟩ := c.d.def_ 8 (d := d_are_parts) rfl
  exact ⟨_, fd, (He.glo_ok X G (c.d.fact 8 (f := .glo "are_parts") rfl)), F⟩
theorem tx_f_inner_plain (X : K.In h) (G : h.Ns mainGlobals mg) (c : He.SaysT faL fnL tabs w K) (e : exB K = true) : FnAt K mg "inner_plain" s_inner_plain := by
  obtain ⟨fd, F⟩ := c.d.def_ 9 (d := d_inner_plain) rfl
  exact ⟨_, fd, (He.glo_ok X G (c.d.fact 9 (f := .glo "inner_plain") rfl)), F⟩
theorem tx_f_check_plain (X : K.In h) (G : h.Ns mainGlobals mg) (c : He.SaysT faL fnL tabs w K) (e : exB K = true) : FnAt K mg "check_plain" s_check_plain := by
  obtain ⟨fd, F⟩ := c.d.def_ 10 (d := d_check_plain) rfl
  exact ⟨_, fd, (He.glo_ok X G (c.d.fact 10 (f := .glo "check_plain") rfl)), F⟩
theorem tx_f_is_length (X : K.In h) (G : h.Ns mainGlobals mg) (c : He.SaysT faL fnL tabs w K) (e : exB K = true) : FnAt K mg "is_length" s_is_length := by
  obtain ⟨fd, F⟩ := c.d.def_ 11 (d := d_is_length) rfl
  exact ⟨_, fd, (He.glo_ok X G (c.d.fact 11 (f := .glo "is_length") rfl)), F⟩
theorem tx_f_fits_word (X : K.In h) (G : h.Ns mainGlobals mg) (c : He.SaysT faL fnL tabs w K) (e : exB K = true) : FnAt K mg "fits_word" s_fits_word := by
  obtain ⟨fd, F⟩ := c.d.def_ 12 (d := d_fits_word) rfl
  exact ⟨_, fd, (He.glo_ok X G (c.d.fact 12 (f := .glo "fits_word") rfl)), F⟩
theorem tx_f_has_plain_word (X : K.In h) (G : h.Ns mainGlobals mg) (c : He.SaysT faL fnL tabs w K) (e : exB K = true) : FnAt K mg "has_plain_word" s_has_plain_word := by
  obtain ⟨fd, F⟩ := c.d.def_ 13 (d := d_has_plain_word) rfl
  exact ⟨_, fd, (He.glo_ok X G (c.d.fact 13 (f := .glo "has_plain_word") rfl)), F⟩
theorem tx_f_check_breaker (X : K.In h) (G : h.Ns mainGlobals mg) (c : He.SaysT faL fnL tabs w K) (e : exB K = true) : FnAt K mg "check_breaker" s_check_breaker := by
  obtain ⟨fd, F⟩ := c.d.def_ 14 (d := d_check_breaker) rfl
  exact ⟨_, fd, (He.glo_ok X G (c.d.fact 14 (f := .glo "check_breaker") rfl)), F⟩
theorem tx_f_made_string (X : K.In h) (G : h.Ns mainGlobals mg) (c : He.SaysT faL fnL tabs w K) (e : exB K = true) : FnAt K mg "made_string" s_made_string := by
  obtain ⟨fd, F⟩ := c.d.def_ 15 (d := d_made_string) rfl
  exact ⟨_, fd, (He.glo_ok X G (c.d.fact 15 (f := .glo "made_string") rfl)), F⟩
theorem tx_f_run_plain (X : K.In h) (G : h.Ns mainGlobals mg) (c : He.SaysT faL fnL tabs w K) (e : exB K = true) : FnAt K mg "run_plain" s_run_plain := by
  obtain ⟨fd, F⟩ := c.d.def_ 16 (d := d_run_plain) rfl
  exact ⟨_, fd, (He.glo_ok X G (c.d.fact 16 (f := .glo "run_plain") rfl)), F⟩
theorem tx_f_prefix_challenge (X : K.In h) (G : h.Ns mainGlobals mg) (c : He.SaysT faL fnL tabs w K) (e : exB K = true) : FnAt K mg "prefix_challenge" s_prefix_challenge := by
  obtain ⟨fd, F⟩ := c.d.def_ 17 (d := d_prefix_challenge) rfl
  exact ⟨_, fd, (He.glo_ok X G (c.d.fact 17 (f := .glo "prefix_challenge") rfl)), F⟩
theorem tx_f_run_next (X : K.In h) (G : h.Ns mainGlobals mg) (c : He.SaysT faL fnL tabs w K) (e : exB K = true) : FnAt K mg "run_next" s_run_next := by
  obtain ⟨fd, F⟩ := c.d.def_ 18 (d := d_run_next) rfl
  exact ⟨_, fd, (He.glo_ok X G (c.d.fact 18 (f := .glo "run_next") rfl)), F⟩
theorem tx_f_run_breaker (X : K.In h) (G : h.Ns mainGlobals mg) (c : He.SaysT faL fnL tabs w K) (e : exB K = true) : FnAt K mg "run_breaker" s_run_breaker := by
  obtain ⟨fd, F⟩ := c.d.def_ 19 (d := d_run_breaker) rfl
  exact ⟨_, fd, (He.glo_ok X G (c.d.fact 19 (f := .glo "run_breaker") rfl)), F⟩
theorem tx_f_is_truth (X : K.In h) (G : h.Ns mainGlobals mg) (c : He.SaysT faL fnL tabs w K) (e : exB K = true) : FnAt K mg "is_truth" s_is_truth := by
  obtain ⟨fd, F⟩ := c.d.def_ 20 (d := d_is_truth) rfl
  exact ⟨_, fd, (He.glo_ok X G (c.d.fact 20 (f := .glo "is_truth") rfl)), F⟩
theorem tx_f_is_right (X : K.In h) (G : h.Ns mainGlobals mg) (c : He.SaysT faL fnL tabs w K) (e : exB K = true) : FnAt K mg "is_right" s_is_right := by
  obtain ⟨fd, F⟩ := c.d.def_ 21 (d := d_is_right) rfl
  exact ⟨_, fd, (He.glo_ok X G (c.d.fact 21 (f := .glo "is_right") rfl)), F⟩
theorem tx_f_check_game (X : K.In h) (G : h.Ns mainGlobals mg) (c : He.SaysT faL fnL tabs w K) (e : exB K = true) : FnAt K mg "check_game" s_check_game := by
  obtain ⟨fd, F⟩ := c.d.def_ 22 (d := d_check_game) rfl
  exact ⟨_, fd, (He.glo_ok X G (c.d.fact 22 (f := .glo "check_game") rfl)), F⟩
theorem tx_f_cover (X : K.In h) (G : h.Ns mainGlobals mg) (c : He.SaysT faL fnL tabs w K) (e : exB K = true) : FnAt K mg "cover" s_cover := by
  obtain ⟨fd, F⟩ := c.d.def_ 23 (d := d_cover) rfl
  exact ⟨_, fd, (He.glo_ok X G (c.d.fact 23 (f := .glo "cover") rfl)), F⟩
theorem tx_f_played (X : K.In h) (G : h.Ns mainGlobals mg) (c : He.SaysT faL fnL tabs w K) (e : exB K = true) : FnAt K mg "played" s_played := by
  obtain ⟨fd, F⟩ := c.d.def_ 24 (d := d_played) rfl
  exact ⟨_, fd, (He.glo_ok X G (c.d.fact 24 (f := .glo "played") rfl)), F⟩
theorem tx_f_fraction (X : K.In h) (G : h.Ns mainGlobals mg) (c : He.SaysT faL fnL tabs w K) (e : exB K = true) : FnAt K mg "fraction" s_fraction := by
  obtain ⟨fd, F⟩ := c.d.def_ 25 (d := d_fraction) rfl
  exact ⟨_, fd, (He.glo_ok X G (c.d.fact 25 (f := .glo "fraction") rfl)), F⟩
theorem tx_f_add (X : K.In h) (G : h.Ns mainGlobals mg) (c : He.SaysT faL fnL tabs w K) (e : exB K = true) : FnAt K mg "add" s_add := by
  obtain ⟨fd, F⟩ := c.d.def_ 26 (d := d_add) rfl
  exact ⟨_, fd, (He.glo_ok X G (c.d.fact 26 (f := .glo "add") rfl)), F⟩
theorem tx_f_less (X : K.In h) (G : h.Ns mainGlobals mg) (c : He.SaysT faL fnL tabs w K) (e : exB K = true) : FnAt K mg "less" s_less := by
  obtain ⟨fd, F⟩ := c.d.def_ 27 (d := d_less) rfl
  exact ⟨_, fd, (He.glo_ok X G (c.d.fact 27 (f := .glo "less") rfl)), F⟩
theorem tx_f_next_choices (X : K.In h) (G : h.Ns mainGlobals mg) (c : He.SaysT faL fnL tabs w K) (e : exB K = true) : FnAt K mg "next_choices" s_next_choices := by
  obtain ⟨fd, F⟩ := c.d.def_ 28 (d := d_next_choices) rfl
  exact ⟨_, fd, (He.glo_ok X G (c.d.fact 28 (f := .glo "next_choices") rfl)), F⟩
theorem tx_f_ways_of (X : K.In h) (G : h.Ns mainGlobals mg) (c : He.SaysT faL fnL tabs w K) (e : exB K = true) : FnAt K mg "ways_of" s_ways_of := by
  obtain ⟨fd, F⟩ := c.d.def_ 29 (d := d_ways_of) rfl
  exact ⟨_, fd, (He.glo_ok X G (c.d.fact 29 (f := .glo "ways_of") rfl)), F⟩
theorem tx_f_chance (X : K.In h) (G : h.Ns mainGlobals mg) (c : He.SaysT faL fnL tabs w K) (e : exB K = true) : KwAt K mg "chance" s_chance := by
  obtain ⟨fd, F⟩ := c.d.def_ 30 (d := d_chance) rfl
  exact ⟨_, fd, (He.glo_ok X G (c.d.fact 30 (f := .glo "chance") rfl)), F⟩
theorem tx_f_advantage (X : K.In h) (G : h.Ns mainGlobals mg) (c : He.SaysT faL fnL tabs w K) (e : exB K = true) : KwAt K mg "advantage" s_advantage := by
  obtain ⟨fd, F⟩ := c.d.def_ 31 (d := d_advantage) rfl
  exact ⟨_, fd, (He.glo_ok X G (c.d.fact 31 (f := .glo "advantage") rfl)), F⟩
theorem tx_f__law_mixed (X : K.In h) (G : h.Ns mainGlobals mg) (c : He.SaysT faL fnL tabs w K) (e : exB K = true) : FnAt K mg "_law_mixed" s__law_mixed := by
  obtain ⟨fd, F⟩ := c.d.def_ 32 (d := d__law_mixed) rfl
  exact ⟨_, fd, (He.glo_ok X G (c.d.fact 32 (f := .glo "_law_mixed") rfl)), F⟩
theorem tx_f__law_tape (X : K.In h) (G : h.Ns mainGlobals mg) (c : He.SaysT faL fnL tabs w K) (e : exB K = true) : FnAt K mg "_law_tape" s__law_tape := by
  obtain ⟨fd, F⟩ := c.d.def_ 33 (d := d__law_tape) rfl
  exact ⟨_, fd, (He.glo_ok X G (c.d.fact 33 (f := .glo "_law_tape") rfl)), F⟩
theorem tx_f__law_draw (X : K.In h) (G : h.Ns mainGlobals mg) (c : He.SaysT faL fnL tabs w K) (e : exB K = true) : FnAt K mg "_law_draw" s__law_draw := by
  obtain ⟨fd, F⟩ := c.d.def_ 34 (d := d__law_draw) rfl
  exact ⟨_, fd, (He.glo_ok X G (c.d.fact 34 (f := .glo "_law_draw") rfl)), F⟩
theorem tx_f__law_pick (X : K.In h) (G : h.Ns mainGlobals mg) (c : He.SaysT faL fnL tabs w K) (e : exB K = true) : FnAt K mg "_law_pick" s__law_pick := by
  obtain ⟨fd, F⟩ := c.d.def_ 35 (d := d__law_pick) rfl
  exact ⟨_, fd, (He.glo_ok X G (c.d.fact 35 (f := .glo "_law_pick") rfl)), F⟩
theorem tx_f__law_bits (X : K.In h) (G : h.Ns mainGlobals mg) (c : He.SaysT faL fnL tabs w K) (e : exB K = true) : FnAt K mg "_law_bits" s__law_bits := by
  obtain ⟨fd, F⟩ := c.d.def_ 36 (d := d__law_bits) rfl
  exact ⟨_, fd, (He.glo_ok X G (c.d.fact 36 (f := .glo "_law_bits") rfl)), F⟩
theorem tx_f__law_string (X : K.In h) (G : h.Ns mainGlobals mg) (c : He.SaysT faL fnL tabs w K) (e : exB K = true) : FnAt K mg "_law_string" s__law_string := by
  obtain ⟨fd, F⟩ := c.d.def_ 37 (d := d__law_string) rfl
  exact ⟨_, fd, (He.glo_ok X G (c.d.fact 37 (f := .glo "_law_string") rfl)), F⟩
theorem tx_f__law_fraction (X : K.In h) (G : h.Ns mainGlobals mg) (c : He.SaysT faL fnL tabs w K) (e : exB K = true) : FnAt K mg "_law_fraction" s__law_fraction := by
  obtain ⟨fd, F⟩ := c.d.def_ 38 (d := d__law_fraction) rfl
  exact ⟨_, fd, (He.glo_ok X G (c.d.fact 38 (f := .glo "_law_fraction") rfl)), F⟩
theorem tx_f__law_sum (X : K.In h) (G : h.Ns mainGlobals mg) (c : He.SaysT faL fnL tabs w K) (e : exB K = true) : FnAt K mg "_law_sum" s__law_sum := by
  obtain ⟨fd, F⟩ := c.d.def_ 39 (d := d__law_sum) rfl
  exact ⟨_, fd, (He.glo_ok X G (c.d.fact 39 (f := .glo "_law_sum") rfl)), F⟩
theorem tx_f__law_less (X : K.In h) (G : h.Ns mainGlobals mg) (c : He.SaysT faL fnL tabs w K) (e : exB K = true) : FnAt K mg "_law_less" s__law_less := by
  obtain ⟨fd, F⟩ := c.d.def_ 40 (d := d__law_less) rfl
  exact ⟨_, fd, (He.glo_ok X G (c.d.fact 40 (f := .glo "_law_less") rfl)), F⟩
theorem tx_f__law_note (X : K.In h) (G : h.Ns mainGlobals mg) (c : He.SaysT faL fnL tabs w K) (e : exB K = true) : FnAt K mg "_law_note" s__law_note := by
  obtain ⟨fd, F⟩ := c.d.def_ 41 (d := d__law_note) rfl
  exact ⟨_, fd, (He.glo_ok X G (c.d.fact 41 (f := .glo "_law_note") rfl)), F⟩
theorem tx_f__law_parts (X : K.In h) (G : h.Ns mainGlobals mg) (c : He.SaysT faL fnL tabs w K) (e : exB K = true) : FnAt K mg "_law_parts" s__law_parts := by
  obtain ⟨fd, F⟩ := c.d.def_ 42 (d := d__law_parts) rfl
  exact ⟨_, fd, (He.glo_ok X G (c.d.fact 42 (f := .glo "_law_parts") rfl)), F⟩
theorem tx_f__law_say (X : K.In h) (G : h.Ns mainGlobals mg) (c : He.SaysT faL fnL tabs w K) (e : exB K = true) : FnAt K mg "_law_say" s__law_say := by
  obtain ⟨fd, F⟩ := c.d.def_ 43 (d := d__law_say) rfl
  exact ⟨_, fd, (He.glo_ok X G (c.d.fact 43 (f := .glo "_law_say") rfl)), F⟩
theorem tx_f__law_breaker (X : K.In h) (G : h.Ns mainGlobals mg) (c : He.SaysT faL fnL tabs w K) (e : exB K = true) : FnAt K mg "_law_breaker" s__law_breaker := by
  obtain ⟨fd, F⟩ := c.d.def_ 44 (d := d__law_breaker) rfl
  exact ⟨_, fd, (He.glo_ok X G (c.d.fact 44 (f := .glo "_law_breaker") rfl)), F⟩
theorem tx_f__law_made (X : K.In h) (G : h.Ns mainGlobals mg) (c : He.SaysT faL fnL tabs w K) (e : exB K = true) : FnAt K mg "_law_made" s__law_made := by
  obtain ⟨fd, F⟩ := c.d.def_ 45 (d := d__law_made) rfl
  exact ⟨_, fd, (He.glo_ok X G (c.d.fact 45 (f := .glo "_law_made") rfl)), F⟩
theorem tx_f__law_silent (X : K.In h) (G : h.Ns mainGlobals mg) (c : He.SaysT faL fnL tabs w K) (e : exB K = true) : FnAt K mg "_law_silent" s__law_silent := by
  obtain ⟨fd, F⟩ := c.d.def_ 46 (d := d__law_silent) rfl
  exact ⟨_, fd, (He.glo_ok X G (c.d.fact 46 (f := .glo "_law_silent") rfl)), F⟩
theorem tx_f__law_silent_chance (X : K.In h) (G : h.Ns mainGlobals mg) (c : He.SaysT faL fnL tabs w K) (e : exB K = true) : FnAt K mg "_law_silent_chance" s__law_silent_chance := by
  obtain ⟨fd, F⟩ := c.d.def_ 47 (d := d__law_silent_chance) rfl
  exact ⟨_, fd, (He.glo_ok X G (c.d.fact 47 (f := .glo "_law_silent_chance") rfl)), F⟩
theorem tx_f__law_strings (X : K.In h) (G : h.Ns mainGlobals mg) (c : He.SaysT faL fnL tabs w K) (e : exB K = true) : FnAt K mg "_law_strings" s__law_strings := by
  obtain ⟨fd, F⟩ := c.d.def_ 48 (d := d__law_strings) rfl
  exact ⟨_, fd, (He.glo_ok X G (c.d.fact 48 (f := .glo "_law_strings") rfl)), F⟩
theorem tx_f__law_generator (X : K.In h) (G : h.Ns mainGlobals mg) (c : He.SaysT faL fnL tabs w K) (e : exB K = true) : FnAt K mg "_law_generator" s__law_generator := by
  obtain ⟨fd, F⟩ := c.d.def_ 49 (d := d__law_generator) rfl
  exact ⟨_, fd, (He.glo_ok X G (c.d.fact 49 (f := .glo "_law_generator") rfl)), F⟩
theorem tx_f__law_generator_gain (X : K.In h) (G : h.Ns mainGlobals mg) (c : He.SaysT faL fnL tabs w K) (e : exB K = true) : FnAt K mg "_law_generator_gain" s__law_generator_gain := by
  obtain ⟨fd, F⟩ := c.d.def_ 50 (d := d__law_generator_gain) rfl
  exact ⟨_, fd, (He.glo_ok X G (c.d.fact 50 (f := .glo "_law_generator_gain") rfl)), F⟩
theorem tx_f__law_marked (X : K.In h) (G : h.Ns mainGlobals mg) (c : He.SaysT faL fnL tabs w K) (e : exB K = true) : FnAt K mg "_law_marked" s__law_marked := by
  obtain ⟨fd, F⟩ := c.d.def_ 51 (d := d__law_marked) rfl
  exact ⟨_, fd, (He.glo_ok X G (c.d.fact 51 (f := .glo "_law_marked") rfl)), F⟩
theorem tx_f__law_ones (X : K.In h) (G : h.Ns mainGlobals mg) (c : He.SaysT faL fnL tabs w K) (e : exB K = true) : FnAt K mg "_law_ones" s__law_ones := by
  obtain ⟨fd, F⟩ := c.d.def_ 52 (d := d__law_ones) rfl
  exact ⟨_, fd, (He.glo_ok X G (c.d.fact 52 (f := .glo "_law_ones") rfl)), F⟩
theorem tx_f__law_mean (X : K.In h) (G : h.Ns mainGlobals mg) (c : He.SaysT faL fnL tabs w K) (e : exB K = true) : FnAt K mg "_law_mean" s__law_mean := by
  obtain ⟨fd, F⟩ := c.d.def_ 53 (d := d__law_mean) rfl
  exact ⟨_, fd, (He.glo_ok X G (c.d.fact 53 (f := .glo "_law_mean") rfl)), F⟩
theorem tx_f__law_other (X : K.In h) (G : h.Ns mainGlobals mg) (c : He.SaysT faL fnL tabs w K) (e : exB K = true) : FnAt K mg "_law_other" s__law_other := by
  obtain ⟨fd, F⟩ := c.d.def_ 54 (d := d__law_other) rfl
  exact ⟨_, fd, (He.glo_ok X G (c.d.fact 54 (f := .glo "_law_other") rfl)), F⟩
theorem tx_f__law_next_chance (X : K.In h) (G : h.Ns mainGlobals mg) (c : He.SaysT faL fnL tabs w K) (e : exB K = true) : FnAt K mg "_law_next_chance" s__law_next_chance := by
  obtain ⟨fd, F⟩ := c.d.def_ 55 (d := d__law_next_chance) rfl
  exact ⟨_, fd, (He.glo_ok X G (c.d.fact 55 (f := .glo "_law_next_chance") rfl)), F⟩
theorem tx_f__law_is (X : K.In h) (G : h.Ns mainGlobals mg) (c : He.SaysT faL fnL tabs w K) (e : exB K = true) : FnAt K mg "_law_is" s__law_is := by
  obtain ⟨fd, F⟩ := c.d.def_ 56 (d := d__law_is) rfl
  exact ⟨_, fd, (He.glo_ok X G (c.d.fact 56 (f := .glo "_law_is") rfl)), F⟩
theorem tx_f__law_made_chance (X : K.In h) (G : h.Ns mainGlobals mg) (c : He.SaysT faL fnL tabs w K) (e : exB K = true) : FnAt K mg "_law_made_chance" s__law_made_chance := by
  obtain ⟨fd, F⟩ := c.d.def_ 57 (d := d__law_made_chance) rfl
  exact ⟨_, fd, (He.glo_ok X G (c.d.fact 57 (f := .glo "_law_made_chance") rfl)), F⟩
theorem tx_cl_Silent (X : K.In h) (G : h.Ns mainGlobals mg) (c : He.SaysT faL fnL tabs w K) (e : exB K = true) : Cls K (He.ga K "Silent") := He.cls_ok (c.d.fact 88 (f := .cls "Silent") rfl)
theorem tx_g_Silent (X : K.In h) (G : h.Ns mainGlobals mg) (c : He.SaysT faL fnL tabs w K) (e : exB K = true) : mg "Silent" = some (.ref (He.ga K "Silent")) := (He.glo_ok X G (c.d.fact 59 (f := .glo "Silent") rfl))
theorem tx_m_Silent_answer (X : K.In h) (G : h.Ns mainGlobals mg) (c : He.SaysT faL fnL tabs w K) (e : exB K = true) : MtAt K (He.ga K "Silent") "answer" "Silent.answer" s_Silent_answer := by
  obtain ⟨fd, F⟩ := c.d.def_ 59 (d := d_Silent_answer) rfl
  exact ⟨_, fd, He.cls_ok (c.d.fact 88 (f := .cls "Silent") rfl), He.meth_ok (c.d.fact 113 (f := .meth "Silent" "answer") rfl), F⟩
theorem tx_cl_Stopped (X : K.In h) (G : h.Ns mainGlobals mg) (c : He.SaysT faL fnL tabs w K) (e : exB K = true) : Cls K (He.ga K "Stopped") := He.cls_ok (c.d.fact 89 (f := .cls "Stopped") rfl)
theorem tx_g_Stopped (X : K.In h) (G : h.Ns mainGlobals mg) (c : He.SaysT faL fnL tabs w K) (e : exB K = true) : mg "Stopped" = some (.ref (He.ga K "Stopped")) := (He.glo_ok X G (c.d.fact 60 (f := .glo "Stopped") rfl))
theorem tx_i_Stopped (X : K.In h) (G : h.Ns mainGlobals mg) (c : He.SaysT faL fnL tabs w K) (e : exB K = true) : InAt K mg "Stopped" (He.ga K "Stopped") "Stopped.__init__" s_Stopped_init := by
  obtain ⟨fd, F⟩ := c.d.def_ 60 (d := d_Stopped_init) rfl
  exact ⟨_, fd, He.mkr_ok (c.d.fact 122 (f := .mkr "Stopped") rfl), (He.glo_ok X G (c.d.fact 60 (f := .glo "Stopped") rfl)), F⟩
theorem tx_m_Stopped_now (X : K.In h) (G : h.Ns mainGlobals mg) (c : He.SaysT faL fnL tabs w K) (e : exB K = true) : MtAt K (He.ga K "Stopped") "now" "Stopped.now" s_Stopped_now := by
  obtain ⟨fd, F⟩ := c.d.def_ 61 (d := d_Stopped_now) rfl
  exact ⟨_, fd, He.cls_ok (c.d.fact 89 (f := .cls "Stopped") rfl), He.meth_ok (c.d.fact 114 (f := .meth "Stopped" "now") rfl), F⟩
theorem tx_n_Stopped_world (X : K.In h) (G : h.Ns mainGlobals mg) (c : He.SaysT faL fnL tabs w K) (e : exB K = true) : NoAttr K (He.ga K "Stopped") "world" := He.noat_ok (c.d.fact 95 (f := .noat "Stopped" "world") rfl)
theorem tx_cl_Notes (X : K.In h) (G : h.Ns mainGlobals mg) (c : He.SaysT faL fnL tabs w K) (e : exB K = true) : Cls K (He.ga K "Notes") := He.cls_ok (c.d.fact 90 (f := .cls "Notes") rfl)
theorem tx_g_Notes (X : K.In h) (G : h.Ns mainGlobals mg) (c : He.SaysT faL fnL tabs w K) (e : exB K = true) : mg "Notes" = some (.ref (He.ga K "Notes")) := (He.glo_ok X G (c.d.fact 61 (f := .glo "Notes") rfl))
theorem tx_i_Notes (X : K.In h) (G : h.Ns mainGlobals mg) (c : He.SaysT faL fnL tabs w K) (e : exB K = true) : InAt K mg "Notes" (He.ga K "Notes") "Notes.__init__" s_Notes_init := by
  obtain ⟨fd, F⟩ := c.d.def_ 62 (d := d_Notes_init) rfl
  exact ⟨_, fd, He.mkr_ok (c.d.fact 123 (f := .mkr "Notes") rfl), (He.glo_ok X G (c.d.fact 61 (f := .glo "Notes") rfl)), F⟩
theorem tx_m_Notes_answer (X : K.In h) (G : h.Ns mainGlobals mg) (c : He.SaysT faL fnL tabs w K) (e : exB K = true) : MtAt K (He.ga K "Notes") "answer" "Notes.answer" s_Notes_answer := by
  obtain ⟨fd, F⟩ := c.d.def_ 63 (d := d_Notes_answer) rfl
  exact ⟨_, fd, He.cls_ok (c.d.fact 90 (f := .cls "Notes") rfl), He.meth_ok (c.d.fact 115 (f := .meth "Notes" "answer") rfl), F⟩
theorem tx_n_Notes_world (X : K.In h) (G : h.Ns mainGlobals mg) (c : He.SaysT faL fnL tabs w K) (e : exB K = true) : NoAttr K (He.ga K "Notes") "world" := He.noat_ok (c.d.fact 96 (f := .noat "Notes" "world") rfl)
theorem tx_n_Notes_asked (X : K.In h) (G : h.Ns mainGlobals mg) (c : He.SaysT faL fnL tabs w K) (e : exB K = true) : NoAttr K (He.ga K "Notes") "asked" := He.noat_ok (c.d.fact 97 (f := .noat "Notes" "asked") rfl)
theorem tx_cl_Play (X : K.In h) (G : h.Ns mainGlobals mg) (c : He.SaysT faL fnL tabs w K) (e : exB K = true) : Cls K (He.ga K "Play") := He.cls_ok (c.d.fact 91 (f := .cls "Play") rfl)
theorem tx_g_Play (X : K.In h) (G : h.Ns mainGlobals mg) (c : He.SaysT faL fnL tabs w K) (e : exB K = true) : mg "Play" = some (.ref (He.ga K "Play")) := (He.glo_ok X G (c.d.fact 62 (f := .glo "Play") rfl))
theorem tx_i_Play (X : K.In h) (G : h.Ns mainGlobals mg) (c : He.SaysT faL fnL tabs w K) (e : exB K = true) : InAt K mg "Play" (He.ga K "Play") "Play.__init__" s_Play_init := by
  obtain ⟨fd, F⟩ := c.d.def_ 64 (d := d_Play_init) rfl
  exact ⟨_, fd, He.mkr_ok (c.d.fact 124 (f := .mkr "Play") rfl), (He.glo_ok X G (c.d.fact 62 (f := .glo "Play") rfl)), F⟩
theorem tx_n_Play_outcome (X : K.In h) (G : h.Ns mainGlobals mg) (c : He.SaysT faL fnL tabs w K) (e : exB K = true) : NoAttr K (He.ga K "Play") "outcome" := He.noat_ok (c.d.fact 98 (f := .noat "Play" "outcome") rfl)
theorem tx_n_Play_said (X : K.In h) (G : h.Ns mainGlobals mg) (c : He.SaysT faL fnL tabs w K) (e : exB K = true) : NoAttr K (He.ga K "Play") "said" := He.noat_ok (c.d.fact 99 (f := .noat "Play" "said") rfl)
theorem tx_n_Play_draws (X : K.In h) (G : h.Ns mainGlobals mg) (c : He.SaysT faL fnL tabs w K) (e : exB K = true) : NoAttr K (He.ga K "Play") "draws" := He.noat_ok (c.d.fact 100 (f := .noat "Play" "draws") rfl)
theorem tx_n_Play_asked (X : K.In h) (G : h.Ns mainGlobals mg) (c : He.SaysT faL fnL tabs w K) (e : exB K = true) : NoAttr K (He.ga K "Play") "asked" := He.noat_ok (c.d.fact 101 (f := .noat "Play" "asked") rfl)
theorem tx_cl_Table (X : K.In h) (G : h.Ns mainGlobals mg) (c : He.SaysT faL fnL tabs w K) (e : exB K = true) : Cls K (He.ga K "Table") := He.cls_ok (c.d.fact 92 (f := .cls "Table") rfl)
theorem tx_g_Table (X : K.In h) (G : h.Ns mainGlobals mg) (c : He.SaysT faL fnL tabs w K) (e : exB K = true) : mg "Table" = some (.ref (He.ga K "Table")) := (He.glo_ok X G (c.d.fact 63 (f := .glo "Table") rfl))
theorem tx_i_Table (X : K.In h) (G : h.Ns mainGlobals mg) (c : He.SaysT faL fnL tabs w K) (e : exB K = true) : InAt K mg "Table" (He.ga K "Table") "Table.__init__" s_Table_init := by
  obtain ⟨fd, F⟩ := c.d.def_ 65 (d := d_Table_init) rfl
  exact ⟨_, fd, He.mkr_ok (c.d.fact 125 (f := .mkr "Table") rfl), (He.glo_ok X G (c.d.fact 63 (f := .glo "Table") rfl)), F⟩
theorem tx_m_Table_begin_challenge (X : K.In h) (G : h.Ns mainGlobals mg) (c : He.SaysT faL fnL tabs w K) (e : exB K = true) : MtAt K (He.ga K "Table") "begin_challenge" "Table.begin_challenge" s_Table_begin_challenge := by
  obtain ⟨fd, F⟩ := c.d.def_ 66 (d := d_Table_begin_challenge) rfl
  exact ⟨_, fd, He.cls_ok (c.d.fact 92 (f := .cls "Table") rfl), He.meth_ok (c.d.fact 116 (f := .meth "Table" "begin_challenge") rfl), F⟩
theorem tx_m_Table_has_won (X : K.In h) (G : h.Ns mainGlobals mg) (c : He.SaysT faL fnL tabs w K) (e : exB K = true) : MtAt K (He.ga K "Table") "has_won" "Table.has_won" s_Table_has_won := by
  obtain ⟨fd, F⟩ := c.d.def_ 67 (d := d_Table_has_won) rfl
  exact ⟨_, fd, He.cls_ok (c.d.fact 92 (f := .cls "Table") rfl), He.meth_ok (c.d.fact 117 (f := .meth "Table" "has_won") rfl), F⟩
theorem tx_n_Table_game (X : K.In h) (G : h.Ns mainGlobals mg) (c : He.SaysT faL fnL tabs w K) (e : exB K = true) : NoAttr K (He.ga K "Table") "game" := He.noat_ok (c.d.fact 102 (f := .noat "Table" "game") rfl)
theorem tx_n_Table_tape (X : K.In h) (G : h.Ns mainGlobals mg) (c : He.SaysT faL fnL tabs w K) (e : exB K = true) : NoAttr K (He.ga K "Table") "tape" := He.noat_ok (c.d.fact 103 (f := .noat "Table" "tape") rfl)
theorem tx_n_Table_kind (X : K.In h) (G : h.Ns mainGlobals mg) (c : He.SaysT faL fnL tabs w K) (e : exB K = true) : NoAttr K (He.ga K "Table") "kind" := He.noat_ok (c.d.fact 104 (f := .noat "Table" "kind") rfl)
theorem tx_n_Table_challenge (X : K.In h) (G : h.Ns mainGlobals mg) (c : He.SaysT faL fnL tabs w K) (e : exB K = true) : NoAttr K (He.ga K "Table") "challenge" := He.noat_ok (c.d.fact 105 (f := .noat "Table" "challenge") rfl)
theorem tx_n_Table_world (X : K.In h) (G : h.Ns mainGlobals mg) (c : He.SaysT faL fnL tabs w K) (e : exB K = true) : NoAttr K (He.ga K "Table") "world" := He.noat_ok (c.d.fact 106 (f := .noat "Table" "world") rfl)
theorem tx_n_Table_secret (X : K.In h) (G : h.Ns mainGlobals mg) (c : He.SaysT faL fnL tabs w K) (e : exB K = true) : NoAttr K (He.ga K "Table") "secret" := He.noat_ok (c.d.fact 107 (f := .noat "Table" "secret") rfl)
theorem tx_cl_Tape (X : K.In h) (G : h.Ns mainGlobals mg) (c : He.SaysT faL fnL tabs w K) (e : exB K = true) : Cls K (He.ga K "Tape") := He.cls_ok (c.d.fact 93 (f := .cls "Tape") rfl)
theorem tx_g_Tape (X : K.In h) (G : h.Ns mainGlobals mg) (c : He.SaysT faL fnL tabs w K) (e : exB K = true) : mg "Tape" = some (.ref (He.ga K "Tape")) := (He.glo_ok X G (c.d.fact 64 (f := .glo "Tape") rfl))
theorem tx_i_Tape (X : K.In h) (G : h.Ns mainGlobals mg) (c : He.SaysT faL fnL tabs w K) (e : exB K = true) : InAt K mg "Tape" (He.ga K "Tape") "Tape.__init__" s_Tape_init := by
  obtain ⟨fd, F⟩ := c.d.def_ 68 (d := d_Tape_init) rfl
  exact ⟨_, fd, He.mkr_ok (c.d.fact 126 (f := .mkr "Tape") rfl), (He.glo_ok X G (c.d.fact 64 (f := .glo "Tape") rfl)), F⟩
theorem tx_m_Tape_draw (X : K.In h) (G : h.Ns mainGlobals mg) (c : He.SaysT faL fnL tabs w K) (e : exB K = true) : MtAt K (He.ga K "Tape") "draw" "Tape.draw" s_Tape_draw := by
  obtain ⟨fd, F⟩ := c.d.def_ 69 (d := d_Tape_draw) rfl
  exact ⟨_, fd, He.cls_ok (c.d.fact 93 (f := .cls "Tape") rfl), He.meth_ok (c.d.fact 118 (f := .meth "Tape" "draw") rfl), F⟩
theorem tx_m_Tape_string (X : K.In h) (G : h.Ns mainGlobals mg) (c : He.SaysT faL fnL tabs w K) (e : exB K = true) : MtAt K (He.ga K "Tape") "string" "Tape.string" s_Tape_string := by
  obtain ⟨fd, F⟩ := c.d.def_ 70 (d := d_Tape_string) rfl
  exact ⟨_, fd, He.cls_ok (c.d.fact 93 (f := .cls "Tape") rfl), He.meth_ok (c.d.fact 119 (f := .meth "Tape" "string") rfl), F⟩
theorem tx_n_Tape_choices (X : K.In h) (G : h.Ns mainGlobals mg) (c : He.SaysT faL fnL tabs w K) (e : exB K = true) : NoAttr K (He.ga K "Tape") "choices" := He.noat_ok (c.d.fact 108 (f := .noat "Tape" "choices") rfl)
theorem tx_n_Tape_draws (X : K.In h) (G : h.Ns mainGlobals mg) (c : He.SaysT faL fnL tabs w K) (e : exB K = true) : NoAttr K (He.ga K "Tape") "draws" := He.noat_ok (c.d.fact 109 (f := .noat "Tape" "draws") rfl)
theorem tx_cl_Ways (X : K.In h) (G : h.Ns mainGlobals mg) (c : He.SaysT faL fnL tabs w K) (e : exB K = true) : Cls K (He.ga K "Ways") := He.cls_ok (c.d.fact 94 (f := .cls "Ways") rfl)
theorem tx_g_Ways (X : K.In h) (G : h.Ns mainGlobals mg) (c : He.SaysT faL fnL tabs w K) (e : exB K = true) : mg "Ways" = some (.ref (He.ga K "Ways")) := (He.glo_ok X G (c.d.fact 65 (f := .glo "Ways") rfl))
theorem tx_i_Ways (X : K.In h) (G : h.Ns mainGlobals mg) (c : He.SaysT faL fnL tabs w K) (e : exB K = true) : InAt K mg "Ways" (He.ga K "Ways") "Ways.__init__" s_Ways_init := by
  obtain ⟨fd, F⟩ := c.d.def_ 71 (d := d_Ways_init) rfl
  exact ⟨_, fd, He.mkr_ok (c.d.fact 127 (f := .mkr "Ways") rfl), (He.glo_ok X G (c.d.fact 65 (f := .glo "Ways") rfl)), F⟩
theorem tx_m_Ways_count (X : K.In h) (G : h.Ns mainGlobals mg) (c : He.SaysT faL fnL tabs w K) (e : exB K = true) : MtAt K (He.ga K "Ways") "count" "Ways.count" s_Ways_count := by
  obtain ⟨fd, F⟩ := c.d.def_ 72 (d := d_Ways_count) rfl
  exact ⟨_, fd, He.cls_ok (c.d.fact 94 (f := .cls "Ways") rfl), He.meth_ok (c.d.fact 120 (f := .meth "Ways" "count") rfl), F⟩
theorem tx_m_Ways_chance (X : K.In h) (G : h.Ns mainGlobals mg) (c : He.SaysT faL fnL tabs w K) (e : exB K = true) : MtAt K (He.ga K "Ways") "chance" "Ways.chance" s_Ways_chance := by
  obtain ⟨fd, F⟩ := c.d.def_ 73 (d := d_Ways_chance) rfl
  exact ⟨_, fd, He.cls_ok (c.d.fact 94 (f := .cls "Ways") rfl), He.meth_ok (c.d.fact 121 (f := .meth "Ways" "chance") rfl), F⟩
theorem tx_n_Ways_most (X : K.In h) (G : h.Ns mainGlobals mg) (c : He.SaysT faL fnL tabs w K) (e : exB K = true) : NoAttr K (He.ga K "Ways") "most" := He.noat_ok (c.d.fact 110 (f := .noat "Ways" "most") rfl)
theorem tx_n_Ways_many (X : K.In h) (G : h.Ns mainGlobals mg) (c : He.SaysT faL fnL tabs w K) (e : exB K = true) : NoAttr K (He.ga K "Ways") "many" := He.noat_ok (c.d.fact 111 (f := .noat "Ways" "many") rfl)
theorem tx_n_Ways_won (X : K.In h) (G : h.Ns mainGlobals mg) (c : He.SaysT faL fnL tabs w K) (e : exB K = true) : NoAttr K (He.ga K "Ways") "won" := He.noat_ok (c.d.fact 112 (f := .noat "Ways" "won") rfl)
theorem tx_b_range (X : K.In h) (G : h.Ns mainGlobals mg) (c : He.SaysT faL fnL tabs w K) (e : exB K = true) : mg "range" = none := He.free_ok X G (c.d.fact 70 (f := .free "range") rfl)
theorem tx_b_len (X : K.In h) (G : h.Ns mainGlobals mg) (c : He.SaysT faL fnL tabs w K) (e : exB K = true) : mg "len" = none := He.free_ok X G (c.d.fact 71 (f := .free "len") rfl)
theorem tx_b_isinstance (X : K.In h) (G : h.Ns mainGlobals mg) (c : He.SaysT faL fnL tabs w K) (e : exB K = true) : mg "isinstance" = none := He.free_ok X G (c.d.fact 72 (f := .free "isinstance") rfl)
theorem tx_b_int (X : K.In h) (G : h.Ns mainGlobals mg) (c : He.SaysT faL fnL tabs w K) (e : exB K = true) : mg "int" = none := He.free_ok X G (c.d.fact 73 (f := .free "int") rfl)
theorem tx_b_bool (X : K.In h) (G : h.Ns mainGlobals mg) (c : He.SaysT faL fnL tabs w K) (e : exB K = true) : mg "bool" = none := He.free_ok X G (c.d.fact 74 (f := .free "bool") rfl)
theorem tx_b_str (X : K.In h) (G : h.Ns mainGlobals mg) (c : He.SaysT faL fnL tabs w K) (e : exB K = true) : mg "str" = none := He.free_ok X G (c.d.fact 75 (f := .free "str") rfl)
theorem tx_b_tuple (X : K.In h) (G : h.Ns mainGlobals mg) (c : He.SaysT faL fnL tabs w K) (e : exB K = true) : mg "tuple" = none := He.free_ok X G (c.d.fact 76 (f := .free "tuple") rfl)
theorem tx_b_list (X : K.In h) (G : h.Ns mainGlobals mg) (c : He.SaysT faL fnL tabs w K) (e : exB K = true) : mg "list" = none := He.free_ok X G (c.d.fact 77 (f := .free "list") rfl)
theorem tx_b_all (X : K.In h) (G : h.Ns mainGlobals mg) (c : He.SaysT faL fnL tabs w K) (e : exB K = true) : mg "all" = none := He.free_ok X G (c.d.fact 78 (f := .free "all") rfl)
theorem tx_b_abs (X : K.In h) (G : h.Ns mainGlobals mg) (c : He.SaysT faL fnL tabs w K) (e : exB K = true) : mg "abs" = none := He.free_ok X G (c.d.fact 79 (f := .free "abs") rfl)
theorem tx_b_sorted (X : K.In h) (G : h.Ns mainGlobals mg) (c : He.SaysT faL fnL tabs w K) (e : exB K = true) : mg "sorted" = none := He.free_ok X G (c.d.fact 80 (f := .free "sorted") rfl)
theorem tx_b_reversed (X : K.In h) (G : h.Ns mainGlobals mg) (c : He.SaysT faL fnL tabs w K) (e : exB K = true) : mg "reversed" = none := He.free_ok X G (c.d.fact 81 (f := .free "reversed") rfl)
theorem tx_g_MOST_LENGTH (X : K.In h) (G : h.Ns mainGlobals mg) (c : He.SaysT faL fnL tabs w K) (e : exB K = true) : ∃ t, mg "MOST_LENGTH" = some (.int 40 t) := He.int_ok X G (c.d.fact 82 (f := .int "MOST_LENGTH" 40) rfl)
theorem tx_g_MOST_BIT (X : K.In h) (G : h.Ns mainGlobals mg) (c : He.SaysT faL fnL tabs w K) (e : exB K = true) : ∃ t, mg "MOST_BIT" = some (.int 9999 t) := He.int_ok X G (c.d.fact 83 (f := .int "MOST_BIT" 9999) rfl)
theorem tx_g_MOST_TOSSED (X : K.In h) (G : h.Ns mainGlobals mg) (c : He.SaysT faL fnL tabs w K) (e : exB K = true) : ∃ t, mg "MOST_TOSSED" = some (.int 64 t) := He.int_ok X G (c.d.fact 84 (f := .int "MOST_TOSSED" 64) rfl)
theorem tx_g_MOST_DEPTH (X : K.In h) (G : h.Ns mainGlobals mg) (c : He.SaysT faL fnL tabs w K) (e : exB K = true) : ∃ t, mg "MOST_DEPTH" = some (.int 60 t) := He.int_ok X G (c.d.fact 85 (f := .int "MOST_DEPTH" 60) rfl)
theorem tx_g_MOST_LAYERS (X : K.In h) (G : h.Ns mainGlobals mg) (c : He.SaysT faL fnL tabs w K) (e : exB K = true) : ∃ t, mg "MOST_LAYERS" = some (.int 20 t) := He.int_ok X G (c.d.fact 86 (f := .int "MOST_LAYERS" 20) rfl)
theorem tx_g_MOST_WITHIN (X : K.In h) (G : h.Ns mainGlobals mg) (c : He.SaysT faL fnL tabs w K) (e : exB K = true) : ∃ t, mg "MOST_WITHIN" = some (.int 2000 t) := He.int_ok X G (c.d.fact 87 (f := .int "MOST_WITHIN" 2000) rfl)
theorem tx_g_OnetimeWorld (X : K.In h) (G : h.Ns mainGlobals mg) (c : He.SaysT faL fnL tabs w K) (e : exB K = true) : mg "OnetimeWorld" = some (.ref (He.ga K "OnetimeWorld")) := (He.glo_ok X G (c.d.fact 66 (f := .glo "OnetimeWorld") rfl))
theorem tx_g_PLAIN_WORDS (X : K.In h) (G : h.Ns mainGlobals mg) (c : He.SaysT faL fnL tabs w K) (e : exB K = true) : mg "PLAIN_WORDS" = some (.ref (He.ga K "PLAIN_WORDS")) := (He.glo_ok X G (c.d.fact 67 (f := .glo "PLAIN_WORDS") rfl))
theorem tx_g_RUNS (X : K.In h) (G : h.Ns mainGlobals mg) (c : He.SaysT faL fnL tabs w K) (e : exB K = true) : mg "RUNS" = some (.ref (He.ga K "RUNS")) := (He.glo_ok X G (c.d.fact 68 (f := .glo "RUNS") rfl))
theorem tx_g_SIZES (X : K.In h) (G : h.Ns mainGlobals mg) (c : He.SaysT faL fnL tabs w K) (e : exB K = true) : mg "SIZES" = some (.ref (He.ga K "SIZES")) := (He.glo_ok X G (c.d.fact 69 (f := .glo "SIZES") rfl))
theorem tx_g_gcd (X : K.In h) (G : h.Ns mainGlobals mg) (c : He.SaysT faL fnL tabs w K) (e : exB K = true) : mg "gcd" = some (.builtin "math.gcd") := PySem.W.mg_of X G (He.eqO_ok (ex_at e 7 rfl))
theorem tx_k_Silent (X : K.In h) (G : h.Ns mainGlobals mg) (c : He.SaysT faL fnL tabs w K) (e : exB K = true) : PySem.W.keepIn K (.ref (He.ga K "Silent")) = true := He.keep_ok (c.d.fact 128 (f := .keep "Silent") rfl)
theorem tx_mk_Silent (X : K.In h) (G : h.Ns mainGlobals mg) (c : He.SaysT faL fnL tabs w K) (e : exB K = true) : PySem.W.makesIn K (He.ga K "Silent") = true := ex_at e 12 rfl
theorem tx_in_Silent (X : K.In h) (G : h.Ns mainGlobals mg) (c : He.SaysT faL fnL tabs w K) (e : exB K = true) : PySem.W.findIn K (.ref (He.ga K "Silent")) "__init__" = some (some (.builtin "object.__init__")) := He.eqO_ok (ex_at e 13 rfl)
theorem tx_words (X : K.In h) (G : h.Ns mainGlobals mg) (c : He.SaysT faL fnL tabs w K) (e : exB K = true) : ∀ H : Hp, SqT K H (He.ga K "PLAIN_WORDS") [.str "say", .str "toss", .str "look", .str "ask"] := fun H => He.tupB_ok (ex_at e 0 rfl) H
theorem tx_d_SIZES (X : K.In h) (G : h.Ns mainGlobals mg) (c : He.SaysT faL fnL tabs w K) (e : exB K = true) : ∃ es n, KDict K w (He.ga K "SIZES") es n := c.tab 1 rfl
theorem tx_d_RUNS (X : K.In h) (G : h.Ns mainGlobals mg) (c : He.SaysT faL fnL tabs w K) (e : exB K = true) : ∃ es n, KDict K w (He.ga K "RUNS") es n := c.tab 0 rfl
theorem tx_sz_next (X : K.In h) (G : h.Ns mainGlobals mg) (c : He.SaysT faL fnL tabs w K) (e : exB K = true) : ∃ u, PySem.W.nsIn K (He.ga K "SIZES") "next" = some (some u) ∧ RelV (.int 3) u := He.valsB_ok (ex_at e 1 rfl) (q := ("next", .int 3)) (List.mem_cons_self ..)
theorem tx_sz_gen (X : K.In h) (G : h.Ns mainGlobals mg) (c : He.SaysT faL fnL tabs w K) (e : exB K = true) : ∃ u, PySem.W.nsIn K (He.ga K "SIZES") "generator" = some (some u) ∧ RelV (.int 3) u := He.valsB_ok (ex_at e 1 rfl) (q := ("generator", .int 3)) (List.mem_cons_of_mem _ (List.mem_cons_self ..))
theorem tx_r_next (X : K.In h) (G : h.Ns mainGlobals mg) (c : He.SaysT faL fnL tabs w K) (e : exB K = true) : ∃ u, PySem.W.nsIn K (He.ga K "RUNS") "next" = some (some u) ∧ RelV (.ref (He.ga K "run_next")) u := He.valsB_ok (ex_at e 2 rfl) (q := ("next", .glo "run_next")) (List.mem_cons_self ..)
theorem tx_r_say (X : K.In h) (G : h.Ns mainGlobals mg) (c : He.SaysT faL fnL tabs w K) (e : exB K = true) : PySem.W.nsIn K (He.ga K "RUNS") "say" = some none := He.eqO_ok (ex_at e 3 rfl)
theorem tx_r_toss (X : K.In h) (G : h.Ns mainGlobals mg) (c : He.SaysT faL fnL tabs w K) (e : exB K = true) : PySem.W.nsIn K (He.ga K "RUNS") "toss" = some none := He.eqO_ok (ex_at e 4 rfl)
theorem tx_r_look (X : K.In h) (G : h.Ns mainGlobals mg) (c : He.SaysT faL fnL tabs w K) (e : exB K = true) : PySem.W.nsIn K (He.ga K "RUNS") "look" = some none := He.eqO_ok (ex_at e 5 rfl)
theorem tx_r_ask (X : K.In h) (G : h.Ns mainGlobals mg) (c : He.SaysT faL fnL tabs w K) (e : exB K = true) : PySem.W.nsIn K (He.ga K "RUNS") "ask" = some none := He.eqO_ok (ex_at e 6 rfl)
theorem tx_at_run_next (X : K.In h) (G : h.Ns mainGlobals mg) (c : He.SaysT faL fnL tabs w K) (e : exB K = true) : mg "run_next" = some (.ref (He.ga K "run_next")) := (He.glo_ok X G (c.d.fact 18 (f := .glo "run_next") rfl))
theorem tx_is_Silent (X : K.In h) (G : h.Ns mainGlobals mg) (c : He.SaysT faL fnL tabs w K) (e : exB K = true) : InsN K (He.ga K "Silent") (He.ga K "OnetimeWorld") := ins_of (He.cls_ok (c.d.fact 88 (f := .cls "Silent") rfl)) (ex_at e 8 rfl) (He.eqO_ok (ex_at e 10 rfl)) (of_decide_eq_true (ex_at e 11 rfl))
theorem tx_is_Notes (X : K.In h) (G : h.Ns mainGlobals mg) (c : He.SaysT faL fnL tabs w K) (e : exB K = true) : InsN K (He.ga K "Notes") (He.ga K "OnetimeWorld") := ins_of (He.cls_ok (c.d.fact 90 (f := .cls "Notes") rfl)) (ex_at e 9 rfl) (He.eqO_ok (ex_at e 10 rfl)) (of_decide_eq_true (ex_at e 11 rfl))
theorem txt_of (X : K.In h) (G : h.Ns mainGlobals mg) (c : He.SaysT faL fnL tabs w K) (e : exB K = true) : Txt w K mg where
  f_bits := tx_f_bits X G c e
  f_number_of := tx_f_number_of X G c e
  f_is_number := tx_f_is_number X G c e
  f_is_bits := tx_f_is_bits X G c e
  f_is_row := tx_f_is_row X G c e
  f_is_generator := tx_f_is_generator X G c e
  f_check_block := tx_f_check_block X G c e
  f_row_at := tx_f_row_at X G c e
  f_are_parts := tx_f_are_parts X G c e
  f_inner_plain := tx_f_inner_plain X G c e
  f_check_plain := tx_f_check_plain X G c e
  f_is_length := tx_f_is_length X G c e
  f_fits_word := tx_f_fits_word X G c e
  f_has_plain_word := tx_f_has_plain_word X G c e
  f_check_breaker := tx_f_check_breaker X G c e
  f_made_string := tx_f_made_string X G c e
  f_run_plain := tx_f_run_plain X G c e
  f_prefix_challenge := tx_f_prefix_challenge X G c e
  f_run_next := tx_f_run_next X G c e
  f_run_breaker := tx_f_run_breaker X G c e
  f_is_truth := tx_f_is_truth X G c e
  f_is_right := tx_f_is_right X G c e
  f_check_game := tx_f_check_game X G c e
  f_cover := tx_f_cover X G c e
  f_played := tx_f_played X G c e
  f_fraction := tx_f_fraction X G c e
  f_add := tx_f_add X G c e
  f_less := tx_f_less X G c e
  f_next_choices := tx_f_next_choices X G c e
  f_ways_of := tx_f_ways_of X G c e
  f_chance := tx_f_chance X G c e
  f_advantage := tx_f_advantage X G c e
  f__law_mixed := tx_f__law_mixed X G c e
  f__law_tape := tx_f__law_tape X G c e
  f__law_draw := tx_f__law_draw X G c e
  f__law_pick := tx_f__law_pick X G c e
  f__law_bits := tx_f__law_bits X G c e
  f__law_string := tx_f__law_string X G c e
  f__law_fraction := tx_f__law_fraction X G c e
  f__law_sum := tx_f__law_sum X G c e
  f__law_less := tx_f__law_less X G c e
  f__law_note := tx_f__law_note X G c e
  f__law_parts := tx_f__law_parts X G c e
  f__law_say := tx_f__law_say X G c e
  f__law_breaker := tx_f__law_breaker X G c e
  f__law_made := tx_f__law_made X G c e
  f__law_silent := tx_f__law_silent X G c e
  f__law_silent_chance := tx_f__law_silent_chance X G c e
  f__law_strings := tx_f__law_strings X G c e
  f__law_generator := tx_f__law_generator X G c e
  f__law_generator_gain := tx_f__law_generator_gain X G c e
  f__law_marked := tx_f__law_marked X G c e
  f__law_ones := tx_f__law_ones X G c e
  f__law_mean := tx_f__law_mean X G c e
  f__law_other := tx_f__law_other X G c e
  f__law_next_chance := tx_f__law_next_chance X G c e
  f__law_is := tx_f__law_is X G c e
  f__law_made_chance := tx_f__law_made_chance X G c e
  cl_Silent := tx_cl_Silent X G c e
  g_Silent := tx_g_Silent X G c e
  m_Silent_answer := tx_m_Silent_answer X G c e
  cl_Stopped := tx_cl_Stopped X G c e
  g_Stopped := tx_g_Stopped X G c e
  i_Stopped := tx_i_Stopped X G c e
  m_Stopped_now := tx_m_Stopped_now X G c e
  n_Stopped_world := tx_n_Stopped_world X G c e
  cl_Notes := tx_cl_Notes X G c e
  g_Notes := tx_g_Notes X G c e
  i_Notes := tx_i_Notes X G c e
  m_Notes_answer := tx_m_Notes_answer X G c e
  n_Notes_world := tx_n_Notes_world X G c e
  n_Notes_asked := tx_n_Notes_asked X G c e
  cl_Play := tx_cl_Play X G c e
  g_Play := tx_g_Play X G c e
  i_Play := tx_i_Play X G c e
  n_Play_outcome := tx_n_Play_outcome X G c e
  n_Play_said := tx_n_Play_said X G c e
  n_Play_draws := tx_n_Play_draws X G c e
  n_Play_asked := tx_n_Play_asked X G c e
  cl_Table := tx_cl_Table X G c e
  g_Table := tx_g_Table X G c e
  i_Table := tx_i_Table X G c e
  m_Table_begin_challenge := tx_m_Table_begin_challenge X G c e
  m_Table_has_won := tx_m_Table_has_won X G c e
  n_Table_game := tx_n_Table_game X G c e
  n_Table_tape := tx_n_Table_tape X G c e
  n_Table_kind := tx_n_Table_kind X G c e
  n_Table_challenge := tx_n_Table_challenge X G c e
  n_Table_world := tx_n_Table_world X G c e
  n_Table_secret := tx_n_Table_secret X G c e
  cl_Tape := tx_cl_Tape X G c e
  g_Tape := tx_g_Tape X G c e
  i_Tape := tx_i_Tape X G c e
  m_Tape_draw := tx_m_Tape_draw X G c e
  m_Tape_string := tx_m_Tape_string X G c e
  n_Tape_choices := tx_n_Tape_choices X G c e
  n_Tape_draws := tx_n_Tape_draws X G c e
  cl_Ways := tx_cl_Ways X G c e
  g_Ways := tx_g_Ways X G c e
  i_Ways := tx_i_Ways X G c e
  m_Ways_count := tx_m_Ways_count X G c e
  m_Ways_chance := tx_m_Ways_chance X G c e
  n_Ways_most := tx_n_Ways_most X G c e
  n_Ways_many := tx_n_Ways_many X G c e
  n_Ways_won := tx_n_Ways_won X G c e
  b_range := tx_b_range X G c e
  b_len := tx_b_len X G c e
  b_isinstance := tx_b_isinstance X G c e
  b_int := tx_b_int X G c e
  b_bool := tx_b_bool X G c e
  b_str := tx_b_str X G c e
  b_tuple := tx_b_tuple X G c e
  b_list := tx_b_list X G c e
  b_all := tx_b_all X G c e
  b_abs := tx_b_abs X G c e
  b_sorted := tx_b_sorted X G c e
  b_reversed := tx_b_reversed X G c e
  g_MOST_LENGTH := tx_g_MOST_LENGTH X G c e
  g_MOST_BIT := tx_g_MOST_BIT X G c e
  g_MOST_TOSSED := tx_g_MOST_TOSSED X G c e
  g_MOST_DEPTH := tx_g_MOST_DEPTH X G c e
  g_MOST_LAYERS := tx_g_MOST_LAYERS X G c e
  g_MOST_WITHIN := tx_g_MOST_WITHIN X G c e
  g_OnetimeWorld := tx_g_OnetimeWorld X G c e
  g_PLAIN_WORDS := tx_g_PLAIN_WORDS X G c e
  g_RUNS := tx_g_RUNS X G c e
  g_SIZES := tx_g_SIZES X G c e
  g_gcd := tx_g_gcd X G c e
  k_Silent := tx_k_Silent X G c e
  mk_Silent := tx_mk_Silent X G c e
  in_Silent := tx_in_Silent X G c e
  words := tx_words X G c e
  d_SIZES := tx_d_SIZES X G c e
  d_RUNS := tx_d_RUNS X G c e
  sz_next := tx_sz_next X G c e
  sz_gen := tx_sz_gen X G c e
  r_next := tx_r_next X G c e
  r_say := tx_r_say X G c e
  r_toss := tx_r_toss X G c e
  r_look := tx_r_look X G c e
  r_ask := tx_r_ask X G c e
  at_run_next := tx_at_run_next X G c e
  is_Silent := tx_is_Silent X G c e
  is_Notes := tx_is_Notes X G c e
theorem facts_of {f : Addr} (X : K.In h) (G : h.Ns mainGlobals mg) (hfa : mg ("law" : Str) = some (.ref f)) (c : He.SaysT faL fnL tabs w K) (e : exB K = true) {P : Program} :
    ∃ fd : FuncData, (∀ (s : Shared) (v : Value), BindsTo s fd ⟨[v], []⟩ [("_law_script", v)]) ∧ ∀ base : Heap, K.In base → base.Ns mainGlobals mg → FnOk P w K mg base CX0 12 f fd ["_law_script"] (spLaw K) := by
  obtain ⟨fd, F⟩ := c.d.def_ 58 (d := d_law) rfl
  have ef := hfa.symm.trans (He.glo_ok X G (c.d.fact 58 (f := .glo "law") rfl))
  cases ef
  have b := FunD.bindsA (ps := ["_law_script"]) F fun _ _ _ _ _ _ us hl => match us, hl with | [_], _ => rfl
  exact ⟨fd, fun s v => b s [v] rfl, fun base _ _ => ok_law (txt_of X G c e) F⟩
end
end NX
open PySem PySem.W PySem.Calls PyProof.Rows
theorem PySem.Challenge.cw_breakback_k23_next_exact_holds : PySem.Challenge.rw_breakback_k23_next_exact.Holds := by
  w_on; o_law
  refine HandSHeadRun.head_imp (r := OpenLaw.row PySem.Challenge.rw_breakback_k23_next_exact) (q := NX.viewN) (H := NX.hookN) (ob := NX.obN) (M := 30000) (loose := NX.looseN) (d := HandSHeadRun.topDef (OpenLaw.row PySem.Challenge.rw_breakback_k23_next_exact).prog 127) (kwd := []) NX.obN_eq NX.runN
    (by kernel_rfl) (by kernel_rfl) (by kernel_rfl) (by rfl) (by first | assumption | decide +kernel) (by decide +kernel) ⟨rfl, rfl, rfl, rfl, rfl, by decide +kernel⟩ ?hw ?hc
  case hw => w_witness2
  case hc =>
    refine L2.walk_ofE (l := PySem.Challenge.rw_breakback_k23_next_exact) (n := 63) (k := 12) (x := "_law_script") (CX := L2.CX0) rfl (by decide) (by kernel_rfl) ⟨rfl, by decide, by decide⟩ ?F (fun _ _ _ _ z => z)
    intro w mg fa h Y G hmg0
    obtain ⟨K, KX, c, e⟩ := Y
    have hmg : mg ("law" : PySem.Str) = some (.ref fa) := by
      have e : (HandSHeadRun.topDef (OpenLaw.row PySem.Challenge.rw_breakback_k23_next_exact).prog 127).name = ("law" : PySem.Str) := by kernel_rfl
      rw [← e]
      exact hmg0
    obtain ⟨fd, hb, hF⟩ := NX.facts_of (P := (PySem.Challenge.rw_breakback_k23_next_exact).prog) (w := w) KX G hmg c e
    exact ⟨K, fd, NX.spLaw K, KX, hb, fun H a ns hl _ hS => ⟨a, ns, rfl, .inl hS, fun _ => rfl⟩, hF⟩
