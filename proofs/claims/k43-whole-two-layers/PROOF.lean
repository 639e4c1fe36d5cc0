import PyProof.Rows.All
import Wide.All
import OpenK.AllK
import Wide.FinOn
import KE.KStateDown
import HandS.ForMost
import HandS.Codes
import HandS.Defaults
import HandS.Head0
import HandS.Head1
import HandS.Head2
import HandS.Head3
import HandS.HeadEnd
import HandS.HeadHook1
import HandS.HeadHook2
import HandS.HeadHook3
import HandS.IsInst
import HandS.Walk
import HandS.TupAny
import HandS.Gcd
import HandS.Style
import HandS.RevRange
import HandS.More
import HandS.HeadHook4
import KE.GoesEnum
import HandS.Wide
import PySem.Challenge.RW_breakback_k43_whole_two_layers
set_option Elab.async false
set_option linter.all false
set_option maxRecDepth 100000
set_option maxHeartbeats 0
/-! The head, ahead of all: the top run in the kernel, what is looked at behind it. -/
namespace BB
open PySem PySem.Spec PyProof.Rows L2
abbrev topS (i : Nat) : Stmt := PySem.Challenge.pw_breakback_k43_whole_two_layers.main.body.getD i (.Pass ⟨0, 0, 0, 0⟩)
def dF (x nm : Str) (st : Stmt) (kw : List (Str × He.Dv)) : He.DefD := ⟨(x, none), nm, nm, defArgs st, defBody st, defScope st, [], kw⟩
def dM (C m qual : Str) (st : Stmt) : He.DefD := ⟨(C, some m), m, qual, defArgs st, defBody st, defScope st, [], []⟩
def isoB (K : PySem.W.Frag) (C : Addr) : Bool := He.eqO (PySem.W.findIn K (.ref C) "__class__") (some (some (.builtin "object.__class__"))) && (decide (PySem.W.mroIn K C (.type "object") = some true) && decide (PySem.W.kitOne K (.ref C) (.ref (He.ga K "OnetimeWorld")) = some false))
def d_bits : He.DefD := dF "bits" "bits" (topS 2) []
def d_number_of : He.DefD := dF "number_of" "number_of" (topS 3) []
def d_xor : He.DefD := dF "xor" "xor" (topS 4) []
def d_is_number : He.DefD := dF "is_number" "is_number" (topS 16) []
def d_is_bits : He.DefD := dF "is_bits" "is_bits" (topS 17) []
def d_is_row : He.DefD := dF "is_row" "is_row" (topS 18) []
def d_is_generator : He.DefD := dF "is_generator" "is_generator" (topS 19) []
def d_is_function : He.DefD := dF "is_function" "is_function" (topS 20) []
def d_check_block : He.DefD := dF "check_block" "check_block" (topS 21) []
def d_row_at : He.DefD := dF "row_at" "row_at" (topS 22) []
def d_value_at : He.DefD := dF "value_at" "value_at" (topS 23) []
def d_put_out : He.DefD := dF "put_out" "put_out" (topS 24) []
def d_longer : He.DefD := dF "longer" "longer" (topS 25) []
def d_go_down : He.DefD := dF "go_down" "go_down" (topS 26) []
def d_half : He.DefD := dF "half" "half" (topS 27) []
def d_tree : He.DefD := dF "tree" "tree" (topS 28) []
def d_tree_turns : He.DefD := dF "tree_turns" "tree_turns" (topS 31) []
def d_is_plain : He.DefD := dF "is_plain" "is_plain" (topS 41) []
def d_are_parts : He.DefD := dF "are_parts" "are_parts" (topS 42) []
def d_inner_plain : He.DefD := dF "inner_plain" "inner_plain" (topS 43) []
def d_check_plain_breakers : He.DefD := dF "check_plain_breakers" "check_plain" (topS 44) []
def d_fits_longer : He.DefD := dF "fits_longer" "fits_longer" (topS 46) []
def d_fits_tree : He.DefD := dF "fits_tree" "fits_tree" (topS 47) []
def d_is_length : He.DefD := dF "is_length" "is_length" (topS 48) []
def d_fits_word : He.DefD := dF "fits_word" "fits_word" (topS 49) []
def d_has_plain_word : He.DefD := dF "has_plain_word" "has_plain_word" (topS 50) []
def d_check_breaker : He.DefD := dF "check_breaker" "check_breaker" (topS 51) []
def d_most_plain_asks : He.DefD := dF "most_plain_asks" "most_plain_asks" (topS 52) []
def d_most_asks : He.DefD := dF "most_asks" "most_asks" (topS 53) []
def d_KeyedWorld_init : He.DefD := dM "KeyedWorld" "__init__" "KeyedWorld.__init__" (inClass (topS 56) 0)
def d_KeyedWorld_answer : He.DefD := dM "KeyedWorld" "answer" "KeyedWorld.answer" (inClass (topS 56) 1)
def d_AnyWorld_init : He.DefD := dM "AnyWorld" "__init__" "AnyWorld.__init__" (inClass (topS 57) 0)
def d_AnyWorld_answer : He.DefD := dM "AnyWorld" "answer" "AnyWorld.answer" (inClass (topS 57) 1)
def d_SecretWorld_init : He.DefD := dM "SecretWorld" "__init__" "SecretWorld.__init__" (inClass (topS 60) 0)
def d_SecretWorld_answer : He.DefD := dM "SecretWorld" "answer" "SecretWorld.answer" (inClass (topS 60) 1)
def d_MarkWorld_init : He.DefD := dM "MarkWorld" "__init__" "MarkWorld.__init__" (inClass (topS 62) 0)
def d_MarkWorld_answer : He.DefD := dM "MarkWorld" "answer" "MarkWorld.answer" (inClass (topS 62) 1)
def d_made_string : He.DefD := dF "made_string" "made_string" (topS 65) []
def d_Stopped_init : He.DefD := dM "Stopped" "__init__" "Stopped.__init__" (inClass (topS 66) 0)
def d_Stopped_now : He.DefD := dM "Stopped" "now" "Stopped.now" (inClass (topS 66) 1)
def d_run_plain : He.DefD := dF "run_plain" "run_plain" (topS 67) []
def d_run_longer : He.DefD := dF "run_longer" "run_longer" (topS 68) []
def d_TreeWorld_init : He.DefD := dM "TreeWorld" "__init__" "TreeWorld.__init__" (inClass (topS 69) 0)
def d_TreeWorld_pair_of : He.DefD := dM "TreeWorld" "pair_of" "TreeWorld.pair_of" (inClass (topS 69) 1)
def d_TreeWorld_answer : He.DefD := dM "TreeWorld" "answer" "TreeWorld.answer" (inClass (topS 69) 2)
def d_run_tree : He.DefD := dF "run_tree" "run_tree" (topS 70) []
def d_run_marks : He.DefD := dF "run_marks" "run_marks" (topS 71) []
def d_guessed : He.DefD := dF "guessed" "guessed" (topS 72) []
def d_run_secrets : He.DefD := dF "run_secrets" "run_secrets" (topS 73) []
def d_run_breaker : He.DefD := dF "run_breaker" "run_breaker" (topS 86) []
def d_Tape_init : He.DefD := dM "Tape" "__init__" "Tape.__init__" (inClass (topS 88) 0)
def d_Tape_draw : He.DefD := dM "Tape" "draw" "Tape.draw" (inClass (topS 88) 1)
def d_Tape_string : He.DefD := dM "Tape" "string" "Tape.string" (inClass (topS 88) 2)
def d_is_truth : He.DefD := dF "is_truth" "is_truth" (topS 91) []
def d_is_right : He.DefD := dF "is_right" "is_right" (topS 92) []
def d_check_game : He.DefD := dF "check_game" "check_game" (topS 93) []
def d_Play_init : He.DefD := dM "Play" "__init__" "Play.__init__" (inClass (topS 94) 0)
def d_Notes_init : He.DefD := dM "Notes" "__init__" "Notes.__init__" (inClass (topS 95) 0)
def d_Notes_answer : He.DefD := dM "Notes" "answer" "Notes.answer" (inClass (topS 95) 1)
def d_cover : He.DefD := dF "cover" "cover" (topS 96) []
def d_function_world : He.DefD := dF "function_world" "function_world" (topS 97) []
def d_Table_init : He.DefD := dM "Table" "__init__" "Table.__init__" (inClass (topS 98) 0)
def d_Table_begin_asks : He.DefD := dM "Table" "begin_asks" "Table.begin_asks" (inClass (topS 98) 1)
def d_Table_begin_challenge : He.DefD := dM "Table" "begin_challenge" "Table.begin_challenge" (inClass (topS 98) 2)
def d_Table_is_marked : He.DefD := dM "Table" "is_marked" "Table.is_marked" (inClass (topS 98) 3)
def d_Table_has_won : He.DefD := dM "Table" "has_won" "Table.has_won" (inClass (topS 98) 4)
def d_played : He.DefD := dF "played" "played" (topS 99) []
def d_fraction : He.DefD := dF "fraction" "fraction" (topS 101) []
def d_add : He.DefD := dF "add" "add" (topS 102) []
def d_less : He.DefD := dF "less" "less" (topS 103) []
def d_next_choices : He.DefD := dF "next_choices" "next_choices" (topS 104) []
def d_Ways_init : He.DefD := dM "Ways" "__init__" "Ways.__init__" (inClass (topS 105) 0)
def d_Ways_count : He.DefD := dM "Ways" "count" "Ways.count" (inClass (topS 105) 1)
def d_Ways_chance : He.DefD := dM "Ways" "chance" "Ways.chance" (inClass (topS 105) 2)
def d_ways_of : He.DefD := dF "ways_of" "ways_of" (topS 106) []
def d_chance : He.DefD := dF "chance" "chance" (topS 107) [("most", .int 300000)]
def d_advantage : He.DefD := dF "advantage" "advantage" (topS 108) [("most", .int 300000)]
def d_layers_of : He.DefD := dF "layers_of" "layers_of" (topS 112) []
def d_tables_of : He.DefD := dF "tables_of" "tables_of" (topS 113) []
def d_built : He.DefD := dF "built" "built" (topS 114) []
def d_check_goal : He.DefD := dF "check_goal" "check_goal" (topS 115) []
def d_check_plain_schemes : He.DefD := dF "check_plain_schemes" "check_plain" (topS 117) []
def d_gain : He.DefD := dF "gain" "gain" (topS 119) [("most", .int 300000)]
def d_first_made : He.DefD := dF "first_made" "first_made" (topS 120) []
def d_carried : He.DefD := dF "carried" "carried" (topS 121) []
def d_law_draws : He.DefD := dF "_law_draws" "_law_draws" (topS 123) []
def d_law_take : He.DefD := dF "_law_take" "_law_take" (topS 124) []
def d_law_string : He.DefD := dF "_law_string" "_law_string" (topS 125) []
def d_law_parts : He.DefD := dF "_law_parts" "_law_parts" (topS 126) []
def d_law_breaker : He.DefD := dF "_law_breaker" "_law_breaker" (topS 127) []
def d_law_table : He.DefD := dF "_law_table" "_law_table" (topS 128) []
def d_law_gcd : He.DefD := dF "_law_gcd" "_law_gcd" (topS 129) []
def d_law_fraction : He.DefD := dF "_law_fraction" "_law_fraction" (topS 130) []
def d_law_times : He.DefD := dF "_law_times" "_law_times" (topS 131) []
def d_law : He.DefD := dF "law" "law" (topS 132) []
def fnL : List He.DefD := [d_bits, d_number_of, d_xor, d_is_number, d_is_bits, d_is_row, d_is_generator, d_is_function, d_check_block, d_row_at, d_value_at, d_put_out, d_longer, d_go_down, d_half, d_tree, d_tree_turns, d_is_plain, d_are_parts, d_inner_plain, d_check_plain_breakers, d_fits_longer, d_fits_tree, d_is_length, d_fits_word, d_has_plain_word, d_check_breaker, d_most_plain_asks, d_most_asks, d_KeyedWorld_init, d_KeyedWorld_answer, d_AnyWorld_init, d_AnyWorld_answer, d_SecretWorld_init, d_SecretWorld_answer, d_MarkWorld_init, d_MarkWorld_answer, d_made_string, d_Stopped_init, d_Stopped_now, d_run_plain, d_run_longer, d_TreeWorld_init, d_TreeWorld_pair_of, d_TreeWorld_answer, d_run_tree, d_run_marks, d_guessed, d_run_secrets, d_run_breaker, d_Tape_init, d_Tape_draw, d_Tape_string, d_is_truth, d_is_right, d_check_game, d_Play_init, d_Notes_init, d_Notes_answer, d_cover, d_function_world, d_Table_init, d_Table_begin_asks, d_Table_begin_challenge, d_Table_is_marked, d_Table_has_won, d_played, d_fraction, d_add, d_less, d_next_choices, d_Ways_init, d_Ways_count, d_Ways_chance, d_ways_of, d_chance, d_advantage, d_layers_of, d_tables_of, d_built, d_check_goal, d_check_plain_schemes, d_gain, d_first_made, d_carried, d_law_draws, d_law_take, d_law_string, d_law_parts, d_law_breaker, d_law_table, d_law_gcd, d_law_fraction, d_law_times, d_law]
def kv_RUNS : List (Str × He.Dv) := [("counter", .glo "run_counter"), ("cut", .glo "run_cut"), ("bit", .glo "run_bit"), ("longer", .glo "run_longer"), ("tree", .glo "run_tree"), ("marks", .glo "run_marks"), ("secrets", .glo "run_secrets"), ("once", .glo "run_once"), ("opening", .glo "run_opening"), ("onetime", .glo "run_onetime"), ("next", .glo "run_next"), ("guess", .glo "run_guess"), ("hard", .glo "run_hard")]
def kv_SIZES : List (Str × He.Dv) := [("generator", .int 3), ("function", .int 3), ("permutation", .int 2), ("swaps", .int 3), ("marks", .int 3), ("secrets", .int 4), ("once", .int 4), ("opening", .int 5), ("next", .int 3), ("inverse", .int 2), ("onetime", .int 3), ("hard", .int 2)]
def kv_LAYERS : List (Str × He.Dv) := [("longer", .glo "longer"), ("tree", .glo "tree"), ("counter", .glo "counter"), ("cut", .glo "cut")]
def kv_GOALS : List (Str × He.Dv) := [("tell", .int 2), ("marks", .int 2), ("secrets", .int 2), ("once", .int 2), ("opening", .int 3), ("next", .int 2)]
def tsL : List He.Tab := [(fun K => He.ga K "RUNS", ["counter", "cut", "bit", "longer", "tree", "marks", "secrets", "once", "opening", "onetime", "next", "guess", "hard"]), (fun K => He.ga K "SIZES", ["generator", "function", "permutation", "swaps", "marks", "secrets", "once", "opening", "next", "inverse", "onetime", "hard"]), (fun K => He.ga K "LAYERS", ["longer", "tree", "counter", "cut"]), (fun K => He.ga K "GOALS", ["tell", "marks", "secrets", "once", "opening", "next"])]
def faL : List He.Fa := [.free "len", .free "isinstance", .free "all", .free "int", .free "max", .free "min", .free "sum", .free "range", .free "zip", .free "reversed", .free "enumerate", .free "tuple", .free "list", .free "abs", .free "sorted", .free "str", .free "bool", .int "MOST_LENGTH" 40, .int "MOST_BIT" 9999, .int "MOST_TOSSED" 64, .int "MOST_DEPTH" 60, .int "MOST_LAYERS" 20, .int "MOST_WITHIN" 2000, .int "MOST_ASKS" 1000, .int "MOST_COUNTED" 256, .int "MOST_DEEP" 8, .glo "PLAIN_WORDS", .glo "RUNS", .glo "SIZES", .glo "LAYERS", .glo "GOALS", .glo "OnetimeWorld", .cls "Silent", .glo "Silent", .cls "KeyedWorld", .glo "KeyedWorld", .cls "AnyWorld", .glo "AnyWorld", .cls "SecretWorld", .glo "SecretWorld", .cls "MarkWorld", .glo "MarkWorld", .cls "Stopped", .glo "Stopped", .cls "TreeWorld", .glo "TreeWorld", .cls "Tape", .glo "Tape", .cls "Play", .glo "Play", .cls "Notes", .glo "Notes", .cls "Table", .glo "Table", .cls "Ways", .glo "Ways", .glo "bits", .glo "number_of", .glo "xor", .glo "is_number", .glo "is_bits", .glo "is_row", .glo "is_generator", .glo "is_function", .glo "check_block", .glo "row_at", .glo "value_at", .glo "put_out", .glo "longer", .glo "go_down", .glo "half", .glo "tree", .glo "tree_turns", .glo "is_plain", .glo "are_parts", .glo "inner_plain", .glo "check_plain_breakers", .glo "fits_longer", .glo "fits_tree", .glo "is_length", .glo "fits_word", .glo "has_plain_word", .glo "check_breaker", .glo "most_plain_asks", .glo "most_asks", .mkr "KeyedWorld", .meth "KeyedWorld" "answer", .mkr "AnyWorld", .meth "AnyWorld" "answer", .mkr "SecretWorld", .meth "SecretWorld" "answer", .mkr "MarkWorld", .meth "MarkWorld" "answer", .glo "made_string", .mkr "Stopped", .meth "Stopped" "now", .glo "run_plain", .glo "run_longer", .mkr "TreeWorld", .meth "TreeWorld" "pair_of", .meth "TreeWorld" "answer", .glo "run_tree", .glo "run_marks", .glo "guessed", .glo "run_secrets", .glo "run_breaker", .mkr "Tape", .meth "Tape" "draw", .meth "Tape" "string", .glo "is_truth", .glo "is_right", .glo "check_game", .mkr "Play", .mkr "Notes", .meth "Notes" "answer", .glo "cover", .glo "function_world", .mkr "Table", .meth "Table" "begin_asks", .meth "Table" "begin_challenge", .meth "Table" "is_marked", .meth "Table" "has_won", .glo "played", .glo "fraction", .glo "add", .glo "less", .glo "next_choices", .mkr "Ways", .meth "Ways" "count", .meth "Ways" "chance", .glo "ways_of", .glo "chance", .glo "advantage", .glo "layers_of", .glo "tables_of", .glo "built", .glo "check_goal", .glo "check_plain_schemes", .glo "gain", .glo "first_made", .glo "carried", .glo "_law_draws", .glo "_law_take", .glo "_law_string", .glo "_law_parts", .glo "_law_breaker", .glo "_law_table", .glo "_law_gcd", .glo "_law_fraction", .glo "_law_times", .glo "law"]
def e_gcd (K : PySem.W.Frag) : Bool := He.eqO (PySem.W.nsIn K mainGlobals "gcd") (some (some (.builtin "math.gcd")))
def e_plain (K : PySem.W.Frag) : Bool := He.tupB K "PLAIN_WORDS" [.str "say", .str "toss", .str "look", .str "ask"]
def e_RUNS (K : PySem.W.Frag) : Bool := He.valsB K (He.ga K "RUNS") kv_RUNS
def e_SIZES (K : PySem.W.Frag) : Bool := He.valsB K (He.ga K "SIZES") kv_SIZES
def e_LAYERS (K : PySem.W.Frag) : Bool := He.valsB K (He.ga K "LAYERS") kv_LAYERS
def e_GOALS (K : PySem.W.Frag) : Bool := He.valsB K (He.ga K "GOALS") kv_GOALS
def e_noRun (K : PySem.W.Frag) : Bool := (["say", "toss", "look", "ask"] : List Str).all fun x => He.eqO (PySem.W.nsIn K (He.ga K "RUNS") x) (some none)
def e_gfn (K : PySem.W.Frag) : Bool := (["longer", "tree", "run_longer", "run_tree", "run_marks", "run_secrets"] : List Str).all fun x => He.eqO (PySem.W.nsIn K mainGlobals x) (some (some (.ref (He.ga K x))))
def e_isn (K : PySem.W.Frag) : Bool := He.eqO (PySem.W.specialIn K (.builtin "object.__class__") "__get__") (some (some (.builtin "getset_descriptor.__get__")))
def e_ist (K : PySem.W.Frag) : Bool := decide (PySem.W.takesIn K (.builtin "object.__class__") = some true)
def e_nKeyedWorld (K : PySem.W.Frag) : Bool := (["block", "key"] : List Str).all fun x => He.eqO (PySem.W.findIn K (.ref (He.ga K "KeyedWorld")) x) (some none)
def e_nAnyWorld (K : PySem.W.Frag) : Bool := (["tape", "l", "m", "told"] : List Str).all fun x => He.eqO (PySem.W.findIn K (.ref (He.ga K "AnyWorld")) x) (some none)
def e_nSecretWorld (K : PySem.W.Frag) : Bool := (["tape", "world", "l", "m", "b"] : List Str).all fun x => He.eqO (PySem.W.findIn K (.ref (He.ga K "SecretWorld")) x) (some none)
def e_nMarkWorld (K : PySem.W.Frag) : Bool := (["world", "asked"] : List Str).all fun x => He.eqO (PySem.W.findIn K (.ref (He.ga K "MarkWorld")) x) (some none)
def e_nStopped (K : PySem.W.Frag) : Bool := (["world"] : List Str).all fun x => He.eqO (PySem.W.findIn K (.ref (He.ga K "Stopped")) x) (some none)
def e_nTreeWorld (K : PySem.W.Frag) : Bool := (["tape", "block", "d", "turn", "level", "challenge", "pairs"] : List Str).all fun x => He.eqO (PySem.W.findIn K (.ref (He.ga K "TreeWorld")) x) (some none)
def e_nTape (K : PySem.W.Frag) : Bool := (["choices", "draws"] : List Str).all fun x => He.eqO (PySem.W.findIn K (.ref (He.ga K "Tape")) x) (some none)
def e_nPlay (K : PySem.W.Frag) : Bool := (["outcome", "said", "draws", "asked"] : List Str).all fun x => He.eqO (PySem.W.findIn K (.ref (He.ga K "Play")) x) (some none)
def e_nNotes (K : PySem.W.Frag) : Bool := (["world", "asked"] : List Str).all fun x => He.eqO (PySem.W.findIn K (.ref (He.ga K "Notes")) x) (some none)
def e_nTable (K : PySem.W.Frag) : Bool := (["game", "tape", "kind", "challenge", "world", "secret"] : List Str).all fun x => He.eqO (PySem.W.findIn K (.ref (He.ga K "Table")) x) (some none)
def e_nWays (K : PySem.W.Frag) : Bool := (["most", "many", "won"] : List Str).all fun x => He.eqO (PySem.W.findIn K (.ref (He.ga K "Ways")) x) (some none)
def e_silent (K : PySem.W.Frag) : Bool := PySem.W.makesIn K (He.ga K "Silent") && (He.eqO (PySem.W.findIn K (.ref (He.ga K "Silent")) "__init__") (some (some (.builtin "object.__init__"))) && PySem.W.keepIn K (.ref (He.ga K "Silent")))
def e_oKeyedWorld (K : PySem.W.Frag) : Bool := isoB K (He.ga K "KeyedWorld")
def e_oAnyWorld (K : PySem.W.Frag) : Bool := isoB K (He.ga K "AnyWorld")
def e_oSecretWorld (K : PySem.W.Frag) : Bool := isoB K (He.ga K "SecretWorld")
def e_oMarkWorld (K : PySem.W.Frag) : Bool := isoB K (He.ga K "MarkWorld")
def e_oTreeWorld (K : PySem.W.Frag) : Bool := isoB K (He.ga K "TreeWorld")
def e_oNotes (K : PySem.W.Frag) : Bool := isoB K (He.ga K "Notes")
def exL : List (PySem.W.Frag → Bool) := [e_gcd, e_plain, e_RUNS, e_SIZES, e_LAYERS, e_GOALS, e_noRun, e_gfn, e_isn, e_ist, e_nKeyedWorld, e_nAnyWorld, e_nSecretWorld, e_nMarkWorld, e_nStopped, e_nTreeWorld, e_nTape, e_nPlay, e_nNotes, e_nTable, e_nWays, e_silent, e_oKeyedWorld, e_oAnyWorld, e_oSecretWorld, e_oMarkWorld, e_oTreeWorld, e_oNotes]
def exA (K : PySem.W.Frag) : Bool := exL.all fun f => f K
/-! the Hook: some objects of the heap, their facts -/
def needL : List Addr := [3, 347, 375, 403, 483, 539, 612, 661, 803, 846, 874, 933, 1001, 577, 346, 374, 402, 482, 538, 611, 660, 802, 845, 873, 932, 1000, 576, 765, 808, 1029, 1058, 250, 1013, 1021, 1066, 48, 55, 60, 159, 164, 169, 176, 181, 188, 195, 202, 209, 214, 221, 228, 233, 248, 256, 263, 270, 275, 282, 289, 296, 303, 310, 317, 322, 329, 364, 371, 392, 399, 472, 479, 528, 535, 587, 601, 608, 622, 629, 643, 650, 657, 671, 678, 685, 692, 771, 785, 792, 799, 814, 821, 828, 842, 863, 870, 884, 891, 905, 912, 917, 922, 929, 943, 950, 957, 964, 969, 983, 990, 997, 1011, 1019, 1027, 1035, 1042, 1049, 1056, 1064, 1070, 1077, 1084, 1089, 1096, 1101, 1108, 1113, 1118, 1125, 1132, 1139, 1144, 49, 56, 61, 160, 165, 170, 177, 182, 189, 196, 203, 210, 215, 222, 229, 234, 249, 257, 264, 271, 276, 283, 290, 297, 304, 311, 318, 323, 330, 365, 372, 393, 400, 473, 480, 529, 536, 588, 602, 609, 623, 630, 644, 651, 658, 672, 679, 686, 693, 772, 786, 793, 800, 815, 822, 829, 843, 864, 871, 885, 892, 906, 913, 918, 923, 930, 944, 951, 958, 965, 970, 984, 991, 998, 1012, 1020, 1028, 1036, 1043, 1050, 1057, 1065, 1071, 1078, 1085, 1090, 1097, 1102, 1109, 1114, 1119, 1126, 1133, 1140, 1145]
def obsZ (as : List Addr) (g : Addr → Option Obj) : He.AlT × Bool := (He.obsT faL fnL tsL (He.frG g as), exA (He.frG g as))
def hookZ (as : List Addr) : PySem.W.Hook where
  α := He.AlT × Bool
  obs := fun s => obsZ as s.heap.get?
  val := fun w => (He.valT fnL tsL w, true)
  says := fun w h => ∃ K : PySem.W.Frag, K.In h ∧ He.SaysT faL fnL tsL w K ∧ exA K = true
  of := fun _ _ e => ⟨_, He.frG_in, congrArg (fun z : He.AlT × Bool => z.1) e, congrArg (fun z : He.AlT × Bool => z.2) e⟩
  keeps := fun _ _ _ ⟨K, hK, c⟩ k => ⟨K, PySem.W.Frag.In.keeps hK k, c⟩
abbrev rowR : PySem.W.OpenRow := PySem.W.OpenLaw.row PySem.Challenge.rw_breakback_k43_whole_two_layers
abbrev hkZ : PySem.W.Hook := hookZ needL
def obH (s : PySem.W.SharedT) : He.AlT × Bool := obsZ needL (HandSHeadRun.getT s)
theorem obH_eq (s : PySem.W.SharedT) : obH s = hkZ.obs s.abs := by
  have e : HandSHeadRun.getT s = s.abs.heap.get? := funext (HandSHeadRun.getT_eq s)
  show obsZ needL (HandSHeadRun.getT s) = obsZ needL s.abs.heap.get?
  rw [e]
def nmZ1 : List Str := ["bits", "number_of", "xor", "parity", "BreakError", "BadBlock", "BadBreaker", "BadGame", "BadScheme", "BadChoice", "TooMany", "MOST_LENGTH", "is_number", "is_bits", "is_row", "is_generator", "is_function", "check_block", "row_at", "value_at", "put_out", "longer", "go_down", "half"]
def nmZ2 : List Str := ["tree", "counter", "cut", "tree_turns", "PLAIN_WORDS", "MOST_BIT", "MOST_TOSSED", "MOST_DEPTH", "MOST_LAYERS", "MOST_WITHIN", "MOST_ASKS", "MOST_COUNTED", "is_plain", "are_parts", "inner_plain", "check_plain", "check_plain_breakers", "fits_longer", "fits_tree", "is_length", "fits_word", "has_plain_word", "check_breaker", "most_plain_asks", "most_asks"]
def nmZ3 : List Str := ["Silent", "KeyedWorld", "AnyWorld", "PermutationWorld", "SwapWorld", "SecretWorld", "OnceWorld", "MarkWorld", "OnetimeWorld", "made_string", "Stopped", "run_plain", "run_longer", "TreeWorld", "run_tree", "run_marks", "guessed", "run_secrets", "run_once", "run_opening", "run_onetime", "prefix_challenge", "run_next", "run_guess", "run_counter"]
def nmZ4 : List Str := ["run_cut", "run_bit", "squares_of", "run_hard", "RUNS", "run_breaker", "Tape", "SIZES", "is_truth", "is_right", "check_game", "Play", "Notes", "cover", "function_world", "Table", "played", "fraction", "add", "less", "next_choices", "Ways", "ways_of", "chance", "advantage"]
def nmZ5 : List Str := ["MOST_DEEP", "LAYERS", "layers_of", "tables_of", "built", "check_goal", "GOALS", "check_plain_schemes", "gain", "first_made", "carried", "_law_draws", "_law_take", "_law_string", "_law_parts", "_law_breaker", "_law_table", "_law_gcd", "_law_fraction", "_law_times"]
def namesZ : List Str := nmZ1 ++ nmZ2 ++ nmZ3 ++ nmZ4 ++ nmZ5
/-- the top run -/
noncomputable def WW (w : World) : Option (Shared × PySem.W.SharedT) := HandSHeadRun.wholeF (fun p => HandSHeadRun.stepQ (HandSHeadRun.denQ HandSHeadRun.tabQ) p w) HandSHeadRun.fenceQ 12000 rowR.prog
abbrev Kx (x : Shared × PySem.W.SharedT) : PySem.W.Frag := He.frG (HandSHeadRun.getT x.2) needL
/-! five looks at its end -/
open PySem.W PySem.Calls in
def P1 (w : World) : Prop := (WW w).map (fun x => HandSHeadRun.looksF rowR.prog x.1.heap x.2.abs) = some true
open PySem.W PySem.Calls in
def P2 (w : World) : Prop := (WW w).map (fun x => HandSHeadRun.seenQ (view rowR.prog [0, 132]) namesZ (importedModules rowR.prog.main.body) (fun s => xlAt (view rowR.prog [0, 132]) [] s && recOk rowR.toRowW.records s) x.2.abs) = some (openGood (view rowR.prog [0, 132]) namesZ)
def P3 (w : World) : Prop := (WW w).map (fun x => faL.all fun f => f.ok (Kx x)) = some true
def P4 (w : World) : Prop := (WW w).map (fun x => (fnL.map fun d => He.fnW (Kx x) d.at_, fnL.all fun d => d.ok (Kx x))) = some (fnL.map He.DefD.val, true)
def P5 (w : World) : Prop := (WW w).map (fun x => (tsL.map fun t => He.dicW (Kx x) (t.1 (Kx x)), exA (Kx x))) = some (tsL.map fun t => some (He.keysIn w.params t.2), true)
theorem p1F (w : World) : P1 (w.withFollow "special-get-raises" false) := by
  show _ = _
  kernel_rfl
theorem p1T (w : World) : P1 (w.withFollow "special-get-raises" true) := by
  show _ = _
  kernel_rfl
theorem p2F (w : World) : P2 (w.withFollow "special-get-raises" false) := by
  show _ = _
  kernel_rfl
theorem p2T (w : World) : P2 (w.withFollow "special-get-raises" true) := by
  show _ = _
  kernel_rfl
theorem p3F (w : World) : P3 (w.withFollow "special-get-raises" false) := by
  show _ = _
  kernel_rfl
theorem p3T (w : World) : P3 (w.withFollow "special-get-raises" true) := by
  show _ = _
  kernel_rfl
theorem p4F (w : World) : P4 (w.withFollow "special-get-raises" false) := by
  show _ = _
  kernel_rfl
theorem p4T (w : World) : P4 (w.withFollow "special-get-raises" true) := by
  show _ = _
  kernel_rfl
theorem p5F (w : World) : P5 (w.withFollow "special-get-raises" false) := by
  show _ = _
  kernel_rfl
theorem p5T (w : World) : P5 (w.withFollow "special-get-raises" true) := by
  show _ = _
  kernel_rfl
theorem p1 (w : World) : P1 w := PySem.W.byRow2 "special-get-raises" (P := P1) p1F p1T w
theorem p2 (w : World) : P2 w := PySem.W.byRow2 "special-get-raises" (P := P2) p2F p2T w
theorem p3 (w : World) : P3 w := PySem.W.byRow2 "special-get-raises" (P := P3) p3F p3T w
theorem p4 (w : World) : P4 w := PySem.W.byRow2 "special-get-raises" (P := P4) p4F p4T w
theorem p5 (w : World) : P5 w := PySem.W.byRow2 "special-get-raises" (P := P5) p5F p5T w
end BB
set_option Elab.async false
set_option linter.all false
set_option maxRecDepth 100000
set_option maxHeartbeats 1000000
/-! Part 0: bit strings, data as told by PyData, heaps that keep, the readings' steps. -/
namespace BB
open PySem PySem.Spec PyProof.Rows L2
/-! ### strings of bits -/
def bstr (l : List Bool) : Str := ⟨(l.map fun b => if b then 49 else 48).toArray⟩
theorem bstr_len (l : List Bool) : (bstr l).length = l.length := by simp [bstr, Str.length]
theorem bstr_inj {a b : List Bool} (h : bstr a = bstr b) : a = b := by
  have h1 : (a.map fun b => if b then 49 else 48) = (b.map fun b => if b then 49 else 48) := by
    have := congrArg (fun x : Str => x.cps.toList) h
    simpa [bstr] using this
  clear h
  induction a generalizing b with
  | nil => cases b with
    | nil => rfl
    | cons _ _ => simp at h1
  | cons x r ih => cases b with
    | nil => simp at h1
    | cons y s =>
      simp only [List.map_cons, List.cons.injEq] at h1
      have e : x = y := by
        cases x <;> cases y <;> simp at h1 <;> rfl
      rw [e, ih h1.2]
theorem st0 : ("0" : Str) = bstr [false] := by decide +kernel
theorem st1 : ("1" : Str) = bstr [true] := by decide +kernel
theorem stE : ("" : Str) = bstr [] := by decide +kernel
theorem bstr_app (a b : List Bool) : bstr a ++ bstr b = bstr (a ++ b) := by
  show (⟨_⟩ : Str) = ⟨_⟩
  simp [bstr]
theorem dec_bstr (a b : List Bool) : decide (V.str (bstr a) = V.str (bstr b)) = decide (a = b) := by
  by_cases h : a = b
  · subst h; simp
  · rw [decide_eq_false h, decide_eq_false]
    intro e
    exact h (bstr_inj (V.str.inj e))
theorem bstr_sl (l : List Bool) (lo hi : Option Int) : cutS (bstr l) lo hi = bstr ((l.drop (HT.sIx l.length 0 lo)).take (HT.sIx l.length l.length hi - HT.sIx l.length 0 lo)) := by
  unfold cutS
  rw [bstr_len]
  simp [bstr, List.map_take, List.map_drop]
theorem joinL_nil : ∀ ps : List (List Nat), TL.joinL [] ps = ps.flatten
  | [] => rfl
  | [p] => by simp [TL.joinL]
  | p :: q :: r => by
    show p ++ ([] ++ TL.joinL [] (q :: r)) = _
    rw [joinL_nil (q :: r)]
    simp
theorem join_bits (ls : List (List Bool)) : Txt.join (bstr []) (ls.map bstr) = bstr ls.flatten := by
  have e : (ls.map bstr) = (ls.map fun l => l.map fun b => if b then 49 else 48).map SX.S := by
    rw [List.map_map]; rfl
  rw [e]
  show Txt.join (SX.S []) _ = _
  rw [SX.join_S, joinL_nil]
  show SX.S _ = SX.S _
  rw [List.map_flatten]
theorem flat1 : ∀ l : List Bool, (l.map fun b => [b]).flatten = l
  | [] => rfl
  | b :: r => by rw [List.map_cons, List.flatten_cons, flat1 r]; rfl
theorem join_bits1 (l : List Bool) : Txt.join (bstr []) (l.map fun b => bstr [b]) = bstr l := by
  have h := join_bits (l.map fun b => [b])
  rw [List.map_map, flat1] at h
  exact h
/-! ### heaps that keep all but D -/
structure Ext (D : List Addr) (H H' : Hp) : Prop where
  keep : ∀ b o, b ∉ D → H b = some o → H' b = some o
  tup : ∀ b xs, H b = some (.tup xs) → H' b = some (.tup xs)
theorem Ext.refl {D : List Addr} (H : Hp) : Ext D H H := ⟨fun _ _ _ h => h, fun _ _ h => h⟩
theorem Ext.trans {D : List Addr} {H H1 H2 : Hp} (a : Ext D H H1) (b : Ext D H1 H2) : Ext D H H2 :=
  ⟨fun c o hc h => b.keep c o hc (a.keep c o hc h), fun c xs h => b.tup c xs (a.tup c xs h)⟩
theorem Ext.of {D : List Addr} {H H1 : Hp} (a : Same H H1) : Ext D H H1 := ⟨fun c o _ h => a c o h, fun c xs h => a c _ h⟩
theorem Ext.mono {D D' : List Addr} {H H1 : Hp} (a : Ext D H H1) (h : ∀ b ∈ D, b ∈ D') : Ext D' H H1 := ⟨fun c o hc e => a.keep c o (fun z => hc (h c z)) e, a.tup⟩
theorem Ext.same {H H1 : Hp} (a : Ext [] H H1) : Same H H1 := fun b o e => a.keep b o (by simp) e
theorem same_upd {H : Hp} {p : Addr} {o : HO} (h : H p = none) : Same H (upd H p o) := fun b x e => by
  rw [upd_ne (ne_of_none e h)]
  exact e
theorem Ext.put {D : List Addr} {H : Hp} {p : Addr} {o u : HO} (hp : p ∈ D) (h : H p = some u) (hu : ∀ xs, u ≠ .tup xs) : Ext D H (upd H p o) :=
  ⟨fun b x hb e => by rw [upd_ne (fun z => hb (by rw [z]; exact hp))]; exact e, fun b xs e => by
    rw [upd_ne (fun z => by subst z; rw [h] at e; exact hu xs (Option.some.inj e))]; exact e⟩
/-- what was new at the start may change -/
theorem _root_.L2.Same.putNew {H H1 : Hp} {p : Addr} {o : HO} (s : Same H H1) (h : H p = none) : Same H (upd H1 p o) := fun b x e => by
  rw [upd_ne (ne_of_none e h)]
  exact s b x e
theorem Ext.toSame {D : List Addr} {H H0 H1 : Hp} (a : Ext D H H1) (s : Same H0 H) (h : ∀ b ∈ D, H0 b = none) : Same H0 H1 := fun b o e =>
  a.keep b o (fun z => by rw [h b z] at e; cases e) (s b o e)
/-! ### data -/
mutual
def Td (H : Hp) : PyData → V → Prop
  | .none, v => v = .non
  | .bool b, v => v = .bl b
  | .int i, v => v = .int i
  | .str s, v => v = .str s
  | .tuple ds, v => ∃ a xs, v = .ref a ∧ H a = some (.tup xs) ∧ TdL H ds xs
  | .list _, _ => False
  | .dict _, _ => False
def TdL (H : Hp) : List PyData → List V → Prop
  | [], vs => vs = []
  | d :: ds, vs => ∃ v r, vs = v :: r ∧ Td H d v ∧ TdL H ds r
end
mutual
theorem Td.ext {D : List Addr} {H H' : Hp} (e : Ext D H H') : ∀ {d : PyData} {v : V}, Td H d v → Td H' d v
  | .none, _, h => h
  | .bool _, _, h => h
  | .int _, _, h => h
  | .str _, _, h => h
  | .tuple ds, _, h => by
    obtain ⟨a, xs, rfl, ha, hx⟩ := h
    exact ⟨a, xs, rfl, e.tup a xs ha, TdL.ext e hx⟩
  | .list _, _, h => h.elim
  | .dict _, _, h => h.elim
theorem TdL.ext {D : List Addr} {H H' : Hp} (e : Ext D H H') : ∀ {ds : List PyData} {vs : List V}, TdL H ds vs → TdL H' ds vs
  | [], _, h => h
  | d :: ds, _, h => by
    obtain ⟨v, r, rfl, h1, h2⟩ := h
    exact ⟨v, r, rfl, Td.ext e h1, TdL.ext e h2⟩
end
theorem Td.same {H H' : Hp} (e : Same H H') {d : PyData} {v : V} (h : Td H d v) : Td H' d v := Td.ext (Ext.of (D := []) e) h
theorem TdL.same {H H' : Hp} (e : Same H H') {d : List PyData} {v : List V} (h : TdL H d v) : TdL H' d v := TdL.ext (Ext.of (D := []) e) h
theorem TdL.len {H : Hp} : ∀ {ds : List PyData} {vs : List V}, TdL H ds vs → vs.length = ds.length
  | [], _, h => by cases h; rfl
  | d :: ds, _, h => by
    obtain ⟨v, r, rfl, _, h2⟩ := h
    rw [List.length_cons, List.length_cons, TdL.len h2]
theorem TdL.get {H : Hp} : ∀ {ds : List PyData} {vs : List V} {i : Nat} {d : PyData}, TdL H ds vs → ds[i]? = some d → ∃ v, vs[i]? = some v ∧ Td H d v
  | [], _, i, d, _, h => by simp at h
  | x :: ds, _, 0, d, h, e => by
    obtain ⟨v, r, rfl, h1, _⟩ := h
    simp only [List.getElem?_cons_zero, Option.some.injEq] at e
    subst e
    exact ⟨v, rfl, h1⟩
  | x :: ds, _, i + 1, d, h, e => by
    obtain ⟨v, r, rfl, _, h2⟩ := h
    rw [List.getElem?_cons_succ] at e
    obtain ⟨u, h3, h4⟩ := TdL.get h2 e
    exact ⟨u, by rw [List.getElem?_cons_succ]; exact h3, h4⟩
theorem TdL.drop {H : Hp} : ∀ {ds : List PyData} {vs : List V} (n : Nat), TdL H ds vs → TdL H (ds.drop n) (vs.drop n)
  | _, _, 0, h => by simpa using h
  | [], _, n + 1, h => by cases h; simp [TdL]
  | x :: ds, _, n + 1, h => by
    obtain ⟨v, r, rfl, _, h2⟩ := h
    simpa using TdL.drop n h2
theorem TdL.take {H : Hp} : ∀ {ds : List PyData} {vs : List V} (n : Nat), TdL H ds vs → TdL H (ds.take n) (vs.take n)
  | _, _, 0, h => by simp [TdL]
  | [], _, n + 1, h => by cases h; simp [TdL]
  | x :: ds, _, n + 1, h => by
    obtain ⟨v, r, rfl, h1, h2⟩ := h
    simp only [List.take_succ_cons]
    exact ⟨v, _, rfl, h1, TdL.take n h2⟩
theorem TdL.snoc {H : Hp} : ∀ {ds : List PyData} {vs : List V} {d : PyData} {v : V}, TdL H ds vs → Td H d v → TdL H (ds ++ [d]) (vs ++ [v])
  | [], _, d, v, h, hd => by cases h; exact ⟨v, [], rfl, hd, rfl⟩
  | x :: ds, _, d, v, h, hd => by
    obtain ⟨u, r, rfl, h1, h2⟩ := h
    exact ⟨u, _, rfl, h1, TdL.snoc h2 hd⟩
theorem TdL.strs {H : Hp} {α : Type} (f : α → Str) : ∀ {l : List α} {vs : List V}, TdL H (l.map fun x => .str (f x)) vs → vs = l.map fun x => V.str (f x)
  | [], _, h => h
  | x :: l, _, h => by
    obtain ⟨v, r, rfl, h1, h2⟩ := h
    rw [TdL.strs f h2, List.map_cons]
    exact congrArg (· :: _) h1
theorem TdL.ofStrs {H : Hp} {α : Type} (f : α → Str) : ∀ {l : List α}, TdL H (l.map fun x => .str (f x)) (l.map fun x => V.str (f x))
  | [] => rfl
  | x :: l => ⟨_, _, rfl, rfl, TdL.ofStrs f⟩
mutual
theorem Td.dp {K : PySem.W.Frag} {H : Hp} : ∀ {d : PyData} {v : V}, Td H d v → Dp K H v d
  | .none, _, h => by cases h; exact .non
  | .bool _, _, h => by cases h; exact .bl _
  | .int _, _, h => by cases h; exact .int _
  | .str _, _, h => by cases h; exact .str _
  | .tuple ds, _, h => by
    obtain ⟨a, xs, rfl, ha, hx⟩ := h
    exact .tup (SqT.of ha) (TdL.dp hx)
  | .list _, _, h => h.elim
  | .dict _, _, h => h.elim
theorem TdL.dp {K : PySem.W.Frag} {H : Hp} : ∀ {ds : List PyData} {vs : List V}, TdL H ds vs → DpAll K H vs ds
  | [], _, h => by cases h; exact .nil
  | d :: ds, _, h => by
    obtain ⟨v, r, rfl, h1, h2⟩ := h
    exact .cons (Td.dp h1) (TdL.dp h2)
end
theorem td_tup {H : Hp} {p : Addr} {xs : List V} {ds : List PyData} (h : H p = some (.tup xs)) (hx : TdL H ds xs) : Td H (.tuple ds) (.ref p) := ⟨p, xs, rfl, h, hx⟩
end BB
set_option Elab.async false
set_option linter.all false
set_option maxRecDepth 100000
set_option maxHeartbeats 4000000
/-! Part 1: the text's places, what the written part says, the scopes. -/
namespace BB
open PySem PySem.Spec PyProof.Rows L2
/-- a def of the top under the name x -/
structure FnF (K : PySem.W.Frag) (mg : Str → Option Value) (x nm : Str) (st : Stmt) (kws : List (Str × V)) : Prop where
  ex : ∃ (f : Addr) (fd : FuncData), FunD K nm nm (defArgs st) (defBody st) (defScope st) [] kws f fd ∧ mg x = some (.ref f)
/-- a method -/
structure MtF (K : PySem.W.Frag) (C : Addr) (m qual : Str) (st : Stmt) : Prop where
  ex : ∃ (f : Addr) (fd : FuncData), FunD K m qual (defArgs st) (defBody st) (defScope st) [] [] f fd ∧ Meth K C m f
/-- an __init__ -/
structure InF (K : PySem.W.Frag) (C : Addr) (qual : Str) (st : Stmt) : Prop where
  ex : ∃ (f : Addr) (fd : FuncData), FunD K "__init__" qual (defArgs st) (defBody st) (defScope st) [] [] f fd ∧ Mk K C f
/-- a table with text keys at a -/
def TabF (K : PySem.W.Frag) (w : World) (a : Addr) (rows : List (Str × V)) : Prop := (∃ es n, KDict K w a es n) ∧ ∀ q ∈ rows, ∃ u, PySem.W.nsIn K a q.1 = some (some u) ∧ RelV q.2 u
abbrev aSilent (K : PySem.W.Frag) : Addr := He.ga K "Silent"
abbrev aKeyedWorld (K : PySem.W.Frag) : Addr := He.ga K "KeyedWorld"
abbrev aAnyWorld (K : PySem.W.Frag) : Addr := He.ga K "AnyWorld"
abbrev aSecretWorld (K : PySem.W.Frag) : Addr := He.ga K "SecretWorld"
abbrev aMarkWorld (K : PySem.W.Frag) : Addr := He.ga K "MarkWorld"
abbrev aStopped (K : PySem.W.Frag) : Addr := He.ga K "Stopped"
abbrev aTreeWorld (K : PySem.W.Frag) : Addr := He.ga K "TreeWorld"
abbrev aTape (K : PySem.W.Frag) : Addr := He.ga K "Tape"
abbrev aPlay (K : PySem.W.Frag) : Addr := He.ga K "Play"
abbrev aNotes (K : PySem.W.Frag) : Addr := He.ga K "Notes"
abbrev aTable (K : PySem.W.Frag) : Addr := He.ga K "Table"
abbrev aWays (K : PySem.W.Frag) : Addr := He.ga K "Ways"
/-- what isinstance asks of an own class -/
structure IsO (K : PySem.W.Frag) (C : Addr) : Prop where
  ha : PySem.W.findIn K (.ref C) "__class__" = some (some (.builtin "object.__class__"))
  hm : PySem.W.mroIn K C (.type "object") = some true
  no : PySem.W.kitOne K (.ref C) (.ref (He.ga K "OnetimeWorld")) = some false
/-- what the written part says -/
structure Tx (w : World) (K : PySem.W.Frag) (mg : Str → Option Value) : Prop where
  f_len : mg "len" = none
  f_isinstance : mg "isinstance" = none
  f_all : mg "all" = none
  f_int : mg "int" = none
  f_max : mg "max" = none
  f_min : mg "min" = none
  f_sum : mg "sum" = none
  f_range : mg "range" = none
  f_zip : mg "zip" = none
  f_reversed : mg "reversed" = none
  f_enumerate : mg "enumerate" = none
  f_tuple : mg "tuple" = none
  f_list : mg "list" = none
  f_abs : mg "abs" = none
  f_sorted : mg "sorted" = none
  f_str : mg "str" = none
  f_bool : mg "bool" = none
  k_MOST_LENGTH : ∃ u, mg "MOST_LENGTH" = some u ∧ RelV (.int 40) u
  k_MOST_BIT : ∃ u, mg "MOST_BIT" = some u ∧ RelV (.int 9999) u
  k_MOST_TOSSED : ∃ u, mg "MOST_TOSSED" = some u ∧ RelV (.int 64) u
  k_MOST_DEPTH : ∃ u, mg "MOST_DEPTH" = some u ∧ RelV (.int 60) u
  k_MOST_LAYERS : ∃ u, mg "MOST_LAYERS" = some u ∧ RelV (.int 20) u
  k_MOST_WITHIN : ∃ u, mg "MOST_WITHIN" = some u ∧ RelV (.int 2000) u
  k_MOST_ASKS : ∃ u, mg "MOST_ASKS" = some u ∧ RelV (.int 1000) u
  k_MOST_COUNTED : ∃ u, mg "MOST_COUNTED" = some u ∧ RelV (.int 256) u
  k_MOST_DEEP : ∃ u, mg "MOST_DEEP" = some u ∧ RelV (.int 8) u
  k_gcd : mg "gcd" = some (.builtin "math.gcd")
  k_PLAIN_WORDS : ∃ u, mg "PLAIN_WORDS" = some u ∧ RelV (.ref (He.ga K "PLAIN_WORDS")) u
  plain : ∀ H, SqT K H (He.ga K "PLAIN_WORDS") [.str "say", .str "toss", .str "look", .str "ask"]
  k_RUNS : ∃ u, mg "RUNS" = some u ∧ RelV (.ref (He.ga K "RUNS")) u
  t_RUNS : TabF K w (He.ga K "RUNS") [("counter", .ref (He.ga K "run_counter")), ("cut", .ref (He.ga K "run_cut")), ("bit", .ref (He.ga K "run_bit")), ("longer", .ref (He.ga K "run_longer")), ("tree", .ref (He.ga K "run_tree")), ("marks", .ref (He.ga K "run_marks")), ("secrets", .ref (He.ga K "run_secrets")), ("once", .ref (He.ga K "run_once")), ("opening", .ref (He.ga K "run_opening")), ("onetime", .ref (He.ga K "run_onetime")), ("next", .ref (He.ga K "run_next")), ("guess", .ref (He.ga K "run_guess")), ("hard", .ref (He.ga K "run_hard"))]
  k_SIZES : ∃ u, mg "SIZES" = some u ∧ RelV (.ref (He.ga K "SIZES")) u
  t_SIZES : TabF K w (He.ga K "SIZES") [("generator", .int 3), ("function", .int 3), ("permutation", .int 2), ("swaps", .int 3), ("marks", .int 3), ("secrets", .int 4), ("once", .int 4), ("opening", .int 5), ("next", .int 3), ("inverse", .int 2), ("onetime", .int 3), ("hard", .int 2)]
  k_LAYERS : ∃ u, mg "LAYERS" = some u ∧ RelV (.ref (He.ga K "LAYERS")) u
  t_LAYERS : TabF K w (He.ga K "LAYERS") [("longer", .ref (He.ga K "longer")), ("tree", .ref (He.ga K "tree")), ("counter", .ref (He.ga K "counter")), ("cut", .ref (He.ga K "cut"))]
  k_GOALS : ∃ u, mg "GOALS" = some u ∧ RelV (.ref (He.ga K "GOALS")) u
  t_GOALS : TabF K w (He.ga K "GOALS") [("tell", .int 2), ("marks", .int 2), ("secrets", .int 2), ("once", .int 2), ("opening", .int 3), ("next", .int 2)]
  noRun : ∀ x ∈ (["say", "toss", "look", "ask"] : List Str), PySem.W.nsIn K (He.ga K "RUNS") x = some none
  g_fn : ∀ x ∈ (["longer", "tree", "run_longer", "run_tree", "run_marks", "run_secrets"] : List Str), mg x = some (.ref (He.ga K x))
  k_OnetimeWorld : ∃ u, mg "OnetimeWorld" = some u ∧ RelV (.ref (He.ga K "OnetimeWorld")) u
  isn : PySem.W.specialIn K (.builtin "object.__class__") "__get__" = some (some (.builtin "getset_descriptor.__get__"))
  ist : PySem.W.takesIn K (.builtin "object.__class__") = some true
  c_Silent : Cls K (aSilent K)
  g_Silent : mg "Silent" = some (.ref (aSilent K))
  c_KeyedWorld : Cls K (aKeyedWorld K)
  g_KeyedWorld : mg "KeyedWorld" = some (.ref (aKeyedWorld K))
  n_KeyedWorld : ∀ x ∈ (["block", "key"] : List Str), NoAttr K (aKeyedWorld K) x
  c_AnyWorld : Cls K (aAnyWorld K)
  g_AnyWorld : mg "AnyWorld" = some (.ref (aAnyWorld K))
  n_AnyWorld : ∀ x ∈ (["tape", "l", "m", "told"] : List Str), NoAttr K (aAnyWorld K) x
  c_SecretWorld : Cls K (aSecretWorld K)
  g_SecretWorld : mg "SecretWorld" = some (.ref (aSecretWorld K))
  n_SecretWorld : ∀ x ∈ (["tape", "world", "l", "m", "b"] : List Str), NoAttr K (aSecretWorld K) x
  c_MarkWorld : Cls K (aMarkWorld K)
  g_MarkWorld : mg "MarkWorld" = some (.ref (aMarkWorld K))
  n_MarkWorld : ∀ x ∈ (["world", "asked"] : List Str), NoAttr K (aMarkWorld K) x
  c_Stopped : Cls K (aStopped K)
  g_Stopped : mg "Stopped" = some (.ref (aStopped K))
  n_Stopped : ∀ x ∈ (["world"] : List Str), NoAttr K (aStopped K) x
  c_TreeWorld : Cls K (aTreeWorld K)
  g_TreeWorld : mg "TreeWorld" = some (.ref (aTreeWorld K))
  n_TreeWorld : ∀ x ∈ (["tape", "block", "d", "turn", "level", "challenge", "pairs"] : List Str), NoAttr K (aTreeWorld K) x
  c_Tape : Cls K (aTape K)
  g_Tape : mg "Tape" = some (.ref (aTape K))
  n_Tape : ∀ x ∈ (["choices", "draws"] : List Str), NoAttr K (aTape K) x
  c_Play : Cls K (aPlay K)
  g_Play : mg "Play" = some (.ref (aPlay K))
  n_Play : ∀ x ∈ (["outcome", "said", "draws", "asked"] : List Str), NoAttr K (aPlay K) x
  c_Notes : Cls K (aNotes K)
  g_Notes : mg "Notes" = some (.ref (aNotes K))
  n_Notes : ∀ x ∈ (["world", "asked"] : List Str), NoAttr K (aNotes K) x
  c_Table : Cls K (aTable K)
  g_Table : mg "Table" = some (.ref (aTable K))
  n_Table : ∀ x ∈ (["game", "tape", "kind", "challenge", "world", "secret"] : List Str), NoAttr K (aTable K) x
  c_Ways : Cls K (aWays K)
  g_Ways : mg "Ways" = some (.ref (aWays K))
  n_Ways : ∀ x ∈ (["most", "many", "won"] : List Str), NoAttr K (aWays K) x
  silent : PySem.W.makesIn K (aSilent K) = true ∧ PySem.W.findIn K (.ref (aSilent K)) "__init__" = some (some (.builtin "object.__init__")) ∧ PySem.W.keepIn K (.ref (aSilent K)) = true
  o_KeyedWorld : IsO K (aKeyedWorld K)
  o_AnyWorld : IsO K (aAnyWorld K)
  o_SecretWorld : IsO K (aSecretWorld K)
  o_MarkWorld : IsO K (aMarkWorld K)
  o_TreeWorld : IsO K (aTreeWorld K)
  o_Notes : IsO K (aNotes K)
  fn_bits : FnF K mg "bits" "bits" (topS 2) []
  fn_number_of : FnF K mg "number_of" "number_of" (topS 3) []
  fn_xor : FnF K mg "xor" "xor" (topS 4) []
  fn_is_number : FnF K mg "is_number" "is_number" (topS 16) []
  fn_is_bits : FnF K mg "is_bits" "is_bits" (topS 17) []
  fn_is_row : FnF K mg "is_row" "is_row" (topS 18) []
  fn_is_generator : FnF K mg "is_generator" "is_generator" (topS 19) []
  fn_is_function : FnF K mg "is_function" "is_function" (topS 20) []
  fn_check_block : FnF K mg "check_block" "check_block" (topS 21) []
  fn_row_at : FnF K mg "row_at" "row_at" (topS 22) []
  fn_value_at : FnF K mg "value_at" "value_at" (topS 23) []
  fn_put_out : FnF K mg "put_out" "put_out" (topS 24) []
  fn_longer : FnF K mg "longer" "longer" (topS 25) []
  fn_go_down : FnF K mg "go_down" "go_down" (topS 26) []
  fn_half : FnF K mg "half" "half" (topS 27) []
  fn_tree : FnF K mg "tree" "tree" (topS 28) []
  fn_tree_turns : FnF K mg "tree_turns" "tree_turns" (topS 31) []
  fn_is_plain : FnF K mg "is_plain" "is_plain" (topS 41) []
  fn_are_parts : FnF K mg "are_parts" "are_parts" (topS 42) []
  fn_inner_plain : FnF K mg "inner_plain" "inner_plain" (topS 43) []
  fn_check_plain_breakers : FnF K mg "check_plain_breakers" "check_plain" (topS 44) []
  fn_fits_longer : FnF K mg "fits_longer" "fits_longer" (topS 46) []
  fn_fits_tree : FnF K mg "fits_tree" "fits_tree" (topS 47) []
  fn_is_length : FnF K mg "is_length" "is_length" (topS 48) []
  fn_fits_word : FnF K mg "fits_word" "fits_word" (topS 49) []
  fn_has_plain_word : FnF K mg "has_plain_word" "has_plain_word" (topS 50) []
  fn_check_breaker : FnF K mg "check_breaker" "check_breaker" (topS 51) []
  fn_most_plain_asks : FnF K mg "most_plain_asks" "most_plain_asks" (topS 52) []
  fn_most_asks : FnF K mg "most_asks" "most_asks" (topS 53) []
  fn_KeyedWorld_init : InF K (aKeyedWorld K) "KeyedWorld.__init__" (inClass (topS 56) 0)
  fn_KeyedWorld_answer : MtF K (aKeyedWorld K) "answer" "KeyedWorld.answer" (inClass (topS 56) 1)
  fn_AnyWorld_init : InF K (aAnyWorld K) "AnyWorld.__init__" (inClass (topS 57) 0)
  fn_AnyWorld_answer : MtF K (aAnyWorld K) "answer" "AnyWorld.answer" (inClass (topS 57) 1)
  fn_SecretWorld_init : InF K (aSecretWorld K) "SecretWorld.__init__" (inClass (topS 60) 0)
  fn_SecretWorld_answer : MtF K (aSecretWorld K) "answer" "SecretWorld.answer" (inClass (topS 60) 1)
  fn_MarkWorld_init : InF K (aMarkWorld K) "MarkWorld.__init__" (inClass (topS 62) 0)
  fn_MarkWorld_answer : MtF K (aMarkWorld K) "answer" "MarkWorld.answer" (inClass (topS 62) 1)
  fn_made_string : FnF K mg "made_string" "made_string" (topS 65) []
  fn_Stopped_init : InF K (aStopped K) "Stopped.__init__" (inClass (topS 66) 0)
  fn_Stopped_now : MtF K (aStopped K) "now" "Stopped.now" (inClass (topS 66) 1)
  fn_run_plain : FnF K mg "run_plain" "run_plain" (topS 67) []
  fn_run_longer : FnF K mg "run_longer" "run_longer" (topS 68) []
  fn_TreeWorld_init : InF K (aTreeWorld K) "TreeWorld.__init__" (inClass (topS 69) 0)
  fn_TreeWorld_pair_of : MtF K (aTreeWorld K) "pair_of" "TreeWorld.pair_of" (inClass (topS 69) 1)
  fn_TreeWorld_answer : MtF K (aTreeWorld K) "answer" "TreeWorld.answer" (inClass (topS 69) 2)
  fn_run_tree : FnF K mg "run_tree" "run_tree" (topS 70) []
  fn_run_marks : FnF K mg "run_marks" "run_marks" (topS 71) []
  fn_guessed : FnF K mg "guessed" "guessed" (topS 72) []
  fn_run_secrets : FnF K mg "run_secrets" "run_secrets" (topS 73) []
  fn_run_breaker : FnF K mg "run_breaker" "run_breaker" (topS 86) []
  fn_Tape_init : InF K (aTape K) "Tape.__init__" (inClass (topS 88) 0)
  fn_Tape_draw : MtF K (aTape K) "draw" "Tape.draw" (inClass (topS 88) 1)
  fn_Tape_string : MtF K (aTape K) "string" "Tape.string" (inClass (topS 88) 2)
  fn_is_truth : FnF K mg "is_truth" "is_truth" (topS 91) []
  fn_is_right : FnF K mg "is_right" "is_right" (topS 92) []
  fn_check_game : FnF K mg "check_game" "check_game" (topS 93) []
  fn_Play_init : InF K (aPlay K) "Play.__init__" (inClass (topS 94) 0)
  fn_Notes_init : InF K (aNotes K) "Notes.__init__" (inClass (topS 95) 0)
  fn_Notes_answer : MtF K (aNotes K) "answer" "Notes.answer" (inClass (topS 95) 1)
  fn_cover : FnF K mg "cover" "cover" (topS 96) []
  fn_function_world : FnF K mg "function_world" "function_world" (topS 97) []
  fn_Table_init : InF K (aTable K) "Table.__init__" (inClass (topS 98) 0)
  fn_Table_begin_asks : MtF K (aTable K) "begin_asks" "Table.begin_asks" (inClass (topS 98) 1)
  fn_Table_begin_challenge : MtF K (aTable K) "begin_challenge" "Table.begin_challenge" (inClass (topS 98) 2)
  fn_Table_is_marked : MtF K (aTable K) "is_marked" "Table.is_marked" (inClass (topS 98) 3)
  fn_Table_has_won : MtF K (aTable K) "has_won" "Table.has_won" (inClass (topS 98) 4)
  fn_played : FnF K mg "played" "played" (topS 99) []
  fn_fraction : FnF K mg "fraction" "fraction" (topS 101) []
  fn_add : FnF K mg "add" "add" (topS 102) []
  fn_less : FnF K mg "less" "less" (topS 103) []
  fn_next_choices : FnF K mg "next_choices" "next_choices" (topS 104) []
  fn_Ways_init : InF K (aWays K) "Ways.__init__" (inClass (topS 105) 0)
  fn_Ways_count : MtF K (aWays K) "count" "Ways.count" (inClass (topS 105) 1)
  fn_Ways_chance : MtF K (aWays K) "chance" "Ways.chance" (inClass (topS 105) 2)
  fn_ways_of : FnF K mg "ways_of" "ways_of" (topS 106) []
  fn_chance : FnF K mg "chance" "chance" (topS 107) [("most", .int 300000)]
  fn_advantage : FnF K mg "advantage" "advantage" (topS 108) [("most", .int 300000)]
  fn_layers_of : FnF K mg "layers_of" "layers_of" (topS 112) []
  fn_tables_of : FnF K mg "tables_of" "tables_of" (topS 113) []
  fn_built : FnF K mg "built" "built" (topS 114) []
  fn_check_goal : FnF K mg "check_goal" "check_goal" (topS 115) []
  fn_check_plain_schemes : FnF K mg "check_plain_schemes" "check_plain" (topS 117) []
  fn_gain : FnF K mg "gain" "gain" (topS 119) [("most", .int 300000)]
  fn_first_made : FnF K mg "first_made" "first_made" (topS 120) []
  fn_carried : FnF K mg "carried" "carried" (topS 121) []
  fn_law_draws : FnF K mg "_law_draws" "_law_draws" (topS 123) []
  fn_law_take : FnF K mg "_law_take" "_law_take" (topS 124) []
  fn_law_string : FnF K mg "_law_string" "_law_string" (topS 125) []
  fn_law_parts : FnF K mg "_law_parts" "_law_parts" (topS 126) []
  fn_law_breaker : FnF K mg "_law_breaker" "_law_breaker" (topS 127) []
  fn_law_table : FnF K mg "_law_table" "_law_table" (topS 128) []
  fn_law_gcd : FnF K mg "_law_gcd" "_law_gcd" (topS 129) []
  fn_law_fraction : FnF K mg "_law_fraction" "_law_fraction" (topS 130) []
  fn_law_times : FnF K mg "_law_times" "_law_times" (topS 131) []
  fn_law : FnF K mg "law" "law" (topS 132) []
theorem sc_bits : FnScope ["length", "number", "signs", "_"] ["length", "number"] (defScope (topS 2)) := ⟨rfl, rfl, rfl, by decide +kernel, rfl, by decide +kernel, by decide +kernel⟩
theorem sc_number_of : FnScope ["string", "number", "sign"] ["string"] (defScope (topS 3)) := ⟨rfl, rfl, rfl, by decide +kernel, rfl, by decide +kernel, by decide +kernel⟩
theorem sc_xor : FnScope ["first", "second", "one", "two"] ["first", "second"] (defScope (topS 4)) := ⟨rfl, rfl, rfl, by decide +kernel, rfl, by decide +kernel, by decide +kernel⟩
theorem sc_is_number : FnScope ["value", "least", "most"] ["value", "least", "most"] (defScope (topS 16)) := ⟨rfl, rfl, rfl, by decide +kernel, rfl, by decide +kernel, by decide +kernel⟩
theorem sc_is_bits : FnScope ["value", "length", "sign"] ["value", "length"] (defScope (topS 17)) := ⟨rfl, rfl, rfl, by decide +kernel, rfl, by decide +kernel, by decide +kernel⟩
theorem sc_is_row : FnScope ["value", "many", "length", "one"] ["value", "many", "length"] (defScope (topS 18)) := ⟨rfl, rfl, rfl, by decide +kernel, rfl, by decide +kernel, by decide +kernel⟩
theorem sc_is_generator : FnScope ["block"] ["block"] (defScope (topS 19)) := ⟨rfl, rfl, rfl, by decide +kernel, rfl, by decide +kernel, by decide +kernel⟩
theorem sc_is_function : FnScope ["block", "one"] ["block"] (defScope (topS 20)) := ⟨rfl, rfl, rfl, by decide +kernel, rfl, by decide +kernel, by decide +kernel⟩
theorem sc_check_block : FnScope ["block"] ["block"] (defScope (topS 21)) := ⟨rfl, rfl, rfl, by decide +kernel, rfl, by decide +kernel, by decide +kernel⟩
theorem sc_row_at : FnScope ["block", "string"] ["block", "string"] (defScope (topS 22)) := ⟨rfl, rfl, rfl, by decide +kernel, rfl, by decide +kernel, by decide +kernel⟩
theorem sc_value_at : FnScope ["block", "key", "string"] ["block", "key", "string"] (defScope (topS 23)) := ⟨rfl, rfl, rfl, by decide +kernel, rfl, by decide +kernel, by decide +kernel⟩
theorem sc_put_out : FnScope ["block", "state", "many", "out", "_", "row"] ["block", "state", "many"] (defScope (topS 24)) := ⟨rfl, rfl, rfl, by decide +kernel, rfl, by decide +kernel, by decide +kernel⟩
theorem sc_longer : FnScope ["block", "k", "rows", "seed"] ["block", "k"] (defScope (topS 25)) := ⟨rfl, rfl, rfl, by decide +kernel, rfl, by decide +kernel, by decide +kernel⟩
theorem sc_go_down : FnScope ["block", "label", "path", "bit"] ["block", "label", "path"] (defScope (topS 26)) := ⟨rfl, rfl, rfl, by decide +kernel, rfl, by decide +kernel, by decide +kernel⟩
theorem sc_half : FnScope ["pair", "bit", "middle"] ["pair", "bit"] (defScope (topS 27)) := ⟨rfl, rfl, rfl, by decide +kernel, rfl, by decide +kernel, by decide +kernel⟩
theorem sc_tree : FnScope ["block", "d", "keys", "paths", "rows", "key", "path"] ["block", "d"] (defScope (topS 28)) := ⟨rfl, rfl, rfl, by decide +kernel, rfl, by decide +kernel, by decide +kernel⟩
theorem sc_tree_turns : FnScope ["d", "q", "level"] ["d", "q"] (defScope (topS 31)) := ⟨rfl, rfl, rfl, by decide +kernel, rfl, by decide +kernel, by decide +kernel⟩
theorem sc_is_plain : FnScope ["breaker"] ["breaker"] (defScope (topS 41)) := ⟨rfl, rfl, rfl, by decide +kernel, rfl, by decide +kernel, by decide +kernel⟩
theorem sc_are_parts : FnScope ["value", "part"] ["value"] (defScope (topS 42)) := ⟨rfl, rfl, rfl, by decide +kernel, rfl, by decide +kernel, by decide +kernel⟩
theorem sc_inner_plain : FnScope ["breaker", "word", "rest"] ["breaker"] (defScope (topS 43)) := ⟨rfl, rfl, rfl, by decide +kernel, rfl, by decide +kernel, by decide +kernel⟩
theorem sc_check_plain_breakers : FnScope ["breaker", "waiting", "within", "one", "depth", "inner", "other"] ["breaker"] (defScope (topS 44)) := ⟨rfl, rfl, rfl, by decide +kernel, rfl, by decide +kernel, by decide +kernel⟩
theorem sc_fits_longer : FnScope ["block", "k"] ["block", "k"] (defScope (topS 46)) := ⟨rfl, rfl, rfl, by decide +kernel, rfl, by decide +kernel, by decide +kernel⟩
theorem sc_fits_tree : FnScope ["block", "d", "q"] ["block", "d", "q"] (defScope (topS 47)) := ⟨rfl, rfl, rfl, by decide +kernel, rfl, by decide +kernel, by decide +kernel⟩
theorem sc_is_length : FnScope ["value"] ["value"] (defScope (topS 48)) := ⟨rfl, rfl, rfl, by decide +kernel, rfl, by decide +kernel, by decide +kernel⟩
theorem sc_fits_word : FnScope ["word", "parts"] ["word", "parts"] (defScope (topS 49)) := ⟨rfl, rfl, rfl, by decide +kernel, rfl, by decide +kernel, by decide +kernel⟩
theorem sc_has_plain_word : FnScope ["value"] ["value"] (defScope (topS 50)) := ⟨rfl, rfl, rfl, by decide +kernel, rfl, by decide +kernel, by decide +kernel⟩
theorem sc_check_breaker : FnScope ["breaker", "layers", "word"] ["breaker"] (defScope (topS 51)) := ⟨rfl, rfl, rfl, by decide +kernel, rfl, by decide +kernel, by decide +kernel⟩
theorem sc_most_plain_asks : FnScope ["breaker", "most", "waiting", "one", "asks", "inner"] ["breaker"] (defScope (topS 52)) := ⟨rfl, rfl, rfl, by decide +kernel, rfl, by decide +kernel, by decide +kernel⟩
theorem sc_most_asks : FnScope ["breaker", "more"] ["breaker"] (defScope (topS 53)) := ⟨rfl, rfl, rfl, by decide +kernel, rfl, by decide +kernel, by decide +kernel⟩
theorem sc_KeyedWorld_init : FnScope ["self", "tape", "block"] ["self", "tape", "block"] (defScope (inClass (topS 56) 0)) := ⟨rfl, rfl, rfl, by decide +kernel, rfl, by decide +kernel, by decide +kernel⟩
theorem sc_KeyedWorld_answer : FnScope ["self", "string"] ["self", "string"] (defScope (inClass (topS 56) 1)) := ⟨rfl, rfl, rfl, by decide +kernel, rfl, by decide +kernel, by decide +kernel⟩
theorem sc_AnyWorld_init : FnScope ["self", "tape", "l", "m"] ["self", "tape", "l", "m"] (defScope (inClass (topS 57) 0)) := ⟨rfl, rfl, rfl, by decide +kernel, rfl, by decide +kernel, by decide +kernel⟩
theorem sc_AnyWorld_answer : FnScope ["self", "string"] ["self", "string"] (defScope (inClass (topS 57) 1)) := ⟨rfl, rfl, rfl, by decide +kernel, rfl, by decide +kernel, by decide +kernel⟩
theorem sc_SecretWorld_init : FnScope ["self", "tape", "world", "l", "m", "b"] ["self", "tape", "world", "l", "m", "b"] (defScope (inClass (topS 60) 0)) := ⟨rfl, rfl, rfl, by decide +kernel, rfl, by decide +kernel, by decide +kernel⟩
theorem sc_SecretWorld_answer : FnScope ["self", "string", "r"] ["self", "string"] (defScope (inClass (topS 60) 1)) := ⟨rfl, rfl, rfl, by decide +kernel, rfl, by decide +kernel, by decide +kernel⟩
theorem sc_MarkWorld_init : FnScope ["self", "world"] ["self", "world"] (defScope (inClass (topS 62) 0)) := ⟨rfl, rfl, rfl, by decide +kernel, rfl, by decide +kernel, by decide +kernel⟩
theorem sc_MarkWorld_answer : FnScope ["self", "string"] ["self", "string"] (defScope (inClass (topS 62) 1)) := ⟨rfl, rfl, rfl, by decide +kernel, rfl, by decide +kernel, by decide +kernel⟩
theorem sc_made_string : FnScope ["parts", "handed", "found", "part"] ["parts", "handed"] (defScope (topS 65)) := ⟨rfl, rfl, rfl, by decide +kernel, rfl, by decide +kernel, by decide +kernel⟩
theorem sc_Stopped_init : FnScope ["self", "world"] ["self", "world"] (defScope (inClass (topS 66) 0)) := ⟨rfl, rfl, rfl, by decide +kernel, rfl, by decide +kernel, by decide +kernel⟩
theorem sc_Stopped_now : FnScope ["self"] ["self"] (defScope (inClass (topS 66) 1)) := ⟨rfl, rfl, rfl, by decide +kernel, rfl, by decide +kernel, by decide +kernel⟩
theorem sc_run_plain : FnScope ["breaker", "tape", "challenge", "world", "handed", "stopped"] ["breaker", "tape", "challenge", "world"] (defScope (topS 67)) := ⟨rfl, rfl, rfl, by decide +kernel, rfl, by decide +kernel, by decide +kernel⟩
theorem sc_run_longer : FnScope ["breaker", "tape", "challenge", "world", "_", "block", "k", "inner", "i", "first", "handed"] ["breaker", "tape", "challenge", "world"] (defScope (topS 68)) := ⟨rfl, rfl, rfl, by decide +kernel, rfl, by decide +kernel, by decide +kernel⟩
theorem sc_TreeWorld_init : FnScope ["self", "tape", "breaker", "challenge", "turns"] ["self", "tape", "breaker", "challenge"] (defScope (inClass (topS 69) 0)) := ⟨rfl, rfl, rfl, by decide +kernel, rfl, by decide +kernel, by decide +kernel⟩
theorem sc_TreeWorld_pair_of : FnScope ["self", "place", "n", "visited", "pair"] ["self", "place"] (defScope (inClass (topS 69) 1)) := ⟨rfl, rfl, rfl, by decide +kernel, rfl, by decide +kernel, by decide +kernel⟩
theorem sc_TreeWorld_answer : FnScope ["self", "string", "label"] ["self", "string"] (defScope (inClass (topS 69) 2)) := ⟨rfl, rfl, rfl, by decide +kernel, rfl, by decide +kernel, by decide +kernel⟩
theorem sc_run_tree : FnScope ["breaker", "tape", "challenge", "world"] ["breaker", "tape", "challenge", "world"] (defScope (topS 70)) := ⟨rfl, rfl, rfl, by decide +kernel, rfl, by decide +kernel, by decide +kernel⟩
theorem sc_run_marks : FnScope ["breaker", "tape", "challenge", "world", "_", "l", "m", "inner", "inner_world", "said"] ["breaker", "tape", "challenge", "world"] (defScope (topS 71)) := ⟨rfl, rfl, rfl, by decide +kernel, rfl, by decide +kernel, by decide +kernel⟩
theorem sc_guessed : FnScope ["said", "b"] ["said", "b"] (defScope (topS 72)) := ⟨rfl, rfl, rfl, by decide +kernel, rfl, by decide +kernel, by decide +kernel⟩
theorem sc_run_secrets : FnScope ["breaker", "tape", "challenge", "world", "_", "l", "m", "inner", "b"] ["breaker", "tape", "challenge", "world"] (defScope (topS 73)) := ⟨rfl, rfl, rfl, by decide +kernel, rfl, by decide +kernel, by decide +kernel⟩
theorem sc_run_breaker : FnScope ["breaker", "tape", "challenge", "world"] ["breaker", "tape", "challenge", "world"] (defScope (topS 86)) := ⟨rfl, rfl, rfl, by decide +kernel, rfl, by decide +kernel, by decide +kernel⟩
theorem sc_Tape_init : FnScope ["self", "choices"] ["self", "choices"] (defScope (inClass (topS 88) 0)) := ⟨rfl, rfl, rfl, by decide +kernel, rfl, by decide +kernel, by decide +kernel⟩
theorem sc_Tape_draw : FnScope ["self", "many", "at", "choice"] ["self", "many"] (defScope (inClass (topS 88) 1)) := ⟨rfl, rfl, rfl, by decide +kernel, rfl, by decide +kernel, by decide +kernel⟩
theorem sc_Tape_string : FnScope ["self", "length"] ["self", "length"] (defScope (inClass (topS 88) 2)) := ⟨rfl, rfl, rfl, by decide +kernel, rfl, by decide +kernel, by decide +kernel⟩
theorem sc_is_truth : FnScope ["value"] ["value"] (defScope (topS 91)) := ⟨rfl, rfl, rfl, by decide +kernel, rfl, by decide +kernel, by decide +kernel⟩
theorem sc_is_right : FnScope ["game", "kind", "rest", "right"] ["game"] (defScope (topS 92)) := ⟨rfl, rfl, rfl, by decide +kernel, rfl, by decide +kernel, by decide +kernel⟩
theorem sc_check_game : FnScope ["game"] ["game"] (defScope (topS 93)) := ⟨rfl, rfl, rfl, by decide +kernel, rfl, by decide +kernel, by decide +kernel⟩
theorem sc_Play_init : FnScope ["self", "outcome", "said", "draws", "asked"] ["self", "outcome", "said", "draws", "asked"] (defScope (inClass (topS 94) 0)) := ⟨rfl, rfl, rfl, by decide +kernel, rfl, by decide +kernel, by decide +kernel⟩
theorem sc_Notes_init : FnScope ["self", "world"] ["self", "world"] (defScope (inClass (topS 95) 0)) := ⟨rfl, rfl, rfl, by decide +kernel, rfl, by decide +kernel, by decide +kernel⟩
theorem sc_Notes_answer : FnScope ["self", "string", "found"] ["self", "string"] (defScope (inClass (topS 95) 1)) := ⟨rfl, rfl, rfl, by decide +kernel, rfl, by decide +kernel, by decide +kernel⟩
theorem sc_cover : FnScope ["tape", "block", "real"] ["tape", "block", "real"] (defScope (topS 96)) := ⟨rfl, rfl, rfl, by decide +kernel, rfl, by decide +kernel, by decide +kernel⟩
theorem sc_function_world : FnScope ["tape", "block", "real"] ["tape", "block", "real"] (defScope (topS 97)) := ⟨rfl, rfl, rfl, by decide +kernel, rfl, by decide +kernel, by decide +kernel⟩
theorem sc_Table_init : FnScope ["self", "game", "tape"] ["self", "game", "tape"] (defScope (inClass (topS 98) 0)) := ⟨rfl, rfl, rfl, by decide +kernel, rfl, by decide +kernel, by decide +kernel⟩
theorem sc_Table_begin_asks : FnScope ["self", "game", "tape"] ["self"] (defScope (inClass (topS 98) 1)) := ⟨rfl, rfl, rfl, by decide +kernel, rfl, by decide +kernel, by decide +kernel⟩
theorem sc_Table_begin_challenge : FnScope ["self", "game", "tape", "block", "row", "i", "string", "strings", "rows", "x", "r", "_"] ["self"] (defScope (inClass (topS 98) 2)) := ⟨rfl, rfl, rfl, by decide +kernel, rfl, by decide +kernel, by decide +kernel⟩
theorem sc_Table_is_marked : FnScope ["self", "said", "asked", "l", "m", "string", "answer"] ["self", "said", "asked"] (defScope (inClass (topS 98) 3)) := ⟨rfl, rfl, rfl, by decide +kernel, rfl, by decide +kernel, by decide +kernel⟩
theorem sc_Table_has_won : FnScope ["self", "said", "asked", "block"] ["self", "said", "asked"] (defScope (inClass (topS 98) 4)) := ⟨rfl, rfl, rfl, by decide +kernel, rfl, by decide +kernel, by decide +kernel⟩
theorem sc_played : FnScope ["game", "breaker", "choices", "tape", "table", "notes", "said", "outcome"] ["game", "breaker", "choices"] (defScope (topS 99)) := ⟨rfl, rfl, rfl, by decide +kernel, rfl, by decide +kernel, by decide +kernel⟩
theorem sc_fraction : FnScope ["numerator", "denominator", "divisor"] ["numerator", "denominator"] (defScope (topS 101)) := ⟨rfl, rfl, rfl, by decide +kernel, rfl, by decide +kernel, by decide +kernel⟩
theorem sc_add : FnScope ["first", "second"] ["first", "second"] (defScope (topS 102)) := ⟨rfl, rfl, rfl, by decide +kernel, rfl, by decide +kernel, by decide +kernel⟩
theorem sc_less : FnScope ["first", "second"] ["first", "second"] (defScope (topS 103)) := ⟨rfl, rfl, rfl, by decide +kernel, rfl, by decide +kernel, by decide +kernel⟩
theorem sc_next_choices : FnScope ["draws", "at", "choice", "many", "one", "_"] ["draws"] (defScope (topS 104)) := ⟨rfl, rfl, rfl, by decide +kernel, rfl, by decide +kernel, by decide +kernel⟩
theorem sc_Ways_init : FnScope ["self", "game", "breaker", "most", "choices", "play"] ["self", "game", "breaker", "most"] (defScope (inClass (topS 105) 0)) := ⟨rfl, rfl, rfl, by decide +kernel, rfl, by decide +kernel, by decide +kernel⟩
theorem sc_Ways_count : FnScope ["self", "play", "under", "_", "many"] ["self", "play"] (defScope (inClass (topS 105) 1)) := ⟨rfl, rfl, rfl, by decide +kernel, rfl, by decide +kernel, by decide +kernel⟩
theorem sc_Ways_chance : FnScope ["self", "total", "under"] ["self"] (defScope (inClass (topS 105) 2)) := ⟨rfl, rfl, rfl, by decide +kernel, rfl, by decide +kernel, by decide +kernel⟩
theorem sc_ways_of : FnScope ["game", "breaker", "most"] ["game", "breaker", "most"] (defScope (topS 106)) := ⟨rfl, rfl, rfl, by decide +kernel, rfl, by decide +kernel, by decide +kernel⟩
theorem sc_chance : FnScope ["game", "breaker", "most"] ["game", "breaker", "most"] (defScope (topS 107)) := ⟨rfl, rfl, rfl, by decide +kernel, rfl, by decide +kernel, by decide +kernel⟩
theorem sc_advantage : FnScope ["block", "breaker", "most", "real"] ["block", "breaker", "most"] (defScope (topS 108)) := ⟨rfl, rfl, rfl, by decide +kernel, rfl, by decide +kernel, by decide +kernel⟩
theorem sc_layers_of : FnScope ["scheme", "found"] ["scheme"] (defScope (topS 112)) := ⟨rfl, rfl, rfl, by decide +kernel, rfl, by decide +kernel, by decide +kernel⟩
theorem sc_tables_of : FnScope ["scheme", "block", "tables", "kind", "number"] ["scheme", "block"] (defScope (topS 113)) := ⟨rfl, rfl, rfl, by decide +kernel, rfl, by decide +kernel, by decide +kernel⟩
theorem sc_built : FnScope ["scheme", "block"] ["scheme", "block"] (defScope (topS 114)) := ⟨rfl, rfl, rfl, by decide +kernel, rfl, by decide +kernel, by decide +kernel⟩
theorem sc_check_goal : FnScope ["goal", "block", "table"] ["goal", "block"] (defScope (topS 115)) := ⟨rfl, rfl, rfl, by decide +kernel, rfl, by decide +kernel, by decide +kernel⟩
theorem sc_check_plain_schemes : FnScope ["goal", "block", "breaker"] ["goal", "block", "breaker"] (defScope (topS 117)) := ⟨rfl, rfl, rfl, by decide +kernel, rfl, by decide +kernel, by decide +kernel⟩
theorem sc_gain : FnScope ["goal", "block", "breaker", "most", "table", "kind", "real", "values", "games", "b"] ["goal", "block", "breaker", "most"] (defScope (topS 119)) := ⟨rfl, rfl, rfl, by decide +kernel, rfl, by decide +kernel, by decide +kernel⟩
theorem sc_first_made : FnScope ["goal", "table", "breaker", "kind"] ["goal", "table", "breaker"] (defScope (topS 120)) := ⟨rfl, rfl, rfl, by decide +kernel, rfl, by decide +kernel, by decide +kernel⟩
theorem sc_carried : FnScope ["goal", "block", "breaker", "tables", "made", "number", "k", "kind", "size", "inner", "asks"] ["goal", "block", "breaker"] (defScope (topS 121)) := ⟨rfl, rfl, rfl, by decide +kernel, rfl, by decide +kernel, by decide +kernel⟩
theorem sc_law_draws : FnScope ["_law_script", "_law_many", "_law_cell", "_law_rests", "_law_draws_here", "_law_k", "_law_at", "_law_mixed"] ["_law_script", "_law_many"] (defScope (topS 123)) := ⟨rfl, rfl, rfl, by decide +kernel, rfl, by decide +kernel, by decide +kernel⟩
theorem sc_law_take : FnScope ["_law_hand", "_law_many", "_law_at", "_law_draws_here"] ["_law_hand", "_law_many"] (defScope (topS 124)) := ⟨rfl, rfl, rfl, by decide +kernel, rfl, by decide +kernel, by decide +kernel⟩
theorem sc_law_string : FnScope ["_law_hand", "_law_length", "_law_k"] ["_law_hand", "_law_length"] (defScope (topS 125)) := ⟨rfl, rfl, rfl, by decide +kernel, rfl, by decide +kernel, by decide +kernel⟩
theorem sc_law_parts : FnScope ["_law_hand", "_law_length", "_law_found", "_law_k", "_law_kind"] ["_law_hand", "_law_length"] (defScope (topS 126)) := ⟨rfl, rfl, rfl, by decide +kernel, rfl, by decide +kernel, by decide +kernel⟩
theorem sc_law_breaker : FnScope ["_law_hand", "_law_depth", "_law_asks", "_law_length", "_law_said", "_law_kind", "_law_size", "_law_first", "_law_many", "_law_k"] ["_law_hand", "_law_depth", "_law_asks", "_law_length", "_law_said"] (defScope (topS 127)) := ⟨rfl, rfl, rfl, by decide +kernel, rfl, by decide +kernel, by decide +kernel⟩
theorem sc_law_table : FnScope ["_law_hand", "_law_n", "_law_m", "_law_rows", "_law_k"] ["_law_hand", "_law_n", "_law_m"] (defScope (topS 128)) := ⟨rfl, rfl, rfl, by decide +kernel, rfl, by decide +kernel, by decide +kernel⟩
theorem sc_law_gcd : FnScope ["_law_a", "_law_b", "_law_rest"] ["_law_a", "_law_b"] (defScope (topS 129)) := ⟨rfl, rfl, rfl, by decide +kernel, rfl, by decide +kernel, by decide +kernel⟩
theorem sc_law_fraction : FnScope ["_law_num", "_law_den", "_law_common"] ["_law_num", "_law_den"] (defScope (topS 130)) := ⟨rfl, rfl, rfl, by decide +kernel, rfl, by decide +kernel, by decide +kernel⟩
theorem sc_law_times : FnScope ["_law_first", "_law_number"] ["_law_first", "_law_number"] (defScope (topS 131)) := ⟨rfl, rfl, rfl, by decide +kernel, rfl, by decide +kernel, by decide +kernel⟩
theorem sc_law : FnScope ["_law_script", "_law_hand", "_law_name", "_law_levels", "_law_n", "_law_block", "_law_scheme", "_law_table_here", "_law_length", "_law_said", "_law_breaker_here", "_law_due", "_law_made", "_law_number", "_law_asks", "_law_turns", "_law_level"] ["_law_script"] (defScope (topS 132)) := ⟨rfl, rfl, rfl, by decide +kernel, rfl, by decide +kernel, by decide +kernel⟩
/-! ### the rules for a def, a method, an __init__ -/
/-- a promise with the number of its arguments -/
def spN (n : Nat) (sp : Sp) : Sp := fun vs H Q E => vs.length = n ∧ sp vs H Q E
section
variable {P : Program} {w : World} {K : PySem.W.Frag} {mg : Str → Option Value} {base : Heap}
theorem mkFn {x nm : Str} {st : Stmt} {N ps : List Str} {k : Nat} {sp : Sp} (F : FnF K mg x nm st []) (S : FnScope N ps (defScope st))
    (hb : ∀ (kV doc pm : Value) (an : Option Addr) (cdv ct : Value) (us : List Value), us.length = ps.length → bindArgs (PySem.W.fnOf nm nm (defArgs st) (defBody st) (defScope st) .none kV doc pm an cdv ct) ⟨us, []⟩ = pure (ps.zip us))
    (hbody : ∀ (f : Addr) (cdv : Value) (A : Around) (outer : List Env) (s : Shared) (H : Hp) (vs : List V) (Q : VK) (E : XK), Room k (A.deeper (envOfC nm (defScope st) s.heap.objs.size f cdv)) → vs.length = ps.length → sp vs H Q E →
      ∃ t, PSs (cxOf CX0 P w K mg base N nm (defScope st) f cdv A outer s H E).nox (defBody st) t ∧ t { nx := fun _ H' => Q .non H', rt := Q } (start N vs) H) : C8.Cal P w K mg base (k + 1) x (spN ps.length sp) [] := by
  obtain ⟨f, fd, F, hm⟩ := F.ex
  refine ⟨f, fd, ps, [], F.ok S (fun vs H Q E h => h.1) (fun cdv A outer s H vs Q E hr h => ?_), hm, F.kp, F.bindsN hb, .nil⟩
  obtain ⟨t, h1, h2⟩ := hbody f cdv A outer s H vs Q E hr h.1 h.2
  exact ⟨t, h1.nox, h2⟩
theorem mkMt {m qual : Str} {C : Addr} {st : Stmt} {N ps : List Str} {k : Nat} {sp : Sp} (c : Cls K C) (F : MtF K C m qual st) (S : FnScope N ps (defScope st))
    (hb : ∀ (kV doc pm : Value) (an : Option Addr) (cdv ct : Value) (us : List Value), us.length = ps.length → bindArgs (PySem.W.fnOf m qual (defArgs st) (defBody st) (defScope st) .none kV doc pm an cdv ct) ⟨us, []⟩ = pure (ps.zip us))
    (hbody : ∀ (f : Addr) (cdv : Value) (A : Around) (outer : List Env) (s : Shared) (H : Hp) (vs : List V) (Q : VK) (E : XK), Room k (A.deeper (envOfC qual (defScope st) s.heap.objs.size f cdv)) → vs.length = ps.length → sp vs H Q E →
      ∃ t, PSs (cxOf CX0 P w K mg base N qual (defScope st) f cdv A outer s H E).nox (defBody st) t ∧ t { nx := fun _ H' => Q .non H', rt := Q } (start N vs) H) : C8.Met P w K mg base (k + 1) C m (spN ps.length sp) [] := by
  obtain ⟨f, fd, F, hm⟩ := F.ex
  refine ⟨f, fd, ps, [], c, hm, F.ok S (fun vs H Q E h => h.1) (fun cdv A outer s H vs Q E hr h => ?_), F.bindsN hb, .nil⟩
  obtain ⟨t, h1, h2⟩ := hbody f cdv A outer s H vs Q E hr h.1 h.2
  exact ⟨t, h1.nox, h2⟩
theorem mkIn {x qual : Str} {C : Addr} {st : Stmt} {N ps : List Str} {k : Nat} {sp : Sp} (hc : mg x = some (.ref C)) (F : InF K C qual st) (S : FnScope N ps (defScope st))
    (hb : ∀ (kV doc pm : Value) (an : Option Addr) (cdv ct : Value) (us : List Value), us.length = ps.length → bindArgs (PySem.W.fnOf "__init__" qual (defArgs st) (defBody st) (defScope st) .none kV doc pm an cdv ct) ⟨us, []⟩ = pure (ps.zip us))
    (hbody : ∀ (f : Addr) (cdv : Value) (A : Around) (outer : List Env) (s : Shared) (H : Hp) (vs : List V) (Q : VK) (E : XK), Room k (A.deeper (envOfC qual (defScope st) s.heap.objs.size f cdv)) → vs.length = ps.length → sp vs H Q E →
      ∃ t, PSs (cxOf CX0 P w K mg base N qual (defScope st) f cdv A outer s H E).nox (defBody st) t ∧ t { nx := fun _ H' => Q .non H', rt := Q } (start N vs) H) : C8.Mak P w K mg base (k + 1) x C (spN ps.length sp) [] := by
  obtain ⟨f, fd, F, hm⟩ := F.ex
  refine ⟨f, fd, ps, [], hm, F.ok S (fun vs H Q E h => h.1) (fun cdv A outer s H vs Q E hr h => ?_), hc, F.bindsN hb, .nil⟩
  obtain ⟨t, h1, h2⟩ := hbody f cdv A outer s H vs Q E hr h.1 h.2
  exact ⟨t, h1.nox, h2⟩
end
end BB
set_option Elab.async false
set_option linter.all false
set_option maxRecDepth 100000
set_option maxHeartbeats 4000000
/-! Part 2: the readings' steps. -/
namespace BB
open PySem PySem.Spec PyProof.Rows L2
/-! ### the rules with the written part named -/
section
variable {X : Cx} {K : PySem.W.Frag}
theorem ixK (h : X.K = K := by rfl) : IxR X (rIx K) := by subst h; exact ix_seq
theorem isiK (h : X.K = K := by rfl) : CallR X (.builtin "isinstance") (rIsi K) := by subst h; exact call_isi
theorem lenK (h : X.K = K := by rfl) : CallR X (.builtin "len") (fun xs H Q => ∃ x n, xs = [x] ∧ LenV K x H n ∧ Q (.int n) H) := by subst h; exact call_len
theorem allK (hc : X.calm = true) (h : X.K = K := by rfl) : CallR X (.builtin "all") (rAll K) := by subst h; exact cr_all hc
theorem sumK (hc : X.calm = true) (h : X.K = K := by rfl) : CallR X (.builtin "sum") (rSum K) := by subst h; exact cr_sum hc
theorem tupK (h : X.K = K := by rfl) : CallR X (.type "tuple") (fun xs H Q => ∃ p ys, xs = [.ref p] ∧ ((SqL K H p ys ∧ ∀ l, H l = none → Q (.ref l) (upd H l (.tup ys))) ∨ (SqT K H p ys ∧ Q (.ref p) H))) := by subst h; exact call_tuple_of
theorem lstK (h : X.K = K := by rfl) : CallR X (.type "list") (fun xs H Q => ∃ p ys, xs = [.ref p] ∧ (SqL K H p ys ∨ SqT K H p ys) ∧ ∀ l, H l = none → Q (.ref l) (upd H l (.lst ys))) := by subst h; exact call_list_of
theorem inK (h : X.K = K := by rfl) : OpR X (compareOp .In) (rIn K false) := by subst h; exact op_in_seq
theorem notInK (h : X.K = K := by rfl) : OpR X (compareOp .NotIn) (rIn K true) := by subst h; exact op_notIn_seq
theorem slTK (h : X.K = K := by rfl) : SlR X (rSlA K) := by subst h; exact sl_tupA
theorem slLK (h : X.K = K := by rfl) : SlR X (rSlL K) := by subst h; exact sl_list
theorem catTK (h : X.K = K := by rfl) : OpR X (binaryOp .Add) (rCatA K) := by subst h; exact op_catA
theorem eqDK (hu : X.A.units + 64 < cLine) (h : X.K = K := by rfl) : OpR X (compareOp .Eq) (rEqD K) := by subst h; exact op_eqD hu
theorem neDK (hu : X.A.units + 64 < cLine) (h : X.K = K := by rfl) : OpR X (compareOp .NotEq) (rNeD K) := by subst h; exact op_neD hu
theorem fldK {e : Expr} {f : Str} {pos : Pos} {ta : TE} (he : PE X e ta) (hb : attributeBase e f X.env (eval e X.env) = eval e X.env) (h : X.K = K := by rfl) : PE X (.Attribute e f pos) (tFld K ta f) := by subst h; exact pe_fld he hb
theorem stK {o value : Expr} {f : Str} {pos pos' : Pos} {ta tv : TE} (ha : PE X o ta) (hv : PE X value tv) (hs : swapsWith value (some (.Attribute o f pos')) pos.line X.env = pure false) (h : X.K = K := by rfl) : PS X (.Assign [.Attribute o f pos'] value pos) (sFld K ta tv f) := by subst h; exact ps_fld ha hv hs
theorem stAugK {o value : Expr} {f : Str} {pos tpos : Pos} {ta tv : TE} {op : Operator} {rd : V → V → Hp → VK → Prop} (ha : PE X o ta) (hv : PE X value tv) (hop : InOp X op rd) (h : X.K = K := by rfl) : PS X (.AugAssign (.Attribute o f tpos) op value pos) (sFldAug K ta tv rd f) := by subst h; exact ps_fldaug ha hv hop
theorem piLK {tg l : Expr} {tl : TE} (hl : PE X l tl) (h : X.K = K := by rfl) : PI X tg l (iList K tl) := by subst h; exact pi_list hl
theorem piTK {tg l : Expr} {tl : TE} (hl : PE X l tl) (h : X.K = K := by rfl) : PI X tg l (iTup K tl) := by subst h; exact pi_tup hl
theorem pgTK {es : List Expr} {k : Nat} {t : TGs} {pos : Pos} {n : Nat} (hc : X.calm = true) (h : PGs X es t) (hn : (assignEach es X.env).length = n := by rfl) (hst : (assignEach es X.env).findIdx? (·.1) = none := by rfl) (hk : X.K = K := by rfl) : PG X (.Tuple es k pos) (gTup K n t) := by subst hk; exact pg_tup hc h hn hst
theorem bmK {T id : String} {name : Str} {r : V → List V → Hp → VK → Prop} {o e : Expr} {es : List Expr} {to : TE} {t : TA} {apos cpos : Pos} (pa : PlainAttrs T) (slot : Slot T name id) (hty : typeOf (.builtin id) = pure (.type "method_descriptor")) (hm : MtR X id r) (ho : PE X o to) (ha : PA X (e :: es) t)
    (hbase : attributeBase o name X.env (eval o X.env) = eval o X.env := by rfl)
    (hfew : ((backTo cpos (starEach (e :: es) X.env)).all (fun x => !x.1) && (backToKw cpos (keywordEach [] X.env)).all (fun x => x.1.isSome)
      && decide ((e :: es).length + ([] : List Keyword).length + (if ([] : List Keyword).isEmpty then 0 else 1) < 30)) = true := by rfl)
    (hline : (apos.endLine == cpos.line) = true := by rfl) (hs : starEach (e :: es) X.env = (false, eval e X.env) :: starEach es X.env := by rfl) (hplain : (backTo cpos (starEach es X.env)).any (·.1) = false := by rfl) (hk : X.K = K := by rfl) :
    PE X (.Call (.Attribute o name apos) (e :: es) [] cpos) (tBM K T r to t) := by subst hk; exact pe_bm pa slot hty hm ho ha hbase hfew hline hs hplain
end
def rAddS : R2 := fun x y H Q => ∃ i j, x = .str i ∧ y = .str j ∧ i.length + j.length ≤ sizeLine ∧ Q (.str (i ++ j)) H
theorem op_addS {X : Cx} : OpR X (binaryOp .Add) rAddS := op_add_str
/-! ### built-ins by name -/
theorem bt_len : bootBuiltins "len" = some (.builtin "len") := by decide +kernel
theorem bt_isinstance : bootBuiltins "isinstance" = some (.builtin "isinstance") := by decide +kernel
theorem bt_all : bootBuiltins "all" = some (.builtin "all") := by decide +kernel
theorem bt_max : bootBuiltins "max" = some (.builtin "max") := by decide +kernel
theorem bt_min : bootBuiltins "min" = some (.builtin "min") := by decide +kernel
theorem bt_sum : bootBuiltins "sum" = some (.builtin "sum") := by decide +kernel
theorem bt_abs : bootBuiltins "abs" = some (.builtin "abs") := by decide +kernel
theorem bt_sorted : bootBuiltins "sorted" = some (.builtin "sorted") := by decide +kernel
theorem bt_int : bootBuiltins "int" = some (.type "int") := by decide +kernel
theorem bt_tuple : bootBuiltins "tuple" = some (.type "tuple") := by decide +kernel
theorem bt_list : bootBuiltins "list" = some (.type "list") := by decide +kernel
theorem bt_str : bootBuiltins "str" = some (.type "str") := by decide +kernel
theorem bt_bool : bootBuiltins "bool" = some (.type "bool") := by decide +kernel
section
variable {K : PySem.W.Frag} {σ : L2.St} {H : Hp} {Q : VK} {D : Ends} {v x y : V}
theorem r_var {i : Nat} (e : σ[i]? = some (some v)) (q : Q v H) : tVar i σ H Q := ⟨v, e, q⟩
theorem r_c (q : Q v H) : tC v σ H Q := q
theorem r_op {r : R2} {ta tb : TE} (h : ta σ H fun x H1 => tb σ H1 fun y H2 => r x y H2 Q) : tOp r ta tb σ H Q := h
theorem r_un {r : V → Hp → VK → Prop} {ta : TE} (h : ta σ H fun x H1 => r x H1 Q) : tUn r ta σ H Q := h
theorem r_I0 {g : Int → Int → V} {i j : Int} (q : Q (g i j) H) : rI0 g (.int i) (.int j) H Q := ⟨i, j, rfl, rfl, q⟩
theorem r_I {C : Int → Int → Prop} {g : Int → Int → V} {i j : Int} (c : C i j) (q : Q (g i j) H) : rI C g (.int i) (.int j) H Q := ⟨i, j, rfl, rfl, c, q⟩
theorem r_U {g : Int → V} {i : Int} (q : Q (g i) H) : rU g (.int i) H Q := ⟨i, rfl, q⟩
theorem r_eqS {a b : Str} (q : Q (.bl (decide (a = b))) H) : rEq (.str a) (.str b) H Q := ⟨rfl, by rw [show decide (V.str a = V.str b) = decide (a = b) by simp]; exact q⟩
theorem r_eqI {a b : Int} (q : Q (.bl (decide (a = b))) H) : rEq (.int a) (.int b) H Q := ⟨rfl, by rw [show decide (V.int a = V.int b) = decide (a = b) by simp]; exact q⟩
theorem r_eqB {a b : Bool} (q : Q (.bl (decide (a = b))) H) : rEq (.bl a) (.bl b) H Q := ⟨rfl, by rw [show decide (V.bl a = V.bl b) = decide (a = b) by simp]; exact q⟩
theorem r_neS {a b : Str} (q : Q (.bl (!decide (a = b))) H) : rNe (.str a) (.str b) H Q := ⟨rfl, by rw [show decide (V.str a = V.str b) = decide (a = b) by simp]; exact q⟩
theorem r_neI {a b : Int} (q : Q (.bl (!decide (a = b))) H) : rNe (.int a) (.int b) H Q := ⟨rfl, by rw [show decide (V.int a = V.int b) = decide (a = b) by simp]; exact q⟩
theorem r_test {t : TE} {Q : Bool → Hp → Prop} (h : t σ H fun x H' => ∃ k, x = .bl k ∧ Q k H') : tTest t σ H Q := h
theorem r_tB {t : TE} {Q : Bool → Hp → Prop} (h : t σ H fun x H' => ∃ k, x = .bl k ∧ Q k H') : tB t σ H Q := h
theorem r_bl {b : Bool} {R : Bool → Prop} (q : R b) : ∃ k, V.bl b = .bl k ∧ R k := ⟨b, rfl, q⟩
theorem r_and {t u : TT} {Q : Bool → Hp → Prop} (h : t σ H fun c H1 => if c = true then u σ H1 Q else Q false H1) : tAnd t u σ H Q := h
theorem r_or {t u : TT} {Q : Bool → Hp → Prop} (h : t σ H fun c H1 => if c = true then Q true H1 else u σ H1 Q) : tOr t u σ H Q := h
theorem r_not {t : TT} {Q : Bool → Hp → Prop} (h : t σ H fun c H1 => Q (!c) H1) : tNot t σ H Q := h
theorem r_andV {ta tb : TE} (h : ta σ H fun x H1 => ∃ c, x = .bl c ∧ if c = true then tb σ H1 Q else Q (.bl false) H1) : tAndV ta tb σ H Q := h
theorem r_orV {ta tb : TE} (h : ta σ H fun x H1 => ∃ c, x = .bl c ∧ if c = true then Q (.bl true) H1 else tb σ H1 Q) : tOrV ta tb σ H Q := h
theorem r_notV {ta : TE} (h : ta σ H fun x H1 => ∃ c, x = .bl c ∧ Q (.bl (!c)) H1) : tNotV ta σ H Q := h
theorem r_if {t : TT} {ta tb : TE} (h : t σ H fun c H1 => if c = true then ta σ H1 Q else tb σ H1 Q) : tIf t ta tb σ H Q := h
theorem r_ifS {c : TT} {t u : TS} (h : c σ H fun b H1 => if b = true then t D σ H1 else u D σ H1) : tIfS c t u D σ H := h
theorem r_chain {r r' : R2} {ta tb tc : TE} (h : ta σ H fun x H1 => tb σ H1 fun y H2 => r x y H2 fun z H3 => ∃ k, z = .bl k ∧ (if k = true then tc σ H3 fun w' H4 => r' y w' H4 Q else Q (.bl false) H3)) : tChain r r' ta tb tc σ H Q := h
theorem r_next (h : D.nx σ H) : tNext D σ H := h
theorem r_seq {t u : TS} (h : t { D with nx := u D } σ H) : tSeq t u D σ H := h
/-- the slots' list is kept short -/
theorem r_seqN {t u : TS} {σ' : L2.St} (e : σ = σ') (h : t { D with nx := u D } σ' H) : tSeq t u D σ H := by subst e; exact r_seq h
theorem r_ret {te : TE} (h : te σ H D.rt) : tRet te D σ H := h
theorem r_retN (h : D.rt .non H) : tRetN D σ H := h
theorem r_cont (h : D.ct σ H) : tCont D σ H := h
theorem r_drop {te : TE} (h : te σ H fun _ H1 => D.nx σ H1) : tDrop te D σ H := h
theorem r_asg {te : TE} {g : TG} (h : te σ H fun x H1 => g x σ H1 D.nx) : tAsg te g D σ H := h
theorem r_gN {i : Nat} {R : L2.St → Hp → Prop} (h : R (σ.set i (some v)) H) : gName i v σ H R := h
theorem r_aug {i : Nat} {te : TE} {ti : TIp} (e : σ[i]? = some (some x)) (h : te σ H fun y H1 => ti x y H1 fun z H2 => D.nx (σ.set i (some z)) H2) : tAug i te ti D σ H := ⟨x, e, h⟩
theorem r_ipI {f : Int → Int → Int} {i j : Int} (q : Q (.int (f i j)) H) : ipI f (.int i) (.int j) H Q := ⟨i, j, rfl, rfl, q⟩
theorem r_nil {Q : List V → Hp → Prop} (q : Q [] H) : tNil σ H Q := q
theorem r_cons {ta : TE} {tr : TA} {Q : List V → Hp → Prop} (h : ta σ H fun x H1 => tr σ H1 fun xs H2 => Q (x :: xs) H2) : tCons ta tr σ H Q := h
theorem r_cb {r : List V → Hp → VK → Prop} {t : TA} (h : t σ H fun vs H1 => r vs H1 Q) : tCB r t σ H Q := h
theorem r_call {sp : Sp} {E : XK} {t : TA} (h : t σ H fun vs H1 => sp (vs ++ []) H1 Q E) : tCall sp [] E t σ H Q := h
theorem r_spN {n : Nat} {sp : Sp} {vs : List V} {E : XK} (hl : vs.length = n) (h : sp vs H Q E) : spN n sp vs H Q E := ⟨hl, h⟩
theorem r_tup {t : TA} (h : t σ H fun xs H1 => xs.length ≤ sizeLine ∧ ∀ p, H1 p = none → Q (.ref p) (upd H1 p (.tup xs))) : tTup t σ H Q := h
theorem r_lst {t : TA} (h : t σ H fun xs H1 => xs.length ≤ sizeLine ∧ ∀ p, H1 p = none → Q (.ref p) (upd H1 p (.lst xs))) : tLst t σ H Q := h
theorem small {n : Nat} (h : n ≤ 10000) : n ≤ sizeLine := Nat.le_trans h (by decide)
theorem smallL {n : Nat} (h : n ≤ 10000) : n < sizeLine := Nat.lt_of_le_of_lt h (by decide)
/-- a new tuple of told things -/
theorem r_newT {xs : List V} (hl : xs.length ≤ 10000) (h : ∀ p H1, Same H H1 → H p = none → H1 p = some (.tup xs) → Q (.ref p) H1) : xs.length ≤ sizeLine ∧ ∀ p, H p = none → Q (.ref p) (upd H p (.tup xs)) :=
  ⟨small hl, fun p hp => h p _ (same_upd hp) hp upd_same⟩
theorem r_newL {xs : List V} (hl : xs.length ≤ 10000) (h : ∀ p H1, Same H H1 → H p = none → H1 p = some (.lst xs) → Q (.ref p) H1) : xs.length ≤ sizeLine ∧ ∀ p, H p = none → Q (.ref p) (upd H p (.lst xs)) :=
  ⟨small hl, fun p hp => h p _ (same_upd hp) hp upd_same⟩
theorem r_new {o : HO} (h : ∀ p H1, Same H H1 → H p = none → H1 p = some o → Q (.ref p) H1) : ∀ p, H p = none → Q (.ref p) (upd H p o) := fun p hp => h p _ (same_upd hp) hp upd_same
theorem newE2 {o : HO} {p : Addr} {H H1 : Hp} (e : upd H p o = H1) (h : H p = none) : Same H H1 ∧ H1 p = some o := by subst e; exact ⟨same_upd h, upd_same⟩
theorem r_dnew (h : ∀ p H1, Same H H1 → H p = none → H1 p = some (.dK []) → Q (.ref p) H1) : tDNewK σ H Q := fun p hp => h p _ (same_upd hp) hp upd_same
/-- isinstance -/
theorem r_isi {b : Bool} {c : V} {t u : Value} (hc : ClsV c u) (ht : TyX K H x t) (hk : PySem.W.kitOne K t u = some b) (q : Q (.bl b) H) : rIsi K [x, c] H Q := ⟨x, c, t, u, b, rfl, hc, ht, hk, q⟩
def kind : PyData → String
  | .none => "NoneType"
  | .bool _ => "bool"
  | .int _ => "int"
  | .str _ => "str"
  | .tuple _ => "tuple"
  | .list _ => "list"
  | .dict _ => "dict"
theorem Td.ty {d : PyData} (h : Td H d v) : TyX K H v (.type (kind d)) := by
  cases d with
  | none => cases h; exact .base .non
  | bool b => cases h; exact .base (.bl b)
  | int i => cases h; exact .base (.int i)
  | str s => cases h; exact .base (.str s)
  | tuple ds => obtain ⟨a, xs, rfl, ha, _⟩ := h; exact .base (.tup ha)
  | list _ => exact h.elim
  | dict _ => exact h.elim
/-- isinstance of a told thing and a built-in class -/
theorem r_isiD {b : Bool} {n : String} {d : PyData} (h : Td H d v) (hk : kitB (kind d) n = some b) (q : Q (.bl b) H) : rIsi K [v, .ty n] H Q := r_isi (.ty n) (Td.ty h) (kit_ty hk) q
theorem kit_int_int : kitB "int" "int" = some true := by decide +kernel
theorem kit_int_str : kitB "int" "str" = some false := by decide +kernel
theorem kit_int_bool : kitB "int" "bool" = some false := by decide +kernel
theorem kit_int_tuple : kitB "int" "tuple" = some false := by decide +kernel
theorem kit_str_int : kitB "str" "int" = some false := by decide +kernel
theorem kit_str_str : kitB "str" "str" = some true := by decide +kernel
theorem kit_str_bool : kitB "str" "bool" = some false := by decide +kernel
theorem kit_str_tuple : kitB "str" "tuple" = some false := by decide +kernel
theorem kit_bool_int : kitB "bool" "int" = some true := by decide +kernel
theorem kit_bool_str : kitB "bool" "str" = some false := by decide +kernel
theorem kit_bool_bool : kitB "bool" "bool" = some true := by decide +kernel
theorem kit_bool_tuple : kitB "bool" "tuple" = some false := by decide +kernel
theorem kit_tuple_int : kitB "tuple" "int" = some false := by decide +kernel
theorem kit_tuple_str : kitB "tuple" "str" = some false := by decide +kernel
theorem kit_tuple_bool : kitB "tuple" "bool" = some false := by decide +kernel
theorem kit_tuple_tuple : kitB "tuple" "tuple" = some true := by decide +kernel
theorem r_isi_int {i : Int} {n : String} {b : Bool} (hk : kitB "int" n = some b) (q : Q (.bl b) H) : rIsi K [.int i, .ty n] H Q := r_isiD (d := .int i) rfl hk q
theorem r_isi_str {i : Str} {n : String} {b : Bool} (hk : kitB "str" n = some b) (q : Q (.bl b) H) : rIsi K [.str i, .ty n] H Q := r_isiD (d := .str i) rfl hk q
theorem r_isi_bl {i : Bool} {n : String} {b : Bool} (hk : kitB "bool" n = some b) (q : Q (.bl b) H) : rIsi K [.bl i, .ty n] H Q := r_isiD (d := .bool i) rfl hk q
theorem lenS {s : List Bool} (h : s.length ≤ 10000) : LenV K (.str (bstr s)) H s.length := ⟨by rw [bstr_len]; exact small h, (bstr_len s).symm⟩
theorem lenD {ds : List PyData} (h : Td H (.tuple ds) v) : LenV K v H ds.length := by
  obtain ⟨a, xs, rfl, ha, hx⟩ := h
  exact .inr ⟨xs, SqT.of ha, hx.len.symm⟩
theorem r_lenS {s : List Bool} {R : Nat → Prop} (hl : s.length ≤ 10000) (q : R s.length) : ∃ x n, [V.str (bstr s)] = [x] ∧ LenV K x H n ∧ R n := ⟨_, _, rfl, lenS hl, q⟩
theorem r_lenD {ds : List PyData} {R : Nat → Prop} (h : Td H (.tuple ds) v) (q : R ds.length) : ∃ x n, [v] = [x] ∧ LenV K x H n ∧ R n := ⟨_, _, rfl, lenD h, q⟩
theorem r_lenL {a : Addr} {xs : List V} {R : Nat → Prop} (h : H a = some (.lst xs)) (q : R xs.length) : ∃ x n, [V.ref a] = [x] ∧ LenV K x H n ∧ R n := ⟨_, _, rfl, .inl ⟨xs, SqL.of h, rfl⟩, q⟩
/-- t[i] of a told tuple -/
theorem r_ixD {ds : List PyData} {i : Int} {d : PyData} (hi : 0 ≤ i) (h : Td H (.tuple ds) v) (e : ds[i.toNat]? = some d) (q : ∀ u, Td H d u → Q u H) : rIx K v (.int i) H Q := by
  obtain ⟨a, xs, rfl, ha, hx⟩ := h
  obtain ⟨u, h1, h2⟩ := hx.get e
  have ei : i = ((i.toNat : Nat) : Int) := by omega
  exact .inr (.inl ⟨a, xs, _, u, rfl, rfl, SqT.of ha, by rw [ei]; exact atI_nat (by simpa using h1), q u h2⟩)
theorem r_ixDi {ds : List PyData} {i : Int} {j : Int} (hi : 0 ≤ i) (h : Td H (.tuple ds) v) (e : ds[i.toNat]? = some (.int j)) (q : Q (.int j) H) : rIx K v (.int i) H Q := r_ixD hi h e fun u hu => by cases (show u = _ from hu); exact q
theorem r_ixDs {ds : List PyData} {i : Int} {s : Str} (hi : 0 ≤ i) (h : Td H (.tuple ds) v) (e : ds[i.toNat]? = some (.str s)) (q : Q (.str s) H) : rIx K v (.int i) H Q := r_ixD hi h e fun u hu => by cases (show u = _ from hu); exact q
theorem r_ixDb {ds : List PyData} {i : Int} {s : Bool} (hi : 0 ≤ i) (h : Td H (.tuple ds) v) (e : ds[i.toNat]? = some (.bool s)) (q : Q (.bl s) H) : rIx K v (.int i) H Q := r_ixD hi h e fun u hu => by cases (show u = _ from hu); exact q
/-- a list's item -/
theorem r_ixL {a : Addr} {xs : List V} {i : Int} {u : V} (hi : 0 ≤ i) (h : H a = some (.lst xs)) (e : xs[i.toNat]? = some u) (q : Q u H) : rIx K (.ref a) (.int i) H Q :=
  .inl ⟨a, xs, _, u, rfl, rfl, SqL.of h, by rw [show i = ((i.toNat : Nat) : Int) by omega]; exact atI_nat (by simpa using e), q⟩
theorem r_ixLlast {a : Addr} {xs : List V} {u : V} (h : H a = some (.lst xs)) (e : xs.getLast? = some u) (q : Q u H) : rIx K (.ref a) (.int (-1)) H Q := by
  obtain ⟨ys, rfl⟩ : ∃ ys, xs = ys ++ [u] := List.getLast?_eq_some_iff.mp e
  exact .inl ⟨a, _, _, u, rfl, rfl, SqL.of h, atI_last ys u, q⟩
/-- a sign of a string of bits -/
theorem bstr_at {l : List Bool} {i : Nat} {b : Bool} (e : l[i]? = some b) : (bstr l).cps.toList[i]? = some (if b then 49 else 48) := by
  simp [bstr, e]
theorem bstr_one (b : Bool) : (⟨#[if b then 49 else 48]⟩ : Str) = bstr [b] := by cases b <;> rfl
theorem r_ixS {l : List Bool} {i : Int} {b : Bool} (hi : 0 ≤ i) (hl : l.length ≤ 10000) (e : l[i.toNat]? = some b) (q : Q (.str (bstr [b])) H) : rIx K (.str (bstr l)) (.int i) H Q :=
  .inr (.inr ⟨_, _, _, rfl, rfl, by rw [bstr_len]; exact small hl, by rw [show i = ((i.toNat : Nat) : Int) by omega]; exact atI_nat (bstr_at (by simpa using e)), by rw [bstr_one]; exact q⟩)
theorem r_ixSlast {l : List Bool} {b : Bool} (hl : l.length ≤ 10000) (e : l.getLast? = some b) (q : Q (.str (bstr [b])) H) : rIx K (.str (bstr l)) (.int (-1)) H Q := by
  obtain ⟨ys, rfl⟩ : ∃ ys, l = ys ++ [b] := List.getLast?_eq_some_iff.mp e
  refine .inr (.inr ⟨_, _, _, rfl, rfl, by rw [bstr_len]; exact small hl, ?_, by rw [bstr_one]; exact q⟩)
  have e1 : (bstr (ys ++ [b])).cps.toList = (ys.map fun b => if b then 49 else 48) ++ [if b then 49 else 48] := by simp [bstr]
  rw [e1]
  exact atI_last _ _
theorem r_sl {r : V → Option Int → Option Int → Hp → VK → Prop} {te : TE} {tl th : TO} (h : te σ H fun x H1 => tl σ H1 fun l H2 => th σ H2 fun u H3 => r x l u H3 Q) : tSl r te tl th σ H Q := h
theorem r_noPart {R : Option Int → Hp → Prop} (h : R none H) : tNoPart σ H R := h
theorem r_part {te : TE} {R : Option Int → Hp → Prop} (h : te σ H fun x H1 => ∃ i, x = .int i ∧ R (some i) H1) : tPart te σ H R := h
theorem r_int {i : Int} {R : Int → Prop} (q : R i) : ∃ j, V.int i = .int j ∧ R j := ⟨i, rfl, q⟩
theorem r_slS {l m : List Bool} {lo hi : Option Int} (hl : l.length ≤ 10000) (e : (l.drop (HT.sIx l.length 0 lo)).take (HT.sIx l.length l.length hi - HT.sIx l.length 0 lo) = m) (q : Q (.str (bstr m)) H) : rSlS (.str (bstr l)) lo hi H Q :=
  ⟨_, rfl, by rw [bstr_len]; exact small hl, by rw [bstr_sl, e]; exact q⟩
theorem sIx_i (n d : Nat) (i : Int) (h : 0 ≤ i) : HT.sIx n d (some i) = min i.toNat n := by
  show (if i < 0 then (i + (n : Int)).toNat else min i.toNat n) = _
  rw [if_neg (by omega)]
theorem r_slTo {l : List Bool} {i : Int} (h : 0 ≤ i) (hl : l.length ≤ 10000) (q : Q (.str (bstr (l.take i.toNat))) H) : rSlS (.str (bstr l)) none (some i) H Q := by
  refine r_slS hl ?_ q
  rw [HT.sIx_none, sIx_i _ _ _ h, List.drop_zero, Nat.sub_zero, ← List.take_eq_take_min]
theorem r_slFrom {l : List Bool} {i : Int} (h : 0 ≤ i) (hl : l.length ≤ 10000) (q : Q (.str (bstr (l.drop i.toNat))) H) : rSlS (.str (bstr l)) (some i) none H Q := by
  refine r_slS hl ?_ q
  rw [HT.sIx_none, sIx_i _ _ _ h]
  by_cases hh : i.toNat ≤ l.length
  · rw [Nat.min_eq_left hh]
    exact List.take_of_length_le (by rw [List.length_drop]; omega)
  · rw [Nat.min_eq_right (by omega), List.drop_of_length_le (Nat.le_refl _), List.drop_of_length_le (by omega), List.take_nil]
theorem r_slAB {l : List Bool} {i j : Int} (h : 0 ≤ i) (hj : i ≤ j) (hl : l.length ≤ 10000) (q : Q (.str (bstr ((l.drop i.toNat).take (j.toNat - i.toNat)))) H) : rSlS (.str (bstr l)) (some i) (some j) H Q := by
  refine r_slS hl ?_ q
  rw [sIx_i _ _ _ h, sIx_i _ _ _ (by omega)]
  by_cases hh : i.toNat ≤ l.length
  · rw [Nat.min_eq_left hh, List.take_eq_take_iff, List.length_drop]
    omega
  · rw [Nat.min_eq_right (by omega : l.length ≤ i.toNat), List.drop_of_length_le (Nat.le_refl _), List.drop_of_length_le (by omega), List.take_nil, List.take_nil]
theorem r_slInit {l : List Bool} (hl : l.length ≤ 10000) (q : Q (.str (bstr l.dropLast)) H) : rSlS (.str (bstr l)) none (some (-1)) H Q := by
  refine r_slS hl ?_ q
  rw [HT.sIx_none, List.drop_zero, Nat.sub_zero, List.dropLast_eq_take]
  show l.take (if (-1 : Int) < 0 then ((-1 : Int) + (l.length : Int)).toNat else min (-1 : Int).toNat l.length) = _
  rw [if_pos (by decide)]
  congr 1
  omega
theorem r_addS {a b : List Bool} (hl : a.length + b.length ≤ 10000) (q : Q (.str (bstr (a ++ b))) H) : rAddS (.str (bstr a)) (.str (bstr b)) H Q :=
  ⟨_, _, rfl, rfl, by rw [bstr_len, bstr_len]; exact small hl, by rw [bstr_app]; exact q⟩
theorem r_ixDlast {ds : List PyData} {d : PyData} (h : Td H (.tuple ds) v) (e : ds.getLast? = some d) (q : ∀ u, Td H d u → Q u H) : rIx K v (.int (-1)) H Q := by
  obtain ⟨a, xs, rfl, ha, hx⟩ := h
  have e2 : ds[ds.length - 1]? = some d := by rw [← List.getLast?_eq_getElem?]; exact e
  obtain ⟨u, h1, h2⟩ := hx.get e2
  rw [← hx.len, ← List.getLast?_eq_getElem?] at h1
  obtain ⟨ys, rfl⟩ : ∃ ys, xs = ys ++ [u] := List.getLast?_eq_some_iff.mp h1
  exact .inr (.inl ⟨a, _, _, u, rfl, rfl, SqT.of ha, atI_last ys u, q u h2⟩)
theorem r_fld {ta : TE} {f : Str} (h : ta σ H fun x H1 => ∃ a C dx fs v, x = .ref a ∧ H1 a = some (.ins C dx fs) ∧ Cls K C ∧ NoAttr K C f ∧ fs.lookup f = some v ∧ Q v H1) : tFld K ta f σ H Q := h
theorem r_fld1 {a C dx : Addr} {fs : List (Str × V)} {f : Str} {R : V → Prop} (h : H a = some (.ins C dx fs)) (c : Cls K C) (n : NoAttr K C f) (l : fs.lookup f = some v) (q : R v) :
    ∃ a' C' dx' fs' v', V.ref a = .ref a' ∧ H a' = some (.ins C' dx' fs') ∧ Cls K C' ∧ NoAttr K C' f ∧ fs'.lookup f = some v' ∧ R v' := ⟨a, C, dx, fs, v, rfl, h, c, n, l, q⟩
theorem r_join {r : V → List V → Hp → VK → Prop} {to te : TE} (h : to σ H fun x H1 => (∃ a, x = .str a) ∧ te σ H1 fun y H2 => r x [y] H2 Q) : tM1 r to te σ H Q := h
theorem r_bm {T : String} {r : V → List V → Hp → VK → Prop} {to : TE} {t : TA} (h : to σ H fun x H1 => tyV K T x H1 ∧ t σ H1 fun xs H2 => r x xs H2 Q) : tBM K T r to t σ H Q := h
theorem r_bm0 {T : String} {r : V → List V → Hp → VK → Prop} {to : TE} (h : to σ H fun x H1 => tyV K T x H1 ∧ r x [] H1 Q) : tBM0 K T r to σ H Q := h
theorem tyL {a : Addr} {xs : List V} (h : H a = some (.lst xs)) : tyV K "list" (.ref a) H := .inl ⟨rfl, _, SqL.of h⟩
theorem r_app {a : Addr} {xs : List V} (h : H a = some (.lst xs)) (hl : xs.length ≤ 10000) (q : Q .non (upd H a (.lst (xs ++ [y])))) : rAppend (.ref a) [y] H Q := ⟨a, xs, y, rfl, rfl, h, smallL hl, q⟩
theorem r_tupOf {p : Addr} {ys : List V} (h : H p = some (.lst ys)) (q : ∀ l H1, Same H H1 → H l = none → H1 l = some (.tup ys) → Q (.ref l) H1) :
    (fun (xs : List V) (H : Hp) (Q : VK) => ∃ p ys, xs = [.ref p] ∧ ((SqL K H p ys ∧ ∀ l, H l = none → Q (.ref l) (upd H l (.tup ys))) ∨ (SqT K H p ys ∧ Q (.ref p) H))) [.ref p] H Q :=
  ⟨p, ys, rfl, .inl ⟨SqL.of h, fun l hl => q l _ (same_upd hl) hl upd_same⟩⟩
theorem r_int1b {b : Bool} (q : Q (.int (if b then 1 else 0)) H) : (fun (xs : List V) (H : Hp) (Q : VK) => (∃ i, xs = [.int i] ∧ Q (.int i) H) ∨ ∃ k, xs = [.bl k] ∧ Q (.int (if k then 1 else 0)) H) [.bl b] H Q := .inr ⟨b, rfl, q⟩
theorem r_int1i {i : Int} (q : Q (.int i) H) : (fun (xs : List V) (H : Hp) (Q : VK) => (∃ i, xs = [.int i] ∧ Q (.int i) H) ∨ ∃ k, xs = [.bl k] ∧ Q (.int (if k then 1 else 0)) H) [.int i] H Q := .inl ⟨i, rfl, q⟩
theorem r_yes {Q : Bool → Hp → Prop} (h : Q true H) : tYes σ H Q := h
theorem r_lc {wi : TI} {g : TG} {tt : TT} {te : TE} {vs : List Nat} (h : wi σ H fun J H1 => ∀ D, H1 D = none → ∃ W : Nat → Nat → Hp → Prop, (∃ m, W 0 m (upd H1 D (.lst []))) ∧ ∀ i m H, W i m H →
  (J.stop i H ∧ Q (.ref D) H) ∨ (J.go i H ∧ ∃ Nx : Hp → Prop, (∀ H', Nx H' → ∃ m', m' < m ∧ W (i + 1) m' H') ∧ ∀ x H', J.yld i H x H' → g x (wipe σ vs) H' fun σ2 H2 => wipe σ2 vs = wipe σ vs ∧ tt σ2 H2 fun b H3 =>
    if b = true then te σ2 H3 fun y H4 => ∃ acc, H4 D = some (.lst acc) ∧ acc.length < sizeLine ∧ Nx (upd H4 D (.lst (acc ++ [y]))) else Nx H3)) : tLc wi g tt te vs σ H Q := h
theorem iteNT {A B : Prop} (h : B) : if (!true) = true then A else B := h
theorem iteNF {A B : Prop} (h : A) : if (!false) = true then A else B := h
theorem ite_t {c A B : Prop} [Decidable c] (hc : c) (h : A) : if c then A else B := by rw [if_pos hc]; exact h
theorem ite_f {c A B : Prop} [Decidable c] (hc : ¬ c) (h : B) : if c then A else B := by rw [if_neg hc]; exact h
theorem r_iteC {c : Prop} [Decidable c] {a b : V} (q : Q (if c then a else b) H) : if c then tC a σ H Q else tC b σ H Q := by
  by_cases h : c
  · rw [if_pos h] at q ⊢; exact q
  · rw [if_neg h] at q ⊢; exact q
theorem r_revL {te : TE} (h : te σ H fun x H1 => ∃ a xs, x = .ref a ∧ SqL K H1 a xs ∧ ∀ p, H1 p = none → Q (.ref p) (upd H1 p (.lst xs.reverse))) : tRevL K te σ H Q := h
theorem r_rngI {ta : TA} {R : It → Hp → Prop} (h : ta σ H fun vs H1 => ∃ j : Int, vs = [.int j] ∧ -(2 ^ 62) ≤ j ∧ j < 2 ^ 62 ∧ R (Itr 0 j.toNat) H1) : iRng1 ta σ H R := h
theorem r_rng1 {n : Nat} {R : It → Prop} (hn : n < 2 ^ 62) (h : R (Itr 0 n)) : ∃ j : Int, [V.int (n : Nat)] = [.int j] ∧ -(2 ^ 62) ≤ j ∧ j < 2 ^ 62 ∧ R (Itr 0 j.toNat) :=
  ⟨_, rfl, by omega, by omega, by rw [Int.toNat_natCast]; exact h⟩
theorem r_iLst {tl : TE} {R : It → Hp → Prop} (h : tl σ H fun x H1 => ∃ a, x = .ref a ∧ (∃ xs, SqL K H1 a xs) ∧ R (Itl K a) H1) : iList K tl σ H R := h
theorem r_iTup {tl : TE} {R : It → Hp → Prop} (h : tl σ H fun x H1 => ∃ a, x = .ref a ∧ (∃ xs, SqT K H1 a xs) ∧ R (Itt K a) H1) : iTup K tl σ H R := h
theorem r_iStr {te : TE} {R : It → Hp → Prop} (h : te σ H fun v H1 => ∃ x, v = .str x ∧ R (Its x) H1) : iStr te σ H R := h
theorem r_for {wi : TI} {g : TG} {tb : TS} (h : wi σ H fun J H1 => ∃ W : Nat → Nat → L2.St → Hp → Prop, (∃ m, W 0 m σ H1) ∧ ∀ i m σ H, W i m σ H →
    (J.stop i H ∧ D.nx σ H) ∨ (J.go i H ∧ ∃ N : L2.St → Hp → Prop, (∀ σ' H', N σ' H' → ∃ m', m' < m ∧ W (i + 1) m' σ' H') ∧ ∀ x H', J.yld i H x H' → g x σ H' fun σ2 H2 => tb { D with nx := N, ct := N, bk := D.nx } σ2 H2)) : tFor wi g tb D σ H := h
end
end BB
set_option Elab.async false
set_option linter.all false
set_option maxRecDepth 100000
set_option maxHeartbeats 4000000
/-! Part A1: bits. -/
namespace BB
open PySem PySem.Spec PyProof.Rows L2
local macro_rules | `(tactic| walk_at "kit") => `(tactic| first | exact kit_int_int | exact kit_int_str | exact kit_int_bool | exact kit_int_tuple | exact kit_str_int | exact kit_str_str | exact kit_str_bool | exact kit_str_tuple | exact kit_bool_int | exact kit_bool_str | exact kit_bool_bool | exact kit_bool_tuple | exact kit_tuple_int | exact kit_tuple_str | exact kit_tuple_bool | exact kit_tuple_tuple)
local macro_rules | `(tactic| walk_at "side") => `(tactic| first | decide | omega | exact ⟨by decide, by decide⟩ | exact ⟨by omega, by omega, by decide⟩ | exact Or.inr ⟨by decide, by decide⟩ | exact Or.inl ⟨by decide, by decide⟩ | exact Or.inr ⟨by omega, by omega⟩ | exact Or.inl ⟨by omega, by omega⟩)
local macro_rules | `(tactic| walk_at "sm") => `(tactic| first | assumption | exact Same.refl _ | (refine' Same.trans ?_ (by assumption); walk_at "sm"))
local macro_rules | `(tactic| walk_at "td") => `(tactic| first | assumption | ((refine' Td.same ?a ?b); (case b => assumption); (case a => walk_at "sm")))
local macro_rules | `(tactic| walk_at "le") => `(tactic| first | assumption | omega | (simp; omega))
local macro_rules | `(tactic| walk_at "st") => `(tactic| with_reducible refine And.intro ⟨_, rfl⟩ ?_)
local macro_rules | `(tactic| walk_at "st") => `(tactic| with_reducible refine And.intro (tyL (by assumption)) ?_)
local macro_rules | `(tactic| walk_at "st") => `(tactic| ((with_reducible refine' r_addS ?e ?_); (case e => walk_at "le")))
local macro_rules | `(tactic| walk_at "st") => `(tactic| ((with_reducible refine' r_ixD ?hi ?h ?e ?_); (case hi => decide); (case h => walk_at "td"); (case e => exact rfl); intro u hu))
local macro_rules | `(tactic| walk_at "st") => `(tactic| ((with_reducible refine' r_ixDb ?hi ?h ?e ?_); (case hi => decide); (case h => walk_at "td"); (case e => exact rfl)))
local macro_rules | `(tactic| walk_at "st") => `(tactic| ((with_reducible refine' r_ixDs ?hi ?h ?e ?_); (case hi => decide); (case h => walk_at "td"); (case e => exact rfl)))
local macro_rules | `(tactic| walk_at "st") => `(tactic| ((with_reducible refine' r_ixDi ?hi ?h ?e ?_); (case hi => decide); (case h => walk_at "td"); (case e => exact rfl)))
local macro_rules | `(tactic| walk_at "st") => `(tactic| ((with_reducible refine' r_lenL ?e ?_); (case e => assumption)))
local macro_rules | `(tactic| walk_at "st") => `(tactic| ((with_reducible refine' r_lenD ?e ?_); (case e => walk_at "td")))
local macro_rules | `(tactic| walk_at "st") => `(tactic| ((with_reducible refine' r_lenS ?e ?_); (case e => walk_at "le")))
local macro_rules | `(tactic| walk_at "st") => `(tactic| ((with_reducible refine' r_isiD ?h ?e ?_); (case h => walk_at "td"); (case e => walk_at "kit")))
local macro_rules | `(tactic| walk_at "st") => `(tactic| ((with_reducible refine' r_isi_bl ?e ?_); (case e => walk_at "kit")))
local macro_rules | `(tactic| walk_at "st") => `(tactic| ((with_reducible refine' r_isi_str ?e ?_); (case e => walk_at "kit")))
local macro_rules | `(tactic| walk_at "st") => `(tactic| ((with_reducible refine' r_isi_int ?e ?_); (case e => walk_at "kit")))
local macro_rules | `(tactic| walk_at "st") => `(tactic| ((with_reducible refine r_I ?e ?_); (case e => walk_at "side")))
local macro_rules | `(tactic| walk_at "st") => `(tactic| with_reducible refine r_stF ?_)
local macro_rules | `(tactic| walk_at "st") => `(tactic| with_reducible refine r_make ?_)
local macro_rules | `(tactic| walk_at "st") => `(tactic| with_reducible refine r_meth ?_)
local macro_rules | `(tactic| walk_at "st") => `(tactic| with_reducible refine r_callN ?_)
local macro_rules | `(tactic| walk_at "st") => `(tactic| with_reducible refine r_methD ?_)
local macro_rules | `(tactic| walk_at "st") => `(tactic| with_reducible refine r_callE ?_)
local macro_rules | `(tactic| walk_at "st") => `(tactic| with_reducible refine r_gNil ?_)
local macro_rules | `(tactic| walk_at "st") => `(tactic| with_reducible refine r_gCons ?_)
local macro_rules | `(tactic| walk_at "st") => `(tactic| with_reducible refine r_oneI ?_)
local macro_rules | `(tactic| walk_at "st") => `(tactic| with_reducible refine r_twoI ?_)
local macro_rules | `(tactic| walk_at "st") => `(tactic| with_reducible refine r_intI ?_)
local macro_rules | `(tactic| walk_at "st") => `(tactic| with_reducible refine r_intB ?_)
local macro_rules | `(tactic| walk_at "st") => `(tactic| with_reducible refine r_eqNS ?_)
local macro_rules | `(tactic| walk_at "st") => `(tactic| with_reducible refine r_iEnum ?_)
local macro_rules | `(tactic| walk_at "st") => `(tactic| with_reducible refine r_iRev ?_)
local macro_rules | `(tactic| walk_at "st") => `(tactic| with_reducible refine r_two ?_)
local macro_rules | `(tactic| walk_at "st") => `(tactic| with_reducible refine r_par ?_)
local macro_rules | `(tactic| walk_at "st") => `(tactic| with_reducible refine r_ipI ?_)
local macro_rules | `(tactic| walk_at "st") => `(tactic| ((with_reducible refine' r_aug ?e ?_); (case e => exact rfl)))
local macro_rules | `(tactic| walk_at "st") => `(tactic| with_reducible refine r_eqB ?_)
local macro_rules | `(tactic| walk_at "st") => `(tactic| with_reducible refine r_neI ?_)
local macro_rules | `(tactic| walk_at "st") => `(tactic| with_reducible refine r_eqI ?_)
local macro_rules | `(tactic| walk_at "st") => `(tactic| with_reducible refine r_neS ?_)
local macro_rules | `(tactic| walk_at "st") => `(tactic| with_reducible refine r_eqS ?_)
local macro_rules | `(tactic| walk_at "st") => `(tactic| with_reducible refine r_iTup ?_)
local macro_rules | `(tactic| walk_at "st") => `(tactic| with_reducible refine r_iLst ?_)
local macro_rules | `(tactic| walk_at "st") => `(tactic| with_reducible refine r_iStr ?_)
local macro_rules | `(tactic| walk_at "st") => `(tactic| with_reducible refine r_rngI ?_)
local macro_rules | `(tactic| walk_at "st") => `(tactic| with_reducible refine r_yes ?_)
local macro_rules | `(tactic| walk_at "st") => `(tactic| with_reducible refine r_lc ?_)
local macro_rules | `(tactic| walk_at "st") => `(tactic| with_reducible refine r_for ?_)
local macro_rules | `(tactic| walk_at "st") => `(tactic| with_reducible refine r_fld ?_)
local macro_rules | `(tactic| walk_at "st") => `(tactic| with_reducible refine r_lst ?_)
local macro_rules | `(tactic| walk_at "st") => `(tactic| with_reducible refine r_tup ?_)
local macro_rules | `(tactic| walk_at "st") => `(tactic| with_reducible refine r_bm0 ?_)
local macro_rules | `(tactic| walk_at "st") => `(tactic| with_reducible refine r_bm ?_)
local macro_rules | `(tactic| walk_at "st") => `(tactic| with_reducible refine r_join ?_)
local macro_rules | `(tactic| walk_at "st") => `(tactic| with_reducible refine r_int ?_)
local macro_rules | `(tactic| walk_at "st") => `(tactic| with_reducible refine r_part ?_)
local macro_rules | `(tactic| walk_at "st") => `(tactic| with_reducible refine r_noPart ?_)
local macro_rules | `(tactic| walk_at "st") => `(tactic| with_reducible refine r_sl ?_)
local macro_rules | `(tactic| walk_at "st") => `(tactic| with_reducible refine r_next ?_)
local macro_rules | `(tactic| walk_at "st") => `(tactic| with_reducible refine r_cont ?_)
local macro_rules | `(tactic| walk_at "st") => `(tactic| with_reducible refine r_retN ?_)
local macro_rules | `(tactic| walk_at "st") => `(tactic| with_reducible refine r_ret ?_)
local macro_rules | `(tactic| walk_at "st") => `(tactic| with_reducible refine r_drop ?_)
local macro_rules | `(tactic| walk_at "st") => `(tactic| ((with_reducible refine r_spN ?e ?_); (case e => exact rfl)))
local macro_rules | `(tactic| walk_at "st") => `(tactic| with_reducible refine r_call ?_)
local macro_rules | `(tactic| walk_at "st") => `(tactic| with_reducible refine iteNF ?_)
local macro_rules | `(tactic| walk_at "st") => `(tactic| with_reducible refine iteNT ?_)
local macro_rules | `(tactic| walk_at "st") => `(tactic| with_reducible refine iteF ?_)
local macro_rules | `(tactic| walk_at "st") => `(tactic| with_reducible refine iteT ?_)
local macro_rules | `(tactic| walk_at "st") => `(tactic| with_reducible refine r_chain ?_)
local macro_rules | `(tactic| walk_at "st") => `(tactic| with_reducible refine r_notV ?_)
local macro_rules | `(tactic| walk_at "st") => `(tactic| with_reducible refine r_orV ?_)
local macro_rules | `(tactic| walk_at "st") => `(tactic| with_reducible refine r_andV ?_)
local macro_rules | `(tactic| walk_at "st") => `(tactic| with_reducible refine r_not ?_)
local macro_rules | `(tactic| walk_at "st") => `(tactic| with_reducible refine r_and ?_)
local macro_rules | `(tactic| walk_at "st") => `(tactic| with_reducible refine r_or ?_)
local macro_rules | `(tactic| walk_at "st") => `(tactic| with_reducible refine r_if ?_)
local macro_rules | `(tactic| walk_at "st") => `(tactic| with_reducible refine r_ifS ?_)
local macro_rules | `(tactic| walk_at "st") => `(tactic| with_reducible refine r_bl ?_)
local macro_rules | `(tactic| walk_at "st") => `(tactic| with_reducible refine r_tB ?_)
local macro_rules | `(tactic| walk_at "st") => `(tactic| with_reducible refine r_test ?_)
local macro_rules | `(tactic| walk_at "st") => `(tactic| with_reducible refine r_cb ?_)
local macro_rules | `(tactic| walk_at "st") => `(tactic| with_reducible refine r_gN ?_)
local macro_rules | `(tactic| walk_at "st") => `(tactic| with_reducible refine r_asg ?_)
local macro_rules | `(tactic| walk_at "st") => `(tactic| with_reducible refine r_U ?_)
local macro_rules | `(tactic| walk_at "st") => `(tactic| with_reducible refine r_I0 ?_)
local macro_rules | `(tactic| walk_at "st") => `(tactic| with_reducible refine r_un ?_)
local macro_rules | `(tactic| walk_at "st") => `(tactic| with_reducible refine r_op ?_)
local macro_rules | `(tactic| walk_at "st") => `(tactic| with_reducible refine r_c ?_)
local macro_rules | `(tactic| walk_at "st") => `(tactic| with_reducible refine r_nil ?_)
local macro_rules | `(tactic| walk_at "st") => `(tactic| with_reducible refine r_cons ?_)
local macro_rules | `(tactic| walk_at "st") => `(tactic| ((with_reducible refine' r_var ?e ?_); (case e => exact rfl)))
local macro_rules | `(tactic| walk_at "st") => `(tactic| ((with_reducible refine' r_seqN ?e ?_); (case e => ((try simp only [L2.start, List.map_cons, List.map_nil, List.length_cons, List.length_nil, Nat.zero_add, Nat.reduceAdd, Nat.reduceSub, List.replicate, List.cons_append, List.nil_append, List.set_cons_zero, List.set_cons_succ]); exact rfl))))
local macro_rules | `(tactic| walk_at "go") => `(tactic| repeat walk_at "st")
local macro_rules | `(tactic| walk_at "dec") => `(tactic| first | rfl | decide | (simp; done) | (simp; omega) | decide +kernel)
local macro_rules | `(tactic| walk_at "ift") => `(tactic| ((refine ite_t ?c ?_); (case c => walk_at "dec"); walk_at "go"))
local macro_rules | `(tactic| walk_at "iff") => `(tactic| ((refine ite_f ?c ?_); (case c => walk_at "dec"); walk_at "go"))
local macro_rules | `(tactic| walk_at "new") => `(tactic| ((try refine And.intro (small (Nat.le_of_ble_eq_true rfl)) ?_); intro p np; generalize e : upd _ p _ = H1; obtain ⟨s1, h1⟩ := newE2 e np; clear e))
local macro_rules | `(tactic| walk_at "rng") => `(tactic| (refine ⟨?a, ?b, ?c⟩; (case a => first | omega | exact Int.le_trans (by decide) (Int.natCast_nonneg _)); (case b => omega); rw [Int.toNat_natCast]))
local macro_rules | `(tactic| walk_at "rng") => `(tactic| (refine ⟨_, rfl, ?a, ?b, ?c⟩; (case a => first | omega | exact Int.le_trans (by decide) (Int.natCast_nonneg _)); (case b => omega); rw [Int.toNat_natCast]))
section
variable {P : Program} {w : World} {K : PySem.W.Frag} {mg : Str → Option Value} {base : Heap}
/-! ### bits -/
/-- the lowest n bits of v, the lowest last -/
def bitsR : Nat → Nat → List Bool
  | 0, _ => []
  | n + 1, v => (v % 2 == 1) :: bitsR n (v / 2)
def bitsL (n v : Nat) : List Bool := (bitsR n v).reverse
theorem bitsR_len : ∀ n v, (bitsR n v).length = n
  | 0, _ => rfl
  | n + 1, v => congrArg Nat.succ (bitsR_len n (v / 2))
theorem bitsL_len (n v : Nat) : (bitsL n v).length = n := by rw [bitsL, List.length_reverse, bitsR_len]
theorem bitsR_snoc : ∀ n v, bitsR (n + 1) v = bitsR n v ++ [v / 2 ^ n % 2 == 1]
  | 0, v => by simp [bitsR]
  | n + 1, v => by
    show (v % 2 == 1) :: bitsR (n + 1) (v / 2) = (v % 2 == 1) :: bitsR n (v / 2) ++ _
    rw [bitsR_snoc n (v / 2), Nat.div_div_eq_div_mul, Nat.pow_succ, Nat.mul_comm 2]
    rfl
def spBits : Sp := fun vs H Q _ => ∃ n v : Nat, vs = [.int n, .int v] ∧ n ≤ 1000 ∧ ∀ H', Same H H' → Q (.str (bstr (bitsL n v))) H'
theorem c_bits (T : Tx w K mg) : C8.Cal P w K mg base 1 "bits" (spN 2 spBits) [] := by
  refine mkFn T.fn_bits sc_bits (fun _ _ _ _ _ _ us hl => match us, hl with | [_, _], _ => rfl) (fun f cdv A outer s H vs Q E hr _ h => ?_)
  obtain ⟨n, v, rfl, hn, q⟩ := h
  refine ⟨_, (pss_cons (ps_set (i := 2) sc_bits.nd rfl (by first | exact Or.inl rfl | exact Or.inr rfl) (pe_lst pa_nil))
  (pss_cons (ps_for PassesOwn.never rfl (pi_range1 (by rfl) T.f_range (pa_cons (pv 0) pa_nil)) (pg_name (i := 3) sc_bits.nd rfl (by first | exact Or.inl rfl | exact Or.inr rfl)) (pss_cons (ps_expr (bmK (K := K) PySem.F.plainAttrs_list PySem.F.slot_list_append PySem.F.type_list_append mt_append (pv 2) (pa_cons (pe_ifExp (pt_cmpR op_eq (pe_op op_mod (pv 1) pe_int) pe_int (by rfl)) pe_str pe_str) pa_nil)))
  (pss_one (ps_set (i := 1) sc_bits.nd rfl (by first | exact Or.inl rfl | exact Or.inr rfl) (pe_op op_fdiv (pv 1) pe_int)))))
  (pss_one (ps_ret (pe_join pe_str (pe_revL (pv 2))))))), ?_⟩
  walk_at "go"
  walk_at "new"; rename_i p np H1 s1 h1
  walk_at "go"
  walk_at "rng"
  refine for_it walk_range (fun i σ H2 => ∃ y, σ = [some (.int n), some (.int (v / 2 ^ i : Nat)), some (.ref p), y] ∧ Same H H2 ∧ H2 p = some (.lst ((bitsR i v).map fun b => .str (bstr [b]))))
    ⟨none, by rw [Nat.pow_zero, Nat.div_one] <;> rfl, s1, h1⟩ (fun _ _ _ _ _ => trivial) (fun i x σ H2 H3 hi hp hy => ?_) (fun σ H2 hp => ?_)
  · obtain ⟨y, rfl, s2, h2⟩ := hp
    obtain ⟨rfl, _⟩ := hy
    walk_at "go"
    have e : (i : Int) = i := rfl
    have ev : (((v / 2 ^ i : Nat) : Int) % 2 = 1) ↔ ((v / 2 ^ i) % 2 = 1) := by omega
    refine r_iteC ?_
    walk_at "go"
    refine r_app (by assumption) (by rw [List.length_map, bitsR_len]; omega) ?_
    walk_at "go"
    refine ⟨some x, ?_, s2.putNew np, ?_⟩
    · rw [Nat.pow_succ, ← Nat.div_div_eq_div_mul, Int.natCast_ediv]; rfl
    · rw [upd_same, bitsR_snoc, List.map_append, List.map_singleton]
      congr 3
      by_cases hb : v / 2 ^ i % 2 = 1
      · rw [if_pos (by rw [decide_eq_true_eq]; omega), st1, hb]; rfl
      · rw [if_neg (by rw [decide_eq_true_eq]; omega), st0]
        have : v / 2 ^ i % 2 = 0 := by omega
        rw [this]; rfl
  · obtain ⟨y, rfl, s2, h2⟩ := hp
    walk_at "go"
    refine r_revL ?_
    walk_at "go"
    refine ⟨p, _, rfl, SqL.of h2, ?_⟩
    walk_at "new"; rename_i p2 np2 H3 s3 h3
    walk_at "go"
    refine ⟨_, p2, (bitsL n v).map fun b => bstr [b], rfl, rfl, .inl (SqL.of ?_), ?_, ?_⟩
    · rw [h3, bitsL, List.map_map, List.map_reverse]; rfl
    · rw [stE, bstr_len, List.map_map, List.length_map, bitsL_len]
      have e : ((bitsL n v).map ((fun x : Str => x.length) ∘ fun b => bstr [b])).sum = n := by
        have : ∀ l : List Bool, (l.map ((fun x : Str => x.length) ∘ fun b => bstr [b])).sum = l.length := fun l => by
          induction l with
          | nil => rfl
          | cons b r ih => rw [List.map_cons, List.sum_cons, ih, List.length_cons]; show (bstr [b]).length + _ = _; rw [bstr_len]; simp; omega
        rw [this, bitsL_len]
      rw [e]; simp; omega
    · rw [stE, join_bits1]
      exact q _ (s2.trans s3)
end
/-! Part A2: the checks of blocks. -/
open PySem PySem.Spec PyProof.Rows L2
/-- the number that a string writes -/
def numL (l : List Bool) : Nat := l.foldl (fun a b => a * 2 + b.toNat) 0
theorem numL_snoc (l : List Bool) (b : Bool) : numL (l ++ [b]) = numL l * 2 + b.toNat := by simp [numL]
theorem bit_of {l : List Bool} {i c : Nat} (h : (bstr l).cps[i]? = some c) : ∃ b, l[i]? = some b ∧ (⟨#[c]⟩ : Str) = bstr [b] := by
  simp only [bstr, List.getElem?_toArray, List.getElem?_map, Option.map_eq_some_iff] at h
  obtain ⟨b, h1, h2⟩ := h
  exact ⟨b, h1, by rw [← h2, bstr_one]⟩
theorem bit_int (b : Bool) : PySem.intText? (bstr [b]) = some ((b.toNat : Nat) : Int) := by cases b <;> decide +kernel
theorem bit_in (b : Bool) : (!(Builtin.Str.occurrences ("01" : Str) (bstr [b]) 0 ("01" : Str).length 1).isEmpty) = true := by cases b <;> decide +kernel
theorem cps_size (l : List Bool) : (bstr l).cps.size = l.length := by simp [bstr]
/-- a generator, a function -/
abbrev encR (rows : List (List Bool)) : PyData := .tuple (rows.map fun r => .str (bstr r))
abbrev encG (n m : Nat) (rows : List (List Bool)) : PyData := .tuple [.str "generator", .int n, .int m, encR rows]
abbrev encF (n l m : Nat) (tab : List (List (List Bool))) : PyData := .tuple [.str "function", .int n, .int l, .int m, .tuple (tab.map encR)]
structure GoodG (n m : Nat) (rows : List (List Bool)) : Prop where
  n1 : 1 ≤ n
  n2 : n ≤ 10
  m1 : 1 ≤ m
  m2 : m ≤ 40
  len : rows.length = 2 ^ n
  row : ∀ r ∈ rows, r.length = m
structure GoodF (n l m : Nat) (tab : List (List (List Bool))) : Prop where
  n1 : 1 ≤ n
  n2 : n ≤ 8
  l1 : 1 ≤ l
  l2 : l ≤ 8
  nl : n + l ≤ 12
  m1 : 1 ≤ m
  m2 : m ≤ 40
  len : tab.length = 2 ^ n
  tabs : ∀ rows ∈ tab, rows.length = 2 ^ l ∧ ∀ r ∈ rows, r.length = m
section
variable {P : Program} {w : World} {K : PySem.W.Frag} {mg : Str → Option Value} {base : Heap}
def spNum : Sp := fun vs H Q _ => ∃ l : List Bool, vs = [.str (bstr l)] ∧ Q (.int (numL l)) H
theorem c_number_of (T : Tx w K mg) : C8.Cal P w K mg base 1 "number_of" (spN 1 spNum) [] := by
  refine mkFn T.fn_number_of sc_number_of (fun _ _ _ _ _ _ us hl => match us, hl with | [_], _ => rfl) (fun f cdv A outer s H vs Q E hr _ h => ?_)
  obtain ⟨l, rfl, q⟩ := h
  refine ⟨_, (pss_cons (ps_set (i := 1) sc_number_of.nd rfl (by first | exact Or.inl rfl | exact Or.inr rfl) pe_int)
  (pss_cons (ps_for PassesOwn.never rfl (pi_str (pv 0)) (pg_name (i := 2) sc_number_of.nd rfl (by first | exact Or.inl rfl | exact Or.inr rfl)) (pss_one (ps_set (i := 1) sc_number_of.nd rfl (by first | exact Or.inl rfl | exact Or.inr rfl) (pe_op op_add (pe_op op_mul (pv 1) pe_int) (pe_callTy call_int_str (by rfl) T.f_int bt_int (pa_cons (pv 2) pa_nil))))))
  (pss_one (ps_ret (pv 1))))), ?_⟩
  walk_at "go"
  refine ⟨_, rfl, ?_⟩
  refine for_it walk_str (fun i σ H2 => ∃ y, σ = [some (.str (bstr l)), some (.int (numL (l.take i))), y] ∧ H2 = H)
    ⟨none, rfl, rfl⟩ (fun _ _ _ _ _ => trivial) (fun i x σ H2 H3 hi hp hy => ?_) (fun σ H2 hp => ?_)
  · obtain ⟨y, rfl, rfl⟩ := hp
    obtain ⟨rfl, c, hc, rfl⟩ := hy
    obtain ⟨b, hb, eb⟩ := bit_of hc
    rw [eb]
    walk_at "go"
    refine ⟨_, _, rfl, bit_int b, by rw [bstr_len]; simp, ?_⟩
    walk_at "go"
    refine ⟨some (.str (bstr [b])), ?_, rfl⟩
    have e : l.take (i + 1) = l.take i ++ [b] := by rw [List.take_succ, hb]; rfl
    rw [e, numL_snoc, Int.natCast_add, Int.natCast_mul]
    rfl
  · obtain ⟨y, rfl, rfl⟩ := hp
    walk_at "go"
    rw [cps_size, List.take_length]
    exact q
def spIsNum : Sp := fun vs H Q _ => ∃ i lo hi : Int, vs = [.int i, .int lo, .int hi] ∧ lo ≤ i ∧ i ≤ hi ∧ Q (.bl true) H
theorem c_is_number (T : Tx w K mg) : C8.Cal P w K mg base 1 "is_number" (spN 3 spIsNum) [] := by
  refine mkFn T.fn_is_number sc_is_number (fun _ _ _ _ _ _ us hl => match us, hl with | [_, _, _], _ => rfl) (fun f cdv A outer s H vs Q E hr _ h => ?_)
  obtain ⟨i, lo, hi, rfl, h1, h2, q⟩ := h
  refine ⟨_, (pss_one (ps_ret (pe_and (pe_callB (isiK (K := K)) (by rfl) T.f_isinstance bt_isinstance (pa_cons (pv 0) (pa_cons (pe_bltn (v := .ty "int") (by rfl) T.f_int bt_int rfl) pa_nil))) (pe_and (pe_not (pe_callB (isiK (K := K)) (by rfl) T.f_isinstance bt_isinstance (pa_cons (pv 0) (pa_cons (pe_bltn (v := .ty "bool") (by rfl) T.f_bool bt_bool rfl) pa_nil)))) (pe_one (pe_chain op_le op_le (pv 1) (pv 0) (pv 2))))))), ?_⟩
  walk_at "go"
  walk_at "ift"
  rw [decide_eq_true h2]
  exact q
def spIsBits : Sp := fun vs H Q _ => (∃ l : List Bool, ∃ n : Int, vs = [.str (bstr l), .int n] ∧ n = l.length ∧ l.length ≤ 1000 ∧ ∀ H', Same H H' → Q (.bl true) H') ∨ (∃ i n : Int, vs = [.int i, .int n] ∧ Q (.bl false) H)
theorem c_is_bits (T : Tx w K mg) : C8.Cal P w K mg base 1 "is_bits" (spN 2 spIsBits) [] := by
  refine mkFn T.fn_is_bits sc_is_bits (fun _ _ _ _ _ _ us hl => match us, hl with | [_, _], _ => rfl) (fun f cdv A outer s H vs Q E hr _ h => ?_)
  rcases h with ⟨l, n, rfl, rfl, hl, q⟩ | ⟨i, n, rfl, q⟩
  · refine ⟨_, (pss_one (ps_ret (pe_and (pe_callB (isiK (K := K)) (by rfl) T.f_isinstance bt_isinstance (pa_cons (pv 0) (pa_cons (pe_bltn (v := .ty "str") (by rfl) T.f_str bt_str rfl) pa_nil))) (pe_and (pe_cmpR op_eq (pe_callB (lenK (K := K)) (by rfl) T.f_len bt_len (pa_cons (pv 0) pa_nil)) (pv 1) (by rfl)) (pe_one (pe_callB (allK (K := K) rfl) (by rfl) T.f_all bt_all (pa_cons (pe_lc (own := [("sign", 2)]) (by rfl) sc_is_bits.nd (pi_str (pv 0)) (blkOk_by (by rfl)) (fun _ _ _ _ _ => (pg_name (i := 2) sc_is_bits.nd rfl (by first | exact Or.inl rfl | exact Or.inr rfl))) (fun _ _ _ _ _ => pts_nil) (fun _ _ _ _ _ => (pe_cmpR op_in_str (pv 2) pe_str (by rfl)))) pa_nil))))))), ?_⟩
    walk_at "go"
    walk_at "ift"
    refine ⟨_, rfl, ?_⟩
    intro D nD
    refine lc_it walk_str (fun i H2 => Same H H2 ∧ H2 D = some (.lst ((List.replicate i true).map V.bl))) ⟨same_upd nD, upd_same⟩ (fun _ _ _ _ => trivial) (fun i x H2 H3 hi hp hy => ?_) (fun H2 hp => ?_)
    · obtain ⟨s2, h2⟩ := hp
      obtain ⟨rfl, c, hc, rfl⟩ := hy
      obtain ⟨b, hb, eb⟩ := bit_of hc
      rw [eb]
      rw [cps_size] at hi
      walk_at "go"
      refine ⟨rfl, ?_⟩
      walk_at "go"
      refine ⟨_, _, rfl, rfl, ?_⟩
      rw [bit_in]
      refine ⟨_, h2, smallL (by simp; omega), s2.putNew nD, ?_⟩
      rw [upd_same, List.replicate_succ', List.map_append]
      rfl
    · obtain ⟨s2, h2⟩ := hp
      walk_at "go"
      refine ⟨D, _, rfl, SqL.of h2, ?_⟩
      have e : (List.replicate (bstr l).cps.size true).all id = true := by simp
      rw [e]
      exact q _ s2
  · refine ⟨_, (pss_one (ps_ret (pe_and (pe_callB (isiK (K := K)) (by rfl) T.f_isinstance bt_isinstance (pa_cons (pv 0) (pa_cons (pe_bltn (v := .ty "str") (by rfl) T.f_str bt_str rfl) pa_nil))) (pe_and (pe_cmpR op_eq (pe_callB (lenK (K := K)) (by rfl) T.f_len bt_len (pa_cons (pv 0) pa_nil)) (pv 1) (by rfl)) (pe_one (pe_callB (allK (K := K) rfl) (by rfl) T.f_all bt_all (pa_cons (pe_lc (own := [("sign", 2)]) (by rfl) sc_is_bits.nd (pi_str (pv 0)) (blkOk_by (by rfl)) (fun _ _ _ _ _ => (pg_name (i := 2) sc_is_bits.nd rfl (by first | exact Or.inl rfl | exact Or.inr rfl))) (fun _ _ _ _ _ => pts_nil) (fun _ _ _ _ _ => (pe_cmpR op_in_str (pv 2) pe_str (by rfl)))) pa_nil))))))), ?_⟩
    walk_at "go"
    exact q
end
/-! Part A3: the checks of blocks, further. -/
open PySem PySem.Spec PyProof.Rows L2
section
variable {P : Program} {w : World} {K : PySem.W.Frag} {mg : Str → Option Value} {base : Heap}
def spIsRow : Sp := fun vs H Q _ => ∃ (v : V) (rows : List (List Bool)) (n m : Int), vs = [v, .int n, .int m] ∧ Td H (encR rows) v ∧ n = rows.length ∧ rows.length ≤ 5000 ∧ (∀ r ∈ rows, (r.length : Int) = m) ∧ m ≤ 1000 ∧ ∀ H', Same H H' → Q (.bl true) H'
theorem c_is_row (T : Tx w K mg) : C8.Cal P w K mg base 2 "is_row" (spN 3 spIsRow) [] := by
  refine mkFn T.fn_is_row sc_is_row (fun _ _ _ _ _ _ us hl => match us, hl with | [_, _, _], _ => rfl) (fun f cdv A outer s H vs Q E hr _ h => ?_)
  obtain ⟨v, rows, n, m, rfl, hv, rfl, hl, hm, hm2, q⟩ := h
  refine ⟨_, (pss_one (ps_ret (pe_and (pe_callB (isiK (K := K)) (by rfl) T.f_isinstance bt_isinstance (pa_cons (pv 0) (pa_cons (pe_bltn (v := .ty "tuple") (by rfl) T.f_tuple bt_tuple rfl) pa_nil))) (pe_and (pe_cmpR op_eq (pe_callB (lenK (K := K)) (by rfl) T.f_len bt_len (pa_cons (pv 0) pa_nil)) (pv 1) (by rfl)) (pe_one (pe_callB (allK (K := K) rfl) (by rfl) T.f_all bt_all (pa_cons (pe_lc (own := [("one", 3)]) (by rfl) sc_is_row.nd (piTK (K := K) (pv 0)) (blkOk_by (by rfl)) (fun _ _ _ _ _ => (pg_name (i := 3) sc_is_row.nd rfl (by first | exact Or.inl rfl | exact Or.inr rfl))) (fun _ _ _ _ _ => pts_nil) (fun _ _ _ _ _ => (C8.pe_c (c_is_bits T) hr (by first | decide | omega) (by rfl) (pa_cons (pv 3) (pa_cons (pv 2) pa_nil))))) pa_nil))))))), ?_⟩
  walk_at "go"
  walk_at "ift"
  obtain ⟨a, xs, rfl, ha, hx⟩ := id hv
  have hx2 := hx.strs bstr
  refine ⟨a, rfl, ⟨xs, SqT.of ha⟩, ?_⟩
  intro D nD
  refine lc_it (walk_tup (xs := xs)) (fun i H2 => Same H H2 ∧ H2 D = some (.lst ((List.replicate i true).map V.bl))) ⟨same_upd nD, upd_same⟩ (fun _ _ _ hp => SqT.of (hp.1 _ _ ha)) (fun i x H2 H3 hi hp hy => ?_) (fun H2 hp => ?_)
  · obtain ⟨s2, h2⟩ := hp
    obtain ⟨rfl, hxi⟩ := hy
    rw [hx2, List.getElem?_map, Option.map_eq_some_iff] at hxi
    obtain ⟨r, hr2, rfl⟩ := hxi
    have hrl := hm r (List.mem_of_getElem? hr2)
    have hxl : xs.length = rows.length := by rw [hx2, List.length_map]
    walk_at "go"
    refine ⟨rfl, ?_⟩
    walk_at "go"
    refine .inl ⟨r, m, rfl, hrl.symm, by omega, fun H4 s4 => ?_⟩
    have h4 := s4 _ _ h2
    refine ⟨_, h4, smallL (by simp; omega), (s2.trans s4).putNew nD, ?_⟩
    rw [upd_same, List.replicate_succ', List.map_append]
    rfl
  · obtain ⟨s2, h2⟩ := hp
    walk_at "go"
    refine ⟨D, _, rfl, SqL.of h2, ?_⟩
    have e : (List.replicate xs.length true).all id = true := by simp
    rw [e]
    exact q _ s2
theorem pow_int (n : Nat) : (1 : Int) * 2 ^ ((n : Nat) : Int).toNat = ((2 ^ n : Nat) : Int) := by
  rw [Int.toNat_natCast, Int.one_mul, Int.natCast_pow]; rfl
theorem pow_le {n k : Nat} (h : n ≤ k) : 2 ^ n ≤ 2 ^ k := Nat.pow_le_pow_right (by decide) h
def spIsGen : Sp := fun vs H Q _ => ∃ v, vs = [v] ∧ ((∃ n m rows, Td H (encG n m rows) v ∧ GoodG n m rows ∧ ∀ H', Same H H' → Q (.bl true) H') ∨ (∃ n l m tab, Td H (encF n l m tab) v ∧ Q (.bl false) H))
theorem c_is_generator (T : Tx w K mg) : C8.Cal P w K mg base 3 "is_generator" (spN 1 spIsGen) [] := by
  refine mkFn T.fn_is_generator sc_is_generator (fun _ _ _ _ _ _ us hl => match us, hl with | [_], _ => rfl) (fun f cdv A outer s H vs Q E hr _ h => ?_)
  obtain ⟨v, rfl, h⟩ := h
  rcases h with ⟨n, m, rows, hv, G, q⟩ | ⟨n, l, m, tab, hv, q⟩
  · obtain ⟨n1, n2, m1, m2, gl, gr⟩ := id G
    refine ⟨_, (pss_cons (ps_if (PW.pt (pw_or (pt_not (pt_val (pe_callB (isiK (K := K)) (by rfl) T.f_isinstance bt_isinstance (pa_cons (pv 0) (pa_cons (pe_bltn (v := .ty "tuple") (by rfl) T.f_tuple bt_tuple rfl) pa_nil))))) (pw_or (pt_cmpR op_ne (pe_callB (lenK (K := K)) (by rfl) T.f_len bt_len (pa_cons (pv 0) pa_nil)) pe_int (by rfl)) (pw_or1 (pt_cmpR op_ne (pe_ix (ixK (K := K)) (pv 0) pe_int (fun _ _ => rfl)) pe_str (by rfl)))))) (pss_one (ps_ret pe_bl)) pss_nil)
  (pss_cons (ps_if (PW.pt (pw_or (pt_not (pt_val (C8.pe_c (c_is_number T) hr (by first | decide | omega) (by rfl) (pa_cons (pe_ix (ixK (K := K)) (pv 0) pe_int (fun _ _ => rfl)) (pa_cons pe_int (pa_cons pe_int pa_nil)))))) (pw_or1 (pt_not (pt_val (C8.pe_c (c_is_number T) hr (by first | decide | omega) (by rfl) (pa_cons (pe_ix (ixK (K := K)) (pv 0) pe_int (fun _ _ => rfl)) (pa_cons pe_int (pa_cons (C8.pe_gc (by rfl) T.k_MOST_LENGTH) pa_nil))))))))) (pss_one (ps_ret pe_bl)) pss_nil)
  (pss_one (ps_ret (C8.pe_c (c_is_row T) hr (by first | decide | omega) (by rfl) (pa_cons (pe_ix (ixK (K := K)) (pv 0) pe_int (fun _ _ => rfl)) (pa_cons (pe_op op_shl pe_int (pe_ix (ixK (K := K)) (pv 0) pe_int (fun _ _ => rfl))) (pa_cons (pe_ix (ixK (K := K)) (pv 0) pe_int (fun _ _ => rfl)) pa_nil)))))))), ?_⟩
    walk_at "go"
    walk_at "iff"
    walk_at "iff"
    refine ⟨_, _, _, rfl, by have := G.n1; omega, by have := G.n2; omega, ?_⟩
    walk_at "go"
    refine ⟨_, _, _, rfl, by have := G.m1; omega, by have := G.m2; omega, ?_⟩
    walk_at "go"
    rename_i u hu
    have hp : 2 ^ n ≤ 2 ^ 10 := pow_le G.n2
    refine ⟨u, rows, _, _, rfl, hu, by rw [pow_int, G.len], by rw [G.len]; omega, fun r hr => by rw [G.row r hr], by have := G.m2; omega, fun H1 s1 => q H1 s1⟩
  · refine ⟨_, (pss_cons (ps_if (PW.pt (pw_or (pt_not (pt_val (pe_callB (isiK (K := K)) (by rfl) T.f_isinstance bt_isinstance (pa_cons (pv 0) (pa_cons (pe_bltn (v := .ty "tuple") (by rfl) T.f_tuple bt_tuple rfl) pa_nil))))) (pw_or (pt_cmpR op_ne (pe_callB (lenK (K := K)) (by rfl) T.f_len bt_len (pa_cons (pv 0) pa_nil)) pe_int (by rfl)) (pw_or1 (pt_cmpR op_ne (pe_ix (ixK (K := K)) (pv 0) pe_int (fun _ _ => rfl)) pe_str (by rfl)))))) (pss_one (ps_ret pe_bl)) pss_nil)
  (pss_cons (ps_if (PW.pt (pw_or (pt_not (pt_val (C8.pe_c (c_is_number T) hr (by first | decide | omega) (by rfl) (pa_cons (pe_ix (ixK (K := K)) (pv 0) pe_int (fun _ _ => rfl)) (pa_cons pe_int (pa_cons pe_int pa_nil)))))) (pw_or1 (pt_not (pt_val (C8.pe_c (c_is_number T) hr (by first | decide | omega) (by rfl) (pa_cons (pe_ix (ixK (K := K)) (pv 0) pe_int (fun _ _ => rfl)) (pa_cons pe_int (pa_cons (C8.pe_gc (by rfl) T.k_MOST_LENGTH) pa_nil))))))))) (pss_one (ps_ret pe_bl)) pss_nil)
  (pss_one (ps_ret (C8.pe_c (c_is_row T) hr (by first | decide | omega) (by rfl) (pa_cons (pe_ix (ixK (K := K)) (pv 0) pe_int (fun _ _ => rfl)) (pa_cons (pe_op op_shl pe_int (pe_ix (ixK (K := K)) (pv 0) pe_int (fun _ _ => rfl))) (pa_cons (pe_ix (ixK (K := K)) (pv 0) pe_int (fun _ _ => rfl)) pa_nil)))))))), ?_⟩
    walk_at "go"
    walk_at "ift"
    exact q
def spIsFun : Sp := fun vs H Q _ => ∃ v n l m tab, vs = [v] ∧ Td H (encF n l m tab) v ∧ GoodF n l m tab ∧ ∀ H', Same H H' → Q (.bl true) H'
theorem c_is_function (T : Tx w K mg) : C8.Cal P w K mg base 3 "is_function" (spN 1 spIsFun) [] := by
  refine mkFn T.fn_is_function sc_is_function (fun _ _ _ _ _ _ us hl => match us, hl with | [_], _ => rfl) (fun f cdv A outer s H vs Q E hr _ h => ?_)
  obtain ⟨v, n, l, m, tab, rfl, hv, G, q⟩ := h
  obtain ⟨n1, n2, l1, l2, nl, m1, m2, gl, gr⟩ := id G
  refine ⟨_, (pss_cons (ps_if (PW.pt (pw_or (pt_not (pt_val (pe_callB (isiK (K := K)) (by rfl) T.f_isinstance bt_isinstance (pa_cons (pv 0) (pa_cons (pe_bltn (v := .ty "tuple") (by rfl) T.f_tuple bt_tuple rfl) pa_nil))))) (pw_or (pt_cmpR op_ne (pe_callB (lenK (K := K)) (by rfl) T.f_len bt_len (pa_cons (pv 0) pa_nil)) pe_int (by rfl)) (pw_or1 (pt_cmpR op_ne (pe_ix (ixK (K := K)) (pv 0) pe_int (fun _ _ => rfl)) pe_str (by rfl)))))) (pss_one (ps_ret pe_bl)) pss_nil)
  (pss_cons (ps_if (PW.pt (pw_or (pt_not (pt_val (C8.pe_c (c_is_number T) hr (by first | decide | omega) (by rfl) (pa_cons (pe_ix (ixK (K := K)) (pv 0) pe_int (fun _ _ => rfl)) (pa_cons pe_int (pa_cons pe_int pa_nil)))))) (pw_or (pt_not (pt_val (C8.pe_c (c_is_number T) hr (by first | decide | omega) (by rfl) (pa_cons (pe_ix (ixK (K := K)) (pv 0) pe_int (fun _ _ => rfl)) (pa_cons pe_int (pa_cons pe_int pa_nil)))))) (pw_or1 (pt_cmpR op_gt (pe_op op_add (pe_ix (ixK (K := K)) (pv 0) pe_int (fun _ _ => rfl)) (pe_ix (ixK (K := K)) (pv 0) pe_int (fun _ _ => rfl))) pe_int (by rfl)))))) (pss_one (ps_ret pe_bl)) pss_nil)
  (pss_cons (ps_if (PW.pt (pw_or (pt_not (pt_val (C8.pe_c (c_is_number T) hr (by first | decide | omega) (by rfl) (pa_cons (pe_ix (ixK (K := K)) (pv 0) pe_int (fun _ _ => rfl)) (pa_cons pe_int (pa_cons (C8.pe_gc (by rfl) T.k_MOST_LENGTH) pa_nil)))))) (pw_or1 (pt_not (pt_val (pe_callB (isiK (K := K)) (by rfl) T.f_isinstance bt_isinstance (pa_cons (pe_ix (ixK (K := K)) (pv 0) pe_int (fun _ _ => rfl)) (pa_cons (pe_bltn (v := .ty "tuple") (by rfl) T.f_tuple bt_tuple rfl) pa_nil)))))))) (pss_one (ps_ret pe_bl)) pss_nil)
  (pss_one (ps_ret (pe_and (pe_cmpR op_eq (pe_callB (lenK (K := K)) (by rfl) T.f_len bt_len (pa_cons (pe_ix (ixK (K := K)) (pv 0) pe_int (fun _ _ => rfl)) pa_nil)) (pe_op op_shl pe_int (pe_ix (ixK (K := K)) (pv 0) pe_int (fun _ _ => rfl))) (by rfl)) (pe_one (pe_callB (allK (K := K) rfl) (by rfl) T.f_all bt_all (pa_cons (pe_lc (own := [("one", 1)]) (by rfl) sc_is_function.nd (piTK (K := K) (pe_ix (ixK (K := K)) (pv 0) pe_int (fun _ _ => rfl))) (blkOk_by (by rfl)) (fun _ _ _ _ _ => (pg_name (i := 1) sc_is_function.nd rfl (by first | exact Or.inl rfl | exact Or.inr rfl))) (fun _ _ _ _ _ => pts_nil) (fun _ _ _ _ _ => (C8.pe_c (c_is_row T) hr (by first | decide | omega) (by rfl) (pa_cons (pv 1) (pa_cons (pe_op op_shl pe_int (pe_ix (ixK (K := K)) (pv 0) pe_int (fun _ _ => rfl))) (pa_cons (pe_ix (ixK (K := K)) (pv 0) pe_int (fun _ _ => rfl)) pa_nil)))))) pa_nil))))))))), ?_⟩
  walk_at "go"
  walk_at "iff"
  walk_at "iff"
  refine ⟨_, _, _, rfl, by have := G.n1; omega, by have := G.n2; omega, ?_⟩
  walk_at "go"
  refine ⟨_, _, _, rfl, by have := G.l1; omega, by have := G.l2; omega, ?_⟩
  walk_at "go"
  refine ite_f (by rw [decide_eq_true_eq]; have := G.nl; omega) ?_
  walk_at "go"
  refine ⟨_, _, _, rfl, by have := G.m1; omega, by have := G.m2; omega, ?_⟩
  walk_at "go"
  rename_i u hu
  have hp : 2 ^ n ≤ 2 ^ 8 := pow_le G.n2
  have hp2 : 2 ^ l ≤ 2 ^ 8 := pow_le G.l2
  refine ite_t ?_ ?_
  · rw [pow_int, List.length_map, G.len]; simp
  walk_at "go"
  clear hu
  rename_i u hu
  obtain ⟨a, xs, rfl, ha, hx⟩ := id hu
  have hxl : xs.length = 2 ^ n := by rw [hx.len, List.length_map, gl]
  refine ⟨a, rfl, ⟨xs, SqT.of ha⟩, ?_⟩
  intro D nD
  refine lc_it (walk_tup (xs := xs)) (fun i H2 => Same H H2 ∧ H2 D = some (.lst ((List.replicate i true).map V.bl))) ⟨same_upd nD, upd_same⟩ (fun _ _ _ hp => SqT.of (hp.1 _ _ ha)) (fun i x H2 H3 hi hp hy => ?_) (fun H2 hp => ?_)
  · obtain ⟨s2, h2⟩ := hp
    obtain ⟨rfl, hxi⟩ := hy
    have hti : ∃ rows, tab[i]? = some rows := ⟨tab[i]'(by omega), List.getElem?_eq_getElem _⟩
    obtain ⟨rows, ht⟩ := hti
    obtain ⟨u2, e2, h2u⟩ := hx.get (i := i) (d := encR rows) (by rw [List.getElem?_map, ht]; rfl)
    rw [hxi] at e2
    cases e2
    have hrw := gr rows (List.mem_of_getElem? ht)
    walk_at "go"
    refine ⟨rfl, ?_⟩
    walk_at "go"
    refine ⟨x, rows, _, _, rfl, h2u.same s2, by rw [pow_int, hrw.1], by rw [hrw.1]; omega, fun r hr => by rw [hrw.2 r hr], by omega, fun H4 s4 => ?_⟩
    have h4 := s4 _ _ h2
    refine ⟨_, h4, smallL (by simp; omega), (s2.trans s4).putNew nD, ?_⟩
    rw [upd_same, List.replicate_succ', List.map_append]
    rfl
  · obtain ⟨s2, h2⟩ := hp
    walk_at "go"
    refine ⟨D, _, rfl, SqL.of h2, ?_⟩
    have e : (List.replicate xs.length true).all id = true := by simp
    rw [e]
    exact q _ s2
/-- a block -/
def GoodB (H : Hp) (v : V) : Prop := (∃ n m rows, Td H (encG n m rows) v ∧ GoodG n m rows) ∨ (∃ n l m tab, Td H (encF n l m tab) v ∧ GoodF n l m tab)
def spChkB : Sp := fun vs H Q _ => ∃ v, vs = [v] ∧ GoodB H v ∧ ∀ H', Same H H' → Q .non H'
theorem c_check_block (T : Tx w K mg) : C8.Cal P w K mg base 4 "check_block" (spN 1 spChkB) [] := by
  refine mkFn T.fn_check_block sc_check_block (fun _ _ _ _ _ _ us hl => match us, hl with | [_], _ => rfl) (fun f cdv A outer s H vs Q E hr _ h => ?_)
  obtain ⟨v, rfl, h, q⟩ := h
  refine ⟨_, (pss_one (ps_if (PW.pt (pw_and (pt_not (pt_val (C8.pe_c (c_is_generator T) hr (by first | decide | omega) (by rfl) (pa_cons (pv 0) pa_nil)))) (pw_and1 (pt_not (pt_val (C8.pe_c (c_is_function T) hr (by first | decide | omega) (by rfl) (pa_cons (pv 0) pa_nil))))))) (pss_one ps_never) pss_nil)), ?_⟩
  walk_at "go"
  rcases h with ⟨n, m, rows, hv, G⟩ | ⟨n, l, m, tab, hv, G⟩
  · refine ⟨v, rfl, .inl ⟨n, m, rows, hv, G, fun H1 s1 => ?_⟩⟩
    walk_at "go"
    exact q _ s1
  · refine ⟨v, rfl, .inr ⟨n, l, m, tab, hv, ?_⟩⟩
    walk_at "go"
    refine ⟨v, n, l, m, tab, rfl, hv, G, fun H1 s1 => ?_⟩
    walk_at "go"
    exact q _ s1
end
/-! Part A4: what is built of blocks. -/
open PySem PySem.Spec PyProof.Rows L2
theorem numL_lt : ∀ l : List Bool, numL l < 2 ^ l.length := by
  have : ∀ (l : List Bool) (a : Nat), l.foldl (fun a b => a * 2 + b.toNat) a < (a + 1) * 2 ^ l.length := by
    intro l
    induction l with
    | nil => intro a; simp
    | cons b r ih =>
      intro a
      have h := ih (a * 2 + b.toNat)
      have hb : b.toNat ≤ 1 := by cases b <;> decide
      rw [List.foldl_cons, List.length_cons, Nat.pow_succ]
      calc _ < (a * 2 + b.toNat + 1) * 2 ^ r.length := h
        _ ≤ (a * 2 + 2) * 2 ^ r.length := Nat.mul_le_mul_right _ (by omega)
        _ = _ := by rw [show a * 2 + 2 = (a + 1) * 2 by omega, Nat.mul_assoc, Nat.mul_comm 2]
  intro l
  have h := this l 0
  simpa [numL] using h
def rowAt (rows : List (List Bool)) (s : List Bool) : List Bool := rows.getD (numL s) []
theorem GoodG.at_ {n m : Nat} {rows : List (List Bool)} (G : GoodG n m rows) {s : List Bool} (h : s.length = n) : rows[numL s]? = some (rowAt rows s) := by
  have h1 : numL s < rows.length := by rw [G.len, ← h]; exact numL_lt s
  rw [rowAt, List.getD_eq_getElem?_getD, List.getElem?_eq_getElem h1]
  rfl
theorem GoodG.rlen {n m : Nat} {rows : List (List Bool)} (G : GoodG n m rows) {s : List Bool} (h : s.length = n) : (rowAt rows s).length = m := G.row _ (List.mem_of_getElem? (G.at_ h))
def valAt (tab : List (List (List Bool))) (k s : List Bool) : List Bool := rowAt (tab.getD (numL k) []) s
theorem GoodF.key_ {n l m : Nat} {tab : List (List (List Bool))} (G : GoodF n l m tab) {k : List Bool} (h : k.length = n) : tab[numL k]? = some (tab.getD (numL k) []) := by
  have h1 : numL k < tab.length := by rw [G.len, ← h]; exact numL_lt k
  rw [List.getD_eq_getElem?_getD, List.getElem?_eq_getElem h1]
  rfl
theorem GoodF.at_ {n l m : Nat} {tab : List (List (List Bool))} (G : GoodF n l m tab) {k s : List Bool} (h : k.length = n) (hs : s.length = l) : (tab.getD (numL k) [])[numL s]? = some (valAt tab k s) := by
  have hr := G.tabs _ (List.mem_of_getElem? (G.key_ h))
  have h1 : numL s < (tab.getD (numL k) []).length := by rw [hr.1, ← hs]; exact numL_lt s
  rw [valAt, rowAt, List.getD_eq_getElem?_getD (l := tab.getD (numL k) []), List.getElem?_eq_getElem h1]
  rfl
theorem GoodF.vlen {n l m : Nat} {tab : List (List (List Bool))} (G : GoodF n l m tab) {k s : List Bool} (h : k.length = n) (hs : s.length = l) : (valAt tab k s).length = m :=
  (G.tabs _ (List.mem_of_getElem? (G.key_ h))).2 _ (List.mem_of_getElem? (G.at_ h hs))
section
variable {P : Program} {w : World} {K : PySem.W.Frag} {mg : Str → Option Value} {base : Heap}
def spRowAt : Sp := fun vs H Q _ => ∃ v s n m rows, vs = [v, .str (bstr s)] ∧ Td H (encG n m rows) v ∧ GoodG n m rows ∧ s.length = n ∧ Q (.str (bstr (rowAt rows s))) H
theorem c_row_at (T : Tx w K mg) : C8.Cal P w K mg base 2 "row_at" (spN 2 spRowAt) [] := by
  refine mkFn T.fn_row_at sc_row_at (fun _ _ _ _ _ _ us hl => match us, hl with | [_, _], _ => rfl) (fun f cdv A outer s H vs Q E hr _ h => ?_)
  obtain ⟨v, s, n, m, rows, rfl, hv, G, hs, q⟩ := h
  refine ⟨_, (pss_one (ps_ret (pe_ix (ixK (K := K)) (pe_ix (ixK (K := K)) (pv 0) pe_int (fun _ _ => rfl)) (C8.pe_c (c_number_of T) hr (by first | decide | omega) (by rfl) (pa_cons (pv 1) pa_nil)) (fun _ _ => rfl)))), ?_⟩
  walk_at "go"
  rename_i u hu
  refine ⟨s, rfl, ?_⟩
  refine r_ixDs (Int.natCast_nonneg _) hu ?_ q
  rw [List.getElem?_map, Int.toNat_natCast, G.at_ hs]
  rfl
def spValAt : Sp := fun vs H Q _ => ∃ v k s n l m tab, vs = [v, .str (bstr k), .str (bstr s)] ∧ Td H (encF n l m tab) v ∧ GoodF n l m tab ∧ k.length = n ∧ s.length = l ∧ Q (.str (bstr (valAt tab k s))) H
theorem c_value_at (T : Tx w K mg) : C8.Cal P w K mg base 2 "value_at" (spN 3 spValAt) [] := by
  refine mkFn T.fn_value_at sc_value_at (fun _ _ _ _ _ _ us hl => match us, hl with | [_, _, _], _ => rfl) (fun f cdv A outer s H vs Q E hr _ h => ?_)
  obtain ⟨v, k, s, n, l, m, tab, rfl, hv, G, hk, hs, q⟩ := h
  refine ⟨_, (pss_one (ps_ret (pe_ix (ixK (K := K)) (pe_ix (ixK (K := K)) (pe_ix (ixK (K := K)) (pv 0) pe_int (fun _ _ => rfl)) (C8.pe_c (c_number_of T) hr (by first | decide | omega) (by rfl) (pa_cons (pv 1) pa_nil)) (fun _ _ => rfl)) (C8.pe_c (c_number_of T) hr (by first | decide | omega) (by rfl) (pa_cons (pv 2) pa_nil)) (fun _ _ => rfl)))), ?_⟩
  walk_at "go"
  rename_i u hu
  refine ⟨k, rfl, ?_⟩
  refine r_ixD (Int.natCast_nonneg _) hu (d := encR (tab.getD (numL k) [])) ?_ fun u2 hu2 => ?_
  · rw [List.getElem?_map, Int.toNat_natCast, G.key_ hk]
    rfl
  walk_at "go"
  refine ⟨s, rfl, ?_⟩
  refine r_ixDs (Int.natCast_nonneg _) hu2 ?_ q
  rw [List.getElem?_map, Int.toNat_natCast, G.at_ hk hs]
  rfl
/-- k bits put out from a state, then the last state -/
def putOut (rows : List (List Bool)) : List Bool → Nat → List Bool
  | st, 0 => st
  | st, k + 1 => (rowAt rows st).getLastD false :: putOut rows (rowAt rows st).dropLast k
theorem GoodG.putLen {n m : Nat} {rows : List (List Bool)} (G : GoodG n m rows) (e : m = n + 1) : ∀ (k : Nat) (st : List Bool), st.length = n → (putOut rows st k).length = n + k
  | 0, _, h => h
  | k + 1, st, h => by
    have h1 := G.rlen h
    rw [putOut, List.length_cons, GoodG.putLen G e k _ (by rw [List.length_dropLast, h1]; omega)]
    omega
def spPut : Sp := fun vs H Q _ => ∃ v st n m rows, ∃ k : Nat, vs = [v, .str (bstr st), .int k] ∧ Td H (encG n m rows) v ∧ GoodG n m rows ∧ m = n + 1 ∧ st.length = n ∧ k ≤ 20 ∧ ∀ H', Same H H' → Q (.str (bstr (putOut rows st k))) H'
theorem c_put_out (T : Tx w K mg) : C8.Cal P w K mg base 3 "put_out" (spN 3 spPut) [] := by
  refine mkFn T.fn_put_out sc_put_out (fun _ _ _ _ _ _ us hl => match us, hl with | [_, _, _], _ => rfl) (fun f cdv A outer s H vs Q E hr _ h => ?_)
  obtain ⟨v, st, n, m, rows, k, rfl, hv, G, em, hst, hk, q⟩ := h
  obtain ⟨n1, n2, m1, m2, gl, gr⟩ := id G
  refine ⟨_, (pss_cons (ps_set (i := 3) sc_put_out.nd rfl (by first | exact Or.inl rfl | exact Or.inr rfl) pe_str)
  (pss_cons (ps_for PassesOwn.never rfl (pi_range1 (by rfl) T.f_range (pa_cons (pv 2) pa_nil)) (pg_name (i := 4) sc_put_out.nd rfl (by first | exact Or.inl rfl | exact Or.inr rfl)) (pss_cons (ps_set (i := 5) sc_put_out.nd rfl (by first | exact Or.inl rfl | exact Or.inr rfl) (C8.pe_c (c_row_at T) hr (by first | decide | omega) (by rfl) (pa_cons (pv 0) (pa_cons (pv 1) pa_nil))))
  (pss_cons (ps_set (i := 1) sc_put_out.nd rfl (by first | exact Or.inl rfl | exact Or.inr rfl) (pe_slice sl_str (pv 5) po_none (po_some (pe_un un_neg pe_int))))
  (pss_one (ps_set (i := 3) sc_put_out.nd rfl (by first | exact Or.inl rfl | exact Or.inr rfl) (pe_op op_addS (pv 3) (pe_ix (ixK (K := K)) (pv 5) (pe_un un_neg pe_int) (fun _ _ => rfl))))))))
  (pss_one (ps_ret (pe_op op_addS (pv 3) (pv 1)))))), ?_⟩
  walk_at "go"
  walk_at "rng"
  refine for_it walk_range (fun i σ H2 => ∃ out st2 y y2, σ = [some v, some (.str (bstr st2)), some (.int k), some (.str (bstr out)), y, y2] ∧ H2 = H ∧ st2.length = n ∧ out.length = i ∧ out ++ putOut rows st2 (k - i) = putOut rows st k)
    ⟨[], st, none, none, by rw [← stE] <;> rfl, rfl, hst, rfl, rfl⟩ (fun _ _ _ _ _ => trivial) (fun i x σ H2 H3 hi hp hy => ?_) (fun σ H2 hp => ?_)
  · obtain ⟨out, st2, y, y2, rfl, rfl, h1, h2, h3⟩ := hp
    obtain ⟨rfl, hx⟩ := hy
    walk_at "go"
    have hrl := G.rlen h1
    refine ⟨v, st2, n, m, rows, rfl, hv, G, h1, ?_⟩
    walk_at "go"
    refine r_slInit (by omega) ?_
    walk_at "go"
    have hne : rowAt rows st2 ≠ [] := fun e => by rw [e] at hrl; simp at hrl; omega
    refine r_ixSlast (by omega) (b := (rowAt rows st2).getLastD false) ?_ ?_
    · rw [List.getLastD_eq_getLast?, List.getLast?_eq_some_getLast hne]; rfl
    walk_at "go"
    refine ⟨out ++ [(rowAt rows st2).getLastD false], (rowAt rows st2).dropLast, some x, some (.str (bstr (rowAt rows st2))), rfl, rfl, by rw [List.length_dropLast]; omega, by rw [List.length_append, h2]; rfl, ?_⟩
    rw [← h3, show k - i = (k - (i + 1)) + 1 by omega, putOut, List.append_assoc]
    rfl
  · obtain ⟨out, st2, y, y2, rfl, rfl, h1, h2, h3⟩ := hp
    walk_at "go"
    rw [Nat.sub_self] at h3
    rw [show out ++ st2 = putOut rows st k from h3]
    exact q _ (Same.refl _)
def halfOf (p : List Bool) (b : Bool) : List Bool := if b then p.drop (p.length / 2) else p.take (p.length / 2)
def spHalf : Sp := fun vs H Q _ => ∃ p b, vs = [.str (bstr p), .str (bstr [b])] ∧ p.length ≤ 1000 ∧ Q (.str (bstr (halfOf p b))) H
theorem c_half (T : Tx w K mg) : C8.Cal P w K mg base 1 "half" (spN 2 spHalf) [] := by
  refine mkFn T.fn_half sc_half (fun _ _ _ _ _ _ us hl => match us, hl with | [_, _], _ => rfl) (fun f cdv A outer s H vs Q E hr _ h => ?_)
  obtain ⟨p, b, rfl, hp, q⟩ := h
  refine ⟨_, (pss_cons (ps_set (i := 2) sc_half.nd rfl (by first | exact Or.inl rfl | exact Or.inr rfl) (pe_op op_fdiv (pe_callB (lenK (K := K)) (by rfl) T.f_len bt_len (pa_cons (pv 0) pa_nil)) pe_int))
  (pss_one (ps_ret (pe_ifExp (pt_cmpR op_eq (pv 1) pe_str (by rfl)) (pe_slice sl_str (pv 0) po_none (po_some (pv 2))) (pe_slice sl_str (pv 0) (po_some (pv 2)) po_none))))), ?_⟩
  walk_at "go"
  have e : (p.length : Int) / 2 = ((p.length / 2 : Nat) : Int) := by omega
  rw [e]
  rw [st0] 
  cases b with
  | false =>
    refine ite_t (by simp) ?_
    walk_at "go"
    exact r_slTo (Int.natCast_nonneg _) (by omega) q
  | true =>
    refine ite_f (by rw [decide_eq_true_eq]; intro z; exact absurd (bstr_inj z) (by decide)) ?_
    walk_at "go"
    exact r_slFrom (Int.natCast_nonneg _) (by omega) q
def goDown (rows : List (List Bool)) (lab path : List Bool) : List Bool := path.foldl (fun lab b => halfOf (rowAt rows lab) b) lab
theorem goDown_cons (rows : List (List Bool)) (lab : List Bool) (b : Bool) (r : List Bool) : goDown rows lab (b :: r) = goDown rows (halfOf (rowAt rows lab) b) r := rfl
theorem goDown_snoc (rows : List (List Bool)) (lab : List Bool) (b : Bool) (r : List Bool) : goDown rows lab (r ++ [b]) = halfOf (rowAt rows (goDown rows lab r)) b := by simp [goDown]
theorem half_len {p : List Bool} {n : Nat} (h : p.length = 2 * n) (b : Bool) : (halfOf p b).length = n := by
  unfold halfOf
  cases b <;> simp <;> omega
theorem GoodG.downLen {n m : Nat} {rows : List (List Bool)} (G : GoodG n m rows) (e : m = 2 * n) : ∀ (path lab : List Bool), lab.length = n → (goDown rows lab path).length = n
  | [], _, h => h
  | b :: r, lab, h => by
    rw [goDown_cons]
    exact GoodG.downLen G e r _ (half_len (by rw [G.rlen h, e]) b)
def spDown : Sp := fun vs H Q _ => ∃ v lab path n m rows, vs = [v, .str (bstr lab), .str (bstr path)] ∧ Td H (encG n m rows) v ∧ GoodG n m rows ∧ m = 2 * n ∧ lab.length = n ∧ Q (.str (bstr (goDown rows lab path))) H
theorem c_go_down (T : Tx w K mg) : C8.Cal P w K mg base 3 "go_down" (spN 3 spDown) [] := by
  refine mkFn T.fn_go_down sc_go_down (fun _ _ _ _ _ _ us hl => match us, hl with | [_, _, _], _ => rfl) (fun f cdv A outer s H vs Q E hr _ h => ?_)
  obtain ⟨v, lab, path, n, m, rows, rfl, hv, G, em, hl, q⟩ := h
  obtain ⟨n1, n2, m1, m2, gl, gr⟩ := id G
  refine ⟨_, (pss_cons (ps_for PassesOwn.never rfl (pi_str (pv 2)) (pg_name (i := 3) sc_go_down.nd rfl (by first | exact Or.inl rfl | exact Or.inr rfl)) (pss_one (ps_set (i := 1) sc_go_down.nd rfl (by first | exact Or.inl rfl | exact Or.inr rfl) (C8.pe_c (c_half T) hr (by first | decide | omega) (by rfl) (pa_cons (C8.pe_c (c_row_at T) hr (by first | decide | omega) (by rfl) (pa_cons (pv 0) (pa_cons (pv 1) pa_nil))) (pa_cons (pv 3) pa_nil))))))
  (pss_one (ps_ret (pv 1)))), ?_⟩
  walk_at "go"
  refine ⟨_, rfl, ?_⟩
  refine for_it walk_str (fun i σ H2 => ∃ y, σ = [some v, some (.str (bstr (goDown rows lab (path.take i)))), some (.str (bstr path)), y] ∧ H2 = H)
    ⟨none, rfl, rfl⟩ (fun _ _ _ _ _ => trivial) (fun i x σ H2 H3 hi hp hy => ?_) (fun σ H2 hp => ?_)
  · obtain ⟨y, rfl, rfl⟩ := hp
    obtain ⟨rfl, c, hc, rfl⟩ := hy
    obtain ⟨b, hb, eb⟩ := bit_of hc
    rw [eb]
    have hdl := G.downLen em (path.take i) lab hl
    have hrl := G.rlen hdl
    walk_at "go"
    refine ⟨v, goDown rows lab (path.take i), n, m, rows, rfl, hv, G, hdl, ?_⟩
    walk_at "go"
    refine ⟨rowAt rows (goDown rows lab (path.take i)), b, rfl, by omega, ?_⟩
    walk_at "go"
    refine ⟨some (.str (bstr [b])), ?_, rfl⟩
    have e : path.take (i + 1) = path.take i ++ [b] := by rw [List.take_succ, hb]; rfl
    rw [e, goDown_snoc]
    rfl
  · obtain ⟨y, rfl, rfl⟩ := hp
    walk_at "go"
    rw [cps_size, List.take_length]
    exact q
def turnsL (d q : Nat) : List Nat := (List.range d).map fun l => min (2 ^ l) q
def spTurns : Sp := fun vs H Q _ => ∃ d q : Nat, vs = [.int d, .int q] ∧ d ≤ 60 ∧ ∀ p H', Same H H' → H p = none → H' p = some (.lst ((turnsL d q).map fun x : Nat => V.int x)) → Q (.ref p) H'
theorem c_tree_turns (T : Tx w K mg) : C8.Cal P w K mg base 1 "tree_turns" (spN 2 spTurns) [] := by
  refine mkFn T.fn_tree_turns sc_tree_turns (fun _ _ _ _ _ _ us hl => match us, hl with | [_, _], _ => rfl) (fun f cdv A outer s H vs Q E hr _ h => ?_)
  obtain ⟨d, qq, rfl, hd, q⟩ := h
  refine ⟨_, (pss_one (ps_ret (pe_lc (own := [("level", 2)]) (by rfl) sc_tree_turns.nd (pi_range1 (by rfl) T.f_range (pa_cons (pv 0) pa_nil)) (blkOk_by (by rfl)) (fun _ _ _ _ _ => (pg_name (i := 2) sc_tree_turns.nd rfl (by first | exact Or.inl rfl | exact Or.inr rfl))) (fun _ _ _ _ _ => pts_nil) (fun _ _ _ _ _ => (pe_callB (call_min2 rfl) (by rfl) T.f_min bt_min (pa_cons (pe_op op_shl pe_int (pv 2)) (pa_cons (pv 1) pa_nil))))))), ?_⟩
  walk_at "go"
  walk_at "rng"
  intro D nD
  refine lc_it walk_range (fun i H2 => Same H H2 ∧ H2 D = some (.lst ((turnsL i qq).map fun x : Nat => V.int x))) ⟨same_upd nD, upd_same⟩ (fun _ _ _ _ => trivial) (fun i x H2 H3 hi hp hy => ?_) (fun H2 hp => ?_)
  · obtain ⟨s2, h2⟩ := hp
    obtain ⟨rfl, hx⟩ := hy
    have hx : x = .int (i : Nat) := by rw [hx]; simp
    subst hx
    walk_at "go"
    refine ⟨rfl, ?_⟩
    walk_at "go"
    refine ⟨_, _, rfl, ?_⟩
    refine ⟨_, h2, smallL (by simp [turnsL]; omega), s2.putNew nD, ?_⟩
    rw [upd_same]
    simp only [turnsL, List.range_succ, List.map_append, List.map_cons, List.map_nil]
    congr 3
    rw [pow_int]
    congr 1
    by_cases hh : (qq : Int) < ((2 ^ i : Nat) : Int)
    · rw [if_pos hh, Nat.min_eq_right (by omega)]
    · rw [if_neg hh, Nat.min_eq_left (by omega)]
  · obtain ⟨s2, h2⟩ := hp
    exact q D _ s2 nD h2
end
end BB
set_option Elab.async false
set_option linter.all false
set_option maxRecDepth 100000
set_option maxHeartbeats 4000000
/-! Part 3: rules of our own: a call of what a table holds, a method by the object's class, a class without __init__, calls with a keyword. -/
namespace BB
open PySem PySem.Spec PyProof.Rows L2
/-! ### the callee is any expression -/
def tCallE (P : Program) (w : World) (K : PySem.W.Frag) (mg : Str → Option Value) (base : Heap) (k : Nat) (tf : TE) (t : TA) : TE := fun σ H Q => tf σ H fun x H1 =>
  ∃ f sp, x = .ref f ∧ PySem.W.keepIn K (.ref f) = true ∧ FnR P w K mg base CX0 k f sp ∧ t σ H1 fun vs H2 => sp vs H2 Q E0
/-- a method by the class of its object -/
def tMethD (P : Program) (w : World) (K : PySem.W.Frag) (mg : Str → Option Value) (base : Heap) (k : Nat) (m : Str) (ta : TE) (t : TA) : TE := fun σ H Q => ta σ H fun x H1 =>
  ∃ a C dx fs sp, x = .ref a ∧ H1 a = some (.ins C dx fs) ∧ fs.lookup m = none ∧ C8.Met P w K mg base k C m sp [] ∧ t σ H1 fun vs H2 => sp (x :: (vs ++ [])) H2 Q E0
/-- C(), no __init__ -/
def tNew0 (C : Addr) : TE := fun σ H Q => ∀ x dx, H x = none → H dx = none → dx ≠ x → Q (.ref x) (upd (upd H dx (.own x)) x (.ins C dx []))
/-- a def that is called with one keyword behind n positional values -/
structure CalN (P : Program) (w : World) (K : PySem.W.Frag) (mg : Str → Option Value) (base : Heap) (k : Nat) (x : Str) (n : Nat) (ks : List Str) (sp : Sp) : Prop where
  ex : ∃ (f : Addr) (fd : FuncData) (ps : List Str), FnOk P w K mg base CX0 k f fd ps sp ∧ mg x = some (.ref f) ∧ PySem.W.keepIn K (.ref f) = true ∧ KBn K fd ps n ks (fun us ws => us ++ ws) (fun vs zs => vs ++ zs)
section
variable {X : Cx} {P : Program} {w : World} {K : PySem.W.Frag} {mg : Str → Option Value} {base : Heap} {k j : Nat} {e o func : Expr} {es : List Expr} {tf ta : TE} {t tk : TA} {pos apos p : Pos} {m x : Str} {C : Addr}
theorem pe_callE (hr : Room j X.A) (hk : k ≤ j) (hf : PE X func tf) (ha : PA X (e :: es) t)
    (harm : eval (.Call func (e :: es) [] pos) X.env = (do callWith pos (← eval func X.env) [] (backTo pos (starEach (e :: es) X.env)) (backToKw pos (keywordEach [] X.env))) := by rfl)
    (he : starEach (e :: es) X.env = (false, eval e X.env) :: starEach es X.env := by rfl) (hpl : (backTo pos (starEach es X.env)).any (·.1) = false := by rfl)
    (hX : X.prog = P ∧ X.w = w ∧ X.K = K ∧ X.mg = mg ∧ X.base = base := by exact ⟨rfl, rfl, rfl, rfl, rfl⟩) : PE X (.Call func (e :: es) [] pos) (tCallE P w K mg base k tf t) := by
  obtain ⟨rfl, rfl, rfl, rfl, rfl⟩ := hX
  refine ⟨fun pins s σ H Q I h => ?_⟩
  rw [harm]
  refine wpAny_bind (thn (hf.run pins s σ H _ I h) fun u s1 ⟨y, H1, I1, r1, f, sp, ef, kp, F, q1⟩ => ?_)
  subst ef
  obtain rfl : u = Value.ref f := r1
  refine PySem.W.callWith_K (h₀ := X.base) I.ok.mod.kin kp (thn (ha.run pos pins s1 σ H1 _ I1 q1) fun us s2 ⟨vs, H2, I2, r, q⟩ => ⟨I2.kIn, ?_⟩) he hpl
  refine wpAny_call (codeAny_mono (run_fnR F (hr.mono hk) pass0 I2 r q) fun r s' hq => ?_)
  cases r with
  | error e => exact hq
  | ok fl => cases fl <;> exact hq
theorem pe_mtD {pl : Sem Bool} (hr : Room j X.A) (hk : k ≤ j) (he : PE X o ta) (ha : PA X (e :: es) t)
    (hst : starEach (e :: es) X.env = (false, eval e X.env) :: starEach es X.env := by rfl) (hpl : (backTo pos (starEach es X.env)).any (·.1) = false := by rfl)
    (ht : eval (.Call (.Attribute o m apos) (e :: es) [] pos) X.env = (do
      let ov ← eval o X.env
      standAt apos.atName
      let (f, first) ← holding [ov] (getMethod ov m pl)
      callWith pos f first (backTo pos (starEach (e :: es) X.env)) (backToKw pos (keywordEach [] X.env))) := by rfl)
    (hX : X.prog = P ∧ X.w = w ∧ X.K = K ∧ X.mg = mg ∧ X.base = base := by exact ⟨rfl, rfl, rfl, rfl, rfl⟩) :
    PE X (.Call (.Attribute o m apos) (e :: es) [] pos) (tMethD P w K mg base k m ta t) := by
  obtain ⟨rfl, rfl, rfl, rfl, rfl⟩ := hX
  refine ⟨fun pins s σ H Q I h => ?_⟩
  refine PySem.W.methodCall_KW (pl := pl) (thn (he.run pins s σ H _ I h) fun u s1 ⟨y, H1, I1, rx, a, C, dx, fs, sp, ex, ea, l, M, q⟩ => ?_) ht
  subst ex
  obtain rfl : u = Value.ref a := rx
  obtain ⟨f, fd, ps, ds, c, hm, F, b, d⟩ := M.ex
  refine getmeth_ok I1 ea c hm l ?_
  refine PySem.W.callWith_K (first := [.ref a]) (h₀ := X.base) I.ok.mod.kin hm.kp (thn (ha.run pos pins s1 σ H1 _ I1 q) fun us s2 ⟨vs, H2, I2, r, q2⟩ => ⟨I2.kIn, ?_⟩) hst hpl
  exact run_fn (us := .ref a :: us) (vs := .ref a :: vs) F (hr.mono hk) b d pass0 I2 (.cons rfl r) q2
theorem pe_new0 (hmk : PySem.W.makesIn K C = true ∧ PySem.W.findIn K (.ref C) "__init__" = some (some (.builtin "object.__init__")) ∧ PySem.W.keepIn K (.ref C) = true) (hg : Gl X x) (hm : X.mg x = some (.ref C))
    (hdb : (x == ("__debug__" : Str)) = false := by decide) (hK : X.K = K := by rfl) : PE X (.Call (.Name x p) [] [] pos) (tNew0 C) := by
  subst hK
  obtain ⟨h1, h2, h3⟩ := hmk
  refine ⟨fun pins s σ H Q I h => ?_⟩
  refine wpAny_Call_Name_kw (ld_glob I hg hm ?_ hdb)
  refine PySem.W.callWith_K0 I.kIn h3 ?_
  have hq := h (s.heap.objs.size + 1) s.heap.objs.size (I.hok.fresh (Nat.le_succ _)) (I.hok.fresh (Nat.le_refl _)) (Nat.ne_of_lt (Nat.lt_succ_self _))
  have I2 := Inv.made (C := C) I
  have k := I.kIn
  obtain ⟨hh, g, d, t, os⟩ := s
  refine wpAny_call ?_
  have Y := PySem.W.makes_of (M := model X.prog X.w) k h1
  refine PySem.W.make_core Y (PySem.W.looks_findIn k h2) (fun self => PySem.W.Looks.of_pure (PySem.W.oi_bind self)) (.inr ⟨rfl, rfl⟩) ?_
  have hx : ((hh.push PySem.W.emptyDict).push (PySem.W.instObj C hh.objs.size)).get? (hh.objs.size + 1) = some (PySem.W.instObj C hh.objs.size) := by
    have := Heap.get?_push_size (hh.push PySem.W.emptyDict) (o := PySem.W.instObj C hh.objs.size) rfl
    rwa [Heap.size_push] at this
  have t1 : PySem.W.Looks (model X.prog X.w) ((hh.push PySem.W.emptyDict).push (PySem.W.instObj C hh.objs.size)) (typeOf (.ref (hh.objs.size + 1))) (.ref C) := (PySem.W.Looks.ld hx).andThen .now
  have t2 : PySem.W.Looks (model X.prog X.w) ((hh.push PySem.W.emptyDict).push (PySem.W.instObj C hh.objs.size)) (isInstance (.ref (hh.objs.size + 1)) (.type "object")) true := t1.andThen (Y.top.keeps fun b o e => Heap.get?_push_of_some _ (Heap.get?_push_of_some _ e))
  refine codeAny_call_builtin PySem.W.oi_plain PySem.W.entry_oi (@PySem.W.check_slot (model X.prog X.w) _ _ _ "object.__init__" "object" "__init__" (.ref (hh.objs.size + 1)) [] [] _ PySem.W.oi_kind PySem.W.oi_split t2 (PySem.W.oi_args (.ref (hh.objs.size + 1))) ?_)
  show wpAny _ _ (Builtin.«object.__init__» ⟨[Value.ref (hh.objs.size + 1)], []⟩) _ _ _
  rw [PySem.W.oi_run]
  exact wpAny_pure (And.intro rfl ⟨V.ref (hh.objs.size + 1), _, I2, rfl, hq⟩)
theorem pe_kw {n : Nat} {ks : List Str} {sp : Sp} {kws : List Keyword} (c : CalN P w K mg base k x n ks sp) (hr : Room j X.A) (hk : k ≤ j) (hg : Gl X x) (ha : PA X (e :: es) t) (hkw : PK X kws tk)
    (hall : (backToKw pos (keywordEach kws X.env)).all (·.1.isSome) = true := by rfl) (hks : (backToKw pos (keywordEach kws X.env)).filterMap (·.1) = ks := by rfl)
    (hdb : (x == ("__debug__" : Str)) = false := by decide) (he : starEach (e :: es) X.env = (false, eval e X.env) :: starEach es X.env := by rfl)
    (hpl : ((backTo pos (starEach (e :: es) X.env)).any (·.1) || (backToKw pos (keywordEach kws X.env)).any (·.1.isNone)) = false := by rfl)
    (hX : X.prog = P ∧ X.w = w ∧ X.K = K ∧ X.mg = mg ∧ X.base = base := by exact ⟨rfl, rfl, rfl, rfl, rfl⟩) :
    PE X (.Call (.Name x p) (e :: es) kws pos) (tCallN n ks.length sp (fun vs zs => vs ++ zs) E0 t tk) := by
  obtain ⟨rfl, rfl, rfl, rfl, rfl⟩ := hX
  obtain ⟨f, fd, ps, F, hm, kp, b⟩ := c.ex
  exact pe_callN F (hr.mono hk) hg hm kp b pass0 ha hkw hall hks hdb he hpl
end
theorem ixDK {X : Cx} {K : PySem.W.Frag} {w : World} (h : X.K = K := by rfl) (hw : X.w = w := by rfl) : IxR X (rIxD K w) := by subst h hw; exact ix_kdict
theorem calR {P : Program} {w : World} {K : PySem.W.Frag} {mg : Str → Option Value} {base : Heap} {k : Nat} {x : Str} {sp : Sp} {f : Addr} (c : C8.Cal P w K mg base k x sp []) (hm : mg x = some (.ref f)) :
    PySem.W.keepIn K (.ref f) = true ∧ FnR P w K mg base CX0 k f (fun vs H Q E => sp (vs ++ []) H Q E) := by
  obtain ⟨f', fd, ps, ds, F, hm', kp, b, d⟩ := c.ex
  rw [hm] at hm'
  cases hm'
  exact ⟨kp, F.raw b d⟩
theorem kdct {w : World} {K : PySem.W.Frag} {a : Addr} {rows : List (Str × V)} (t : TabF K w a rows) {z : Str} {v : V} (h : (z, v) ∈ rows) : KDct K w a z v := by
  obtain ⟨⟨es, n, D⟩, hr⟩ := t
  obtain ⟨u, e, r⟩ := hr _ h
  exact ⟨es, n, u, D.at_, D.lit, e, r⟩
theorem tabIn {w : World} {K : PySem.W.Frag} {a : Addr} {rows : List (Str × V)} (t : TabF K w a rows) {z : Str} {v : V} (h : (z, v) ∈ rows) : ∃ r, PySem.W.nsIn K a z = some r ∧ r.isSome = true := by
  obtain ⟨_, hr⟩ := t
  obtain ⟨u, e, _⟩ := hr _ h
  exact ⟨_, e, rfl⟩
/-- in and not in of a written table -/
def rInD (K : PySem.W.Frag) (a : Addr) (neg : Bool) : R2 := fun x y H Q => ∃ (z : Str) (r : Option Value), x = .str z ∧ y = .ref a ∧ PySem.W.nsIn K a z = some r ∧ Q (.bl (if neg then !r.isSome else r.isSome)) H
theorem inD {X : Cx} {K : PySem.W.Frag} {w : World} {a : Addr} {rows : List (Str × V)} (t : TabF K w a rows) (h : X.K = K := by rfl) (hw : X.w = w := by rfl) : OpR X (compareOp .In) (rInD K a false) := by
  subst h hw
  obtain ⟨⟨es, n, D⟩, _⟩ := t
  exact op_in_kd D
theorem notInD {X : Cx} {K : PySem.W.Frag} {w : World} {a : Addr} {rows : List (Str × V)} (t : TabF K w a rows) (h : X.K = K := by rfl) (hw : X.w = w := by rfl) : OpR X (compareOp .NotIn) (rInD K a true) := by
  subst h hw
  obtain ⟨⟨es, n, D⟩, _⟩ := t
  exact op_notIn_kd D
theorem piRevK {X : Cx} {K : PySem.W.Frag} {tg e : Expr} {ta : TA} {p pos : Pos} (hg : Gl X "reversed") (hm : X.mg "reversed" = none) (ha : PA X [e] ta) (hs : starEach [e] X.env = [(false, eval e X.env)] := by rfl) (h : X.K = K := by rfl) : PI X tg (.Call (.Name "reversed" p) [e] [] pos) (iRev K ta) := by subst h; exact pi_reversed hg hm ha hs
theorem piEnumK {X : Cx} {K : PySem.W.Frag} {e : Expr} {ta : TA} {p pos tpos : Pos} {elts : List Expr} {kk : Nat} (hg : Gl X "enumerate") (hm : X.mg "enumerate" = none) (ha : PA X [e] ta) (hs : starEach [e] X.env = [(false, eval e X.env)] := by rfl) (h : X.K = K := by rfl) : PI X (.Tuple elts kk tpos) (.Call (.Name "enumerate" p) [e] [] pos) (iEnum K ta) := by subst h; exact pi_enum hg hm ha hs
/-! ### their readings -/
section
variable {P : Program} {w : World} {K : PySem.W.Frag} {mg : Str → Option Value} {base : Heap} {k : Nat} {σ : L2.St} {H : Hp} {Q : VK} {D : Ends} {v x y : V}
theorem r_callE {tf : TE} {t : TA} (h : tf σ H fun x H1 => ∃ f sp, x = .ref f ∧ PySem.W.keepIn K (.ref f) = true ∧ FnR P w K mg base CX0 k f sp ∧ t σ H1 fun vs H2 => sp vs H2 Q E0) : tCallE P w K mg base k tf t σ H Q := h
theorem r_methD {m : Str} {ta : TE} {t : TA} (h : ta σ H fun x H1 => ∃ a C dx fs sp, x = .ref a ∧ H1 a = some (.ins C dx fs) ∧ fs.lookup m = none ∧ C8.Met P w K mg base k C m sp [] ∧ t σ H1 fun vs H2 => sp (x :: (vs ++ [])) H2 Q E0) : tMethD P w K mg base k m ta t σ H Q := h
theorem r_callN {n m : Nat} {sp : Sp} {gV : List V → List V → List V} {E : XK} {t tk : TA} (h : t σ H fun vs H1 => tk σ H1 fun zs H2 => vs.length = n ∧ zs.length = m ∧ sp (gV vs zs) H2 Q E) : tCallN n m sp gV E t tk σ H Q := h
theorem r_meth {C : Addr} {m : Str} {sp : Sp} {E : XK} {ta : TE} {t : TA} (h : ta σ H fun x H1 => ∃ a dx fs, x = .ref a ∧ H1 a = some (.ins C dx fs) ∧ fs.lookup m = none ∧ t σ H1 fun vs H2 => sp (x :: (vs ++ [])) H2 Q E) : tMeth C m sp [] E ta t σ H Q := h
theorem r_make {C : Addr} {sp : Sp} {E : XK} {t : TA} (h : t σ H fun vs H1 => ∀ x dx, H1 x = none → H1 dx = none → dx ≠ x → sp (.ref x :: (vs ++ [])) (upd (upd H1 dx (.own x)) x (.ins C dx [])) (fun v H2 => v = .non ∧ Q (.ref x) H2) E) : tMake C sp [] E t σ H Q := h
theorem r_while {c : TT} {tb : TS} (h : ∃ W : Nat → L2.St → Hp → Prop, (∃ m, W m σ H) ∧ ∀ m σ H, W m σ H → c σ H fun b H1 => if b = true then ∃ N : L2.St → Hp → Prop, (∀ σ' H', N σ' H' → ∃ m', m' < m ∧ W m' σ' H') ∧ tb { D with nx := N, ct := N, bk := D.nx } σ H1 else D.nx σ H1) : tWhile c tb D σ H := h
theorem r_intB {b : Bool} {A : Prop} {R : Bool → Prop} (q : R b) : A ∨ ∃ k, [V.bl b] = [V.bl k] ∧ R k := .inr ⟨b, rfl, q⟩
theorem r_intI {i : Int} {A : Prop} {R : Int → Prop} (q : R i) : (∃ k, [V.int i] = [V.int k] ∧ R k) ∨ A := .inl ⟨i, rfl, q⟩
theorem r_twoI {a b : Int} {R : Int → Int → Prop} (q : R a b) : ∃ i j, [V.int a, V.int b] = [V.int i, V.int j] ∧ R i j := ⟨a, b, rfl, q⟩
theorem r_oneI {a : Int} {R : Int → Prop} (q : R a) : ∃ i, [V.int a] = [V.int i] ∧ R i := ⟨a, rfl, q⟩
theorem r_inT {p : Addr} {z : Str} {ws : List Str} {b : Bool} (h : H p = some (.tup (ws.map V.str))) (e : inV (.str z) (ws.map V.str) = b) (q : Q (.bl b) H) : rIn K false (.str z) (.ref p) H Q :=
  ⟨p, _, rfl, .inr (SqT.of h), rfl, by simp [flatV], by rw [if_neg (by decide), e]; exact q⟩
theorem r_notInT {p : Addr} {z : Str} {ws : List Str} {b : Bool} (h : H p = some (.tup (ws.map V.str))) (e : (!inV (.str z) (ws.map V.str)) = b) (q : Q (.bl b) H) : rIn K true (.str z) (.ref p) H Q :=
  ⟨p, _, rfl, .inr (SqT.of h), rfl, by simp [flatV], by rw [if_pos rfl, e]; exact q⟩
theorem r_eqNS {a : Str} (q : Q (.bl false) H) : rEq .non (.str a) H Q := ⟨rfl, by rw [show decide (V.non = V.str a) = false from decide_eq_false (fun z => by cases z)]; exact q⟩
theorem r_ixK {a : Addr} {z : Str} (h : KDct K w a z v) (q : Q v H) : rIxD K w (.ref a) (.str z) H Q := ⟨a, z, v, rfl, rfl, h, q⟩
theorem r_inD {a : Addr} {z : Str} {rows : List (Str × V)} (t : TabF K w a rows) (h : (z, v) ∈ rows) (q : Q (.bl true) H) : rInD K a false (.str z) (.ref a) H Q := by
  obtain ⟨r, e, hr⟩ := tabIn t h
  exact ⟨z, r, rfl, rfl, e, by rw [hr]; exact q⟩
theorem r_notInD {a : Addr} {z : Str} {rows : List (Str × V)} (t : TabF K w a rows) (h : (z, v) ∈ rows) (q : Q (.bl false) H) : rInD K a true (.str z) (.ref a) H Q := by
  obtain ⟨r, e, hr⟩ := tabIn t h
  exact ⟨z, r, rfl, rfl, e, by rw [hr]; exact q⟩
theorem r_iRev {ta : TA} {R : It → Hp → Prop} (h : ta σ H fun vs H1 => ∃ (a : Addr) (xs : List V), vs = [.ref a] ∧ SqL K H1 a xs ∧ R (Itv K a xs.length) H1) : iRev K ta σ H R := h
theorem r_iEnum {ta : TA} {R : It → Hp → Prop} (h : ta σ H fun vs H1 => ∃ a xs, vs = [.ref a] ∧ SqL K H1 a xs ∧ R (Ite K a) H1) : iEnum K ta σ H R := h
theorem r_par {i j : Nat} {ta : TA} (h : ta σ H fun vs H1 => ∃ v w, vs = [v, w] ∧ D.nx ((σ.set i (some v)).set j (some w)) H1) : tPar i j ta D σ H := h
theorem r_two {a b : V} {R : V → V → Prop} (h : R a b) : ∃ v w, [a, b] = [v, w] ∧ R v w := ⟨a, b, rfl, h⟩
theorem r_gTup {n : Nat} {t : TGs} {a : Addr} {xs : List V} {R : L2.St → Hp → Prop} (h : SqT K H a xs) (hn : xs.length = n) (q : t xs σ H R) : gTup K n t (.ref a) σ H R := ⟨a, xs, rfl, h, hn, q⟩
theorem r_gCons {t : TG} {u : TGs} {r : List V} {R : L2.St → Hp → Prop} (q : t v σ H fun σ' H' => u r σ' H' R) : gCons t u (v :: r) σ H R := ⟨v, r, rfl, q⟩
theorem r_gNil {R : L2.St → Hp → Prop} (q : R σ H) : gNil [] σ H R := ⟨rfl, q⟩
theorem r_ext {l b : Addr} {xs zs : List V} (h : H l = some (.lst xs)) (hb : H b = some (.lst zs)) (hz : xs.length + zs.length ≤ 10000) (q : Q .non (upd H l (.lst (xs ++ zs)))) : rExtend (.ref l) [.ref b] H Q := ⟨l, b, xs, zs, rfl, rfl, h, hb, small hz, q⟩
theorem r_pop {l : Addr} {xs : List V} (h : H l = some (.lst (xs ++ [y]))) (q : Q y (upd H l (.lst xs))) : rPop (.ref l) [] H Q := ⟨l, xs ++ [y], y, rfl, rfl, h, by simp, by rw [List.dropLast_concat]; exact q⟩
theorem r_stF {ta tv : TE} {f : Str} (h : tv σ H fun y H1 => ta σ H1 fun x H2 => ∃ a C dx fs, x = .ref a ∧ H2 a = some (.ins C dx fs) ∧ Cls K C ∧ NoAttr K C f ∧ fs.length < 1000 ∧ D.nx σ (upd H2 a (.ins C dx (putF f y fs)))) : sFld K ta tv f D σ H := h
end
end BB
set_option Elab.async false
set_option linter.all false
set_option maxRecDepth 100000
set_option maxHeartbeats 4000000
/-! Part A5: longer and tree. -/
namespace BB
open PySem PySem.Spec PyProof.Rows L2
local macro_rules | `(tactic| walk_at "kit") => `(tactic| first | exact kit_int_int | exact kit_int_str | exact kit_int_bool | exact kit_int_tuple | exact kit_str_int | exact kit_str_str | exact kit_str_bool | exact kit_str_tuple | exact kit_bool_int | exact kit_bool_str | exact kit_bool_bool | exact kit_bool_tuple | exact kit_tuple_int | exact kit_tuple_str | exact kit_tuple_bool | exact kit_tuple_tuple)
local macro_rules | `(tactic| walk_at "side") => `(tactic| first | decide | omega | exact ⟨by decide, by decide⟩ | exact ⟨by omega, by omega, by decide⟩ | exact Or.inr ⟨by decide, by decide⟩ | exact Or.inl ⟨by decide, by decide⟩ | exact Or.inr ⟨by omega, by omega⟩ | exact Or.inl ⟨by omega, by omega⟩)
local macro_rules | `(tactic| walk_at "sm") => `(tactic| first | assumption | exact Same.refl _ | (refine' Same.trans ?_ (by assumption); walk_at "sm"))
local macro_rules | `(tactic| walk_at "td") => `(tactic| first | assumption | ((refine' Td.same ?a ?b); (case b => assumption); (case a => walk_at "sm")))
local macro_rules | `(tactic| walk_at "le") => `(tactic| first | assumption | omega | (simp; omega))
local macro_rules | `(tactic| walk_at "st") => `(tactic| with_reducible refine And.intro ⟨_, rfl⟩ ?_)
local macro_rules | `(tactic| walk_at "st") => `(tactic| with_reducible refine And.intro (tyL (by assumption)) ?_)
local macro_rules | `(tactic| walk_at "st") => `(tactic| ((with_reducible refine' r_addS ?e ?_); (case e => walk_at "le")))
local macro_rules | `(tactic| walk_at "st") => `(tactic| ((with_reducible refine' r_ixD ?hi ?h ?e ?_); (case hi => decide); (case h => walk_at "td"); (case e => exact rfl); intro u hu))
local macro_rules | `(tactic| walk_at "st") => `(tactic| ((with_reducible refine' r_ixDb ?hi ?h ?e ?_); (case hi => decide); (case h => walk_at "td"); (case e => exact rfl)))
local macro_rules | `(tactic| walk_at "st") => `(tactic| ((with_reducible refine' r_ixDs ?hi ?h ?e ?_); (case hi => decide); (case h => walk_at "td"); (case e => exact rfl)))
local macro_rules | `(tactic| walk_at "st") => `(tactic| ((with_reducible refine' r_ixDi ?hi ?h ?e ?_); (case hi => decide); (case h => walk_at "td"); (case e => exact rfl)))
local macro_rules | `(tactic| walk_at "st") => `(tactic| ((with_reducible refine' r_lenL ?e ?_); (case e => assumption)))
local macro_rules | `(tactic| walk_at "st") => `(tactic| ((with_reducible refine' r_lenD ?e ?_); (case e => walk_at "td")))
local macro_rules | `(tactic| walk_at "st") => `(tactic| ((with_reducible refine' r_lenS ?e ?_); (case e => walk_at "le")))
local macro_rules | `(tactic| walk_at "st") => `(tactic| ((with_reducible refine' r_isiD ?h ?e ?_); (case h => walk_at "td"); (case e => walk_at "kit")))
local macro_rules | `(tactic| walk_at "st") => `(tactic| ((with_reducible refine' r_isi_bl ?e ?_); (case e => walk_at "kit")))
local macro_rules | `(tactic| walk_at "st") => `(tactic| ((with_reducible refine' r_isi_str ?e ?_); (case e => walk_at "kit")))
local macro_rules | `(tactic| walk_at "st") => `(tactic| ((with_reducible refine' r_isi_int ?e ?_); (case e => walk_at "kit")))
local macro_rules | `(tactic| walk_at "st") => `(tactic| ((with_reducible refine r_I ?e ?_); (case e => walk_at "side")))
local macro_rules | `(tactic| walk_at "st") => `(tactic| with_reducible refine r_stF ?_)
local macro_rules | `(tactic| walk_at "st") => `(tactic| with_reducible refine r_make ?_)
local macro_rules | `(tactic| walk_at "st") => `(tactic| with_reducible refine r_meth ?_)
local macro_rules | `(tactic| walk_at "st") => `(tactic| with_reducible refine r_callN ?_)
local macro_rules | `(tactic| walk_at "st") => `(tactic| with_reducible refine r_methD ?_)
local macro_rules | `(tactic| walk_at "st") => `(tactic| with_reducible refine r_callE ?_)
local macro_rules | `(tactic| walk_at "st") => `(tactic| with_reducible refine r_gNil ?_)
local macro_rules | `(tactic| walk_at "st") => `(tactic| with_reducible refine r_gCons ?_)
local macro_rules | `(tactic| walk_at "st") => `(tactic| with_reducible refine r_oneI ?_)
local macro_rules | `(tactic| walk_at "st") => `(tactic| with_reducible refine r_twoI ?_)
local macro_rules | `(tactic| walk_at "st") => `(tactic| with_reducible refine r_intI ?_)
local macro_rules | `(tactic| walk_at "st") => `(tactic| with_reducible refine r_intB ?_)
local macro_rules | `(tactic| walk_at "st") => `(tactic| with_reducible refine r_eqNS ?_)
local macro_rules | `(tactic| walk_at "st") => `(tactic| with_reducible refine r_iEnum ?_)
local macro_rules | `(tactic| walk_at "st") => `(tactic| with_reducible refine r_iRev ?_)
local macro_rules | `(tactic| walk_at "st") => `(tactic| with_reducible refine r_two ?_)
local macro_rules | `(tactic| walk_at "st") => `(tactic| with_reducible refine r_par ?_)
local macro_rules | `(tactic| walk_at "st") => `(tactic| with_reducible refine r_ipI ?_)
local macro_rules | `(tactic| walk_at "st") => `(tactic| ((with_reducible refine' r_aug ?e ?_); (case e => exact rfl)))
local macro_rules | `(tactic| walk_at "st") => `(tactic| with_reducible refine r_eqB ?_)
local macro_rules | `(tactic| walk_at "st") => `(tactic| with_reducible refine r_neI ?_)
local macro_rules | `(tactic| walk_at "st") => `(tactic| with_reducible refine r_eqI ?_)
local macro_rules | `(tactic| walk_at "st") => `(tactic| with_reducible refine r_neS ?_)
local macro_rules | `(tactic| walk_at "st") => `(tactic| with_reducible refine r_eqS ?_)
local macro_rules | `(tactic| walk_at "st") => `(tactic| with_reducible refine r_iTup ?_)
local macro_rules | `(tactic| walk_at "st") => `(tactic| with_reducible refine r_iLst ?_)
local macro_rules | `(tactic| walk_at "st") => `(tactic| with_reducible refine r_iStr ?_)
local macro_rules | `(tactic| walk_at "st") => `(tactic| with_reducible refine r_rngI ?_)
local macro_rules | `(tactic| walk_at "st") => `(tactic| with_reducible refine r_yes ?_)
local macro_rules | `(tactic| walk_at "st") => `(tactic| with_reducible refine r_lc ?_)
local macro_rules | `(tactic| walk_at "st") => `(tactic| with_reducible refine r_for ?_)
local macro_rules | `(tactic| walk_at "st") => `(tactic| with_reducible refine r_fld ?_)
local macro_rules | `(tactic| walk_at "st") => `(tactic| with_reducible refine r_lst ?_)
local macro_rules | `(tactic| walk_at "st") => `(tactic| with_reducible refine r_tup ?_)
local macro_rules | `(tactic| walk_at "st") => `(tactic| with_reducible refine r_bm0 ?_)
local macro_rules | `(tactic| walk_at "st") => `(tactic| with_reducible refine r_bm ?_)
local macro_rules | `(tactic| walk_at "st") => `(tactic| with_reducible refine r_join ?_)
local macro_rules | `(tactic| walk_at "st") => `(tactic| with_reducible refine r_int ?_)
local macro_rules | `(tactic| walk_at "st") => `(tactic| with_reducible refine r_part ?_)
local macro_rules | `(tactic| walk_at "st") => `(tactic| with_reducible refine r_noPart ?_)
local macro_rules | `(tactic| walk_at "st") => `(tactic| with_reducible refine r_sl ?_)
local macro_rules | `(tactic| walk_at "st") => `(tactic| with_reducible refine r_next ?_)
local macro_rules | `(tactic| walk_at "st") => `(tactic| with_reducible refine r_cont ?_)
local macro_rules | `(tactic| walk_at "st") => `(tactic| with_reducible refine r_retN ?_)
local macro_rules | `(tactic| walk_at "st") => `(tactic| with_reducible refine r_ret ?_)
local macro_rules | `(tactic| walk_at "st") => `(tactic| with_reducible refine r_drop ?_)
local macro_rules | `(tactic| walk_at "st") => `(tactic| ((with_reducible refine r_spN ?e ?_); (case e => exact rfl)))
local macro_rules | `(tactic| walk_at "st") => `(tactic| with_reducible refine r_call ?_)
local macro_rules | `(tactic| walk_at "st") => `(tactic| with_reducible refine iteNF ?_)
local macro_rules | `(tactic| walk_at "st") => `(tactic| with_reducible refine iteNT ?_)
local macro_rules | `(tactic| walk_at "st") => `(tactic| with_reducible refine iteF ?_)
local macro_rules | `(tactic| walk_at "st") => `(tactic| with_reducible refine iteT ?_)
local macro_rules | `(tactic| walk_at "st") => `(tactic| with_reducible refine r_chain ?_)
local macro_rules | `(tactic| walk_at "st") => `(tactic| with_reducible refine r_notV ?_)
local macro_rules | `(tactic| walk_at "st") => `(tactic| with_reducible refine r_orV ?_)
local macro_rules | `(tactic| walk_at "st") => `(tactic| with_reducible refine r_andV ?_)
local macro_rules | `(tactic| walk_at "st") => `(tactic| with_reducible refine r_not ?_)
local macro_rules | `(tactic| walk_at "st") => `(tactic| with_reducible refine r_and ?_)
local macro_rules | `(tactic| walk_at "st") => `(tactic| with_reducible refine r_or ?_)
local macro_rules | `(tactic| walk_at "st") => `(tactic| with_reducible refine r_if ?_)
local macro_rules | `(tactic| walk_at "st") => `(tactic| with_reducible refine r_ifS ?_)
local macro_rules | `(tactic| walk_at "st") => `(tactic| with_reducible refine r_bl ?_)
local macro_rules | `(tactic| walk_at "st") => `(tactic| with_reducible refine r_tB ?_)
local macro_rules | `(tactic| walk_at "st") => `(tactic| with_reducible refine r_test ?_)
local macro_rules | `(tactic| walk_at "st") => `(tactic| with_reducible refine r_cb ?_)
local macro_rules | `(tactic| walk_at "st") => `(tactic| with_reducible refine r_gN ?_)
local macro_rules | `(tactic| walk_at "st") => `(tactic| with_reducible refine r_asg ?_)
local macro_rules | `(tactic| walk_at "st") => `(tactic| with_reducible refine r_U ?_)
local macro_rules | `(tactic| walk_at "st") => `(tactic| with_reducible refine r_I0 ?_)
local macro_rules | `(tactic| walk_at "st") => `(tactic| with_reducible refine r_un ?_)
local macro_rules | `(tactic| walk_at "st") => `(tactic| with_reducible refine r_op ?_)
local macro_rules | `(tactic| walk_at "st") => `(tactic| with_reducible refine r_c ?_)
local macro_rules | `(tactic| walk_at "st") => `(tactic| with_reducible refine r_nil ?_)
local macro_rules | `(tactic| walk_at "st") => `(tactic| with_reducible refine r_cons ?_)
local macro_rules | `(tactic| walk_at "st") => `(tactic| ((with_reducible refine' r_var ?e ?_); (case e => exact rfl)))
local macro_rules | `(tactic| walk_at "st") => `(tactic| ((with_reducible refine' r_seqN ?e ?_); (case e => ((try simp only [L2.start, List.map_cons, List.map_nil, List.length_cons, List.length_nil, Nat.zero_add, Nat.reduceAdd, Nat.reduceSub, List.replicate, List.cons_append, List.nil_append, List.set_cons_zero, List.set_cons_succ]); exact rfl))))
local macro_rules | `(tactic| walk_at "go") => `(tactic| repeat walk_at "st")
local macro_rules | `(tactic| walk_at "dec") => `(tactic| first | rfl | decide | (simp; done) | (simp; omega) | decide +kernel)
local macro_rules | `(tactic| walk_at "ift") => `(tactic| ((refine ite_t ?c ?_); (case c => walk_at "dec"); walk_at "go"))
local macro_rules | `(tactic| walk_at "iff") => `(tactic| ((refine ite_f ?c ?_); (case c => walk_at "dec"); walk_at "go"))
local macro_rules | `(tactic| walk_at "new") => `(tactic| ((try refine And.intro (small (Nat.le_of_ble_eq_true rfl)) ?_); intro p np; generalize e : upd _ p _ = H1; obtain ⟨s1, h1⟩ := newE2 e np; clear e))
local macro_rules | `(tactic| walk_at "rng") => `(tactic| (refine ⟨?a, ?b, ?c⟩; (case a => first | omega | exact Int.le_trans (by decide) (Int.natCast_nonneg _)); (case b => omega); rw [Int.toNat_natCast]))
local macro_rules | `(tactic| walk_at "rng") => `(tactic| (refine ⟨_, rfl, ?a, ?b, ?c⟩; (case a => first | omega | exact Int.le_trans (by decide) (Int.natCast_nonneg _)); (case b => omega); rw [Int.toNat_natCast]))
def longT (n : Nat) (rows : List (List Bool)) (k : Nat) : List (List Bool) := (List.range (2 ^ n)).map fun s => putOut rows (bitsL n s) k
def treeT (n : Nat) (rows : List (List Bool)) (d : Nat) : List (List (List Bool)) := (List.range (2 ^ n)).map fun key => (List.range (2 ^ d)).map fun path => goDown rows (bitsL n key) (bitsL d path)
theorem longT_good {n m : Nat} {rows : List (List Bool)} (G : GoodG n m rows) (e : m = n + 1) {k : Nat} (k1 : 1 ≤ k) (hk : n + k ≤ 40) : GoodG n (n + k) (longT n rows k) := by
  refine ⟨G.n1, G.n2, by have := G.n1; omega, hk, by simp [longT], fun r hr => ?_⟩
  simp only [longT, List.mem_map] at hr
  obtain ⟨s, _, rfl⟩ := hr
  exact G.putLen e k _ (bitsL_len n s)
theorem treeT_good {n m : Nat} {rows : List (List Bool)} (G : GoodG n m rows) (e : m = 2 * n) (n8 : n ≤ 8) {d : Nat} (d1 : 1 ≤ d) (d8 : d ≤ 8) (hd : n + d ≤ 12) : GoodF n d n (treeT n rows d) := by
  refine ⟨G.n1, n8, d1, d8, hd, G.n1, by omega, by simp [treeT], fun tab ht => ?_⟩
  simp only [treeT, List.mem_map] at ht
  obtain ⟨key, _, rfl⟩ := ht
  refine ⟨by simp, fun r hr => ?_⟩
  simp only [List.mem_map] at hr
  obtain ⟨p, _, rfl⟩ := hr
  exact G.downLen e _ _ (bitsL_len n key)
section
variable {P : Program} {w : World} {K : PySem.W.Frag} {mg : Str → Option Value} {base : Heap}
def spLonger : Sp := fun vs H Q _ => ∃ v n m rows, ∃ k : Nat, vs = [v, .int k] ∧ Td H (encG n m rows) v ∧ GoodG n m rows ∧ m = n + 1 ∧ 1 ≤ k ∧ k ≤ 20 ∧ n + k ≤ 40 ∧ ∀ H' u, Same H H' → Td H' (encG n (n + k) (longT n rows k)) u → Q u H'
theorem c_longer (T : Tx w K mg) : C8.Cal P w K mg base 5 "longer" (spN 2 spLonger) [] := by
  refine mkFn T.fn_longer sc_longer (fun _ _ _ _ _ _ us hl => match us, hl with | [_, _], _ => rfl) (fun f cdv A outer s H vs Q E hr _ h => ?_)
  obtain ⟨v, n, m, rows, k, rfl, hv, G, em, k1, k2, hk, q⟩ := h
  obtain ⟨n1, n2, m1, m2, gl, gr⟩ := id G
  refine ⟨_, (pss_cons (ps_expr (C8.pe_c (c_check_block T) hr (by first | decide | omega) (by rfl) (pa_cons (pv 0) pa_nil)))
  (pss_cons (ps_if (PW.pt (pw_or (pt_cmpR op_ne (pe_ix (ixK (K := K)) (pv 0) pe_int (fun _ _ => rfl)) pe_str (by rfl)) (pw_or (pt_cmpR op_ne (pe_ix (ixK (K := K)) (pv 0) pe_int (fun _ _ => rfl)) (pe_op op_add (pe_ix (ixK (K := K)) (pv 0) pe_int (fun _ _ => rfl)) pe_int) (by rfl)) (pw_or1 (pt_not (pt_val (C8.pe_c (c_is_number T) hr (by first | decide | omega) (by rfl) (pa_cons (pv 1) (pa_cons pe_int (pa_cons pe_int pa_nil)))))))))) (pss_one ps_never) pss_nil)
  (pss_cons (ps_setLc (i := 2) (own := [("seed", 3)]) (by rfl) sc_longer.nd rfl rfl (sw_true rfl rfl rfl (by decide +kernel)) (pi_range1 (by rfl) T.f_range (pa_cons (pe_op op_shl pe_int (pe_ix (ixK (K := K)) (pv 0) pe_int (fun _ _ => rfl))) pa_nil)) (blkOk_by (by rfl)) (fun _ _ _ _ _ => (pg_name (i := 3) sc_longer.nd rfl (by first | exact Or.inl rfl | exact Or.inr rfl))) (fun _ _ _ _ _ => pts_nil) (fun _ _ _ _ _ => (C8.pe_c (c_put_out T) hr (by first | decide | omega) (by rfl) (pa_cons (pv 0) (pa_cons (C8.pe_c (c_bits T) hr (by first | decide | omega) (by rfl) (pa_cons (pe_ix (ixK (K := K)) (pv 0) pe_int (fun _ _ => rfl)) (pa_cons (pv 3) pa_nil))) (pa_cons (pv 1) pa_nil))))))
  (pss_one (ps_ret (pe_tup (pa_cons pe_str (pa_cons (pe_ix (ixK (K := K)) (pv 0) pe_int (fun _ _ => rfl)) (pa_cons (pe_op op_add (pe_ix (ixK (K := K)) (pv 0) pe_int (fun _ _ => rfl)) (pv 1)) (pa_cons (pe_callTy (tupK (K := K)) (by rfl) T.f_tuple bt_tuple (pa_cons (pv 2) pa_nil)) pa_nil)))))))))), ?_⟩
  walk_at "go"
  refine ⟨v, rfl, .inl ⟨n, m, rows, hv, G⟩, fun H1 s1 => ?_⟩
  walk_at "go"
  walk_at "iff"
  refine ite_f ?_ ?_
  · subst em; simp
  walk_at "go"
  refine ⟨_, _, _, rfl, by omega, by omega, ?_⟩
  walk_at "go"
  rw [pow_int]
  have hp : 2 ^ n ≤ 2 ^ 10 := pow_le n2
  walk_at "rng"
  intro D nD
  refine lc_it walk_range (fun i H2 => Same H1 H2 ∧ H2 D = some (.lst (((List.range i).map fun s => putOut rows (bitsL n s) k).map fun r => V.str (bstr r)))) ⟨same_upd nD, upd_same⟩ (fun _ _ _ _ => trivial) (fun i x H2 H3 hi hp hy => ?_) (fun H2 hp => ?_)
  · obtain ⟨s2, h2⟩ := hp
    obtain ⟨rfl, hx⟩ := hy
    have hx : x = .int (i : Nat) := by rw [hx]; simp
    subst hx
    walk_at "go"
    refine ⟨rfl, ?_⟩
    walk_at "go"
    refine ⟨n, i, rfl, by omega, fun H4 s4 => ?_⟩
    walk_at "go"
    refine ⟨v, bitsL n i, n, m, rows, k, rfl, (hv.same s1).same (s2.trans s4), G, em, bitsL_len n i, k2, fun H5 s5 => ?_⟩
    have h5 := s5 _ _ (s4 _ _ h2)
    refine ⟨_, h5, smallL (by simp; omega), ((s2.trans s4).trans s5).putNew nD, ?_⟩
    rw [upd_same, List.range_succ, List.map_append, List.map_append]
    rfl
  · obtain ⟨s2, h2⟩ := hp
    walk_at "go"
    refine ⟨_, _, rfl, .inl ⟨SqL.of h2, ?_⟩⟩
    walk_at "new"; rename_i p np H4 s4 h4
    walk_at "go"
    walk_at "new"; rename_i p5 np5 H5 s5 h5
    refine q _ _ ((s1.trans s2).trans (s4.trans s5)) (td_tup h5 ⟨_, _, rfl, rfl, _, _, rfl, rfl, _, _, rfl, ?_, _, _, rfl, td_tup (s5 _ _ h4) (TdL.ofStrs bstr), rfl⟩)
    show V.int _ = V.int _
    simp
def spTree : Sp := fun vs H Q _ => ∃ v n m rows, ∃ d : Nat, vs = [v, .int d] ∧ Td H (encG n m rows) v ∧ GoodG n m rows ∧ m = 2 * n ∧ n ≤ 8 ∧ 1 ≤ d ∧ d ≤ 8 ∧ n + d ≤ 12 ∧ ∀ H' u, Same H H' → Td H' (encF n d n (treeT n rows d)) u → Q u H'
theorem c_tree (T : Tx w K mg) : C8.Cal P w K mg base 5 "tree" (spN 2 spTree) [] := by
  refine mkFn T.fn_tree sc_tree (fun _ _ _ _ _ _ us hl => match us, hl with | [_, _], _ => rfl) (fun f cdv A outer s H vs Q E hr _ h => ?_)
  obtain ⟨v, n, m, rows, d, rfl, hv, G, em, n8, d1, d8, hd, q⟩ := h
  obtain ⟨n1, n2, m1, m2, gl, gr⟩ := id G
  have hp : 2 ^ n ≤ 2 ^ 8 := pow_le n8
  have hp2 : 2 ^ d ≤ 2 ^ 8 := pow_le d8
  refine ⟨_, (pss_cons (ps_expr (C8.pe_c (c_check_block T) hr (by first | decide | omega) (by rfl) (pa_cons (pv 0) pa_nil)))
  (pss_cons (ps_if (PW.pt (pw_or (pt_cmpR op_ne (pe_ix (ixK (K := K)) (pv 0) pe_int (fun _ _ => rfl)) pe_str (by rfl)) (pw_or (pt_cmpR op_ne (pe_ix (ixK (K := K)) (pv 0) pe_int (fun _ _ => rfl)) (pe_op op_mul pe_int (pe_ix (ixK (K := K)) (pv 0) pe_int (fun _ _ => rfl))) (by rfl)) (pw_or (pt_not (pt_val (C8.pe_c (c_is_number T) hr (by first | decide | omega) (by rfl) (pa_cons (pv 1) (pa_cons pe_int (pa_cons pe_int pa_nil)))))) (pw_or1 (pt_cmpR op_gt (pe_op op_add (pe_ix (ixK (K := K)) (pv 0) pe_int (fun _ _ => rfl)) (pv 1)) pe_int (by rfl))))))) (pss_one ps_never) pss_nil)
  (pss_cons (ps_if (pt_cmpR op_gt (pe_ix (ixK (K := K)) (pv 0) pe_int (fun _ _ => rfl)) pe_int (by rfl)) (pss_one ps_never) pss_nil)
  (pss_cons (ps_setLc (i := 2) (own := [("key", 5)]) (by rfl) sc_tree.nd rfl rfl (sw_true rfl rfl rfl (by decide +kernel)) (pi_range1 (by rfl) T.f_range (pa_cons (pe_op op_shl pe_int (pe_ix (ixK (K := K)) (pv 0) pe_int (fun _ _ => rfl))) pa_nil)) (blkOk_by (by rfl)) (fun _ _ _ _ _ => (pg_name (i := 5) sc_tree.nd rfl (by first | exact Or.inl rfl | exact Or.inr rfl))) (fun _ _ _ _ _ => pts_nil) (fun _ _ _ _ _ => (C8.pe_c (c_bits T) hr (by first | decide | omega) (by rfl) (pa_cons (pe_ix (ixK (K := K)) (pv 0) pe_int (fun _ _ => rfl)) (pa_cons (pv 5) pa_nil)))))
  (pss_cons (ps_set (i := 3) sc_tree.nd rfl (by first | exact Or.inl rfl | exact Or.inr rfl) (pe_lc (own := [("path", 6)]) (by rfl) sc_tree.nd (pi_range1 (by rfl) T.f_range (pa_cons (pe_op op_shl pe_int (pv 1)) pa_nil)) (blkOk_by (by rfl)) (fun _ _ _ _ _ => (pg_name (i := 6) sc_tree.nd rfl (by first | exact Or.inl rfl | exact Or.inr rfl))) (fun _ _ _ _ _ => pts_nil) (fun _ _ _ _ _ => (C8.pe_c (c_bits T) hr (by first | decide | omega) (by rfl) (pa_cons (pv 1) (pa_cons (pv 6) pa_nil))))))
  (pss_cons (ps_setLc (i := 4) (own := [("key", 5)]) (by rfl) sc_tree.nd rfl rfl (sw_true rfl rfl rfl (by decide +kernel)) (piLK (K := K) (pv 2)) (blkOk_by (by rfl)) (fun _ _ _ _ _ => (pg_name (i := 5) sc_tree.nd rfl (by first | exact Or.inl rfl | exact Or.inr rfl))) (fun _ _ _ _ _ => pts_nil) (fun _ _ _ _ _ => (pe_callTy (tupK (K := K)) (by rfl) T.f_tuple bt_tuple (pa_cons (pe_lc (own := [("path", 6)]) (by rfl) sc_tree.nd (piLK (K := K) (pv 3)) (blkOk_by (by rfl)) (fun _ _ _ _ _ => (pg_name (i := 6) sc_tree.nd rfl (by first | exact Or.inl rfl | exact Or.inr rfl))) (fun _ _ _ _ _ => pts_nil) (fun _ _ _ _ _ => (C8.pe_c (c_go_down T) hr (by first | decide | omega) (by rfl) (pa_cons (pv 0) (pa_cons (pv 5) (pa_cons (pv 6) pa_nil)))))) pa_nil))))
  (pss_one (ps_ret (pe_tup (pa_cons pe_str (pa_cons (pe_ix (ixK (K := K)) (pv 0) pe_int (fun _ _ => rfl)) (pa_cons (pv 1) (pa_cons (pe_ix (ixK (K := K)) (pv 0) pe_int (fun _ _ => rfl)) (pa_cons (pe_callTy (tupK (K := K)) (by rfl) T.f_tuple bt_tuple (pa_cons (pv 4) pa_nil)) pa_nil)))))))))))))), ?_⟩
  walk_at "go"
  refine ⟨v, rfl, .inl ⟨n, m, rows, hv, G⟩, fun H1 s1 => ?_⟩
  walk_at "go"
  walk_at "iff"
  refine ite_f ?_ ?_
  · subst em; simp
  walk_at "go"
  refine ⟨_, _, _, rfl, by omega, by omega, ?_⟩
  walk_at "go"
  walk_at "iff"
  walk_at "iff"
  rw [pow_int]
  walk_at "rng"
  intro D nD
  refine lc_it walk_range (fun i H2 => Same H1 H2 ∧ H2 D = some (.lst ((List.range i).map fun s => V.str (bstr (bitsL n s))))) ⟨same_upd nD, upd_same⟩ (fun _ _ _ _ => trivial) (fun i x H2 H3 hi hp hy => ?_) (fun H2 hp => ?_)
  · obtain ⟨s2, h2⟩ := hp
    obtain ⟨rfl, hx⟩ := hy
    have hx : x = .int (i : Nat) := by rw [hx]; simp
    subst hx
    walk_at "go"
    refine ⟨rfl, ?_⟩
    walk_at "go"
    refine ⟨n, i, rfl, by omega, fun H4 s4 => ?_⟩
    have h4 := s4 _ _ h2
    refine ⟨_, h4, smallL (by simp; omega), (s2.trans s4).putNew nD, ?_⟩
    rw [upd_same, List.range_succ, List.map_append]
    rfl
  obtain ⟨s2, h2⟩ := hp
  walk_at "go"
  rw [pow_int]
  walk_at "rng"
  intro D2 nD2
  refine lc_it walk_range (fun i H3 => Same H2 H3 ∧ H3 D2 = some (.lst ((List.range i).map fun s => V.str (bstr (bitsL d s))))) ⟨same_upd nD2, upd_same⟩ (fun _ _ _ _ => trivial) (fun i x H3 H4 hi hp hy => ?_) (fun H3 hp => ?_)
  · obtain ⟨s3, h3⟩ := hp
    obtain ⟨rfl, hx⟩ := hy
    have hx : x = .int (i : Nat) := by rw [hx]; simp
    subst hx
    walk_at "go"
    refine ⟨rfl, ?_⟩
    walk_at "go"
    refine ⟨d, i, rfl, by omega, fun H4 s4 => ?_⟩
    have h4 := s4 _ _ h3
    refine ⟨_, h4, smallL (by simp; omega), (s3.trans s4).putNew nD2, ?_⟩
    rw [upd_same, List.range_succ, List.map_append]
    rfl
  obtain ⟨s3, h3⟩ := hp
  have h2' := s3 _ _ h2
  have sv := (s1.trans s2).trans s3
  walk_at "go"
  refine ⟨D, rfl, ⟨_, SqL.of h2'⟩, ?_⟩
  intro D3 nD3
  refine lc_it (walk_list (xs := (List.range (2 ^ n)).map fun s => V.str (bstr (bitsL n s)))) (fun i H4 => Same H3 H4 ∧ ∃ vs, H4 D3 = some (.lst vs) ∧ TdL H4 (((List.range i).map fun key => (List.range (2 ^ d)).map fun path => goDown rows (bitsL n key) (bitsL d path)).map encR) vs)
    ⟨same_upd nD3, _, upd_same, rfl⟩ (fun i H4 _ hp => SqL.of (hp.1 _ _ h2')) (fun i x H4 H5 hi hp hy => ?_) (fun H4 hp => ?_)
  · obtain ⟨s4, vs, h4, t4⟩ := hp
    obtain ⟨rfl, hx⟩ := hy
    rw [List.length_map, List.length_range] at hi
    rw [List.getElem?_map, List.getElem?_range hi] at hx
    obtain rfl : V.str (bstr (bitsL n i)) = x := Option.some.inj hx
    walk_at "go"
    refine ⟨rfl, ?_⟩
    walk_at "go"
    have h3' := s4 _ _ h3
    refine ⟨D2, rfl, ⟨_, SqL.of h3'⟩, ?_⟩
    intro D4 nD4
    refine lc_it (walk_list (xs := (List.range (2 ^ d)).map fun s => V.str (bstr (bitsL d s)))) (fun j H6 => Same H5 H6 ∧ H6 D4 = some (.lst ((List.range j).map fun path => V.str (bstr (goDown rows (bitsL n i) (bitsL d path))))))
      ⟨same_upd nD4, upd_same⟩ (fun i H4 _ hp => SqL.of (hp.1 _ _ h3')) (fun j x H5 H6 hj hp hy => ?_) (fun H5 hp => ?_)
    · obtain ⟨s5, h5⟩ := hp
      obtain ⟨rfl, hx⟩ := hy
      rw [List.length_map, List.length_range] at hj
      rw [List.getElem?_map, List.getElem?_range hj] at hx
      obtain rfl : V.str (bstr (bitsL d j)) = x := Option.some.inj hx
      walk_at "go"
      refine ⟨rfl, ?_⟩
      walk_at "go"
      refine ⟨v, bitsL n i, bitsL d j, n, m, rows, rfl, hv.same (sv.trans (s4.trans s5)), G, em, bitsL_len n i, ?_⟩
      refine ⟨_, h5, smallL (by simp; omega), s5.putNew nD4, ?_⟩
      rw [upd_same, List.range_succ, List.map_append]
      rfl
    · obtain ⟨s5, h5⟩ := hp
      rw [List.length_map, List.length_range] at h5
      walk_at "go"
      refine ⟨_, _, rfl, .inl ⟨SqL.of h5, ?_⟩⟩
      walk_at "new"; rename_i p np H6 s6 h6
      have h4' := s6 _ _ (s5 _ _ h4)
      have t6 := t4.same (s5.trans s6)
      have t7 := TdL.ext (Ext.put (o := .lst (vs ++ [.ref p])) (D := [D3]) (by simp) h4' (by intro xs z; cases z)) t6
      have hl : vs.length = i := by rw [t4.len]; simp
      refine ⟨vs, h4', smallL (by omega), ((s4.trans s5).trans s6).putNew nD3, _, upd_same, ?_⟩
      rw [List.range_succ, List.map_append, List.map_append]
      refine t7.snoc ?_
      refine td_tup (by rw [upd_ne (fun z => by rw [z, h4'] at h6; cases h6)]; exact h6) ?_
      have e : ((List.range (2 ^ d)).map fun path => V.str (bstr (goDown rows (bitsL n i) (bitsL d path)))) = ((List.range (2 ^ d)).map fun path => goDown rows (bitsL n i) (bitsL d path)).map fun r => V.str (bstr r) := by rw [List.map_map]; rfl
      rw [e]
      exact TdL.ofStrs bstr
  · obtain ⟨s4, vs, h4, t4⟩ := hp
    rw [List.length_map, List.length_range] at t4
    walk_at "go"
    refine ⟨_, _, rfl, .inl ⟨SqL.of h4, ?_⟩⟩
    walk_at "new"; rename_i p np H5 s5 h5
    walk_at "go"
    walk_at "new"; rename_i p6 np6 H6 s6 h6
    refine q _ _ (sv.trans ((s4.trans s5).trans s6)) (td_tup h6 ⟨_, _, rfl, rfl, _, _, rfl, rfl, _, _, rfl, rfl, _, _, rfl, rfl, _, _, rfl, td_tup (s6 _ _ h5) (t4.same (s5.trans s6)), rfl⟩)
end
/-! Part A6: plain breakers, checked. -/
open PySem PySem.Spec PyProof.Rows L2
inductive Part where
  | bit (b : Bool)
  | ix (n : Nat)
inductive Br where
  | say (ps : List Part)
  | toss (bs : List Br)
  | look (i : Nat) (a b : Br)
  | ask (ps : List Part) (n : Br)
def encP : Part → PyData
  | .bit b => .str (bstr [b])
  | .ix n => .int n
abbrev encPs (ps : List Part) : PyData := .tuple (ps.map encP)
mutual
def encB : Br → PyData
  | .say ps => .tuple [.str "say", encPs ps]
  | .toss bs => .tuple [.str "toss", .tuple (encBs bs)]
  | .look i a b => .tuple [.str "look", .int i, encB a, encB b]
  | .ask ps n => .tuple [.str "ask", encPs ps, encB n]
def encBs : List Br → List PyData
  | [] => []
  | b :: r => encB b :: encBs r
end
theorem encBs_eq : ∀ bs, encBs bs = bs.map encB
  | [] => rfl
  | b :: r => by rw [encBs, encBs_eq r]; rfl
/-- the breakers that one goes on as -/
def Br.inner : Br → List Br
  | .say _ => []
  | .toss bs => bs
  | .look _ a b => [a, b]
  | .ask _ n => [n]
mutual
def Br.size : Br → Nat
  | .say _ => 1
  | .toss bs => 1 + Br.sizes bs
  | .look _ a b => 1 + (a.size + (b.size + 0))
  | .ask _ n => 1 + (n.size + 0)
def Br.sizes : List Br → Nat
  | [] => 0
  | b :: r => b.size + Br.sizes r
end
theorem Br.size_inner (b : Br) : b.size = 1 + Br.sizes b.inner := by
  cases b <;> simp only [Br.size, Br.inner, Br.sizes]
theorem Br.size_pos (b : Br) : 1 ≤ b.size := by rw [b.size_inner]; omega
mutual
def Br.depth : Br → Nat
  | .say _ => 1
  | .toss bs => 1 + Br.depths bs
  | .look _ a b => 1 + max a.depth (max b.depth 0)
  | .ask _ n => 1 + max n.depth 0
def Br.depths : List Br → Nat
  | [] => 0
  | b :: r => max b.depth (Br.depths r)
end
theorem Br.depth_inner (b : Br) : b.depth = 1 + Br.depths b.inner := by
  cases b <;> simp only [Br.depth, Br.inner, Br.depths]
theorem Br.depths_mem {b : Br} : ∀ {l : List Br}, b ∈ l → b.depth ≤ Br.depths l
  | [], h => by simp at h
  | x :: r, h => by
    rw [Br.depths]
    rcases List.mem_cons.mp h with rfl | h
    · omega
    · have := Br.depths_mem h; omega
mutual
def Br.asks : Br → Nat
  | .say _ => 0
  | .toss bs => Br.asksL bs
  | .look _ a b => max a.asks (max b.asks 0)
  | .ask _ n => 1 + max n.asks 0
def Br.asksL : List Br → Nat
  | [] => 0
  | b :: r => max b.asks (Br.asksL r)
end
def Br.isAsk : Br → Nat
  | .ask _ _ => 1
  | _ => 0
theorem Br.asks_inner (b : Br) : b.asks = b.isAsk + Br.asksL b.inner := by
  cases b <;> simp only [Br.asks, Br.inner, Br.asksL, Br.isAsk] <;> omega
def Part.good : Part → Prop
  | .bit _ => True
  | .ix n => n ≤ 9999
mutual
def Br.good : Br → Prop
  | .say ps => ps.length ≤ 1000 ∧ ∀ p ∈ ps, p.good
  | .toss bs => 1 ≤ bs.length ∧ bs.length ≤ 64 ∧ Br.goods bs
  | .look i a b => i ≤ 9999 ∧ a.good ∧ b.good ∧ True
  | .ask ps n => (ps.length ≤ 1000 ∧ ∀ p ∈ ps, p.good) ∧ n.good ∧ True
def Br.goods : List Br → Prop
  | [] => True
  | b :: r => b.good ∧ Br.goods r
end
theorem Br.goods_mem {b : Br} : ∀ {l : List Br}, Br.goods l → b ∈ l → b.good
  | [], _, h => by simp at h
  | x :: r, g, h => by
    rcases List.mem_cons.mp h with rfl | h
    · exact g.1
    · exact Br.goods_mem g.2 h
theorem Br.good_inner {b : Br} (g : b.good) : Br.goods b.inner := by
  cases b with
  | say ps => trivial
  | toss bs => exact g.2.2
  | look i x y => exact g.2
  | ask ps n => exact g.2
section
variable {P : Program} {w : World} {K : PySem.W.Frag} {mg : Str → Option Value} {base : Heap}
/-- value[0] in PLAIN_WORDS -/
theorem rIn_plain (T : Tx w K mg) {σ : L2.St} {H : Hp} {Q : VK} {z : Str} {b : Bool} (e : inV (.str z) [.str "say", .str "toss", .str "look", .str "ask"] = b) (q : Q (.bl b) H) : rIn K false (.str z) (.ref (He.ga K "PLAIN_WORDS")) H Q :=
  ⟨_, _, rfl, .inr (T.plain H), rfl, rfl, by rw [if_neg (by decide), e]; exact q⟩
def word : Br → Str
  | .say _ => "say"
  | .toss _ => "toss"
  | .look _ _ _ => "look"
  | .ask _ _ => "ask"
def restB : Br → List PyData
  | .say ps => [encPs ps]
  | .toss bs => [.tuple (encBs bs)]
  | .look i a b => [.int i, encB a, encB b]
  | .ask ps n => [encPs ps, encB n]
theorem encB_eq (b : Br) : encB b = .tuple (.str (word b) :: restB b) := by cases b <;> simp only [encB, word, restB]
theorem word_in (b : Br) : inV (.str (word b)) [.str "say", .str "toss", .str "look", .str "ask"] = true := by
  cases b
  · show inV (.str "say") _ = true; decide +kernel
  · show inV (.str "toss") _ = true; decide +kernel
  · show inV (.str "look") _ = true; decide +kernel
  · show inV (.str "ask") _ = true; decide +kernel
/-- the words of made breakers -/
def madeW : List Str := ["longer", "tree", "marks", "secrets"]
def spHasPlain : Sp := fun vs H Q _ => ∃ v z ds, vs = [v] ∧ Td H (.tuple (.str z :: ds)) v ∧ ((z ∈ madeW ∧ Q (.bl false) H) ∨ ((∃ b : Br, z = word b) ∧ Q (.bl true) H))
theorem c_has_plain_word (T : Tx w K mg) : C8.Cal P w K mg base 1 "has_plain_word" (spN 1 spHasPlain) [] := by
  refine mkFn T.fn_has_plain_word sc_has_plain_word (fun _ _ _ _ _ _ us hl => match us, hl with | [_], _ => rfl) (fun f cdv A outer s H vs Q E hr _ h => ?_)
  obtain ⟨v, z, ds, rfl, hv, q⟩ := h
  refine ⟨_, (pss_one (ps_ret (pe_and (pe_callB (isiK (K := K)) (by rfl) T.f_isinstance bt_isinstance (pa_cons (pv 0) (pa_cons (pe_bltn (v := .ty "tuple") (by rfl) T.f_tuple bt_tuple rfl) pa_nil))) (pe_and (pe_cmpR op_gt (pe_callB (lenK (K := K)) (by rfl) T.f_len bt_len (pa_cons (pv 0) pa_nil)) pe_int (by rfl)) (pe_and (pe_callB (isiK (K := K)) (by rfl) T.f_isinstance bt_isinstance (pa_cons (pe_ix (ixK (K := K)) (pv 0) pe_int (fun _ _ => rfl)) (pa_cons (pe_bltn (v := .ty "str") (by rfl) T.f_str bt_str rfl) pa_nil))) (pe_one (pe_cmpR (inK (K := K)) (pe_ix (ixK (K := K)) (pv 0) pe_int (fun _ _ => rfl)) (C8.pe_gc (by rfl) T.k_PLAIN_WORDS) (by rfl)))))))), ?_⟩
  walk_at "go"
  walk_at "ift"
  rcases q with ⟨hz, q⟩ | ⟨⟨b, rfl⟩, q⟩
  · refine rIn_plain T (σ := []) (b := false) ?_ q
    simp only [madeW, List.mem_cons, List.not_mem_nil, or_false] at hz
    rcases hz with rfl | rfl | rfl | rfl <;> decide +kernel
  · exact rIn_plain T (σ := []) (word_in b) q
def spParts : Sp := fun vs H Q _ => ∃ v ps, vs = [v] ∧ Td H (encPs ps) v ∧ ps.length ≤ 1000 ∧ (∀ p ∈ ps, p.good) ∧ ∀ H', Same H H' → Q (.bl true) H'
theorem c_are_parts (T : Tx w K mg) : C8.Cal P w K mg base 2 "are_parts" (spN 1 spParts) [] := by
  refine mkFn T.fn_are_parts sc_are_parts (fun _ _ _ _ _ _ us hl => match us, hl with | [_], _ => rfl) (fun f cdv A outer s H vs Q E hr _ h => ?_)
  obtain ⟨v, ps, rfl, hv, hl, hg, q⟩ := h
  refine ⟨_, (pss_cons (ps_if (pt_not (pt_val (pe_callB (isiK (K := K)) (by rfl) T.f_isinstance bt_isinstance (pa_cons (pv 0) (pa_cons (pe_bltn (v := .ty "tuple") (by rfl) T.f_tuple bt_tuple rfl) pa_nil))))) (pss_one (ps_ret pe_bl)) pss_nil)
  (pss_cons (ps_for PassesOwn.never rfl (piTK (K := K) (pv 0)) (pg_name (i := 1) sc_are_parts.nd rfl (by first | exact Or.inl rfl | exact Or.inr rfl)) (pss_one (ps_if (PW.pt (pw_and (pt_not (pt_val (C8.pe_c (c_is_bits T) hr (by first | decide | omega) (by rfl) (pa_cons (pv 1) (pa_cons pe_int pa_nil))))) (pw_and1 (pt_not (pt_val (C8.pe_c (c_is_number T) hr (by first | decide | omega) (by rfl) (pa_cons (pv 1) (pa_cons pe_int (pa_cons (C8.pe_gc (by rfl) T.k_MOST_BIT) pa_nil))))))))) (pss_one (ps_ret pe_bl)) pss_nil)))
  (pss_one (ps_ret pe_bl)))), ?_⟩
  walk_at "go"
  obtain ⟨a, xs, rfl, ha, hx⟩ := id hv
  have hxl := hx.len
  rw [List.length_map] at hxl
  refine ⟨a, rfl, ⟨xs, SqT.of ha⟩, ?_⟩
  refine for_it (walk_tup (xs := xs)) (fun i σ H2 => ∃ y, σ = [some (.ref a), y] ∧ Same H H2) ⟨none, rfl, Same.refl _⟩ (fun _ _ _ _ hp => SqT.of (by obtain ⟨_, _, s2⟩ := hp; exact s2 _ _ ha)) (fun i x σ H2 H3 hi hp hy => ?_) (fun σ H2 hp => ?_)
  · obtain ⟨y, rfl, s2⟩ := hp
    obtain ⟨rfl, hxi⟩ := hy
    have hpi : ∃ p, ps[i]? = some p := ⟨ps[i]'(by omega), List.getElem?_eq_getElem _⟩
    obtain ⟨p, hp⟩ := hpi
    obtain ⟨u2, e2, h2u⟩ := hx.get (i := i) (d := encP p) (by rw [List.getElem?_map, hp]; rfl)
    rw [hxi] at e2
    cases e2
    have hgp := hg p (List.mem_of_getElem? hp)
    walk_at "go"
    cases p with
    | bit b =>
      obtain rfl : x = .str (bstr [b]) := h2u
      refine .inl ⟨[b], _, rfl, rfl, by simp, fun H4 s4 => ?_⟩
      walk_at "go"
      exact ⟨some (.str (bstr [b])), rfl, s2.trans s4⟩
    | ix n =>
      obtain rfl : x = .int n := h2u
      have hgp : n ≤ 9999 := hgp
      refine .inr ⟨_, _, rfl, ?_⟩
      walk_at "go"
      refine ⟨_, _, _, rfl, by omega, by omega, ?_⟩
      walk_at "go"
      exact ⟨some (.int n), rfl, s2⟩
  · obtain ⟨y, rfl, s2⟩ := hp
    walk_at "go"
    exact q _ s2
theorem td_tup0 {H : Hp} {p : Addr} (h : H p = some (.tup [])) : Td H (.tuple []) (.ref p) := ⟨p, [], rfl, h, rfl⟩
def spInner : Sp := fun vs H Q _ => ∃ v, ∃ b : Br, vs = [v] ∧ Td H (encB b) v ∧ b.good ∧ ∀ H' u, Same H H' → Td H' (.tuple (b.inner.map encB)) u → Q u H'
theorem r_slT {K : PySem.W.Frag} {H : Hp} {Q : VK} {v : V} {ds es : List PyData} {lo hi : Option Int} (h : Td H (.tuple ds) v) (e : (ds.drop (HT.sIx ds.length 0 lo)).take (HT.sIx ds.length ds.length hi - HT.sIx ds.length 0 lo) = es)
    (q : ∀ H' u, Same H H' → Td H' (.tuple es) u → Q u H') : rSlA K v lo hi H Q := by
  obtain ⟨a, xs, rfl, ha, hx⟩ := h
  subst e
  refine ⟨a, xs, rfl, SqT.of ha, ?_⟩
  have hc : TdL H ((ds.drop (HT.sIx ds.length 0 lo)).take (HT.sIx ds.length ds.length hi - HT.sIx ds.length 0 lo)) (cutV xs lo hi) := by
    unfold cutV
    rw [hx.len]
    exact (hx.drop _).take _
  refine ⟨fun hw => ?_, fun hw p hp => q _ _ (same_upd hp) ⟨p, _, rfl, upd_same, hc.same (same_upd hp)⟩⟩
  have e2 : cutV xs lo hi = xs := by unfold cutV; rw [hw.1, hw.2]; simp
  rw [e2] at hc
  exact q H _ (Same.refl _) ⟨a, xs, rfl, ha, hc⟩
theorem c_inner_plain (T : Tx w K mg) : C8.Cal P w K mg base 3 "inner_plain" (spN 1 spInner) [] := by
  refine mkFn T.fn_inner_plain sc_inner_plain (fun _ _ _ _ _ _ us hl => match us, hl with | [_], _ => rfl) (fun f cdv A outer s H vs Q E hr _ h => ?_)
  obtain ⟨v, b, rfl, hv, g, q⟩ := h
  refine ⟨_, (pss_cons (ps_if (PW.pt (pw_and (pt_val (pe_callB (isiK (K := K)) (by rfl) T.f_isinstance bt_isinstance (pa_cons (pv 0) (pa_cons (pe_bltn (v := .ty "tuple") (by rfl) T.f_tuple bt_tuple rfl) pa_nil)))) (pw_and (pt_cmpR op_gt (pe_callB (lenK (K := K)) (by rfl) T.f_len bt_len (pa_cons (pv 0) pa_nil)) pe_int (by rfl)) (pw_and1 (pt_val (pe_callB (isiK (K := K)) (by rfl) T.f_isinstance bt_isinstance (pa_cons (pe_ix (ixK (K := K)) (pv 0) pe_int (fun _ _ => rfl)) (pa_cons (pe_bltn (v := .ty "str") (by rfl) T.f_str bt_str rfl) pa_nil)))))))) (pss_cons (ps_par (i := 1) (j := 2) rfl sc_inner_plain.nd rfl rfl (by decide) rfl rfl (pa_cons (pe_ix (ixK (K := K)) (pv 0) pe_int (fun _ _ => rfl)) (pa_cons (pe_slice (slTK (K := K)) (pv 0) (po_some pe_int) po_none) pa_nil)) (by rfl))
  (pss_cons (ps_if (PW.pt (pw_and (pt_cmpR op_eq (pv 1) pe_str (by rfl)) (pw_and (pt_cmpR op_eq (pe_callB (lenK (K := K)) (by rfl) T.f_len bt_len (pa_cons (pv 2) pa_nil)) pe_int (by rfl)) (pw_and1 (pt_val (C8.pe_c (c_are_parts T) hr (by first | decide | omega) (by rfl) (pa_cons (pe_ix (ixK (K := K)) (pv 2) pe_int (fun _ _ => rfl)) pa_nil))))))) (pss_one (ps_ret (pe_tup pa_nil))) pss_nil)
  (pss_cons (ps_if (PW.pt (pw_and (pt_cmpR op_eq (pv 1) pe_str (by rfl)) (pw_and (pt_cmpR op_eq (pe_callB (lenK (K := K)) (by rfl) T.f_len bt_len (pa_cons (pv 2) pa_nil)) pe_int (by rfl)) (pw_and (pt_val (pe_callB (isiK (K := K)) (by rfl) T.f_isinstance bt_isinstance (pa_cons (pe_ix (ixK (K := K)) (pv 2) pe_int (fun _ _ => rfl)) (pa_cons (pe_bltn (v := .ty "tuple") (by rfl) T.f_tuple bt_tuple rfl) pa_nil)))) (pw_and1 (pt_chain op_le op_le pe_int (pe_callB (lenK (K := K)) (by rfl) T.f_len bt_len (pa_cons (pe_ix (ixK (K := K)) (pv 2) pe_int (fun _ _ => rfl)) pa_nil)) (C8.pe_gc (by rfl) T.k_MOST_TOSSED))))))) (pss_one (ps_ret (pe_ix (ixK (K := K)) (pv 2) pe_int (fun _ _ => rfl)))) pss_nil)
  (pss_cons (ps_if (PW.pt (pw_and (pt_cmpR op_eq (pv 1) pe_str (by rfl)) (pw_and (pt_cmpR op_eq (pe_callB (lenK (K := K)) (by rfl) T.f_len bt_len (pa_cons (pv 2) pa_nil)) pe_int (by rfl)) (pw_and1 (pt_val (C8.pe_c (c_is_number T) hr (by first | decide | omega) (by rfl) (pa_cons (pe_ix (ixK (K := K)) (pv 2) pe_int (fun _ _ => rfl)) (pa_cons pe_int (pa_cons (C8.pe_gc (by rfl) T.k_MOST_BIT) pa_nil))))))))) (pss_one (ps_ret (pe_slice (slTK (K := K)) (pv 2) (po_some pe_int) po_none))) pss_nil)
  (pss_one (ps_if (PW.pt (pw_and (pt_cmpR op_eq (pv 1) pe_str (by rfl)) (pw_and (pt_cmpR op_eq (pe_callB (lenK (K := K)) (by rfl) T.f_len bt_len (pa_cons (pv 2) pa_nil)) pe_int (by rfl)) (pw_and1 (pt_val (C8.pe_c (c_are_parts T) hr (by first | decide | omega) (by rfl) (pa_cons (pe_ix (ixK (K := K)) (pv 2) pe_int (fun _ _ => rfl)) pa_nil))))))) (pss_one (ps_ret (pe_slice (slTK (K := K)) (pv 2) (po_some pe_int) po_none))) pss_nil)))))) pss_nil)
  (pss_one ps_never)), ?_⟩
  cases b with
  | say ps =>
    simp only [encB] at hv
    obtain ⟨g1, g2⟩ := g
    walk_at "go"
    walk_at "ift"
    refine r_slT hv rfl fun H1 u s1 hu => ?_
    walk_at "go"
    walk_at "ift"
    walk_at "ift"
    rename_i u2 hu2
    refine ⟨_, ps, rfl, hu2, g1, g2, fun H2 s2 => ?_⟩
    walk_at "go"
    walk_at "new"; rename_i p np H3 s3 h3
    exact q _ _ ((s1.trans s2).trans s3) (td_tup0 h3)
  | toss bs =>
    simp only [encB] at hv
    obtain ⟨g1, g2, g3⟩ := g
    walk_at "go"
    walk_at "ift"
    refine r_slT hv rfl fun H1 u s1 hu => ?_
    walk_at "go"
    walk_at "iff"
    walk_at "ift"
    walk_at "ift"
    have hlen : (encBs bs).length = bs.length := by rw [encBs_eq, List.length_map]
    refine ite_t (by rw [hlen]; simp; omega) ?_
    walk_at "go"
    refine ite_t (by rw [hlen]; simp; omega) ?_
    walk_at "go"
    rename_i u2 hu2
    exact q _ _ s1 (by rw [encBs_eq] at hu2; exact hu2)
  | look i x y =>
    simp only [encB] at hv
    obtain ⟨g1, g2, g3, _⟩ := g
    walk_at "go"
    walk_at "ift"
    refine r_slT hv rfl fun H1 u s1 hu => ?_
    walk_at "go"
    walk_at "iff"
    walk_at "iff"
    walk_at "ift"
    walk_at "ift"
    refine ⟨_, _, _, rfl, by omega, by omega, ?_⟩
    walk_at "go"
    exact r_slT hu rfl fun H2 u s2 hu => q _ _ (s1.trans s2) hu
  | ask ps n =>
    simp only [encB] at hv
    obtain ⟨⟨g1, g2⟩, g3, _⟩ := g
    walk_at "go"
    walk_at "ift"
    refine r_slT hv rfl fun H1 u s1 hu => ?_
    walk_at "go"
    walk_at "iff"
    walk_at "iff"
    walk_at "iff"
    walk_at "ift"
    walk_at "ift"
    rename_i u2 hu2
    refine ⟨_, ps, rfl, hu2, g1, g2, fun H2 s2 => ?_⟩
    walk_at "go"
    exact r_slT (hu.same s2) rfl fun H3 u s3 hu => q _ _ ((s1.trans s2).trans s3) hu
end
/-! Part A7: a plain breaker is checked, its asks counted. -/
open PySem PySem.Spec PyProof.Rows L2
section
variable {P : Program} {w : World} {K : PySem.W.Frag} {mg : Str → Option Value} {base : Heap}
def spChkP : Sp := fun vs H Q _ => ∃ v, ∃ b : Br, vs = [v] ∧ Td H (encB b) v ∧ b.good ∧ b.size ≤ 2000 ∧ b.depth ≤ 60 ∧ ∀ H', Same H H' → Q .non H'
/-- a stack of breakers with a number each -/
abbrev encW (es : List (Br × Nat)) : List PyData := es.map fun e => .tuple [encB e.1, .int e.2]
def sizeW : List (Br × Nat) → Nat
  | [] => 0
  | e :: r => e.1.size + sizeW r
theorem sizeW_app (a b : List (Br × Nat)) : sizeW (a ++ b) = sizeW a + sizeW b := by
  induction a with
  | nil => simp [sizeW]
  | cons e r ih => simp only [List.cons_append, sizeW, ih]; omega
theorem sizeW_inner (l : List Br) (d : Nat) : sizeW (l.map fun o => (o, d)) = Br.sizes l := by
  induction l with
  | nil => rfl
  | cons b r ih => simp only [List.map_cons, sizeW, Br.sizes, ih]
theorem sizes_len (l : List Br) : l.length ≤ Br.sizes l := by
  induction l with
  | nil => simp [Br.sizes]
  | cons b r ih => rw [Br.sizes, List.length_cons]; have := b.size_pos; omega
theorem sizeW_len (l : List (Br × Nat)) : l.length ≤ sizeW l := by
  induction l with
  | nil => simp [sizeW]
  | cons b r ih => rw [sizeW, List.length_cons]; have := b.1.size_pos; omega
theorem TdL.unsnoc {H : Hp} {ds : List PyData} {d : PyData} {vs : List V} (h : TdL H (ds ++ [d]) vs) : ∃ r v, vs = r ++ [v] ∧ TdL H ds r ∧ Td H d v := by
  induction ds generalizing vs with
  | nil => obtain ⟨v, r, rfl, h1, h2⟩ := h; cases h2; exact ⟨[], v, rfl, rfl, h1⟩
  | cons x ds ih =>
    obtain ⟨v, r, rfl, h1, h2⟩ := h
    obtain ⟨r', u, rfl, h3, h4⟩ := ih h2
    exact ⟨v :: r', u, rfl, ⟨v, r', rfl, h1, h3⟩, h4⟩
theorem TdL.app {H : Hp} : ∀ {ds es : List PyData} {vs us : List V}, TdL H ds vs → TdL H es us → TdL H (ds ++ es) (vs ++ us)
  | [], _, _, _, h, h2 => by cases h; exact h2
  | d :: ds, _, _, _, h, h2 => by
    obtain ⟨v, r, rfl, h3, h4⟩ := h
    exact ⟨v, _, rfl, h3, TdL.app h4 h2⟩
theorem c_check_plain_breakers (T : Tx w K mg) : C8.Cal P w K mg base 4 "check_plain_breakers" (spN 1 spChkP) [] := by
  refine mkFn T.fn_check_plain_breakers sc_check_plain_breakers (fun _ _ _ _ _ _ us hl => match us, hl with | [_], _ => rfl) (fun f cdv A outer s H vs Q E hr _ h => ?_)
  obtain ⟨v, b0, rfl, hv, g0, hs0, hd0, q⟩ := h
  refine ⟨_, (pss_cons (ps_set (i := 1) sc_check_plain_breakers.nd rfl (by first | exact Or.inl rfl | exact Or.inr rfl) (pe_lst (pa_cons (pe_tup (pa_cons (pv 0) (pa_cons pe_int pa_nil))) pa_nil)))
  (pss_cons (ps_set (i := 2) sc_check_plain_breakers.nd rfl (by first | exact Or.inl rfl | exact Or.inr rfl) pe_int)
  (pss_one (ps_while PassesOwn.never (pt_cmpR op_gt (pe_callB (lenK (K := K)) (by rfl) T.f_len bt_len (pa_cons (pv 1) pa_nil)) pe_int (by rfl)) (pss_cons (ps_asg (pe_bm0 PySem.F.plainAttrs_list PySem.F.slot_list_pop PySem.F.type_list_pop mt_pop (pv 1)) (pgTK (K := K) (n := 2) rfl (pgs_cons (pg_name (i := 3) sc_check_plain_breakers.nd rfl (by first | exact Or.inl rfl | exact Or.inr rfl)) (pgs_cons (pg_name (i := 4) sc_check_plain_breakers.nd rfl (by first | exact Or.inl rfl | exact Or.inr rfl)) pgs_nil)) (hn := by rfl)))
  (pss_cons (ps_set (i := 5) sc_check_plain_breakers.nd rfl (by first | exact Or.inl rfl | exact Or.inr rfl) (C8.pe_c (c_inner_plain T) hr (by first | decide | omega) (by rfl) (pa_cons (pv 3) pa_nil)))
  (pss_cons (ps_aug (i := 2) sc_check_plain_breakers.nd rfl (by first | exact Or.inl rfl | exact Or.inr rfl) (pe_callB (lenK (K := K)) (by rfl) T.f_len bt_len (pa_cons (pv 5) pa_nil)) ip_add)
  (pss_cons (ps_if (PW.pt (pw_or (pt_cmpR op_gt (pv 4) (C8.pe_gc (by rfl) T.k_MOST_DEPTH) (by rfl)) (pw_or1 (pt_cmpR op_gt (pv 2) (C8.pe_gc (by rfl) T.k_MOST_WITHIN) (by rfl))))) (pss_one ps_never) pss_nil)
  (pss_one (ps_expr (bmK (K := K) PySem.F.plainAttrs_list PySem.F.slot_list_extend PySem.F.type_list_extend mt_extend (pv 1) (pa_cons (pe_lc (own := [("other", 6)]) (by rfl) sc_check_plain_breakers.nd (piTK (K := K) (pv 5)) (blkOk_by (by rfl)) (fun _ _ _ _ _ => (pg_name (i := 6) sc_check_plain_breakers.nd rfl (by first | exact Or.inl rfl | exact Or.inr rfl))) (fun _ _ _ _ _ => pts_nil) (fun _ _ _ _ _ => (pe_tup (pa_cons (pv 6) (pa_cons (pe_op op_add (pv 4) pe_int) pa_nil))))) pa_nil)))))))))))), ?_⟩
  walk_at "go"
  walk_at "new"; rename_i t nt H1 s1 h1
  walk_at "go"
  walk_at "new"; rename_i W nW H2 s2 h2
  walk_at "go"
  refine r_while ⟨fun m σ H3 => ∃ (es : List (Br × Nat)) (vs : List V) (wn : Nat) (y3 y4 y5 y6 : Option V), σ = [some v, some (.ref W), some (.int wn), y3, y4, y5, y6] ∧ m = sizeW es ∧ Same H1 H3 ∧ H3 W = some (.lst vs) ∧ TdL H3 (encW es) vs ∧
    (∀ e ∈ es, e.1.good ∧ e.2 + e.1.depth ≤ 61) ∧ wn + sizeW es = es.length + (b0.size - 1) ∧ es.length ≤ wn + 1, ⟨b0.size, [(b0, 1)], _, 0, none, none, none, none, rfl, by simp [sizeW], s2, h2, ?_, ?_, ?_, by simp⟩, fun m σ H3 hW => ?_⟩
  · exact ⟨_, _, rfl, td_tup (s2 _ _ h1) ⟨_, _, rfl, hv.same (s1.trans s2), _, _, rfl, rfl, rfl⟩, rfl⟩
  · intro e he
    simp only [List.mem_cons, List.not_mem_nil, or_false] at he
    subst he
    exact ⟨g0, by show 1 + b0.depth ≤ 61; omega⟩
  · have := b0.size_pos
    simp [sizeW]; omega
  obtain ⟨es, vs, wn, y3, y4, y5, y6, rfl, rfl, s3, h3, t3, he, hn, hn2⟩ := hW
  walk_at "go"
  have hvl : vs.length = es.length := by rw [t3.len, List.length_map]
  by_cases hes : es = []
  · subst hes
    refine ite_f (by rw [hvl]; simp) ?_
    walk_at "go"
    exact q _ (s1.trans s3)
  · obtain ⟨es', e, rfl⟩ : ∃ es' e, es = es' ++ [e] := ⟨es.dropLast, es.getLast hes, (List.dropLast_concat_getLast hes).symm⟩
    refine ite_t (by rw [hvl]; simp) ?_
    have t3 : TdL H3 (encW es' ++ [.tuple [encB e.1, .int e.2]]) vs := by rw [show encW es' ++ [PyData.tuple [encB e.1, .int e.2]] = encW (es' ++ [e]) by simp [encW]]; exact t3
    obtain ⟨r, u, rfl, t4, hu⟩ := t3.unsnoc
    obtain ⟨Tp, xs, rfl, hT, _, _, rfl, hb, _, _, rfl, rfl, rfl⟩ := hu
    refine ⟨_, fun _ _ h => h, ?_⟩
    walk_at "go"
    refine r_pop h3 ?_
    have x1 : Ext [W] H3 (upd H3 W (.lst r)) := Ext.put (by simp) h3 (by intro xs z; cases z)
    walk_at "go"
    refine r_gTup (SqT.of (x1.tup _ _ hT)) rfl ?_
    walk_at "go"
    have hg := he e (by simp)
    refine ⟨_, e.1, rfl, Td.ext x1 hb, hg.1, fun H4 u s4 hu => ?_⟩
    walk_at "go"
    obtain ⟨ia, ixs, rfl, hia, hix⟩ := id hu
    have hil : ixs.length = e.1.inner.length := by rw [hix.len, List.length_map]
    rw [List.length_map]
    have hsz : sizeW (es' ++ [e]) = sizeW es' + e.1.size := by rw [sizeW_app]; simp [sizeW]
    have hin := e.1.size_inner
    have hsl := sizes_len e.1.inner
    have hwl := sizeW_len es'
    rw [List.length_append, List.length_singleton] at hn hn2
    rw [hsz] at hn
    have hdp := e.1.depth_inner
    refine ite_f ?_ ?_
    · rw [decide_eq_true_eq]; have := hg.2; omega
    walk_at "go"
    refine ite_f ?_ ?_
    · rw [decide_eq_true_eq]; omega
    walk_at "go"
    have s34 : Ext [W] H3 H4 := x1.trans (Ext.of s4)
    have hW4 : H4 W = some (.lst r) := s4 _ _ upd_same
    have sN : Same H1 H4 := s34.toSame s3 (by simp [nW])
    refine And.intro (tyL hW4) ?_
    walk_at "go"
    refine ⟨ia, rfl, ⟨ixs, SqT.of hia⟩, ?_⟩
    intro D nD
    refine lc_it (walk_tup (xs := ixs)) (fun i H5 => Same H4 H5 ∧ ∃ us, H5 D = some (.lst us) ∧ TdL H5 (encW ((e.1.inner.take i).map fun o => (o, e.2 + 1))) us)
      ⟨same_upd nD, _, upd_same, rfl⟩ (fun i H5 _ hp => SqT.of (hp.1 _ _ hia)) (fun i x H5 H6 hi hp hy => ?_) (fun H5 hp => ?_)
    · obtain ⟨s5, us, h5, t5⟩ := hp
      obtain ⟨rfl, hxi⟩ := hy
      have hoi : ∃ o, e.1.inner[i]? = some o := ⟨e.1.inner[i]'(by omega), List.getElem?_eq_getElem _⟩
      obtain ⟨o, ho⟩ := hoi
      obtain ⟨u2, e2, h2u⟩ := hix.get (i := i) (d := encB o) (by rw [List.getElem?_map, ho]; rfl)
      rw [hxi] at e2
      cases e2
      walk_at "go"
      refine ⟨rfl, ?_⟩
      walk_at "go"
      walk_at "new"; rename_i p np H7 s7 h7
      have hul : us.length = i := by rw [t5.len, List.length_map, List.length_map, List.length_take]; omega
      refine ⟨_, s7 _ _ h5, smallL (by omega), (s5.trans s7).putNew nD, _, upd_same, ?_⟩
      have x8 : Ext [D] H7 (upd H7 D (.lst (us ++ [.ref p]))) := Ext.put (by simp) (s7 _ _ h5) (by intro xs z; cases z)
      have et : e.1.inner.take (i + 1) = e.1.inner.take i ++ [o] := by rw [List.take_succ, ho]; rfl
      rw [et, List.map_append, encW, List.map_append]
      refine TdL.ext x8 ((t5.same s7).snoc (td_tup h7 ⟨_, _, rfl, h2u.same (s5.trans s7), _, _, rfl, ?_, rfl⟩))
      rfl
    · obtain ⟨s5, us, h5, t5⟩ := hp
      rw [hil, List.take_length] at t5
      walk_at "go"
      have hul : us.length = e.1.inner.length := by rw [t5.len, List.length_map, List.length_map]
      have hrl : r.length = es'.length := by rw [t4.len, List.length_map]
      refine r_ext (s5 _ _ hW4) h5 (by omega) ?_
      walk_at "go"
      have x6 : Ext [W] H5 (upd H5 W (.lst (r ++ us))) := Ext.put (by simp) (s5 _ _ hW4) (by intro xs z; cases z)
      have s35 : Ext [W] H3 H5 := s34.trans (Ext.of s5)
      have hsi := sizeW_inner e.1.inner (e.2 + 1)
      refine ⟨_, ?_, es' ++ e.1.inner.map fun o => (o, e.2 + 1), r ++ us, wn + e.1.inner.length, _, _, _, _, rfl, rfl, (s35.trans x6).toSame s3 (by simp [nW]), upd_same, ?_, ?_, ?_, ?_⟩
      · rw [sizeW_app, hsi, hsz]; omega
      · rw [encW, List.map_append]
        exact TdL.ext x6 ((TdL.ext s35 t4).app t5)
      · intro o ho
        rcases List.mem_append.mp ho with ho | ho
        · exact he o (by simp [ho])
        · obtain ⟨o', ho', rfl⟩ := List.mem_map.mp ho
          refine ⟨Br.goods_mem (Br.good_inner hg.1) ho', ?_⟩
          have h1 := Br.depths_mem ho'
          have h2 := hg.2
          show e.2 + 1 + o'.depth ≤ 61
          omega
      · rw [sizeW_app, hsi, List.length_append, List.length_map]; omega
      · rw [List.length_append, List.length_map]; omega
def asksW : List (Br × Nat) → Nat
  | [] => 0
  | e :: r => max (e.2 + e.1.asks) (asksW r)
theorem asksW_app (a b : List (Br × Nat)) : asksW (a ++ b) = max (asksW a) (asksW b) := by
  induction a with
  | nil => simp [asksW]
  | cons e r ih => simp only [List.cons_append, asksW, ih]; omega
theorem asksW_inner (l : List Br) (d : Nat) : max d (asksW (l.map fun o => (o, d))) = d + Br.asksL l := by
  induction l with
  | nil => simp [asksW, Br.asksL]
  | cons b r ih => simp only [List.map_cons, asksW, Br.asksL]; omega
theorem word_ask (b : Br) : (if decide (word b = ("ask" : Str)) = true then 1 else 0 : Int) = b.isAsk := by
  cases b with
  | ask ps n => rfl
  | say ps => rw [if_neg (by show ¬ decide (("say" : Str) = "ask") = true; decide +kernel)]; rfl
  | toss ps => rw [if_neg (by show ¬ decide (("toss" : Str) = "ask") = true; decide +kernel)]; rfl
  | look i a b => rw [if_neg (by show ¬ decide (("look" : Str) = "ask") = true; decide +kernel)]; rfl
theorem c_most_plain_asks (T : Tx w K mg) : C8.Cal P w K mg base 4 "most_plain_asks" (spN 1 fun vs H Q _ => ∃ v, ∃ b : Br, vs = [v] ∧ Td H (encB b) v ∧ b.good ∧ b.size ≤ 2000 ∧ ∀ H', Same H H' → Q (.int b.asks) H') [] := by
  refine mkFn T.fn_most_plain_asks sc_most_plain_asks (fun _ _ _ _ _ _ us hl => match us, hl with | [_], _ => rfl) (fun f cdv A outer s H vs Q E hr _ h => ?_)
  obtain ⟨v, b0, rfl, hv, g0, hs0, q⟩ := h
  refine ⟨_, (pss_cons (ps_set (i := 1) sc_most_plain_asks.nd rfl (by first | exact Or.inl rfl | exact Or.inr rfl) pe_int)
  (pss_cons (ps_set (i := 2) sc_most_plain_asks.nd rfl (by first | exact Or.inl rfl | exact Or.inr rfl) (pe_lst (pa_cons (pe_tup (pa_cons (pv 0) (pa_cons pe_int pa_nil))) pa_nil)))
  (pss_cons (ps_while PassesOwn.never (pt_cmpR op_gt (pe_callB (lenK (K := K)) (by rfl) T.f_len bt_len (pa_cons (pv 2) pa_nil)) pe_int (by rfl)) (pss_cons (ps_asg (pe_bm0 PySem.F.plainAttrs_list PySem.F.slot_list_pop PySem.F.type_list_pop mt_pop (pv 2)) (pgTK (K := K) (n := 2) rfl (pgs_cons (pg_name (i := 3) sc_most_plain_asks.nd rfl (by first | exact Or.inl rfl | exact Or.inr rfl)) (pgs_cons (pg_name (i := 4) sc_most_plain_asks.nd rfl (by first | exact Or.inl rfl | exact Or.inr rfl)) pgs_nil)) (hn := by rfl)))
  (pss_cons (ps_set (i := 1) sc_most_plain_asks.nd rfl (by first | exact Or.inl rfl | exact Or.inr rfl) (pe_callB (call_max2 rfl) (by rfl) T.f_max bt_max (pa_cons (pv 1) (pa_cons (pe_op op_add (pv 4) (pe_callTy call_int1 (by rfl) T.f_int bt_int (pa_cons (pe_cmpR op_eq (pe_ix (ixK (K := K)) (pv 3) pe_int (fun _ _ => rfl)) pe_str (by rfl)) pa_nil))) pa_nil))))
  (pss_one (ps_expr (bmK (K := K) PySem.F.plainAttrs_list PySem.F.slot_list_extend PySem.F.type_list_extend mt_extend (pv 2) (pa_cons (pe_lc (own := [("inner", 5)]) (by rfl) sc_most_plain_asks.nd (piTK (K := K) (C8.pe_c (c_inner_plain T) hr (by first | decide | omega) (by rfl) (pa_cons (pv 3) pa_nil))) (blkOk_by (by rfl)) (fun _ _ _ _ _ => (pg_name (i := 5) sc_most_plain_asks.nd rfl (by first | exact Or.inl rfl | exact Or.inr rfl))) (fun _ _ _ _ _ => pts_nil) (fun _ _ _ _ _ => (pe_tup (pa_cons (pv 5) (pa_cons (pe_op op_add (pv 4) (pe_callTy call_int1 (by rfl) T.f_int bt_int (pa_cons (pe_cmpR op_eq (pe_ix (ixK (K := K)) (pv 3) pe_int (fun _ _ => rfl)) pe_str (by rfl)) pa_nil))) pa_nil))))) pa_nil)))))))
  (pss_one (ps_ret (pv 1)))))), ?_⟩
  walk_at "go"
  walk_at "new"; rename_i t nt H1 s1 h1
  walk_at "go"
  walk_at "new"; rename_i W nW H2 s2 h2
  walk_at "go"
  refine r_while ⟨fun m σ H3 => ∃ (es : List (Br × Nat)) (vs : List V) (mo wn : Nat) (y3 y4 y5 : Option V), σ = [some v, some (.int mo), some (.ref W), y3, y4, y5] ∧ m = sizeW es ∧ Same H1 H3 ∧ H3 W = some (.lst vs) ∧ TdL H3 (encW es) vs ∧
    (∀ e ∈ es, e.1.good) ∧ wn + sizeW es = es.length + (b0.size - 1) ∧ es.length ≤ wn + 1 ∧ max mo (asksW es) = b0.asks, ⟨b0.size, [(b0, 0)], _, 0, 0, none, none, none, rfl, by simp [sizeW], s2, h2, ?_, ?_, ?_, by simp, by simp [asksW]⟩, fun m σ H3 hW => ?_⟩
  · exact ⟨_, _, rfl, td_tup (s2 _ _ h1) ⟨_, _, rfl, hv.same (s1.trans s2), _, _, rfl, rfl, rfl⟩, rfl⟩
  · intro e he
    simp only [List.mem_cons, List.not_mem_nil, or_false] at he
    subst he
    exact g0
  · have := b0.size_pos
    simp [sizeW]; omega
  obtain ⟨es, vs, mo, wn, y3, y4, y5, rfl, rfl, s3, h3, t3, he, hn, hn2, hm⟩ := hW
  walk_at "go"
  have hvl : vs.length = es.length := by rw [t3.len, List.length_map]
  by_cases hes : es = []
  · subst hes
    refine ite_f (by rw [hvl]; simp) ?_
    walk_at "go"
    rw [show mo = b0.asks by rw [← hm]; simp [asksW]]
    exact q _ (s1.trans s3)
  · obtain ⟨es', e, rfl⟩ : ∃ es' e, es = es' ++ [e] := ⟨es.dropLast, es.getLast hes, (List.dropLast_concat_getLast hes).symm⟩
    refine ite_t (by rw [hvl]; simp) ?_
    have t3 : TdL H3 (encW es' ++ [.tuple [encB e.1, .int e.2]]) vs := by rw [show encW es' ++ [PyData.tuple [encB e.1, .int e.2]] = encW (es' ++ [e]) by simp [encW]]; exact t3
    obtain ⟨r, u, rfl, t4, hu⟩ := t3.unsnoc
    obtain ⟨Tp, xs, rfl, hT, vb, _, rfl, hb, _, _, rfl, rfl, rfl⟩ := hu
    refine ⟨_, fun _ _ h => h, ?_⟩
    walk_at "go"
    refine r_pop h3 ?_
    have x1 : Ext [W] H3 (upd H3 W (.lst r)) := Ext.put (by simp) h3 (by intro xs z; cases z)
    walk_at "go"
    refine r_gTup (SqT.of (x1.tup _ _ hT)) rfl ?_
    have hb2 := Td.ext x1 hb
    have hb3 := hb2
    rw [encB_eq] at hb3
    have hg := he e (by simp)
    have hsz : sizeW (es' ++ [e]) = sizeW es' + e.1.size := by rw [sizeW_app]; simp [sizeW]
    have hin := e.1.size_inner
    have hsl := sizes_len e.1.inner
    have hwl := sizeW_len es'
    rw [List.length_append, List.length_singleton] at hn hn2
    rw [hsz] at hn
    walk_at "go"
    have emx : (if (e.2 : Int) + (if decide (word e.1 = ("ask" : Str)) = true then 1 else 0) > (mo : Int) then (e.2 : Int) + (if decide (word e.1 = ("ask" : Str)) = true then 1 else 0) else (mo : Int)) = ((max mo (e.2 + e.1.isAsk) : Nat) : Int) := by
      rw [word_ask]
      split <;> omega
    rw [emx]
    have hW4 : upd H3 W (.lst r) W = some (.lst r) := upd_same
    refine And.intro (tyL hW4) ?_
    walk_at "go"
    refine ⟨_, e.1, rfl, hb2, hg, fun H4 u s4 hu => ?_⟩
    have hW4 := s4 _ _ hW4
    obtain ⟨ia, ixs, rfl, hia, hix⟩ := id hu
    have hil : ixs.length = e.1.inner.length := by rw [hix.len, List.length_map]
    have s34 : Ext [W] H3 H4 := x1.trans (Ext.of s4)
    have sN : Same H1 H4 := s34.toSame s3 (by simp [nW])
    have hb4 := hb3.same s4
    refine ⟨ia, rfl, ⟨ixs, SqT.of hia⟩, ?_⟩
    intro D nD
    refine lc_it (walk_tup (xs := ixs)) (fun i H5 => Same H4 H5 ∧ ∃ us, H5 D = some (.lst us) ∧ TdL H5 (encW ((e.1.inner.take i).map fun o => (o, e.2 + e.1.isAsk))) us)
      ⟨same_upd nD, _, upd_same, rfl⟩ (fun i H5 _ hp => SqT.of (hp.1 _ _ hia)) (fun i x H5 H6 hi hp hy => ?_) (fun H5 hp => ?_)
    · obtain ⟨s5, us, h5, t5⟩ := hp
      obtain ⟨rfl, hxi⟩ := hy
      have hoi : ∃ o, e.1.inner[i]? = some o := ⟨e.1.inner[i]'(by omega), List.getElem?_eq_getElem _⟩
      obtain ⟨o, ho⟩ := hoi
      obtain ⟨u2, e2, h2u⟩ := hix.get (i := i) (d := encB o) (by rw [List.getElem?_map, ho]; rfl)
      rw [hxi] at e2
      cases e2
      have hb5 := hb4.same s5
      walk_at "go"
      refine ⟨rfl, ?_⟩
      walk_at "go"
      walk_at "new"; rename_i p np H7 s7 h7
      have hul : us.length = i := by rw [t5.len, List.length_map, List.length_map, List.length_take]; omega
      refine ⟨_, s7 _ _ h5, smallL (by omega), (s5.trans s7).putNew nD, _, upd_same, ?_⟩
      have x8 : Ext [D] H7 (upd H7 D (.lst (us ++ [.ref p]))) := Ext.put (by simp) (s7 _ _ h5) (by intro xs z; cases z)
      have et : e.1.inner.take (i + 1) = e.1.inner.take i ++ [o] := by rw [List.take_succ, ho]; rfl
      rw [et, List.map_append, encW, List.map_append]
      refine TdL.ext x8 ((t5.same s7).snoc (td_tup h7 ⟨_, _, rfl, h2u.same (s5.trans s7), _, _, rfl, ?_, rfl⟩))
      show V.int _ = V.int _
      rw [word_ask]; rfl
    · obtain ⟨s5, us, h5, t5⟩ := hp
      rw [hil, List.take_length] at t5
      walk_at "go"
      have hul : us.length = e.1.inner.length := by rw [t5.len, List.length_map, List.length_map]
      have hrl : r.length = es'.length := by rw [t4.len, List.length_map]
      refine r_ext (s5 _ _ hW4) h5 (by omega) ?_
      walk_at "go"
      have x6 : Ext [W] H5 (upd H5 W (.lst (r ++ us))) := Ext.put (by simp) (s5 _ _ hW4) (by intro xs z; cases z)
      have s35 : Ext [W] H3 H5 := s34.trans (Ext.of s5)
      have hsi := sizeW_inner e.1.inner (e.2 + e.1.isAsk)
      refine ⟨_, ?_, es' ++ e.1.inner.map fun o => (o, e.2 + e.1.isAsk), r ++ us, max mo (e.2 + e.1.isAsk), wn + e.1.inner.length, _, _, _, rfl, rfl, (s35.trans x6).toSame s3 (by simp [nW]), upd_same, ?_, ?_, ?_, ?_, ?_⟩
      · rw [sizeW_app, hsi, hsz]; omega
      · rw [encW, List.map_append]
        exact TdL.ext x6 ((TdL.ext s35 t4).app t5)
      · intro o ho
        rcases List.mem_append.mp ho with ho | ho
        · exact he o (by simp [ho])
        · obtain ⟨o', ho', rfl⟩ := List.mem_map.mp ho
          exact Br.goods_mem (Br.good_inner hg) ho'
      · rw [sizeW_app, hsi, List.length_append, List.length_map]; omega
      · rw [List.length_append, List.length_map]; omega
      · rw [asksW_app] at hm ⊢
        rw [← hm]
        have h1 := asksW_inner e.1.inner (e.2 + e.1.isAsk)
        have h2 := e.1.asks_inner
        simp only [asksW]
        omega
end
/-! Part A8: made breakers are checked. -/
open PySem PySem.Spec PyProof.Rows L2
inductive Mb where
  | plain (b : Br)
  | longer (n m : Nat) (rows : List (List Bool)) (k : Nat) (i : Mb)
  | tree (n m : Nat) (rows : List (List Bool)) (d q : Nat) (i : Mb)
  | marks (l m : Nat) (i : Mb)
  | secrets (l m : Nat) (i : Mb)
def encM : Mb → PyData
  | .plain b => encB b
  | .longer n m rows k i => .tuple [.str "longer", encG n m rows, .int k, encM i]
  | .tree n m rows d q i => .tuple [.str "tree", encG n m rows, .int d, .int q, encM i]
  | .marks l m i => .tuple [.str "marks", .int l, .int m, encM i]
  | .secrets l m i => .tuple [.str "secrets", .int l, .int m, encM i]
def Mb.good : Mb → Prop
  | .plain b => b.good ∧ b.size ≤ 2000 ∧ b.depth ≤ 60
  | .longer n m rows k i => GoodG n m rows ∧ m = n + 1 ∧ 1 ≤ k ∧ k ≤ 20 ∧ i.good
  | .tree n m rows d q i => GoodG n m rows ∧ m = 2 * n ∧ n ≤ 8 ∧ 1 ≤ d ∧ d ≤ 8 ∧ n + d ≤ 12 ∧ 1 ≤ q ∧ q ≤ 1000 ∧ i.good
  | .marks l m i => 1 ≤ l ∧ l ≤ 40 ∧ 1 ≤ m ∧ m ≤ 40 ∧ i.good
  | .secrets l m i => 1 ≤ l ∧ l ≤ 40 ∧ 1 ≤ m ∧ m ≤ 40 ∧ i.good
def Mb.layers : Mb → Nat
  | .plain _ => 0
  | .longer _ _ _ _ i => i.layers + 1
  | .tree _ _ _ _ _ i => i.layers + 1
  | .marks _ _ i => i.layers + 1
  | .secrets _ _ i => i.layers + 1
def Mb.base : Mb → Br
  | .plain b => b
  | .longer _ _ _ _ i => i.base
  | .tree _ _ _ _ _ i => i.base
  | .marks _ _ i => i.base
  | .secrets _ _ i => i.base
theorem Mb.base_good {b : Mb} (h : b.good) : b.base.good ∧ b.base.size ≤ 2000 ∧ b.base.depth ≤ 60 := by
  induction b with
  | plain b => exact h
  | longer n m rows k i ih => exact ih h.2.2.2.2
  | tree n m rows d q i ih => exact ih h.2.2.2.2.2.2.2.2
  | marks l m i ih => exact ih h.2.2.2.2
  | secrets l m i ih => exact ih h.2.2.2.2
/-- the most asks -/
def Mb.asks : Mb → Nat
  | .plain b => b.asks
  | .longer _ _ _ _ _ => 0
  | .tree _ _ _ _ _ _ => 0
  | .marks _ _ i => 1 + i.asks
  | .secrets _ _ i => i.asks
section
variable {P : Program} {w : World} {K : PySem.W.Frag} {mg : Str → Option Value} {base : Heap}
theorem c_is_length (T : Tx w K mg) : C8.Cal P w K mg base 2 "is_length" (spN 1 fun vs H Q _ => ∃ i : Int, vs = [.int i] ∧ 1 ≤ i ∧ i ≤ 40 ∧ Q (.bl true) H) [] := by
  refine mkFn T.fn_is_length sc_is_length (fun _ _ _ _ _ _ us hl => match us, hl with | [_], _ => rfl) (fun f cdv A outer s H vs Q E hr _ h => ?_)
  obtain ⟨i, rfl, h1, h2, q⟩ := h
  refine ⟨_, (pss_one (ps_ret (C8.pe_c (c_is_number T) hr (by first | decide | omega) (by rfl) (pa_cons (pv 0) (pa_cons pe_int (pa_cons (C8.pe_gc (by rfl) T.k_MOST_LENGTH) pa_nil)))))), ?_⟩
  walk_at "go"
  exact ⟨_, _, _, rfl, h1, h2, q⟩
theorem c_fits_longer (T : Tx w K mg) : C8.Cal P w K mg base 4 "fits_longer" (spN 2 fun vs H Q _ => ∃ v n m rows, ∃ k : Nat, vs = [v, .int k] ∧ Td H (encG n m rows) v ∧ GoodG n m rows ∧ m = n + 1 ∧ 1 ≤ k ∧ k ≤ 20 ∧ ∀ H', Same H H' → Q (.bl true) H') [] := by
  refine mkFn T.fn_fits_longer sc_fits_longer (fun _ _ _ _ _ _ us hl => match us, hl with | [_, _], _ => rfl) (fun f cdv A outer s H vs Q E hr _ h => ?_)
  obtain ⟨v, n, m, rows, k, rfl, hv, G, rfl, k1, k2, q⟩ := h
  refine ⟨_, (pss_one (ps_ret (pe_and (C8.pe_c (c_is_generator T) hr (by first | decide | omega) (by rfl) (pa_cons (pv 0) pa_nil)) (pe_and (pe_cmpR op_eq (pe_ix (ixK (K := K)) (pv 0) pe_int (fun _ _ => rfl)) (pe_op op_add (pe_ix (ixK (K := K)) (pv 0) pe_int (fun _ _ => rfl)) pe_int) (by rfl)) (pe_one (C8.pe_c (c_is_number T) hr (by first | decide | omega) (by rfl) (pa_cons (pv 1) (pa_cons pe_int (pa_cons pe_int pa_nil))))))))), ?_⟩
  walk_at "go"
  refine ⟨v, rfl, .inl ⟨n, _, rows, hv, G, fun H1 s1 => ?_⟩⟩
  walk_at "go"
  refine ite_t (by simp) ?_
  walk_at "go"
  exact ⟨_, _, _, rfl, by omega, by omega, q _ s1⟩
theorem c_fits_tree (T : Tx w K mg) : C8.Cal P w K mg base 4 "fits_tree" (spN 3 fun vs H Q _ => ∃ v n m rows, ∃ d qq : Nat, vs = [v, .int d, .int qq] ∧ Td H (encG n m rows) v ∧ GoodG n m rows ∧ m = 2 * n ∧ n ≤ 8 ∧ 1 ≤ d ∧ d ≤ 8 ∧ n + d ≤ 12 ∧ 1 ≤ qq ∧ qq ≤ 1000 ∧ ∀ H', Same H H' → Q (.bl true) H') [] := by
  refine mkFn T.fn_fits_tree sc_fits_tree (fun _ _ _ _ _ _ us hl => match us, hl with | [_, _, _], _ => rfl) (fun f cdv A outer s H vs Q E hr _ h => ?_)
  obtain ⟨v, n, m, rows, d, qq, rfl, hv, G, rfl, n8, d1, d8, nd, q1, q2, q⟩ := h
  refine ⟨_, (pss_cons (ps_if (PW.pt (pw_or (pt_not (pt_val (C8.pe_c (c_is_generator T) hr (by first | decide | omega) (by rfl) (pa_cons (pv 0) pa_nil)))) (pw_or (pt_cmpR op_ne (pe_ix (ixK (K := K)) (pv 0) pe_int (fun _ _ => rfl)) (pe_op op_mul pe_int (pe_ix (ixK (K := K)) (pv 0) pe_int (fun _ _ => rfl))) (by rfl)) (pw_or1 (pt_cmpR op_gt (pe_ix (ixK (K := K)) (pv 0) pe_int (fun _ _ => rfl)) pe_int (by rfl)))))) (pss_one (ps_ret pe_bl)) pss_nil)
  (pss_one (ps_ret (pe_and (C8.pe_c (c_is_number T) hr (by first | decide | omega) (by rfl) (pa_cons (pv 1) (pa_cons pe_int (pa_cons pe_int pa_nil)))) (pe_and (pe_cmpR op_le (pe_op op_add (pe_ix (ixK (K := K)) (pv 0) pe_int (fun _ _ => rfl)) (pv 1)) pe_int (by rfl)) (pe_one (C8.pe_c (c_is_number T) hr (by first | decide | omega) (by rfl) (pa_cons (pv 2) (pa_cons pe_int (pa_cons (C8.pe_gc (by rfl) T.k_MOST_ASKS) pa_nil)))))))))), ?_⟩
  walk_at "go"
  refine ⟨v, rfl, .inl ⟨n, _, rows, hv, G, fun H1 s1 => ?_⟩⟩
  walk_at "go"
  refine ite_f (by simp) ?_
  walk_at "go"
  walk_at "iff"
  refine ⟨_, _, _, rfl, by omega, by omega, ?_⟩
  walk_at "go"
  walk_at "ift"
  exact ⟨_, _, _, rfl, by omega, by omega, q _ s1⟩
/-- the word and what stands between it and the inner one -/
def Mb.word : Mb → Str
  | .plain b => BB.word b
  | .longer _ _ _ _ _ => "longer"
  | .tree _ _ _ _ _ _ => "tree"
  | .marks _ _ _ => "marks"
  | .secrets _ _ _ => "secrets"
def Mb.mid : Mb → List PyData
  | .plain _ => []
  | .longer n m rows k _ => [encG n m rows, .int k]
  | .tree n m rows d q _ => [encG n m rows, .int d, .int q]
  | .marks l m _ => [.int l, .int m]
  | .secrets l m _ => [.int l, .int m]
def Mb.made : Mb → Prop
  | .plain _ => False
  | _ => True
def spFitsW : Sp := fun vs H Q _ => ∃ v, ∃ b : Mb, vs = [.str b.word, v] ∧ Td H (.tuple b.mid) v ∧ b.good ∧ b.made ∧ ∀ H', Same H H' → Q (.bl true) H'
theorem c_fits_word (T : Tx w K mg) : C8.Cal P w K mg base 5 "fits_word" (spN 2 spFitsW) [] := by
  refine mkFn T.fn_fits_word sc_fits_word (fun _ _ _ _ _ _ us hl => match us, hl with | [_, _], _ => rfl) (fun f cdv A outer s H vs Q E hr _ h => ?_)
  obtain ⟨v, b, rfl, hv, g, hm, q⟩ := h
  refine ⟨_, (pss_cons (ps_if (PW.pt (pw_and (pt_cmpR op_eq (pv 0) pe_str (by rfl)) (pw_and1 (pt_cmpR op_eq (pe_callB (lenK (K := K)) (by rfl) T.f_len bt_len (pa_cons (pv 1) pa_nil)) pe_int (by rfl))))) (pss_one (ps_ret (C8.pe_c (c_fits_longer T) hr (by first | decide | omega) (by rfl) (pa_cons (pe_ix (ixK (K := K)) (pv 1) pe_int (fun _ _ => rfl)) (pa_cons (pe_ix (ixK (K := K)) (pv 1) pe_int (fun _ _ => rfl)) pa_nil))))) pss_nil)
  (pss_cons (ps_if (PW.pt (pw_and (pt_cmpR op_eq (pv 0) pe_str (by rfl)) (pw_and1 (pt_cmpR op_eq (pe_callB (lenK (K := K)) (by rfl) T.f_len bt_len (pa_cons (pv 1) pa_nil)) pe_int (by rfl))))) (pss_one (ps_ret (C8.pe_c (c_fits_tree T) hr (by first | decide | omega) (by rfl) (pa_cons (pe_ix (ixK (K := K)) (pv 1) pe_int (fun _ _ => rfl)) (pa_cons (pe_ix (ixK (K := K)) (pv 1) pe_int (fun _ _ => rfl)) (pa_cons (pe_ix (ixK (K := K)) (pv 1) pe_int (fun _ _ => rfl)) pa_nil)))))) pss_nil)
  (pss_cons (ps_if (PW.pt (pw_and (pt_cmpR (inK (K := K)) (pv 0) (pe_tup (pa_cons pe_str (pa_cons pe_str pa_nil))) (by rfl)) (pw_and1 (pt_cmpR op_eq (pe_callB (lenK (K := K)) (by rfl) T.f_len bt_len (pa_cons (pv 1) pa_nil)) pe_int (by rfl))))) (pss_one (ps_ret (pe_and (C8.pe_c (c_is_length T) hr (by first | decide | omega) (by rfl) (pa_cons (pe_ix (ixK (K := K)) (pv 1) pe_int (fun _ _ => rfl)) pa_nil)) (pe_one (C8.pe_c (c_is_length T) hr (by first | decide | omega) (by rfl) (pa_cons (pe_ix (ixK (K := K)) (pv 1) pe_int (fun _ _ => rfl)) pa_nil)))))) pss_nil)
  (pss_cons (ps_if (PW.pt (pw_and (pt_cmpR (inK (K := K)) (pv 0) (pe_tup (pa_cons pe_str (pa_cons pe_str (pa_cons pe_str (pa_cons pe_str pa_nil))))) (by rfl)) (pw_and1 (pt_cmpR op_eq (pe_callB (lenK (K := K)) (by rfl) T.f_len bt_len (pa_cons (pv 1) pa_nil)) pe_int (by rfl))))) (pss_one (ps_ret (C8.pe_c (c_is_length T) hr (by first | decide | omega) (by rfl) (pa_cons (pe_ix (ixK (K := K)) (pv 1) pe_int (fun _ _ => rfl)) pa_nil)))) pss_nil)
  (pss_cons (ps_if (PW.pt (pw_and (pt_cmpR op_eq (pv 0) pe_str (by rfl)) (pw_and1 (pt_cmpR op_eq (pe_callB (lenK (K := K)) (by rfl) T.f_len bt_len (pa_cons (pv 1) pa_nil)) pe_int (by rfl))))) (pss_one (ps_ret (pe_and (C8.pe_c (c_is_length T) hr (by first | decide | omega) (by rfl) (pa_cons (pe_ix (ixK (K := K)) (pv 1) pe_int (fun _ _ => rfl)) pa_nil)) (pe_and (C8.pe_c (c_is_number T) hr (by first | decide | omega) (by rfl) (pa_cons (pe_ix (ixK (K := K)) (pv 1) pe_int (fun _ _ => rfl)) (pa_cons pe_int (pa_cons (C8.pe_gc (by rfl) T.k_MOST_COUNTED) pa_nil)))) (pe_one (C8.pe_c (c_is_length T) hr (by first | decide | omega) (by rfl) (pa_cons (pe_ix (ixK (K := K)) (pv 1) pe_int (fun _ _ => rfl)) pa_nil))))))) pss_nil)
  (pss_cons (ps_if (pt_cmpR op_eq (pv 0) pe_str (by rfl)) (pss_one (ps_ret (pe_cmpR op_eq (pe_callB (lenK (K := K)) (by rfl) T.f_len bt_len (pa_cons (pv 1) pa_nil)) pe_int (by rfl)))) pss_nil)
  (pss_cons (ps_if (PW.pt (pw_and (pt_cmpR op_eq (pv 0) pe_str (by rfl)) (pw_and1 (pt_cmpR op_eq (pe_callB (lenK (K := K)) (by rfl) T.f_len bt_len (pa_cons (pv 1) pa_nil)) pe_int (by rfl))))) (pss_one (ps_ret (pe_and (pe_callB (isiK (K := K)) (by rfl) T.f_isinstance bt_isinstance (pa_cons (pe_ix (ixK (K := K)) (pv 1) pe_int (fun _ _ => rfl)) (pa_cons (pe_bltn (v := .ty "str") (by rfl) T.f_str bt_str rfl) pa_nil))) (pe_and (C8.pe_c (c_is_length T) hr (by first | decide | omega) (by rfl) (pa_cons (pe_callB (lenK (K := K)) (by rfl) T.f_len bt_len (pa_cons (pe_ix (ixK (K := K)) (pv 1) pe_int (fun _ _ => rfl)) pa_nil)) pa_nil)) (pe_one (C8.pe_c (c_is_bits T) hr (by first | decide | omega) (by rfl) (pa_cons (pe_ix (ixK (K := K)) (pv 1) pe_int (fun _ _ => rfl)) (pa_cons (pe_callB (lenK (K := K)) (by rfl) T.f_len bt_len (pa_cons (pe_ix (ixK (K := K)) (pv 1) pe_int (fun _ _ => rfl)) pa_nil)) pa_nil)))))))) pss_nil)
  (pss_cons (ps_if (PW.pt (pw_and (pt_cmpR op_eq (pv 0) pe_str (by rfl)) (pw_and1 (pt_cmpR op_eq (pe_callB (lenK (K := K)) (by rfl) T.f_len bt_len (pa_cons (pv 1) pa_nil)) pe_int (by rfl))))) (pss_one (ps_ret (pe_and (C8.pe_c (c_is_generator T) hr (by first | decide | omega) (by rfl) (pa_cons (pe_ix (ixK (K := K)) (pv 1) pe_int (fun _ _ => rfl)) pa_nil)) (pe_one (C8.pe_c (c_is_number T) hr (by first | decide | omega) (by rfl) (pa_cons (pe_ix (ixK (K := K)) (pv 1) pe_int (fun _ _ => rfl)) (pa_cons pe_int (pa_cons pe_int pa_nil)))))))) pss_nil)
  (pss_one (ps_ret (pe_and (pe_cmpR op_eq (pv 0) pe_str (by rfl)) (pe_and (pe_cmpR op_eq (pe_callB (lenK (K := K)) (by rfl) T.f_len bt_len (pa_cons (pv 1) pa_nil)) pe_int (by rfl)) (pe_one (C8.pe_c (c_is_number T) hr (by first | decide | omega) (by rfl) (pa_cons (pe_ix (ixK (K := K)) (pv 1) pe_int (fun _ _ => rfl)) (pa_cons pe_int (pa_cons pe_int pa_nil))))))))))))))))), ?_⟩
  cases b with
  | plain b => exact hm.elim
  | longer n m rows k i =>
    obtain ⟨g1, g2, g3, g4, g5⟩ := g
    simp only [Mb.word, Mb.mid] at hv ⊢
    walk_at "go"
    walk_at "ift"
    walk_at "ift"
    rename_i u hu
    exact ⟨u, n, m, rows, k, rfl, hu, g1, g2, g3, g4, q⟩
  | tree n m rows d qq i =>
    obtain ⟨g1, g2, g3, g4, g5, g6, g7, g8, g9⟩ := g
    simp only [Mb.word, Mb.mid] at hv ⊢
    walk_at "go"
    walk_at "iff"
    walk_at "ift"
    walk_at "ift"
    rename_i u hu
    exact ⟨u, n, m, rows, d, qq, rfl, hu, g1, g2, g3, g4, g5, g6, g7, g8, q⟩
  | marks l m i =>
    obtain ⟨g1, g2, g3, g4, g5⟩ := g
    simp only [Mb.word, Mb.mid] at hv ⊢
    walk_at "go"
    walk_at "iff"
    walk_at "iff"
    walk_at "new"; rename_i p np H1 s1 h1
    refine r_inT (ws := ["marks", "secrets"]) (b := true) h1 (by decide +kernel) ?_
    walk_at "go"
    walk_at "ift"
    refine ⟨_, rfl, by omega, by omega, ?_⟩
    walk_at "go"
    exact ⟨_, rfl, by omega, by omega, q _ s1⟩
  | secrets l m i =>
    obtain ⟨g1, g2, g3, g4, g5⟩ := g
    simp only [Mb.word, Mb.mid] at hv ⊢
    walk_at "go"
    walk_at "iff"
    walk_at "iff"
    walk_at "new"; rename_i p np H1 s1 h1
    refine r_inT (ws := ["marks", "secrets"]) (b := true) h1 (by decide +kernel) ?_
    walk_at "go"
    walk_at "ift"
    refine ⟨_, rfl, by omega, by omega, ?_⟩
    walk_at "go"
    exact ⟨_, rfl, by omega, by omega, q _ s1⟩
def Mb.inner : Mb → Mb
  | .plain b => .plain b
  | .longer _ _ _ _ i => i
  | .tree _ _ _ _ _ i => i
  | .marks _ _ i => i
  | .secrets _ _ i => i
theorem Mb.enc_eq (b : Mb) (h : b.made) : encM b = .tuple (.str b.word :: (b.mid ++ [encM b.inner])) := by
  cases b with
  | plain b => exact h.elim
  | _ => rfl
theorem Mb.word_made (b : Mb) (h : b.made) : b.word ∈ madeW := by
  cases b with
  | plain b => exact h.elim
  | _ => simp [Mb.word, madeW]
theorem Mb.inner_good {b : Mb} (h : b.good) (hm : b.made) : b.inner.good ∧ b.layers = b.inner.layers + 1 ∧ b.base = b.inner.base := by
  cases b with
  | plain b => exact hm.elim
  | longer n m rows k i => exact ⟨h.2.2.2.2, rfl, rfl⟩
  | tree n m rows d q i => exact ⟨h.2.2.2.2.2.2.2.2, rfl, rfl⟩
  | marks l m i => exact ⟨h.2.2.2.2, rfl, rfl⟩
  | secrets l m i => exact ⟨h.2.2.2.2, rfl, rfl⟩
theorem Mb.mid_slice (b : Mb) (h : b.made) (v : PyData) : let ds := PyData.str b.word :: (b.mid ++ [v]); (ds.drop (HT.sIx ds.length 0 (some 1))).take (HT.sIx ds.length ds.length (some (-1)) - HT.sIx ds.length 0 (some 1)) = b.mid := by
  cases b with
  | plain b => exact h.elim
  | _ => rfl
theorem Mb.last_ (b : Mb) (v : PyData) : (PyData.str b.word :: (b.mid ++ [v])).getLast? = some v := by
  rw [← List.cons_append, List.getLast?_append]; rfl
theorem c_check_breaker (T : Tx w K mg) : C8.Cal P w K mg base 6 "check_breaker" (spN 1 fun vs H Q _ => ∃ v, ∃ b : Mb, vs = [v] ∧ Td H (encM b) v ∧ b.good ∧ b.layers ≤ 20 ∧ ∀ H', Same H H' → Q .non H') [] := by
  refine mkFn T.fn_check_breaker sc_check_breaker (fun _ _ _ _ _ _ us hl => match us, hl with | [_], _ => rfl) (fun f cdv A outer s H vs Q E hr _ h => ?_)
  obtain ⟨v0, b0, rfl, hv0, g0, hl0, q⟩ := h
  refine ⟨_, (pss_cons (ps_set (i := 1) sc_check_breaker.nd rfl (by first | exact Or.inl rfl | exact Or.inr rfl) pe_int)
  (pss_cons (ps_set (i := 2) sc_check_breaker.nd rfl (by first | exact Or.inl rfl | exact Or.inr rfl) pe_non)
  (pss_cons (ps_while PassesOwn.never (pt_not (pt_val (C8.pe_c (c_has_plain_word T) hr (by first | decide | omega) (by rfl) (pa_cons (pv 0) pa_nil)))) (pss_cons (ps_if (PW.pt (pw_or (pt_not (pt_val (pe_callB (isiK (K := K)) (by rfl) T.f_isinstance bt_isinstance (pa_cons (pv 0) (pa_cons (pe_bltn (v := .ty "tuple") (by rfl) T.f_tuple bt_tuple rfl) pa_nil))))) (pw_or (pt_cmpR op_lt (pe_callB (lenK (K := K)) (by rfl) T.f_len bt_len (pa_cons (pv 0) pa_nil)) pe_int (by rfl)) (pw_or1 (pt_not (pt_val (pe_callB (isiK (K := K)) (by rfl) T.f_isinstance bt_isinstance (pa_cons (pe_ix (ixK (K := K)) (pv 0) pe_int (fun _ _ => rfl)) (pa_cons (pe_bltn (v := .ty "str") (by rfl) T.f_str bt_str rfl) pa_nil))))))))) (pss_one ps_never) pss_nil)
  (pss_cons (ps_if (PW.pt (pw_or (pt_cmpR op_eq (pv 2) pe_str (by rfl)) (pw_or1 (pt_not (pt_val (C8.pe_c (c_fits_word T) hr (by first | decide | omega) (by rfl) (pa_cons (pe_ix (ixK (K := K)) (pv 0) pe_int (fun _ _ => rfl)) (pa_cons (pe_slice (slTK (K := K)) (pv 0) (po_some pe_int) (po_some (pe_un un_neg pe_int))) pa_nil)))))))) (pss_one ps_never) pss_nil)
  (pss_cons (ps_aug (i := 1) sc_check_breaker.nd rfl (by first | exact Or.inl rfl | exact Or.inr rfl) pe_int ip_add)
  (pss_cons (ps_if (pt_cmpR op_gt (pv 1) (C8.pe_gc (by rfl) T.k_MOST_LAYERS) (by rfl)) (pss_one ps_never) pss_nil)
  (pss_one (ps_par (i := 2) (j := 0) rfl sc_check_breaker.nd rfl rfl (by decide) rfl rfl (pa_cons (pe_ix (ixK (K := K)) (pv 0) pe_int (fun _ _ => rfl)) (pa_cons (pe_ix (ixK (K := K)) (pv 0) (pe_un un_neg pe_int) (fun _ _ => rfl)) pa_nil)) (by rfl))))))))
  (pss_one (ps_expr (C8.pe_c (c_check_plain_breakers T) hr (by first | decide | omega) (by rfl) (pa_cons (pv 0) pa_nil))))))), ?_⟩
  walk_at "go"
  refine r_while ⟨fun m σ H1 => ∃ (v : V) (b : Mb) (n : Nat) (wo : V), σ = [some v, some (.int n), some wo] ∧ m = b.layers ∧ Same H H1 ∧ Td H1 (encM b) v ∧ b.good ∧ n + b.layers ≤ 20 ∧ (wo = .non ∨ ∃ z ∈ madeW, wo = .str z),
    ⟨_, v0, b0, 0, .non, rfl, rfl, Same.refl _, hv0, g0, by omega, .inl rfl⟩, fun m σ H1 hW => ?_⟩
  obtain ⟨v, b, n, wo, rfl, rfl, s1, hv, g, hl, hwo⟩ := hW
  walk_at "go"
  by_cases hb : b.made
  · have hv2 := hv
    rw [b.enc_eq hb] at hv2
    obtain ⟨ig, il, _⟩ := Mb.inner_good g hb
    have hmw := b.word_made hb
    refine ⟨v, _, _, rfl, hv2, .inl ⟨hmw, ?_⟩⟩
    walk_at "go"
    refine ⟨_, fun _ _ h => h, ?_⟩
    walk_at "go"
    refine ite_f (by simp [List.length_append]; omega) ?_
    walk_at "go"
    have key : ∀ (R : V → Hp → Prop), R (.bl false) H1 → rEq wo (.str ("onetime" : Str)) H1 R := by
      intro R hR
      rcases hwo with rfl | ⟨z, hz, rfl⟩
      · exact r_eqNS hR
      · refine r_eqS ?_
        have e : decide (z = ("onetime" : Str)) = false := by
          simp only [madeW, List.mem_cons, List.not_mem_nil, or_false] at hz
          rcases hz with rfl | rfl | rfl | rfl <;> decide +kernel
        rw [e]; exact hR
    refine key _ ?_
    walk_at "go"
    refine r_slT hv2 (b.mid_slice hb (encM b.inner)) fun H2 u s2 hu => ?_
    walk_at "go"
    refine ⟨u, b, rfl, hu, g, hb, fun H3 s3 => ?_⟩
    have hv3 := hv2.same (s2.trans s3)
    walk_at "go"
    refine ite_f (by rw [decide_eq_true_eq]; omega) ?_
    walk_at "go"
    refine r_ixDlast hv3 (b.last_ _) fun u2 hu2 => ?_
    walk_at "go"
    exact ⟨_, by rw [il]; exact Nat.lt_succ_self _, u2, b.inner, n + 1, _, rfl, rfl, (s1.trans s2).trans s3, hu2, ig, by omega, .inr ⟨_, hmw, rfl⟩⟩
  · cases b with
    | plain b =>
      have hv2 := hv
      simp only [encM] at hv2
      rw [encB_eq] at hv2
      refine ⟨v, _, _, rfl, hv2, .inr ⟨⟨b, rfl⟩, ?_⟩⟩
      walk_at "go"
      obtain ⟨g1, g2, g3⟩ := g
      refine ⟨v, b, rfl, hv, g1, g2, g3, fun H2 s2 => ?_⟩
      walk_at "go"
      exact q _ (s1.trans s2)
    | _ => exact absurd trivial hb
theorem c_is_plain (T : Tx w K mg) : C8.Cal P w K mg base 7 "is_plain" (spN 1 fun vs H Q _ => ∃ v, ∃ b : Br, vs = [v] ∧ Td H (encB b) v ∧ (Mb.plain b).good ∧ ∀ H', Same H H' → Q (.bl true) H') [] := by
  refine mkFn T.fn_is_plain sc_is_plain (fun _ _ _ _ _ _ us hl => match us, hl with | [_], _ => rfl) (fun f cdv A outer s H vs Q E hr _ h => ?_)
  obtain ⟨v, b, rfl, hv, g, q⟩ := h
  refine ⟨_, (pss_cons (ps_expr (C8.pe_c (c_check_breaker T) hr (by first | decide | omega) (by rfl) (pa_cons (pv 0) pa_nil)))
  (pss_one (ps_ret (C8.pe_c (c_has_plain_word T) hr (by first | decide | omega) (by rfl) (pa_cons (pv 0) pa_nil))))), ?_⟩
  walk_at "go"
  refine ⟨v, .plain b, rfl, hv, g, by simp [Mb.layers], fun H1 s1 => ?_⟩
  walk_at "go"
  have hv2 := hv.same s1
  rw [encB_eq] at hv2
  exact ⟨v, _, _, rfl, hv2, .inr ⟨⟨b, rfl⟩, q _ s1⟩⟩
theorem c_most_asks (T : Tx w K mg) : C8.Cal P w K mg base 7 "most_asks" (spN 1 fun vs H Q _ => ∃ v, ∃ b : Mb, vs = [v] ∧ Td H (encM b) v ∧ b.good ∧ b.layers ≤ 20 ∧ ∀ H', Same H H' → Q (.int b.asks) H') [] := by
  refine mkFn T.fn_most_asks sc_most_asks (fun _ _ _ _ _ _ us hl => match us, hl with | [_], _ => rfl) (fun f cdv A outer s H vs Q E hr _ h => ?_)
  obtain ⟨v0, b0, rfl, hv0, g0, hl0, q⟩ := h
  refine ⟨_, (pss_cons (ps_expr (C8.pe_c (c_check_breaker T) hr (by first | decide | omega) (by rfl) (pa_cons (pv 0) pa_nil)))
  (pss_cons (ps_set (i := 1) sc_most_asks.nd rfl (by first | exact Or.inl rfl | exact Or.inr rfl) pe_int)
  (pss_cons (ps_while PassesOwn.never (pt_not (pt_val (C8.pe_c (c_has_plain_word T) hr (by first | decide | omega) (by rfl) (pa_cons (pv 0) pa_nil)))) (pss_cons (ps_if (pt_cmpR op_eq (pe_ix (ixK (K := K)) (pv 0) pe_int (fun _ _ => rfl)) pe_str (by rfl)) (pss_one ps_never) pss_nil)
  (pss_cons (ps_if (pt_cmpR (notInK (K := K)) (pe_ix (ixK (K := K)) (pv 0) pe_int (fun _ _ => rfl)) (pe_tup (pa_cons pe_str (pa_cons pe_str pa_nil))) (by rfl)) (pss_one (ps_ret (pv 1))) pss_nil)
  (pss_cons (ps_aug (i := 1) sc_most_asks.nd rfl (by first | exact Or.inl rfl | exact Or.inr rfl) (pe_callTy call_int1 (by rfl) T.f_int bt_int (pa_cons (pe_cmpR op_eq (pe_ix (ixK (K := K)) (pv 0) pe_int (fun _ _ => rfl)) pe_str (by rfl)) pa_nil)) ip_add)
  (pss_one (ps_set (i := 0) sc_most_asks.nd rfl (by first | exact Or.inl rfl | exact Or.inr rfl) (pe_ix (ixK (K := K)) (pv 0) (pe_un un_neg pe_int) (fun _ _ => rfl))))))))
  (pss_one (ps_ret (pe_op op_add (pv 1) (C8.pe_c (c_most_plain_asks T) hr (by first | decide | omega) (by rfl) (pa_cons (pv 0) pa_nil)))))))), ?_⟩
  walk_at "go"
  refine ⟨v0, b0, rfl, hv0, g0, hl0, fun H1 s1 => ?_⟩
  walk_at "go"
  refine r_while ⟨fun m σ H2 => ∃ (v : V) (b : Mb) (n : Nat), σ = [some v, some (.int n)] ∧ m = b.layers ∧ Same H1 H2 ∧ Td H2 (encM b) v ∧ b.good ∧ n + b.asks = b0.asks,
    ⟨_, v0, b0, 0, rfl, rfl, Same.refl _, hv0.same s1, g0, by omega⟩, fun m σ H2 hW => ?_⟩
  obtain ⟨v, b, n, rfl, rfl, s2, hv, g, ha⟩ := hW
  walk_at "go"
  by_cases hb : b.made
  · have hv2 := hv
    rw [b.enc_eq hb] at hv2
    obtain ⟨ig, il, _⟩ := Mb.inner_good g hb
    have hmw := b.word_made hb
    refine ⟨v, _, _, rfl, hv2, .inl ⟨hmw, ?_⟩⟩
    walk_at "go"
    refine ⟨_, fun _ _ h => h, ?_⟩
    walk_at "go"
    refine ite_f ?_ ?_
    · rw [decide_eq_true_eq]
      simp only [madeW, List.mem_cons, List.not_mem_nil, or_false] at hmw
      rcases hmw with h | h | h | h <;> rw [h] <;> decide +kernel
    walk_at "go"
    walk_at "new"; rename_i p np H3 s3 h3
    have hv3 := hv2.same s3
    cases b with
    | plain b => exact hb.elim
    | longer n' m rows k i =>
      refine r_notInT (ws := ["marks", "secrets"]) (b := true) h3 (by show (!inV (.str ("longer" : Str)) _) = _; decide +kernel) ?_
      walk_at "go"
      rw [show n = b0.asks by simpa [Mb.asks] using ha]
      exact q _ ((s1.trans s2).trans s3)
    | tree n' m rows d qq i =>
      refine r_notInT (ws := ["marks", "secrets"]) (b := true) h3 (by show (!inV (.str ("tree" : Str)) _) = _; decide +kernel) ?_
      walk_at "go"
      rw [show n = b0.asks by simpa [Mb.asks] using ha]
      exact q _ ((s1.trans s2).trans s3)
    | marks l m i =>
      refine r_notInT (ws := ["marks", "secrets"]) (b := false) h3 (by show (!inV (.str ("marks" : Str)) _) = _; decide +kernel) ?_
      simp only [Mb.asks] at ha
      walk_at "go"
      refine r_ixDlast hv3 (Mb.last_ _ _) fun u2 hu2 => ?_
      walk_at "go"
      refine ⟨_, by rw [il]; exact Nat.lt_succ_self _, u2, i, n + 1, ?_, rfl, s2.trans s3, hu2, ig, by omega⟩
      rfl
    | secrets l m i =>
      refine r_notInT (ws := ["marks", "secrets"]) (b := false) h3 (by show (!inV (.str ("secrets" : Str)) _) = _; decide +kernel) ?_
      simp only [Mb.asks] at ha
      walk_at "go"
      refine r_ixDlast hv3 (Mb.last_ _ _) fun u2 hu2 => ?_
      walk_at "go"
      refine ⟨_, by rw [il]; exact Nat.lt_succ_self _, u2, i, n, ?_, rfl, s2.trans s3, hu2, ig, by omega⟩
      rfl
  · cases b with
    | plain b =>
      have hv2 := hv
      simp only [encM] at hv2
      rw [encB_eq] at hv2
      refine ⟨v, _, _, rfl, hv2, .inr ⟨⟨b, rfl⟩, ?_⟩⟩
      walk_at "go"
      obtain ⟨g1, g2, g3⟩ := g
      refine ⟨v, b, rfl, hv, g1, g2, fun H3 s3 => ?_⟩
      walk_at "go"
      rw [show ((n : Int) + (b.asks : Int)) = ((b0.asks : Nat) : Int) by rw [← ha]; simp [Mb.asks]]
      exact q _ ((s1.trans s2).trans s3)
    | _ => exact absurd trivial hb
end
/-! Part A9: schemes. -/
open PySem PySem.Spec PyProof.Rows L2
abbrev encS (d k : Nat) : PyData := .tuple [.str "tree", .int d, .tuple [.str "longer", .int k, .tuple [.str "block"]]]
theorem so1 : PyData.strOk "tree" = true := by decide +kernel
theorem so2 : PyData.strOk "longer" = true := by decide +kernel
theorem so3 : PyData.strOk "block" = true := by decide +kernel
theorem sh0 : SeqAt.shaped (.tuple [.str "block"]) = true := by
  simp [SeqAt.shaped, PyData.canLay0, PyData.canLayAll0, PyData.depth, PyData.depthAll, so3]
theorem sh1 (k : Nat) : SeqAt.shaped (.tuple [.str "longer", .int k, .tuple [.str "block"]]) = true := by
  simp [SeqAt.shaped, PyData.canLay0, PyData.canLayAll0, PyData.depth, PyData.depthAll, so2, so3]
theorem sh2 (d k : Nat) : SeqAt.shaped (encS d k) = true := by
  simp [SeqAt.shaped, PyData.canLay0, PyData.canLayAll0, PyData.depth, PyData.depthAll, so1, so2, so3]
theorem eqS2 (d k : Nat) : PyData.eqv (encS d k) (.tuple [.str "block"]) = false := by simp [PyData.eqv, PyData.eqvAll]
theorem eqS1 (k : Nat) : PyData.eqv (.tuple [.str "longer", .int k, .tuple [.str "block"]]) (.tuple [.str "block"]) = false := by simp [PyData.eqv, PyData.eqvAll]
theorem eqS0 : PyData.eqv (.tuple [.str "block"]) (.tuple [.str "block"]) = true := by simp [PyData.eqv, PyData.eqvAll]
section
variable {P : Program} {w : World} {K : PySem.W.Frag} {mg : Str → Option Value} {base : Heap}
theorem c_layers_of (T : Tx w K mg) : C8.Cal P w K mg base 1 "layers_of" (spN 1 fun vs H Q _ => ∃ v d k, vs = [v] ∧ Td H (encS d k) v ∧ ∀ p a b H', Same H H' → H p = none → H' p = some (.lst [.ref a, .ref b]) → H' a = some (.tup [.str "tree", .int d]) → H' b = some (.tup [.str "longer", .int k]) → Q (.ref p) H') [] := by
  refine mkFn T.fn_layers_of sc_layers_of (fun _ _ _ _ _ _ us hl => match us, hl with | [_], _ => rfl) (fun f cdv A outer s H vs Q E hr _ h => ?_)
  obtain ⟨v, d, k, rfl, hv, q⟩ := h
  refine ⟨_, (pss_cons (ps_set (i := 1) sc_layers_of.nd rfl (by first | exact Or.inl rfl | exact Or.inr rfl) (pe_lst pa_nil))
  (pss_cons (ps_while PassesOwn.never (pt_cmpR (neDK (K := K) hr.units) (pv 0) (pe_tup (pa_cons pe_str pa_nil)) (by rfl)) (pss_cons (ps_if (PW.pt (pw_or (pt_not (pt_val (pe_callB (isiK (K := K)) (by rfl) T.f_isinstance bt_isinstance (pa_cons (pv 0) (pa_cons (pe_bltn (v := .ty "tuple") (by rfl) T.f_tuple bt_tuple rfl) pa_nil))))) (pw_or1 (pt_cmpR op_ne (pe_callB (lenK (K := K)) (by rfl) T.f_len bt_len (pa_cons (pv 0) pa_nil)) pe_int (by rfl))))) (pss_one ps_never) pss_nil)
  (pss_cons (ps_if (PW.pt (pw_or (pt_not (pt_val (pe_callB (isiK (K := K)) (by rfl) T.f_isinstance bt_isinstance (pa_cons (pe_ix (ixK (K := K)) (pv 0) pe_int (fun _ _ => rfl)) (pa_cons (pe_bltn (v := .ty "str") (by rfl) T.f_str bt_str rfl) pa_nil))))) (pw_or1 (pt_cmpR (notInD T.t_LAYERS) (pe_ix (ixK (K := K)) (pv 0) pe_int (fun _ _ => rfl)) (C8.pe_gc (by rfl) T.k_LAYERS) (by rfl))))) (pss_one ps_never) pss_nil)
  (pss_cons (ps_expr (bmK (K := K) PySem.F.plainAttrs_list PySem.F.slot_list_append PySem.F.type_list_append mt_append (pv 1) (pa_cons (pe_tup (pa_cons (pe_ix (ixK (K := K)) (pv 0) pe_int (fun _ _ => rfl)) (pa_cons (pe_ix (ixK (K := K)) (pv 0) pe_int (fun _ _ => rfl)) pa_nil))) pa_nil)))
  (pss_cons (ps_set (i := 0) sc_layers_of.nd rfl (by first | exact Or.inl rfl | exact Or.inr rfl) (pe_ix (ixK (K := K)) (pv 0) pe_int (fun _ _ => rfl)))
  (pss_one (ps_if (pt_cmpR op_ge (pe_callB (lenK (K := K)) (by rfl) T.f_len bt_len (pa_cons (pv 1) pa_nil)) (C8.pe_gc (by rfl) T.k_MOST_DEEP) (by rfl)) (pss_one ps_never) pss_nil)))))))
  (pss_one (ps_ret (pv 1))))), ?_⟩
  walk_at "go"
  walk_at "new"; rename_i p np H1 s1 h1
  walk_at "go"
  refine r_while ⟨fun m σ H2 => (m = 2 ∧ ∃ v, σ = [some v, some (.ref p)] ∧ Same H H2 ∧ H2 p = some (.lst []) ∧ Td H2 (encS d k) v) ∨
    (m = 1 ∧ ∃ v a, σ = [some v, some (.ref p)] ∧ Same H H2 ∧ H2 p = some (.lst [.ref a]) ∧ H2 a = some (.tup [.str "tree", .int d]) ∧ Td H2 (.tuple [.str "longer", .int k, .tuple [.str "block"]]) v) ∨
    (m = 0 ∧ ∃ v a b, σ = [some v, some (.ref p)] ∧ Same H H2 ∧ H2 p = some (.lst [.ref a, .ref b]) ∧ H2 a = some (.tup [.str "tree", .int d]) ∧ H2 b = some (.tup [.str "longer", .int k]) ∧ Td H2 (.tuple [.str "block"]) v), ⟨2, .inl ⟨rfl, v, rfl, s1, h1, hv.same s1⟩⟩, fun m σ H2 hW => ?_⟩
  rcases hW with ⟨rfl, v, rfl, s2, h2, hv⟩ | ⟨rfl, v, a, rfl, s2, h2, ha, hv⟩ | ⟨rfl, v, a, b, rfl, s2, h2, ha, hb, hv⟩
  · walk_at "go"
    walk_at "new"; rename_i t nt H3 s3 h3
    have tb : Td H3 (.tuple [.str "block"]) (.ref t) := td_tup h3 ⟨_, _, rfl, rfl, rfl⟩
    have hv3 := hv.same s3
    refine ⟨_, _, hv3.dp, tb.dp, sh2 d k, sh0, ?_⟩
    rw [eqS2]
    walk_at "go"
    refine ⟨_, fun _ _ h => h, ?_⟩
    walk_at "go"
    walk_at "iff"
    refine r_notInD T.t_LAYERS (v := .ref (He.ga K "tree")) (by simp) ?_
    walk_at "go"
    refine And.intro (tyL (s3 _ _ h2)) ?_
    walk_at "go"
    walk_at "new"; rename_i a na H4 s4 h4
    have h2' := s4 _ _ (s3 _ _ h2)
    walk_at "go"
    refine r_app h2' (by simp) ?_
    have x5 : Ext [p] H4 (upd H4 p (.lst ([] ++ [.ref a]))) := Ext.put (by simp) h2' (by intro xs z; cases z)
    have hv5 := Td.ext x5 (hv3.same s4)
    walk_at "go"
    rename_i u hu
    refine r_lenL (xs := [.ref a]) upd_same ?_
    walk_at "go"
    walk_at "iff"
    exact ⟨1, by decide, .inr (.inl ⟨rfl, u, a, rfl, ((s2.trans s3).trans s4).putNew np, upd_same, x5.tup _ _ h4, hu⟩)⟩
  · walk_at "go"
    walk_at "new"; rename_i t nt H3 s3 h3
    have tb : Td H3 (.tuple [.str "block"]) (.ref t) := td_tup h3 ⟨_, _, rfl, rfl, rfl⟩
    have hv3 := hv.same s3
    refine ⟨_, _, hv3.dp, tb.dp, sh1 k, sh0, ?_⟩
    rw [eqS1]
    walk_at "go"
    refine ⟨_, fun _ _ h => h, ?_⟩
    walk_at "go"
    walk_at "iff"
    refine r_notInD T.t_LAYERS (v := .ref (He.ga K "longer")) (by simp) ?_
    walk_at "go"
    refine And.intro (tyL (s3 _ _ h2)) ?_
    walk_at "go"
    walk_at "new"; rename_i b na H4 s4 h4
    have h2' := s4 _ _ (s3 _ _ h2)
    walk_at "go"
    refine r_app h2' (by simp) ?_
    have x5 : Ext [p] H4 (upd H4 p (.lst ([.ref a] ++ [.ref b]))) := Ext.put (by simp) h2' (by intro xs z; cases z)
    have hv5 := Td.ext x5 (hv3.same s4)
    walk_at "go"
    rename_i u hu
    refine r_lenL (xs := [.ref a, .ref b]) upd_same ?_
    walk_at "go"
    walk_at "iff"
    exact ⟨0, by decide, .inr (.inr ⟨rfl, u, a, b, rfl, ((s2.trans s3).trans s4).putNew np, upd_same, x5.tup _ _ (s4 _ _ (s3 _ _ ha)), x5.tup _ _ h4, hu⟩)⟩
  · walk_at "go"
    walk_at "new"; rename_i t nt H3 s3 h3
    have tb : Td H3 (.tuple [.str "block"]) (.ref t) := td_tup h3 ⟨_, _, rfl, rfl, rfl⟩
    refine ⟨_, _, (hv.same s3).dp, tb.dp, sh0, sh0, ?_⟩
    rw [eqS0]
    walk_at "go"
    exact q p a b _ (s2.trans s3) np (s3 _ _ h2) (s3 _ _ ha) (s3 _ _ hb)
/-- what a scheme builds on its way -/
abbrev long1 (n : Nat) (rows : List (List Bool)) : List (List Bool) := longT n rows n
abbrev tree2 (n d : Nat) (rows : List (List Bool)) : List (List (List Bool)) := treeT n (longT n rows n) d
structure Sch (n d : Nat) (rows : List (List Bool)) : Prop where
  G : GoodG n (n + 1) rows
  n3 : n ≤ 3
  d1 : 1 ≤ d
  d4 : d ≤ 4
theorem Sch.G1 {n d : Nat} {rows : List (List Bool)} (h : Sch n d rows) : GoodG n (n + n) (long1 n rows) := longT_good h.G rfl h.G.n1 (by have := h.n3; omega)
theorem Sch.F {n d : Nat} {rows : List (List Bool)} (h : Sch n d rows) : GoodF n d n (tree2 n d rows) := treeT_good h.G1 (by omega) (by have := h.n3; omega) h.d1 (by have := h.d4; omega) (by have := h.n3; have := h.d4; omega)
theorem c_tables_of (T : Tx w K mg) : C8.Cal P w K mg base 6 "tables_of" (spN 2 fun vs H Q _ => ∃ v b n d rows, vs = [v, b] ∧ Td H (encS d n) v ∧ Td H (encG n (n + 1) rows) b ∧ Sch n d rows ∧
    ∀ p u1 u2 H', Same H H' → H p = none → H' p = some (.lst [b, u1, u2]) → Td H' (encG n (n + n) (long1 n rows)) u1 → Td H' (encF n d n (tree2 n d rows)) u2 → Q (.ref p) H') [] := by
  refine mkFn T.fn_tables_of sc_tables_of (fun _ _ _ _ _ _ us hl => match us, hl with | [_, _], _ => rfl) (fun f cdv A outer s H vs Q E hr _ h => ?_)
  obtain ⟨v, b, n, d, rows, rfl, hv, hb, S, q⟩ := h
  refine ⟨_, (pss_cons (ps_set (i := 2) sc_tables_of.nd rfl (by first | exact Or.inl rfl | exact Or.inr rfl) (pe_lst (pa_cons (pv 1) pa_nil)))
  (pss_cons (ps_for PassesOwn.never rfl (piRevK (K := K) (by rfl) T.f_reversed (pa_cons (C8.pe_c (c_layers_of T) hr (by first | decide | omega) (by rfl) (pa_cons (pv 0) pa_nil)) pa_nil)) (pgTK (K := K) (n := 2) rfl (pgs_cons (pg_name (i := 3) sc_tables_of.nd rfl (by first | exact Or.inl rfl | exact Or.inr rfl)) (pgs_cons (pg_name (i := 4) sc_tables_of.nd rfl (by first | exact Or.inl rfl | exact Or.inr rfl)) pgs_nil)) (hn := by rfl)) (pss_one (ps_expr (bmK (K := K) PySem.F.plainAttrs_list PySem.F.slot_list_append PySem.F.type_list_append mt_append (pv 2) (pa_cons (pe_callE (P := P) (w := w) (K := K) (mg := mg) (base := base) (k := 5) hr (by first | decide | omega) (pe_ix (ixDK (K := K) (w := w)) (C8.pe_gc (by rfl) T.k_LAYERS) (pv 3) (fun _ _ => rfl)) (pa_cons (pe_ix (ixK (K := K)) (pv 2) (pe_un un_neg pe_int) (fun _ _ => rfl)) (pa_cons (pv 4) pa_nil))) pa_nil)))))
  (pss_one (ps_ret (pv 2))))), ?_⟩
  walk_at "go"
  walk_at "new"; rename_i p np H1 s1 h1
  walk_at "go"
  refine ⟨_, _, _, rfl, hv.same s1, fun l a c H2 s2 nl hl ha hc => ?_⟩
  walk_at "go"
  refine ⟨l, _, rfl, SqL.of hl, ?_⟩
  have h1' := s2 _ _ h1
  have npl : p ≠ l := fun z => by rw [z, nl] at h1; cases h1
  have G1 := S.G1
  have n3 := S.n3
  have n1 := S.G.n1
  have d4 := S.d4
  refine for_it (walk_rev (xs := [.ref a, .ref c])) (fun i σ H3 => ∃ y3 y4, σ = [some v, some b, some (.ref p), y3, y4] ∧ Ext [p] H2 H3 ∧
    ((i = 0 ∧ H3 p = some (.lst [b])) ∨ (i = 1 ∧ ∃ u1, H3 p = some (.lst [b, u1]) ∧ Td H3 (encG n (n + n) (long1 n rows)) u1) ∨
     (i = 2 ∧ ∃ u1 u2, H3 p = some (.lst [b, u1, u2]) ∧ Td H3 (encG n (n + n) (long1 n rows)) u1 ∧ Td H3 (encF n d n (tree2 n d rows)) u2)))
    ⟨none, none, rfl, Ext.refl _, .inl ⟨rfl, h1'⟩⟩ (fun i σ H3 _ hp => ?_) (fun i x σ H3 H4 hi hp hy => ?_) (fun σ H3 hp => ?_)
  · obtain ⟨y3, y4, rfl, x3, _⟩ := hp
    exact SqL.of (x3.keep l _ (by simp; exact fun z => npl z.symm) hl)
  · obtain ⟨y3, y4, rfl, x3, hp⟩ := hp
    obtain ⟨rfl, hx⟩ := hy
    rcases hp with ⟨rfl, h3⟩ | ⟨rfl, u1, h3, hu1⟩ | ⟨rfl, _⟩
    · obtain rfl : V.ref c = x := Option.some.inj hx
      walk_at "go"
      refine r_gTup (SqT.of (x3.tup _ _ hc)) rfl ?_
      walk_at "go"
      refine r_ixK (kdct T.t_LAYERS (z := "longer") (v := .ref (He.ga K "longer")) (by simp)) ?_
      obtain ⟨kp, F⟩ := calR (P := P) (base := base) (c_longer T) (T.g_fn "longer" (by simp))
      refine ⟨_, _, rfl, kp, F, ?_⟩
      walk_at "go"
      refine r_ixLlast h3 rfl ?_
      walk_at "go"
      refine ⟨b, n, n + 1, rows, n, rfl, Td.ext x3 (hb.same (s1.trans s2)), S.G, rfl, n1, by omega, by omega, fun H5 u s5 hu => ?_⟩
      walk_at "go"
      refine r_app (s5 _ _ h3) (by simp) ?_
      have x6 : Ext [p] H5 (upd H5 p (.lst ([b] ++ [u]))) := Ext.put (by simp) (s5 _ _ h3) (by intro xs z; cases z)
      walk_at "go"
      exact ⟨_, _, rfl, (x3.trans (Ext.of s5)).trans x6, .inr (.inl ⟨rfl, u, upd_same, Td.ext x6 hu⟩)⟩
    · obtain rfl : V.ref a = x := Option.some.inj hx
      walk_at "go"
      refine r_gTup (SqT.of (x3.tup _ _ ha)) rfl ?_
      walk_at "go"
      refine r_ixK (kdct T.t_LAYERS (z := "tree") (v := .ref (He.ga K "tree")) (by simp)) ?_
      obtain ⟨kp, F⟩ := calR (P := P) (base := base) (c_tree T) (T.g_fn "tree" (by simp))
      refine ⟨_, _, rfl, kp, F, ?_⟩
      walk_at "go"
      refine r_ixLlast h3 rfl ?_
      walk_at "go"
      refine ⟨u1, n, n + n, long1 n rows, d, rfl, hu1, G1, by omega, by omega, S.d1, by omega, by omega, fun H5 u s5 hu => ?_⟩
      walk_at "go"
      refine r_app (s5 _ _ h3) (by simp) ?_
      have x6 : Ext [p] H5 (upd H5 p (.lst ([b, u1] ++ [u]))) := Ext.put (by simp) (s5 _ _ h3) (by intro xs z; cases z)
      walk_at "go"
      exact ⟨_, _, rfl, (x3.trans (Ext.of s5)).trans x6, .inr (.inr ⟨rfl, u1, u, upd_same, Td.ext x6 (hu1.same s5), Td.ext x6 hu⟩)⟩
    · exact absurd hi (by simp)
  · obtain ⟨y3, y4, rfl, x3, hp⟩ := hp
    rcases hp with ⟨h, _⟩ | ⟨h, _⟩ | ⟨_, u1, u2, h3, hu1, hu2⟩
    · exact absurd h (by simp)
    · exact absurd h (by simp)
    · walk_at "go"
      exact q p u1 u2 H3 (x3.toSame (s1.trans s2) (by simp [np])) np h3 hu1 hu2
theorem c_built (T : Tx w K mg) : C8.Cal P w K mg base 7 "built" (spN 2 fun vs H Q _ => ∃ v b n d rows, vs = [v, b] ∧ Td H (encS d n) v ∧ Td H (encG n (n + 1) rows) b ∧ Sch n d rows ∧
    ∀ u2 H', Same H H' → Td H' (encF n d n (tree2 n d rows)) u2 → Q u2 H') [] := by
  refine mkFn T.fn_built sc_built (fun _ _ _ _ _ _ us hl => match us, hl with | [_, _], _ => rfl) (fun f cdv A outer s H vs Q E hr _ h => ?_)
  obtain ⟨v, b, n, d, rows, rfl, hv, hb, S, q⟩ := h
  refine ⟨_, (pss_cons (ps_expr (C8.pe_c (c_check_block T) hr (by first | decide | omega) (by rfl) (pa_cons (pv 1) pa_nil)))
  (pss_one (ps_ret (pe_ix (ixK (K := K)) (C8.pe_c (c_tables_of T) hr (by first | decide | omega) (by rfl) (pa_cons (pv 0) (pa_cons (pv 1) pa_nil))) (pe_un un_neg pe_int) (fun _ _ => rfl))))), ?_⟩
  walk_at "go"
  refine ⟨b, rfl, .inl ⟨n, n + 1, rows, hb, S.G⟩, fun H1 s1 => ?_⟩
  walk_at "go"
  refine ⟨v, b, n, d, rows, rfl, hv.same s1, hb.same s1, S, fun p u1 u2 H2 s2 np hp hu1 hu2 => ?_⟩
  walk_at "go"
  exact r_ixLlast hp rfl (q u2 _ (s1.trans s2) hu2)
end
/-! Part A10: games and goals are checked. -/
open PySem PySem.Spec PyProof.Rows L2
inductive Gm where
  | gen (n m : Nat) (rows : List (List Bool)) (real : Bool)
  | fn (n l m : Nat) (tab : List (List (List Bool))) (real : Bool)
  | marks (n l m : Nat) (tab : List (List (List Bool))) (real : Bool)
  | secrets (n l m : Nat) (tab : List (List (List Bool))) (real b : Bool)
def encGm : Gm → PyData
  | .gen n m rows real => .tuple [.str "generator", encG n m rows, .bool real]
  | .fn n l m tab real => .tuple [.str "function", encF n l m tab, .bool real]
  | .marks n l m tab real => .tuple [.str "marks", encF n l m tab, .bool real]
  | .secrets n l m tab real b => .tuple [.str "secrets", encF n l m tab, .bool real, .int (if b then 1 else 0)]
def Gm.good : Gm → Prop
  | .gen n m rows _ => GoodG n m rows
  | .fn n l m tab _ => GoodF n l m tab
  | .marks n l m tab _ => GoodF n l m tab
  | .secrets n l m tab _ _ => GoodF n l m tab
section
variable {P : Program} {w : World} {K : PySem.W.Frag} {mg : Str → Option Value} {base : Heap}
theorem c_is_truth (T : Tx w K mg) : C8.Cal P w K mg base 1 "is_truth" (spN 1 fun vs H Q _ => ∃ b : Bool, vs = [.bl b] ∧ Q (.bl true) H) [] := by
  refine mkFn T.fn_is_truth sc_is_truth (fun _ _ _ _ _ _ us hl => match us, hl with | [_], _ => rfl) (fun f cdv A outer s H vs Q E hr _ h => ?_)
  obtain ⟨b, rfl, q⟩ := h
  refine ⟨_, (pss_one (ps_ret (pe_callB (isiK (K := K)) (by rfl) T.f_isinstance bt_isinstance (pa_cons (pv 0) (pa_cons (pe_bltn (v := .ty "bool") (by rfl) T.f_bool bt_bool rfl) pa_nil))))), ?_⟩
  walk_at "go"
  exact q
theorem c_is_right (T : Tx w K mg) : C8.Cal P w K mg base 4 "is_right" (spN 1 fun vs H Q _ => ∃ v, ∃ g : Gm, vs = [v] ∧ Td H (encGm g) v ∧ g.good ∧ ∀ H', Same H H' → Q (.bl true) H') [] := by
  refine mkFn T.fn_is_right sc_is_right (fun _ _ _ _ _ _ us hl => match us, hl with | [_], _ => rfl) (fun f cdv A outer s H vs Q E hr _ h => ?_)
  obtain ⟨v, g, rfl, hv, G, q⟩ := h
  refine ⟨_, (pss_cons (ps_par (i := 1) (j := 2) rfl sc_is_right.nd rfl rfl (by decide) rfl rfl (pa_cons (pe_ix (ixK (K := K)) (pv 0) pe_int (fun _ _ => rfl)) (pa_cons (pe_slice (slTK (K := K)) (pv 0) (po_some pe_int) po_none) pa_nil)) (by rfl))
  (pss_cons (ps_if (pt_cmpR op_eq (pv 1) pe_str (by rfl)) (pss_one (ps_ret (C8.pe_c (c_is_number T) hr (by first | decide | omega) (by rfl) (pa_cons (pe_ix (ixK (K := K)) (pv 2) pe_int (fun _ _ => rfl)) (pa_cons pe_int (pa_cons pe_int pa_nil)))))) pss_nil)
  (pss_cons (ps_if (pt_cmpR op_eq (pv 1) pe_str (by rfl)) (pss_one (ps_ret (pe_and (C8.pe_c (c_is_number T) hr (by first | decide | omega) (by rfl) (pa_cons (pe_ix (ixK (K := K)) (pv 2) pe_int (fun _ _ => rfl)) (pa_cons pe_int (pa_cons pe_int pa_nil)))) (pe_one (C8.pe_c (c_is_number T) hr (by first | decide | omega) (by rfl) (pa_cons (pe_ix (ixK (K := K)) (pv 2) pe_int (fun _ _ => rfl)) (pa_cons pe_int (pa_cons pe_int pa_nil)))))))) pss_nil)
  (pss_cons (ps_if (pt_cmpR (inK (K := K)) (pv 1) (pe_tup (pa_cons pe_str (pa_cons pe_str (pa_cons pe_str pa_nil)))) (by rfl)) (pss_cons (ps_set (i := 3) sc_is_right.nd rfl (by first | exact Or.inl rfl | exact Or.inr rfl) (pe_and (C8.pe_c (c_is_function T) hr (by first | decide | omega) (by rfl) (pa_cons (pe_ix (ixK (K := K)) (pv 2) pe_int (fun _ _ => rfl)) pa_nil)) (pe_one (C8.pe_c (c_is_truth T) hr (by first | decide | omega) (by rfl) (pa_cons (pe_ix (ixK (K := K)) (pv 2) pe_int (fun _ _ => rfl)) pa_nil)))))
  (pss_one (ps_ret (pe_and (pv 3) (pe_one (pe_or (pe_cmpR op_ne (pv 1) pe_str (by rfl)) (pe_one (C8.pe_c (c_is_number T) hr (by first | decide | omega) (by rfl) (pa_cons (pe_ix (ixK (K := K)) (pv 2) pe_int (fun _ _ => rfl)) (pa_cons pe_int (pa_cons pe_int pa_nil))))))))))) pss_nil)
  (pss_cons (ps_if (pt_not (pt_val (C8.pe_c (c_is_generator T) hr (by first | decide | omega) (by rfl) (pa_cons (pe_ix (ixK (K := K)) (pv 2) pe_int (fun _ _ => rfl)) pa_nil)))) (pss_one (ps_ret pe_bl)) pss_nil)
  (pss_cons (ps_if (pt_cmpR (inK (K := K)) (pv 1) (pe_tup (pa_cons pe_str (pa_cons pe_str pa_nil))) (by rfl)) (pss_one (ps_ret (C8.pe_c (c_is_truth T) hr (by first | decide | omega) (by rfl) (pa_cons (pe_ix (ixK (K := K)) (pv 2) pe_int (fun _ _ => rfl)) pa_nil)))) pss_nil)
  (pss_cons (ps_if (pt_cmpR op_eq (pv 1) pe_str (by rfl)) (pss_one (ps_ret (pe_and (C8.pe_c (c_is_truth T) hr (by first | decide | omega) (by rfl) (pa_cons (pe_ix (ixK (K := K)) (pv 2) pe_int (fun _ _ => rfl)) pa_nil)) (pe_one (C8.pe_c (c_is_number T) hr (by first | decide | omega) (by rfl) (pa_cons (pe_ix (ixK (K := K)) (pv 2) pe_int (fun _ _ => rfl)) (pa_cons pe_int (pa_cons pe_int pa_nil)))))))) pss_nil)
  (pss_cons (ps_if (pt_cmpR op_eq (pv 1) pe_str (by rfl)) (pss_one (ps_ret (pe_and (C8.pe_c (c_is_bits T) hr (by first | decide | omega) (by rfl) (pa_cons (pe_ix (ixK (K := K)) (pv 2) pe_int (fun _ _ => rfl)) (pa_cons (pe_ix (ixK (K := K)) (pe_ix (ixK (K := K)) (pv 2) pe_int (fun _ _ => rfl)) pe_int (fun _ _ => rfl)) pa_nil))) (pe_and (C8.pe_c (c_is_truth T) hr (by first | decide | omega) (by rfl) (pa_cons (pe_ix (ixK (K := K)) (pv 2) pe_int (fun _ _ => rfl)) pa_nil)) (pe_one (C8.pe_c (c_is_number T) hr (by first | decide | omega) (by rfl) (pa_cons (pe_ix (ixK (K := K)) (pv 2) pe_int (fun _ _ => rfl)) (pa_cons pe_int (pa_cons pe_int pa_nil))))))))) pss_nil)
  (pss_one (ps_ret (pe_or (pe_cmpR op_ne (pv 1) pe_str (by rfl)) (pe_one (C8.pe_c (c_is_number T) hr (by first | decide | omega) (by rfl) (pa_cons (pe_ix (ixK (K := K)) (pv 2) pe_int (fun _ _ => rfl)) (pa_cons pe_int (pa_cons pe_int pa_nil)))))))))))))))), ?_⟩
  cases g with
  | gen n m rows real =>
    simp only [encGm, Gm.good] at hv G
    walk_at "go"
    refine r_slT hv rfl fun H1 u s1 hu => ?_
    walk_at "go"
    walk_at "iff"
    walk_at "iff"
    walk_at "new"; rename_i p np H2 s2 h2
    refine r_inT (ws := ["function", "marks", "secrets"]) (b := false) h2 (by decide +kernel) ?_
    walk_at "go"
    rename_i u2 hu2
    refine ⟨u2, rfl, .inl ⟨n, m, rows, hu2, G, fun H3 s3 => ?_⟩⟩
    walk_at "go"
    walk_at "new"; rename_i p4 np4 H4 s4 h4
    refine r_inT (ws := ["generator", "next"]) (b := true) h4 (by decide +kernel) ?_
    walk_at "go"
    exact ⟨real, rfl, q _ (((s1.trans s2).trans s3).trans s4)⟩
  | fn n l m tab real =>
    simp only [encGm, Gm.good] at hv G
    walk_at "go"
    refine r_slT hv rfl fun H1 u s1 hu => ?_
    walk_at "go"
    walk_at "iff"
    walk_at "iff"
    walk_at "new"; rename_i p np H2 s2 h2
    refine r_inT (ws := ["function", "marks", "secrets"]) (b := true) h2 (by decide +kernel) ?_
    walk_at "go"
    rename_i u2 hu2
    refine ⟨u2, n, l, m, tab, rfl, hu2, G, fun H3 s3 => ?_⟩
    walk_at "go"
    refine ⟨real, rfl, ?_⟩
    walk_at "go"
    refine ite_t (by decide +kernel) ?_
    exact q _ ((s1.trans s2).trans s3)
  | marks n l m tab real =>
    simp only [encGm, Gm.good] at hv G
    walk_at "go"
    refine r_slT hv rfl fun H1 u s1 hu => ?_
    walk_at "go"
    walk_at "iff"
    walk_at "iff"
    walk_at "new"; rename_i p np H2 s2 h2
    refine r_inT (ws := ["function", "marks", "secrets"]) (b := true) h2 (by decide +kernel) ?_
    walk_at "go"
    rename_i u2 hu2
    refine ⟨u2, n, l, m, tab, rfl, hu2, G, fun H3 s3 => ?_⟩
    walk_at "go"
    refine ⟨real, rfl, ?_⟩
    walk_at "go"
    refine ite_t (by decide +kernel) ?_
    exact q _ ((s1.trans s2).trans s3)
  | secrets n l m tab real b =>
    simp only [encGm, Gm.good] at hv G
    walk_at "go"
    refine r_slT hv rfl fun H1 u s1 hu => ?_
    walk_at "go"
    walk_at "iff"
    walk_at "iff"
    walk_at "new"; rename_i p np H2 s2 h2
    refine r_inT (ws := ["function", "marks", "secrets"]) (b := true) h2 (by decide +kernel) ?_
    walk_at "go"
    rename_i u2 hu2
    refine ⟨u2, n, l, m, tab, rfl, hu2, G, fun H3 s3 => ?_⟩
    walk_at "go"
    refine ⟨real, rfl, ?_⟩
    walk_at "go"
    refine ite_f (by decide +kernel) ?_
    walk_at "go"
    exact ⟨_, _, _, rfl, by cases b <;> decide, by cases b <;> decide, q _ ((s1.trans s2).trans s3)⟩
theorem c_check_game (T : Tx w K mg) : C8.Cal P w K mg base 5 "check_game" (spN 1 fun vs H Q _ => ∃ v, ∃ g : Gm, vs = [v] ∧ Td H (encGm g) v ∧ g.good ∧ ∀ H', Same H H' → Q .non H') [] := by
  refine mkFn T.fn_check_game sc_check_game (fun _ _ _ _ _ _ us hl => match us, hl with | [_], _ => rfl) (fun f cdv A outer s H vs Q E hr _ h => ?_)
  obtain ⟨v, g, rfl, hv, G, q⟩ := h
  refine ⟨_, (pss_cons (ps_if (PW.pt (pw_or (pt_not (pt_val (pe_callB (isiK (K := K)) (by rfl) T.f_isinstance bt_isinstance (pa_cons (pv 0) (pa_cons (pe_bltn (v := .ty "tuple") (by rfl) T.f_tuple bt_tuple rfl) pa_nil))))) (pw_or (pt_cmpR op_eq (pe_callB (lenK (K := K)) (by rfl) T.f_len bt_len (pa_cons (pv 0) pa_nil)) pe_int (by rfl)) (pw_or (pt_not (pt_val (pe_callB (isiK (K := K)) (by rfl) T.f_isinstance bt_isinstance (pa_cons (pe_ix (ixK (K := K)) (pv 0) pe_int (fun _ _ => rfl)) (pa_cons (pe_bltn (v := .ty "str") (by rfl) T.f_str bt_str rfl) pa_nil))))) (pw_or1 (pt_cmpR (notInD T.t_SIZES) (pe_ix (ixK (K := K)) (pv 0) pe_int (fun _ _ => rfl)) (C8.pe_gc (by rfl) T.k_SIZES) (by rfl))))))) (pss_one ps_never) pss_nil)
  (pss_one (ps_if (PW.pt (pw_or (pt_cmpR op_ne (pe_callB (lenK (K := K)) (by rfl) T.f_len bt_len (pa_cons (pv 0) pa_nil)) (pe_ix (ixDK (K := K) (w := w)) (C8.pe_gc (by rfl) T.k_SIZES) (pe_ix (ixK (K := K)) (pv 0) pe_int (fun _ _ => rfl)) (fun _ _ => rfl)) (by rfl)) (pw_or1 (pt_not (pt_val (C8.pe_c (c_is_right T) hr (by first | decide | omega) (by rfl) (pa_cons (pv 0) pa_nil))))))) (pss_one ps_never) pss_nil))), ?_⟩
  have hv0 := hv
  cases g with
  | gen n m rows real =>
    simp only [encGm] at hv
    walk_at "go"
    walk_at "iff"
    refine r_notInD T.t_SIZES (v := .int 3) (by simp) ?_
    walk_at "go"
    refine r_ixK (kdct T.t_SIZES (z := "generator") (v := .int 3) (by simp)) ?_
    walk_at "go"
    walk_at "iff"
    refine ⟨v, _, rfl, hv0, G, fun H1 s1 => ?_⟩
    walk_at "go"
    exact q _ s1
  | fn n l m tab real =>
    simp only [encGm] at hv
    walk_at "go"
    walk_at "iff"
    refine r_notInD T.t_SIZES (v := .int 3) (by simp) ?_
    walk_at "go"
    refine r_ixK (kdct T.t_SIZES (z := "function") (v := .int 3) (by simp)) ?_
    walk_at "go"
    walk_at "iff"
    refine ⟨v, _, rfl, hv0, G, fun H1 s1 => ?_⟩
    walk_at "go"
    exact q _ s1
  | marks n l m tab real =>
    simp only [encGm] at hv
    walk_at "go"
    walk_at "iff"
    refine r_notInD T.t_SIZES (v := .int 3) (by simp) ?_
    walk_at "go"
    refine r_ixK (kdct T.t_SIZES (z := "marks") (v := .int 3) (by simp)) ?_
    walk_at "go"
    walk_at "iff"
    refine ⟨v, _, rfl, hv0, G, fun H1 s1 => ?_⟩
    walk_at "go"
    exact q _ s1
  | secrets n l m tab real b =>
    simp only [encGm] at hv
    walk_at "go"
    walk_at "iff"
    refine r_notInD T.t_SIZES (v := .int 4) (by simp) ?_
    walk_at "go"
    refine r_ixK (kdct T.t_SIZES (z := "secrets") (v := .int 4) (by simp)) ?_
    walk_at "go"
    walk_at "iff"
    refine ⟨v, _, rfl, hv0, G, fun H1 s1 => ?_⟩
    walk_at "go"
    exact q _ s1
inductive Go where
  | tell | marks | secrets
def Go.word : Go → Str
  | .tell => "tell"
  | .marks => "marks"
  | .secrets => "secrets"
abbrev encGo (g : Go) (d n : Nat) : PyData := .tuple [.str g.word, encS d n]
theorem c_check_goal (T : Tx w K mg) : C8.Cal P w K mg base 7 "check_goal" (spN 2 fun vs H Q _ => ∃ v b n d rows, ∃ g : Go, vs = [v, b] ∧ Td H (encGo g d n) v ∧ Td H (encG n (n + 1) rows) b ∧ Sch n d rows ∧ ∀ H', Same H H' → Q .non H') [] := by
  refine mkFn T.fn_check_goal sc_check_goal (fun _ _ _ _ _ _ us hl => match us, hl with | [_, _], _ => rfl) (fun f cdv A outer s H vs Q E hr _ h => ?_)
  obtain ⟨v, b, n, d, rows, g, rfl, hv, hb, S, q⟩ := h
  refine ⟨_, (pss_cons (ps_expr (C8.pe_c (c_check_block T) hr (by first | decide | omega) (by rfl) (pa_cons (pv 1) pa_nil)))
  (pss_cons (ps_if (PW.pt (pw_or (pt_not (pt_val (pe_callB (isiK (K := K)) (by rfl) T.f_isinstance bt_isinstance (pa_cons (pv 0) (pa_cons (pe_bltn (v := .ty "tuple") (by rfl) T.f_tuple bt_tuple rfl) pa_nil))))) (pw_or (pt_cmpR op_eq (pe_callB (lenK (K := K)) (by rfl) T.f_len bt_len (pa_cons (pv 0) pa_nil)) pe_int (by rfl)) (pw_or (pt_not (pt_val (pe_callB (isiK (K := K)) (by rfl) T.f_isinstance bt_isinstance (pa_cons (pe_ix (ixK (K := K)) (pv 0) pe_int (fun _ _ => rfl)) (pa_cons (pe_bltn (v := .ty "str") (by rfl) T.f_str bt_str rfl) pa_nil))))) (pw_or1 (pt_cmpR (notInD T.t_GOALS) (pe_ix (ixK (K := K)) (pv 0) pe_int (fun _ _ => rfl)) (C8.pe_gc (by rfl) T.k_GOALS) (by rfl))))))) (pss_one ps_never) pss_nil)
  (pss_cons (ps_if (pt_cmpR op_ne (pe_callB (lenK (K := K)) (by rfl) T.f_len bt_len (pa_cons (pv 0) pa_nil)) (pe_ix (ixDK (K := K) (w := w)) (C8.pe_gc (by rfl) T.k_GOALS) (pe_ix (ixK (K := K)) (pv 0) pe_int (fun _ _ => rfl)) (fun _ _ => rfl)) (by rfl)) (pss_one ps_never) pss_nil)
  (pss_cons (ps_set (i := 2) sc_check_goal.nd rfl (by first | exact Or.inl rfl | exact Or.inr rfl) (pe_ix (ixK (K := K)) (C8.pe_c (c_tables_of T) hr (by first | decide | omega) (by rfl) (pa_cons (pe_ix (ixK (K := K)) (pv 0) (pe_un un_neg pe_int) (fun _ _ => rfl)) (pa_cons (pv 1) pa_nil))) (pe_un un_neg pe_int) (fun _ _ => rfl)))
  (pss_cons (ps_if (PW.pt (pw_and (pt_cmpR (inK (K := K)) (pe_ix (ixK (K := K)) (pv 0) pe_int (fun _ _ => rfl)) (pe_tup (pa_cons pe_str (pa_cons pe_str pa_nil))) (by rfl)) (pw_and1 (pt_cmpR op_ne (pe_ix (ixK (K := K)) (pv 2) pe_int (fun _ _ => rfl)) pe_str (by rfl))))) (pss_one ps_never) pss_nil)
  (pss_cons (ps_if (PW.pt (pw_and (pt_cmpR (inK (K := K)) (pe_ix (ixK (K := K)) (pv 0) pe_int (fun _ _ => rfl)) (pe_tup (pa_cons pe_str (pa_cons pe_str (pa_cons pe_str pa_nil)))) (by rfl)) (pw_and1 (pt_cmpR op_ne (pe_ix (ixK (K := K)) (pv 2) pe_int (fun _ _ => rfl)) pe_str (by rfl))))) (pss_one ps_never) pss_nil)
  (pss_one (ps_if (PW.pt (pw_and (pt_cmpR op_eq (pe_ix (ixK (K := K)) (pv 0) pe_int (fun _ _ => rfl)) pe_str (by rfl)) (pw_and1 (pt_not (pt_val (C8.pe_c (c_is_bits T) hr (by first | decide | omega) (by rfl) (pa_cons (pe_ix (ixK (K := K)) (pv 0) pe_int (fun _ _ => rfl)) (pa_cons (pe_ix (ixK (K := K)) (pv 2) pe_int (fun _ _ => rfl)) pa_nil)))))))) (pss_one ps_never) pss_nil)))))))), ?_⟩
  walk_at "go"
  refine ⟨b, rfl, .inl ⟨n, n + 1, rows, hb, S.G⟩, fun H1 s1 => ?_⟩
  walk_at "go"
  walk_at "iff"
  have hg : ∀ z, z = g.word → (z, V.int 2) ∈ ([("tell", .int 2), ("marks", .int 2), ("secrets", .int 2), ("once", .int 2), ("opening", .int 3), ("next", .int 2)] : List (Str × V)) := by
    intro z hz; subst hz; cases g <;> simp [Go.word]
  refine r_notInD T.t_GOALS (v := .int 2) (hg _ rfl) ?_
  walk_at "go"
  refine r_ixK (kdct T.t_GOALS (v := .int 2) (hg _ rfl)) ?_
  walk_at "go"
  walk_at "iff"
  refine r_ixDlast (hv.same s1) rfl fun u hu => ?_
  walk_at "go"
  refine ⟨u, b, n, d, rows, rfl, hu, hb.same s1, S, fun p u1 u2 H2 s2 np hp hu1 hu2 => ?_⟩
  walk_at "go"
  refine r_ixLlast hp rfl ?_
  walk_at "go"
  walk_at "new"; rename_i p3 np3 H3 s3 h3
  refine r_inT (ws := ["marks", "secrets"]) h3 rfl ?_
  walk_at "go"
  have fin : ∀ H4, Same H3 H4 → Q .non H4 := fun H4 s4 => q _ (((s1.trans s2).trans s3).trans s4)
  have key : ∀ (R : Bool → Hp → Prop), (∀ H4, Same H3 H4 → R false H4) → (if inV (.str g.word) (List.map V.str ["marks", "secrets"]) = true then
      tTest (tOp rNe (tOp (rIx K) (tVar 2) (tC (.int 0))) (tC (.str "function"))) [some v, some b, some u2] H3 R else R false H3) := by
    intro R hR
    cases g with
    | tell => refine ite_f (by decide +kernel) (hR _ (Same.refl _))
    | marks =>
      refine ite_t (by decide +kernel) ?_
      walk_at "go"
      exact hR _ (Same.refl _)
    | secrets =>
      refine ite_t (by decide +kernel) ?_
      walk_at "go"
      exact hR _ (Same.refl _)
  refine key _ fun H4 s4 => ?_
  walk_at "go"
  walk_at "new"; rename_i p5 np5 H5 s5 h5
  refine r_inT (ws := ["once", "opening", "next"]) (b := false) h5 (by cases g <;> decide +kernel) ?_
  walk_at "go"
  refine ite_f (by cases g <;> decide +kernel) ?_
  walk_at "go"
  exact fin _ (s4.trans s5)
theorem c_check_plain_schemes (T : Tx w K mg) : C8.Cal P w K mg base 8 "check_plain_schemes" (spN 3 fun vs H Q _ => ∃ v b vb n d rows, ∃ g : Go, ∃ br : Br, vs = [v, b, vb] ∧ Td H (encGo g d n) v ∧ Td H (encG n (n + 1) rows) b ∧ Sch n d rows ∧ Td H (encB br) vb ∧ (Mb.plain br).good ∧ ∀ H', Same H H' → Q .non H') [] := by
  refine mkFn T.fn_check_plain_schemes sc_check_plain_schemes (fun _ _ _ _ _ _ us hl => match us, hl with | [_, _, _], _ => rfl) (fun f cdv A outer s H vs Q E hr _ h => ?_)
  obtain ⟨v, b, vb, n, d, rows, g, br, rfl, hv, hb, S, hbr, hg, q⟩ := h
  refine ⟨_, (pss_cons (ps_expr (C8.pe_c (c_check_goal T) hr (by first | decide | omega) (by rfl) (pa_cons (pv 0) (pa_cons (pv 1) pa_nil))))
  (pss_cons (ps_expr (C8.pe_c (c_check_breaker T) hr (by first | decide | omega) (by rfl) (pa_cons (pv 2) pa_nil)))
  (pss_one (ps_if (pt_not (pt_val (C8.pe_c (c_is_plain T) hr (by first | decide | omega) (by rfl) (pa_cons (pv 2) pa_nil)))) (pss_one ps_never) pss_nil)))), ?_⟩
  walk_at "go"
  refine ⟨v, b, n, d, rows, g, rfl, hv, hb, S, fun H1 s1 => ?_⟩
  walk_at "go"
  refine ⟨vb, .plain br, rfl, hbr.same s1, hg, by simp [Mb.layers], fun H2 s2 => ?_⟩
  walk_at "go"
  refine ⟨vb, br, rfl, hbr.same (s1.trans s2), hg, fun H3 s3 => ?_⟩
  walk_at "go"
  exact q _ ((s1.trans s2).trans s3)
end
/-! Part A11: how a breaker is carried down. -/
open PySem PySem.Spec PyProof.Rows L2
def Go.num : Go → Nat
  | .tell => 1
  | .marks => 1
  | .secrets => 2
def firstM (g : Go) (l m : Nat) (b : Mb) : Mb := match g with
  | .tell => b
  | .marks => .marks l m b
  | .secrets => .secrets l m b
section
variable {P : Program} {w : World} {K : PySem.W.Frag} {mg : Str → Option Value} {base : Heap}
theorem c_first_made (T : Tx w K mg) : C8.Cal P w K mg base 1 "first_made" (spN 3 fun vs H Q _ => ∃ v t vb n d n' l m tab, ∃ g : Go, ∃ b : Mb, vs = [v, t, vb] ∧ Td H (encGo g d n) v ∧ Td H (encF n' l m tab) t ∧ Td H (encM b) vb ∧
    ∀ p u H', Same H H' → H' p = some (.tup [u, .int g.num]) → Td H' (encM (firstM g l m b)) u → Q (.ref p) H') [] := by
  refine mkFn T.fn_first_made sc_first_made (fun _ _ _ _ _ _ us hl => match us, hl with | [_, _, _], _ => rfl) (fun f cdv A outer s H vs Q E hr _ h => ?_)
  obtain ⟨v, t, vb, n, d, n', l, m, tab, g, b, rfl, hv, ht, hb, q⟩ := h
  refine ⟨_, (pss_cons (ps_set (i := 3) sc_first_made.nd rfl (by first | exact Or.inl rfl | exact Or.inr rfl) (pe_ix (ixK (K := K)) (pv 0) pe_int (fun _ _ => rfl)))
  (pss_cons (ps_if (PW.pt (pw_or (pt_cmpR op_eq (pv 3) pe_str (by rfl)) (pw_or1 (pt_cmpR op_eq (pv 3) pe_str (by rfl))))) (pss_one (ps_ret (pe_tup (pa_cons (pe_tup (pa_cons (pv 3) (pa_cons (pe_ix (ixK (K := K)) (pv 1) pe_int (fun _ _ => rfl)) (pa_cons (pe_ix (ixK (K := K)) (pv 1) pe_int (fun _ _ => rfl)) (pa_cons (pv 2) pa_nil))))) (pa_cons (pe_ifExp (pt_cmpR op_eq (pv 3) pe_str (by rfl)) pe_int pe_int) pa_nil))))) pss_nil)
  (pss_cons (ps_if (pt_cmpR op_eq (pv 3) pe_str (by rfl)) (pss_one (ps_ret (pe_tup (pa_cons (pe_tup (pa_cons pe_str (pa_cons (pe_ix (ixK (K := K)) (pv 1) pe_int (fun _ _ => rfl)) (pa_cons (pv 2) pa_nil)))) (pa_cons pe_int pa_nil))))) pss_nil)
  (pss_cons (ps_if (pt_cmpR op_eq (pv 3) pe_str (by rfl)) (pss_one (ps_ret (pe_tup (pa_cons (pe_tup (pa_cons pe_str (pa_cons (pe_ix (ixK (K := K)) (pv 0) pe_int (fun _ _ => rfl)) (pa_cons (pv 2) pa_nil)))) (pa_cons pe_int pa_nil))))) pss_nil)
  (pss_cons (ps_if (pt_cmpR op_eq (pv 3) pe_str (by rfl)) (pss_one (ps_ret (pe_tup (pa_cons (pe_tup (pa_cons pe_str (pa_cons (pe_ix (ixK (K := K)) (pv 1) pe_int (fun _ _ => rfl)) (pa_cons (pv 2) pa_nil)))) (pa_cons pe_int pa_nil))))) pss_nil)
  (pss_one (ps_ret (pe_tup (pa_cons (pv 2) (pa_cons pe_int pa_nil)))))))))), ?_⟩
  walk_at "go"
  cases g with
  | tell =>
    simp only [Go.word]
    walk_at "iff"
    walk_at "iff"
    walk_at "iff"
    walk_at "iff"
    walk_at "iff"
    walk_at "new"; rename_i p np H1 s1 h1
    exact q p vb _ s1 h1 (hb.same s1)
  | marks =>
    simp only [Go.word]
    walk_at "ift"
    walk_at "ift"
    walk_at "new"; rename_i p np H1 s1 h1
    walk_at "go"
    walk_at "ift"
    walk_at "new"; rename_i p2 np2 H2 s2 h2
    exact q p2 (.ref p) _ (s1.trans s2) h2 (td_tup (s2 _ _ h1) ⟨_, _, rfl, rfl, _, _, rfl, rfl, _, _, rfl, rfl, _, _, rfl, hb.same (s1.trans s2), rfl⟩)
  | secrets =>
    simp only [Go.word]
    walk_at "iff"
    walk_at "ift"
    walk_at "new"; rename_i p np H1 s1 h1
    walk_at "go"
    walk_at "iff"
    walk_at "new"; rename_i p2 np2 H2 s2 h2
    exact q p2 (.ref p) _ (s1.trans s2) h2 (td_tup (s2 _ _ h1) ⟨_, _, rfl, rfl, _, _, rfl, rfl, _, _, rfl, rfl, _, _, rfl, hb.same (s1.trans s2), rfl⟩)
/-- what carried makes, and its number -/
def carM (g : Go) (n d : Nat) (rows : List (List Bool)) (br : Br) : Mb :=
  .longer n (n + 1) rows n (.tree n (n + n) (long1 n rows) d (max 1 (firstM g d n (.plain br)).asks) (firstM g d n (.plain br)))
def carN (g : Go) (n d : Nat) (br : Br) : Nat := g.num * (turnsL d (max 1 (firstM g d n (.plain br)).asks)).sum * n
theorem firstM_good (g : Go) {n d : Nat} {b : Mb} (hb : b.good) (n1 : 1 ≤ n) (n2 : n ≤ 40) (d1 : 1 ≤ d) (d2 : d ≤ 40) : (firstM g d n b).good := by
  cases g with
  | tell => exact hb
  | marks => exact ⟨d1, d2, n1, n2, hb⟩
  | secrets => exact ⟨d1, d2, n1, n2, hb⟩
theorem turns_sum (d q : Nat) (hd : d ≤ 4) : (turnsL d q).sum ≤ 100 := by
  have h : ∀ l ∈ turnsL d q, l ≤ 8 := by
    intro l hl
    simp only [turnsL, List.mem_map, List.mem_range] at hl
    obtain ⟨i, hi, rfl⟩ := hl
    have : 2 ^ i ≤ 2 ^ 3 := pow_le (by omega)
    omega
  have h2 : ∀ l : List Nat, (∀ x ∈ l, x ≤ 8) → l.sum ≤ 8 * l.length := by
    intro l
    induction l with
    | nil => intro _; simp
    | cons x r ih =>
      intro hx
      have a := hx x (by simp)
      have b := ih (fun y hy => hx y (by simp [hy]))
      rw [List.sum_cons, List.length_cons]
      omega
  have h3 := h2 _ h
  have h4 : (turnsL d q).length = d := by simp [turnsL]
  omega
theorem c_carried (T : Tx w K mg) : C8.Cal P w K mg base 9 "carried" (spN 3 fun vs H Q _ => ∃ v b vb n d rows, ∃ g : Go, ∃ br : Br, vs = [v, b, vb] ∧ Td H (encGo g d n) v ∧ Td H (encG n (n + 1) rows) b ∧ Sch n d rows ∧ Td H (encB br) vb ∧ (Mb.plain br).good ∧ br.asks ≤ 100 ∧
    ∀ p u H', Same H H' → H' p = some (.tup [u, .int (carN g n d br)]) → Td H' (encM (carM g n d rows br)) u → Q (.ref p) H') [] := by
  refine mkFn T.fn_carried sc_carried (fun _ _ _ _ _ _ us hl => match us, hl with | [_, _, _], _ => rfl) (fun f cdv A outer s H vs Q E hr _ h => ?_)
  obtain ⟨v, b, vb, n, d, rows, g, br, rfl, hv, hb, S, hbr, hg, hba, q⟩ := h
  have n3 := S.n3
  have n1 := S.G.n1
  have d1 := S.d1
  have d4 := S.d4
  refine ⟨_, (pss_cons (ps_expr (C8.pe_c (c_check_plain_schemes T) hr (by first | decide | omega) (by rfl) (pa_cons (pv 0) (pa_cons (pv 1) (pa_cons (pv 2) pa_nil)))))
  (pss_cons (ps_set (i := 3) sc_carried.nd rfl (by first | exact Or.inl rfl | exact Or.inr rfl) (C8.pe_c (c_tables_of T) hr (by first | decide | omega) (by rfl) (pa_cons (pe_ix (ixK (K := K)) (pv 0) (pe_un un_neg pe_int) (fun _ _ => rfl)) (pa_cons (pv 1) pa_nil))))
  (pss_cons (ps_asg (C8.pe_c (c_first_made T) hr (by first | decide | omega) (by rfl) (pa_cons (pv 0) (pa_cons (pe_ix (ixK (K := K)) (pv 3) (pe_un un_neg pe_int) (fun _ _ => rfl)) (pa_cons (pv 2) pa_nil)))) (pgTK (K := K) (n := 2) rfl (pgs_cons (pg_name (i := 4) sc_carried.nd rfl (by first | exact Or.inl rfl | exact Or.inr rfl)) (pgs_cons (pg_name (i := 5) sc_carried.nd rfl (by first | exact Or.inl rfl | exact Or.inr rfl)) pgs_nil)) (hn := by rfl)))
  (pss_cons (ps_for PassesOwn.never rfl (piEnumK (K := K) (by rfl) T.f_enumerate (pa_cons (C8.pe_c (c_layers_of T) hr (by first | decide | omega) (by rfl) (pa_cons (pe_ix (ixK (K := K)) (pv 0) (pe_un un_neg pe_int) (fun _ _ => rfl)) pa_nil)) pa_nil)) (pgTK (K := K) (n := 2) rfl (pgs_cons (pg_name (i := 6) sc_carried.nd rfl (by first | exact Or.inl rfl | exact Or.inr rfl)) (pgs_cons (pgTK (K := K) (n := 2) rfl (pgs_cons (pg_name (i := 7) sc_carried.nd rfl (by first | exact Or.inl rfl | exact Or.inr rfl)) (pgs_cons (pg_name (i := 8) sc_carried.nd rfl (by first | exact Or.inl rfl | exact Or.inr rfl)) pgs_nil)) (hn := by rfl)) pgs_nil)) (hn := by rfl)) (pss_cons (ps_set (i := 9) sc_carried.nd rfl (by first | exact Or.inl rfl | exact Or.inr rfl) (pe_ix (ixK (K := K)) (pv 3) (pe_op op_sub (pe_op op_sub (pe_callB (lenK (K := K)) (by rfl) T.f_len bt_len (pa_cons (pv 3) pa_nil)) pe_int) (pv 6)) (fun _ _ => rfl)))
  (pss_one (ps_if (pt_cmpR op_eq (pv 7) pe_str (by rfl)) (pss_cons (ps_set (i := 4) sc_carried.nd rfl (by first | exact Or.inl rfl | exact Or.inr rfl) (pe_tup (pa_cons pe_str (pa_cons (pv 9) (pa_cons (pv 8) (pa_cons (pv 4) pa_nil))))))
  (pss_one (ps_set (i := 5) sc_carried.nd rfl (by first | exact Or.inl rfl | exact Or.inr rfl) (pe_op op_mul (pv 5) (pv 8))))) (pss_one (ps_if (pt_cmpR op_eq (pv 7) pe_str (by rfl)) (pss_cons (ps_set (i := 10) sc_carried.nd rfl (by first | exact Or.inl rfl | exact Or.inr rfl) (pe_callB (call_max2 rfl) (by rfl) T.f_max bt_max (pa_cons pe_int (pa_cons (C8.pe_c (c_most_asks T) hr (by first | decide | omega) (by rfl) (pa_cons (pv 4) pa_nil)) pa_nil))))
  (pss_cons (ps_set (i := 4) sc_carried.nd rfl (by first | exact Or.inl rfl | exact Or.inr rfl) (pe_tup (pa_cons pe_str (pa_cons (pv 9) (pa_cons (pv 8) (pa_cons (pv 10) (pa_cons (pv 4) pa_nil)))))))
  (pss_one (ps_set (i := 5) sc_carried.nd rfl (by first | exact Or.inl rfl | exact Or.inr rfl) (pe_op op_mul (pv 5) (pe_callB (sumK (K := K) rfl) (by rfl) T.f_sum bt_sum (pa_cons (C8.pe_c (c_tree_turns T) hr (by first | decide | omega) (by rfl) (pa_cons (pv 8) (pa_cons (pv 10) pa_nil))) pa_nil))))))) (pss_one (ps_if (pt_cmpR op_eq (pv 7) pe_str (by rfl)) (pss_one (ps_set (i := 4) sc_carried.nd rfl (by first | exact Or.inl rfl | exact Or.inr rfl) (pe_tup (pa_cons pe_str (pa_cons (pe_ix (ixK (K := K)) (pv 9) pe_int (fun _ _ => rfl)) (pa_cons (pv 8) (pa_cons (pe_ix (ixK (K := K)) (pv 9) pe_int (fun _ _ => rfl)) (pa_cons (pv 4) pa_nil)))))))) (pss_one (ps_set (i := 4) sc_carried.nd rfl (by first | exact Or.inl rfl | exact Or.inr rfl) (pe_tup (pa_cons pe_str (pa_cons (pv 8) (pa_cons (pv 4) pa_nil))))))))))))))
  (pss_one (ps_ret (pe_tup (pa_cons (pv 4) (pa_cons (pv 5) pa_nil))))))))), ?_⟩
  walk_at "go"
  refine ⟨v, b, vb, n, d, rows, g, br, rfl, hv, hb, S, hbr, hg, fun H1 s1 => ?_⟩
  walk_at "go"
  refine r_ixDlast (hv.same s1) rfl fun u hu => ?_
  walk_at "go"
  refine ⟨u, b, n, d, rows, rfl, hu, hb.same s1, S, fun p u1 u2 H2 s2 np hp hu1 hu2 => ?_⟩
  walk_at "go"
  refine r_ixLlast hp rfl ?_
  walk_at "go"
  refine ⟨v, u2, vb, n, d, n, d, n, _, g, .plain br, rfl, hv.same (s1.trans s2), hu2, hbr.same (s1.trans s2), fun p3 u3 H3 s3 h3 hu3 => ?_⟩
  walk_at "go"
  refine r_gTup (SqT.of h3) rfl ?_
  walk_at "go"
  refine r_ixDlast (hv.same ((s1.trans s2).trans s3)) rfl fun u4 hu4 => ?_
  walk_at "go"
  refine ⟨_, _, _, rfl, hu4, fun l a c H4 s4 nl hl ha hc => ?_⟩
  walk_at "go"
  refine ⟨l, _, rfl, SqL.of hl, ?_⟩
  have hp4 := s4 _ _ (s3 _ _ hp)
  have s14 := (s1.trans s2).trans (s3.trans s4)
  have hfg := firstM_good g (n := n) (d := d) hg n1 (by omega) d1 (by omega)
  have hfa : (firstM g d n (.plain br)).asks ≤ 101 := by cases g <;> simp [firstM, Mb.asks] <;> omega
  have hfl : (firstM g d n (.plain br)).layers ≤ 1 := by cases g <;> simp [firstM, Mb.layers]
  refine for_it (walk_enum (xs := [.ref a, .ref c])) (fun i σ H5 => ∃ mu N y6 y7 y8 y9 y10, σ = [some v, some b, some vb, some (.ref p), some mu, some (.int N), y6, y7, y8, y9, y10] ∧ Same H4 H5 ∧
    ((i = 0 ∧ N = g.num ∧ Td H5 (encM (firstM g d n (.plain br))) mu) ∨ (i = 1 ∧ N = ((g.num * (turnsL d (max 1 (firstM g d n (.plain br)).asks)).sum : Nat) : Int) ∧ Td H5 (encM (.tree n (n + n) (long1 n rows) d (max 1 (firstM g d n (.plain br)).asks) (firstM g d n (.plain br)))) mu) ∨
     (i = 2 ∧ N = (carN g n d br : Nat) ∧ Td H5 (encM (carM g n d rows br)) mu)))
    ⟨u3, _, none, none, none, none, none, rfl, Same.refl _, .inl ⟨rfl, rfl, hu3.same s4⟩⟩ (fun i σ H5 _ hp => ?_) (fun i x σ H5 H6 hi hp hy => ?_) (fun σ H5 hp => ?_)
  · obtain ⟨_, _, _, _, _, _, _, rfl, s5, _⟩ := hp
    exact SqL.of (s5 _ _ hl)
  · obtain ⟨mu, N, y6, y7, y8, y9, y10, rfl, s5, hp'⟩ := hp
    obtain ⟨Tt, x1, x2, rfl, nT, rfl, hx1, hx2⟩ := hy
    obtain rfl : V.int (i : Nat) = x1 := Option.some.inj hx1
    have s6 : Same H5 (upd H5 Tt (.tup [.int (i : Nat), x2])) := same_upd nT
    have hT6 : upd H5 Tt (.tup [.int (i : Nat), x2]) Tt = some (.tup [.int (i : Nat), x2]) := upd_same
    generalize upd H5 Tt (.tup [.int (i : Nat), x2]) = H6 at s6 hT6
    have s46 := s5.trans s6
    have hp6 := s46 _ _ hp4
    rcases hp' with ⟨rfl, rfl, hmu⟩ | ⟨rfl, rfl, hmu⟩ | ⟨rfl, _⟩
    · obtain rfl : V.ref a = x2 := Option.some.inj hx2
      refine r_gTup (SqT.of hT6) rfl ?_
      walk_at "go"
      refine r_gTup (SqT.of (s46 _ _ ha)) rfl ?_
      walk_at "go"
      refine r_ixL (by simp) hp6 rfl ?_
      walk_at "go"
      walk_at "iff"
      walk_at "ift"
      refine ⟨mu, _, rfl, hmu.same s6, hfg, by omega, fun H7 s7 => ?_⟩
      walk_at "go"
      have emx : (if ((firstM g d n (.plain br)).asks : Int) > 1 then ((firstM g d n (.plain br)).asks : Int) else 1) = ((max 1 (firstM g d n (.plain br)).asks : Nat) : Int) := by split <;> omega
      rw [emx]
      walk_at "new"; rename_i p8 np8 H8 s8 h8
      walk_at "go"
      refine ⟨d, _, rfl, by omega, fun p9 H9 s9 np9 h9 => ?_⟩
      walk_at "go"
      refine ⟨p9, (turnsL d (max 1 (firstM g d n (.plain br)).asks)).map fun x : Nat => (x : Int), rfl, SqL.of (by rw [h9, List.map_map]; rfl), ?_⟩
      have esum : ∀ l : List Nat, (l.map fun x : Nat => (x : Int)).sum = ((l.sum : Nat) : Int) := by
        intro l; induction l with
        | nil => rfl
        | cons x r ih => rw [List.map_cons, List.sum_cons, List.sum_cons, ih]; simp
      rw [esum]
      have hts := turns_sum d (max 1 (firstM g d n (.plain br)).asks) d4
      have hgn : g.num ≤ 2 := by cases g <;> decide
      refine r_I (Or.inl ⟨by omega, by omega⟩) ?_
      walk_at "go"
      have s69 := (s7.trans s8).trans s9
      exact ⟨_, _, _, _, _, _, _, rfl, s46.trans s69, .inr (.inl ⟨rfl, by simp, td_tup (s9 _ _ h8) ⟨_, _, rfl, rfl, _, _, rfl, hu1.same (((s3.trans s4).trans s46).trans s69), _, _, rfl, rfl, _, _, rfl, rfl, _, _, rfl, hmu.same (s6.trans s69), rfl⟩⟩)⟩
    · obtain rfl : V.ref c = x2 := Option.some.inj hx2
      refine r_gTup (SqT.of hT6) rfl ?_
      walk_at "go"
      refine r_gTup (SqT.of (s46 _ _ hc)) rfl ?_
      walk_at "go"
      refine r_ixL (by simp) hp6 rfl ?_
      walk_at "go"
      walk_at "ift"
      walk_at "new"; rename_i p8 np8 H8 s8 h8
      walk_at "go"
      exact ⟨_, _, _, _, _, _, _, rfl, s46.trans s8, .inr (.inr ⟨rfl, by simp [carN], td_tup h8 ⟨_, _, rfl, rfl, _, _, rfl, hb.same ((s14.trans s46).trans s8), _, _, rfl, rfl, _, _, rfl, hmu.same (s6.trans s8), rfl⟩⟩)⟩
    · exact absurd hi (by simp)
  · obtain ⟨mu, N, y6, y7, y8, y9, y10, rfl, s5, hp'⟩ := hp
    rcases hp' with ⟨h, _⟩ | ⟨h, _⟩ | ⟨_, rfl, hmu⟩
    · exact absurd h (by simp)
    · exact absurd h (by simp)
    · walk_at "go"
      walk_at "new"; rename_i p8 np8 H8 s8 h8
      exact q p8 mu _ ((s14.trans s5).trans s8) h8 (hmu.same s8)
end
/-! Part B4: zip of two texts. -/
open PySem PySem.Spec PyProof.Rows L2
def Itzs (x y : Str) : It := ⟨fun i _ => i < min x.cps.size y.cps.size,
  fun i H v H' => ∃ T c d, v = .ref T ∧ H T = none ∧ H' = upd H T (.tup [.str ⟨#[c]⟩, .str ⟨#[d]⟩]) ∧ x.cps[i]? = some c ∧ y.cps[i]? = some d, fun i _ => i = min x.cps.size y.cps.size⟩
theorem turn_zipS {P : Program} {w : World} {K : PySem.W.Frag} {elts : List Expr} {kk : Nat} {tpos : Pos} {z TI TO i1 i2 : Addr} (S : ZipSep2 z TI TO i1 i2 [i1] [i2]) (x y : Str) (t1 t2 : Tok) :
    Turn P w K (.Tuple elts kk tpos) (Itzs x y) (z :: TI :: TO :: ([i1] ++ [i2])) z (fun i h => IsZip h z TI TO .none ∧ IsTupOf2 h TI (.ref i1) (.ref i2) ∧ (∃ a b, IsTupOf2 h TO a b) ∧ h.IsStrIter i1 (strIterType x) x t1 i ∧ h.IsStrIter i2 (strIterType y) y t2 i) where
  mem := by simp
  obj := fun i h st c hc => by
    obtain ⟨hz, hTI, ⟨a, b, hTO⟩, ⟨o1, e1, _, d1⟩, ⟨o2, e2, _, d2⟩⟩ := st
    have e' : c = z ∨ c = TI ∨ c = TO ∨ c = i1 ∨ c = i2 := by simpa using hc
    rcases e' with q | q | q | q | q
    · rw [q]; exact ⟨_, hz, fun v q => nomatch q⟩
    · rw [q]; exact ⟨_, hTI, fun v q => nomatch q⟩
    · rw [q]; exact ⟨_, hTO, fun v q => nomatch q⟩
    · rw [q]; exact ⟨o1, e1, fun v q => by rw [d1] at q; cases q⟩
    · rw [q]; exact ⟨o2, e2, fun v q => by rw [d2] at q; cases q⟩
  keep := fun i h h' st k => by
    obtain ⟨hz, hTI, ⟨a, b, hTO⟩, ⟨o1, e1, r1⟩, ⟨o2, e2, r2⟩⟩ := st
    exact ⟨k z (by simp) _ hz, k TI (by simp) _ hTI, ⟨a, b, k TO (by simp) _ hTO⟩, ⟨o1, k i1 (by simp) _ e1, r1⟩, ⟨o2, k i2 (by simp) _ e2, r2⟩⟩
  item := by
    intro X hP hw hK hc i pins s σ H E I hf st hg
    subst hP hw hK
    have W := WalksT.zipD2 (A := X.A) S (Draws.text (prog := X.prog) (w := X.w) (A := X.A.in1) (I.ok.hd hc) i1 x t1) (Draws.text (prog := X.prog) (w := X.w) (A := X.A.in1) (I.ok.hd hc) i2 y t2)
    refine W.item i s _ _ hg st fun T vals h' tk hP hle hT hM hk => ⟨_, rfl, W.go elts kk tpos i T _ _ _ hM fun h'' st'' hk2 => ?_⟩
    obtain ⟨u, v, ⟨c, k1, hc1, rfl⟩, ⟨d, k2, hd1, rfl⟩, rfl⟩ := hP
    have hTw := W.apart i T h' hM
    obtain ⟨ot, hot, ht1, ht2⟩ := id hT
    have hT2 : h''.IsTuple T #[.str ⟨#[c]⟩ k1, .str ⟨#[d]⟩ k2] := ⟨ot, hk2 _ _ hTw hot, ht1, ht2⟩
    have hf2 : ∀ b ∈ ([z, TO, i1, i2] : List Addr), FpOk X pins H b := fun b hb => hf b (W.sub b hb)
    have new : ObjOk X.prog X.w (upd H T (.tup [.str ⟨#[c]⟩, .str ⟨#[d]⟩])) h'' T (.tup [.str ⟨#[c]⟩, .str ⟨#[d]⟩]) :=
      ⟨by show 2 ≤ sizeLine; decide, [.str ⟨#[c]⟩ k1, .str ⟨#[d]⟩ k2], .cons ⟨k1, rfl⟩ (.cons ⟨k2, rfl⟩ .nil), hT2⟩
    have I1 : Inv X pins σ (upd H T (.tup [.str ⟨#[c]⟩, .str ⟨#[d]⟩])) { s with heap := h'', toks := tk } :=
      I.turnedNew (t' := tk) (ch := [z, TO, i1, i2]) (fun b o hb e => hk2 b o hb (hk b o hb e)) hf2 hle new
    refine ⟨.ref T, _, I1, rfl, ⟨T, c, d, rfl, I.hok.fresh hle, rfl, hc1, hd1⟩, st'', fun b hb => ?_⟩
    have hne : b ≠ T := fun q => by
      subst q
      have hb2 := hb
      have : b ∈ ([z, TI, TO, i1, i2] : List Addr) := by simpa using hb
      obtain ⟨hz, hTI, ⟨a0, b0, hTO⟩, ⟨o1, e1, _⟩, ⟨o2, e2, _⟩⟩ := st
      have e' : b = z ∨ b = TI ∨ b = TO ∨ b = i1 ∨ b = i2 := by simpa using hb
      have hlt : b < s.heap.objs.size := by
        rcases e' with q | q | q | q | q
        · rw [q]; exact Heap.lt_size hz
        · rw [q]; exact Heap.lt_size hTI
        · rw [q]; exact Heap.lt_size hTO
        · rw [q]; exact Heap.lt_size e1
        · rw [q]; exact Heap.lt_size e2
      exact absurd hlt (Nat.not_lt.mpr hle)
    rw [upd_ne hne]
    exact (hf b hb).1
  done := by
    intro X hP hw hK hc i pins s σ H E I hf st hg
    subst hP hw hK
    have W := WalksT.zipD2 (A := X.A) S (Draws.text (prog := X.prog) (w := X.w) (A := X.A.in1) (I.ok.hd hc) i1 x t1) (Draws.text (prog := X.prog) (w := X.w) (A := X.A.in1) (I.ok.hd hc) i2 y t2)
    obtain rfl : i = min x.cps.size y.cps.size := hg
    exact W.done s _ _ st fun h' tk hk => ⟨rfl, I.turnedL (t' := tk) (ch := [z, TO, i1, i2]) (fun b o hb e => hk b o hb e) fun b hb => hf b (W.sub b hb)⟩
  self := fun A i s Q E st h => wpAny_pyIter_zip st.1 h
def iZipS (ta : TA) : TI := fun σ H R => ta σ H fun vs H1 => ∃ x y, vs = [.str x, .str y] ∧ R (Itzs x y) H1
theorem pi_zipS {X : Cx} {e e2 : Expr} {ta : TA} {p pos tpos : Pos} {elts : List Expr} {kk : Nat} (hg : Gl X "zip") (hm : X.mg "zip" = none) (ha : PA X [e, e2] ta)
    (hs : starEach [e, e2] X.env = (false, eval e X.env) :: starEach [e2] X.env := by rfl) (hpl : (backTo pos (starEach [e2] X.env)).any (·.1) = false := by rfl) :
    PI X (.Tuple elts kk tpos) (.Call (.Name "zip" p) [e, e2] [] pos) (iZipS ta) := by
  refine ⟨fun pins s σ H R I h => ?_⟩
  refine Call_ (ld_blt I hg hm PyProof.Rows.boot_zip (PyProof.Rows.callWith_type1 (thn (ha.run pos pins s σ H _ I h) fun us s1 ⟨vs, H1, I1, r1, q1⟩ => ?_) hs hpl))
  obtain ⟨x, y, ex, q⟩ := q1
  subst ex
  cases r1 with
  | cons r rr =>
    cases rr with
    | cons r' rr =>
      cases rr
      obtain ⟨t1, rfl⟩ := r
      obtain ⟨t2, rfl⟩ := r'
      have fresh5 : ∀ c, c ∈ [s1.heap.objs.size + 4, s1.heap.objs.size + 2, s1.heap.objs.size + 3, s1.heap.objs.size, s1.heap.objs.size + 1] → FpOk X pins H1 c := fun c hcm => by
        have e' : c = s1.heap.objs.size + 4 ∨ c = s1.heap.objs.size + 2 ∨ c = s1.heap.objs.size + 3 ∨ c = s1.heap.objs.size ∨ c = s1.heap.objs.size + 1 := by simpa using hcm
        have hle : s1.heap.objs.size ≤ c := by
          rcases e' with z | z | z | z | z
          · rw [z]; exact Nat.le_add_right _ _
          · rw [z]; exact Nat.le_add_right _ _
          · rw [z]; exact Nat.le_add_right _ _
          · rw [z]; exact Nat.le_refl _
          · rw [z]; exact Nat.le_add_right _ _
        exact I1.fpOk hle (I1.hok.fresh hle)
      refine zip_begins2 (begins_text x t1) (begins_text y t2) trivial trivial fun h' hz hTI hTO h1 h2 hsz hk => wpAny_pyIter_zip hz ?_
      have I2 : Inv X pins σ H1 { s1 with heap := h' } := I1.kept (t' := s1.toks) hk
      exact ⟨s1.heap.objs.size + 4, _, _, _, H1, rfl, I2, turn_zipS (zip_sep2 (N := s1.heap.objs.size) (fp1 := []) (fp2 := []) (by simp) (by simp)) x y t1 t2, ⟨hz, hTI, ⟨_, _, hTO⟩, ⟨_, h1, rfl, rfl⟩, ⟨_, h2, rfl, rfl⟩⟩, fresh5, q⟩
theorem r_iZipS {ta : TA} {σ : L2.St} {H : Hp} {R : It → Hp → Prop} (h : ta σ H fun vs H1 => ∃ x y, vs = [.str x, .str y] ∧ R (Itzs x y) H1) : iZipS ta σ H R := h
/-! Part A12: draws, the tape. -/
open PySem PySem.Spec PyProof.Rows L2
/-- what draws -/
inductive Dr (α : Type) where
  | ret (a : α)
  | draw (m : Nat) (k : Nat → Dr α)
namespace Dr
variable {α β γ : Type}
def bind : Dr α → (α → Dr β) → Dr β
  | ret a, f => f a
  | draw m k, f => draw m fun i => (k i).bind f
/-- one play with told choices; none: a choice is not below, or there are very many draws -/
def exec (cs : List Nat) : Dr α → List (Nat × Nat) → Option (α × List (Nat × Nat))
  | ret a, ds => some (a, ds)
  | draw m k, ds => if cs.getD ds.length 0 < m ∧ ds.length < 1000 then exec cs (k (cs.getD ds.length 0)) (ds ++ [(cs.getD ds.length 0, m)]) else none
theorem exec_bind (cs : List Nat) (f : α → Dr β) : ∀ (d : Dr α) (ds : List (Nat × Nat)), exec cs (d.bind f) ds = (exec cs d ds).bind fun r => exec cs (f r.1) r.2
  | ret a, ds => rfl
  | draw m k, ds => by
    show (if _ then exec cs ((k _).bind f) _ else none) = Option.bind (if _ then _ else none) _
    by_cases h : cs.getD ds.length 0 < m ∧ ds.length < 1000
    · rw [if_pos h, if_pos h, exec_bind cs f]
    · rw [if_neg h, if_neg h]; rfl
theorem exec_bindE {cs : List Nat} {f : α → Dr β} {d : Dr α} {ds ds2 : List (Nat × Nat)} {b : β} (h : exec cs (d.bind f) ds = some (b, ds2)) : ∃ a ds1, exec cs d ds = some (a, ds1) ∧ exec cs (f a) ds1 = some (b, ds2) := by
  rw [exec_bind] at h
  cases e : exec cs d ds with
  | none => rw [e] at h; cases h
  | some r => rw [e] at h; exact ⟨r.1, r.2, rfl, h⟩
theorem exec_drawE {cs : List Nat} {m : Nat} {k : Nat → Dr α} {ds ds2 : List (Nat × Nat)} {b : α} (h : exec cs (draw m k) ds = some (b, ds2)) :
    cs.getD ds.length 0 < m ∧ ds.length < 1000 ∧ exec cs (k (cs.getD ds.length 0)) (ds ++ [(cs.getD ds.length 0, m)]) = some (b, ds2) := by
  simp only [exec] at h
  by_cases c : cs.getD ds.length 0 < m ∧ ds.length < 1000
  · rw [if_pos c] at h; exact ⟨c.1, c.2, h⟩
  · rw [if_neg c] at h; cases h
theorem exec_retE {cs : List Nat} {a b : α} {ds ds2 : List (Nat × Nat)} (h : exec cs (ret a) ds = some (b, ds2)) : a = b ∧ ds = ds2 := by
  have := Option.some.inj h
  exact ⟨congrArg Prod.fst this, congrArg Prod.snd this⟩
end Dr
def strD (l : Nat) : Dr (List Bool) := .draw (2 ^ l) fun c => .ret (bitsL l c)
/-! ### the frame of what draws -/
def Fix : HO → Prop
  | .lst _ => False
  | .dK _ => False
  | .dT _ => False
  | _ => True
structure Fr (D : List Addr) (H H' : Hp) : Prop where
  keep : ∀ b o, b ∉ D → H b = some o → H' b = some o
  fix : ∀ b o, Fix o → H b = some o → H' b = some o
theorem Fr.refl {D : List Addr} (H : Hp) : Fr D H H := ⟨fun _ _ _ h => h, fun _ _ _ h => h⟩
theorem Fr.trans {D : List Addr} {H H1 H2 : Hp} (a : Fr D H H1) (b : Fr D H1 H2) : Fr D H H2 := ⟨fun c o hc h => b.keep c o hc (a.keep c o hc h), fun c o hc h => b.fix c o hc (a.fix c o hc h)⟩
theorem Fr.of {D : List Addr} {H H1 : Hp} (a : Same H H1) : Fr D H H1 := ⟨fun c o _ h => a c o h, fun c o _ h => a c o h⟩
theorem Fr.mono {D D' : List Addr} {H H1 : Hp} (a : Fr D H H1) (h : ∀ b ∈ D, b ∈ D') : Fr D' H H1 := ⟨fun c o hc e => a.keep c o (fun z => hc (h c z)) e, a.fix⟩
theorem Fr.ext {D : List Addr} {H H1 : Hp} (a : Fr D H H1) : Ext D H H1 := ⟨a.keep, fun b xs e => a.fix b _ trivial e⟩
theorem Fr.td {D : List Addr} {H H' : Hp} (e : Fr D H H') {d : PyData} {v : V} (h : Td H d v) : Td H' d v := Td.ext e.ext h
theorem Fr.put {D : List Addr} {H : Hp} {p : Addr} {o u : HO} (hp : p ∈ D) (h : H p = some u) (hu : ¬ Fix u) : Fr D H (upd H p o) :=
  ⟨fun b x hb e => by rw [upd_ne (fun z => hb (by rw [z]; exact hp))]; exact e, fun b x hx e => by
    rw [upd_ne (fun z => by subst z; rw [h] at e; cases e; exact hu hx)]; exact e⟩
/-- what was not there may change -/
theorem Fr.new {D : List Addr} {H H0 H1 : Hp} {p : Addr} {o : HO} (a : Fr D H0 H) (h : H0 p = none) (e : upd H p o = H1) : Fr D H0 H1 := by
  subst e
  exact ⟨fun b x hb e => by rw [upd_ne (ne_of_none e h)]; exact a.keep b x hb e, fun b x hx e => by rw [upd_ne (ne_of_none e h)]; exact a.fix b x hx e⟩
/-- what was not there at the start may stand in D -/
theorem Fr.drop {D D' : List Addr} {H0 H : Hp} (a : Fr D H0 H) (h : ∀ b ∈ D, b ∉ D' → H0 b = none) : Fr D' H0 H :=
  ⟨fun b o hb e => Classical.byCases (fun z : b ∈ D => by rw [h b z hb] at e; cases e) (fun z => a.keep b o z e), a.fix⟩
/-- the frame of an __init__: all but a and D -/
structure FrB (a : Addr) (D : List Addr) (H H' : Hp) : Prop where
  keep : ∀ b o, b ≠ a → b ∉ D → H b = some o → H' b = some o
  fix : ∀ b o, b ≠ a → Fix o → H b = some o → H' b = some o
theorem FrB.refl {a : Addr} {D : List Addr} (H : Hp) : FrB a D H H := ⟨fun _ _ _ _ h => h, fun _ _ _ _ h => h⟩
theorem FrB.trans {a : Addr} {D : List Addr} {H H1 H2 : Hp} (f : FrB a D H H1) (g : FrB a D H1 H2) : FrB a D H H2 := ⟨fun c o hc hd h => g.keep c o hc hd (f.keep c o hc hd h), fun c o hc hd h => g.fix c o hc hd (f.fix c o hc hd h)⟩
theorem FrB.of {a : Addr} {D : List Addr} {H H1 : Hp} (f : Fr D H H1) : FrB a D H H1 := ⟨fun c o _ hd h => f.keep c o hd h, fun c o _ hd h => f.fix c o hd h⟩
theorem FrB.sm {a : Addr} {D : List Addr} {H H1 : Hp} (f : Same H H1) : FrB a D H H1 := .of (.of f)
theorem FrB.mono {a : Addr} {D D' : List Addr} {H H1 : Hp} (f : FrB a D H H1) (h : ∀ b ∈ D, b ∈ D') : FrB a D' H H1 := ⟨fun c o hc hd e => f.keep c o hc (fun z => hd (h c z)) e, f.fix⟩
theorem FrB.put {a : Addr} {D : List Addr} {H H1 : Hp} {o : HO} (e : upd H a o = H1) : FrB a D H H1 := by
  subst e
  exact ⟨fun c o hc hd h => by rw [upd_ne hc]; exact h, fun c o hc hd h => by rw [upd_ne hc]; exact h⟩
theorem FrB.fr {x dx : Addr} {D : List Addr} {H H1 : Hp} {u v : HO} (f : FrB x D (upd (upd H dx u) x v) H1) (h1 : H x = none) (h2 : H dx = none) : Fr D H H1 :=
  ⟨fun b o hb e => f.keep b o (ne_of_none e h1) hb (by rw [upd_ne (ne_of_none e h1), upd_ne (ne_of_none e h2)]; exact e),
   fun b o hb e => f.fix b o (ne_of_none e h1) hb (by rw [upd_ne (ne_of_none e h1), upd_ne (ne_of_none e h2)]; exact e)⟩
theorem putI {H H1 : Hp} {a C dx : Addr} {fs fs' : List (Str × V)} {f : Str} {y : V} (e : upd H a (.ins C dx (putF f y fs)) = H1) (e2 : putF f y fs = fs') : FrB a [] H H1 ∧ H1 a = some (.ins C dx fs') := by
  subst e2
  exact ⟨FrB.put e, by rw [← e]; exact upd_same⟩
theorem sameGet {H H' : Hp} {a : Addr} {o : HO} (s : Same H H') (h : H a = some o) : H' a = some o := s _ _ h
theorem frIns {H H' : Hp} {a C dx : Addr} {D : List Addr} {fs : List (Str × V)} (s : Fr D H H') (h : H a = some (.ins C dx fs)) : H' a = some (.ins C dx fs) := s.fix _ _ trivial h
theorem frTup {H H' : Hp} {a : Addr} {D : List Addr} {xs : List V} (s : Fr D H H') (h : H a = some (.tup xs)) : H' a = some (.tup xs) := s.fix _ _ trivial h
theorem r_st1 {K : PySem.W.Frag} {a C dx : Addr} {fs : List (Str × V)} {f : Str} {y : V} {H : Hp} {R : Hp → Prop} (h : H a = some (.ins C dx fs)) (c : Cls K C) (n : NoAttr K C f) (hl : fs.length < 1000) (q : ∀ H1, upd H a (.ins C dx (putF f y fs)) = H1 → R H1) :
    ∃ a' C dx fs, V.ref a = .ref a' ∧ H a' = some (.ins C dx fs) ∧ Cls K C ∧ NoAttr K C f ∧ fs.length < 1000 ∧ R (upd H a' (.ins C dx (putF f y fs))) := ⟨a, C, dx, fs, rfl, h, c, n, hl, q _ rfl⟩
theorem r_mt1 {a C dx : Addr} {fs : List (Str × V)} {m : Str} {H : Hp} {R : Prop} (h : H a = some (.ins C dx fs)) (l : fs.lookup m = none) (q : R) :
    ∃ a' dx fs, V.ref a = .ref a' ∧ H a' = some (.ins C dx fs) ∧ fs.lookup m = none ∧ R := ⟨a, dx, fs, rfl, h, l, q⟩
/-- the tape: its place, its list of choices, its list of draws -/
structure Tp where
  t : Addr
  lc : Addr
  ld : Addr
def pairD (p : Nat × Nat) : PyData := .tuple [.int p.1, .int p.2]
structure TapeR (K : PySem.W.Frag) (τ : Tp) (cs : List Nat) (ds : List (Nat × Nat)) (H : Hp) : Prop where
  ne : τ.lc ≠ τ.ld
  ins : ∃ dx, H τ.t = some (.ins (aTape K) dx [("choices", .ref τ.lc), ("draws", .ref τ.ld)])
  lc : H τ.lc = some (.lst (cs.map fun c : Nat => V.int c))
  ld : ∃ vs, H τ.ld = some (.lst vs) ∧ TdL H (ds.map pairD) vs
theorem TapeR.fr {K : PySem.W.Frag} {τ : Tp} {cs : List Nat} {ds : List (Nat × Nat)} {H H' : Hp} {D : List Addr} (h : TapeR K τ cs ds H) (f : Fr D H H') (h1 : τ.lc ∉ D) (h2 : τ.ld ∉ D) : TapeR K τ cs ds H' := by
  obtain ⟨dx, hi⟩ := h.ins
  obtain ⟨vs, hl, hv⟩ := h.ld
  exact ⟨h.ne, ⟨dx, f.fix _ _ trivial hi⟩, f.keep _ _ h1 h.lc, vs, f.keep _ _ h2 hl, TdL.ext f.ext hv⟩
theorem TapeR.same {K : PySem.W.Frag} {τ : Tp} {cs : List Nat} {ds : List (Nat × Nat)} {H H' : Hp} (h : TapeR K τ cs ds H) (f : Same H H') : TapeR K τ cs ds H' := h.fr (D := []) (Fr.of f) (by simp) (by simp)
local macro_rules | `(tactic| walk_at "get") => `(tactic| first | assumption | ((refine' sameGet ?s ?g); (case s => assumption); (case g => walk_at "get")) | ((refine' frIns ?s ?g); (case s => assumption); (case g => walk_at "get")) | ((refine' frTup ?s ?g); (case s => assumption); (case g => walk_at "get")))
local macro_rules | `(tactic| walk_at "mem") => `(tactic| simp)
local macro_rules | `(tactic| walk_at "cls") => `(tactic| first | exact Tx.c_Tape (by assumption) | exact Tx.c_KeyedWorld (by assumption) | exact Tx.c_AnyWorld (by assumption) | exact Tx.c_SecretWorld (by assumption) | exact Tx.c_MarkWorld (by assumption) | exact Tx.c_Stopped (by assumption) | exact Tx.c_TreeWorld (by assumption) | exact Tx.c_Play (by assumption) | exact Tx.c_Notes (by assumption) | exact Tx.c_Table (by assumption) | exact Tx.c_Ways (by assumption))
local macro_rules | `(tactic| walk_at "noa") => `(tactic| first | exact Tx.n_Tape (by assumption) _ (by simp) | exact Tx.n_KeyedWorld (by assumption) _ (by simp) | exact Tx.n_AnyWorld (by assumption) _ (by simp) | exact Tx.n_SecretWorld (by assumption) _ (by simp) | exact Tx.n_MarkWorld (by assumption) _ (by simp) | exact Tx.n_Stopped (by assumption) _ (by simp) | exact Tx.n_TreeWorld (by assumption) _ (by simp) | exact Tx.n_Play (by assumption) _ (by simp) | exact Tx.n_Notes (by assumption) _ (by simp) | exact Tx.n_Table (by assumption) _ (by simp) | exact Tx.n_Ways (by assumption) _ (by simp))
local macro_rules | `(tactic| walk_at "stg") => `(tactic| ((refine' r_mt1 ?h ?l ?_); (case h => walk_at "get"); (case l => rfl)))
local macro_rules | `(tactic| walk_at "stg") => `(tactic| ((refine' r_st1 ?h ?c ?n ?l ?_); (case h => walk_at "get"); (case c => walk_at "cls"); (case n => walk_at "noa"); (case l => simp)))
local macro_rules | `(tactic| walk_at "stg") => `(tactic| ((refine' r_fld1 ?h ?c ?n ?l ?_); (case h => walk_at "get"); (case c => walk_at "cls"); (case n => walk_at "noa"); (case l => rfl)))
local macro_rules | `(tactic| walk_at "stg") => `(tactic| walk_at "st")
local macro_rules | `(tactic| walk_at "gof") => `(tactic| repeat walk_at "stg")
local macro_rules | `(tactic| walk_at "ift") => `(tactic| ((refine ite_t ?c ?_); (case c => walk_at "dec"); walk_at "gof"))
local macro_rules | `(tactic| walk_at "iff") => `(tactic| ((refine ite_f ?c ?_); (case c => walk_at "dec"); walk_at "gof"))
section
variable {P : Program} {w : World} {K : PySem.W.Frag} {mg : Str → Option Value} {base : Heap}
theorem m_Tape (T : Tx w K mg) : C8.Mak P w K mg base 1 "Tape" (aTape K) (spN 2 fun vs H Q _ => ∃ a dx p cs, vs = [.ref a, .ref p] ∧ H a = some (.ins (aTape K) dx []) ∧ H p = some (.lst (cs.map fun c : Nat => V.int c)) ∧
    ∀ lc ld H', FrB a [] H H' → H lc = none → H ld = none → TapeR K ⟨a, lc, ld⟩ cs [] H' → Q .non H') [] := by
  refine mkIn T.g_Tape T.fn_Tape_init sc_Tape_init (fun _ _ _ _ _ _ us hl => match us, hl with | [_, _], _ => rfl) (fun f cdv A outer s H vs Q E hr _ h => ?_)
  obtain ⟨a, dx, p, cs, rfl, ha, hp, q⟩ := h
  refine ⟨_, (pss_cons (stK (K := K) (pv 0) (pe_callTy (lstK (K := K)) (by rfl) T.f_list bt_list (pa_cons (pv 1) pa_nil)) rfl)
  (pss_one (stK (K := K) (pv 0) (pe_lst pa_nil) rfl))), ?_⟩
  walk_at "gof"
  refine ⟨p, _, rfl, .inl (SqL.of hp), fun lc nlc => ?_⟩
  generalize e1 : upd H lc _ = H1
  obtain ⟨s1, h1⟩ := newE2 e1 nlc
  clear e1
  walk_at "gof"
  intro H2 e2
  obtain ⟨f2, i2⟩ := putI (fs' := [("choices", .ref lc)]) e2 rfl
  walk_at "gof"
  walk_at "new"; rename_i ld nld H3 s3 h3
  walk_at "gof"
  intro H4 e4
  obtain ⟨f4, i4⟩ := putI (fs' := [("choices", .ref lc), ("draws", .ref ld)]) e4 rfl
  walk_at "gof"
  have la : lc ≠ a := fun z => by subst z; rw [ha] at nlc; cases nlc
  have l2 : H2 lc = some (.lst (cs.map fun c : Nat => V.int c)) := f2.keep _ _ la (by simp) h1
  have da : ld ≠ a := fun z => by subst z; rw [i2] at nld; cases nld
  have ne : lc ≠ ld := fun z => by subst z; rw [l2] at nld; cases nld
  have fr : FrB a [] H H4 := (((FrB.sm s1).trans f2).trans (FrB.sm s3)).trans f4
  have nd : H ld = none := by
    cases z : H ld with
    | none => rfl
    | some o => rw [f2.keep _ _ da (by simp) (s1 _ _ z)] at nld; cases nld
  exact q lc ld H4 fr nlc nd ⟨ne, ⟨dx, i4⟩, f4.keep _ _ la (by simp) (s3 _ _ l2), [], f4.keep _ _ da (by simp) h3, rfl⟩
theorem t_Tape_draw (T : Tx w K mg) : C8.Met P w K mg base 1 (aTape K) "draw" (spN 2 fun vs H Q _ => ∃ τ cs ds, ∃ m : Nat, vs = [.ref (Tp.t τ), .int m] ∧ TapeR K τ cs ds H ∧ cs.getD ds.length 0 < m ∧ ds.length < 1000 ∧
    ∀ H', Fr [τ.ld] H H' → TapeR K τ cs (ds ++ [(cs.getD ds.length 0, m)]) H' → Q (.int (cs.getD ds.length 0 : Nat)) H') [] := by
  refine mkMt T.c_Tape T.fn_Tape_draw sc_Tape_draw (fun _ _ _ _ _ _ us hl => match us, hl with | [_, _], _ => rfl) (fun f cdv A outer s H vs Q E hr _ h => ?_)
  obtain ⟨τ, cs, ds, m, rfl, ht, hm, hd, q⟩ := h
  obtain ⟨ne, ⟨dx, hi⟩, hlc, us, hld, hu⟩ := id ht
  refine ⟨_, (pss_cons (ps_set (i := 2) sc_Tape_draw.nd rfl (by first | exact Or.inl rfl | exact Or.inr rfl) (pe_callB (lenK (K := K)) (by rfl) T.f_len bt_len (pa_cons (fldK (K := K) (pv 0) rfl) pa_nil)))
  (pss_cons (ps_set (i := 3) sc_Tape_draw.nd rfl (by first | exact Or.inl rfl | exact Or.inr rfl) (pe_ifExp (pt_cmpR op_lt (pv 2) (pe_callB (lenK (K := K)) (by rfl) T.f_len bt_len (pa_cons (fldK (K := K) (pv 0) rfl) pa_nil)) (by rfl)) (pe_ix (ixK (K := K)) (fldK (K := K) (pv 0) rfl) (pv 2) (fun _ _ => rfl)) pe_int))
  (pss_cons (ps_if (pt_not (pt_chain op_le op_lt pe_int (pv 3) (pv 1))) (pss_one ps_never) pss_nil)
  (pss_cons (ps_expr (bmK (K := K) PySem.F.plainAttrs_list PySem.F.slot_list_append PySem.F.type_list_append mt_append (fldK (K := K) (pv 0) rfl) (pa_cons (pe_tup (pa_cons (pv 3) (pa_cons (pv 1) pa_nil))) pa_nil)))
  (pss_one (ps_ret (pv 3))))))), ?_⟩
  have el : us.length = ds.length := by rw [hu.len, List.length_map]
  walk_at "gof"
  rw [el, List.length_map]
  have fin : ∀ (p : Addr) (H1 : Hp), Same H H1 → H1 p = some (.tup [.int (cs.getD ds.length 0 : Nat), .int m]) → ∀ H2, upd H1 τ.ld (.lst (us ++ [.ref p])) = H2 → Q (.int (cs.getD ds.length 0 : Nat)) H2 := by
    intro p H1 s1 h1 H2 e2
    have f2 : Fr [τ.ld] H1 H2 := by subst e2; exact Fr.put (by simp) (s1 _ _ hld) (fun z => z)
    refine q H2 ((Fr.of s1).trans f2) ⟨ne, ⟨dx, f2.fix _ _ trivial (s1 _ _ hi)⟩, f2.keep _ _ (by simpa using ne) (s1 _ _ hlc), us ++ [.ref p], by rw [← e2]; exact upd_same, ?_⟩
    rw [List.map_append]
    exact TdL.snoc (TdL.ext f2.ext (TdL.same s1 hu)) ⟨p, _, rfl, f2.fix _ _ trivial h1, _, _, rfl, rfl, _, _, rfl, rfl, rfl⟩
  generalize ec : cs.getD ds.length 0 = c at hm fin
  by_cases hc : ds.length < cs.length
  · refine ite_t (by simp; exact hc) ?_
    walk_at "gof"
    have eg : (cs.map fun c : Nat => V.int c)[ds.length]? = some (.int c) := by
      rw [List.getElem?_map, List.getElem?_eq_getElem hc]
      rw [List.getD_eq_getElem?_getD, List.getElem?_eq_getElem hc] at ec
      simp at ec
      rw [ec]; rfl
    refine r_ixL (by simp) hlc eg ?_
    walk_at "gof"
    walk_at "ift"
    walk_at "iff"
    walk_at "new"; rename_i p np H1 s1 h1
    walk_at "gof"
    refine r_app (s1 _ _ hld) (by omega) ?_
    generalize e2 : upd H1 τ.ld _ = H2
    walk_at "gof"
    exact fin p H1 s1 h1 H2 e2
  · refine ite_f (by simp; omega) ?_
    have e0 : c = 0 := by
      rw [← ec, List.getD_eq_getElem?_getD, List.getElem?_eq_none (by omega)]; rfl
    subst e0
    walk_at "gof"
    walk_at "ift"
    walk_at "iff"
    walk_at "new"; rename_i p np H1 s1 h1
    walk_at "gof"
    refine r_app (s1 _ _ hld) (by omega) ?_
    generalize e2 : upd H1 τ.ld _ = H2
    walk_at "gof"
    exact fin p H1 s1 h1 H2 e2
theorem t_Tape_string (T : Tx w K mg) : C8.Met P w K mg base 2 (aTape K) "string" (spN 2 fun vs H Q _ => ∃ τ cs ds s ds', ∃ l : Nat, vs = [.ref (Tp.t τ), .int l] ∧ TapeR K τ cs ds H ∧ l ≤ 1000 ∧ Dr.exec cs (strD l) ds = some (s, ds') ∧
    ∀ H', Fr [τ.ld] H H' → TapeR K τ cs ds' H' → Q (.str (bstr s)) H') [] := by
  refine mkMt T.c_Tape T.fn_Tape_string sc_Tape_string (fun _ _ _ _ _ _ us hl => match us, hl with | [_, _], _ => rfl) (fun f cdv A outer s H vs Q E hr _ h => ?_)
  obtain ⟨τ, cs, ds, s, ds', l, rfl, ht, hl, he, q⟩ := h
  obtain ⟨hc, hd, he⟩ := Dr.exec_drawE he
  obtain ⟨rfl, rfl⟩ := Dr.exec_retE he
  refine ⟨_, (pss_one (ps_ret (C8.pe_c (c_bits T) hr (by first | decide | omega) (by rfl) (pa_cons (pv 1) (pa_cons (C8.pe_mt (t_Tape_draw T) hr (by first | decide | omega) (pv 0) (pa_cons (pe_op op_shl pe_int (pv 1)) pa_nil)) pa_nil))))), ?_⟩
  obtain ⟨dx, hi⟩ := ht.ins
  walk_at "gof"
  have e : (1 * 2 ^ ((l : Int)).toNat : Int) = ((2 ^ l : Nat) : Int) := by simp
  refine ⟨τ, cs, ds, 2 ^ l, by rw [e]; rfl, ht, hc, hd, fun H1 f1 t1 => ?_⟩
  walk_at "gof"
  refine ⟨l, _, rfl, hl, fun H2 s2 => ?_⟩
  walk_at "gof"
  exact q H2 (f1.trans (Fr.of s2)) (t1.same s2)
end
/-! Part A13: xor, made strings, guesses. -/
open PySem PySem.Spec PyProof.Rows L2
theorem walk_zipS {x y : Str} {n : Nat} (hn : n = min x.cps.size y.cps.size) : Walk (Itzs x y) n (fun _ => True)
    (fun i H v H' => ∃ T c d, v = .ref T ∧ H T = none ∧ H' = upd H T (.tup [.str ⟨#[c]⟩, .str ⟨#[d]⟩]) ∧ x.cps[i]? = some c ∧ y.cps[i]? = some d) := by
  subst hn
  exact ⟨fun _ _ hi _ => hi, fun _ _ => rfl, fun _ _ _ _ _ _ y => y⟩
def xorL (a b : List Bool) : List Bool := List.zipWith (fun x y => x != y) a b
theorem xorL_len (a b : List Bool) : (xorL a b).length = min a.length b.length := by simp [xorL]
def mkS (ps : List Part) (h : List Bool) : List Bool := ps.map fun
  | .bit b => b
  | .ix n => h.getD n false
theorem mkS_len (ps : List Part) (h : List Bool) : (mkS ps h).length = ps.length := by simp [mkS]
theorem r_join1 {K : PySem.W.Frag} {p : Addr} {l : List Bool} {H : Hp} {R : V → Hp → Prop} (h : H p = some (.lst (l.map fun b => .str (bstr [b])))) (hl : l.length ≤ 5000) (q : R (.str (bstr l)) H) :
    ∃ (sep : Str) (a : Addr) (ys : List Str), V.str "" = .str sep ∧ [V.ref p] = [.ref a] ∧ (SqL K H a (ys.map V.str) ∨ SqT K H a (ys.map V.str)) ∧ (ys.map (·.length)).sum + ys.length * sep.length ≤ sizeLine ∧ R (.str (Txt.join sep ys)) H := by
  refine ⟨_, p, l.map fun b => bstr [b], rfl, rfl, .inl (SqL.of ?_), ?_, ?_⟩
  · rw [h, List.map_map]; rfl
  · rw [stE, bstr_len, List.map_map, List.length_map]
    have : ∀ l : List Bool, (l.map ((fun x : Str => x.length) ∘ fun b => bstr [b])).sum = l.length := fun l => by
      induction l with
      | nil => rfl
      | cons b r ih => rw [List.map_cons, List.sum_cons, ih, List.length_cons]; show (bstr [b]).length + _ = _; rw [bstr_len]; simp; omega
    rw [this]; exact small (by simp; omega)
  · rw [stE, join_bits1]; exact q
section
variable {P : Program} {w : World} {K : PySem.W.Frag} {mg : Str → Option Value} {base : Heap}
theorem c_xor (T : Tx w K mg) : C8.Cal P w K mg base 1 "xor" (spN 2 fun vs H Q _ => ∃ a b, vs = [.str (bstr a), .str (bstr b)] ∧ a.length ≤ 1000 ∧ ∀ H', Same H H' → Q (.str (bstr (xorL a b))) H') [] := by
  refine mkFn T.fn_xor sc_xor (fun _ _ _ _ _ _ us hl => match us, hl with | [_, _], _ => rfl) (fun f cdv A outer s H vs Q E hr _ h => ?_)
  obtain ⟨a, b, rfl, hl, q⟩ := h
  refine ⟨_, (pss_one (ps_ret (pe_join pe_str (pe_lc (own := [("one", 2), ("two", 3)]) (by rfl) sc_xor.nd (pi_zipS (by rfl) T.f_zip (pa_cons (pv 0) (pa_cons (pv 1) pa_nil))) (blkOk_by (by rfl)) (fun _ _ _ _ _ => (pgTK (K := K) (n := 2) rfl (pgs_cons (pg_name (i := 2) sc_xor.nd rfl (by first | exact Or.inl rfl | exact Or.inr rfl)) (pgs_cons (pg_name (i := 3) sc_xor.nd rfl (by first | exact Or.inl rfl | exact Or.inr rfl)) pgs_nil)) (hn := by rfl))) (fun _ _ _ _ _ => pts_nil) (fun _ _ _ _ _ => (pe_ifExp (pt_cmpR op_eq (pv 2) (pv 3) (by rfl)) pe_str pe_str)))))), ?_⟩
  walk_at "go"
  refine r_iZipS ?_
  walk_at "go"
  refine ⟨_, _, rfl, fun D nD => ?_⟩
  refine lc_it (walk_zipS (n := (xorL a b).length) (by rw [cps_size, cps_size, xorL_len])) (fun i H2 => Same H H2 ∧ H2 D = some (.lst (((xorL a b).take i).map fun b => .str (bstr [b])))) ⟨same_upd nD, upd_same⟩ (fun _ _ _ _ => trivial) (fun i x H2 H3 hi hp hy => ?_) (fun H2 hp => ?_)
  · obtain ⟨s2, h2⟩ := hp
    obtain ⟨Tt, c, d, rfl, nT, rfl, hc, hd⟩ := hy
    obtain ⟨x, hx, ex⟩ := bit_of hc
    obtain ⟨y, hy, ey⟩ := bit_of hd
    have s3 : Same H2 (upd H2 Tt (.tup [.str ⟨#[c]⟩, .str ⟨#[d]⟩])) := same_upd nT
    have hT3 : upd H2 Tt (.tup [.str ⟨#[c]⟩, .str ⟨#[d]⟩]) Tt = some (.tup [.str ⟨#[c]⟩, .str ⟨#[d]⟩]) := upd_same
    generalize upd H2 Tt (.tup [.str ⟨#[c]⟩, .str ⟨#[d]⟩]) = H3 at s3 hT3
    rw [ex, ey] at hT3
    refine r_gTup (SqT.of hT3) rfl ?_
    walk_at "go"
    refine ⟨rfl, ?_⟩
    walk_at "go"
    have ed : decide (bstr [x] = bstr [y]) = decide ([x] = [y]) := by
      by_cases h : [x] = [y]
      · rw [h]; simp
      · rw [decide_eq_false h, decide_eq_false (fun z => h (bstr_inj z))]
    rw [ed]
    refine r_iteC ?_
    refine ⟨_, s3 _ _ h2, smallL (by rw [List.length_map, List.length_take, xorL_len]; omega), (s2.trans s3).putNew nD, ?_⟩
    rw [upd_same]
    have e : (xorL a b)[i]? = some (x != y) := by
      rw [xorL, List.getElem?_zipWith, hx, hy]
    rw [List.take_add_one, e, List.map_append]
    congr 3
    cases x <;> cases y <;> rfl
  · obtain ⟨s2, h2⟩ := hp
    rw [List.take_length] at h2
    walk_at "go"
    refine r_join1 h2 ?_ ?_
    · rw [xorL_len]; omega
    · exact q _ s2
theorem c_guessed (T : Tx w K mg) : C8.Cal P w K mg base 1 "guessed" (spN 2 fun vs H Q _ => ∃ s, ∃ b : Nat, vs = [.str (bstr s), .int b] ∧ Q (.str (bstr [decide (decide (s = [true]) = decide (b = 1))])) H) [] := by
  refine mkFn T.fn_guessed sc_guessed (fun _ _ _ _ _ _ us hl => match us, hl with | [_, _], _ => rfl) (fun f cdv A outer s H vs Q E hr _ h => ?_)
  obtain ⟨l, b, rfl, q⟩ := h
  refine ⟨_, (pss_one (ps_ret (pe_ifExp (pt_cmpR op_eq (pe_cmpR op_eq (pv 0) pe_str (by rfl)) (pe_cmpR op_eq (pv 1) pe_int (by rfl)) (by rfl)) pe_str pe_str))), ?_⟩
  walk_at "go"
  have e : decide (decide (bstr l = Str.ofString "1") = decide ((b : Int) = 1)) = decide (decide (l = [true]) = decide (b = 1)) := by
    have e1 : decide (bstr l = Str.ofString "1") = decide (l = [true]) := by
      rw [show Str.ofString "1" = bstr [true] from st1]
      by_cases h : l = [true]
      · subst h; simp
      · rw [decide_eq_false h, decide_eq_false (fun z => h (bstr_inj z))]
    have e2 : decide ((b : Int) = 1) = decide (b = 1) := by
      by_cases h : b = 1
      · subst h; rfl
      · rw [decide_eq_false h, decide_eq_false (by omega)]
    rw [e1, e2]
  rw [e]
  refine r_iteC ?_
  have e3 : ∀ c : Bool, (if c = true then V.str (Str.ofString "1") else V.str (Str.ofString "0")) = V.str (bstr [c]) := fun c => by cases c <;> rfl
  rw [e3]
  exact q
theorem c_made_string (T : Tx w K mg) : C8.Cal P w K mg base 1 "made_string" (spN 2 fun vs H Q _ => ∃ v ps h, vs = [v, .str (bstr h)] ∧ Td H (encPs ps) v ∧ ps.length ≤ 1000 ∧ h.length ≤ 10000 ∧ Q (.str (bstr (mkS ps h))) H) [] := by
  refine mkFn T.fn_made_string sc_made_string (fun _ _ _ _ _ _ us hl => match us, hl with | [_, _], _ => rfl) (fun f cdv A outer s H vs Q E hr _ h => ?_)
  obtain ⟨v, ps, h, rfl, hv, hp, hh, q⟩ := h
  obtain ⟨a, xs, rfl, ha, hx⟩ := id hv
  refine ⟨_, (pss_cons (ps_set (i := 2) sc_made_string.nd rfl (by first | exact Or.inl rfl | exact Or.inr rfl) pe_str)
  (pss_cons (ps_for PassesOwn.never rfl (piTK (K := K) (pv 0)) (pg_name (i := 3) sc_made_string.nd rfl (by first | exact Or.inl rfl | exact Or.inr rfl)) (pss_one (ps_if (pt_val (pe_callB (isiK (K := K)) (by rfl) T.f_isinstance bt_isinstance (pa_cons (pv 3) (pa_cons (pe_bltn (v := .ty "str") (by rfl) T.f_str bt_str rfl) pa_nil)))) (pss_one (ps_set (i := 2) sc_made_string.nd rfl (by first | exact Or.inl rfl | exact Or.inr rfl) (pe_op op_addS (pv 2) (pv 3)))) (pss_one (ps_set (i := 2) sc_made_string.nd rfl (by first | exact Or.inl rfl | exact Or.inr rfl) (pe_op op_addS (pv 2) (pe_ifExp (pt_cmpR op_lt (pv 3) (pe_callB (lenK (K := K)) (by rfl) T.f_len bt_len (pa_cons (pv 1) pa_nil)) (by rfl)) (pe_ix (ixK (K := K)) (pv 1) (pv 3) (fun _ _ => rfl)) pe_str)))))))
  (pss_one (ps_ret (pv 2))))), ?_⟩
  walk_at "go"
  refine ⟨a, rfl, ⟨xs, SqT.of ha⟩, ?_⟩
  have exl : xs.length = ps.length := by rw [hx.len, List.length_map]
  refine for_it (walk_tup (xs := xs)) (fun i σ H2 => ∃ y, σ = [some (.ref a), some (.str (bstr h)), some (.str (bstr (mkS (ps.take i) h))), y] ∧ H2 = H) ⟨none, rfl, rfl⟩ (fun _ _ _ _ hp => by obtain ⟨_, _, rfl⟩ := hp; exact SqT.of ha) (fun i x σ H2 H3 hi hp hy => ?_) (fun σ H2 hp => ?_)
  · obtain ⟨y, rfl, rfl⟩ := hp
    obtain ⟨rfl, hxi⟩ := hy
    rw [exl] at hi
    obtain ⟨u, hu, hd⟩ := TdL.get hx (d := encP ps[i]) (i := i) (by rw [List.getElem?_map, List.getElem?_eq_getElem hi]; rfl)
    obtain rfl : u = x := Option.some.inj (hu.symm.trans hxi)
    have eT : mkS (ps.take (i + 1)) h = mkS (ps.take i) h ++ mkS [ps[i]] h := by
      rw [List.take_add_one, List.getElem?_eq_getElem hi]; exact List.map_append
    have lT : (mkS (ps.take i) h).length ≤ 1000 := by rw [mkS_len, List.length_take]; omega
    generalize ps[i] = p at hd eT
    cases p with
    | bit b =>
      obtain rfl : u = .str (bstr [b]) := hd
      walk_at "go"
      exact ⟨_, by rw [eT]; rfl, rfl⟩
    | ix n =>
      obtain rfl : u = .int n := hd
      walk_at "go"
      by_cases hn : n < h.length
      · refine ite_t (by simp; omega) ?_
        walk_at "go"
        refine r_ixS (b := h[n]) (by simp) hh (by simp [hn]) ?_
        refine r_addS ?_ ?_
        · simp; omega
        walk_at "go"
        have : mkS [.ix n] h = [h[n]] := by simp [mkS, hn]
        exact ⟨_, by rw [eT, this]; rfl, rfl⟩
      · refine ite_f (by simp; omega) ?_
        walk_at "go"
        rw [show Str.ofString "0" = bstr [false] from st0]
        refine r_addS ?_ ?_
        · simp; omega
        walk_at "go"
        have : mkS [.ix n] h = [false] := by simp [mkS, List.getElem?_eq_none (show h.length ≤ n by omega)]
        exact ⟨_, by rw [eT, this]; rfl, rfl⟩
  · obtain ⟨y, rfl, rfl⟩ := hp
    rw [exl, List.take_length]
    walk_at "go"
    exact q
end
/-! Part A14: the worlds' states and what they answer. -/
open PySem PySem.Spec PyProof.Rows L2
abbrev Bs := List Bool
inductive Wd where
  | silent
  | keyed (n l m : Nat) (tab : List (List Bs)) (key : Bs)
  | any (l m : Nat) (told : List (Bs × Bs))
  | secret (l m b : Nat) (w : Wd)
  | mark (asked : List Bs) (w : Wd)
  | notes (asked : List (Bs × Bs)) (w : Wd)
  | tree (n : Nat) (rows : List Bs) (d level turn : Nat) (chal : Bs) (pairs : List (Bs × Bs))
def lk (l : List (Bs × Bs)) (q : Bs) : Option Bs := (l.find? fun p => decide (p.1 = q)).map (·.2)
def pairM (n : Nat) (rows : List Bs) (turn : Nat) (chal : Bs) (pairs : List (Bs × Bs)) (place : Bs) : Dr (Bs × List (Bs × Bs)) :=
  match lk pairs place with
  | some p => .ret (p, pairs)
  | none => (if pairs.length = turn then .ret chal else if pairs.length < turn then strD (2 * n) else (strD n).bind fun s => .ret (rowAt rows s)).bind fun p => .ret (p, pairs ++ [(place, p)])
def ansM : Wd → Bs → Dr (Bs × Wd)
  | .silent, _ => .ret ([], .silent)
  | .keyed n l m tab key, q => .ret (if q.length ≠ l then [] else valAt tab key q, .keyed n l m tab key)
  | .any l m told, q => if q.length ≠ l then .ret ([], .any l m told) else match lk told q with
    | some v => .ret (v, .any l m told)
    | none => (strD m).bind fun v => .ret (v, .any l m (told ++ [(q, v)]))
  | .secret l m b w, q => if q.length ≠ 2 * m then .ret ([], .secret l m b w) else
    (strD l).bind fun r => (ansM w r).bind fun a => .ret (r ++ xorL a.1 ((q.drop (b * m)).take m), .secret l m b a.2)
  | .mark asked w, q => (ansM w q).bind fun a => .ret (a.1, .mark (if q ∈ asked then asked else asked ++ [q]) a.2)
  | .notes asked w, q => (ansM w q).bind fun a => .ret (a.1, .notes (asked ++ [(q, a.1)]) a.2)
  | .tree n rows d level turn chal pairs, q => if q.length ≠ d then .ret ([], .tree n rows d level turn chal pairs) else
    (pairM n rows turn chal pairs (q.take level)).bind fun r => .ret (goDown rows (halfOf r.1 (q.getD level false)) (q.drop (level + 1)), .tree n rows d level turn chal r.2)
def Wd.dep : Wd → Nat
  | .secret _ _ _ w => w.dep + 1
  | .mark _ w => w.dep + 1
  | .notes _ w => w.dep + 1
  | _ => 0
/-- its kind, as a tree of classes -/
def Wd.kd : Wd → List Nat
  | .silent => [0]
  | .keyed .. => [1]
  | .any .. => [2]
  | .secret _ _ _ w => 3 :: w.kd
  | .mark _ w => 4 :: w.kd
  | .notes _ w => 5 :: w.kd
  | .tree .. => [6]
def Wd.good : Wd → Prop
  | .silent => True
  | .keyed n l m tab key => GoodF n l m tab ∧ key.length = n
  | .any l m told => l ≤ 40 ∧ m ≤ 40 ∧ ∀ p ∈ told, p.2.length = m
  | .secret l m b w => l ≤ 40 ∧ m ≤ 40 ∧ b ≤ 1 ∧ w.good
  | .mark _ w => w.good
  | .notes _ w => w.good
  | .tree n rows d level turn chal pairs => GoodG n (2 * n) rows ∧ n ≤ 8 ∧ d ≤ 8 ∧ level < d ∧ chal.length = 2 * n ∧ ∀ p ∈ pairs, p.2.length = 2 * n
/-- c asks more may come -/
def Wd.room : Wd → Nat → Prop
  | .silent, c => c = 0
  | .keyed .., _ => True
  | .any _ _ told, c => told.length + c ≤ 5000
  | .secret _ _ _ w, c => w.room c
  | .mark asked w, c => asked.length + c ≤ 5000 ∧ w.room c
  | .notes asked w, c => asked.length + c ≤ 5000 ∧ w.room c
  | .tree _ _ _ _ _ _ pairs, c => pairs.length + c ≤ 5000
theorem Wd.room_mono : ∀ {w : Wd} {c c' : Nat}, w.room c → c' ≤ c → w.room c'
  | .silent, _, _, h, e => Nat.eq_zero_of_le_zero (h ▸ e)
  | .keyed .., _, _, _, _ => trivial
  | .any .., _, _, h, e => Nat.le_trans (Nat.add_le_add_left e _) h
  | .secret .., _, _, h, e => Wd.room_mono (w := by assumption) h e
  | .mark .., _, _, h, e => ⟨Nat.le_trans (Nat.add_le_add_left e _) h.1, Wd.room_mono h.2 e⟩
  | .notes .., _, _, h, e => ⟨Nat.le_trans (Nat.add_le_add_left e _) h.1, Wd.room_mono h.2 e⟩
  | .tree .., _, _, h, e => Nat.le_trans (Nat.add_le_add_left e _) h
/-- it may be asked -/
def Wd.lives : Wd → Prop
  | .silent => False
  | .secret _ _ _ w => w.lives
  | .mark _ w => w.lives
  | .notes _ w => w.lives
  | _ => True
theorem Wd.room_lives {w : Wd} {c : Nat} (h : w.room (c + 1)) : w.lives := by
  induction w with
  | silent => exact nomatch h
  | keyed n l m tab key => trivial
  | any l m told => trivial
  | secret l m b w ih => exact ih h
  | mark asked w ih => exact ih h.2
  | notes asked w ih => exact ih h.2
  | tree n rows d level turn chal pairs => trivial
theorem lk_mem {l : List (Bs × Bs)} {q v : Bs} (h : lk l q = some v) : ∃ p ∈ l, p.2 = v := by
  unfold lk at h
  cases e : l.find? fun p => decide (p.1 = q) with
  | none => rw [e] at h; cases h
  | some p => rw [e] at h; exact ⟨p, List.mem_of_find?_eq_some e, Option.some.inj h⟩
theorem strD_len {cs : List Nat} {l : Nat} {ds ds' : List (Nat × Nat)} {s : Bs} (h : Dr.exec cs (strD l) ds = some (s, ds')) : s.length = l := by
  obtain ⟨_, _, h⟩ := Dr.exec_drawE h
  obtain ⟨rfl, _⟩ := Dr.exec_retE h
  exact bitsL_len _ _
theorem pairM_keep {cs : List Nat} {n turn : Nat} {rows : List Bs} {chal place : Bs} {pairs : List (Bs × Bs)} {ds ds' : List (Nat × Nat)} {r : Bs × List (Bs × Bs)} (G : GoodG n (2 * n) rows) (hc : chal.length = 2 * n) (hp : ∀ p ∈ pairs, p.2.length = 2 * n)
    (h : Dr.exec cs (pairM n rows turn chal pairs place) ds = some (r, ds')) : r.1.length = 2 * n ∧ (∀ p ∈ r.2, p.2.length = 2 * n) ∧ r.2.length ≤ pairs.length + 1 := by
  unfold pairM at h
  cases e : lk pairs place with
  | some p =>
    rw [e] at h
    obtain ⟨rfl, rfl⟩ := Dr.exec_retE h
    obtain ⟨x, hx, rfl⟩ := lk_mem e
    exact ⟨hp x hx, hp, by simp⟩
  | none =>
    rw [e] at h
    obtain ⟨p, ds1, h1, h2⟩ := Dr.exec_bindE h
    obtain ⟨rfl, rfl⟩ := Dr.exec_retE h2
    have hl : p.length = 2 * n := by
      by_cases c : pairs.length = turn
      · rw [if_pos c] at h1
        obtain ⟨rfl, rfl⟩ := Dr.exec_retE h1
        exact hc
      · rw [if_neg c] at h1
        by_cases c2 : pairs.length < turn
        · rw [if_pos c2] at h1; exact strD_len h1
        · rw [if_neg c2] at h1
          obtain ⟨s, ds2, h3, h4⟩ := Dr.exec_bindE h1
          obtain ⟨rfl, rfl⟩ := Dr.exec_retE h4
          exact G.rlen (strD_len h3)
    refine ⟨hl, fun x hx => ?_, by simp⟩
    rcases List.mem_append.mp hx with hx | hx
    · exact hp x hx
    · rw [List.mem_singleton.mp hx]; exact hl
theorem ansM_keep {cs : List Nat} : ∀ {w : Wd} {q : Bs} {ds ds' : List (Nat × Nat)} {r : Bs × Wd}, w.good → Dr.exec cs (ansM w q) ds = some (r, ds') →
    r.1.length ≤ 80 ∧ r.2.good ∧ r.2.dep = w.dep ∧ r.2.kd = w.kd ∧ ∀ c, w.room (c + 1) → r.2.room c
  | .silent, q, ds, ds', r, g, h => by
    obtain ⟨rfl, rfl⟩ := Dr.exec_retE h
    exact ⟨by simp, trivial, rfl, rfl, fun _ hc => nomatch hc⟩
  | .keyed n l m tab key, q, ds, ds', r, g, h => by
    obtain ⟨rfl, rfl⟩ := Dr.exec_retE h
    refine ⟨?_, g, rfl, rfl, fun _ _ => trivial⟩
    by_cases c : q.length = l
    · rw [if_neg (by simpa using c)]
      have e := g.1.at_ g.2 c
      have := (g.1.tabs _ (List.mem_of_getElem? (g.1.key_ g.2))).2 _ (List.mem_of_getElem? e)
      have := g.1.m2
      show (valAt tab key q).length ≤ 80
      omega
    · rw [if_pos c]; simp
  | .any l m told, q, ds, ds', r, g, h => by
    simp only [ansM] at h
    by_cases c : q.length = l
    · rw [if_neg (by simpa using c)] at h
      cases e : lk told q with
      | some v =>
        rw [e] at h
        obtain ⟨rfl, rfl⟩ := Dr.exec_retE h
        obtain ⟨p, hp, rfl⟩ := lk_mem e
        exact ⟨by have := g.2.2 p hp; have := g.2.1; simp only; omega, g, rfl, rfl, fun c hc => Wd.room_mono (w := .any l m told) hc (Nat.le_succ c)⟩
      | none =>
        rw [e] at h
        obtain ⟨v, ds1, h1, h2⟩ := Dr.exec_bindE h
        obtain ⟨rfl, rfl⟩ := Dr.exec_retE h2
        have hl := strD_len h1
        refine ⟨by have := g.2.1; simp only; omega, ⟨g.1, g.2.1, fun p hp => ?_⟩, rfl, rfl, fun c hc => ?_⟩
        · rcases List.mem_append.mp hp with hp | hp
          · exact g.2.2 p hp
          · rw [List.mem_singleton.mp hp]; exact hl
        · show (told ++ [(q, v)]).length + c ≤ 5000
          have : told.length + (c + 1) ≤ 5000 := hc
          simp; omega
    · rw [if_pos c] at h
      obtain ⟨rfl, rfl⟩ := Dr.exec_retE h
      exact ⟨by simp, g, rfl, rfl, fun c hc => Wd.room_mono (w := .any l m told) hc (Nat.le_succ c)⟩
  | .secret l m b w, q, ds, ds', r, g, h => by
    simp only [ansM] at h
    by_cases c : q.length = 2 * m
    · rw [if_neg (by simpa using c)] at h
      obtain ⟨s, ds1, h1, h2⟩ := Dr.exec_bindE h
      obtain ⟨a, ds2, h3, h4⟩ := Dr.exec_bindE h2
      obtain ⟨rfl, rfl⟩ := Dr.exec_retE h4
      obtain ⟨k1, k2, k3, k4, k5⟩ := ansM_keep g.2.2.2 h3
      have hl := strD_len h1
      refine ⟨?_, ⟨g.1, g.2.1, g.2.2.1, k2⟩, congrArg (· + 1) k3, congrArg (3 :: ·) k4, fun c hc => k5 c hc⟩
      have := g.1
      have := g.2.1
      simp only [List.length_append, xorL_len, List.length_take]
      omega
    · rw [if_pos c] at h
      obtain ⟨rfl, rfl⟩ := Dr.exec_retE h
      exact ⟨by simp, g, rfl, rfl, fun c hc => Wd.room_mono (w := .secret l m b w) hc (Nat.le_succ c)⟩
  | .mark asked w, q, ds, ds', r, g, h => by
    obtain ⟨a, ds1, h1, h2⟩ := Dr.exec_bindE h
    obtain ⟨rfl, rfl⟩ := Dr.exec_retE h2
    obtain ⟨k1, k2, k3, k4, k5⟩ := ansM_keep (w := w) g h1
    refine ⟨k1, k2, congrArg (· + 1) k3, congrArg (4 :: ·) k4, fun c hc => ⟨?_, k5 c hc.2⟩⟩
    have : asked.length + (c + 1) ≤ 5000 := hc.1
    by_cases e : q ∈ asked
    · rw [if_pos e]; omega
    · rw [if_neg e]; simp; omega
  | .notes asked w, q, ds, ds', r, g, h => by
    obtain ⟨a, ds1, h1, h2⟩ := Dr.exec_bindE h
    obtain ⟨rfl, rfl⟩ := Dr.exec_retE h2
    obtain ⟨k1, k2, k3, k4, k5⟩ := ansM_keep (w := w) g h1
    refine ⟨k1, k2, congrArg (· + 1) k3, congrArg (5 :: ·) k4, fun c hc => ⟨?_, k5 c hc.2⟩⟩
    have : asked.length + (c + 1) ≤ 5000 := hc.1
    simp; omega
  | .tree n rows d level turn chal pairs, q, ds, ds', r, g, h => by
    simp only [ansM] at h
    by_cases c : q.length = d
    · rw [if_neg (by simpa using c)] at h
      obtain ⟨p, ds1, h1, h2⟩ := Dr.exec_bindE h
      obtain ⟨rfl, rfl⟩ := Dr.exec_retE h2
      obtain ⟨g1, g2, g3, g4, g5, g6⟩ := id g
      obtain ⟨k1, k2, k3⟩ := pairM_keep g1 g5 g6 h1
      refine ⟨?_, ⟨g1, g2, g3, g4, g5, k2⟩, rfl, rfl, fun c hc => ?_⟩
      · simp only
        rw [g1.downLen rfl _ _ (half_len k1 _)]; omega
      · have : pairs.length + (c + 1) ≤ 5000 := hc
        show p.2.length + c ≤ 5000
        omega
    · rw [if_pos c] at h
      obtain ⟨rfl, rfl⟩ := Dr.exec_retE h
      exact ⟨by simp, g, rfl, rfl, fun c hc => Wd.room_mono (w := .tree n rows d level turn chal pairs) hc (Nat.le_succ c)⟩
/-! Part A15: the worlds answer. -/
open PySem PySem.Spec PyProof.Rows L2
def kvS (p : Bs × Bs) : Key × V := (.inr (bstr p.1), .str (bstr p.2))
def kvT (q : Bs) : Key × V := (.inr (bstr q), .bl true)
def qaD (p : Bs × Bs) : PyData := .tuple [.str (bstr p.1), .str (bstr p.2)]
def RepW (K : PySem.W.Frag) (t : Addr) : Wd → Hp → Addr → List Addr → Prop
  | .silent, H, a, D => D = [] ∧ ∃ dx, H a = some (.ins (aSilent K) dx [])
  | .keyed n l m tab key, H, a, D => D = [] ∧ ∃ dx vb, H a = some (.ins (aKeyedWorld K) dx [("block", vb), ("key", .str (bstr key))]) ∧ Td H (encF n l m tab) vb
  | .any l m told, H, a, D => ∃ dx da, D = [da] ∧ H a = some (.ins (aAnyWorld K) dx [("tape", .ref t), ("l", .int l), ("m", .int m), ("told", .ref da)]) ∧ H da = some (.dK (told.map kvS))
  | .secret l m b w, H, a, D => ∃ dx wa, H a = some (.ins (aSecretWorld K) dx [("tape", .ref t), ("world", .ref wa), ("l", .int l), ("m", .int m), ("b", .int b)]) ∧ RepW K t w H wa D
  | .mark asked w, H, a, D => ∃ dx wa da D', D = da :: D' ∧ da ∉ D' ∧ H a = some (.ins (aMarkWorld K) dx [("world", .ref wa), ("asked", .ref da)]) ∧ H da = some (.dK (asked.map kvT)) ∧ RepW K t w H wa D'
  | .notes asked w, H, a, D => ∃ dx wa da D' vs, D = da :: D' ∧ da ∉ D' ∧ H a = some (.ins (aNotes K) dx [("world", .ref wa), ("asked", .ref da)]) ∧ H da = some (.lst vs) ∧ TdL H (asked.map qaD) vs ∧ RepW K t w H wa D'
  | .tree n rows d level turn chal pairs, H, a, D => ∃ dx vb da, D = [da] ∧ H a = some (.ins (aTreeWorld K) dx [("tape", .ref t), ("block", vb), ("d", .int d), ("turn", .int turn), ("level", .int level), ("challenge", .str (bstr chal)), ("pairs", .ref da)]) ∧
      H da = some (.dK (pairs.map kvS)) ∧ Td H (encG n (2 * n) rows) vb
theorem RepW.fr {K : PySem.W.Frag} {t : Addr} {H H' : Hp} {D1 : List Addr} (f : Fr D1 H H') : ∀ {w : Wd} {a : Addr} {D : List Addr}, RepW K t w H a D → (∀ x ∈ D, x ∉ D1) → RepW K t w H' a D
  | .silent, a, D, ⟨h1, dx, h2⟩, hd => ⟨h1, dx, f.fix _ _ trivial h2⟩
  | .keyed .., a, D, ⟨h1, dx, vb, h2, h3⟩, hd => ⟨h1, dx, vb, f.fix _ _ trivial h2, f.td h3⟩
  | .any .., a, D, ⟨dx, da, h1, h2, h3⟩, hd => ⟨dx, da, h1, f.fix _ _ trivial h2, f.keep _ _ (hd da (by simp [h1])) h3⟩
  | .secret .., a, D, ⟨dx, wa, h1, h2⟩, hd => ⟨dx, wa, f.fix _ _ trivial h1, RepW.fr f h2 hd⟩
  | .mark .., a, D, ⟨dx, wa, da, D', h1, h2, h3, h4, h5⟩, hd => ⟨dx, wa, da, D', h1, h2, f.fix _ _ trivial h3, f.keep _ _ (hd da (by simp [h1])) h4, RepW.fr f h5 fun x hx => hd x (by simp [h1, hx])⟩
  | .notes .., a, D, ⟨dx, wa, da, D', vs, h1, h2, h3, h4, h5, h6⟩, hd => ⟨dx, wa, da, D', vs, h1, h2, f.fix _ _ trivial h3, f.keep _ _ (hd da (by simp [h1])) h4, TdL.ext f.ext h5, RepW.fr f h6 fun x hx => hd x (by simp [h1, hx])⟩
  | .tree .., a, D, ⟨dx, vb, da, h1, h2, h3, h4⟩, hd => ⟨dx, vb, da, h1, f.fix _ _ trivial h2, f.keep _ _ (hd da (by simp [h1])) h3, f.td h4⟩
theorem RepW.same {K : PySem.W.Frag} {t : Addr} {H H' : Hp} (f : Same H H') {w : Wd} {a : Addr} {D : List Addr} (h : RepW K t w H a D) : RepW K t w H' a D := RepW.fr (D1 := []) (Fr.of f) h (by simp)
def Wd.cls (K : PySem.W.Frag) : Wd → Addr
  | .silent => aSilent K
  | .keyed .. => aKeyedWorld K
  | .any .. => aAnyWorld K
  | .secret .. => aSecretWorld K
  | .mark .. => aMarkWorld K
  | .notes .. => aNotes K
  | .tree .. => aTreeWorld K
theorem RepW.ins {K : PySem.W.Frag} {t : Addr} {H : Hp} {w : Wd} {a : Addr} {D : List Addr} (h : RepW K t w H a D) : ∃ dx fs, H a = some (.ins (w.cls K) dx fs) ∧ fs.lookup ("answer" : Str) = none := by
  cases w with
  | silent => obtain ⟨_, dx, h2⟩ := h; exact ⟨dx, _, h2, rfl⟩
  | keyed n l m tab key => obtain ⟨_, dx, vb, h2, _⟩ := h; exact ⟨dx, _, h2, rfl⟩
  | any l m told => obtain ⟨dx, da, _, h2, _⟩ := h; exact ⟨dx, _, h2, rfl⟩
  | secret l m b w => obtain ⟨dx, wa, h2, _⟩ := h; exact ⟨dx, _, h2, rfl⟩
  | mark asked w => obtain ⟨dx, wa, da, D', _, _, h2, _⟩ := h; exact ⟨dx, _, h2, rfl⟩
  | notes asked w => obtain ⟨dx, wa, da, D', vs, _, _, h2, _⟩ := h; exact ⟨dx, _, h2, rfl⟩
  | tree n rows d level turn chal pairs => obtain ⟨dx, vb, da, _, h2, _⟩ := h; exact ⟨dx, _, h2, rfl⟩
/-- the promise of answer -/
def spAns (K : PySem.W.Frag) (W : Wd) : Sp := fun vs H Q _ => ∃ τ cs ds a D q r ds', vs = [.ref a, .str (bstr q)] ∧ q.length ≤ 1000 ∧ TapeR K τ cs ds H ∧ RepW K τ.t W H a D ∧ τ.lc ∉ D ∧ τ.ld ∉ D ∧ W.good ∧ W.room 1 ∧ Dr.exec cs (ansM W q) ds = some (r, ds') ∧
  ∀ H', Fr (τ.ld :: D) H H' → TapeR K τ cs ds' H' → RepW K τ.t r.2 H' a D → Q (.str (bstr r.1)) H'
/-! dicts -/
theorem valV_told (q : Bs) : ∀ l : List (Bs × Bs), valV (l.map kvS) (.inr (bstr q)) = (lk l q).map fun v => .str (bstr v)
  | [] => rfl
  | p :: r => by
    have ih := valV_told q r
    by_cases h : p.1 = q
    · have e1 : (kvS p).1 = Sum.inr (bstr q) := by rw [← h]; rfl
      rw [List.map_cons, valV_pos e1]
      simp [lk, h, kvS]
    · have e1 : ¬ (kvS p).1 = Sum.inr (bstr q) := fun z => h (bstr_inj (Sum.inr.inj z))
      rw [List.map_cons, valV_neg e1, ih]
      simp [lk, h]
theorem valV_asked (q : Bs) : ∀ l : List Bs, (valV (l.map kvT) (.inr (bstr q))).isSome = decide (q ∈ l)
  | [] => rfl
  | p :: r => by
    have ih := valV_asked q r
    by_cases h : p = q
    · have e1 : (kvT p).1 = Sum.inr (bstr q) := by rw [← h]; rfl
      rw [List.map_cons, valV_pos e1]
      simp [h]
    · have e1 : ¬ (kvT p).1 = Sum.inr (bstr q) := fun z => h (bstr_inj (Sum.inr.inj z))
      rw [List.map_cons, valV_neg e1, ih]
      simp [Ne.symm h]
theorem putK_new {kvs : List (Key × V)} {k : Key} {v : V} (h : valV kvs k = none) : putK kvs k v = kvs ++ [(k, v)] := by
  unfold putK
  rw [valV_any, h]; rfl
theorem putK_asked (q : Bs) (l : List Bs) : putK (l.map kvT) (.inr (bstr q)) (.bl true) = (if q ∈ l then l else l ++ [q]).map kvT := by
  by_cases h : q ∈ l
  · rw [if_pos h]
    unfold putK
    rw [valV_any, valV_asked, if_pos (by simpa using h), List.map_map]
    refine List.map_congr_left fun x _ => ?_
    by_cases e : (kvT x).1 = Sum.inr (bstr q)
    · simp only [Function.comp, if_pos e]; rfl
    · simp only [Function.comp, if_neg e]
  · rw [if_neg h, putK_new, List.map_append]
    · rfl
    · have := valV_asked q l
      rw [decide_eq_false h] at this
      simpa using this
theorem r_tdnin {ty td : TE} {σ : L2.St} {H : Hp} {Q : VK} (h : ty σ H fun y H1 => td σ H1 fun x H2 => ∃ a o, x = .ref a ∧ DGet H2 a y o ∧ Q (.bl (!o.isSome)) H2) : tDNotIn ty td σ H Q := h
theorem r_tdin {ty td : TE} {σ : L2.St} {H : Hp} {Q : VK} (h : ty σ H fun y H1 => td σ H1 fun x H2 => ∃ a o, x = .ref a ∧ DGet H2 a y o ∧ Q (.bl o.isSome) H2) : tDIn ty td σ H Q := h
theorem r_tdget {ty td : TE} {σ : L2.St} {H : Hp} {Q : VK} (h : td σ H fun x H1 => ty σ H1 fun y H2 => ∃ a v, x = .ref a ∧ DGet H2 a y (some v) ∧ Q v H2) : tDGet td ty σ H Q := h
theorem r_tdput {ty td tv : TE} {σ : L2.St} {H : Hp} {D : Ends} (h : tv σ H fun v H1 => td σ H1 fun x H2 => ty σ H2 fun y H3 => ∃ a H4, x = .ref a ∧ DPut H3 a y v H4 ∧ D.nx σ H4) : sDPut td ty tv D σ H := h
theorem r_tdget2 {ty td tx : TE} {σ : L2.St} {H : Hp} {Q : VK} (h : td σ H fun x H1 => ∃ a, x = .ref a ∧ IsD H1 a ∧ ty σ H1 fun y H2 => tx σ H2 fun z H3 => ∃ o, DGet H3 a y o ∧ Q (o.getD z) H3) : tDGet2 td ty tx σ H Q := h
local macro_rules | `(tactic| walk_at "stg") => `(tactic| first
  | with_reducible refine r_tdnin ?_
  | with_reducible refine r_tdin ?_
  | with_reducible refine r_tdget ?_
  | with_reducible refine r_tdput ?_
  | with_reducible refine r_tdget2 ?_)
theorem r_dget0 {da : Addr} {kvs : List (Key × V)} {q : Str} {o : Option V} {H : Hp} {R : Option V → Prop} (h : H da = some (.dK kvs)) (e : valV kvs (.inr q) = o) (r : R o) : ∃ a o, V.ref da = .ref a ∧ DGet H a (.str q) o ∧ R o :=
  ⟨da, _, rfl, DGet.k (k := .inr q) h, by rw [e]; exact r⟩
theorem r_dget {da : Addr} {kvs : List (Key × V)} {q : Str} {v : V} {H : Hp} {R : V → Hp → Prop} (h : H da = some (.dK kvs)) (e : valV kvs (.inr q) = some v) (r : R v H) : ∃ a v, V.ref da = .ref a ∧ DGet H a (.str q) (some v) ∧ R v H :=
  ⟨da, v, rfl, by rw [← e]; exact DGet.k (k := .inr q) h, r⟩
theorem r_dput {da : Addr} {kvs kvs' : List (Key × V)} {q : Str} {v : V} {H : Hp} {R : Hp → Prop} (h : H da = some (.dK kvs)) (hl : kvs.length ≤ 10000) (e : putK kvs (.inr q) v = kvs') (r : ∀ H', upd H da (.dK kvs') = H' → R H') : ∃ a H', V.ref da = .ref a ∧ DPut H a (.str q) v H' ∧ R H' :=
  ⟨da, _, rfl, DPut.k (k := .inr q) h (smallL hl), by rw [e]; exact r _ rfl⟩
section
variable {P : Program} {w : World} {K : PySem.W.Frag} {mg : Str → Option Value} {base : Heap}
theorem t_KeyedWorld_answer (T : Tx w K mg) (n l m : Nat) (tab : List (List Bs)) (key : Bs) : C8.Met P w K mg base 3 (aKeyedWorld K) "answer" (spN 2 (spAns K (.keyed n l m tab key))) [] := by
  refine mkMt T.c_KeyedWorld T.fn_KeyedWorld_answer sc_KeyedWorld_answer (fun _ _ _ _ _ _ us hl => match us, hl with | [_, _], _ => rfl) (fun f cdv A outer s H vs Q E hr _ h => ?_)
  obtain ⟨τ, cs, ds, a, D, qs, r, ds', rfl, hq, ht, hw, n1, n2, g, hm, he, q⟩ := h
  obtain ⟨rfl, dx, vb, ha, hb⟩ := id hw
  obtain ⟨rfl, rfl⟩ := Dr.exec_retE he
  refine ⟨_, (pss_cons (ps_if (pt_cmpR op_ne (pe_callB (lenK (K := K)) (by rfl) T.f_len bt_len (pa_cons (pv 1) pa_nil)) (pe_ix (ixK (K := K)) (fldK (K := K) (pv 0) rfl) pe_int (fun _ _ => rfl)) (by rfl)) (pss_one (ps_ret pe_str)) pss_nil)
  (pss_one (ps_ret (C8.pe_c (c_value_at T) hr (by first | decide | omega) (by rfl) (pa_cons (fldK (K := K) (pv 0) rfl) (pa_cons (fldK (K := K) (pv 0) rfl) (pa_cons (pv 1) pa_nil))))))), ?_⟩
  walk_at "gof"
  by_cases c : qs.length = l
  · refine ite_f (by simp [c]) ?_
    walk_at "gof"
    refine ⟨vb, key, qs, n, l, m, tab, rfl, hb, g.1, g.2, c, ?_⟩
    rw [if_neg (by simpa using c)] at q
    exact q H (Fr.refl H) ht hw
  · refine ite_t (by simp; omega) ?_
    walk_at "gof"
    rw [if_pos c] at q
    exact q H (Fr.refl H) ht hw
theorem t_AnyWorld_answer (T : Tx w K mg) (l m : Nat) (told : List (Bs × Bs)) : C8.Met P w K mg base 3 (aAnyWorld K) "answer" (spN 2 (spAns K (.any l m told))) [] := by
  refine mkMt T.c_AnyWorld T.fn_AnyWorld_answer sc_AnyWorld_answer (fun _ _ _ _ _ _ us hl => match us, hl with | [_, _], _ => rfl) (fun f cdv A outer s H vs Q E hr _ h => ?_)
  obtain ⟨τ, cs, ds, a, D, qs, r, ds', rfl, hq, ht, hw, n1, n2, g, hm, he, q⟩ := h
  obtain ⟨dx, da, rfl, ha, hd⟩ := id hw
  refine ⟨_, (pss_cons (ps_if (pt_cmpR op_ne (pe_callB (lenK (K := K)) (by rfl) T.f_len bt_len (pa_cons (pv 1) pa_nil)) (fldK (K := K) (pv 0) rfl) (by rfl)) (pss_one (ps_ret pe_str)) pss_nil)
  (pss_cons (ps_if (pt_cmp (pc_dnotin (hu_of hr) (pv 1) (fldK (K := K) (pv 0) rfl)) (by rfl)) (pss_one (ps_dput (hu_of hr) (fldK (K := K) (pv 0) rfl) (pv 1) (C8.pe_mt (t_Tape_string T) hr (by first | decide | omega) (fldK (K := K) (pv 0) rfl) (pa_cons (fldK (K := K) (pv 0) rfl) pa_nil)) rfl)) pss_nil)
  (pss_one (ps_ret (pe_dget (hu_of hr) (fldK (K := K) (pv 0) rfl) (pv 1) (fun _ _ => rfl)))))), ?_⟩
  walk_at "gof"
  simp only [ansM] at he
  by_cases c : qs.length = l
  · refine ite_f (by simp [c]) ?_
    rw [if_neg (by simpa using c)] at he
    walk_at "gof"
    cases e : lk told qs with
    | some v =>
      rw [e] at he
      obtain ⟨rfl, rfl⟩ := Dr.exec_retE he
      have ev : valV (told.map kvS) (.inr (bstr qs)) = some (.str (bstr v)) := by rw [valV_told, e]; rfl
      refine r_dget0 hd ev ?_
      walk_at "gof"
      walk_at "iff"
      refine r_dget hd ev ?_
      walk_at "gof"
      exact q H (Fr.refl H) ht hw
    | none =>
      rw [e] at he
      obtain ⟨v, ds1, h1, h2⟩ := Dr.exec_bindE he
      obtain ⟨rfl, rfl⟩ := Dr.exec_retE h2
      have ev : valV (told.map kvS) (.inr (bstr qs)) = none := by rw [valV_told, e]; rfl
      refine r_dget0 hd ev ?_
      obtain ⟨tx, hti⟩ := ht.ins
      walk_at "gof"
      walk_at "ift"
      refine ⟨τ, cs, ds, v, ds1, m, rfl, ht, by have := g.2.1; omega, h1, fun H1 f1 t1 => ?_⟩
      have nd : da ∉ [τ.ld] := by simpa using fun z : da = τ.ld => n2 (by simp [z])
      have hd1 := f1.keep _ _ nd hd
      walk_at "gof"
      refine r_dput hd1 (by rw [List.length_map]; have : told.length + 1 ≤ 5000 := hm; omega) (putK_new ev) fun H2 e2 => ?_
      have f2 : Fr [da] H1 H2 := by subst e2; exact Fr.put (by simp) hd1 (fun z => z)
      have hd2 : H2 da = some (.dK ((told ++ [(qs, v)]).map kvS)) := by rw [← e2, List.map_append]; exact upd_same
      walk_at "gof"
      refine r_dget hd2 (v := .str (bstr v)) ?_ ?_
      · rw [valV_told]
        have : lk (told ++ [(qs, v)]) qs = some v := by
          unfold lk at e ⊢
          rw [List.find?_append]
          cases e3 : told.find? fun p => decide (p.1 = qs) with
          | some p => rw [e3] at e; cases e
          | none => simp
        rw [this]; rfl
      walk_at "gof"
      refine q H2 ((f1.mono (by simp)).trans (f2.mono (by simp))) (t1.fr f2 (by simpa using n1) (by simpa using n2)) ⟨dx, da, rfl, f2.fix _ _ trivial (f1.fix _ _ trivial ha), hd2⟩
  · refine ite_t (by simp; omega) ?_
    rw [if_pos c] at he
    obtain ⟨rfl, rfl⟩ := Dr.exec_retE he
    walk_at "gof"
    exact q H (Fr.refl H) ht hw
theorem t_TreeWorld_pair_of (T : Tx w K mg) (n : Nat) (rows : List Bs) (d level turn : Nat) (chal : Bs) (pairs : List (Bs × Bs)) : C8.Met P w K mg base 3 (aTreeWorld K) "pair_of" (spN 2 fun vs H Q _ =>
    ∃ τ cs ds a D q r ds', vs = [.ref a, .str (bstr q)] ∧ TapeR K τ cs ds H ∧ RepW K τ.t (.tree n rows d level turn chal pairs) H a D ∧ τ.lc ∉ D ∧ τ.ld ∉ D ∧ (Wd.tree n rows d level turn chal pairs).good ∧ pairs.length ≤ 5000 ∧ Dr.exec cs (pairM n rows turn chal pairs q) ds = some (r, ds') ∧
    ∀ H', Fr (τ.ld :: D) H H' → TapeR K τ cs ds' H' → RepW K τ.t (.tree n rows d level turn chal r.2) H' a D → Q (.str (bstr r.1)) H') [] := by
  refine mkMt T.c_TreeWorld T.fn_TreeWorld_pair_of sc_TreeWorld_pair_of (fun _ _ _ _ _ _ us hl => match us, hl with | [_, _], _ => rfl) (fun f cdv A outer s H vs Q E hr _ h => ?_)
  obtain ⟨τ, cs, ds, a, D, qs, r, ds', rfl, ht, hw, n1, n2, g, hm, he, q⟩ := h
  obtain ⟨dx, vb, da, rfl, ha, hd, hb⟩ := id hw
  obtain ⟨g1, g2, g3, g4, g5, g6⟩ := id g
  refine ⟨_, (pss_cons (ps_if (pt_cmp (pc_dnotin (hu_of hr) (pv 1) (fldK (K := K) (pv 0) rfl)) (by rfl)) (pss_cons (ps_set (i := 2) sc_TreeWorld_pair_of.nd rfl (by first | exact Or.inl rfl | exact Or.inr rfl) (pe_ix (ixK (K := K)) (fldK (K := K) (pv 0) rfl) pe_int (fun _ _ => rfl)))
  (pss_cons (ps_set (i := 3) sc_TreeWorld_pair_of.nd rfl (by first | exact Or.inl rfl | exact Or.inr rfl) (pe_callB (call_lenD) (by rfl) T.f_len bt_len (pa_cons (fldK (K := K) (pv 0) rfl) pa_nil)))
  (pss_cons (ps_if (pt_cmpR op_eq (pv 3) (fldK (K := K) (pv 0) rfl) (by rfl)) (pss_one (ps_set (i := 4) sc_TreeWorld_pair_of.nd rfl (by first | exact Or.inl rfl | exact Or.inr rfl) (fldK (K := K) (pv 0) rfl))) (pss_one (ps_if (pt_cmpR op_lt (pv 3) (fldK (K := K) (pv 0) rfl) (by rfl)) (pss_one (ps_set (i := 4) sc_TreeWorld_pair_of.nd rfl (by first | exact Or.inl rfl | exact Or.inr rfl) (C8.pe_mt (t_Tape_string T) hr (by first | decide | omega) (fldK (K := K) (pv 0) rfl) (pa_cons (pe_op op_mul pe_int (pv 2)) pa_nil)))) (pss_one (ps_set (i := 4) sc_TreeWorld_pair_of.nd rfl (by first | exact Or.inl rfl | exact Or.inr rfl) (C8.pe_c (c_row_at T) hr (by first | decide | omega) (by rfl) (pa_cons (fldK (K := K) (pv 0) rfl) (pa_cons (C8.pe_mt (t_Tape_string T) hr (by first | decide | omega) (fldK (K := K) (pv 0) rfl) (pa_cons (pv 2) pa_nil)) pa_nil))))))))
  (pss_one (ps_dput (hu_of hr) (fldK (K := K) (pv 0) rfl) (pv 1) (pv 4) rfl))))) pss_nil)
  (pss_one (ps_ret (pe_dget (hu_of hr) (fldK (K := K) (pv 0) rfl) (pv 1) (fun _ _ => rfl))))), ?_⟩
  walk_at "gof"
  unfold pairM at he
  cases e : lk pairs qs with
  | some v =>
    rw [e] at he
    obtain ⟨rfl, rfl⟩ := Dr.exec_retE he
    have ev : valV (pairs.map kvS) (.inr (bstr qs)) = some (.str (bstr v)) := by rw [valV_told, e]; rfl
    refine r_dget0 hd ev ?_
    walk_at "gof"
    walk_at "iff"
    refine r_dget hd ev ?_
    walk_at "gof"
    exact q H (Fr.refl H) ht hw
  | none =>
    rw [e] at he
    obtain ⟨v, ds1, h1, h2⟩ := Dr.exec_bindE he
    obtain ⟨rfl, rfl⟩ := Dr.exec_retE h2
    have ev : valV (pairs.map kvS) (.inr (bstr qs)) = none := by rw [valV_told, e]; rfl
    have fin : ∀ H1, Fr [τ.ld] H H1 → TapeR K τ cs ds1 H1 → ∃ H2, DPut H1 da (.str (bstr qs)) (.str (bstr v)) H2 ∧ H2 da = some (.dK ((pairs ++ [(qs, v)]).map kvS)) ∧ valV ((pairs ++ [(qs, v)]).map kvS) (.inr (bstr qs)) = some (.str (bstr v)) ∧ H2 a = some (.ins (aTreeWorld K) dx [("tape", .ref τ.t), ("block", vb), ("d", .int d), ("turn", .int turn), ("level", .int level), ("challenge", .str (bstr chal)), ("pairs", .ref da)]) ∧ Q (.str (bstr v)) H2 := by
      intro H1 f1 t1
      have nd : da ∉ [τ.ld] := by simpa using fun z : da = τ.ld => n2 (by simp [z])
      have hd1 := f1.keep _ _ nd hd
      have f2 : Fr [da] H1 (upd H1 da (.dK (putK (pairs.map kvS) (.inr (bstr qs)) (.str (bstr v))))) := Fr.put (by simp) hd1 (fun z => z)
      rw [putK_new ev] at f2
      have hd2 : (upd H1 da (.dK (pairs.map kvS ++ [(.inr (bstr qs), .str (bstr v))]))) da = some (.dK ((pairs ++ [(qs, v)]).map kvS)) := by rw [List.map_append]; exact upd_same
      have ha2 := frIns f2 (frIns f1 ha)
      refine ⟨_, DPut.k (k := .inr (bstr qs)) hd1 (smallL (by rw [List.length_map]; omega)), ?_⟩
      rw [putK_new ev]
      refine ⟨hd2, ?_, ha2, q _ ((f1.mono (by simp)).trans (f2.mono (by simp))) (t1.fr f2 (by simpa using n1) (by simpa using n2)) ⟨dx, vb, da, rfl, ha2, hd2, f2.td (f1.td hb)⟩⟩
      rw [valV_told]
      have : lk (pairs ++ [(qs, v)]) qs = some v := by
        unfold lk at e ⊢
        rw [List.find?_append]
        cases e3 : pairs.find? fun p => decide (p.1 = qs) with
        | some p => rw [e3] at e; cases e
        | none => simp
      rw [this]; rfl
    obtain ⟨tx, hti⟩ := ht.ins
    refine r_dget0 hd ev ?_
    walk_at "gof"
    walk_at "ift"
    refine ⟨da, _, rfl, hd, ?_⟩
    rw [List.length_map]
    walk_at "gof"
    by_cases c : pairs.length = turn
    · rw [if_pos c] at h1
      obtain ⟨rfl, rfl⟩ := Dr.exec_retE h1
      refine ite_t (by simp; omega) ?_
      walk_at "gof"
      obtain ⟨H2, dp, hd2, ev2, ha2, qf⟩ := fin H (Fr.refl H) ht
      refine ⟨da, H2, rfl, dp, ?_⟩
      walk_at "gof"
      refine r_dget hd2 ev2 ?_
      walk_at "gof"
      exact qf
    · rw [if_neg c] at h1
      refine ite_f (by simp; omega) ?_
      walk_at "gof"
      by_cases c2 : pairs.length < turn
      · rw [if_pos c2] at h1
        refine ite_t (by simp; omega) ?_
        walk_at "gof"
        refine ⟨τ, cs, ds, v, ds1, 2 * n, by simp, ht, by omega, h1, fun H1 f1 t1 => ?_⟩
        walk_at "gof"
        obtain ⟨H2, dp, hd2, ev2, ha2, qf⟩ := fin H1 f1 t1
        refine ⟨da, H2, rfl, dp, ?_⟩
        walk_at "gof"
        refine r_dget hd2 ev2 ?_
        walk_at "gof"
        exact qf
      · rw [if_neg c2] at h1
        obtain ⟨sd, ds2, h3, h4⟩ := Dr.exec_bindE h1
        obtain ⟨rfl, rfl⟩ := Dr.exec_retE h4
        refine ite_f (by simp; omega) ?_
        walk_at "gof"
        refine ⟨τ, cs, ds, sd, ds2, n, rfl, ht, by omega, h3, fun H1 f1 t1 => ?_⟩
        walk_at "gof"
        refine ⟨vb, sd, n, _, rows, rfl, f1.td hb, g1, strD_len h3, ?_⟩
        walk_at "gof"
        obtain ⟨H2, dp, hd2, ev2, ha2, qf⟩ := fin H1 f1 t1
        refine ⟨da, H2, rfl, dp, ?_⟩
        walk_at "gof"
        refine r_dget hd2 ev2 ?_
        walk_at "gof"
        exact qf
end
/-! Part A16: the tree, the secrets, the marks, the notes. -/
open PySem PySem.Spec PyProof.Rows L2
local macro_rules | `(tactic| walk_at "stg") => `(tactic| with_reducible refine r_tdget2 ?_)
local macro_rules | `(tactic| walk_at "stg") => `(tactic| with_reducible refine r_tdput ?_)
local macro_rules | `(tactic| walk_at "stg") => `(tactic| with_reducible refine r_tdget ?_)
local macro_rules | `(tactic| walk_at "stg") => `(tactic| with_reducible refine r_tdin ?_)
local macro_rules | `(tactic| walk_at "stg") => `(tactic| with_reducible refine r_tdnin ?_)
local macro_rules | `(tactic| walk_at "mk") => `(tactic| (intro x dx n1 n2 n3; generalize e : upd (upd _ dx _) x _ = H2; obtain ⟨s2, fB, h2⟩ := mkE e n1 n2 n3; clear e n3 n2))
section
variable {P : Program} {w : World} {K : PySem.W.Frag} {mg : Str → Option Value} {base : Heap}
theorem metUp {k j : Nat} {C : Addr} {m : Str} {sp : Sp} (h : C8.Met P w K mg base k C m sp []) (hk : k ≤ j) : C8.Met P w K mg base j C m sp [] := by
  obtain ⟨f, fd, ps, ds, c, hm, F, b, d⟩ := h.ex
  exact ⟨f, fd, ps, ds, c, hm, F.mono hk, b, d⟩
theorem calUp {k j : Nat} {x : Str} {sp : Sp} (h : C8.Cal P w K mg base k x sp []) (hk : k ≤ j) : C8.Cal P w K mg base j x sp [] := by
  obtain ⟨f, fd, ps, ds, F, hm, kp, b, d⟩ := h.ex
  exact ⟨f, fd, ps, ds, F.mono hk, hm, kp, b, d⟩
theorem t_TreeWorld_answer (T : Tx w K mg) (n : Nat) (rows : List Bs) (d level turn : Nat) (chal : Bs) (pairs : List (Bs × Bs)) : C8.Met P w K mg base 4 (aTreeWorld K) "answer" (spN 2 (spAns K (.tree n rows d level turn chal pairs))) [] := by
  refine mkMt T.c_TreeWorld T.fn_TreeWorld_answer sc_TreeWorld_answer (fun _ _ _ _ _ _ us hl => match us, hl with | [_, _], _ => rfl) (fun f cdv A outer s H vs Q E hr _ h => ?_)
  obtain ⟨τ, cs, ds, a, D, qs, r, ds', rfl, hq, ht, hw, n1, n2, g, hm, he, q⟩ := h
  obtain ⟨dx, vb, da, rfl, ha, hd, hb⟩ := id hw
  obtain ⟨g1, g2, g3, g4, g5, g6⟩ := id g
  refine ⟨_, (pss_cons (ps_if (pt_cmpR op_ne (pe_callB (lenK (K := K)) (by rfl) T.f_len bt_len (pa_cons (pv 1) pa_nil)) (fldK (K := K) (pv 0) rfl) (by rfl)) (pss_one (ps_ret pe_str)) pss_nil)
  (pss_cons (ps_set (i := 2) sc_TreeWorld_answer.nd rfl (by first | exact Or.inl rfl | exact Or.inr rfl) (C8.pe_c (c_half T) hr (by first | decide | omega) (by rfl) (pa_cons (C8.pe_mt (t_TreeWorld_pair_of T n rows d level turn chal pairs) hr (by first | decide | omega) (pv 0) (pa_cons (pe_slice sl_str (pv 1) po_none (po_some (fldK (K := K) (pv 0) rfl))) pa_nil)) (pa_cons (pe_ix (ixK (K := K)) (pv 1) (fldK (K := K) (pv 0) rfl) (fun _ _ => rfl)) pa_nil))))
  (pss_one (ps_ret (C8.pe_c (c_go_down T) hr (by first | decide | omega) (by rfl) (pa_cons (fldK (K := K) (pv 0) rfl) (pa_cons (pv 2) (pa_cons (pe_slice sl_str (pv 1) (po_some (pe_op op_add (fldK (K := K) (pv 0) rfl) pe_int)) po_none) pa_nil)))))))), ?_⟩
  walk_at "gof"
  simp only [ansM] at he
  by_cases c : qs.length = d
  · refine ite_f (by simp [c]) ?_
    rw [if_neg (by simpa using c)] at he
    obtain ⟨p, ds1, h1, h2⟩ := Dr.exec_bindE he
    obtain ⟨rfl, rfl⟩ := Dr.exec_retE h2
    obtain ⟨k1, k2, k3⟩ := pairM_keep g1 g5 g6 h1
    walk_at "gof"
    refine r_slTo (by simp) (by omega) ?_
    walk_at "gof"
    rw [Int.toNat_natCast]
    refine ⟨τ, cs, ds, a, [da], qs.take level, p, ds1, rfl, ht, hw, n1, n2, g, by have : pairs.length + 1 ≤ 5000 := hm; omega, h1, fun H1 f1 t1 w1 => ?_⟩
    obtain ⟨dx1, vb1, da1, e1, ha1, hd1, hb1⟩ := id w1
    walk_at "gof"
    have hlv : qs[level]? = some (qs.getD level false) := by rw [List.getD_eq_getElem?_getD, List.getElem?_eq_getElem (by omega)]; rfl
    refine r_ixS (by simp) (by omega) (by rw [Int.toNat_natCast]; exact hlv) ?_
    walk_at "gof"
    refine ⟨p.1, _, rfl, by omega, ?_⟩
    walk_at "gof"
    refine r_slFrom (by omega) (by omega) ?_
    walk_at "gof"
    rw [show ((level : Int) + 1).toNat = level + 1 by omega]
    refine ⟨vb1, _, _, n, _, rows, rfl, hb1, g1, rfl, half_len k1 _, ?_⟩
    walk_at "gof"
    exact q H1 f1 t1 w1
  · refine ite_t (by simp; omega) ?_
    rw [if_pos c] at he
    obtain ⟨rfl, rfl⟩ := Dr.exec_retE he
    walk_at "gof"
    exact q H (Fr.refl H) ht hw
theorem t_SecretWorld_answer (T : Tx w K mg) (l m b : Nat) (W : Wd) (hin : C8.Met P w K mg base (4 + W.dep) (W.cls K) "answer" (spN 2 (spAns K W)) []) :
    C8.Met P w K mg base (4 + W.dep + 1) (aSecretWorld K) "answer" (spN 2 (spAns K (.secret l m b W))) [] := by
  refine mkMt T.c_SecretWorld T.fn_SecretWorld_answer sc_SecretWorld_answer (fun _ _ _ _ _ _ us hl => match us, hl with | [_, _], _ => rfl) (fun f cdv A outer s H vs Q E hr _ h => ?_)
  obtain ⟨τ, cs, ds, a, D, qs, r, ds', rfl, hq, ht, hw, n1, n2, g, hm, he, q⟩ := h
  obtain ⟨dx, wa, ha, hwa⟩ := id hw
  obtain ⟨g1, g2, g3, g4⟩ := id g
  refine ⟨_, (pss_cons (ps_if (pt_cmpR op_ne (pe_callB (lenK (K := K)) (by rfl) T.f_len bt_len (pa_cons (pv 1) pa_nil)) (pe_op op_mul pe_int (fldK (K := K) (pv 0) rfl)) (by rfl)) (pss_one (ps_ret pe_str)) pss_nil)
  (pss_cons (ps_set (i := 2) sc_SecretWorld_answer.nd rfl (by first | exact Or.inl rfl | exact Or.inr rfl) (C8.pe_mt (t_Tape_string T) hr (by first | decide | omega) (fldK (K := K) (pv 0) rfl) (pa_cons (fldK (K := K) (pv 0) rfl) pa_nil)))
  (pss_one (ps_ret (pe_op op_addS (pv 2) (C8.pe_c (c_xor T) hr (by first | decide | omega) (by rfl) (pa_cons (pe_mtD (P := P) (w := w) (K := K) (mg := mg) (base := base) (k := (4 + W.dep)) hr (by first | decide | omega) (fldK (K := K) (pv 0) rfl) (pa_cons (pv 2) pa_nil)) (pa_cons (pe_slice sl_str (pv 1) (po_some (pe_op op_mul (fldK (K := K) (pv 0) rfl) (fldK (K := K) (pv 0) rfl))) (po_some (pe_op op_mul (pe_op op_add (fldK (K := K) (pv 0) rfl) pe_int) (fldK (K := K) (pv 0) rfl)))) pa_nil)))))))), ?_⟩
  walk_at "gof"
  simp only [ansM] at he
  by_cases c : qs.length = 2 * m
  · refine ite_f (by simp; omega) ?_
    rw [if_neg (by simpa using c)] at he
    obtain ⟨rs, ds1, h1, h2⟩ := Dr.exec_bindE he
    obtain ⟨p, ds2, h3, h4⟩ := Dr.exec_bindE h2
    obtain ⟨rfl, rfl⟩ := Dr.exec_retE h4
    obtain ⟨k1, k2, k3, k4, k5⟩ := ansM_keep g4 h3
    have hrl := strD_len h1
    obtain ⟨tx, hti⟩ := ht.ins
    walk_at "gof"
    refine ⟨τ, cs, ds, rs, ds1, l, rfl, ht, by omega, h1, fun H1 f1 t1 => ?_⟩
    have w1 : RepW K τ.t W H1 wa D := RepW.fr f1 hwa fun x hx => by simpa using fun z : x = τ.ld => n2 (z ▸ hx)
    obtain ⟨dw, fw, hwi, hlk⟩ := w1.ins
    walk_at "gof"
    refine ⟨wa, _, dw, fw, _, rfl, hwi, hlk, hin, ?_⟩
    walk_at "gof"
    refine ⟨τ, cs, ds1, wa, D, rs, p, ds2, rfl, by omega, t1, w1, n1, n2, g4, hm, h3, fun H2 f2 t2 w2 => ?_⟩
    walk_at "gof"
    have e1 : ((b : Int) * m) = ((b * m : Nat) : Int) := by simp
    have e2 : ((b : Int) + 1) * m = ((b * m + m : Nat) : Int) := by rw [Int.add_mul]; simp
    rw [e1, e2]
    refine r_slAB (by omega) (by omega) (by omega) ?_
    rw [Int.toNat_natCast, Int.toNat_natCast, Nat.add_sub_cancel_left]
    walk_at "gof"
    refine ⟨_, _, rfl, by omega, fun H3 s3 => ?_⟩
    refine r_addS ?_ ?_
    · rw [hrl, xorL_len]; omega
    have f13 : Fr (τ.ld :: D) H H3 := ((f1.mono (by simp)).trans f2).trans (Fr.of s3)
    exact q H3 f13 (t2.same s3) ⟨dx, wa, frIns f13 ha, RepW.same s3 w2⟩
  · refine ite_t (by simp; omega) ?_
    rw [if_pos c] at he
    obtain ⟨rfl, rfl⟩ := Dr.exec_retE he
    walk_at "gof"
    exact q H (Fr.refl H) ht hw
theorem t_MarkWorld_answer (T : Tx w K mg) (asked : List Bs) (W : Wd) (hin : C8.Met P w K mg base (4 + W.dep) (W.cls K) "answer" (spN 2 (spAns K W)) []) :
    C8.Met P w K mg base (4 + W.dep + 1) (aMarkWorld K) "answer" (spN 2 (spAns K (.mark asked W))) [] := by
  refine mkMt T.c_MarkWorld T.fn_MarkWorld_answer sc_MarkWorld_answer (fun _ _ _ _ _ _ us hl => match us, hl with | [_, _], _ => rfl) (fun f cdv A outer s H vs Q E hr _ h => ?_)
  obtain ⟨τ, cs, ds, a, D, qs, r, ds', rfl, hq, ht, hw, n1, n2, g, hm, he, q⟩ := h
  obtain ⟨dx, wa, da, D', rfl, nda, ha, hd, hwa⟩ := id hw
  obtain ⟨p, ds1, h1, h2⟩ := Dr.exec_bindE he
  obtain ⟨rfl, rfl⟩ := Dr.exec_retE h2
  obtain ⟨m1, m2⟩ := id hm
  refine ⟨_, (pss_cons (ps_dput (hu_of hr) (fldK (K := K) (pv 0) rfl) (pv 1) pe_bl rfl)
  (pss_one (ps_ret (pe_mtD (P := P) (w := w) (K := K) (mg := mg) (base := base) (k := (4 + W.dep)) hr (by first | decide | omega) (fldK (K := K) (pv 0) rfl) (pa_cons (pv 1) pa_nil))))), ?_⟩
  walk_at "gof"
  refine r_dput hd (by rw [List.length_map]; omega) (putK_asked qs asked) fun H1 e1 => ?_
  have f1 : Fr [da] H H1 := by subst e1; exact Fr.put (by simp) hd (fun z => z)
  have hd1 : H1 da = some (.dK ((if qs ∈ asked then asked else asked ++ [qs]).map kvT)) := by rw [← e1]; exact upd_same
  have w1 : RepW K τ.t W H1 wa D' := RepW.fr f1 hwa fun x hx => by simpa using fun z : x = da => nda (z ▸ hx)
  have t1 : TapeR K τ cs ds H1 := ht.fr f1 (by simpa using fun z : τ.lc = da => n1 (by simp [z])) (by simpa using fun z : τ.ld = da => n2 (by simp [z]))
  have n1' : τ.lc ∉ D' := fun z => n1 (by simp [z])
  have n2' : τ.ld ∉ D' := fun z => n2 (by simp [z])
  obtain ⟨dw, fw, hwi, hlk⟩ := w1.ins
  walk_at "gof"
  refine ⟨wa, _, dw, fw, _, rfl, hwi, hlk, hin, ?_⟩
  walk_at "gof"
  refine ⟨τ, cs, ds, wa, D', qs, p, ds1, rfl, hq, t1, w1, n1', n2', g, m2, h1, fun H2 f2 t2 w2 => ?_⟩
  walk_at "gof"
  have f12 : Fr (τ.ld :: da :: D') H H2 := (f1.mono (by simp)).trans (f2.mono (by simp; intro b hb; exact .inr (.inr hb)))
  refine q H2 f12 t2 ⟨dx, wa, da, D', rfl, nda, frIns f12 ha, f2.keep _ _ ?_ hd1, w2⟩
  simp only [List.mem_cons, not_or]
  exact ⟨fun z => n2 (by simp [z]), nda⟩
theorem t_Notes_answer (T : Tx w K mg) (asked : List (Bs × Bs)) (W : Wd) (hin : C8.Met P w K mg base (4 + W.dep) (W.cls K) "answer" (spN 2 (spAns K W)) []) :
    C8.Met P w K mg base (4 + W.dep + 1) (aNotes K) "answer" (spN 2 (spAns K (.notes asked W))) [] := by
  refine mkMt T.c_Notes T.fn_Notes_answer sc_Notes_answer (fun _ _ _ _ _ _ us hl => match us, hl with | [_, _], _ => rfl) (fun f cdv A outer s H vs Q E hr _ h => ?_)
  obtain ⟨τ, cs, ds, a, D, qs, r, ds', rfl, hq, ht, hw, n1, n2, g, hm, he, q⟩ := h
  obtain ⟨dx, wa, da, D', vs, rfl, nda, ha, hd, hv, hwa⟩ := id hw
  obtain ⟨p, ds1, h1, h2⟩ := Dr.exec_bindE he
  obtain ⟨rfl, rfl⟩ := Dr.exec_retE h2
  obtain ⟨m1, m2⟩ := id hm
  refine ⟨_, (pss_cons (ps_set (i := 2) sc_Notes_answer.nd rfl (by first | exact Or.inl rfl | exact Or.inr rfl) (pe_mtD (P := P) (w := w) (K := K) (mg := mg) (base := base) (k := (4 + W.dep)) hr (by first | decide | omega) (fldK (K := K) (pv 0) rfl) (pa_cons (pv 1) pa_nil)))
  (pss_cons (ps_expr (bmK (K := K) PySem.F.plainAttrs_list PySem.F.slot_list_append PySem.F.type_list_append mt_append (fldK (K := K) (pv 0) rfl) (pa_cons (pe_tup (pa_cons (pv 1) (pa_cons (pv 2) pa_nil))) pa_nil)))
  (pss_one (ps_ret (pv 2))))), ?_⟩
  walk_at "gof"
  have n1' : τ.lc ∉ D' := fun z => n1 (by simp [z])
  have n2' : τ.ld ∉ D' := fun z => n2 (by simp [z])
  obtain ⟨dw, fw, hwi, hlk⟩ := hwa.ins
  refine ⟨wa, _, dw, fw, _, rfl, hwi, hlk, hin, ?_⟩
  walk_at "gof"
  refine ⟨τ, cs, ds, wa, D', qs, p, ds1, rfl, hq, ht, hwa, n1', n2', g, m2, h1, fun H1 f1 t1 w1 => ?_⟩
  have hd1 : H1 da = some (.lst vs) := f1.keep _ _ (by simp only [List.mem_cons, not_or]; exact ⟨fun z => n2 (by simp [z]), nda⟩) hd
  walk_at "gof"
  walk_at "new"; rename_i u nu H2 s2 h2
  walk_at "gof"
  refine r_app (s2 _ _ hd1) (by rw [hv.len, List.length_map]; omega) ?_
  generalize e3 : upd H2 da _ = H3
  have f3 : Fr [da] H2 H3 := by subst e3; exact Fr.put (by simp) (s2 _ _ hd1) (fun z => z)
  have hd3 : H3 da = some (.lst (vs ++ [.ref u])) := by rw [← e3]; exact upd_same
  walk_at "gof"
  have f13 : Fr (τ.ld :: da :: D') H H3 := ((f1.mono (by simp; intro b hb; exact .inr (.inr hb))).trans (Fr.of s2)).trans (f3.mono (by simp))
  refine q H3 f13 ((t1.same s2).fr f3 (by simpa using fun z : τ.lc = da => n1 (by simp [z])) (by simpa using fun z : τ.ld = da => n2 (by simp [z]))) ⟨dx, wa, da, D', vs ++ [.ref u], rfl, nda, frIns f13 ha, hd3, ?_, RepW.fr f3 (RepW.same s2 w1) fun x hx => by simpa using fun z : x = da => nda (z ▸ hx)⟩
  rw [List.map_append]
  exact TdL.snoc (TdL.ext f13.ext hv) ⟨u, _, rfl, frTup f3 h2, _, _, rfl, rfl, _, _, rfl, rfl, rfl⟩
/-- every world that may be asked answers -/
theorem met_ans (T : Tx w K mg) : ∀ W : Wd, W.lives → C8.Met P w K mg base (4 + W.dep) (W.cls K) "answer" (spN 2 (spAns K W)) []
  | .silent, h => h.elim
  | .keyed n l m tab key, _ => metUp (t_KeyedWorld_answer T n l m tab key) (by simp [Wd.dep])
  | .any l m told, _ => metUp (t_AnyWorld_answer T l m told) (by simp [Wd.dep])
  | .secret l m b W, h => t_SecretWorld_answer T l m b W (met_ans T W h)
  | .mark asked W, h => t_MarkWorld_answer T asked W (met_ans T W h)
  | .notes asked W, h => t_Notes_answer T asked W (met_ans T W h)
  | .tree n rows d level turn chal pairs, _ => t_TreeWorld_answer T n rows d level turn chal pairs
end
/-! Part A17: the worlds are made. -/
open PySem PySem.Spec PyProof.Rows L2
theorem FrB.none {a : Addr} {H H' : Hp} {b : Addr} (f : FrB a [] H H') (h : b ≠ a) (n : H' b = none) : H b = none := by
  cases z : H b with
  | none => rfl
  | some o => rw [f.keep _ _ h (by simp) z] at n; cases n
theorem TapeR.ne_new {K : PySem.W.Frag} {τ : Tp} {cs : List Nat} {ds : List (Nat × Nat)} {H : Hp} {a C dx : Addr} (h : TapeR K τ cs ds H) (ha : H a = some (.ins C dx [])) : τ.t ≠ a ∧ τ.lc ≠ a ∧ τ.ld ≠ a := by
  obtain ⟨_, ⟨tx, hi⟩, hlc, us, hld, _⟩ := h
  refine ⟨fun z => ?_, fun z => ?_, fun z => ?_⟩
  · rw [z, ha] at hi; cases hi
  · rw [z, ha] at hlc; cases hlc
  · rw [z, ha] at hld; cases hld
theorem FrB.ext {a C dx : Addr} {fs : List (Str × V)} {D : List Addr} {H H' : Hp} (f : FrB a D H H') (ha : H a = some (.ins C dx fs)) : Ext (a :: D) H H' :=
  ⟨fun b o hb e => f.keep b o (fun z => hb (by simp [z])) (fun z => hb (by simp [z])) e, fun b xs e => f.fix b _ (fun z => by rw [z, ha] at e; cases e) trivial e⟩
theorem FrB.td {a C dx : Addr} {fs : List (Str × V)} {D : List Addr} {H H' : Hp} (f : FrB a D H H') (ha : H a = some (.ins C dx fs)) {d : PyData} {v : V} (h : Td H d v) : Td H' d v := Td.ext (f.ext ha) h
theorem TapeR.frb {K : PySem.W.Frag} {τ : Tp} {cs : List Nat} {ds : List (Nat × Nat)} {H H' : Hp} {a C dx : Addr} {D : List Addr} (h : TapeR K τ cs ds H) (f : FrB a D H H') (hi0 : H a = some (.ins C dx [])) (n1 : τ.lc ∉ D) (n2 : τ.ld ∉ D) : TapeR K τ cs ds H' := by
  obtain ⟨a1, a2, a3⟩ := h.ne_new hi0
  obtain ⟨ne, ⟨tx, hi⟩, hlc, us, hld, hu⟩ := h
  refine ⟨ne, ⟨tx, f.fix _ _ a1 trivial hi⟩, f.keep _ _ a2 n1 hlc, us, f.keep _ _ a3 n2 hld, TdL.ext (f.ext hi0) hu⟩
section
variable {P : Program} {w : World} {K : PySem.W.Frag} {mg : Str → Option Value} {base : Heap}
theorem m_KeyedWorld (T : Tx w K mg) : C8.Mak P w K mg base 3 "KeyedWorld" (aKeyedWorld K) (spN 3 fun vs H Q _ => ∃ a dx τ cs ds vb n l m tab key ds', vs = [.ref a, .ref (Tp.t τ), vb] ∧ H a = some (.ins (aKeyedWorld K) dx []) ∧ TapeR K τ cs ds H ∧ Td H (encF n l m tab) vb ∧ GoodF n l m tab ∧ Dr.exec cs (strD n) ds = some (key, ds') ∧
    ∀ H', FrB a [τ.ld] H H' → TapeR K τ cs ds' H' → H' a = some (.ins (aKeyedWorld K) dx [("block", vb), ("key", .str (bstr key))]) → Q .non H') [] := by
  refine mkIn T.g_KeyedWorld T.fn_KeyedWorld_init sc_KeyedWorld_init (fun _ _ _ _ _ _ us hl => match us, hl with | [_, _, _], _ => rfl) (fun f cdv A outer s H vs Q E hr _ h => ?_)
  obtain ⟨a, dx, τ, cs, ds, vb, n, l, m, tab, key, ds', rfl, ha, ht, hb, G, he, q⟩ := h
  refine ⟨_, (pss_cons (stK (K := K) (pv 0) (pv 2) rfl)
  (pss_one (stK (K := K) (pv 0) (C8.pe_mt (t_Tape_string T) hr (by first | decide | omega) (pv 1) (pa_cons (pe_ix (ixK (K := K)) (pv 2) pe_int (fun _ _ => rfl)) pa_nil)) rfl))), ?_⟩
  walk_at "gof"
  intro H1 e1
  obtain ⟨f1, i1⟩ := putI (fs' := [("block", vb)]) e1 rfl
  have t1 := ht.frb f1 ha (by simp) (by simp)
  have hb1 := f1.td ha hb
  obtain ⟨tx, hti⟩ := t1.ins
  walk_at "gof"
  refine ⟨τ, cs, ds, key, ds', n, rfl, t1, by have := G.n2; omega, he, fun H2 f2 t2 => ?_⟩
  walk_at "gof"
  intro H3 e3
  obtain ⟨f3, i3⟩ := putI (fs' := [("block", vb), ("key", .str (bstr key))]) e3 rfl
  walk_at "gof"
  obtain ⟨a1, a2, a3⟩ := ht.ne_new ha
  have i2 := frIns f2 i1
  refine q H3 (((f1.mono (by simp)).trans (FrB.of f2)).trans (f3.mono (by simp))) ?_ i3
  obtain ⟨ne, ⟨tx2, hi2⟩, hlc, us, hld, hu⟩ := t2
  exact ⟨ne, ⟨tx2, f3.fix _ _ a1 trivial hi2⟩, f3.keep _ _ a2 (by simp) hlc, us, f3.keep _ _ a3 (by simp) hld, TdL.ext (f3.ext i2) hu⟩
theorem m_AnyWorld (T : Tx w K mg) : C8.Mak P w K mg base 1 "AnyWorld" (aAnyWorld K) (spN 4 fun vs H Q _ => ∃ a dx t, ∃ l m : Nat, vs = [.ref a, .ref t, .int l, .int m] ∧ H a = some (.ins (aAnyWorld K) dx []) ∧
    ∀ da H', H da = none → FrB a [] H H' → H' a = some (.ins (aAnyWorld K) dx [("tape", .ref t), ("l", .int l), ("m", .int m), ("told", .ref da)]) → H' da = some (.dK []) → Q .non H') [] := by
  refine mkIn T.g_AnyWorld T.fn_AnyWorld_init sc_AnyWorld_init (fun _ _ _ _ _ _ us hl => match us, hl with | [_, _, _, _], _ => rfl) (fun f cdv A outer s H vs Q E hr _ h => ?_)
  obtain ⟨a, dx, t, l, m, rfl, ha, q⟩ := h
  refine ⟨_, (pss_cons (stK (K := K) (pv 0) (pv 1) rfl)
  (pss_cons (stK (K := K) (pv 0) (pv 2) rfl)
  (pss_cons (stK (K := K) (pv 0) (pv 3) rfl)
  (pss_one (stK (K := K) (pv 0) pe_dnewK rfl))))), ?_⟩
  walk_at "gof"
  intro H1 e1
  obtain ⟨f1, i1⟩ := putI (fs' := [("tape", .ref t)]) e1 rfl
  walk_at "gof"
  intro H2 e2
  obtain ⟨f2, i2⟩ := putI (fs' := [("tape", .ref t), ("l", .int l)]) e2 rfl
  walk_at "gof"
  intro H3 e3
  obtain ⟨f3, i3⟩ := putI (fs' := [("tape", .ref t), ("l", .int l), ("m", .int m)]) e3 rfl
  walk_at "gof"
  refine r_dnew fun da H4 s4 nd h4 => ?_
  walk_at "gof"
  intro H5 e5
  obtain ⟨f5, i5⟩ := putI (fs' := [("tape", .ref t), ("l", .int l), ("m", .int m), ("told", .ref da)]) e5 rfl
  walk_at "gof"
  have dn : da ≠ a := fun z => by rw [z, i3] at nd; cases nd
  exact q da H5 (((f1.trans f2).trans f3).none dn nd) ((((f1.trans f2).trans f3).trans (FrB.sm s4)).trans f5) i5 (f5.keep _ _ dn (by simp) h4)
theorem m_SecretWorld (T : Tx w K mg) : C8.Mak P w K mg base 1 "SecretWorld" (aSecretWorld K) (spN 6 fun vs H Q _ => ∃ a dx t wa, ∃ l m b : Nat, vs = [.ref a, .ref t, .ref wa, .int l, .int m, .int b] ∧ H a = some (.ins (aSecretWorld K) dx []) ∧
    ∀ H', FrB a [] H H' → H' a = some (.ins (aSecretWorld K) dx [("tape", .ref t), ("world", .ref wa), ("l", .int l), ("m", .int m), ("b", .int b)]) → Q .non H') [] := by
  refine mkIn T.g_SecretWorld T.fn_SecretWorld_init sc_SecretWorld_init (fun _ _ _ _ _ _ us hl => match us, hl with | [_, _, _, _, _, _], _ => rfl) (fun f cdv A outer s H vs Q E hr _ h => ?_)
  obtain ⟨a, dx, t, wa, l, m, b, rfl, ha, q⟩ := h
  refine ⟨_, (pss_cons (stK (K := K) (pv 0) (pv 1) rfl)
  (pss_cons (stK (K := K) (pv 0) (pv 2) rfl)
  (pss_cons (stK (K := K) (pv 0) (pv 3) rfl)
  (pss_cons (stK (K := K) (pv 0) (pv 4) rfl)
  (pss_one (stK (K := K) (pv 0) (pv 5) rfl)))))), ?_⟩
  walk_at "gof"
  intro H1 e1
  obtain ⟨f1, i1⟩ := putI (fs' := [("tape", .ref t)]) e1 rfl
  walk_at "gof"
  intro H2 e2
  obtain ⟨f2, i2⟩ := putI (fs' := [("tape", .ref t), ("world", .ref wa)]) e2 rfl
  walk_at "gof"
  intro H3 e3
  obtain ⟨f3, i3⟩ := putI (fs' := [("tape", .ref t), ("world", .ref wa), ("l", .int l)]) e3 rfl
  walk_at "gof"
  intro H4 e4
  obtain ⟨f4, i4⟩ := putI (fs' := [("tape", .ref t), ("world", .ref wa), ("l", .int l), ("m", .int m)]) e4 rfl
  walk_at "gof"
  intro H5 e5
  obtain ⟨f5, i5⟩ := putI (fs' := [("tape", .ref t), ("world", .ref wa), ("l", .int l), ("m", .int m), ("b", .int b)]) e5 rfl
  walk_at "gof"
  exact q H5 ((((f1.trans f2).trans f3).trans f4).trans f5) i5
theorem m_MarkWorld (T : Tx w K mg) : C8.Mak P w K mg base 1 "MarkWorld" (aMarkWorld K) (spN 2 fun vs H Q _ => ∃ a dx wa, vs = [.ref a, .ref wa] ∧ H a = some (.ins (aMarkWorld K) dx []) ∧
    ∀ da H', H da = none → FrB a [] H H' → H' a = some (.ins (aMarkWorld K) dx [("world", .ref wa), ("asked", .ref da)]) → H' da = some (.dK []) → Q .non H') [] := by
  refine mkIn T.g_MarkWorld T.fn_MarkWorld_init sc_MarkWorld_init (fun _ _ _ _ _ _ us hl => match us, hl with | [_, _], _ => rfl) (fun f cdv A outer s H vs Q E hr _ h => ?_)
  obtain ⟨a, dx, wa, rfl, ha, q⟩ := h
  refine ⟨_, (pss_cons (stK (K := K) (pv 0) (pv 1) rfl)
  (pss_one (stK (K := K) (pv 0) pe_dnewK rfl))), ?_⟩
  walk_at "gof"
  intro H1 e1
  obtain ⟨f1, i1⟩ := putI (fs' := [("world", .ref wa)]) e1 rfl
  walk_at "gof"
  refine r_dnew fun da H2 s2 nd h2 => ?_
  walk_at "gof"
  intro H3 e3
  obtain ⟨f3, i3⟩ := putI (fs' := [("world", .ref wa), ("asked", .ref da)]) e3 rfl
  walk_at "gof"
  have dn : da ≠ a := fun z => by rw [z, i1] at nd; cases nd
  exact q da H3 (f1.none dn nd) ((f1.trans (FrB.sm s2)).trans f3) i3 (f3.keep _ _ dn (by simp) h2)
theorem m_Notes (T : Tx w K mg) : C8.Mak P w K mg base 1 "Notes" (aNotes K) (spN 2 fun vs H Q _ => ∃ a dx wa, vs = [.ref a, .ref wa] ∧ H a = some (.ins (aNotes K) dx []) ∧
    ∀ da H', H da = none → FrB a [] H H' → H' a = some (.ins (aNotes K) dx [("world", .ref wa), ("asked", .ref da)]) → H' da = some (.lst []) → Q .non H') [] := by
  refine mkIn T.g_Notes T.fn_Notes_init sc_Notes_init (fun _ _ _ _ _ _ us hl => match us, hl with | [_, _], _ => rfl) (fun f cdv A outer s H vs Q E hr _ h => ?_)
  obtain ⟨a, dx, wa, rfl, ha, q⟩ := h
  refine ⟨_, (pss_cons (stK (K := K) (pv 0) (pv 1) rfl)
  (pss_one (stK (K := K) (pv 0) (pe_lst pa_nil) rfl))), ?_⟩
  walk_at "gof"
  intro H1 e1
  obtain ⟨f1, i1⟩ := putI (fs' := [("world", .ref wa)]) e1 rfl
  walk_at "gof"
  walk_at "new"; rename_i da nd H2 s2 h2
  walk_at "gof"
  intro H3 e3
  obtain ⟨f3, i3⟩ := putI (fs' := [("world", .ref wa), ("asked", .ref da)]) e3 rfl
  walk_at "gof"
  have dn : da ≠ a := fun z => by rw [z, i1] at nd; cases nd
  exact q da H3 (f1.none dn nd) ((f1.trans (FrB.sm s2)).trans f3) i3 (f3.keep _ _ dn (by simp) h2)
theorem m_Stopped (T : Tx w K mg) : C8.Mak P w K mg base 1 "Stopped" (aStopped K) (spN 2 fun vs H Q _ => ∃ a dx wa, vs = [.ref a, .ref wa] ∧ H a = some (.ins (aStopped K) dx []) ∧
    ∀ H', FrB a [] H H' → H' a = some (.ins (aStopped K) dx [("world", .ref wa)]) → Q .non H') [] := by
  refine mkIn T.g_Stopped T.fn_Stopped_init sc_Stopped_init (fun _ _ _ _ _ _ us hl => match us, hl with | [_, _], _ => rfl) (fun f cdv A outer s H vs Q E hr _ h => ?_)
  obtain ⟨a, dx, wa, rfl, ha, q⟩ := h
  refine ⟨_, (pss_one (stK (K := K) (pv 0) (pv 1) rfl)), ?_⟩
  walk_at "gof"
  intro H1 e1
  obtain ⟨f1, i1⟩ := putI (fs' := [("world", .ref wa)]) e1 rfl
  walk_at "gof"
  exact q H1 f1 i1
theorem t_Stopped_now (T : Tx w K mg) : C8.Met P w K mg base 1 (aStopped K) "now" (spN 1 fun vs H Q _ => ∃ a dx wa C dw fw, vs = [.ref a] ∧ H a = some (.ins (aStopped K) dx [("world", .ref wa)]) ∧ H wa = some (.ins C dw fw) ∧ Cls K C ∧ IsO K C ∧ Q (.bl false) H) [] := by
  refine mkMt T.c_Stopped T.fn_Stopped_now sc_Stopped_now (fun _ _ _ _ _ _ us hl => match us, hl with | [_], _ => rfl) (fun f cdv A outer s H vs Q E hr _ h => ?_)
  obtain ⟨a, dx, wa, C, dw, fw, rfl, ha, hw, hc, io, q⟩ := h
  refine ⟨_, (pss_one (ps_ret (pe_and (pe_callB (isiK (K := K)) (by rfl) T.f_isinstance bt_isinstance (pa_cons (fldK (K := K) (pv 0) rfl) (pa_cons (C8.pe_gc (by rfl) T.k_OnetimeWorld) pa_nil))) (pe_one (fldK (K := K) (fldK (K := K) (pv 0) rfl) rfl))))), ?_⟩
  walk_at "gof"
  refine r_isi (.own _) (.base (.ins hw hc io.ha T.isn T.ist io.hm)) io.no ?_
  walk_at "gof"
  exact q
end
/-! Part A18: the tree world is made; plain breakers run. -/
open PySem PySem.Spec PyProof.Rows L2
/-- level and turn -/
def lvlM : List Nat → Nat → Nat × Nat
  | [], t => (0, t)
  | x :: r, t => if t < x then (0, t) else ((lvlM r (t - x)).1 + 1, (lvlM r (t - x)).2)
theorem lvlM_lt : ∀ (l : List Nat) (t : Nat), t < l.sum → (lvlM l t).1 < l.length
  | [], t, h => by simp at h
  | x :: r, t, h => by
    rw [lvlM]
    by_cases c : t < x
    · rw [if_pos c]; simp
    · rw [if_neg c, List.length_cons]
      have := lvlM_lt r (t - x) (by rw [List.sum_cons] at h; omega)
      simp only; omega
theorem FrB.noneD {a b : Addr} {D : List Addr} {H H' : Hp} (f : FrB a D H H') (h : b ≠ a) (hd : b ∉ D) (n : H' b = Option.none) : H b = Option.none := by
  cases z : H b with
  | none => rfl
  | some o => rw [f.keep _ _ h hd z] at n; cases n
theorem TapeR.frc {K : PySem.W.Frag} {τ : Tp} {cs : List Nat} {ds : List (Nat × Nat)} {H H' : Hp} {a C dx : Addr} {fs : List (Str × V)} {D : List Addr} (h : TapeR K τ cs ds H) (f : FrB a D H H') (ha : τ.t ≠ a ∧ τ.lc ≠ a ∧ τ.ld ≠ a) (hi0 : H a = some (.ins C dx fs)) (n1 : τ.lc ∉ D) (n2 : τ.ld ∉ D) : TapeR K τ cs ds H' := by
  obtain ⟨a1, a2, a3⟩ := ha
  obtain ⟨ne, ⟨tx, hi⟩, hlc, us, hld, hu⟩ := h
  exact ⟨ne, ⟨tx, f.fix _ _ a1 trivial hi⟩, f.keep _ _ a2 n1 hlc, us, f.keep _ _ a3 n2 hld, TdL.ext (f.ext hi0) hu⟩
section
variable {P : Program} {w : World} {K : PySem.W.Frag} {mg : Str → Option Value} {base : Heap}
theorem m_TreeWorld (T : Tx w K mg) : C8.Mak P w K mg base 2 "TreeWorld" (aTreeWorld K) (spN 4 fun vs H Q _ => ∃ a dx τ cs ds vb n rows d q i chal c, vs = [.ref a, .ref (Tp.t τ), vb, .str (bstr chal)] ∧ H a = some (.ins (aTreeWorld K) dx []) ∧ TapeR K τ cs ds H ∧
    Td H (encM (.tree n (2 * n) rows d q i)) vb ∧ d ≤ 8 ∧ c = cs.getD ds.length 0 ∧ c < (turnsL d q).sum ∧ ds.length < 1000 ∧
    ∀ da vg H', H da = none → FrB a [τ.ld] H H' → TapeR K τ cs (ds ++ [(c, (turnsL d q).sum)]) H' → Td H' (encG n (2 * n) rows) vg → H' a = some (.ins (aTreeWorld K) dx [("tape", .ref τ.t), ("block", vg), ("d", .int d), ("turn", .int (lvlM (turnsL d q) c).2), ("level", .int (lvlM (turnsL d q) c).1), ("challenge", .str (bstr chal)), ("pairs", .ref da)]) →
      H' da = some (.dK []) → Q .non H') [] := by
  refine mkIn T.g_TreeWorld T.fn_TreeWorld_init sc_TreeWorld_init (fun _ _ _ _ _ _ us hl => match us, hl with | [_, _, _, _], _ => rfl) (fun f cdv A outer s H vs Q E hr _ h => ?_)
  obtain ⟨a, dx, τ, cs, ds, vb, n, rows, d, qq, i, chal, c, rfl, ha, ht, hb, hd, ec, hc, hds, q⟩ := h
  refine ⟨_, (pss_cons (stK (K := K) (pv 0) (pv 1) rfl)
  (pss_cons (stK (K := K) (pv 0) (pe_ix (ixK (K := K)) (pv 2) pe_int (fun _ _ => rfl)) rfl)
  (pss_cons (stK (K := K) (pv 0) (pe_ix (ixK (K := K)) (pv 2) pe_int (fun _ _ => rfl)) rfl)
  (pss_cons (ps_set (i := 4) sc_TreeWorld_init.nd rfl (by first | exact Or.inl rfl | exact Or.inr rfl) (C8.pe_c (c_tree_turns T) hr (by first | decide | omega) (by rfl) (pa_cons (pe_ix (ixK (K := K)) (pv 2) pe_int (fun _ _ => rfl)) (pa_cons (pe_ix (ixK (K := K)) (pv 2) pe_int (fun _ _ => rfl)) pa_nil))))
  (pss_cons (stK (K := K) (pv 0) (C8.pe_mt (t_Tape_draw T) hr (by first | decide | omega) (pv 1) (pa_cons (pe_callB (sumK (K := K) rfl) (by rfl) T.f_sum bt_sum (pa_cons (pv 4) pa_nil)) pa_nil)) rfl)
  (pss_cons (stK (K := K) (pv 0) pe_int rfl)
  (pss_cons (ps_while PassesOwn.never (pt_cmpR op_ge (fldK (K := K) (pv 0) rfl) (pe_ix (ixK (K := K)) (pv 4) (fldK (K := K) (pv 0) rfl) (fun _ _ => rfl)) (by rfl)) (pss_cons (stK (K := K) (pv 0) (pe_op op_sub (fldK (K := K) (pv 0) rfl) (pe_ix (ixK (K := K)) (pv 4) (fldK (K := K) (pv 0) rfl) (fun _ _ => rfl))) rfl)
  (pss_one (stK (K := K) (pv 0) (pe_op op_add (fldK (K := K) (pv 0) rfl) pe_int) rfl))))
  (pss_cons (stK (K := K) (pv 0) (pv 3) rfl)
  (pss_one (stK (K := K) (pv 0) pe_dnewK rfl)))))))))), ?_⟩
  walk_at "gof"
  intro H1 e1
  obtain ⟨f1, i1⟩ := putI (fs' := [("tape", .ref τ.t)]) e1 rfl
  have hb1 := f1.td ha hb
  walk_at "gof"
  intro H2 e2
  obtain ⟨f2, i2⟩ := putI e2 rfl
  rename_i vg hvg
  have hb2 := f2.td i1 hb1
  have hvg2 := f2.td i1 hvg
  replace i2 : H2 a = some (.ins (aTreeWorld K) dx [("tape", .ref τ.t), ("block", vg)]) := i2
  walk_at "gof"
  intro H3 e3
  obtain ⟨f3, i3⟩ := putI (fs' := [("tape", .ref τ.t), ("block", vg), ("d", .int d)]) e3 rfl
  have hb3 := f3.td i2 hb2
  walk_at "gof"
  refine ⟨d, qq, rfl, by omega, fun p H4 s4 np hp => ?_⟩
  have i4 := s4 _ _ i3
  have f14 := ((f1.trans f2).trans f3).trans (FrB.sm s4)
  have t4 := ht.frb f14 ha (by simp) (by simp)
  obtain ⟨tx, hti⟩ := t4.ins
  walk_at "gof"
  refine ⟨p, (turnsL d qq).map fun x : Nat => (x : Int), rfl, SqL.of (by rw [hp, List.map_map]; rfl), ?_⟩
  have esum : ∀ l : List Nat, (l.map fun x : Nat => (x : Int)).sum = ((l.sum : Nat) : Int) := by
    intro l; induction l with
    | nil => rfl
    | cons x r ih => rw [List.map_cons, List.sum_cons, List.sum_cons, ih]; simp
  rw [esum]
  walk_at "gof"
  subst ec
  refine ⟨τ, cs, ds, _, rfl, t4, hc, hds, fun H5 f5 t5 => ?_⟩
  have i5 := frIns f5 i4
  generalize ec : cs.getD ds.length 0 = c at hc t5 q
  walk_at "gof"
  intro H6 e6
  obtain ⟨f6, i6⟩ := putI (fs' := [("tape", .ref τ.t), ("block", vg), ("d", .int d), ("turn", .int c)]) e6 rfl
  walk_at "gof"
  intro H7 e7
  obtain ⟨f7, i7⟩ := putI (fs' := [("tape", .ref τ.t), ("block", vg), ("d", .int d), ("turn", .int c), ("level", .int (0 : Nat))]) e7 rfl
  walk_at "gof"
  have npld : p ≠ τ.ld := fun z => by subst z; obtain ⟨_, hl, _⟩ := (ht.frb ((f1.trans f2).trans f3) ha (by simp) (by simp)).ld; rw [hl] at np; cases np
  have npa : p ≠ a := fun z => by subst z; rw [i3] at np; cases np
  have hp7 : H7 p = some (.lst ((turnsL d qq).map fun x : Nat => V.int x)) := f7.keep _ _ npa (by simp) (f6.keep _ _ npa (by simp) (f5.keep _ _ (by simpa using npld) hp))
  have hlen : (turnsL d qq).length = d := by simp [turnsL]
  generalize turnsL d qq = tl at hc q t5 hp7 hlen
  refine r_while ⟨fun m σ H' => ∃ L u, m = d - L ∧ σ = [some (.ref a), some (.ref τ.t), some vb, some (.str (bstr chal)), some (.ref p)] ∧ FrB a [] H7 H' ∧ H' a = some (.ins (aTreeWorld K) dx [("tape", .ref τ.t), ("block", vg), ("d", .int d), ("turn", .int (u : Nat)), ("level", .int (L : Nat))]) ∧
      L + (lvlM (tl.drop L) u).1 = (lvlM tl c).1 ∧ (lvlM (tl.drop L) u).2 = (lvlM tl c).2 ∧ u < (tl.drop L).sum, ⟨d, 0, c, rfl, rfl, FrB.refl _, i7, by simp, by simp, by simpa using hc⟩, fun m σ H' hW => ?_⟩
  obtain ⟨L, u, rfl, rfl, fW, iW, e1, e2, hu⟩ := hW
  have hL : L < tl.length := by
    rcases Nat.lt_or_ge L tl.length with h | h
    · exact h
    · rw [List.drop_eq_nil_of_le h] at hu; simp at hu
  have hpW : H' p = some (.lst (tl.map fun x : Nat => V.int x)) := fW.keep _ _ npa (by simp) hp7
  have edrop : tl.drop L = tl[L] :: tl.drop (L + 1) := List.drop_eq_getElem_cons hL
  have egx : (tl.map fun x : Nat => V.int x)[(L : Int).toNat]? = some (.int tl[L]) := by rw [Int.toNat_natCast, List.getElem?_map, List.getElem?_eq_getElem hL]; rfl
  rw [edrop] at e1 e2 hu
  walk_at "gof"
  refine r_ixL (by simp) hpW egx ?_
  walk_at "gof"
  by_cases cc : u < tl[L]
  · refine ite_f (by simp; omega) ?_
    rw [lvlM, if_pos cc] at e1 e2
    walk_at "gof"
    intro H8 e8
    obtain ⟨f8, i8⟩ := putI (fs' := [("tape", .ref τ.t), ("block", vg), ("d", .int d), ("turn", .int u), ("level", .int L), ("challenge", .str (bstr chal))]) e8 rfl
    walk_at "gof"
    refine r_dnew fun da H9 s9 nd h9 => ?_
    walk_at "gof"
    intro H10 e10
    obtain ⟨f10, i10⟩ := putI (fs' := [("tape", .ref τ.t), ("block", vg), ("d", .int d), ("turn", .int u), ("level", .int L), ("challenge", .str (bstr chal)), ("pairs", .ref da)]) e10 rfl
    walk_at "gof"
    have dn : da ≠ a := fun z => by rw [z, i8] at nd; cases nd
    have fB : FrB a [] H5 H10 := ((((f6.trans f7).trans fW).trans f8).trans (FrB.sm s9)).trans f10
    have ne := ht.ne_new ha
    have t10 := t5.frc fB ne i5 (by simp) (by simp)
    have t8 := t5.frc (((f6.trans f7).trans fW).trans f8) ne i5 (by simp) (by simp)
    have dl : da ≠ τ.ld := fun z => by subst z; obtain ⟨_, hl, _⟩ := t8.ld; rw [hl] at nd; cases nd
    have f5B : FrB a [τ.ld] H H5 := (f14.mono (by simp)).trans (FrB.of f5)
    have fA : FrB a [τ.ld] H H10 := f5B.trans (fB.mono (by simp))
    have f2A : FrB a [τ.ld] H2 H10 := (((f3.mono (by simp)).trans (FrB.sm s4)).trans (FrB.of f5)).trans (fB.mono (by simp))
    have hnone : H da = none := FrB.noneD (f5B.trans ((((f6.trans f7).trans fW).trans f8).mono (by simp))) dn (by simpa using dl) nd
    have eL : L = (lvlM tl c).1 := by simpa using e1
    have eU : u = (lvlM tl c).2 := e2
    rw [eL, eU] at i10
    exact q da vg H10 hnone fA t10 (f2A.td i2 hvg2) i10 (f10.keep _ _ dn (by simp) h9)
  · refine ite_t (by simp; omega) ?_
    rw [lvlM, if_neg cc] at e1 e2
    refine ⟨fun σ H1 => σ = [some (.ref a), some (.ref τ.t), some vb, some (.str (bstr chal)), some (.ref p)] ∧ FrB a [] H7 H1 ∧ H1 a = some (.ins (aTreeWorld K) dx [("tape", .ref τ.t), ("block", vg), ("d", .int d), ("turn", .int (u - tl[L] : Nat)), ("level", .int (L + 1 : Nat))]), fun σ' H1 h => ⟨d - (L + 1), by omega, L + 1, u - tl[L], rfl, h.1, h.2.1, h.2.2, by omega, e2, by rw [List.sum_cons] at hu; omega⟩, ?_⟩
    walk_at "gof"
    refine r_ixL (by simp) hpW egx ?_
    walk_at "gof"
    intro H8 e8
    obtain ⟨f8, i8⟩ := putI (fs' := [("tape", .ref τ.t), ("block", vg), ("d", .int d), ("turn", .int ((u : Int) - (tl[L] : Nat))), ("level", .int L)]) e8 rfl
    walk_at "gof"
    intro H9 e9
    obtain ⟨f9, i9⟩ := putI (fs' := [("tape", .ref τ.t), ("block", vg), ("d", .int d), ("turn", .int ((u : Int) - (tl[L] : Nat))), ("level", .int ((L : Int) + 1))]) e9 rfl
    refine ⟨rfl, (fW.trans f8).trans f9, ?_⟩
    rw [show ((u - tl[L] : Nat) : Int) = (u : Int) - (tl[L] : Nat) by omega]
    exact i9
end
/-! Part A19: plain breakers run. -/
open PySem PySem.Spec PyProof.Rows L2
mutual
def runB : Br → Bs → Wd → Dr (Bs × Wd)
  | .say ps, h, W => .ret (mkS ps h, W)
  | .toss bs, h, W => .draw bs.length fun i => runBs bs i h W
  | .look i a b, h, W => if h.getD i false = false then runB a h W else runB b h W
  | .ask ps n, h, W => (ansM W (mkS ps h)).bind fun r => runB n (h ++ r.1) r.2
def runBs : List Br → Nat → Bs → Wd → Dr (Bs × Wd)
  | [], _, _, W => .ret ([], W)
  | b :: _, 0, h, W => runB b h W
  | _ :: r, i + 1, h, W => runBs r i h W
end
theorem runBs_eq : ∀ {bs : List Br} {i : Nat} {b : Br} (h : Bs) (W : Wd), bs[i]? = some b → runBs bs i h W = runB b h W
  | [], _, _, _, _, e => by simp at e
  | b :: _, 0, _, h, W, e => by
    simp only [List.getElem?_cons_zero, Option.some.injEq] at e
    subst e
    rw [runBs]
  | _ :: r, i + 1, _, h, W, e => by
    rw [runBs]
    exact runBs_eq h W (by simpa using e)
theorem Br.asks_mem {b : Br} : ∀ {l : List Br}, b ∈ l → b.asks ≤ Br.asksL l
  | [], h => by simp at h
  | x :: r, h => by
    rw [Br.asksL]
    rcases List.mem_cons.mp h with rfl | h
    · omega
    · have := Br.asks_mem h; omega
section
variable {P : Program} {w : World} {K : PySem.W.Frag} {mg : Str → Option Value} {base : Heap}
theorem io_of (T : Tx w K mg) : ∀ {W : Wd}, W.lives → Cls K (W.cls K) ∧ IsO K (W.cls K)
  | .silent, h => h.elim
  | .keyed .., _ => ⟨T.c_KeyedWorld, T.o_KeyedWorld⟩
  | .any .., _ => ⟨T.c_AnyWorld, T.o_AnyWorld⟩
  | .secret .., _ => ⟨T.c_SecretWorld, T.o_SecretWorld⟩
  | .mark .., _ => ⟨T.c_MarkWorld, T.o_MarkWorld⟩
  | .notes .., _ => ⟨T.c_Notes, T.o_Notes⟩
  | .tree .., _ => ⟨T.c_TreeWorld, T.o_TreeWorld⟩
/-- the promise of what runs: enc tells the breaker, run what it does, asks its asks -/
def spRun (K : PySem.W.Frag) (d : PyData) (asks j : Nat) (run : Bs → Wd → Dr (Bs × Wd)) (okc : Bs → Prop) : Sp := fun vs H Q _ => ∃ vb τ cs ds ch W wa D r ds', vs = [vb, .ref (Tp.t τ), .str (bstr ch), .ref wa] ∧ Td H d vb ∧ okc ch ∧ TapeR K τ cs ds H ∧
  RepW K τ.t W H wa D ∧ τ.lc ∉ D ∧ τ.ld ∉ D ∧ W.good ∧ W.dep = j ∧ W.room asks ∧ Dr.exec cs (run ch W) ds = some (r, ds') ∧
  ∀ H', Fr (τ.ld :: D) H H' → TapeR K τ cs ds' H' → RepW K τ.t r.2 H' wa D → Q (.str (bstr r.1)) H'
theorem c_run_plain (T : Tx w K mg) (j : Nat) (b0 : Br) (gb : (Mb.plain b0).good) : C8.Cal P w K mg base (5 + j) "run_plain" (spN 4 (spRun K (encB b0) b0.asks j (runB b0) fun ch => ch.length ≤ 100)) [] := by
  rw [show 5 + j = (4 + j) + 1 by omega]
  refine mkFn T.fn_run_plain sc_run_plain (fun _ _ _ _ _ _ us hl => match us, hl with | [_, _, _, _], _ => rfl) (fun f cdv A outer s H vs Q E hr _ h => ?_)
  obtain ⟨vb, τ, cs, ds, ch, W0, wa, D, r, ds', rfl, hb, hch, ht, hw, n1, n2, g, hj, hm, he, q⟩ := h
  refine ⟨_, (pss_cons (ps_set (i := 4) sc_run_plain.nd rfl (by first | exact Or.inl rfl | exact Or.inr rfl) (pv 2))
  (pss_cons (ps_set (i := 5) sc_run_plain.nd rfl (by first | exact Or.inl rfl | exact Or.inr rfl) (C8.pe_mk (m_Stopped T) hr (by first | decide | omega) (by rfl) (pa_cons (pv 3) pa_nil)))
  (pss_cons (ps_while PassesOwn.never (pt_cmpR op_ne (pe_ix (ixK (K := K)) (pv 0) pe_int (fun _ _ => rfl)) pe_str (by rfl)) (pss_one (ps_if (pt_cmpR op_eq (pe_ix (ixK (K := K)) (pv 0) pe_int (fun _ _ => rfl)) pe_str (by rfl)) (pss_one (ps_set (i := 0) sc_run_plain.nd rfl (by first | exact Or.inl rfl | exact Or.inr rfl) (pe_ix (ixK (K := K)) (pe_ix (ixK (K := K)) (pv 0) pe_int (fun _ _ => rfl)) (C8.pe_mt (t_Tape_draw T) hr (by first | decide | omega) (pv 1) (pa_cons (pe_callB (lenK (K := K)) (by rfl) T.f_len bt_len (pa_cons (pe_ix (ixK (K := K)) (pv 0) pe_int (fun _ _ => rfl)) pa_nil)) pa_nil)) (fun _ _ => rfl)))) (pss_one (ps_if (pt_cmpR op_eq (pe_ix (ixK (K := K)) (pv 0) pe_int (fun _ _ => rfl)) pe_str (by rfl)) (pss_one (ps_set (i := 0) sc_run_plain.nd rfl (by first | exact Or.inl rfl | exact Or.inr rfl) (pe_ifExp (pt_cmpR op_eq (C8.pe_c (c_made_string T) hr (by first | decide | omega) (by rfl) (pa_cons (pe_tup (pa_cons (pe_ix (ixK (K := K)) (pv 0) pe_int (fun _ _ => rfl)) pa_nil)) (pa_cons (pv 4) pa_nil))) pe_str (by rfl)) (pe_ix (ixK (K := K)) (pv 0) pe_int (fun _ _ => rfl)) (pe_ix (ixK (K := K)) (pv 0) pe_int (fun _ _ => rfl))))) (pss_cons (ps_set (i := 4) sc_run_plain.nd rfl (by first | exact Or.inl rfl | exact Or.inr rfl) (pe_op op_addS (pv 4) (pe_mtD (P := P) (w := w) (K := K) (mg := mg) (base := base) (k := (4 + j)) hr (by first | decide | omega) (pv 3) (pa_cons (C8.pe_c (c_made_string T) hr (by first | decide | omega) (by rfl) (pa_cons (pe_ix (ixK (K := K)) (pv 0) pe_int (fun _ _ => rfl)) (pa_cons (pv 4) pa_nil))) pa_nil))))
  (pss_cons (ps_if (pt_val (C8.pe_mt0 (t_Stopped_now T) hr (by first | decide | omega) (pv 5))) (pss_one (ps_ret pe_str)) pss_nil)
  (pss_one (ps_set (i := 0) sc_run_plain.nd rfl (by first | exact Or.inl rfl | exact Or.inr rfl) (pe_ix (ixK (K := K)) (pv 0) pe_int (fun _ _ => rfl)))))))))))
  (pss_one (ps_ret (C8.pe_c (c_made_string T) hr (by first | decide | omega) (by rfl) (pa_cons (pe_ix (ixK (K := K)) (pv 0) pe_int (fun _ _ => rfl)) (pa_cons (pv 4) pa_nil)))))))), ?_⟩
  walk_at "gof"
  intro st dst n3 n4 n5
  refine ⟨rfl, ?_⟩
  refine ⟨st, dst, wa, rfl, upd_same, fun H1 f1 i1 => ?_⟩
  have fr1 : Fr [] H H1 := f1.fr n3 n4
  have t1 := ht.fr fr1 (by simp) (by simp)
  have w1 := RepW.fr fr1 hw (by simp)
  have hb1 := fr1.td hb
  refine ⟨rfl, ?_⟩
  walk_at "gof"
  refine r_while ⟨fun m σ H' => ∃ b vb' h W ds1, m = b.depth ∧ σ = [some vb', some (.ref τ.t), some (.str (bstr ch)), some (.ref wa), some (.str (bstr h)), some (.ref st)] ∧ Fr (τ.ld :: D) H H' ∧ H' st = some (.ins (aStopped K) dst [("world", .ref wa)]) ∧
      TapeR K τ cs ds1 H' ∧ RepW K τ.t W H' wa D ∧ Td H' (encB b) vb' ∧ b.good ∧ h.length + 81 * b.depth ≤ 9000 ∧ W.good ∧ W.dep = j ∧ W.room b.asks ∧ Dr.exec cs (runB b h W) ds1 = some (r, ds'),
    ⟨b0.depth, b0, vb, ch, W0, ds, rfl, rfl, fr1.mono (by simp), i1, t1, w1, hb1, gb.1, by have := gb.2.2; omega, g, hj, hm, he⟩, fun m σ H' hW => ?_⟩
  obtain ⟨b, vb', h, W, ds1, rfl, rfl, fW, iW, tW, wW, bW, gW, hW, gw, jw, rm, he⟩ := hW
  have hdp := b.depth_inner
  cases b with
  | say ps =>
    rw [runB] at he
    obtain ⟨rfl, rfl⟩ := Dr.exec_retE he
    rw [encB] at bW
    walk_at "gof"
    walk_at "iff"
    refine ⟨_, ps, h, rfl, by assumption, gW.1, by omega, ?_⟩
    walk_at "gof"
    exact q H' fW tW wW
  | toss bs =>
    rw [runB] at he
    obtain ⟨h1, h2, h3⟩ := Dr.exec_drawE he
    rw [encB] at bW
    obtain ⟨tx, hti⟩ := tW.ins
    walk_at "gof"
    walk_at "ift"
    refine ⟨_, fun _ _ h => h, ?_⟩
    walk_at "gof"
    walk_at "ift"
    have el : (encBs bs).length = bs.length := by rw [encBs_eq, List.length_map]
    refine ⟨τ, cs, ds1, bs.length, by rw [el]; rfl, tW, h1, h2, fun H2 f2 t2 => ?_⟩
    generalize cs.getD ds1.length 0 = c at h1 h3 t2
    rename_i u1 hu1 u2 hu2
    have hbc : bs[c]? = some bs[c] := List.getElem?_eq_getElem h1
    have hmem : bs[c] ∈ bs := List.getElem_mem h1
    rw [runBs_eq h W hbc] at h3
    refine r_ixD (d := encB bs[c]) (by simp) (f2.td hu1) (by rw [encBs_eq, List.getElem?_map, Int.toNat_natCast, hbc]; rfl) fun u3 hu3 => ?_
    walk_at "gof"
    have hdm := Br.depths_mem hmem
    have ham := Br.asks_mem hmem
    refine ⟨_, ?_, bs[c], u3, h, W, _, rfl, rfl, fW.trans (f2.mono (by simp)), frIns f2 iW, t2, RepW.fr f2 wW fun x hx => by simpa using fun z : x = τ.ld => n2 (z ▸ hx), hu3, Br.goods_mem gW.2.2 hmem, ?_, gw, jw, Wd.room_mono rm ham, h3⟩
    · rw [hdp]; simp only [Br.inner]; omega
    · rw [hdp] at hW; simp only [Br.inner] at hW; omega
  | look i x y =>
    rw [runB] at he
    rw [encB] at bW
    walk_at "gof"
    walk_at "ift"
    refine ⟨_, fun _ _ h => h, ?_⟩
    walk_at "gof"
    walk_at "iff"
    walk_at "ift"
    walk_at "new"; rename_i p np H2 s2 h2
    walk_at "gof"
    refine ⟨.ref p, [.ix i], h, rfl, ⟨p, _, rfl, h2, _, _, rfl, rfl, rfl⟩, by simp, by omega, ?_⟩
    have emk : mkS [.ix i] h = [h.getD i false] := by simp [mkS]
    rw [emk]
    have tW2 := tW.same s2
    have wW2 := RepW.same s2 wW
    have bW2 := bW.same s2
    have iW2 := s2 _ _ iW
    have fW2 := fW.trans (Fr.of s2)
    simp only [Br.asks] at rm
    rw [hdp] at hW
    simp only [Br.inner, Br.depths] at hW hdp
    walk_at "gof"
    by_cases c : h.getD i false = false
    · rw [if_pos c] at he
      rw [c]
      walk_at "ift"
      rename_i u1 hu1
      refine ⟨_, ?_, x, u1, h, W, _, rfl, rfl, fW2, iW2, tW2, wW2, hu1, gW.2.1, ?_, gw, jw, Wd.room_mono rm (by omega), he⟩
      · omega
      · omega
    · rw [if_neg c] at he
      rw [Bool.not_eq_false] at c
      rw [c]
      walk_at "iff"
      rename_i u1 hu1
      refine ⟨_, ?_, y, u1, h, W, _, rfl, rfl, fW2, iW2, tW2, wW2, hu1, gW.2.2.1, ?_, gw, jw, Wd.room_mono rm (by omega), he⟩
      · omega
      · omega
  | ask ps x =>
    rw [runB] at he
    obtain ⟨p, ds2, e1, e2⟩ := Dr.exec_bindE he
    rw [encB] at bW
    simp only [Br.asks] at rm
    rw [hdp] at hW
    simp only [Br.inner, Br.depths] at hW hdp
    have rm' : W.room ((x.asks) + 1) := Wd.room_mono rm (by omega)
    have lv := Wd.room_lives rm'
    obtain ⟨k1, k2, k3, k4, k5⟩ := ansM_keep gw e1
    obtain ⟨dw, fw, hwi, hlk⟩ := wW.ins
    walk_at "gof"
    walk_at "ift"
    refine ⟨_, fun _ _ h => h, ?_⟩
    walk_at "gof"
    walk_at "iff"
    walk_at "iff"
    refine ⟨wa, _, dw, fw, _, rfl, hwi, hlk, jw ▸ met_ans T W lv, ?_⟩
    walk_at "gof"
    refine ⟨_, ps, h, rfl, by assumption, gW.1.1, by omega, ?_⟩
    walk_at "gof"
    refine ⟨τ, cs, ds1, wa, D, mkS ps h, p, ds2, rfl, by rw [mkS_len]; exact gW.1.1, tW, wW, n1, n2, gw, Wd.room_mono rm' (by omega), e1, fun H2 f2 t2 w2 => ?_⟩
    refine r_addS ?_ ?_
    · omega
    have bW2 := f2.td bW
    have iW2 := frIns f2 iW
    walk_at "gof"
    obtain ⟨io1, io2⟩ := io_of T lv
    refine ⟨st, dst, wa, _, dw, fw, rfl, iW2, frIns f2 hwi, io1, io2, ?_⟩
    walk_at "gof"
    rename_i u hu
    refine ⟨_, ?_, x, u, h ++ p.1, p.2, ds2, rfl, rfl, fW.trans f2, iW2, t2, w2, hu, gW.2.1, ?_, k2, k3.trans jw, k5 _ rm', e2⟩
    · omega
    · rw [List.length_append]; omega
end
/-! Part A20: what made breakers do. -/
open PySem PySem.Spec PyProof.Rows L2
def Wd.sub : Wd → Wd
  | .secret _ _ _ w => w
  | .mark _ w => w
  | .notes _ w => w
  | w => w
def Wd.askedS : Wd → List Bs
  | .mark a _ => a
  | _ => []
def Mb.runM : Mb → Bs → Wd → Dr (Bs × Wd)
  | .plain b, ch, W => runB b ch W
  | .longer n m rows k i, ch, W => .draw k fun x => (strD x).bind fun f => (i.runM (f ++ [ch.getLastD false] ++ putOut rows ch.dropLast (k - x - 1)) .silent).bind fun r => .ret (r.1, W)
  | .tree n m rows d q i, ch, W => .draw (turnsL d q).sum fun t => (i.runM [] (.tree n rows d (lvlM (turnsL d q) t).1 (lvlM (turnsL d q) t).2 ch [])).bind fun r => .ret (r.1, W)
  | .marks l m i, ch, W => (i.runM [] (.mark [] W)).bind fun r => if r.1.length ≠ l + m ∨ r.1.take l ∈ r.2.askedS then .ret ([false], r.2.sub) else
      (ansM r.2.sub (r.1.take l)).bind fun a => .ret ([decide (a.1 = r.1.drop l)], a.2)
  | .secrets l m i, ch, W => .draw 2 fun b => (i.runM [] (.secret l m b W)).bind fun r => .ret ([decide (decide (r.1 = [true]) = decide (b = 1))], r.2.sub)
/-- the challenges it may be handed -/
def Mb.okc : Mb → Bs → Prop
  | .plain _, ch => ch.length ≤ 100
  | .longer n m rows k i, ch => ch.length = n + 1
  | .tree n m rows d q i, ch => ch.length = 2 * n
  | _, _ => True
def Mb.ok : Mb → Prop
  | .plain b => (Mb.plain b).good
  | .longer n m rows k i => GoodG n m rows ∧ m = n + 1 ∧ k ≤ 20 ∧ i.ok ∧ i.asks = 0 ∧ ∀ ch, ch.length = n + k → i.okc ch
  | .tree n m rows d q i => GoodG n m rows ∧ m = 2 * n ∧ n ≤ 8 ∧ 1 ≤ d ∧ d ≤ 8 ∧ i.ok ∧ i.asks ≤ 4000 ∧ i.okc []
  | .marks l m i => l ≤ 40 ∧ m ≤ 40 ∧ i.ok ∧ i.asks ≤ 4000 ∧ i.okc []
  | .secrets l m i => l ≤ 40 ∧ m ≤ 40 ∧ i.ok ∧ i.asks ≤ 4000 ∧ i.okc []
def Mb.lev : Mb → Nat → Nat
  | .plain _, j => 6 + j
  | .longer n m rows k i, _ => i.lev 0 + 2
  | .tree n m rows d q i, _ => i.lev 0 + 2
  | .marks l m i, j => max (i.lev (j + 1)) (4 + j) + 2
  | .secrets l m i, j => i.lev (j + 1) + 2
theorem Mb.lev_ge : ∀ (b : Mb) (j : Nat), 6 ≤ b.lev j
  | .plain _, j => by simp [Mb.lev]
  | .longer n m rows k i, _ => by have := Mb.lev_ge i 0; simp only [Mb.lev]; omega
  | .tree n m rows d q i, _ => by have := Mb.lev_ge i 0; simp only [Mb.lev]; omega
  | .marks l m i, j => by have := Mb.lev_ge i (j + 1); simp only [Mb.lev]; omega
  | .secrets l m i, j => by have := Mb.lev_ge i (j + 1); simp only [Mb.lev]; omega
def Keeps (asks : Nat) (W : Wd) (r : Bs × Wd) : Prop := r.1.length ≤ 1000 ∧ r.2.good ∧ r.2.dep = W.dep ∧ r.2.kd = W.kd ∧ ∀ c, asks + c ≤ 4500 → W.room (asks + c) → r.2.room c
mutual
theorem runB_keep {cs : List Nat} : ∀ (b : Br) {h : Bs} {W : Wd} {ds ds' : List (Nat × Nat)} {r : Bs × Wd}, b.good → W.good → Dr.exec cs (runB b h W) ds = some (r, ds') → Keeps b.asks W r
  | .say ps, h, W, ds, ds', r, gb, g, he => by
    rw [runB] at he
    obtain ⟨rfl, rfl⟩ := Dr.exec_retE he
    exact ⟨by rw [mkS_len]; exact gb.1, g, rfl, rfl, fun c _ hc => Wd.room_mono hc (by simp [Br.asks])⟩
  | .toss bs, h, W, ds, ds', r, gb, g, he => by
    rw [runB] at he
    obtain ⟨h1, h2, h3⟩ := Dr.exec_drawE he
    have := runBs_keep bs h1 gb.2.2 g h3
    exact this
  | .look i a b, h, W, ds, ds', r, gb, g, he => by
    rw [runB] at he
    by_cases c : h.getD i false = false
    · rw [if_pos c] at he
      obtain ⟨k1, k2, k3, k4, k5⟩ := runB_keep a gb.2.1 g he
      exact ⟨k1, k2, k3, k4, fun c hb hc => k5 c (by simp only [Br.asks] at hb; omega) (Wd.room_mono hc (by simp only [Br.asks]; omega))⟩
    · rw [if_neg c] at he
      obtain ⟨k1, k2, k3, k4, k5⟩ := runB_keep b gb.2.2.1 g he
      exact ⟨k1, k2, k3, k4, fun c hb hc => k5 c (by simp only [Br.asks] at hb; omega) (Wd.room_mono hc (by simp only [Br.asks]; omega))⟩
  | .ask ps n, h, W, ds, ds', r, gb, g, he => by
    rw [runB] at he
    obtain ⟨p, ds2, e1, e2⟩ := Dr.exec_bindE he
    obtain ⟨j1, j2, j3, j4, j5⟩ := ansM_keep g e1
    obtain ⟨k1, k2, k3, k4, k5⟩ := runB_keep n gb.2.1 j2 e2
    exact ⟨k1, k2, k3.trans j3, k4.trans j4, fun c hb hc => k5 c (by simp only [Br.asks] at hb; omega) (j5 _ (Wd.room_mono hc (by simp only [Br.asks]; omega)))⟩
theorem runBs_keep {cs : List Nat} : ∀ (bs : List Br) {i : Nat} {h : Bs} {W : Wd} {ds ds' : List (Nat × Nat)} {r : Bs × Wd}, i < bs.length → Br.goods bs → W.good → Dr.exec cs (runBs bs i h W) ds = some (r, ds') → Keeps (Br.asksL bs) W r
  | [], i, h, W, ds, ds', r, hi, gb, g, he => by simp at hi
  | b :: l, 0, h, W, ds, ds', r, hi, gb, g, he => by
    rw [runBs] at he
    obtain ⟨k1, k2, k3, k4, k5⟩ := runB_keep b gb.1 g he
    exact ⟨k1, k2, k3, k4, fun c hb hc => k5 c (by simp only [Br.asksL] at hb; omega) (Wd.room_mono hc (by simp only [Br.asksL]; omega))⟩
  | b :: l, i + 1, h, W, ds, ds', r, hi, gb, g, he => by
    rw [runBs] at he
    obtain ⟨k1, k2, k3, k4, k5⟩ := runBs_keep l (by simpa using hi) gb.2 g he
    exact ⟨k1, k2, k3, k4, fun c hb hc => k5 c (by simp only [Br.asksL] at hb; omega) (Wd.room_mono hc (by simp only [Br.asksL]; omega))⟩
end
theorem kd_mark {w : Wd} {l : List Nat} (h : w.kd = 4 :: l) : ∃ a u, w = .mark a u ∧ u.kd = l := by
  cases w <;> simp [Wd.kd] at h ⊢
  exact ⟨_, _, ⟨rfl, rfl⟩, h⟩
theorem kd_secret {w : Wd} {l : List Nat} (h : w.kd = 3 :: l) : ∃ a b c u, w = .secret a b c u ∧ u.kd = l := by
  cases w <;> simp [Wd.kd] at h ⊢
  exact ⟨_, _, _, _, ⟨rfl, rfl, rfl, rfl⟩, h⟩
theorem kd_notes {w : Wd} {l : List Nat} (h : w.kd = 5 :: l) : ∃ a u, w = .notes a u ∧ u.kd = l := by
  cases w <;> simp [Wd.kd] at h ⊢
  exact ⟨_, _, ⟨rfl, rfl⟩, h⟩
theorem kd_dep : ∀ {u v : Wd}, u.kd = v.kd → u.dep = v.dep
  | .silent, v, h => by cases v <;> simp [Wd.kd] at h ⊢ <;> rfl
  | .keyed .., v, h => by cases v <;> simp [Wd.kd] at h ⊢ <;> rfl
  | .any .., v, h => by cases v <;> simp [Wd.kd] at h ⊢ <;> rfl
  | .secret _ _ _ u, v, h => by cases v <;> simp [Wd.kd] at h ⊢; exact congrArg (· + 1) (kd_dep h)
  | .mark _ u, v, h => by cases v <;> simp [Wd.kd] at h ⊢; exact congrArg (· + 1) (kd_dep h)
  | .notes _ u, v, h => by cases v <;> simp [Wd.kd] at h ⊢; exact congrArg (· + 1) (kd_dep h)
  | .tree .., v, h => by cases v <;> simp [Wd.kd] at h ⊢ <;> rfl
theorem runM_keep {cs : List Nat} : ∀ (b : Mb) {ch : Bs} {W : Wd} {ds ds' : List (Nat × Nat)} {r : Bs × Wd}, b.ok → b.okc ch → W.good → Dr.exec cs (b.runM ch W) ds = some (r, ds') → Keeps b.asks W r
  | .plain b, ch, W, ds, ds', r, o, oc, g, he => runB_keep b o.1 g he
  | .longer n m rows k i, ch, W, ds, ds', r, o, oc, g, he => by
    obtain ⟨o1, rfl, o3, o4, o5, o6⟩ := o
    obtain ⟨h1, h2, h3⟩ := Dr.exec_drawE he
    obtain ⟨f, ds1, h4, h5⟩ := Dr.exec_bindE h3
    obtain ⟨p, ds2, h6, h7⟩ := Dr.exec_bindE h5
    obtain ⟨rfl, rfl⟩ := Dr.exec_retE h7
    have hl := strD_len h4
    have oc' : ch.length = n + 1 := oc
    have := o1.putLen rfl (k - cs.getD ds.length 0 - 1) ch.dropLast (by rw [List.length_dropLast]; omega)
    obtain ⟨k1, _⟩ := runM_keep i o4 (o6 _ (by simp only [List.length_append, hl, this, List.length_singleton]; omega)) (W := .silent) trivial h6
    exact ⟨k1, g, rfl, rfl, fun c _ hc => Wd.room_mono hc (by simp [Mb.asks])⟩
  | .tree n m rows d q i, ch, W, ds, ds', r, o, oc, g, he => by
    obtain ⟨o1, rfl, o3, o4, o5, o6, o7, o8⟩ := o
    obtain ⟨h1, h2, h3⟩ := Dr.exec_drawE he
    obtain ⟨p, ds2, h6, h7⟩ := Dr.exec_bindE h3
    obtain ⟨rfl, rfl⟩ := Dr.exec_retE h7
    have hlv := lvlM_lt _ _ h1
    rw [show (turnsL d q).length = d by simp [turnsL]] at hlv
    obtain ⟨k1, _⟩ := runM_keep i o6 o8 (W := .tree ..) ⟨o1, o3, o5, hlv, oc, by simp⟩ h6
    exact ⟨k1, g, rfl, rfl, fun c _ hc => Wd.room_mono hc (by simp [Mb.asks])⟩
  | .marks l m i, ch, W, ds, ds', r, o, oc, g, he => by
    obtain ⟨o1, o2, o3, o4, o5⟩ := o
    obtain ⟨p, ds2, h6, h7⟩ := Dr.exec_bindE he
    obtain ⟨k1, k2, k3, k4, k5⟩ := runM_keep i o3 o5 (W := .mark [] W) g h6
    obtain ⟨a, u, e, ek⟩ := kd_mark k4
    have er : ∀ c, 1 + i.asks + c ≤ 4500 → W.room (1 + i.asks + c) → u.room (1 + c) := fun c hb hc => by
      have := k5 (1 + c) (by omega) ⟨by simp; omega, Wd.room_mono hc (by omega)⟩
      rw [e] at this; exact this.2
    have es : p.2.sub = u := by rw [e]; rfl
    have k2' : u.good := by rw [e] at k2; exact k2
    by_cases c : p.1.length ≠ l + m ∨ p.1.take l ∈ p.2.askedS
    · rw [if_pos c] at h7
      obtain ⟨rfl, rfl⟩ := Dr.exec_retE h7
      rw [es]
      exact ⟨by simp, k2', kd_dep ek, ek, fun c hb hc => Wd.room_mono (er c hb hc) (by omega)⟩
    · rw [if_neg c, es] at h7
      obtain ⟨p2, ds3, h8, h9⟩ := Dr.exec_bindE h7
      obtain ⟨rfl, rfl⟩ := Dr.exec_retE h9
      obtain ⟨j1, j2, j3, j4, j5⟩ := ansM_keep (w := u) k2' h8
      exact ⟨by simp, j2, j3.trans (kd_dep ek), j4.trans ek, fun c hb hc => j5 c (Wd.room_mono (er c hb hc) (by omega))⟩
  | .secrets l m i, ch, W, ds, ds', r, o, oc, g, he => by
    obtain ⟨o1, o2, o3, o4, o5⟩ := o
    obtain ⟨h1, h2, h3⟩ := Dr.exec_drawE he
    obtain ⟨p, ds2, h6, h7⟩ := Dr.exec_bindE h3
    obtain ⟨rfl, rfl⟩ := Dr.exec_retE h7
    obtain ⟨k1, k2, k3, k4, k5⟩ := runM_keep i o3 o5 (W := .secret l m _ W) ⟨o1, o2, by omega, g⟩ h6
    obtain ⟨a, b, c, u, e, ek⟩ := kd_secret k4
    rw [e] at k2 k5
    rw [e]
    exact ⟨by simp, k2.2.2.2, kd_dep ek, ek, fun c hb hc => k5 c hb hc⟩
/-! Part A21: made breakers run. -/
open PySem PySem.Spec PyProof.Rows L2
theorem r_new0 {C : Addr} {σ : L2.St} {H : Hp} {Q : VK} (h : ∀ x dx H1, Same H H1 → H x = none → H1 x = some (.ins C dx []) → Q (.ref x) H1) : tNew0 C σ H Q := fun x dx n1 n2 n3 =>
  h x dx _ ((same_upd n2).trans (same_upd (by rw [upd_ne n3.symm]; exact n1))) n1 upd_same
/-- an instance is made: what the __init__ is handed -/
theorem mkE {H1 H2 : Hp} {C x dx : Addr} (e : upd (upd H1 dx (.own x)) x (.ins C dx []) = H2) (n1 : H1 x = none) (n2 : H1 dx = none) (n3 : dx ≠ x) :
    Same H1 H2 ∧ (∀ D H3, FrB x D H2 H3 → Fr D H1 H3) ∧ H2 x = some (.ins C dx []) := by
  subst e
  exact ⟨(same_upd n2).trans (same_upd (by rw [upd_ne n3.symm]; exact n1)), fun D H3 f => f.fr n1 n2, upd_same⟩
local macro_rules | `(tactic| walk_at "mk") => `(tactic| (intro x dx n1 n2 n3; generalize e : upd (upd _ dx _) x _ = H2; obtain ⟨s2, fB, h2⟩ := mkE e n1 n2 n3; clear e n3 n2))
theorem noneS {H H1 : Hp} {x : Addr} (s : Same H H1) (h : H1 x = none) : H x = none := by
  cases z : H x with
  | none => rfl
  | some o => rw [s _ _ z] at h; cases h
theorem emS : V.str (Str.ofString "") = V.str (bstr []) := congrArg V.str stE
theorem TapeR.no {K : PySem.W.Frag} {τ : Tp} {cs : List Nat} {ds : List (Nat × Nat)} {H : Hp} {x : Addr} (h : TapeR K τ cs ds H) (n : H x = none) : τ.lc ≠ x ∧ τ.ld ≠ x := by
  obtain ⟨_, _, hlc, us, hld, _⟩ := h
  refine ⟨fun z => ?_, fun z => ?_⟩
  · rw [z, n] at hlc; cases hlc
  · rw [z, n] at hld; cases hld
theorem RepW.some {K : PySem.W.Frag} {t : Addr} {H : Hp} : ∀ {w : Wd} {a : Addr} {D : List Addr}, RepW K t w H a D → ∀ x ∈ D, H x ≠ none
  | .silent, a, D, ⟨h1, _⟩, x, hx => by rw [h1] at hx; simp at hx
  | .keyed .., a, D, ⟨h1, _⟩, x, hx => by rw [h1] at hx; simp at hx
  | .any .., a, D, ⟨dx, da, h1, h2, h3⟩, x, hx => by
    rw [h1] at hx
    rw [List.mem_singleton.mp hx, h3]; simp
  | .secret .., a, D, ⟨dx, wa, h1, h2⟩, x, hx => RepW.some h2 x hx
  | .mark .., a, D, ⟨dx, wa, da, D', h1, h2, h3, h4, h5⟩, x, hx => by
    rw [h1] at hx
    rcases List.mem_cons.mp hx with rfl | hx
    · rw [h4]; simp
    · exact RepW.some h5 x hx
  | .notes .., a, D, ⟨dx, wa, da, D', vs, h1, h2, h3, h4, h5, h6⟩, x, hx => by
    rw [h1] at hx
    rcases List.mem_cons.mp hx with rfl | hx
    · rw [h4]; simp
    · exact RepW.some h6 x hx
  | .tree .., a, D, ⟨dx, vb, da, h1, h2, h3, h4⟩, x, hx => by
    rw [h1] at hx
    rw [List.mem_singleton.mp hx, h3]; simp
section
variable {P : Program} {w : World} {K : PySem.W.Frag} {mg : Str → Option Value} {base : Heap}
abbrev RunOk (P : Program) (w : World) (K : PySem.W.Frag) (mg : Str → Option Value) (base : Heap) (k : Nat) (x : Str) (b : Mb) (j : Nat) : Prop := C8.Cal P w K mg base k x (spN 4 (spRun K (encM b) b.asks j b.runM b.okc)) []
theorem c_run_longer (T : Tx w K mg) (kk : Nat) (hk : 3 ≤ kk) (n m : Nat) (rows : List Bs) (k : Nat) (i : Mb) (j : Nat) (o : (Mb.longer n m rows k i).ok) (hin : RunOk P w K mg base kk "run_breaker" i 0) : RunOk P w K mg base (kk + 1) "run_longer" (.longer n m rows k i) j := by
  refine mkFn T.fn_run_longer sc_run_longer (fun _ _ _ _ _ _ us hl => match us, hl with | [_, _, _, _], _ => rfl) (fun f cdv A outer s H vs Q E hr _ h => ?_)
  obtain ⟨vb, τ, cs, ds, ch, W0, wa, D, r, ds', rfl, hb, hch, ht, hw, n1, n2, g, hj, hm, he, q⟩ := h
  obtain ⟨o1, rfl, o3, o4, o5, o6⟩ := o
  obtain ⟨h1, h2, h3⟩ := Dr.exec_drawE he
  obtain ⟨fs, ds1, h4, h5⟩ := Dr.exec_bindE h3
  obtain ⟨p, ds2, h6, h7⟩ := Dr.exec_bindE h5
  obtain ⟨rfl, rfl⟩ := Dr.exec_retE h7
  have hch : ch.length = n + 1 := hch
  obtain ⟨tx, hti⟩ := ht.ins
  obtain ⟨pb, _, rfl, hpb, _, _, rfl, z0, vg, _, rfl, hvg, _, _, rfl, z2, vi, _, rfl, hvi, rfl⟩ := hb
  obtain rfl := z0
  obtain rfl := z2
  have on2 := o1.n2
  refine ⟨_, (pss_cons (ps_asg (pv 0) (pgTK (K := K) (n := 4) rfl (pgs_cons (pg_name (i := 4) sc_run_longer.nd rfl (by first | exact Or.inl rfl | exact Or.inr rfl)) (pgs_cons (pg_name (i := 5) sc_run_longer.nd rfl (by first | exact Or.inl rfl | exact Or.inr rfl)) (pgs_cons (pg_name (i := 6) sc_run_longer.nd rfl (by first | exact Or.inl rfl | exact Or.inr rfl)) (pgs_cons (pg_name (i := 7) sc_run_longer.nd rfl (by first | exact Or.inl rfl | exact Or.inr rfl)) pgs_nil)))) (hn := by rfl)))
  (pss_cons (ps_set (i := 8) sc_run_longer.nd rfl (by first | exact Or.inl rfl | exact Or.inr rfl) (C8.pe_mt (t_Tape_draw T) hr (by first | decide | omega) (pv 1) (pa_cons (pv 6) pa_nil)))
  (pss_cons (ps_set (i := 9) sc_run_longer.nd rfl (by first | exact Or.inl rfl | exact Or.inr rfl) (C8.pe_mt (t_Tape_string T) hr (by first | decide | omega) (pv 1) (pa_cons (pv 8) pa_nil)))
  (pss_cons (ps_set (i := 10) sc_run_longer.nd rfl (by first | exact Or.inl rfl | exact Or.inr rfl) (pe_op op_addS (pe_op op_addS (pv 9) (pe_ix (ixK (K := K)) (pv 2) (pe_un un_neg pe_int) (fun _ _ => rfl))) (C8.pe_c (c_put_out T) hr (by first | decide | omega) (by rfl) (pa_cons (pv 5) (pa_cons (pe_slice sl_str (pv 2) po_none (po_some (pe_un un_neg pe_int))) (pa_cons (pe_op op_sub (pe_op op_sub (pv 6) (pv 8)) pe_int) pa_nil))))))
  (pss_one (ps_ret (C8.pe_c hin hr (by first | decide | omega) (by rfl) (pa_cons (pv 7) (pa_cons (pv 1) (pa_cons (pv 10) (pa_cons (pe_new0 T.silent (by rfl) T.g_Silent) pa_nil))))))))))), ?_⟩
  walk_at "gof"
  refine r_gTup (SqT.of hpb) rfl ?_
  walk_at "gof"
  refine ⟨τ, cs, ds, k, rfl, ht, h1, h2, fun H1 f1 t1 => ?_⟩
  generalize cs.getD ds.length 0 = x at h1 h4 h6 t1
  walk_at "gof"
  refine ⟨τ, cs, _, fs, ds1, x, rfl, t1, by omega, h4, fun H2 f2 t2 => ?_⟩
  have hfl := strD_len h4
  walk_at "gof"
  have hne : ch ≠ [] := fun z => by rw [z] at hch; simp at hch
  refine r_ixSlast (b := ch.getLastD false) (by omega) (by rw [List.getLast?_eq_some_getLast hne, List.getLastD_eq_getLast?, List.getLast?_eq_some_getLast hne]; rfl) ?_
  refine r_addS ?_ ?_
  · simp; omega
  walk_at "gof"
  refine r_slInit ?_ ?_
  · omega
  walk_at "gof"
  rw [show ((k : Int) - x - 1) = ((k - x - 1 : Nat) : Int) by omega]
  have f02 : Fr [τ.ld] H H2 := f1.trans f2
  have hdl : ch.dropLast.length = n := by rw [List.length_dropLast]; omega
  refine ⟨vg, ch.dropLast, n, _, rows, k - x - 1, rfl, f02.td hvg, o1, rfl, hdl, by omega, fun H3 s3 => ?_⟩
  have hpl := o1.putLen rfl (k - x - 1) ch.dropLast hdl
  refine r_addS ?_ ?_
  · simp only [List.length_append, hfl, hpl, List.length_singleton]; omega
  walk_at "gof"
  refine r_new0 fun sx sdx H4 s4 n4 h4 => ?_
  walk_at "gof"
  have s24 := s3.trans s4
  have f04 : Fr [τ.ld] H H4 := f02.trans (Fr.of s24)
  refine ⟨vi, τ, cs, ds1, _, .silent, sx, [], p, ds2, rfl, f04.td hvi, o6 _ (by simp only [List.length_append, hfl, hpl, List.length_singleton]; omega), t2.same s24, ⟨rfl, sdx, h4⟩, by simp, by simp, trivial, rfl, by rw [o5]; rfl, h6, fun H5 f5 t5 _ => ?_⟩
  have f05 : Fr [τ.ld] H H5 := f04.trans f5
  exact q H5 (f05.mono (by simp)) t5 (RepW.fr f05 hw fun x hx => by simpa using fun z : x = τ.ld => n2 (z ▸ hx))
theorem c_run_tree (T : Tx w K mg) (kk : Nat) (hk : 3 ≤ kk) (n m : Nat) (rows : List Bs) (d qq : Nat) (i : Mb) (j : Nat) (o : (Mb.tree n m rows d qq i).ok) (hin : RunOk P w K mg base kk "run_breaker" i 0) : RunOk P w K mg base (kk + 1) "run_tree" (.tree n m rows d qq i) j := by
  refine mkFn T.fn_run_tree sc_run_tree (fun _ _ _ _ _ _ us hl => match us, hl with | [_, _, _, _], _ => rfl) (fun f cdv A outer s H vs Q E hr _ h => ?_)
  obtain ⟨vb, τ, cs, ds, ch, W0, wa, D, r, ds', rfl, hb, hch, ht, hw, n1, n2, g, hj, hm, he, q⟩ := h
  obtain ⟨o1, rfl, o3, o4, o5, o6, o7, o8⟩ := o
  obtain ⟨h1, h2, h3⟩ := Dr.exec_drawE he
  obtain ⟨p, ds2, h6, h7⟩ := Dr.exec_bindE h3
  obtain ⟨rfl, rfl⟩ := Dr.exec_retE h7
  have hch : ch.length = 2 * n := hch
  have hb' := hb
  rw [encM] at hb
  have hlv := lvlM_lt _ _ h1
  rw [show (turnsL d qq).length = d by simp [turnsL]] at hlv
  refine ⟨_, (pss_one (ps_ret (C8.pe_c hin hr (by first | decide | omega) (by rfl) (pa_cons (pe_ix (ixK (K := K)) (pv 0) pe_int (fun _ _ => rfl)) (pa_cons (pv 1) (pa_cons pe_str (pa_cons (C8.pe_mk (m_TreeWorld T) hr (by first | decide | omega) (by rfl) (pa_cons (pv 1) (pa_cons (pv 0) (pa_cons (pv 2) pa_nil)))) pa_nil))))))), ?_⟩
  walk_at "gof"
  walk_at "mk"; rename_i x dx nx H2 s2 fB h2
  rename_i vi hvi
  refine ⟨rfl, ?_⟩
  refine ⟨x, dx, τ, cs, ds, vb, n, rows, d, qq, i, ch, _, rfl, h2, ht.same s2, hb'.same s2, o5, rfl, h1, by assumption, fun da vg H3 nda fr3 t3 hvg3 i3 hd3 => ?_⟩
  have f03 := fB _ _ fr3
  refine ⟨rfl, ?_⟩
  walk_at "gof"
  rw [emS]
  obtain ⟨e1, e2⟩ := (ht.same s2).no nda
  refine ⟨vi, τ, cs, _, [], .tree n rows d _ _ ch [], x, [da], p, ds2, rfl, f03.td hvi, o8, t3, ⟨dx, vg, da, rfl, i3, hd3, hvg3⟩, by simpa using e1, by simpa using e2, ⟨o1, o3, o5, hlv, hch, by simp⟩, rfl, by show 0 + i.asks ≤ 5000; omega, h6, fun H5 f5 t5 _ => ?_⟩
  have f05 : Fr [τ.ld] H H5 := ((f03.mono (by simp)).trans f5).drop fun b hb hb' => by
    simp only [List.mem_cons, List.not_mem_nil, or_false] at hb hb'
    rcases hb with rfl | rfl
    · exact absurd rfl hb'
    · exact noneS s2 nda
  exact q H5 (f05.mono (by simp)) t5 (RepW.fr f05 hw fun x hx => by simpa using fun z : x = τ.ld => n2 (z ▸ hx))
theorem c_run_secrets (T : Tx w K mg) (kk : Nat) (hk : 2 ≤ kk) (l m : Nat) (i : Mb) (j : Nat) (o : (Mb.secrets l m i).ok) (hin : RunOk P w K mg base kk "run_breaker" i (j + 1)) : RunOk P w K mg base (kk + 1) "run_secrets" (.secrets l m i) j := by
  refine mkFn T.fn_run_secrets sc_run_secrets (fun _ _ _ _ _ _ us hl => match us, hl with | [_, _, _, _], _ => rfl) (fun f cdv A outer s H vs Q E hr _ h => ?_)
  obtain ⟨vb, τ, cs, ds, ch, W0, wa, D, r, ds', rfl, hb, hch, ht, hw, n1, n2, g, hj, hm, he, q⟩ := h
  obtain ⟨o1, o2, o3, o4, o5⟩ := o
  obtain ⟨h1, h2, h3⟩ := Dr.exec_drawE he
  obtain ⟨p, ds2, h6, h7⟩ := Dr.exec_bindE h3
  obtain ⟨rfl, rfl⟩ := Dr.exec_retE h7
  obtain ⟨tx, hti⟩ := ht.ins
  obtain ⟨pb, _, rfl, hpb, _, _, rfl, z0, _, _, rfl, z1, _, _, rfl, z2, vi, _, rfl, hvi, rfl⟩ := hb
  obtain rfl := z0
  obtain rfl := z1
  obtain rfl := z2
  refine ⟨_, (pss_cons (ps_asg (pv 0) (pgTK (K := K) (n := 4) rfl (pgs_cons (pg_name (i := 4) sc_run_secrets.nd rfl (by first | exact Or.inl rfl | exact Or.inr rfl)) (pgs_cons (pg_name (i := 5) sc_run_secrets.nd rfl (by first | exact Or.inl rfl | exact Or.inr rfl)) (pgs_cons (pg_name (i := 6) sc_run_secrets.nd rfl (by first | exact Or.inl rfl | exact Or.inr rfl)) (pgs_cons (pg_name (i := 7) sc_run_secrets.nd rfl (by first | exact Or.inl rfl | exact Or.inr rfl)) pgs_nil)))) (hn := by rfl)))
  (pss_cons (ps_set (i := 8) sc_run_secrets.nd rfl (by first | exact Or.inl rfl | exact Or.inr rfl) (C8.pe_mt (t_Tape_draw T) hr (by first | decide | omega) (pv 1) (pa_cons pe_int pa_nil)))
  (pss_one (ps_ret (C8.pe_c (c_guessed T) hr (by first | decide | omega) (by rfl) (pa_cons (C8.pe_c hin hr (by first | decide | omega) (by rfl) (pa_cons (pv 7) (pa_cons (pv 1) (pa_cons pe_str (pa_cons (C8.pe_mk (m_SecretWorld T) hr (by first | decide | omega) (by rfl) (pa_cons (pv 1) (pa_cons (pv 3) (pa_cons (pv 5) (pa_cons (pv 6) (pa_cons (pv 8) pa_nil)))))) pa_nil))))) (pa_cons (pv 8) pa_nil))))))), ?_⟩
  walk_at "gof"
  refine r_gTup (SqT.of hpb) rfl ?_
  walk_at "gof"
  refine ⟨τ, cs, ds, 2, rfl, ht, h1, h2, fun H1 f1 t1 => ?_⟩
  generalize cs.getD ds.length 0 = b at h1 h6 t1 q
  have w1 : RepW K τ.t W0 H1 wa D := RepW.fr f1 hw fun x hx => by simpa using fun z : x = τ.ld => n2 (z ▸ hx)
  walk_at "gof"
  walk_at "mk"; rename_i x dx nx H2 s2 fB h2
  refine ⟨rfl, ?_⟩
  refine ⟨x, dx, τ.t, wa, l, m, b, rfl, h2, fun H3 fr3 i3 => ?_⟩
  have f13 := fB _ _ fr3
  have w3 : RepW K τ.t W0 H3 wa D := RepW.fr f13 w1 (by simp)
  refine ⟨rfl, ?_⟩
  rw [emS]
  walk_at "gof"
  refine ⟨vi, τ, cs, _, [], .secret l m b W0, x, D, p, ds2, rfl, f13.td (f1.td hvi), o5, t1.fr f13 (by simp) (by simp), ⟨dx, wa, i3, w3⟩, n1, n2, ⟨o1, o2, by omega, g⟩, by rw [Wd.dep, hj], hm, h6, fun H5 f5 t5 w5 => ?_⟩
  obtain ⟨k1, k2, k3, k4, k5⟩ := runM_keep i o3 o5 (W := .secret l m b W0) ⟨o1, o2, by omega, g⟩ h6
  obtain ⟨l', m', b', u, e, ek⟩ := kd_secret k4
  rw [e] at w5
  obtain ⟨dx', wa', i5, w5'⟩ := w5
  have i5' := frIns f5 i3
  rw [i5] at i5'
  injection i5' with i5'
  injection i5' with _ _ i5'
  simp only [List.cons.injEq, Prod.mk.injEq, V.ref.injEq, true_and] at i5'
  have ewa : wa' = wa := i5'.1
  subst ewa
  walk_at "gof"
  refine ⟨p.1, b, rfl, ?_⟩
  have f05 : Fr (τ.ld :: D) H H5 := (((f1.mono (by simp)).trans (f13.mono (by simp))).trans f5)
  refine q H5 f05 t5 ?_
  rw [e]
  exact w5'
theorem c_run_marks (T : Tx w K mg) (kk : Nat) (l m : Nat) (i : Mb) (j : Nat) (hk : 4 + j ≤ kk) (o : (Mb.marks l m i).ok) (hin : RunOk P w K mg base kk "run_breaker" i (j + 1)) : RunOk P w K mg base (kk + 1) "run_marks" (.marks l m i) j := by
  refine mkFn T.fn_run_marks sc_run_marks (fun _ _ _ _ _ _ us hl => match us, hl with | [_, _, _, _], _ => rfl) (fun f cdv A outer s H vs Q E hr _ h => ?_)
  obtain ⟨vb, τ, cs, ds, ch, W0, wa, D, r, ds', rfl, hb, hch, ht, hw, n1, n2, g, hj, hm, he, q⟩ := h
  obtain ⟨o1, o2, o3, o4, o5⟩ := o
  obtain ⟨p, ds2, h6, h7⟩ := Dr.exec_bindE he
  obtain ⟨pb, _, rfl, hpb, _, _, rfl, z0, _, _, rfl, z1, _, _, rfl, z2, vi, _, rfl, hvi, rfl⟩ := hb
  obtain rfl := z0
  obtain rfl := z1
  obtain rfl := z2
  have hm : W0.room (1 + i.asks) := hm
  refine ⟨_, (pss_cons (ps_asg (pv 0) (pgTK (K := K) (n := 4) rfl (pgs_cons (pg_name (i := 4) sc_run_marks.nd rfl (by first | exact Or.inl rfl | exact Or.inr rfl)) (pgs_cons (pg_name (i := 5) sc_run_marks.nd rfl (by first | exact Or.inl rfl | exact Or.inr rfl)) (pgs_cons (pg_name (i := 6) sc_run_marks.nd rfl (by first | exact Or.inl rfl | exact Or.inr rfl)) (pgs_cons (pg_name (i := 7) sc_run_marks.nd rfl (by first | exact Or.inl rfl | exact Or.inr rfl)) pgs_nil)))) (hn := by rfl)))
  (pss_cons (ps_set (i := 8) sc_run_marks.nd rfl (by first | exact Or.inl rfl | exact Or.inr rfl) (C8.pe_mk (m_MarkWorld T) hr (by first | decide | omega) (by rfl) (pa_cons (pv 3) pa_nil)))
  (pss_cons (ps_set (i := 9) sc_run_marks.nd rfl (by first | exact Or.inl rfl | exact Or.inr rfl) (C8.pe_c hin hr (by first | decide | omega) (by rfl) (pa_cons (pv 7) (pa_cons (pv 1) (pa_cons pe_str (pa_cons (pv 8) pa_nil))))))
  (pss_cons (ps_if (PW.pt (pw_or (pt_cmpR op_ne (pe_callB (lenK (K := K)) (by rfl) T.f_len bt_len (pa_cons (pv 9) pa_nil)) (pe_op op_add (pv 5) (pv 6)) (by rfl)) (pw_or1 (pt_cmp (pc_din (hu_of hr) (pe_slice sl_str (pv 9) po_none (po_some (pv 5))) (fldK (K := K) (pv 8) rfl)) (by rfl))))) (pss_one (ps_ret pe_str)) pss_nil)
  (pss_one (ps_ret (pe_ifExp (pt_cmpR op_eq (pe_mtD (P := P) (w := w) (K := K) (mg := mg) (base := base) (k := (4 + j)) hr (by first | decide | omega) (pv 3) (pa_cons (pe_slice sl_str (pv 9) po_none (po_some (pv 5))) pa_nil)) (pe_slice sl_str (pv 9) (po_some (pv 5)) po_none) (by rfl)) pe_str pe_str))))))), ?_⟩
  walk_at "gof"
  refine r_gTup (SqT.of hpb) rfl ?_
  walk_at "gof"
  walk_at "mk"; rename_i x dx nx H2 s2 fB h2
  refine ⟨rfl, ?_⟩
  refine ⟨x, dx, wa, rfl, h2, fun da H3 nda fr3 i3 hd3 => ?_⟩
  have f03 := fB _ _ fr3
  have nda0 := noneS s2 nda
  have w3 : RepW K τ.t W0 H3 wa D := RepW.fr f03 hw (by simp)
  refine ⟨rfl, ?_⟩
  rw [emS]
  walk_at "gof"
  obtain ⟨e1, e2⟩ := ht.no nda0
  have daD : da ∉ D := fun z => RepW.some hw da z nda0
  obtain ⟨k1, k2, k3, k4, k5⟩ := runM_keep i o3 o5 (W := .mark [] W0) g h6
  obtain ⟨a, u, e, ek⟩ := kd_mark k4
  refine ⟨vi, τ, cs, _, [], .mark [] W0, x, da :: D, p, ds2, rfl, f03.td hvi, o5, ht.fr f03 (by simp) (by simp), ⟨dx, wa, da, D, rfl, daD, i3, hd3, w3⟩, by simp only [List.mem_cons, not_or]; exact ⟨e1, n1⟩, by simp only [List.mem_cons, not_or]; exact ⟨e2, n2⟩, g, by rw [Wd.dep, hj], ⟨by simp; omega, Wd.room_mono hm (by omega)⟩, h6, fun H5 f5 t5 w5 => ?_⟩
  have w5' := w5
  rw [e] at w5
  obtain ⟨dx', wa', da', D', eD, hn', i5, hd5, wu⟩ := w5
  have i5' := frIns f5 i3
  rw [i5] at i5'
  injection i5' with i5'
  injection i5' with _ _ i5'
  simp only [List.cons.injEq, Prod.mk.injEq, V.ref.injEq, true_and, and_true] at i5'
  obtain ⟨ewa, eda⟩ := i5'
  subst ewa eda
  injection eD with _ eD
  subst eD
  have er : u.room 1 := by
    have := k5 1 (by omega) ⟨by simp; omega, Wd.room_mono hm (by omega)⟩
    rw [e] at this; exact this.2
  rw [e] at h7 k2
  have h7 : Dr.exec cs (if p.1.length ≠ l + m ∨ p.1.take l ∈ a then .ret ([false], u) else (ansM u (p.1.take l)).bind fun a => .ret ([decide (a.1 = p.1.drop l)], a.2)) ds2 = some (r, ds') := h7
  have f05 : Fr (τ.ld :: D) H H5 := ((f03.mono (by simp)).trans f5).drop fun b hb hb' => by
    simp only [List.mem_cons, not_or] at hb hb'
    rcases hb with rfl | rfl | hb
    · exact absurd rfl hb'.1
    · exact nda0
    · exact absurd hb hb'.2
  walk_at "gof"
  have z0S : V.str (Str.ofString "0") = V.str (bstr [false]) := congrArg V.str st0
  have z1S : V.str (Str.ofString "1") = V.str (bstr [true]) := congrArg V.str st1
  by_cases cl : p.1.length = l + m
  · refine ite_f (by simp; omega) ?_
    walk_at "gof"
    refine r_slTo (by simp) (by omega) ?_
    rw [Int.toNat_natCast]
    walk_at "gof"
    refine r_dget0 hd5 rfl ?_
    walk_at "gof"
    by_cases cm : p.1.take l ∈ a
    · refine ite_t (by rw [valV_asked]; simpa using cm) ?_
      walk_at "gof"
      rw [if_pos (.inr cm)] at h7
      obtain ⟨rfl, rfl⟩ := Dr.exec_retE h7
      rw [z0S]
      exact q H5 f05 t5 wu
    · refine ite_f (by rw [valV_asked]; simpa using cm) ?_
      rw [if_neg (by simp [cl, cm])] at h7
      obtain ⟨p2, ds3, h8, h9⟩ := Dr.exec_bindE h7
      obtain ⟨rfl, rfl⟩ := Dr.exec_retE h9
      have lv := Wd.room_lives er
      obtain ⟨dw, fw, hwi, hlk⟩ := wu.ins
      walk_at "gof"
      refine ⟨wa', _, dw, fw, _, rfl, hwi, hlk, ((kd_dep ek).trans hj) ▸ met_ans T u lv, ?_⟩
      walk_at "gof"
      refine r_slTo (by simp) (by omega) ?_
      rw [Int.toNat_natCast]
      walk_at "gof"
      refine ⟨τ, cs, ds2, wa', D, p.1.take l, p2, ds3, rfl, by rw [List.length_take]; omega, t5, wu, n1, n2, k2, er, h8, fun H6 f6 t6 w6 => ?_⟩
      walk_at "gof"
      refine r_slFrom (by simp) (by omega) ?_
      rw [Int.toNat_natCast]
      walk_at "gof"
      have f06 : Fr (τ.ld :: D) H H6 := f05.trans f6
      by_cases c6 : p2.1 = p.1.drop l
      · rw [decide_eq_true c6] at q
        refine ite_t (by rw [c6]; simp) ?_
        walk_at "gof"
        rw [z1S]
        exact q H6 f06 t6 w6
      · rw [decide_eq_false c6] at q
        refine ite_f (by rw [decide_eq_true_eq]; exact fun z => c6 (bstr_inj z)) ?_
        walk_at "gof"
        rw [z0S]
        exact q H6 f06 t6 w6
  · refine ite_t (by simp; omega) ?_
    walk_at "gof"
    rw [if_pos (.inl cl)] at h7
    obtain ⟨rfl, rfl⟩ := Dr.exec_retE h7
    rw [z0S]
    exact q H5 f05 t5 wu
end
/-! Part A22: any breaker runs. -/
open PySem PySem.Spec PyProof.Rows L2
section
variable {P : Program} {w : World} {K : PySem.W.Frag} {mg : Str → Option Value} {base : Heap}
theorem sayGood : (Mb.plain (.say [])).good := ⟨⟨by simp, by simp⟩, by simp [Br.size], by simp [Br.depth]⟩
theorem rb_made (T : Tx w K mg) (kk : Nat) (hk : 5 ≤ kk) (b : Mb) (j : Nat) (word x : Str) (ds0 : List PyData) (hd : encM b = .tuple (.str word :: ds0))
    (hz : (word, V.ref (He.ga K x)) ∈ ([("counter", .ref (He.ga K "run_counter")), ("cut", .ref (He.ga K "run_cut")), ("bit", .ref (He.ga K "run_bit")), ("longer", .ref (He.ga K "run_longer")), ("tree", .ref (He.ga K "run_tree")), ("marks", .ref (He.ga K "run_marks")), ("secrets", .ref (He.ga K "run_secrets")), ("once", .ref (He.ga K "run_once")), ("opening", .ref (He.ga K "run_opening")), ("onetime", .ref (He.ga K "run_onetime")), ("next", .ref (He.ga K "run_next")), ("guess", .ref (He.ga K "run_guess")), ("hard", .ref (He.ga K "run_hard"))] : List (Str × V)))
    (hm : mg x = some (.ref (He.ga K x))) (hin : RunOk P w K mg base kk x b j) : RunOk P w K mg base (kk + 1) "run_breaker" b j := by
  refine mkFn T.fn_run_breaker sc_run_breaker (fun _ _ _ _ _ _ us hl => match us, hl with | [_, _, _, _], _ => rfl) (fun f cdv A outer s H vs Q E hr _ h => ?_)
  have hsp := h
  obtain ⟨vb, τ, cs, ds, ch, W0, wa, D, r, ds', rfl, hb, hch, ht, hw, n1, n2, g, hj, hm', he, q⟩ := h
  have hpl := c_run_plain (P := P) (base := base) T 0 (.say []) sayGood
  rw [hd] at hb
  refine ⟨_, (pss_cons (ps_if (pt_cmpR (inD T.t_RUNS) (pe_ix (ixK (K := K)) (pv 0) pe_int (fun _ _ => rfl)) (C8.pe_gc (by rfl) T.k_RUNS) (by rfl)) (pss_one (ps_ret (pe_callE (P := P) (w := w) (K := K) (mg := mg) (base := base) (k := kk) hr (by first | decide | omega) (pe_ix (ixDK (K := K) (w := w)) (C8.pe_gc (by rfl) T.k_RUNS) (pe_ix (ixK (K := K)) (pv 0) pe_int (fun _ _ => rfl)) (fun _ _ => rfl)) (pa_cons (pv 0) (pa_cons (pv 1) (pa_cons (pv 2) (pa_cons (pv 3) pa_nil))))))) pss_nil)
  (pss_one (ps_ret (C8.pe_c hpl hr (by first | decide | omega) (by rfl) (pa_cons (pv 0) (pa_cons (pv 1) (pa_cons (pv 2) (pa_cons (pv 3) pa_nil)))))))), ?_⟩
  walk_at "gof"
  refine r_inD T.t_RUNS hz ?_
  walk_at "gof"
  refine r_ixK (kdct T.t_RUNS hz) ?_
  obtain ⟨kp, F⟩ := calR hin hm
  refine ⟨_, _, rfl, kp, F, ?_⟩
  walk_at "gof"
  exact hsp
theorem rb_plain (T : Tx w K mg) (b : Br) (j : Nat) (gb : (Mb.plain b).good) : RunOk P w K mg base (6 + j) "run_breaker" (.plain b) j := by
  rw [show 6 + j = (5 + j) + 1 by omega]
  refine mkFn T.fn_run_breaker sc_run_breaker (fun _ _ _ _ _ _ us hl => match us, hl with | [_, _, _, _], _ => rfl) (fun f cdv A outer s H vs Q E hr _ h => ?_)
  have hsp := h
  obtain ⟨vb, τ, cs, ds, ch, W0, wa, D, r, ds', rfl, hb, hch, ht, hw, n1, n2, g, hj, hm', he, q⟩ := h
  have hpl := c_run_plain (P := P) (base := base) T j b gb
  obtain ⟨kk, hkk⟩ : ∃ kk : Nat, kk = 0 := ⟨0, rfl⟩
  have hw : ∃ word ds0, encB b = .tuple (.str word :: ds0) ∧ word ∈ (["say", "toss", "look", "ask"] : List Str) := by
    cases b <;> rw [encB] <;> exact ⟨_, _, rfl, by simp⟩
  obtain ⟨word, ds0, hd, hwd⟩ := hw
  have hb : Td H (encB b) vb := hb
  rw [hd] at hb
  refine ⟨_, (pss_cons (ps_if (pt_cmpR (inD T.t_RUNS) (pe_ix (ixK (K := K)) (pv 0) pe_int (fun _ _ => rfl)) (C8.pe_gc (by rfl) T.k_RUNS) (by rfl)) (pss_one (ps_ret (pe_callE (P := P) (w := w) (K := K) (mg := mg) (base := base) (k := kk) hr (by first | decide | omega) (pe_ix (ixDK (K := K) (w := w)) (C8.pe_gc (by rfl) T.k_RUNS) (pe_ix (ixK (K := K)) (pv 0) pe_int (fun _ _ => rfl)) (fun _ _ => rfl)) (pa_cons (pv 0) (pa_cons (pv 1) (pa_cons (pv 2) (pa_cons (pv 3) pa_nil))))))) pss_nil)
  (pss_one (ps_ret (C8.pe_c hpl hr (by first | decide | omega) (by rfl) (pa_cons (pv 0) (pa_cons (pv 1) (pa_cons (pv 2) (pa_cons (pv 3) pa_nil)))))))), ?_⟩
  walk_at "gof"
  refine ⟨word, none, rfl, rfl, T.noRun _ hwd, ?_⟩
  walk_at "gof"
  walk_at "iff"
  exact hsp
theorem c_run_breaker (T : Tx w K mg) : ∀ (b : Mb) (j : Nat), b.ok → RunOk P w K mg base (b.lev j) "run_breaker" b j
  | .plain b, j, o => rb_plain T b j o
  | .longer n m rows k i, j, o => rb_made T _ (by have := i.lev_ge 0; omega) _ j "longer" "run_longer" _ rfl (by simp) (T.g_fn _ (by simp)) (c_run_longer T _ (by have := i.lev_ge 0; omega) n m rows k i j o (c_run_breaker T i 0 o.2.2.2.1))
  | .tree n m rows d q i, j, o => rb_made T _ (by have := i.lev_ge 0; omega) _ j "tree" "run_tree" _ rfl (by simp) (T.g_fn _ (by simp)) (c_run_tree T _ (by have := i.lev_ge 0; omega) n m rows d q i j o (c_run_breaker T i 0 o.2.2.2.2.2.1))
  | .marks l m i, j, o => rb_made T _ (by have := i.lev_ge (j + 1); omega) _ j "marks" "run_marks" _ rfl (by simp) (T.g_fn _ (by simp)) (c_run_marks T _ l m i j (Nat.le_max_right _ _) o (calUp (c_run_breaker T i (j + 1) o.2.2.1) (Nat.le_max_left _ _)))
  | .secrets l m i, j, o => rb_made T _ (by have := i.lev_ge (j + 1); omega) _ j "secrets" "run_secrets" _ rfl (by simp) (T.g_fn _ (by simp)) (c_run_secrets T _ (by have := i.lev_ge (j + 1); omega) l m i j o (c_run_breaker T i (j + 1) o.2.2.1))
end
/-! Part A23: what a game begins with. -/
open PySem PySem.Spec PyProof.Rows L2
def covM (n m : Nat) (rows : List Bs) (real : Bool) : Dr Bs := if real then (strD n).bind fun s => .ret (rowAt rows s) else strD m
def wldM (n l m : Nat) (tab : List (List Bs)) (real : Bool) : Dr Wd := if real then (strD n).bind fun k => .ret (.keyed n l m tab k) else .ret (.any l m [])
section
variable {P : Program} {w : World} {K : PySem.W.Frag} {mg : Str → Option Value} {base : Heap}
theorem m_Play (T : Tx w K mg) : C8.Mak P w K mg base 1 "Play" (aPlay K) (spN 5 fun vs H Q _ => ∃ a dx v1 v2 v3 v4, vs = [.ref a, v1, v2, v3, v4] ∧ H a = some (.ins (aPlay K) dx []) ∧
    ∀ H', FrB a [] H H' → H' a = some (.ins (aPlay K) dx [("outcome", v1), ("said", v2), ("draws", v3), ("asked", v4)]) → Q .non H') [] := by
  refine mkIn T.g_Play T.fn_Play_init sc_Play_init (fun _ _ _ _ _ _ us hl => match us, hl with | [_, _, _, _, _], _ => rfl) (fun f cdv A outer s H vs Q E hr _ h => ?_)
  obtain ⟨a, dx, v1, v2, v3, v4, rfl, ha, q⟩ := h
  refine ⟨_, (pss_cons (stK (K := K) (pv 0) (pv 1) rfl)
  (pss_cons (stK (K := K) (pv 0) (pv 2) rfl)
  (pss_cons (stK (K := K) (pv 0) (pv 3) rfl)
  (pss_one (stK (K := K) (pv 0) (pv 4) rfl))))), ?_⟩
  walk_at "gof"
  intro H1 e1
  obtain ⟨f1, i1⟩ := putI (fs' := [("outcome", v1)]) e1 rfl
  walk_at "gof"
  intro H2 e2
  obtain ⟨f2, i2⟩ := putI (fs' := [("outcome", v1), ("said", v2)]) e2 rfl
  walk_at "gof"
  intro H3 e3
  obtain ⟨f3, i3⟩ := putI (fs' := [("outcome", v1), ("said", v2), ("draws", v3)]) e3 rfl
  walk_at "gof"
  intro H4 e4
  obtain ⟨f4, i4⟩ := putI (fs' := [("outcome", v1), ("said", v2), ("draws", v3), ("asked", v4)]) e4 rfl
  walk_at "gof"
  exact q H4 (((f1.trans f2).trans f3).trans f4) i4
theorem c_cover (T : Tx w K mg) : C8.Cal P w K mg base 3 "cover" (spN 3 fun vs H Q _ => ∃ τ cs ds vb n m rows real r ds', vs = [.ref (Tp.t τ), vb, .bl real] ∧ TapeR K τ cs ds H ∧ Td H (encG n m rows) vb ∧ GoodG n m rows ∧ Dr.exec cs (covM n m rows real) ds = some (r, ds') ∧
    ∀ H', Fr [τ.ld] H H' → TapeR K τ cs ds' H' → Q (.str (bstr r)) H') [] := by
  refine mkFn T.fn_cover sc_cover (fun _ _ _ _ _ _ us hl => match us, hl with | [_, _, _], _ => rfl) (fun f cdv A outer s H vs Q E hr _ h => ?_)
  obtain ⟨τ, cs, ds, vb, n, m, rows, real, r, ds', rfl, ht, hb, G, he, q⟩ := h
  obtain ⟨tx, hti⟩ := ht.ins
  refine ⟨_, (pss_cons (ps_if (pt_val (pv 2)) (pss_one (ps_ret (C8.pe_c (c_row_at T) hr (by first | decide | omega) (by rfl) (pa_cons (pv 1) (pa_cons (C8.pe_mt (t_Tape_string T) hr (by first | decide | omega) (pv 0) (pa_cons (pe_ix (ixK (K := K)) (pv 1) pe_int (fun _ _ => rfl)) pa_nil)) pa_nil))))) pss_nil)
  (pss_one (ps_ret (C8.pe_mt (t_Tape_string T) hr (by first | decide | omega) (pv 0) (pa_cons (pe_ix (ixK (K := K)) (pv 1) pe_int (fun _ _ => rfl)) pa_nil))))), ?_⟩
  walk_at "gof"
  unfold covM at he
  cases real with
  | true =>
    obtain ⟨sd, ds1, h1, h2⟩ := Dr.exec_bindE he
    obtain ⟨rfl, rfl⟩ := Dr.exec_retE h2
    walk_at "gof"
    refine ⟨τ, cs, ds, sd, ds1, n, rfl, ht, Nat.le_trans G.n2 (by decide), h1, fun H1 f1 t1 => ?_⟩
    walk_at "gof"
    refine ⟨vb, sd, n, m, rows, rfl, f1.td hb, G, strD_len h1, ?_⟩
    walk_at "gof"
    exact q H1 f1 t1
  | false =>
    walk_at "gof"
    refine ⟨τ, cs, ds, r, ds', m, rfl, ht, Nat.le_trans G.m2 (by decide), he, fun H1 f1 t1 => ?_⟩
    walk_at "gof"
    exact q H1 f1 t1
theorem c_function_world (T : Tx w K mg) : C8.Cal P w K mg base 5 "function_world" (spN 3 fun vs H Q _ => ∃ τ cs ds vb n l m tab real W ds', vs = [.ref (Tp.t τ), vb, .bl real] ∧ TapeR K τ cs ds H ∧ Td H (encF n l m tab) vb ∧ GoodF n l m tab ∧ Dr.exec cs (wldM n l m tab real) ds = some (W, ds') ∧
    ∀ a D H', Fr [τ.ld] H H' → TapeR K τ cs ds' H' → RepW K τ.t W H' a D → (∀ x ∈ D, H x = none) → Q (.ref a) H') [] := by
  refine mkFn T.fn_function_world sc_function_world (fun _ _ _ _ _ _ us hl => match us, hl with | [_, _, _], _ => rfl) (fun f cdv A outer s H vs Q E hr _ h => ?_)
  obtain ⟨τ, cs, ds, vb, n, l, m, tab, real, W, ds', rfl, ht, hb, G, he, q⟩ := h
  refine ⟨_, (pss_one (ps_ret (pe_ifExp (pt_val (pv 2)) (C8.pe_mk (m_KeyedWorld T) hr (by first | decide | omega) (by rfl) (pa_cons (pv 0) (pa_cons (pv 1) pa_nil))) (C8.pe_mk (m_AnyWorld T) hr (by first | decide | omega) (by rfl) (pa_cons (pv 0) (pa_cons (pe_ix (ixK (K := K)) (pv 1) pe_int (fun _ _ => rfl)) (pa_cons (pe_ix (ixK (K := K)) (pv 1) pe_int (fun _ _ => rfl)) pa_nil))))))), ?_⟩
  walk_at "gof"
  unfold wldM at he
  cases real with
  | true =>
    obtain ⟨key, ds1, h1, h2⟩ := Dr.exec_bindE he
    obtain ⟨rfl, rfl⟩ := Dr.exec_retE h2
    walk_at "gof"
    walk_at "mk"; rename_i x dx nx H2 s2 fB h2
    refine ⟨rfl, ?_⟩
    refine ⟨x, dx, τ, cs, ds, vb, n, l, m, tab, key, _, rfl, h2, ht.same s2, hb.same s2, G, h1, fun H3 fr3 t3 i3 => ?_⟩
    have f03 := fB _ _ fr3
    refine ⟨rfl, ?_⟩
    exact q x [] H3 f03 t3 ⟨rfl, dx, vb, i3, f03.td hb⟩ (fun _ h => nomatch h)
  | false =>
    obtain ⟨rfl, rfl⟩ := Dr.exec_retE he
    walk_at "gof"
    walk_at "mk"; rename_i x dx nx H2 s2 fB h2
    refine ⟨rfl, ?_⟩
    refine ⟨x, dx, τ.t, l, m, rfl, h2, fun da H3 nda fr3 i3 hd3 => ?_⟩
    have f03 := fB _ _ fr3
    refine ⟨rfl, ?_⟩
    exact q x [da] H3 (f03.mono (by simp)) (ht.fr f03 (by simp) (by simp)) ⟨dx, da, rfl, i3, hd3⟩ (by simpa using noneS s2 nda)
end
/-! Part A24: the table of a game. -/
open PySem PySem.Spec PyProof.Rows L2
def Gm.word : Gm → Str
  | .gen .. => "generator"
  | .fn .. => "function"
  | .marks .. => "marks"
  | .secrets .. => "secrets"
def setM : Gm → Dr (Bs × Wd)
  | .gen n m rows real => (covM n m rows real).bind fun ch => .ret (ch, .silent)
  | .fn n l m tab real => (wldM n l m tab real).bind fun W => .ret ([], W)
  | .marks n l m tab real => (wldM n l m tab real).bind fun W => .ret ([], W)
  | .secrets n l m tab real b => (wldM n l m tab real).bind fun W => .ret ([], .secret l m (if b then 1 else 0) W)
theorem repW_frb {K : PySem.W.Frag} {t : Addr} {H H' : Hp} {D1 : List Addr} {x C dx0 : Addr} {fs : List (Str × V)} (f : FrB x D1 H H') (hx : H x = some (.ins C dx0 fs)) (hl : fs.length = 6) : ∀ {w : Wd} {a : Addr} {D : List Addr}, RepW K t w H a D → (∀ x ∈ D, x ∉ D1) → RepW K t w H' a D := by
  have ne : ∀ {a C' dx' : Addr} {fs' : List (Str × V)}, H a = some (.ins C' dx' fs') → fs'.length ≠ 6 → a ≠ x := fun {a C' dx' fs'} h hn z => by
    subst z
    rw [hx] at h
    injection h with h
    injection h with _ _ h
    subst h
    exact hn hl
  have nd : ∀ {a : Addr} {o : HO}, H a = some o → (∀ C dx fs, o ≠ .ins C dx fs) → a ≠ x := fun {a o} h hn z => by
    subst z
    rw [hx] at h
    injection h with h
    exact hn _ _ _ h.symm
  have td := fun {d : PyData} {v : V} (h : Td H d v) => f.td hx h
  intro w
  induction w with
  | silent => rintro a D ⟨h1, dx, h2⟩ hd; exact ⟨h1, dx, f.fix _ _ (ne h2 (by simp)) trivial h2⟩
  | keyed n l m tab key => rintro a D ⟨h1, dx, vb, h2, h3⟩ hd; exact ⟨h1, dx, vb, f.fix _ _ (ne h2 (by simp)) trivial h2, td h3⟩
  | any l m told =>
    rintro a D ⟨dx, da, h1, h2, h3⟩ hd
    exact ⟨dx, da, h1, f.fix _ _ (ne h2 (by simp)) trivial h2, f.keep _ _ (nd h3 (fun _ _ _ z => nomatch z)) (hd da (by simp [h1])) h3⟩
  | secret l m b w ih =>
    rintro a D ⟨dx, wa, h1, h2⟩ hd
    exact ⟨dx, wa, f.fix _ _ (ne h1 (by simp)) trivial h1, ih h2 hd⟩
  | mark asked w ih =>
    rintro a D ⟨dx, wa, da, D', h1, h2, h3, h4, h5⟩ hd
    exact ⟨dx, wa, da, D', h1, h2, f.fix _ _ (ne h3 (by simp)) trivial h3, f.keep _ _ (nd h4 (fun _ _ _ z => nomatch z)) (hd da (by simp [h1])) h4, ih h5 fun x hx => hd x (by simp [h1, hx])⟩
  | notes asked w ih =>
    rintro a D ⟨dx, wa, da, D', vs, h1, h2, h3, h4, h5, h6⟩ hd
    exact ⟨dx, wa, da, D', vs, h1, h2, f.fix _ _ (ne h3 (by simp)) trivial h3, f.keep _ _ (nd h4 (fun _ _ _ z => nomatch z)) (hd da (by simp [h1])) h4, TdL.ext (f.ext hx) h5, ih h6 fun x hx => hd x (by simp [h1, hx])⟩
  | tree n rows d level turn chal pairs =>
    rintro a D ⟨dx, vb, da, h1, h2, h3, h4⟩ hd
    exact ⟨dx, vb, da, h1, f.fix _ _ (ne h2 (by simp)) trivial h2, f.keep _ _ (nd h3 (fun _ _ _ z => nomatch z)) (hd da (by simp [h1])) h3, td h4⟩
section
variable {P : Program} {w : World} {K : PySem.W.Frag} {mg : Str → Option Value} {base : Heap}
/-- what stands in the table's instance -/
abbrev tabF (vg : V) (t : Addr) (kind : Str) (ch : Bs) (wa : Addr) : List (Str × V) := [("game", vg), ("tape", .ref t), ("kind", .str kind), ("challenge", .str (bstr ch)), ("world", .ref wa), ("secret", .non)]
theorem t_Table_begin_challenge (T : Tx w K mg) : C8.Met P w K mg base 4 (aTable K) "begin_challenge" (spN 1 fun vs H Q _ => ∃ a dx vg τ cs ds wa n m rows real ch ds', vs = [.ref a] ∧ H a = some (.ins (aTable K) dx (tabF vg (Tp.t τ) "generator" [] wa)) ∧ TapeR K τ cs ds H ∧
    Td H (encGm (.gen n m rows real)) vg ∧ GoodG n m rows ∧ Dr.exec cs (covM n m rows real) ds = some (ch, ds') ∧ τ.t ≠ a ∧
    ∀ H', FrB a [τ.ld] H H' → TapeR K τ cs ds' H' → H' a = some (.ins (aTable K) dx (tabF vg τ.t "generator" ch wa)) → Q .non H') [] := by
  refine mkMt T.c_Table T.fn_Table_begin_challenge sc_Table_begin_challenge (fun _ _ _ _ _ _ us hl => match us, hl with | [_], _ => rfl) (fun f cdv A outer s H vs Q E hr _ h => ?_)
  obtain ⟨a, dx, vg, τ, cs, ds, wa, n, m, rows, real, ch, ds', rfl, ha, ht, hg, G, he, hta, q⟩ := h
  rw [encGm] at hg
  refine ⟨_, (pss_cons (ps_asg (pe_tup (pa_cons (fldK (K := K) (pv 0) rfl) (pa_cons (fldK (K := K) (pv 0) rfl) (pa_cons (pe_ix (ixK (K := K)) (fldK (K := K) (pv 0) rfl) pe_int (fun _ _ => rfl)) pa_nil)))) (pgTK (K := K) (n := 3) rfl (pgs_cons (pg_name (i := 1) sc_Table_begin_challenge.nd rfl (by first | exact Or.inl rfl | exact Or.inr rfl)) (pgs_cons (pg_name (i := 2) sc_Table_begin_challenge.nd rfl (by first | exact Or.inl rfl | exact Or.inr rfl)) (pgs_cons (pg_name (i := 3) sc_Table_begin_challenge.nd rfl (by first | exact Or.inl rfl | exact Or.inr rfl)) pgs_nil))) (hn := by rfl)))
  (pss_one (ps_if (pt_cmpR op_eq (fldK (K := K) (pv 0) rfl) pe_str (by rfl)) (pss_one (stK (K := K) (pv 0) (C8.pe_c (c_cover T) hr (by first | decide | omega) (by rfl) (pa_cons (pv 2) (pa_cons (pv 3) (pa_cons (pe_ix (ixK (K := K)) (pv 1) pe_int (fun _ _ => rfl)) pa_nil)))) rfl)) (pss_one (ps_if (pt_cmpR op_eq (fldK (K := K) (pv 0) rfl) pe_str (by rfl)) (pss_one ps_never) (pss_one (ps_if (pt_cmpR op_eq (fldK (K := K) (pv 0) rfl) pe_str (by rfl)) (pss_cons ps_never
  (pss_one ps_never)) (pss_one (ps_if (pt_cmpR op_eq (fldK (K := K) (pv 0) rfl) pe_str (by rfl)) (pss_cons ps_never
  (pss_cons ps_never
  (pss_cons ps_never
  (pss_one ps_never)))) (pss_one (ps_if (pt_cmpR op_eq (fldK (K := K) (pv 0) rfl) pe_str (by rfl)) (pss_one ps_never) (pss_one (ps_if (pt_cmpR op_eq (fldK (K := K) (pv 0) rfl) pe_str (by rfl)) (pss_cons ps_never
  (pss_cons ps_never
  (pss_cons ps_never
  (pss_one ps_never)))) (pss_cons ps_never
  (pss_cons ps_never
  (pss_cons ps_never
  (pss_one ps_never))))))))))))))))), ?_⟩
  walk_at "gof"
  rename_i vb hb
  walk_at "new"; rename_i p np H1 s1 h1
  refine r_gTup (SqT.of h1) rfl ?_
  have t1 := ht.same s1
  have i1 := s1 _ _ ha
  have hg1 := hg.same s1
  walk_at "gof"
  walk_at "ift"
  refine ⟨τ, cs, ds, vb, n, m, rows, real, ch, ds', rfl, t1, hb.same s1, G, he, fun H2 f2 t2 => ?_⟩
  have i2 := frIns f2 i1
  walk_at "gof"
  intro H3 e3
  obtain ⟨f3, i3⟩ := putI (fs' := tabF vg τ.t "generator" ch wa) e3 rfl
  walk_at "gof"
  have fA : FrB a [τ.ld] H H3 := ((FrB.sm s1).trans (FrB.of f2)).trans (f3.mono (by simp))
  obtain ⟨ne, ⟨tx2, hi2⟩, hlc, us, hld, hu⟩ := t2
  have lc : τ.lc ≠ a := fun z => by rw [z, i2] at hlc; cases hlc
  have ld : τ.ld ≠ a := fun z => by rw [z, i2] at hld; cases hld
  exact q H3 fA ⟨ne, ⟨tx2, f3.fix _ _ hta trivial hi2⟩, f3.keep _ _ lc (by simp) hlc, us, f3.keep _ _ ld (by simp) hld, TdL.ext (f3.ext i2) hu⟩ i3
theorem t_Table_begin_asks (T : Tx w K mg) (g : Gm) (hgk : g.word ≠ "generator") (gg : g.good) : C8.Met P w K mg base 6 (aTable K) "begin_asks" (spN 1 fun vs H Q _ => ∃ a dx vg τ cs ds wa r ds', vs = [.ref a] ∧ H a = some (.ins (aTable K) dx (tabF vg (Tp.t τ) g.word [] wa)) ∧ TapeR K τ cs ds H ∧
    Td H (encGm g) vg ∧ Dr.exec cs (setM g) ds = some (r, ds') ∧ τ.t ≠ a ∧
    ∀ H' wa' D, FrB a [τ.ld] H H' → TapeR K τ cs ds' H' → H' a = some (.ins (aTable K) dx (tabF vg τ.t g.word r.1 wa')) → RepW K τ.t r.2 H' wa' D → (∀ x ∈ D, H x = none) → Q .non H') [] := by
  refine mkMt T.c_Table T.fn_Table_begin_asks sc_Table_begin_asks (fun _ _ _ _ _ _ us hl => match us, hl with | [_], _ => rfl) (fun f cdv A outer s H vs Q E hr _ h => ?_)
  obtain ⟨a, dx, vg, τ, cs, ds, wa, r, ds', rfl, ha, ht, hg, he, hta, q⟩ := h
  have tp : ∀ (H2 H3 : Hp) (fs : List (Str × V)), TapeR K τ cs ds' H2 → H2 a = some (.ins (aTable K) dx fs) → FrB a [] H2 H3 → TapeR K τ cs ds' H3 := by
    intro H2 H3 fs t2 i2 f3
    obtain ⟨ne, ⟨tx2, hi2⟩, hlc, us, hld, hu⟩ := id t2
    have lc : τ.lc ≠ a := fun z => by rw [z, i2] at hlc; cases hlc
    have ld : τ.ld ≠ a := fun z => by rw [z, i2] at hld; cases hld
    exact t2.frc f3 ⟨hta, lc, ld⟩ i2 (by simp) (by simp)
  have fin : ∀ (H2 H3 : Hp) (n wa2 : Nat) (D : List Addr), FrB a [τ.ld] H H2 → H2 a = some (.ins (aTable K) dx (tabF vg τ.t g.word [] wa2)) → TapeR K τ cs ds' H2 → RepW K τ.t r.2 H2 n D → (∀ x ∈ D, H x = none) → FrB a [] H2 H3 → H3 a = some (.ins (aTable K) dx (tabF vg τ.t g.word [] n)) → r.1 = [] → Q .non H3 := by
    intro H2 H3 n wa2 D f2 i2 t2 w2 hD f3 i3 e0
    rw [← e0] at i3
    exact q H3 n D (f2.trans (f3.mono (by simp))) (tp H2 H3 _ t2 i2 f3) i3 (repW_frb f3 i2 rfl w2 (by simp)) hD
  refine ⟨_, (pss_cons (ps_par (i := 1) (j := 2) rfl sc_Table_begin_asks.nd rfl rfl (by decide) rfl rfl (pa_cons (fldK (K := K) (pv 0) rfl) (pa_cons (fldK (K := K) (pv 0) rfl) pa_nil)) (by rfl))
  (pss_one (ps_if (pt_cmpR op_eq (fldK (K := K) (pv 0) rfl) pe_str (by rfl)) (pss_one ps_never) (pss_one (ps_if (pt_cmpR op_eq (fldK (K := K) (pv 0) rfl) pe_str (by rfl)) (pss_one ps_never) (pss_cons (stK (K := K) (pv 0) (C8.pe_c (c_function_world T) hr (by first | decide | omega) (by rfl) (pa_cons (pv 2) (pa_cons (pe_ix (ixK (K := K)) (pv 1) pe_int (fun _ _ => rfl)) (pa_cons (pe_ix (ixK (K := K)) (pv 1) pe_int (fun _ _ => rfl)) pa_nil)))) rfl)
  (pss_one (ps_if (pt_cmpR op_eq (fldK (K := K) (pv 0) rfl) pe_str (by rfl)) (pss_one (stK (K := K) (pv 0) (C8.pe_mk (m_SecretWorld T) hr (by first | decide | omega) (by rfl) (pa_cons (pv 2) (pa_cons (fldK (K := K) (pv 0) rfl) (pa_cons (pe_ix (ixK (K := K)) (pe_ix (ixK (K := K)) (pv 1) pe_int (fun _ _ => rfl)) pe_int (fun _ _ => rfl)) (pa_cons (pe_ix (ixK (K := K)) (pe_ix (ixK (K := K)) (pv 1) pe_int (fun _ _ => rfl)) pe_int (fun _ _ => rfl)) (pa_cons (pe_ix (ixK (K := K)) (pv 1) pe_int (fun _ _ => rfl)) pa_nil)))))) rfl)) pss_nil)))))))), ?_⟩
  cases g with
  | gen n m rows real => exact absurd rfl hgk
  | fn n l m tab real =>
    obtain ⟨W, ds1, h1, h2⟩ := Dr.exec_bindE he
    obtain ⟨rfl, rfl⟩ := Dr.exec_retE h2
    rw [encGm] at hg
    simp only [Gm.word] at ha fin
    walk_at "gof"
    walk_at "iff"
    walk_at "iff"
    refine ⟨τ, cs, ds, _, n, l, m, tab, real, W, ds1, rfl, ht, by assumption, gg, h1, fun na D H1 f1 t1 w1 hD => ?_⟩
    have i1 := frIns f1 ha
    walk_at "gof"
    intro H2 e2
    obtain ⟨f2, i2⟩ := putI (fs' := tabF vg τ.t "function" [] na) e2 rfl
    walk_at "gof"
    walk_at "iff"
    exact fin H1 H2 na wa D (FrB.of f1) i1 t1 w1 hD f2 i2 trivial
  | marks n l m tab real =>
    obtain ⟨W, ds1, h1, h2⟩ := Dr.exec_bindE he
    obtain ⟨rfl, rfl⟩ := Dr.exec_retE h2
    rw [encGm] at hg
    simp only [Gm.word] at ha fin
    walk_at "gof"
    walk_at "iff"
    walk_at "iff"
    refine ⟨τ, cs, ds, _, n, l, m, tab, real, W, ds1, rfl, ht, by assumption, gg, h1, fun na D H1 f1 t1 w1 hD => ?_⟩
    have i1 := frIns f1 ha
    walk_at "gof"
    intro H2 e2
    obtain ⟨f2, i2⟩ := putI (fs' := tabF vg τ.t "marks" [] na) e2 rfl
    walk_at "gof"
    walk_at "iff"
    exact fin H1 H2 na wa D (FrB.of f1) i1 t1 w1 hD f2 i2 trivial
  | secrets n l m tab real b =>
    obtain ⟨W, ds1, h1, h2⟩ := Dr.exec_bindE he
    obtain ⟨rfl, rfl⟩ := Dr.exec_retE h2
    rw [encGm] at hg
    simp only [Gm.word] at ha fin
    walk_at "gof"
    walk_at "iff"
    walk_at "iff"
    refine ⟨τ, cs, ds, _, n, l, m, tab, real, W, ds1, rfl, ht, by assumption, gg, h1, fun na D H1 f1 t1 w1 hD => ?_⟩
    have i1 := frIns f1 ha
    have hg1 := f1.td hg
    walk_at "gof"
    intro H2 e2
    obtain ⟨f2, i2⟩ := putI (fs' := tabF vg τ.t "secrets" [] na) e2 rfl
    have hg2 := f2.td i1 hg1
    have t2 := tp H1 H2 _ t1 i1 f2
    have w2 := repW_frb f2 i1 rfl w1 (by simp)
    walk_at "gof"
    walk_at "ift"
    walk_at "mk"; rename_i x dx' nx H3 s3 fB h3
    refine ⟨rfl, ?_⟩
    refine ⟨x, dx', τ.t, na, l, m, (if b then 1 else 0), ?_, h3, fun H4 fr4 i4 => ?_⟩
    · cases b <;> rfl
    have f24 := fB _ _ fr4
    refine ⟨rfl, ?_⟩
    have i4a := frIns f24 i2
    walk_at "gof"
    intro H5 e5
    obtain ⟨f5, i5⟩ := putI (fs' := tabF vg τ.t "secrets" [] x) e5 rfl
    walk_at "gof"
    exact fin H4 H5 x na D (((FrB.of f1).trans (f2.mono (by simp))).trans (FrB.of (f24.mono (by simp)))) i4a (t2.fr f24 (by simp) (by simp)) ⟨dx', na, i4, RepW.fr f24 w2 (by simp)⟩ hD f5 i5 trivial
end
/-! Part A25: the table is made; how a game ends. -/
open PySem PySem.Spec PyProof.Rows L2
theorem dumG : (Gm.fn 1 1 1 [[[false], [false]], [[false], [false]]] true).good := ⟨by decide, by decide, by decide, by decide, by decide, by decide, by decide, by decide, by simp⟩
section
variable {P : Program} {w : World} {K : PySem.W.Frag} {mg : Str → Option Value} {base : Heap}
theorem m_Table (T : Tx w K mg) : C8.Mak P w K mg base 7 "Table" (aTable K) (spN 3 fun vs H Q _ => ∃ a dx vg τ cs ds g r ds', vs = [.ref a, vg, .ref (Tp.t τ)] ∧ H a = some (.ins (aTable K) dx []) ∧ TapeR K τ cs ds H ∧ Td H (encGm g) vg ∧ g.good ∧ Dr.exec cs (setM g) ds = some (r, ds') ∧
    ∀ H' wa D, FrB a [τ.ld] H H' → TapeR K τ cs ds' H' → H' a = some (.ins (aTable K) dx (tabF vg τ.t g.word r.1 wa)) → RepW K τ.t r.2 H' wa D → (∀ x ∈ D, H x = none) → Q .non H') [] := by
  refine mkIn T.g_Table T.fn_Table_init sc_Table_init (fun _ _ _ _ _ _ us hl => match us, hl with | [_, _, _], _ => rfl) (fun f cdv A outer s H vs Q E hr _ h => ?_)
  obtain ⟨a, dx, vg, τ, cs, ds, g, r, ds', rfl, ha, ht, hg, gg, he, q⟩ := h
  obtain ⟨rest, hd⟩ : ∃ rest, encGm g = .tuple (.str g.word :: rest) := by cases g <;> exact ⟨_, rfl⟩
  obtain ⟨gd, hk, ggd, hgd⟩ : ∃ gd : Gm, gd.word ≠ "generator" ∧ gd.good ∧ (g.word ≠ "generator" → gd = g) := by
    cases g with
    | gen n m rows real => exact ⟨_, (by decide : (Gm.fn 1 1 1 [[[false], [false]], [[false], [false]]] true).word ≠ "generator"), dumG, fun z => absurd rfl z⟩
    | fn n l m tab real => exact ⟨.fn n l m tab real, (by show ("function" : Str) ≠ "generator"; decide), gg, fun _ => rfl⟩
    | marks n l m tab real => exact ⟨.marks n l m tab real, (by show ("marks" : Str) ≠ "generator"; decide), gg, fun _ => rfl⟩
    | secrets n l m tab real b => exact ⟨.secrets n l m tab real b, (by show ("secrets" : Str) ≠ "generator"; decide), gg, fun _ => rfl⟩
  have hasks := t_Table_begin_asks (P := P) (base := base) T gd hk ggd
  have hg' := hg
  rw [hd] at hg'
  obtain ⟨a1, a2, a3⟩ := ht.ne_new ha
  refine ⟨_, (pss_cons (stK (K := K) (pv 0) (pv 1) rfl)
  (pss_cons (stK (K := K) (pv 0) (pv 2) rfl)
  (pss_cons (stK (K := K) (pv 0) (pe_ix (ixK (K := K)) (pv 1) pe_int (fun _ _ => rfl)) rfl)
  (pss_cons (stK (K := K) (pv 0) pe_str rfl)
  (pss_cons (stK (K := K) (pv 0) (pe_new0 T.silent (by rfl) T.g_Silent) rfl)
  (pss_cons (stK (K := K) (pv 0) pe_non rfl)
  (pss_one (ps_if (pt_cmpR (inK (K := K)) (fldK (K := K) (pv 0) rfl) (pe_tup (pa_cons pe_str (pa_cons pe_str (pa_cons pe_str (pa_cons pe_str (pa_cons pe_str pa_nil)))))) (by rfl)) (pss_one (ps_expr (C8.pe_mt0 (hasks) hr (by first | decide | omega) (pv 0)))) (pss_one (ps_expr (C8.pe_mt0 (t_Table_begin_challenge T) hr (by first | decide | omega) (pv 0)))))))))))), ?_⟩
  walk_at "gof"
  intro H1 e1
  obtain ⟨f1, i1⟩ := putI (fs' := [("game", vg)]) e1 rfl
  have hg1 := f1.td ha hg'
  walk_at "gof"
  intro H2 e2
  obtain ⟨f2, i2⟩ := putI (fs' := [("game", vg), ("tape", .ref τ.t)]) e2 rfl
  have hg2 := f2.td i1 hg1
  walk_at "gof"
  intro H3 e3
  obtain ⟨f3, i3⟩ := putI (fs' := [("game", vg), ("tape", .ref τ.t), ("kind", .str g.word)]) e3 rfl
  walk_at "gof"
  rw [emS]
  intro H4 e4
  obtain ⟨f4, i4⟩ := putI (fs' := [("game", vg), ("tape", .ref τ.t), ("kind", .str g.word), ("challenge", .str (bstr []))]) e4 rfl
  walk_at "gof"
  refine r_new0 fun sx sdx H5 s5 n5 h5 => ?_
  have i5 := s5 _ _ i4
  walk_at "gof"
  intro H6 e6
  obtain ⟨f6, i6⟩ := putI (fs' := [("game", vg), ("tape", .ref τ.t), ("kind", .str g.word), ("challenge", .str (bstr [])), ("world", .ref sx)]) e6 rfl
  walk_at "gof"
  intro H7 e7
  obtain ⟨f7, i7⟩ := putI (fs' := tabF vg τ.t g.word [] sx) e7 rfl
  have f04 := ((f1.trans f2).trans f3).trans f4
  have f07 : FrB a [] H H7 := ((f04.trans (FrB.sm s5)).trans f6).trans f7
  have t7 := ht.frb f07 ha (by simp) (by simp)
  have hg7 := f07.td ha hg
  have sxa : sx ≠ a := fun z => by rw [z, i4] at n5; cases n5
  have h7 := f7.keep _ _ sxa (by simp) (f6.keep _ _ sxa (by simp) h5)
  walk_at "gof"
  walk_at "new"; rename_i p np H8 s8 h8
  walk_at "gof"
  have i8 := s8 _ _ i7
  have f08 : FrB a [τ.ld] H H8 := (f07.trans (FrB.sm s8)).mono (by simp)
  have none8 : ∀ x, H8 x = none → H x = none := fun x n => FrB.noneD f08 (fun z => by rw [z, i8] at n; cases n) (fun z => by
    rw [List.mem_singleton.mp z] at n
    exact absurd rfl ((t7.same s8).no n).2) n
  by_cases hw : g.word = "generator"
  · cases g with
    | gen n m rows real =>
      refine r_inT (ws := ["permutation", "swaps", "function", "marks", "secrets"]) h8 (b := false) (by show inV (.str "generator") _ = false; decide +kernel) ?_
      walk_at "gof"
      obtain ⟨ch, ds1, h1, h2⟩ := Dr.exec_bindE he
      obtain ⟨rfl, rfl⟩ := Dr.exec_retE h2
      refine ⟨a, dx, vg, τ, cs, ds, sx, n, m, rows, real, ch, _, rfl, i8, t7.same s8, hg7.same s8, gg, h1, a1, fun H9 f9 t9 i9 => ?_⟩
      walk_at "gof"
      exact q H9 sx [] (f08.trans f9) t9 i9 ⟨rfl, sdx, f9.fix _ _ sxa trivial (s8 _ _ h7)⟩ (fun _ h => nomatch h)
    | fn n l m tab real => exact absurd hw (by show ("function" : Str) ≠ "generator"; decide)
    | marks n l m tab real => exact absurd hw (by show ("marks" : Str) ≠ "generator"; decide)
    | secrets n l m tab real b => exact absurd hw (by show ("secrets" : Str) ≠ "generator"; decide)
  · obtain rfl := hgd hw
    refine r_inT (ws := ["permutation", "swaps", "function", "marks", "secrets"]) h8 (b := true) ?_ ?_
    · cases gd with
      | gen n m rows real => exact absurd rfl hw
      | fn n l m tab real => show inV (.str "function") _ = true; decide +kernel
      | marks n l m tab real => show inV (.str "marks") _ = true; decide +kernel
      | secrets n l m tab real b => show inV (.str "secrets") _ = true; decide +kernel
    walk_at "gof"
    refine ⟨a, dx, vg, τ, cs, ds, sx, r, ds', rfl, i8, t7.same s8, hg7.same s8, he, a1, fun H9 wa D f9 t9 i9 w9 hD => ?_⟩
    walk_at "gof"
    exact q H9 wa D (f08.trans f9) t9 i9 w9 fun x hx => none8 x (hD x hx)
end
/-! Part A26: how a game ends. -/
open PySem PySem.Spec PyProof.Rows L2
def winM : Gm → Bs → List Bs → Wd → Dr Bool
  | .marks n l m tab real, said, asked, W => if said.length ≠ l + m ∨ said.take l ∈ asked then .ret false else (ansM W (said.take l)).bind fun a => .ret (decide (a.1 = said.drop l))
  | _, said, _, _ => .ret (decide (said = [true]))
theorem inV_bs (q : Bs) : ∀ l : List Bs, inV (.str (bstr q)) ((l.map bstr).map V.str) = decide (q ∈ l)
  | [] => rfl
  | x :: r => by
    have ih := inV_bs q r
    have e : decide (bstr x = bstr q) = decide (x = q) := by
      by_cases h : x = q
      · rw [h]; simp
      · rw [decide_eq_false h, decide_eq_false (fun z => h (bstr_inj z))]
    have : inV (.str (bstr q)) (((x :: r).map bstr).map V.str) = (eqV (.str (bstr x)) (.str (bstr q)) || inV (.str (bstr q)) ((r.map bstr).map V.str)) := rfl
    rw [this, ih, show eqV (.str (bstr x)) (.str (bstr q)) = decide (bstr x = bstr q) from rfl, e]
    by_cases h : x = q
    · subst h; simp
    · simp [h, Ne.symm h]
theorem r_inL {K : PySem.W.Frag} {H : Hp} {Q : VK} {p : Addr} {z : Str} {ws : List Str} {b : Bool} (h : H p = some (.lst (ws.map V.str))) (e : inV (.str z) (ws.map V.str) = b) (q : Q (.bl b) H) : rIn K false (.str z) (.ref p) H Q :=
  ⟨p, _, rfl, .inl (SqL.of h), rfl, by simp [flatV], by rw [if_neg (by decide), e]; exact q⟩
section
variable {P : Program} {w : World} {K : PySem.W.Frag} {mg : Str → Option Value} {base : Heap}
theorem t_Table_is_marked (T : Tx w K mg) (n l m : Nat) (tab : List (List Bs)) (real : Bool) : C8.Met P w K mg base 5 (aTable K) "is_marked" (spN 3 fun vs H Q _ => ∃ a dx vg τ cs ds wa W D la us, ∃ asked : List (Bs × Bs), ∃ said won ds', vs = [.ref a, .str (bstr said), .ref la] ∧ H a = some (.ins (aTable K) dx (tabF vg (Tp.t τ) "marks" [] wa)) ∧
    Td H (encGm (.marks n l m tab real)) vg ∧ TapeR K τ cs ds H ∧ RepW K τ.t W H wa D ∧ τ.lc ∉ D ∧ τ.ld ∉ D ∧ W.good ∧ W.dep = 0 ∧ W.room 1 ∧ H la = some (.lst us) ∧ TdL H (asked.map qaD) us ∧ asked.length ≤ 5000 ∧ said.length ≤ 1000 ∧ Dr.exec cs (winM (.marks n l m tab real) said (asked.map (·.1)) W) ds = some (won, ds') ∧
    ∀ H', Fr (τ.ld :: D) H H' → TapeR K τ cs ds' H' → Q (.bl won) H') [] := by
  refine mkMt T.c_Table T.fn_Table_is_marked sc_Table_is_marked (fun _ _ _ _ _ _ us hl => match us, hl with | [_, _, _], _ => rfl) (fun f cdv A outer s H vs Q E hr _ h => ?_)
  obtain ⟨a, dx, vg, τ, cs, ds, wa, W, D, la, us, asked, said, won, ds', rfl, ha, hg, ht, hw, n1, n2, g, hj, hm, hla, hus, hal, hsl, he, q⟩ := h
  rw [encGm] at hg
  have lv := Wd.room_lives hm
  obtain ⟨dw, fw, hwi, hlk⟩ := hw.ins
  simp only [winM] at he
  refine ⟨_, (pss_cons (ps_par (i := 3) (j := 4) rfl sc_Table_is_marked.nd rfl rfl (by decide) rfl rfl (pa_cons (pe_ix (ixK (K := K)) (pe_ix (ixK (K := K)) (fldK (K := K) (pv 0) rfl) pe_int (fun _ _ => rfl)) pe_int (fun _ _ => rfl)) (pa_cons (pe_ix (ixK (K := K)) (pe_ix (ixK (K := K)) (fldK (K := K) (pv 0) rfl) pe_int (fun _ _ => rfl)) pe_int (fun _ _ => rfl)) pa_nil)) (by rfl))
  (pss_cons (ps_if (PW.pt (pw_or (pt_cmpR op_ne (pe_callB (lenK (K := K)) (by rfl) T.f_len bt_len (pa_cons (pv 1) pa_nil)) (pe_op op_add (pv 3) (pv 4)) (by rfl)) (pw_or1 (pt_cmpR (inK (K := K)) (pe_slice sl_str (pv 1) po_none (po_some (pv 3))) (pe_lc (own := [("string", 5), ("answer", 6)]) (by rfl) sc_Table_is_marked.nd (piLK (K := K) (pv 2)) (blkOk_by (by rfl)) (fun _ _ _ _ _ => (pgTK (K := K) (n := 2) rfl (pgs_cons (pg_name (i := 5) sc_Table_is_marked.nd rfl (by first | exact Or.inl rfl | exact Or.inr rfl)) (pgs_cons (pg_name (i := 6) sc_Table_is_marked.nd rfl (by first | exact Or.inl rfl | exact Or.inr rfl)) pgs_nil)) (hn := by rfl))) (fun _ _ _ _ _ => pts_nil) (fun _ _ _ _ _ => (pv 5))) (by rfl))))) (pss_one (ps_ret pe_bl)) pss_nil)
  (pss_one (ps_ret (pe_cmpR op_eq (pe_mtD (P := P) (w := w) (K := K) (mg := mg) (base := base) (k := 4) hr (by first | decide | omega) (fldK (K := K) (pv 0) rfl) (pa_cons (pe_slice sl_str (pv 1) po_none (po_some (pv 3))) pa_nil)) (pe_slice sl_str (pv 1) (po_some (pv 3)) po_none) (by rfl)))))), ?_⟩
  walk_at "gof"
  by_cases cl : said.length = l + m
  · refine ite_f (by simp; omega) ?_
    walk_at "gof"
    refine r_slTo (by simp) (by omega) ?_
    rw [Int.toNat_natCast]
    walk_at "gof"
    refine ⟨la, rfl, ⟨us, SqL.of hla⟩, fun B nB => ?_⟩
    have hul : us.length = asked.length := by rw [hus.len, List.length_map]
    refine lc_it (walk_list (xs := us)) (fun i H2 => Same H H2 ∧ H2 B = some (.lst ((((asked.take i).map (·.1)).map bstr).map V.str))) ⟨same_upd nB, upd_same⟩ (fun _ _ _ hp => SqL.of (hp.1 _ _ hla)) (fun i x H2 H3 hi hp hy => ?_) (fun H2 hp => ?_)
    · obtain ⟨s2, h2⟩ := hp
      obtain ⟨rfl, hxi⟩ := hy
      rw [hul] at hi
      obtain ⟨u, hu, hd⟩ := TdL.get hus (d := qaD asked[i]) (i := i) (by rw [List.getElem?_map, List.getElem?_eq_getElem hi]; rfl)
      obtain rfl : u = x := Option.some.inj (hu.symm.trans hxi)
      obtain ⟨pu, _, rfl, hpu, _, _, rfl, z1, _, _, rfl, z2, rfl⟩ := hd
      obtain rfl := z1
      obtain rfl := z2
      refine r_gTup (SqT.of (s2 _ _ hpu)) rfl ?_
      walk_at "gof"
      refine ⟨rfl, ?_⟩
      walk_at "gof"
      refine ⟨_, h2, smallL (by simp; omega), s2.putNew nB, ?_⟩
      rw [upd_same, List.take_add_one, List.getElem?_eq_getElem hi]
      simp only [List.map_append]
      rfl
    · obtain ⟨s2, h2⟩ := hp
      rw [hul, List.take_length] at h2
      refine r_inL h2 (inV_bs _ _) ?_
      walk_at "gof"
      have ha2 := s2 _ _ ha
      have w2 := RepW.same s2 hw
      have t2 := ht.same s2
      by_cases cm : said.take l ∈ asked.map (·.1)
      · refine ite_t (by simpa using cm) ?_
        walk_at "gof"
        rw [if_pos (.inr cm)] at he
        obtain ⟨rfl, rfl⟩ := Dr.exec_retE he
        exact q H2 (Fr.of s2) t2
      · refine ite_f (by simpa using cm) ?_
        rw [if_neg (not_or.mpr ⟨fun z => z cl, cm⟩)] at he
        obtain ⟨p2, ds3, h8, h9⟩ := Dr.exec_bindE he
        obtain ⟨rfl, rfl⟩ := Dr.exec_retE h9
        have hwi2 := s2 _ _ hwi
        walk_at "gof"
        refine ⟨wa, _, dw, fw, _, rfl, hwi2, hlk, (by have := met_ans (P := P) (base := base) T W lv; rw [hj] at this; exact this), ?_⟩
        walk_at "gof"
        refine r_slTo (by simp) (by omega) ?_
        rw [Int.toNat_natCast]
        walk_at "gof"
        refine ⟨τ, cs, ds, wa, D, said.take l, p2, ds3, rfl, by rw [List.length_take]; omega, t2, w2, n1, n2, g, hm, h8, fun H6 f6 t6 w6 => ?_⟩
        walk_at "gof"
        refine r_slFrom (by simp) (by omega) ?_
        rw [Int.toNat_natCast]
        walk_at "gof"
        have e6 : decide (bstr p2.1 = bstr (said.drop l)) = decide (p2.1 = said.drop l) := by
          by_cases h : p2.1 = said.drop l
          · rw [h]; simp
          · rw [decide_eq_false h, decide_eq_false (fun z => h (bstr_inj z))]
        rw [e6]
        exact q H6 ((Fr.of s2).trans f6) t6
  · refine ite_t (by simp; omega) ?_
    walk_at "gof"
    rw [if_pos (.inl cl)] at he
    obtain ⟨rfl, rfl⟩ := Dr.exec_retE he
    exact q H (Fr.refl H) ht
/-- what has_won is told -/
theorem t_Table_has_won (T : Tx w K mg) (g : Gm) : C8.Met P w K mg base 6 (aTable K) "has_won" (spN 3 fun vs H Q _ => ∃ a dx vg τ cs ds ch wa W D la us, ∃ asked : List (Bs × Bs), ∃ said won ds', vs = [.ref a, .str (bstr said), .ref la] ∧ H a = some (.ins (aTable K) dx (tabF vg (Tp.t τ) g.word ch wa)) ∧
    Td H (encGm g) vg ∧ TapeR K τ cs ds H ∧ RepW K τ.t W H wa D ∧ τ.lc ∉ D ∧ τ.ld ∉ D ∧ W.good ∧ (g.word = "marks" → ch = [] ∧ W.dep = 0 ∧ W.room 1) ∧ H la = some (.lst us) ∧ TdL H (asked.map qaD) us ∧ asked.length ≤ 5000 ∧ said.length ≤ 1000 ∧ Dr.exec cs (winM g said (asked.map (·.1)) W) ds = some (won, ds') ∧
    ∀ H', Fr (τ.ld :: D) H H' → TapeR K τ cs ds' H' → Q (.bl won) H') [] := by
  refine mkMt T.c_Table T.fn_Table_has_won sc_Table_has_won (fun _ _ _ _ _ _ us hl => match us, hl with | [_, _, _], _ => rfl) (fun f cdv A outer s H vs Q E hr _ h => ?_)
  obtain ⟨a, dx, vg, τ, cs, ds, ch, wa, W, D, la, us, asked, said, won, ds', rfl, ha, hg, ht, hw, n1, n2, gw, hmk0, hla, hus, hal, hsl, he, q⟩ := h
  have e1 : decide (bstr said = Str.ofString "1") = decide (said = [true]) := by
    rw [show Str.ofString "1" = bstr [true] from st1]
    by_cases h : said = [true]
    · subst h; simp
    · rw [decide_eq_false h, decide_eq_false (fun z => h (bstr_inj z))]
  cases g with
  | marks n l m tab real =>
    have hmk := t_Table_is_marked (P := P) (base := base) T n l m tab real
    obtain ⟨rfl, hj, hm⟩ := hmk0 rfl
    refine ⟨_, (pss_cons (ps_if (pt_cmpR op_eq (fldK (K := K) (pv 0) rfl) pe_str (by rfl)) (pss_one (ps_ret (C8.pe_mt (hmk) hr (by first | decide | omega) (pv 0) (pa_cons (pv 1) (pa_cons (pv 2) pa_nil))))) pss_nil)
  (pss_cons (ps_if (PW.pt (pw_or (pt_cmpR op_eq (fldK (K := K) (pv 0) rfl) pe_str (by rfl)) (pw_or1 (pt_cmpR op_eq (fldK (K := K) (pv 0) rfl) pe_str (by rfl))))) (pss_one ps_never) pss_nil)
  (pss_cons (ps_if (pt_cmpR op_eq (fldK (K := K) (pv 0) rfl) pe_str (by rfl)) (pss_cons ps_never
  (pss_one ps_never)) pss_nil)
  (pss_cons (ps_if (pt_cmpR op_eq (fldK (K := K) (pv 0) rfl) pe_str (by rfl)) (pss_one ps_never) pss_nil)
  (pss_one (ps_ret (pe_cmpR op_eq (pv 1) pe_str (by rfl)))))))), ?_⟩
    simp only [Gm.word] at ha
    walk_at "gof"
    walk_at "ift"
    exact ⟨a, dx, vg, τ, cs, ds, wa, W, D, la, us, asked, said, won, ds', rfl, ha, hg, ht, hw, n1, n2, gw, hj, hm, hla, hus, hal, hsl, he, fun H' f' t' => q H' f' t'⟩
  | gen n m rows real =>
    have hmk := t_Table_is_marked (P := P) (base := base) T 1 1 1 [] true
    obtain ⟨rfl, rfl⟩ := Dr.exec_retE he
    refine ⟨_, (pss_cons (ps_if (pt_cmpR op_eq (fldK (K := K) (pv 0) rfl) pe_str (by rfl)) (pss_one (ps_ret (C8.pe_mt (hmk) hr (by first | decide | omega) (pv 0) (pa_cons (pv 1) (pa_cons (pv 2) pa_nil))))) pss_nil)
  (pss_cons (ps_if (PW.pt (pw_or (pt_cmpR op_eq (fldK (K := K) (pv 0) rfl) pe_str (by rfl)) (pw_or1 (pt_cmpR op_eq (fldK (K := K) (pv 0) rfl) pe_str (by rfl))))) (pss_one ps_never) pss_nil)
  (pss_cons (ps_if (pt_cmpR op_eq (fldK (K := K) (pv 0) rfl) pe_str (by rfl)) (pss_cons ps_never
  (pss_one ps_never)) pss_nil)
  (pss_cons (ps_if (pt_cmpR op_eq (fldK (K := K) (pv 0) rfl) pe_str (by rfl)) (pss_one ps_never) pss_nil)
  (pss_one (ps_ret (pe_cmpR op_eq (pv 1) pe_str (by rfl)))))))), ?_⟩
    simp only [Gm.word] at ha
    walk_at "gof"
    walk_at "iff"
    walk_at "iff"
    walk_at "iff"
    walk_at "iff"
    walk_at "iff"
    rw [e1]
    exact q H (Fr.refl H) ht
  | fn n l m tab real =>
    have hmk := t_Table_is_marked (P := P) (base := base) T 1 1 1 [] true
    obtain ⟨rfl, rfl⟩ := Dr.exec_retE he
    refine ⟨_, (pss_cons (ps_if (pt_cmpR op_eq (fldK (K := K) (pv 0) rfl) pe_str (by rfl)) (pss_one (ps_ret (C8.pe_mt (hmk) hr (by first | decide | omega) (pv 0) (pa_cons (pv 1) (pa_cons (pv 2) pa_nil))))) pss_nil)
  (pss_cons (ps_if (PW.pt (pw_or (pt_cmpR op_eq (fldK (K := K) (pv 0) rfl) pe_str (by rfl)) (pw_or1 (pt_cmpR op_eq (fldK (K := K) (pv 0) rfl) pe_str (by rfl))))) (pss_one ps_never) pss_nil)
  (pss_cons (ps_if (pt_cmpR op_eq (fldK (K := K) (pv 0) rfl) pe_str (by rfl)) (pss_cons ps_never
  (pss_one ps_never)) pss_nil)
  (pss_cons (ps_if (pt_cmpR op_eq (fldK (K := K) (pv 0) rfl) pe_str (by rfl)) (pss_one ps_never) pss_nil)
  (pss_one (ps_ret (pe_cmpR op_eq (pv 1) pe_str (by rfl)))))))), ?_⟩
    simp only [Gm.word] at ha
    walk_at "gof"
    walk_at "iff"
    walk_at "iff"
    walk_at "iff"
    walk_at "iff"
    walk_at "iff"
    rw [e1]
    exact q H (Fr.refl H) ht
  | secrets n l m tab real b =>
    have hmk := t_Table_is_marked (P := P) (base := base) T 1 1 1 [] true
    obtain ⟨rfl, rfl⟩ := Dr.exec_retE he
    refine ⟨_, (pss_cons (ps_if (pt_cmpR op_eq (fldK (K := K) (pv 0) rfl) pe_str (by rfl)) (pss_one (ps_ret (C8.pe_mt (hmk) hr (by first | decide | omega) (pv 0) (pa_cons (pv 1) (pa_cons (pv 2) pa_nil))))) pss_nil)
  (pss_cons (ps_if (PW.pt (pw_or (pt_cmpR op_eq (fldK (K := K) (pv 0) rfl) pe_str (by rfl)) (pw_or1 (pt_cmpR op_eq (fldK (K := K) (pv 0) rfl) pe_str (by rfl))))) (pss_one ps_never) pss_nil)
  (pss_cons (ps_if (pt_cmpR op_eq (fldK (K := K) (pv 0) rfl) pe_str (by rfl)) (pss_cons ps_never
  (pss_one ps_never)) pss_nil)
  (pss_cons (ps_if (pt_cmpR op_eq (fldK (K := K) (pv 0) rfl) pe_str (by rfl)) (pss_one ps_never) pss_nil)
  (pss_one (ps_ret (pe_cmpR op_eq (pv 1) pe_str (by rfl)))))))), ?_⟩
    simp only [Gm.word] at ha
    walk_at "gof"
    walk_at "iff"
    walk_at "iff"
    walk_at "iff"
    walk_at "iff"
    walk_at "iff"
    rw [e1]
    exact q H (Fr.refl H) ht
end
/-! Part A27: a play. -/
open PySem PySem.Spec PyProof.Rows L2
def Wd.askedN : Wd → List (Bs × Bs)
  | .notes a _ => a
  | _ => []
def playM (g : Gm) (b : Mb) : Dr Bool := (setM g).bind fun s => (b.runM s.1 (.notes [] s.2)).bind fun r => winM g r.1 (r.2.askedN.map (·.1)) r.2.sub
def Gm.dep : Gm → Nat
  | .secrets .. => 1
  | _ => 0
def PlayOk (g : Gm) (b : Mb) : Prop := g.good ∧ b.ok ∧ b.asks ≤ 4000 ∧ match g with
  | .gen n m rows real => (∀ ch, ch.length = m → b.okc ch) ∧ b.asks = 0
  | _ => b.okc []
theorem wldM_keep {cs : List Nat} {n l m : Nat} {tab : List (List Bs)} {real : Bool} {ds ds' : List (Nat × Nat)} {W : Wd} (G : GoodF n l m tab) (h : Dr.exec cs (wldM n l m tab real) ds = some (W, ds')) : W.good ∧ W.dep = 0 ∧ ∀ c ≤ 5000, W.room c := by
  unfold wldM at h
  cases real with
  | true =>
    obtain ⟨key, ds1, h1, h2⟩ := Dr.exec_bindE h
    obtain ⟨rfl, rfl⟩ := Dr.exec_retE h2
    exact ⟨⟨G, strD_len h1⟩, rfl, fun _ _ => trivial⟩
  | false =>
    obtain ⟨rfl, rfl⟩ := Dr.exec_retE h
    exact ⟨⟨Nat.le_trans G.l2 (by decide), G.m2, by simp⟩, rfl, fun c hc => by show 0 + c ≤ 5000; omega⟩
theorem setM_keep {cs : List Nat} {g : Gm} {b : Mb} {ds ds' : List (Nat × Nat)} {s : Bs × Wd} (o : PlayOk g b) (h : Dr.exec cs (setM g) ds = some (s, ds')) : s.2.good ∧ s.2.dep = g.dep ∧ b.okc s.1 ∧ s.2.room b.asks ∧ (g.word = "marks" → s.1 = [] ∧ s.2.room (b.asks + 1)) := by
  obtain ⟨gg, ok, ha, o⟩ := o
  cases g with
  | gen n m rows real =>
    obtain ⟨ch, ds1, h1, h2⟩ := Dr.exec_bindE h
    obtain ⟨rfl, rfl⟩ := Dr.exec_retE h2
    have hl : ch.length = m := by
      unfold covM at h1
      cases real with
      | true =>
        obtain ⟨sd, ds2, h3, h4⟩ := Dr.exec_bindE h1
        obtain ⟨rfl, rfl⟩ := Dr.exec_retE h4
        exact GoodG.rlen gg (strD_len h3)
      | false => exact strD_len h1
    exact ⟨trivial, rfl, o.1 _ hl, o.2, fun z => absurd z (by show ("generator" : Str) ≠ "marks"; decide)⟩
  | fn n l m tab real =>
    obtain ⟨W, ds1, h1, h2⟩ := Dr.exec_bindE h
    obtain ⟨rfl, rfl⟩ := Dr.exec_retE h2
    obtain ⟨k1, k2, k3⟩ := wldM_keep gg h1
    exact ⟨k1, k2, o, k3 _ (by omega), fun _ => ⟨rfl, k3 _ (by omega)⟩⟩
  | marks n l m tab real =>
    obtain ⟨W, ds1, h1, h2⟩ := Dr.exec_bindE h
    obtain ⟨rfl, rfl⟩ := Dr.exec_retE h2
    obtain ⟨k1, k2, k3⟩ := wldM_keep gg h1
    exact ⟨k1, k2, o, k3 _ (by omega), fun _ => ⟨rfl, k3 _ (by omega)⟩⟩
  | secrets n l m tab real b =>
    obtain ⟨W, ds1, h1, h2⟩ := Dr.exec_bindE h
    obtain ⟨rfl, rfl⟩ := Dr.exec_retE h2
    obtain ⟨k1, k2, k3⟩ := wldM_keep gg h1
    exact ⟨⟨Nat.le_trans gg.l2 (by decide), gg.m2, by cases b <;> simp, k1⟩, congrArg (· + 1) k2, o, k3 _ (by omega), fun z => absurd z (by show ("secrets" : Str) ≠ "marks"; decide)⟩
theorem Fr.toS {H H' : Hp} (f : Fr [] H H') : Same H H' := fun b o e => f.keep b o (by simp) e
section
variable {P : Program} {w : World} {K : PySem.W.Frag} {mg : Str → Option Value} {base : Heap}
theorem c_played (T : Tx w K mg) (kk : Nat) (hk : 8 ≤ kk) (g : Gm) (b : Mb) (o : PlayOk g b) (hin : RunOk P w K mg base kk "run_breaker" b (g.dep + 1)) :
    C8.Cal P w K mg base (kk + 1) "played" (spN 3 fun vs H Q _ => ∃ vg vb pc cs won ds', vs = [vg, vb, .ref pc] ∧ Td H (encGm g) vg ∧ Td H (encM b) vb ∧ H pc = some (.lst (cs.map fun c : Nat => V.int c)) ∧ Dr.exec cs (playM g b) [] = some (won, ds') ∧
      ∀ pl dx ld v2 v4 us H', Same H H' → H' pl = some (.ins (aPlay K) dx [("outcome", .int (if won then 1 else 0)), ("said", v2), ("draws", .ref ld), ("asked", v4)]) → H' ld = some (.lst us) → TdL H' (ds'.map pairD) us → Q (.ref pl) H') [] := by
  refine mkFn T.fn_played sc_played (fun _ _ _ _ _ _ us hl => match us, hl with | [_, _, _], _ => rfl) (fun f cdv A outer s H vs Q E hr _ h => ?_)
  obtain ⟨vg, vb, pc, cs, won, ds', rfl, hg, hb, hpc, he, q⟩ := h
  obtain ⟨sx, ds1, e1, he2⟩ := Dr.exec_bindE he
  obtain ⟨r, ds2, e2, e3⟩ := Dr.exec_bindE he2
  obtain ⟨k1, k2, k3, k4, k5⟩ := setM_keep o e1
  obtain ⟨gg, ok, ha, o4⟩ := o
  refine ⟨_, (pss_cons (ps_set (i := 3) sc_played.nd rfl (by first | exact Or.inl rfl | exact Or.inr rfl) (C8.pe_mk (m_Tape T) hr (by first | decide | omega) (by rfl) (pa_cons (pv 2) pa_nil)))
  (pss_cons (ps_set (i := 4) sc_played.nd rfl (by first | exact Or.inl rfl | exact Or.inr rfl) (C8.pe_mk (m_Table T) hr (by first | decide | omega) (by rfl) (pa_cons (pv 0) (pa_cons (pv 3) pa_nil))))
  (pss_cons (ps_set (i := 5) sc_played.nd rfl (by first | exact Or.inl rfl | exact Or.inr rfl) (C8.pe_mk (m_Notes T) hr (by first | decide | omega) (by rfl) (pa_cons (fldK (K := K) (pv 4) rfl) pa_nil)))
  (pss_cons (ps_set (i := 6) sc_played.nd rfl (by first | exact Or.inl rfl | exact Or.inr rfl) (C8.pe_c hin hr (by first | decide | omega) (by rfl) (pa_cons (pv 1) (pa_cons (pv 3) (pa_cons (fldK (K := K) (pv 4) rfl) (pa_cons (pv 5) pa_nil))))))
  (pss_cons (ps_set (i := 7) sc_played.nd rfl (by first | exact Or.inl rfl | exact Or.inr rfl) (pe_callTy call_int1 (by rfl) T.f_int bt_int (pa_cons (C8.pe_mt (t_Table_has_won T g) hr (by first | decide | omega) (pv 4) (pa_cons (pv 6) (pa_cons (fldK (K := K) (pv 5) rfl) pa_nil))) pa_nil)))
  (pss_one (ps_ret (C8.pe_mk (m_Play T) hr (by first | decide | omega) (by rfl) (pa_cons (pv 7) (pa_cons (pv 6) (pa_cons (fldK (K := K) (pv 3) rfl) (pa_cons (fldK (K := K) (pv 5) rfl) pa_nil)))))))))))), ?_⟩
  walk_at "gof"
  walk_at "mk"; rename_i x1 dx1 nx1 H1 s1 fB1 h1
  refine ⟨rfl, ?_⟩
  refine ⟨x1, dx1, pc, cs, rfl, h1, s1 _ _ hpc, fun lc ld H2 fr2 nlc nld t2 => ?_⟩
  have f02 := fB1 _ _ fr2
  have nlc0 := noneS s1 nlc
  have nld0 := noneS s1 nld
  refine ⟨rfl, ?_⟩
  walk_at "gof"
  walk_at "mk"; rename_i x2 dx2 nx2 H3 s3 fB3 h3
  refine ⟨rfl, ?_⟩
  refine ⟨x2, dx2, vg, ⟨x1, lc, ld⟩, cs, [], g, sx, ds1, rfl, h3, t2.same s3, (f02.td hg).same s3, gg, e1, fun H4 wa D fr4 t4 i4 w4 hD => ?_⟩
  have f24 : Fr [ld] H2 H4 := fB3 _ _ fr4
  refine ⟨rfl, ?_⟩
  walk_at "gof"
  walk_at "mk"; rename_i x3 dx3 nx3 H5 s5 fB5 h5
  refine ⟨rfl, ?_⟩
  refine ⟨x3, dx3, wa, rfl, h5, fun da H6 nda fr6 i6 hd6 => ?_⟩
  have f46 : Fr [] H4 H6 := fB5 _ _ fr6
  have nda4 := noneS s5 nda
  refine ⟨rfl, ?_⟩
  have t3 := t2.same s3
  have nD : ∀ x ∈ D, lc ≠ x ∧ ld ≠ x := fun x hx => t3.no (hD x hx)
  have ncD : lc ∉ D := fun z => (nD _ z).1 rfl
  have ndD : ld ∉ D := fun z => (nD _ z).2 rfl
  have t6 := t4.fr f46 (by simp) (by simp)
  have w6 : RepW K x1 sx.2 H6 wa D := RepW.fr f46 w4 (by simp)
  have daD : da ∉ D := fun z => RepW.some w4 da z nda4
  obtain ⟨z1, z2⟩ := t4.no nda4
  have i6t := frIns f46 i4
  have f06 : Fr [ld] H H6 := ((f02.mono (by simp)).trans f24).trans (f46.mono (by simp))
  walk_at "gof"
  have gN : (Wd.notes [] sx.2).good := k1
  have rN : (Wd.notes [] sx.2).room b.asks := ⟨by simp; omega, k4⟩
  refine ⟨vb, ⟨x1, lc, ld⟩, cs, ds1, sx.1, .notes [] sx.2, x3, da :: D, r, ds2, rfl, f06.td hb, k3, t6, ⟨dx3, wa, da, D, [], rfl, daD, i6, hd6, rfl, w6⟩, by simp only [List.mem_cons, not_or]; exact ⟨z1, ncD⟩, by simp only [List.mem_cons, not_or]; exact ⟨z2, ndD⟩, gN, by rw [Wd.dep, k2], rN, e2, fun H7 f7 t7 w7 => ?_⟩
  obtain ⟨m1, m2, m3, m4, m5⟩ := runM_keep b ok k3 gN e2
  obtain ⟨asked, u, eu, ek⟩ := kd_notes m4
  rw [eu] at w7
  obtain ⟨dx', wa', da', D', us, eD, hn', i7, hd7, hv7, wu⟩ := w7
  have i7' := frIns f7 i6
  rw [i7] at i7'
  injection i7' with i7'
  injection i7' with _ _ i7'
  simp only [List.cons.injEq, Prod.mk.injEq, V.ref.injEq, true_and, and_true] at i7'
  obtain ⟨ewa, eda⟩ := i7'
  subst ewa eda
  injection eD with _ eD
  subst eD
  have m0 := m5 0 (by omega) (by simpa using rN)
  rw [eu] at m0 m2 e3
  have i7t := frIns f7 i6t
  have f07 : Fr (ld :: da' :: D) H H7 := (f06.mono (by simp)).trans f7
  have hg7 := f07.td hg
  walk_at "gof"
  refine ⟨x2, dx2, vg, ⟨x1, lc, ld⟩, cs, ds2, sx.1, wa', u, D, da', us, asked, r.1, won, ds', rfl, i7t, hg7, t7, wu, ncD, ndD, m2, fun hz => ?_, hd7, hv7, by have := m0.1; omega, m1, e3, fun H8 f8 t8 => ?_⟩
  · obtain ⟨q1, q2⟩ := k5 hz
    refine ⟨q1, ?_, ?_⟩
    · rw [kd_dep ek, k2]
      cases g with
      | marks n l m tab real => rfl
      | gen n m rows real => rfl
      | fn n l m tab real => rfl
      | secrets n l m tab real b => exact absurd hz (by show ("secrets" : Str) ≠ "marks"; decide)
    · have := m5 1 (by omega) ⟨by simp; omega, q2⟩
      rw [eu] at this
      exact this.2
  have f08 : Fr (ld :: da' :: D) H H8 := f07.trans (f8.mono (by intro y hy; rcases List.mem_cons.mp hy with rfl | hy; exact List.mem_cons_self ..; exact List.mem_cons_of_mem _ (List.mem_cons_of_mem _ hy)))
  obtain ⟨tx, hti⟩ := t8.ins
  have i8n := frIns f8 i7
  walk_at "gof"
  walk_at "mk"; rename_i x4 dx4 nx4 H9 s9 fB9 h9
  refine ⟨rfl, ?_⟩
  refine ⟨x4, dx4, _, _, _, _, rfl, h9, fun H10 fr10 i10 => ?_⟩
  have f8A : Fr [] H8 H10 := fB9 _ _ fr10
  refine ⟨rfl, ?_⟩
  obtain ⟨us2, hl8, hv8⟩ := t8.ld
  have s03 : Same H H3 := (Fr.toS f02).trans s3
  have s04 : Same H H4 := Fr.toS (((f02.mono (by simp)).trans f24).drop fun y hy _ => by rw [List.mem_singleton.mp hy]; exact nld0)
  have sA : Same H H10 := Fr.toS ((f08.trans (f8A.mono (by simp))).drop fun y hy _ => by
    simp only [List.mem_cons] at hy
    rcases hy with rfl | rfl | hy
    · exact nld0
    · exact noneS s04 nda4
    · exact noneS s03 (hD y hy))
  exact q x4 dx4 ld _ _ us2 H10 sA i10 (Fr.toS f8A _ _ hl8) (TdL.same (Fr.toS f8A) hv8)
end
/-! Part A28: fractions. -/
open PySem PySem.Spec PyProof.Rows L2
def frD (q : Rat) : PyData := .tuple [.int q.num, .int q.den]
/-- small enough -/
def RB (q : Rat) (k : Nat) : Prop := q.num.natAbs < 2 ^ k ∧ q.den < 2 ^ k
theorem mkRat_num (n : Int) (d : Nat) (h : 0 < d) : (mkRat n d).num = n / ((Nat.gcd n.natAbs d : Nat) : Int) ∧ (mkRat n d).den = d / Nat.gcd n.natAbs d := by
  have h0 : d ≠ 0 := by omega
  rw [← Rat.normalize_eq_mkRat h0, Rat.normalize_eq]
  exact ⟨rfl, rfl⟩
theorem mkRat_RB {n : Int} {d k : Nat} (h : 0 < d) (hn : n.natAbs < 2 ^ k) (hd : d < 2 ^ k) : RB (mkRat n d) k := by
  obtain ⟨h1, h2⟩ := mkRat_num n d h
  refine ⟨?_, ?_⟩
  · rw [h1]
    refine Nat.lt_of_le_of_lt ?_ hn
    rw [Int.natAbs_ediv_of_dvd (Int.ofNat_dvd_left.mpr (Nat.gcd_dvd_left _ _))]
    exact Nat.div_le_self _ _
  · rw [h2]; exact Nat.lt_of_le_of_lt (Nat.div_le_self _ _) hd
theorem add_mkRat (p q : Rat) : mkRat (p.num * q.den + q.num * p.den) (p.den * q.den) = p + q := by
  rw [Rat.add_def, Rat.normalize_eq_mkRat]
theorem sub_mkRat (p q : Rat) : mkRat (p.num * q.den - q.num * p.den) (p.den * q.den) = p - q := by
  rw [Rat.sub_def, Rat.normalize_eq_mkRat]
section
variable {P : Program} {w : World} {K : PySem.W.Frag} {mg : Str → Option Value} {base : Heap}
theorem c_fraction (T : Tx w K mg) : C8.Cal P w K mg base 1 "fraction" (spN 2 fun vs H Q _ => ∃ n : Int, ∃ d : Nat, vs = [.int n, .int d] ∧ 0 < d ∧ d < 2 ^ 8900 ∧ ∀ v H', Same H H' → Td H' (frD (mkRat n d)) v → Q v H') [] := by
  refine mkFn T.fn_fraction sc_fraction (fun _ _ _ _ _ _ us hl => match us, hl with | [_, _], _ => rfl) (fun f cdv A outer s H vs Q E hr _ h => ?_)
  obtain ⟨n, d, rfl, hd, hb, q⟩ := h
  refine ⟨_, (pss_cons (ps_set (i := 2) sc_fraction.nd rfl (by first | exact Or.inl rfl | exact Or.inr rfl) (pe_callBfun cr_gcd (by rfl) T.k_gcd (pa_cons (pv 0) (pa_cons (pv 1) pa_nil))))
  (pss_cons (ps_if (pt_cmpR op_lt (pv 1) pe_int (by rfl)) (pss_one (ps_set (i := 2) sc_fraction.nd rfl (by first | exact Or.inl rfl | exact Or.inr rfl) (pe_un un_neg (pv 2)))) pss_nil)
  (pss_one (ps_ret (pe_tup (pa_cons (pe_op op_fdivW (pv 0) (pv 2)) (pa_cons (pe_op op_fdivW (pv 1) (pv 2)) pa_nil))))))), ?_⟩
  walk_at "gof"
  refine ⟨n, d, rfl, ?_⟩
  obtain ⟨e1, e2⟩ := mkRat_num n d hd
  rw [Int.natAbs_natCast]
  have gp : 0 < Nat.gcd n.natAbs d := Nat.gcd_pos_of_pos_right _ hd
  have gl : Nat.gcd n.natAbs d ≤ d := Nat.le_of_dvd hd (Nat.gcd_dvd_right _ _)
  generalize Nat.gcd n.natAbs d = g at e1 e2 gp gl
  have cd : ∀ i : Int, CDivW i (g : Int) := fun i => wide_div (b := 8900) (by omega) (by rw [Int.natAbs_natCast]; exact Nat.lt_of_le_of_lt gl hb) (by decide) (by decide)
  walk_at "gof"
  refine ite_f (by simp) ?_
  walk_at "gof"
  refine r_I (cd _) ?_
  walk_at "gof"
  refine r_I (cd _) ?_
  walk_at "gof"
  walk_at "new"; rename_i p np H1 s1 h1
  refine q _ _ s1 ⟨p, _, rfl, h1, _, _, rfl, ?_, _, _, rfl, ?_, rfl⟩
  · show V.int _ = V.int _
    rw [e1]
  · show V.int _ = V.int _
    rw [e2, Int.natCast_ediv]
theorem rb_mul {a b k : Nat} (h1 : a < 2 ^ k) (h2 : b < 2 ^ k) : a * b < 2 ^ (2 * k) := by
  rw [show 2 * k = k + k by omega, Nat.pow_add]
  exact Nat.mul_lt_mul'' h1 h2
theorem c_add (T : Tx w K mg) : C8.Cal P w K mg base 2 "add" (spN 2 fun vs H Q _ => ∃ u v p q k, vs = [u, v] ∧ Td H (frD p) u ∧ Td H (frD q) v ∧ RB p k ∧ RB q k ∧ 1 ≤ k ∧ k ≤ 4400 ∧ ∀ v H', Same H H' → Td H' (frD (p + q)) v → Q v H') [] := by
  refine mkFn T.fn_add sc_add (fun _ _ _ _ _ _ us hl => match us, hl with | [_, _], _ => rfl) (fun f cdv A outer s H vs Q E hr _ h => ?_)
  obtain ⟨u, v, p, q, k, rfl, hp, hq, bp, bq, k1, hk, qq⟩ := h
  obtain ⟨b1, b2⟩ := bp
  obtain ⟨b3, b4⟩ := bq
  have dp := p.den_pos
  have dq := q.den_pos
  have cm : ∀ i j : Int, i.natAbs < 2 ^ k → j.natAbs < 2 ^ k → CMulW i j := fun i j h1 h2 => wide_mul h1 h2 (by omega) (by omega) (by omega)
  refine ⟨_, (pss_one (ps_ret (C8.pe_c (c_fraction T) hr (by first | decide | omega) (by rfl) (pa_cons (pe_op op_add (pe_op op_mulW (pe_ix (ixK (K := K)) (pv 0) pe_int (fun _ _ => rfl)) (pe_ix (ixK (K := K)) (pv 1) pe_int (fun _ _ => rfl))) (pe_op op_mulW (pe_ix (ixK (K := K)) (pv 1) pe_int (fun _ _ => rfl)) (pe_ix (ixK (K := K)) (pv 0) pe_int (fun _ _ => rfl)))) (pa_cons (pe_op op_mulW (pe_ix (ixK (K := K)) (pv 0) pe_int (fun _ _ => rfl)) (pe_ix (ixK (K := K)) (pv 1) pe_int (fun _ _ => rfl))) pa_nil))))), ?_⟩
  rw [frD] at hp hq
  walk_at "gof"
  refine r_I (cm _ _ b1 (by rw [Int.natAbs_natCast]; exact b4)) ?_
  walk_at "gof"
  refine r_I (cm _ _ b3 (by rw [Int.natAbs_natCast]; exact b2)) ?_
  walk_at "gof"
  refine r_I (cm _ _ (by rw [Int.natAbs_natCast]; exact b2) (by rw [Int.natAbs_natCast]; exact b4)) ?_
  walk_at "gof"
  refine ⟨_, p.den * q.den, by rw [Int.natCast_mul]; rfl, Nat.mul_pos dp dq, Nat.lt_of_lt_of_le (rb_mul b2 b4) (Nat.pow_le_pow_right (by decide) (by omega)), fun v H1 s1 hv => ?_⟩
  rw [add_mkRat] at hv
  walk_at "gof"
  exact qq v H1 s1 hv
theorem c_less (T : Tx w K mg) : C8.Cal P w K mg base 2 "less" (spN 2 fun vs H Q _ => ∃ u v p q k, vs = [u, v] ∧ Td H (frD p) u ∧ Td H (frD q) v ∧ RB p k ∧ RB q k ∧ 1 ≤ k ∧ k ≤ 4400 ∧ ∀ v H', Same H H' → Td H' (frD (p - q)) v → Q v H') [] := by
  refine mkFn T.fn_less sc_less (fun _ _ _ _ _ _ us hl => match us, hl with | [_, _], _ => rfl) (fun f cdv A outer s H vs Q E hr _ h => ?_)
  obtain ⟨u, v, p, q, k, rfl, hp, hq, bp, bq, k1, hk, qq⟩ := h
  obtain ⟨b1, b2⟩ := bp
  obtain ⟨b3, b4⟩ := bq
  have dp := p.den_pos
  have dq := q.den_pos
  have cm : ∀ i j : Int, i.natAbs < 2 ^ k → j.natAbs < 2 ^ k → CMulW i j := fun i j h1 h2 => wide_mul h1 h2 (by omega) (by omega) (by omega)
  refine ⟨_, (pss_one (ps_ret (C8.pe_c (c_fraction T) hr (by first | decide | omega) (by rfl) (pa_cons (pe_op op_sub (pe_op op_mulW (pe_ix (ixK (K := K)) (pv 0) pe_int (fun _ _ => rfl)) (pe_ix (ixK (K := K)) (pv 1) pe_int (fun _ _ => rfl))) (pe_op op_mulW (pe_ix (ixK (K := K)) (pv 1) pe_int (fun _ _ => rfl)) (pe_ix (ixK (K := K)) (pv 0) pe_int (fun _ _ => rfl)))) (pa_cons (pe_op op_mulW (pe_ix (ixK (K := K)) (pv 0) pe_int (fun _ _ => rfl)) (pe_ix (ixK (K := K)) (pv 1) pe_int (fun _ _ => rfl))) pa_nil))))), ?_⟩
  rw [frD] at hp hq
  walk_at "gof"
  refine r_I (cm _ _ b1 (by rw [Int.natAbs_natCast]; exact b4)) ?_
  walk_at "gof"
  refine r_I (cm _ _ b3 (by rw [Int.natAbs_natCast]; exact b2)) ?_
  walk_at "gof"
  refine r_I (cm _ _ (by rw [Int.natAbs_natCast]; exact b2) (by rw [Int.natAbs_natCast]; exact b4)) ?_
  walk_at "gof"
  refine ⟨_, p.den * q.den, by rw [Int.natCast_mul]; rfl, Nat.mul_pos dp dq, Nat.lt_of_lt_of_le (rb_mul b2 b4) (Nat.pow_le_pow_right (by decide) (by omega)), fun v H1 s1 hv => ?_⟩
  rw [sub_mkRat] at hv
  walk_at "gof"
  exact qq v H1 s1 hv
end
theorem RB.mono {p : Rat} {k j : Nat} (h : RB p k) (e : k ≤ j) : RB p j := ⟨Nat.lt_of_lt_of_le h.1 (Nat.pow_le_pow_right (by decide) e), Nat.lt_of_lt_of_le h.2 (Nat.pow_le_pow_right (by decide) e)⟩
theorem rb_add {p q : Rat} {k j : Nat} (hp : RB p k) (hq : RB q j) : RB (p + q) (k + j + 1) := by
  obtain ⟨b1, b2⟩ := hp
  obtain ⟨b3, b4⟩ := hq
  rw [← add_mkRat]
  have e := Nat.pow_succ (n := 2) (m := k + j)
  have e2 := Nat.pow_add 2 k j
  have m1 := Nat.mul_lt_mul'' b1 b4
  have m2 := Nat.mul_lt_mul'' b3 b2
  have m3 := Nat.mul_lt_mul'' b2 b4
  rw [Nat.mul_comm (2 ^ j)] at m2
  refine mkRat_RB (Nat.mul_pos p.den_pos q.den_pos) ?_ ?_
  · refine Nat.lt_of_le_of_lt (Int.natAbs_add_le _ _) ?_
    rw [Int.natAbs_mul, Int.natAbs_mul, Int.natAbs_natCast, Int.natAbs_natCast]
    omega
  · omega
/-! Part A29: the next choices. -/
open PySem PySem.Spec PyProof.Rows L2
def nextC : List (Nat × Nat) → Option (List Nat)
  | [] => none
  | (c, m) :: r => match nextC r with
    | some cs => some (c :: cs)
    | none => if c + 1 < m then some [c + 1] else none
theorem nextC_snoc (c m : Nat) : ∀ ds : List (Nat × Nat), nextC (ds ++ [(c, m)]) = if c + 1 < m then some (ds.map (·.1) ++ [c + 1]) else nextC ds
  | [] => by simp [nextC]
  | (a, b) :: r => by
    have ih := nextC_snoc c m r
    show nextC ((a, b) :: (r ++ [(c, m)])) = _
    rw [nextC, ih]
    by_cases h : c + 1 < m
    · rw [if_pos h, if_pos h]; rfl
    · rw [if_neg h, if_neg h, nextC]
theorem r_revR1 {ta : TE} {σ : L2.St} {H : Hp} {R : It → Hp → Prop} (h : ta σ H fun x H1 => ∃ n : Int, x = .int n ∧ -(2 ^ 62) ≤ (0 : Int) ∧ (0 : Int) < 2 ^ 62 ∧ -(2 ^ 62) ≤ n ∧ n < 2 ^ 62 ∧ R (Itc (0 + (((n - 0).toNat : Nat) : Int) - 1) (-1) (n - 0).toNat) H1) : iRevR (tRg1 ta) σ H R := h
theorem cutV_to {xs : List V} {n : Nat} (h : n ≤ xs.length) : cutV xs none (some (n : Int)) = xs.take n := by
  unfold cutV
  rw [sIx_i _ _ _ (by omega), show HT.sIx xs.length 0 none = 0 from rfl, Int.toNat_natCast, Nat.min_eq_left h, List.drop_zero, Nat.sub_zero]
section
variable {P : Program} {w : World} {K : PySem.W.Frag} {mg : Str → Option Value} {base : Heap}
theorem c_next_choices (T : Tx w K mg) : C8.Cal P w K mg base 1 "next_choices" (spN 1 fun vs H Q _ => ∃ la us ds, vs = [.ref la] ∧ H la = some (.lst us) ∧ TdL H (List.map pairD ds) us ∧ ds.length ≤ 1000 ∧ (∀ p ∈ ds, p.1 < 2 ^ 60) ∧
    (nextC ds = none → ∀ H', Same H H' → Q .non H') ∧ (∀ cs, nextC ds = some cs → ∀ p H', Same H H' → H' p = some (.lst (cs.map fun c : Nat => V.int c)) → Q (.ref p) H')) [] := by
  refine mkFn T.fn_next_choices sc_next_choices (fun _ _ _ _ _ _ us hl => match us, hl with | [_], _ => rfl) (fun f cdv A outer s H vs Q E hr _ h => ?_)
  obtain ⟨la, us, ds, rfl, hla, hus, hl, hc, q1, q2⟩ := h
  have hul : us.length = ds.length := by rw [hus.len, List.length_map]
  refine ⟨_, (pss_cons (ps_for PassesOwn.never rfl (pi_revR (by rfl) T.f_reversed (prg_1 (by rfl) T.f_range (pe_callB (lenK (K := K)) (by rfl) T.f_len bt_len (pa_cons (pv 0) pa_nil)))) (pg_name (i := 1) sc_next_choices.nd rfl (by first | exact Or.inl rfl | exact Or.inr rfl)) (pss_cons (ps_asg (pe_ix (ixK (K := K)) (pv 0) (pv 1) (fun _ _ => rfl)) (pgTK (K := K) (n := 2) rfl (pgs_cons (pg_name (i := 2) sc_next_choices.nd rfl (by first | exact Or.inl rfl | exact Or.inr rfl)) (pgs_cons (pg_name (i := 3) sc_next_choices.nd rfl (by first | exact Or.inl rfl | exact Or.inr rfl)) pgs_nil)) (hn := by rfl)))
  (pss_one (ps_if (pt_cmpR op_lt (pe_op op_add (pv 2) pe_int) (pv 3) (by rfl)) (pss_one (ps_ret (pe_op op_cat (pe_lc (own := [("one", 4), ("_", 5)]) (by rfl) sc_next_choices.nd (piLK (K := K) (pe_slice (slLK (K := K)) (pv 0) po_none (po_some (pv 1)))) (blkOk_by (by rfl)) (fun _ _ _ _ _ => (pgTK (K := K) (n := 2) rfl (pgs_cons (pg_name (i := 4) sc_next_choices.nd rfl (by first | exact Or.inl rfl | exact Or.inr rfl)) (pgs_cons (pg_name (i := 5) sc_next_choices.nd rfl (by first | exact Or.inl rfl | exact Or.inr rfl)) pgs_nil)) (hn := by rfl))) (fun _ _ _ _ _ => pts_nil) (fun _ _ _ _ _ => (pv 4))) (pe_lst (pa_cons (pe_op op_add (pv 2) pe_int) pa_nil))))) pss_nil))))
  (pss_one (ps_ret pe_non))), ?_⟩
  walk_at "gof"
  refine r_revR1 ?_
  walk_at "gof"
  refine ⟨by decide, by decide, by omega, by omega, ?_⟩
  rw [show (0 : Int) + ((((us.length : Int)) - 0).toNat : Nat) - 1 = (ds.length : Int) - 1 by omega, show (((us.length : Int)) - 0).toNat = ds.length by omega]
  refine for_it walk_rangeC (fun i σ H2 => ∃ y1 y2 y3, σ = [some (.ref la), y1, y2, y3, none, none] ∧ Same H H2 ∧ nextC ds = nextC (ds.take (ds.length - i))) ⟨none, none, none, rfl, Same.refl _, by simp⟩ (fun _ _ _ _ _ => trivial) (fun i x σ H2 H3 hi hp hy => ?_) (fun σ H2 hp => ?_)
  · obtain ⟨y1, y2, y3, rfl, s2, en⟩ := hp
    obtain ⟨rfl, hx⟩ := hy
    obtain ⟨k, hk⟩ : ∃ k : Nat, k = ds.length - 1 - i := ⟨_, rfl⟩
    have hx : x = .int (k : Nat) := by
      simp only [hx]
      rw [show ((ds.length : Int) - 1 + (i : Nat) * (-1)) = (k : Nat) by omega]
    subst hx
    have hkl : k < ds.length := by omega
    have hdk : ds.take (ds.length - i) = ds.take k ++ [ds[k]] := by
      rw [show ds.length - i = k + 1 by omega, List.take_add_one, List.getElem?_eq_getElem hkl]; rfl
    rw [hdk, show ds[k] = (ds[k].1, ds[k].2) from rfl, nextC_snoc] at en
    obtain ⟨u, hu, hd⟩ := TdL.get hus (d := pairD ds[k]) (i := k) (by rw [List.getElem?_map, List.getElem?_eq_getElem hkl]; rfl)
    obtain ⟨pu, _, rfl, hpu, _, _, rfl, z1, _, _, rfl, z2, rfl⟩ := hd
    obtain rfl := z1
    obtain rfl := z2
    walk_at "gof"
    refine r_ixL (by simp) (s2 _ _ hla) (by rw [Int.toNat_natCast]; exact hu) ?_
    refine r_gTup (SqT.of (s2 _ _ hpu)) rfl ?_
    walk_at "gof"
    have ec : cutV us none (some ((k : Nat) : Int)) = us.take k := cutV_to (by omega)
    by_cases c : ds[k].1 + 1 < ds[k].2
    · refine ite_t (by simp; omega) ?_
      walk_at "gof"
      refine ⟨la, us, rfl, SqL.of (s2 _ _ hla), fun p np => ?_⟩
      rw [ec]
      generalize e1 : upd H3 p _ = H4
      obtain ⟨s4, h4⟩ := newE2 e1 np
      clear e1
      refine ⟨p, rfl, ⟨_, SqL.of h4⟩, fun B nB => ?_⟩
      have hus3 := TdL.same (s2.trans s4) hus
      refine lc_it (walk_list (xs := us.take k)) (fun i H5 => Same H4 H5 ∧ H5 B = some (.lst (((ds.take i).map (·.1)).map fun c : Nat => V.int c))) ⟨same_upd nB, upd_same⟩ (fun _ _ _ hp => SqL.of (hp.1 _ _ h4)) (fun i x H5 H6 hi hp hy => ?_) (fun H5 hp => ?_)
      · obtain ⟨s5, h5⟩ := hp
        obtain ⟨rfl, hxi⟩ := hy
        rw [List.length_take] at hi
        have hil : i < ds.length := by omega
        rw [List.getElem?_take, if_pos (by omega)] at hxi
        obtain ⟨u, hu, hd⟩ := TdL.get hus3 (d := pairD ds[i]) (i := i) (by rw [List.getElem?_map, List.getElem?_eq_getElem hil]; rfl)
        obtain rfl : u = x := Option.some.inj (hu.symm.trans hxi)
        obtain ⟨pu, _, rfl, hpu, _, _, rfl, z1, _, _, rfl, z2, rfl⟩ := hd
        obtain rfl := z1
        obtain rfl := z2
        refine r_gTup (SqT.of (s5 _ _ hpu)) rfl ?_
        walk_at "gof"
        refine ⟨rfl, ?_⟩
        walk_at "gof"
        refine ⟨_, h5, smallL (by simp; omega), s5.putNew nB, ?_⟩
        rw [upd_same, List.take_add_one, List.getElem?_eq_getElem hil]
        simp only [List.map_append]
        rfl
      · obtain ⟨s5, h5⟩ := hp
        rw [List.length_take, Nat.min_eq_left (by omega)] at h5
        walk_at "gof"
        walk_at "new"; rename_i p6 np6 H6 s6 h6
        refine ⟨B, p6, _, _, rfl, rfl, s6 _ _ h5, h6, small (by simp; omega), fun p7 np7 => ?_⟩
        generalize e7 : upd H6 p7 _ = H7
        obtain ⟨s7, h7⟩ := newE2 e7 np7
        rw [if_pos c] at en
        refine q2 _ en p7 H7 ((((s2.trans s4).trans s5).trans s6).trans s7) ?_
        rw [h7, List.map_append]
        rfl
    · refine ite_f (by simp; omega) ?_
      walk_at "gof"
      rw [if_neg c] at en
      exact ⟨_, _, _, rfl, s2, by rw [en, show ds.length - (i + 1) = k by omega]⟩
  · obtain ⟨y1, y2, y3, rfl, s2, en⟩ := hp
    walk_at "gof"
    exact q1 (by rw [en, Nat.sub_self]; rfl) H2 s2
end
/-! Part A30: all ways, in order. -/
namespace Dr
variable {α β : Type}
abbrev Ds := List (Nat × Nat)
def run : List Nat → Dr α → Option (α × Ds)
  | _, ret a => some (a, [])
  | cs, draw m k => if cs.headD 0 < m then (run cs.tail (k (cs.headD 0))).map fun r => (r.1, (cs.headD 0, m) :: r.2) else none
def leaves : Dr α → List (Ds × α)
  | ret a => [([], a)]
  | draw m k => (List.range m).flatMap fun i => (leaves (k i)).map fun r => ((i, m) :: r.1, r.2)
/-- at most d draws, their numbers powers of 2 and 3, a and b together; Q of what comes -/
def Bq : Dr α → Nat → Nat → Nat → (α → Prop) → Prop
  | ret x, _, _, _, Q => Q x
  | draw m k, d, a, b, Q => ∃ d' x y, d = d' + 1 ∧ m = 2 ^ x * 3 ^ y ∧ x ≤ a ∧ y ≤ b ∧ ∀ i, i < m → Bq (k i) d' (a - x) (b - y) Q
theorem Bq.mono {Q Q' : α → Prop} (hQ : ∀ x, Q x → Q' x) : ∀ {t : Dr α} {d a b d' a' b' : Nat}, Bq t d a b Q → d ≤ d' → a ≤ a' → b ≤ b' → Bq t d' a' b' Q'
  | ret x, _, _, _, _, _, _, h, _, _, _ => hQ _ h
  | draw m k, d, a, b, d', a', b', h, hd, ha, hb => by
    obtain ⟨d0, x, y, rfl, e, hx, hy, hk⟩ := h
    exact ⟨d' - 1, x, y, by omega, e, by omega, by omega, fun i hi => Bq.mono hQ (hk i hi) (by omega) (by omega) (by omega)⟩
theorem Bq.bind {Q : α → Prop} {R : β → Prop} {f : α → Dr β} {d2 a2 b2 : Nat} (hf : ∀ x, Q x → Bq (f x) d2 a2 b2 R) : ∀ {t : Dr α} {d a b : Nat}, Bq t d a b Q → Bq (t.bind f) (d + d2) (a + a2) (b + b2) R
  | ret x, d, a, b, h => Bq.mono (fun _ h => h) (hf x h) (by omega) (by omega) (by omega)
  | draw m k, d, a, b, h => by
    obtain ⟨d0, x, y, rfl, e, hx, hy, hk⟩ := h
    exact ⟨d0 + d2, x, y, by omega, e, by omega, by omega, fun i hi => Bq.mono (fun _ h => h) (Bq.bind hf (hk i hi)) (by omega) (by omega) (by omega)⟩
theorem pow_pos' (x y : Nat) : 0 < 2 ^ x * 3 ^ y := Nat.mul_pos (Nat.pow_pos (by decide)) (Nat.pow_pos (by decide))
def prodD (ds : Ds) : Nat := (ds.map (·.2)).prod
theorem leaves_mem {Q : α → Prop} : ∀ {t : Dr α} {d a b : Nat}, Bq t d a b Q → ∀ r ∈ leaves t, r.1.length ≤ d ∧ Q r.2 ∧ (∀ p ∈ r.1, p.1 < p.2 ∧ p.2 ≤ 2 ^ a * 3 ^ b) ∧ ∃ x y, prodD r.1 = 2 ^ x * 3 ^ y ∧ x ≤ a ∧ y ≤ b
  | ret v, d, a, b, h, r, hr => by
    rw [leaves, List.mem_singleton] at hr
    subst hr
    exact ⟨by simp, h, by simp, 0, 0, rfl, by omega, by omega⟩
  | draw m k, d, a, b, h, r, hr => by
    obtain ⟨d0, x, y, rfl, e, hx, hy, hk⟩ := h
    rw [leaves, List.mem_flatMap] at hr
    obtain ⟨i, hi, hr⟩ := hr
    rw [List.mem_range] at hi
    obtain ⟨r', hr', rfl⟩ := List.mem_map.mp hr
    obtain ⟨h1, h2, h3, x', y', h4, h5, h6⟩ := leaves_mem (hk i hi) r' hr'
    have hm : ∀ u v : Nat, u ≤ a → v ≤ b → 2 ^ u * 3 ^ v ≤ 2 ^ a * 3 ^ b := fun u v hu hv => Nat.mul_le_mul (Nat.pow_le_pow_right (by decide) hu) (Nat.pow_le_pow_right (by decide) hv)
    refine ⟨by simp only [List.length_cons]; omega, h2, fun p hp => ?_, x + x', y + y', ?_, by omega, by omega⟩
    · rcases List.mem_cons.mp hp with rfl | hp
      · exact ⟨hi, by rw [e]; exact hm x y hx hy⟩
      · exact ⟨(h3 p hp).1, Nat.le_trans (h3 p hp).2 (hm _ _ (by omega) (by omega))⟩
    · show m * prodD r'.1 = _
      rw [h4, e, Nat.pow_add, Nat.pow_add]
      ac_rfl
theorem flatMap_len {l : List Nat} {f : Nat → List β} {n : Nat} (h : ∀ i ∈ l, (f i).length ≤ n) : (l.flatMap f).length ≤ l.length * n := by
  induction l with
  | nil => simp
  | cons x r ih =>
    rw [List.flatMap_cons, List.length_append, List.length_cons, Nat.succ_mul]
    have h1 := h x (by simp)
    have h2 := ih fun i hi => h i (by simp [hi])
    omega
theorem leaves_len {Q : α → Prop} : ∀ {t : Dr α} {d a b : Nat}, Bq t d a b Q → (leaves t).length ≤ 2 ^ a * 3 ^ b
  | ret v, d, a, b, h => by rw [leaves]; exact pow_pos' a b
  | draw m k, d, a, b, h => by
    obtain ⟨d0, x, y, rfl, e, hx, hy, hk⟩ := h
    rw [leaves]
    have := flatMap_len (l := List.range m) (f := fun i => (leaves (k i)).map fun r => ((i, m) :: r.1, r.2)) (n := 2 ^ (a - x) * 3 ^ (b - y)) fun i hi => by
      rw [List.length_map]; exact leaves_len (hk i (List.mem_range.mp hi))
    rw [List.length_range] at this
    refine Nat.le_trans this (Nat.le_of_eq ?_)
    rw [e, show 2 ^ a = 2 ^ x * 2 ^ (a - x) by rw [← Nat.pow_add]; congr 1; omega, show 3 ^ b = 3 ^ y * 3 ^ (b - y) by rw [← Nat.pow_add]; congr 1; omega]
    ac_rfl
theorem exec_run {Q : α → Prop} (cs : List Nat) : ∀ {t : Dr α} {d a b : Nat} (pre : Ds), Bq t d a b Q → pre.length + d ≤ 1000 → exec cs t pre = (run (cs.drop pre.length) t).map fun r => (r.1, pre ++ r.2)
  | ret x, d, a, b, pre, h, hl => by simp [exec, run]
  | draw m k, d, a, b, pre, h, hl => by
    obtain ⟨d0, x, y, rfl, e, hx, hy, hk⟩ := h
    have eh : (cs.drop pre.length).headD 0 = cs.getD pre.length 0 := by
      rw [List.headD_eq_head?_getD, List.head?_drop, List.getD_eq_getElem?_getD]
    have et : (cs.drop pre.length).tail = cs.drop (pre.length + 1) := by rw [List.tail_drop]
    rw [exec, run, eh, et]
    by_cases c : cs.getD pre.length 0 < m
    · rw [if_pos ⟨c, by omega⟩, if_pos c, exec_run cs _ (hk _ c) (by simp; omega)]
      rw [List.length_append, List.length_singleton, Option.map_map]
      congr 1
      funext r
      simp
    · rw [if_neg (fun z => c z.1), if_neg c]; rfl
/-- the choices that lead through the rest of the ways -/
inductive Chain (t : Dr α) : List Nat → List (Ds × α) → Prop
  | last {cs : List Nat} {v : α} {ds : Ds} : run cs t = some (v, ds) → nextC ds = none → Chain t cs [(ds, v)]
  | step {cs cs' : List Nat} {v : α} {ds : Ds} {r : List (Ds × α)} : run cs t = some (v, ds) → nextC ds = some cs' → Chain t cs' r → Chain t cs ((ds, v) :: r)
theorem chain_sub {m : Nat} {k : Nat → Dr α} {i : Nat} {more : List (Ds × α)} (hi : i < m) (hm : (i + 1 < m ∧ Chain (draw m k) [i + 1] more) ∨ (¬ i + 1 < m ∧ more = [])) :
    ∀ {cs : List Nat} {l : List (Ds × α)}, Chain (k i) cs l → Chain (draw m k) (i :: cs) (l.map (fun r => ((i, m) :: r.1, r.2)) ++ more) := by
  intro cs l h
  have er : ∀ (cs : List Nat) (v : α) (ds : Ds), run cs (k i) = some (v, ds) → run (i :: cs) (draw m k) = some (v, (i, m) :: ds) := fun cs v ds e => by
    rw [run, show (i :: cs).headD 0 = i from rfl, if_pos hi, show (i :: cs).tail = cs from rfl, e]; rfl
  induction h with
  | last e n =>
    rename_i cs v ds
    rcases hm with ⟨h1, h2⟩ | ⟨h1, rfl⟩
    · exact .step (er _ _ _ e) (by rw [nextC, n]; exact if_pos h1) h2
    · exact .last (er _ _ _ e) (by rw [nextC, n]; exact if_neg h1)
  | step e n c ih =>
    exact .step (er _ _ _ e) (by rw [nextC, n]) ih
theorem chain_zero {m : Nat} {k : Nat → Dr α} : ∀ {cs : List Nat} {l : List (Ds × α)} {i : Nat}, Chain (draw m k) (i :: cs) l → cs = [] → (i = 0 → Chain (draw m k) [] l) := by
  intro cs l i h hc hi
  subst hc hi
  generalize e : ([0] : List Nat) = c at h
  cases h with
  | last e1 n => subst e; exact .last e1 n
  | step e1 n c => subst e; exact .step e1 n c
theorem chain_leaves {Q : α → Prop} : ∀ {t : Dr α} {d a b : Nat}, Bq t d a b Q → Chain t [] (leaves t)
  | ret v, d, a, b, h => .last rfl rfl
  | draw m k, d, a, b, h => by
    obtain ⟨d0, x, y, rfl, e, hx, hy, hk⟩ := h
    have hm : 0 < m := by rw [e]; exact pow_pos' x y
    have key : ∀ j, j < m → Chain (draw m k) [m - 1 - j] ((List.range' (m - 1 - j) (j + 1)).flatMap fun i => (leaves (k i)).map fun r => ((i, m) :: r.1, r.2)) := by
      intro j
      induction j with
      | zero =>
        intro hj
        have h1 := chain_sub (i := m - 1) (more := []) (m := m) (k := k) (by omega) (.inr ⟨by omega, rfl⟩) (chain_leaves (hk (m - 1) (by omega)))
        simpa using h1
      | succ j ih =>
        intro hj
        have h0 := ih (by omega)
        rw [show m - 1 - j = m - 1 - (j + 1) + 1 by omega] at h0
        have h1 := chain_sub (i := m - 1 - (j + 1)) (m := m) (k := k) (by omega) (.inl ⟨by omega, h0⟩) (chain_leaves (hk (m - 1 - (j + 1)) (by omega)))
        rw [List.range'_succ, List.flatMap_cons]
        exact h1
    have h := key (m - 1) (by omega)
    rw [Nat.sub_self, show m - 1 + 1 = m by omega] at h
    have h2 := chain_zero h rfl rfl
    rw [leaves, List.range_eq_range']
    exact h2
end Dr
/-! Part A31: chances. -/
namespace Dr
variable {α β : Type}
def sumR : List Rat → Rat
  | [] => 0
  | x :: r => x + sumR r
theorem sumR_append : ∀ a b : List Rat, sumR (a ++ b) = sumR a + sumR b
  | [], b => by simp [sumR, Rat.zero_add]
  | x :: r, b => by rw [List.cons_append, sumR, sumR, sumR_append r b, Rat.add_assoc]
theorem sumR_perm {a b : List Rat} (h : a.Perm b) : sumR a = sumR b := by
  induction h with
  | nil => rfl
  | cons x _ ih => rw [sumR, sumR, ih]
  | swap x y l => simp only [sumR]; rw [← Rat.add_assoc, ← Rat.add_assoc, Rat.add_comm x y]
  | trans _ _ h1 h2 => exact h1.trans h2
theorem sumR_mul (c : Rat) : ∀ l : List Rat, sumR (l.map fun x => c * x) = c * sumR l
  | [] => by simp [sumR, Rat.mul_zero]
  | x :: r => by rw [List.map_cons, sumR, sumR, sumR_mul c r, Rat.mul_add]
/-- the expectation -/
def ex : Dr α → (α → Rat) → Rat
  | ret a, f => f a
  | draw m k, f => (1 / (m : Rat)) * sumR ((List.range m).map fun i => ex (k i) f)
theorem ex_bind (g : α → Dr β) (f : β → Rat) : ∀ t : Dr α, ex (t.bind g) f = ex t fun a => ex (g a) f
  | ret a => rfl
  | draw m k => by
    show (1 / (m : Rat)) * sumR ((List.range m).map fun i => ex ((k i).bind g) f) = _
    rw [ex]
    congr 2
    refine List.map_congr_left fun i _ => ex_bind g f (k i)
theorem sumR_flatMap (f : Nat → List Rat) : ∀ l : List Nat, sumR (l.flatMap f) = sumR (l.map fun i => sumR (f i))
  | [] => rfl
  | x :: r => by rw [List.flatMap_cons, sumR_append, sumR_flatMap f r, List.map_cons, sumR]
theorem inv_mul (m n : Nat) : (1 / ((m * n : Nat) : Rat)) = (1 / (m : Rat)) * (1 / (n : Rat)) := by
  rw [Rat.natCast_mul]
  grind
theorem ex_leaves (f : α → Rat) : ∀ t : Dr α, ex t f = sumR ((leaves t).map fun r => (1 / (prodD r.1 : Rat)) * f r.2)
  | ret a => by
    rw [ex, leaves]
    simp only [List.map_cons, List.map_nil, sumR, prodD, List.prod_nil]
    grind
  | draw m k => by
    rw [ex, leaves, List.map_flatMap, sumR_flatMap, ← sumR_mul, List.map_map]
    congr 1
    refine List.map_congr_left fun i _ => ?_
    simp only [Function.comp]
    rw [ex_leaves f (k i), List.map_map, ← sumR_mul, List.map_map]
    congr 1
    refine List.map_congr_left fun r _ => ?_
    simp only [Function.comp]
    rw [show prodD ((i, m) :: r.1) = m * prodD r.1 from rfl, inv_mul, Rat.mul_assoc]
def boolR (b : Bool) : Rat := if b then 1 else 0
def prob (t : Dr Bool) : Rat := ex t boolR
/-! the counts -/
def bump : List (Nat × Nat) → Nat → List (Nat × Nat)
  | [], k => [(k, 1)]
  | (a, c) :: r, k => if a = k then (a, c + 1) :: r else (a, c) :: bump r k
def tally : List (Ds × Bool) → List (Nat × Nat) → List (Nat × Nat)
  | [], w => w
  | r :: l, w => tally l (if r.2 then bump w (prodD r.1) else w)
def sumT (w : List (Nat × Nat)) : Rat := sumR (w.map fun p => (p.2 : Rat) * (1 / (p.1 : Rat)))
theorem sumT_bump (k : Nat) : ∀ w : List (Nat × Nat), sumT (bump w k) = sumT w + 1 / (k : Rat)
  | [] => by simp only [bump, sumT, List.map_cons, List.map_nil, sumR]; grind
  | (a, c) :: r => by
    have ih := sumT_bump k r
    unfold sumT at ih ⊢
    rw [bump]
    by_cases h : a = k
    · subst h
      rw [if_pos rfl]
      simp only [List.map_cons, sumR]
      rw [Rat.natCast_add]
      grind
    · rw [if_neg h]
      simp only [List.map_cons, sumR]
      rw [ih, Rat.add_assoc]
theorem sumT_tally : ∀ (l : List (Ds × Bool)) (w : List (Nat × Nat)), sumT (tally l w) = sumT w + sumR (l.map fun r => (1 / (prodD r.1 : Rat)) * boolR r.2)
  | [], w => by simp [tally, sumR, Rat.add_zero]
  | r :: l, w => by
    rw [tally, sumT_tally l, List.map_cons, sumR]
    cases h : r.2 with
    | true => rw [if_pos rfl, sumT_bump, show boolR true = 1 from rfl, Rat.mul_one, Rat.add_assoc]
    | false => rw [if_neg (by decide), show boolR false = 0 from rfl, Rat.mul_zero, Rat.zero_add]
theorem prob_tally (t : Dr Bool) : sumT (tally (leaves t) []) = prob t := by
  rw [sumT_tally, prob, ex_leaves]
  show (0 : Rat) + _ = _
  rw [Rat.zero_add]
/-- keys once, from a set -/
theorem bump_keys (k : Nat) : ∀ w : List (Nat × Nat), (bump w k).map (·.1) = if k ∈ w.map (·.1) then w.map (·.1) else w.map (·.1) ++ [k]
  | [] => by simp [bump]
  | (a, c) :: r => by
    rw [bump]
    by_cases h : a = k
    · subst h; simp
    · rw [if_neg h, List.map_cons, bump_keys k r]
      by_cases h2 : k ∈ r.map (·.1)
      · rw [if_pos h2, if_pos (by simp only [List.map_cons, List.mem_cons]; exact .inr h2)]; rfl
      · rw [if_neg h2, if_neg (by simp only [List.map_cons, List.mem_cons, not_or]; exact ⟨fun z => h z.symm, h2⟩)]; rfl
theorem bump_nodup {k : Nat} {w : List (Nat × Nat)} (h : (w.map (·.1)).Nodup) : ((bump w k).map (·.1)).Nodup := by
  rw [bump_keys]
  by_cases h2 : k ∈ w.map (·.1)
  · rw [if_pos h2]; exact h
  · rw [if_neg h2]
    exact List.nodup_append.mpr ⟨h, by simp, fun a ha b hb => by rw [List.mem_singleton.mp hb]; exact fun z => h2 (z ▸ ha)⟩
end Dr
/-! Part A32: counting ways. -/
open PySem PySem.Spec PyProof.Rows L2
open Dr (tally prodD leaves)
def kvI (p : Nat × Nat) : Key × V := (.inl (p.1 : Int), .int (p.2 : Int))
def cntN (w : List (Nat × Nat)) (k : Nat) : Option Nat := (w.find? fun p => decide (p.1 = k)).map (·.2)
theorem valV_cnt (k : Nat) : ∀ w : List (Nat × Nat), valV (w.map kvI) (.inl (k : Int)) = (cntN w k).map fun c : Nat => V.int (c : Int)
  | [] => rfl
  | p :: r => by
    have ih := valV_cnt k r
    by_cases h : p.1 = k
    · have e1 : (kvI p).1 = Sum.inl (k : Int) := by rw [← h]; rfl
      rw [List.map_cons, valV_pos e1]
      simp [cntN, h, kvI]
    · have e1 : ¬ (kvI p).1 = Sum.inl (k : Int) := fun z => h (Int.ofNat.inj (Sum.inl.inj z))
      rw [List.map_cons, valV_neg e1, ih]
      simp [cntN, h]
theorem cntN_none {w : List (Nat × Nat)} {k : Nat} (h : k ∉ w.map (·.1)) : cntN w k = none := by
  unfold cntN
  rw [List.find?_eq_none.mpr]
  · rfl
  · intro p hp z
    exact h (List.mem_map.mpr ⟨p, hp, by simpa using z⟩)
theorem bmp_new {w : List (Nat × Nat)} {k : Nat} (h : k ∉ w.map (·.1)) : Dr.bump w k = w ++ [(k, 1)] := by
  induction w with
  | nil => rfl
  | cons p r ih =>
    simp only [List.map_cons, List.mem_cons, not_or] at h
    rw [Dr.bump, if_neg (fun z => h.1 z.symm), ih h.2]; rfl
theorem map_id_of {w : List (Nat × Nat)} {k : Nat} {v : V} (h : k ∉ w.map (·.1)) : (w.map kvI).map (fun kv => if kv.1 = Sum.inl (k : Int) then (kv.1, v) else kv) = w.map kvI := by
  rw [List.map_map]
  refine List.map_congr_left fun p hp => ?_
  simp only [Function.comp]
  rw [if_neg]
  intro z
  exact h (List.mem_map.mpr ⟨p, hp, Int.ofNat.inj (Sum.inl.inj z)⟩)
theorem putK_map {w : List (Nat × Nat)} {k : Nat} (nd : (w.map (·.1)).Nodup) (h : k ∈ w.map (·.1)) : ∃ c, cntN w k = some c ∧ (w.map kvI).map (fun kv => if kv.1 = Sum.inl (k : Int) then (kv.1, V.int ((c : Int) + 1)) else kv) = (Dr.bump w k).map kvI := by
  induction w with
  | nil => simp at h
  | cons p r ih =>
    obtain ⟨a, c⟩ := p
    simp only [List.map_cons, List.nodup_cons] at nd
    by_cases e : a = k
    · subst e
      refine ⟨c, by simp [cntN], ?_⟩
      rw [Dr.bump, if_pos rfl, List.map_cons, List.map_cons, map_id_of nd.1, List.map_cons, if_pos (show (kvI (a, c)).1 = Sum.inl (a : Int) from rfl)]
      rfl
    · have h' : k ∈ r.map (·.1) := by
        rcases List.mem_cons.mp h with z | z
        · exact absurd z.symm e
        · exact z
      obtain ⟨c', h1, h2⟩ := ih nd.2 h'
      refine ⟨c', by rw [← h1]; simp [cntN, e], ?_⟩
      rw [Dr.bump, if_neg e, List.map_cons, List.map_cons, h2, List.map_cons, if_neg]
      exact fun z => e (Int.ofNat.inj (Sum.inl.inj z))
theorem putK_bump {w : List (Nat × Nat)} (k : Nat) (nd : (w.map (·.1)).Nodup) : putK (w.map kvI) (.inl (k : Int)) (.int ((((cntN w k).getD 0 : Nat) : Int) + 1)) = (Dr.bump w k).map kvI := by
  by_cases h : k ∈ w.map (·.1)
  · obtain ⟨c, h1, h2⟩ := putK_map nd h
    unfold putK
    rw [valV_any, valV_cnt, h1]
    exact h2
  · have hv : valV (w.map kvI) (.inl (k : Int)) = none := by rw [valV_cnt, cntN_none h]; rfl
    rw [putK_new hv, bmp_new h, cntN_none h, List.map_append]
    rfl
theorem r_fldAug {K : PySem.W.Frag} {ta tv : TE} {rd : V → V → Hp → VK → Prop} {f : Str} {D : Ends} {σ : L2.St} {H : Hp} (h : ta σ H fun x H1 => ∃ a C dx fs v, x = .ref a ∧ H1 a = some (.ins C dx fs) ∧ Cls K C ∧ NoAttr K C f ∧ fs.lookup f = some v ∧
  tv σ H1 fun y H2 => rd v y H2 fun z H3 => ∃ dx' fs', H3 a = some (.ins C dx' fs') ∧ fs'.length < 1000 ∧ D.nx σ (upd H3 a (.ins C dx' (putF f z fs')))) : sFldAug K ta tv rd f D σ H := h
section
variable {P : Program} {w : World} {K : PySem.W.Frag} {mg : Str → Option Value} {base : Heap}
abbrev wayF (most many : Nat) (dw : Addr) : List (Str × V) := [("most", .int most), ("many", .int many), ("won", .ref dw)]
theorem t_Ways_count (T : Tx w K mg) : C8.Met P w K mg base 1 (aWays K) "count" (spN 2 fun vs H Q _ => ∃ a dx pl dp ld v2 v4 us, ∃ most many : Nat, ∃ dw wl ds won, vs = [.ref a, .ref pl] ∧ H a = some (.ins (aWays K) dx (wayF most many dw)) ∧ H dw = some (.dK (List.map kvI wl)) ∧ (List.map Prod.fst wl).Nodup ∧ wl.length ≤ 100 ∧
    H pl = some (.ins (aPlay K) dp [("outcome", .int (if won = true then 1 else 0)), ("said", v2), ("draws", .ref ld), ("asked", v4)]) ∧ H ld = some (.lst us) ∧ TdL H (List.map pairD ds) us ∧ many + 1 ≤ most ∧ (∀ p ∈ ds, p.2 ≤ most) ∧ most ≤ 2 ^ 60 ∧
    ∀ H', FrB a [dw] H H' → H' a = some (.ins (aWays K) dx (wayF most (many + 1) dw)) → H' dw = some (.dK ((if won = true then Dr.bump wl (prodD ds) else wl).map kvI)) → Q .non H') [] := by
  refine mkMt T.c_Ways T.fn_Ways_count sc_Ways_count (fun _ _ _ _ _ _ us hl => match us, hl with | [_, _], _ => rfl) (fun f cdv A outer s H vs Q E hr _ h => ?_)
  obtain ⟨a, dx, pl, dp, ld, v2, v4, us, most, many, dw, wl, ds, won, rfl, ha, hd, nd, hwl, hp, hl, hus, hm, hds, hms, q⟩ := h
  refine ⟨_, (pss_cons (stAugK (K := K) (pv 0) pe_int in_add)
  (pss_cons (ps_set (i := 2) sc_Ways_count.nd rfl (by first | exact Or.inl rfl | exact Or.inr rfl) pe_int)
  (pss_cons (ps_for PassesOwn.never rfl (piLK (K := K) (fldK (K := K) (pv 1) rfl)) (pgTK (K := K) (n := 2) rfl (pgs_cons (pg_name (i := 3) sc_Ways_count.nd rfl (by first | exact Or.inl rfl | exact Or.inr rfl)) (pgs_cons (pg_name (i := 4) sc_Ways_count.nd rfl (by first | exact Or.inl rfl | exact Or.inr rfl)) pgs_nil)) (hn := by rfl)) (pss_cons (ps_if (pt_cmpR op_gt (pv 4) (fldK (K := K) (pv 0) rfl) (by rfl)) (pss_one ps_never) pss_nil)
  (pss_one (ps_set (i := 2) sc_Ways_count.nd rfl (by first | exact Or.inl rfl | exact Or.inr rfl) (pe_op op_mul (pv 2) (pv 4))))))
  (pss_cons (ps_if (pt_cmpR op_gt (fldK (K := K) (pv 0) rfl) (fldK (K := K) (pv 0) rfl) (by rfl)) (pss_one ps_never) pss_nil)
  (pss_one (ps_if (pt_cmpR op_eq (fldK (K := K) (pv 1) rfl) pe_int (by rfl)) (pss_one (ps_dput (hu_of hr) (fldK (K := K) (pv 0) rfl) (pv 2) (pe_op op_add (pe_dget2 (hu_of hr) (fldK (K := K) (pv 0) rfl) (pv 2) pe_int ⟨by rfl, by rfl, by rfl, by rfl⟩) pe_int) rfl)) pss_nil)))))), ?_⟩
  walk_at "gof"
  refine r_fldAug ?_
  walk_at "gof"
  refine ⟨a, _, dx, _, .int many, rfl, ha, T.c_Ways, T.n_Ways _ (by simp), rfl, ?_⟩
  walk_at "gof"
  refine ⟨many, 1, rfl, rfl, dx, _, ha, by simp, ?_⟩
  generalize e1 : upd H a _ = H1
  obtain ⟨f1, i1⟩ := putI (fs' := wayF most (many + 1) dw) e1 rfl
  have npl : pl ≠ a := fun z => by
    subst z
    rw [ha] at hp
    injection hp with hp
    injection hp with _ _ hp
    exact absurd (congrArg List.length hp) (by simp)
  have nld : ld ≠ a := fun z => by subst z; rw [ha] at hl; cases hl
  have ndw : dw ≠ a := fun z => by subst z; rw [ha] at hd; cases hd
  have hp1 := f1.keep _ _ npl (by simp) hp
  have hl1 := f1.keep _ _ nld (by simp) hl
  have hd1 := f1.keep _ _ ndw (by simp) hd
  have hus1 := TdL.ext (f1.ext ha) hus
  have hul : us.length = ds.length := by rw [hus.len, List.length_map]
  walk_at "gof"
  refine ⟨ld, rfl, ⟨us, SqL.of hl1⟩, ?_⟩
  refine for_it (walk_list (xs := us)) (fun i σ H2 => ∃ y3 y4, σ = [some (.ref a), some (.ref pl), some (.int (prodD (ds.take i) : Nat)), y3, y4] ∧ H2 = H1) ⟨none, none, rfl, rfl⟩ (fun _ _ _ _ hp => by obtain ⟨_, _, _, rfl⟩ := hp; exact SqL.of hl1) (fun i x σ H2 H3 hi hp hy => ?_) (fun σ H2 hp => ?_)
  · obtain ⟨y3, y4, rfl, rfl⟩ := hp
    obtain ⟨rfl, hxi⟩ := hy
    rw [hul] at hi
    obtain ⟨u, hu, hd⟩ := TdL.get hus1 (d := pairD ds[i]) (i := i) (by rw [List.getElem?_map, List.getElem?_eq_getElem hi]; rfl)
    obtain rfl : u = x := Option.some.inj (hu.symm.trans hxi)
    obtain ⟨pu, _, rfl, hpu, _, _, rfl, z1, _, _, rfl, z2, rfl⟩ := hd
    obtain rfl := z1
    obtain rfl := z2
    have hb := hds ds[i] (List.getElem_mem hi)
    refine r_gTup (SqT.of hpu) rfl ?_
    walk_at "gof"
    refine ite_f (by simp; omega) ?_
    walk_at "gof"
    have ep : prodD (ds.take (i + 1)) = prodD (ds.take i) * ds[i].2 := by
      rw [List.take_add_one, List.getElem?_eq_getElem hi]
      show ((ds.take i ++ [ds[i]]).map (·.2)).prod = _
      rw [List.map_append, List.prod_append]
      show _ * (ds[i].2 * 1) = _
      rw [Nat.mul_one]
      rfl
    exact ⟨_, _, by rw [ep, Int.natCast_mul]; rfl, rfl⟩
  · obtain ⟨y3, y4, rfl, rfl⟩ := hp
    rw [hul, List.take_length]
    walk_at "gof"
    refine ite_f (by simp; omega) ?_
    walk_at "gof"
    cases won with
    | false =>
      walk_at "iff"
      exact q H2 (f1.mono (by simp)) i1 hd1
    | true =>
      walk_at "ift"
      refine ⟨dw, rfl, .inl ⟨_, .inl hd1⟩, ?_⟩
      walk_at "gof"
      refine ⟨_, DGet.k (k := .inl (prodD ds : Nat)) hd1, ?_⟩
      rw [valV_cnt]
      have eg : ((cntN wl (prodD ds)).map fun c : Nat => V.int (c : Int)).getD (.int 0) = .int (((cntN wl (prodD ds)).getD 0 : Nat) : Int) := by cases cntN wl (prodD ds) <;> rfl
      rw [eg]
      walk_at "gof"
      refine ⟨dw, _, rfl, DPut.k (k := .inl (prodD ds : Nat)) hd1 (smallL (by rw [List.length_map]; omega)), ?_⟩
      rw [putK_bump _ nd]
      have fD : Fr [dw] H2 (upd H2 dw (.dK ((Dr.bump wl (prodD ds)).map kvI))) := Fr.put (by simp) hd1 (fun z => z)
      walk_at "gof"
      exact q _ ((f1.mono (by simp)).trans (FrB.of fD)) (frIns fD i1) upd_same
end
/-! Part A33: all ways are counted. -/
open PySem PySem.Spec PyProof.Rows L2
open Dr (tally prodD leaves Chain Bq)
/-- what a count needs -/
structure WayOk (t : Dr Bool) (a b : Nat) : Prop where
  q : Bq t 900 a b fun _ => True
  m : 2 ^ a * 3 ^ b ≤ 300000
  k : (a + 1) * (b + 1) ≤ 63
abbrev PlayedOk (P : Program) (w : World) (K : PySem.W.Frag) (mg : Str → Option Value) (base : Heap) (kp : Nat) (g : Gm) (b : Mb) : Prop :=
  C8.Cal P w K mg base kp "played" (spN 3 fun vs H Q _ => ∃ vg vb pc cs won ds', vs = [vg, vb, .ref pc] ∧ Td H (encGm g) vg ∧ Td H (encM b) vb ∧ H pc = some (.lst (cs.map fun c : Nat => V.int c)) ∧ Dr.exec cs (playM g b) [] = some (won, ds') ∧
      ∀ pl dx ld v2 v4 us H', Same H H' → H' pl = some (.ins (aPlay K) dx [("outcome", .int (if won then 1 else 0)), ("said", v2), ("draws", .ref ld), ("asked", v4)]) → H' ld = some (.lst us) → TdL H' (ds'.map pairD) us → Q (.ref pl) H') []
theorem nodup_sub {α : Type} [DecidableEq α] : ∀ {l : List α} {u : List α}, l.Nodup → (∀ x ∈ l, x ∈ u) → l.length ≤ u.length
  | [], u, _, _ => by simp
  | x :: r, u, nd, h => by
    rw [List.nodup_cons] at nd
    have hx := h x (by simp)
    have := nodup_sub (l := r) (u := u.erase x) nd.2 fun y hy => (List.mem_erase_of_ne (by intro z; subst z; exact nd.1 hy)).mpr (h y (by simp [hy]))
    rw [List.length_erase_of_mem hx] at this
    have := List.length_pos_of_mem hx
    simp only [List.length_cons]; omega
/-- keys of a tally -/
def KeyOk (a b k : Nat) : Prop := ∃ x y, k = 2 ^ x * 3 ^ y ∧ x ≤ a ∧ y ≤ b
theorem keys_len {a b : Nat} {l : List Nat} (nd : l.Nodup) (h : ∀ k ∈ l, KeyOk a b k) : l.length ≤ (a + 1) * (b + 1) := by
  have := nodup_sub (u := (List.range (a + 1)).flatMap fun x => (List.range (b + 1)).map fun y => 2 ^ x * 3 ^ y) nd fun k hk => by
    obtain ⟨x, y, rfl, hx, hy⟩ := h k hk
    exact List.mem_flatMap.mpr ⟨x, List.mem_range.mpr (by omega), List.mem_map.mpr ⟨y, List.mem_range.mpr (by omega), rfl⟩⟩
  have e := Dr.flatMap_len (l := List.range (a + 1)) (f := fun x => (List.range (b + 1)).map fun y => 2 ^ x * 3 ^ y) (n := b + 1) fun i _ => by simp
  rw [List.length_range] at e
  omega
theorem tally_ok {a b : Nat} : ∀ (l : List (Dr.Ds × Bool)) (w : List (Nat × Nat)), (w.map (·.1)).Nodup → (∀ k ∈ w.map (·.1), KeyOk a b k) → (∀ r ∈ l, KeyOk a b (prodD r.1)) → ((tally l w).map (·.1)).Nodup ∧ ∀ k ∈ (tally l w).map (·.1), KeyOk a b k
  | [], w, h1, h2, _ => ⟨h1, h2⟩
  | r :: l, w, h1, h2, h3 => by
    rw [tally]
    cases r.2 with
    | false => exact tally_ok l w h1 h2 fun r' h => h3 r' (by simp [h])
    | true =>
      refine tally_ok l _ (Dr.bump_nodup h1) (fun k hk => ?_) fun r' h => h3 r' (by simp [h])
      rw [if_pos rfl, Dr.bump_keys] at hk
      by_cases z : prodD r.1 ∈ w.map (·.1)
      · rw [if_pos z] at hk; exact h2 k hk
      · rw [if_neg z] at hk
        rcases List.mem_append.mp hk with hk | hk
        · exact h2 k hk
        · rw [List.mem_singleton.mp hk]; exact h3 r (by simp)
theorem tally_snoc (l : List (Dr.Ds × Bool)) (r : Dr.Ds × Bool) : ∀ w, tally (l ++ [r]) w = if r.2 = true then Dr.bump (tally l w) (prodD r.1) else tally l w := by
  induction l with
  | nil => intro w; cases h : r.2 <;> simp [tally, h]
  | cons x l ih => intro w; rw [List.cons_append, tally, ih, tally]
section
variable {P : Program} {w : World} {K : PySem.W.Frag} {mg : Str → Option Value} {base : Heap}
theorem m_Ways (T : Tx w K mg) (kp : Nat) (hk : 1 ≤ kp) (g : Gm) (b : Mb) (ea eb : Nat) (wo : WayOk (playM g b) ea eb) (hpl : PlayedOk P w K mg base kp g b) :
    C8.Mak P w K mg base (kp + 1) "Ways" (aWays K) (spN 4 fun vs H Q _ => ∃ a dx vg vb, ∃ most : Nat, vs = [.ref a, vg, vb, .int most] ∧ H a = some (.ins (aWays K) dx []) ∧ Td H (encGm g) vg ∧ Td H (encM b) vb ∧ 300000 ≤ most ∧ most ≤ 2 ^ 60 ∧
      ∀ dw H', H dw = none → FrB a [] H H' → H' a = some (.ins (aWays K) dx (wayF most (leaves (playM g b)).length dw)) → H' dw = some (.dK ((tally (leaves (playM g b)) []).map kvI)) → Q .non H') [] := by
  refine mkIn T.g_Ways T.fn_Ways_init sc_Ways_init (fun _ _ _ _ _ _ us hl => match us, hl with | [_, _, _, _], _ => rfl) (fun f cdv A outer s H vs Q E hr _ h => ?_)
  obtain ⟨a, dx, vg, vb, most, rfl, ha, hg, hb, hm1, hm2, q⟩ := h
  refine ⟨_, (pss_cons (stK (K := K) (pv 0) (pv 3) rfl)
  (pss_cons (stK (K := K) (pv 0) pe_int rfl)
  (pss_cons (stK (K := K) (pv 0) pe_dnewK rfl)
  (pss_cons (ps_set (i := 4) sc_Ways_init.nd rfl (by first | exact Or.inl rfl | exact Or.inr rfl) (pe_lst pa_nil))
  (pss_one (ps_while PassesOwn.never (pt_cmpR op_notN (pv 4) pe_non (by rfl)) (pss_cons (ps_set (i := 5) sc_Ways_init.nd rfl (by first | exact Or.inl rfl | exact Or.inr rfl) (C8.pe_c hpl hr (by first | decide | omega) (by rfl) (pa_cons (pv 1) (pa_cons (pv 2) (pa_cons (pv 4) pa_nil)))))
  (pss_cons (ps_expr (C8.pe_mt (t_Ways_count T) hr (by first | decide | omega) (pv 0) (pa_cons (pv 5) pa_nil)))
  (pss_one (ps_set (i := 4) sc_Ways_init.nd rfl (by first | exact Or.inl rfl | exact Or.inr rfl) (C8.pe_c (c_next_choices T) hr (by first | decide | omega) (by rfl) (pa_cons (fldK (K := K) (pv 5) rfl) pa_nil)))))))))))), ?_⟩
  walk_at "gof"
  intro H1 e1
  obtain ⟨f1, i1⟩ := putI (fs' := [("most", .int most)]) e1 rfl
  walk_at "gof"
  intro H2 e2
  obtain ⟨f2, i2⟩ := putI (fs' := [("most", .int most), ("many", .int (0 : Nat))]) e2 rfl
  walk_at "gof"
  refine r_dnew fun dw H3 s3 nd h3 => ?_
  walk_at "gof"
  intro H4 e4
  obtain ⟨f4, i4⟩ := putI (fs' := wayF most 0 dw) e4 rfl
  walk_at "gof"
  walk_at "new"; rename_i p0 np0 H5 s5 h5
  have dn : dw ≠ a := fun z => by rw [z, i2] at nd; cases nd
  have h4 := f4.keep _ _ dn (by simp) h3
  have f05 : FrB a [] H H5 := (((f1.trans f2).trans (FrB.sm s3)).trans f4).trans (FrB.sm s5)
  have ndw : H dw = none := FrB.noneD (f1.trans f2) dn (by simp) nd
  have lm := Dr.leaves_mem wo.q
  have ll := Dr.leaves_len wo.q
  have wm := wo.m
  generalize et : playM g b = t at *
  walk_at "gof"
  refine r_while ⟨fun m σ H' => ∃ pre rest vc y, leaves t = pre ++ rest ∧ m = rest.length ∧ σ = [some (.ref a), some vg, some vb, some (.int most), some vc, y] ∧ FrB a [dw] H H' ∧ H' a = some (.ins (aWays K) dx (wayF most pre.length dw)) ∧ H' dw = some (.dK ((tally pre []).map kvI)) ∧
      ((rest = [] ∧ vc = .non) ∨ ∃ cs pc, vc = .ref pc ∧ H' pc = some (.lst (cs.map fun c : Nat => V.int c)) ∧ Chain t cs rest),
    ⟨_, [], leaves t, .ref p0, none, rfl, rfl, rfl, f05.mono (by simp), s5 _ _ i4, s5 _ _ h4, .inr ⟨[], p0, rfl, h5, Dr.chain_leaves wo.q⟩⟩, fun m σ H' hW => ?_⟩
  obtain ⟨pre, rest, vc, y, el, rfl, rfl, fW, iW, dW, hc⟩ := hW
  walk_at "gof"
  refine ⟨rfl, _, rfl, ?_⟩
  rcases hc with ⟨rfl, rfl⟩ | ⟨cs, pc, rfl, hpc, ch⟩
  · walk_at "iff"
    rw [List.append_nil] at el
    subst el
    refine q dw H' ndw ⟨fun c o hc e => ?_, fun c o hc hf e => fW.fix c o hc hf e⟩ iW dW
    · exact fun e => fW.keep _ _ hc (fun z => by rw [List.mem_singleton.mp z, ndw] at e; cases e) e
  · walk_at "ift"
    refine ⟨_, fun _ _ h => h, ?_⟩
    walk_at "gof"
    obtain ⟨v, ds, er⟩ : ∃ v ds, Dr.run cs t = some (v, ds) ∧ ∃ r', rest = (ds, v) :: r' ∧ ((nextC ds = none ∧ r' = []) ∨ ∃ cs', nextC ds = some cs' ∧ Chain t cs' r') := by
      cases ch with
      | last e n => exact ⟨_, _, e, _, rfl, .inl ⟨n, rfl⟩⟩
      | step e n c => exact ⟨_, _, e, _, rfl, .inr ⟨_, n, c⟩⟩
    obtain ⟨er, r', rfl, hnx⟩ := er
    have ee : Dr.exec cs t [] = some (v, ds) := by
      rw [Dr.exec_run cs [] wo.q (by simp)]
      show Option.map _ (Dr.run (cs.drop 0) t) = _
      rw [List.drop_zero, er]; rfl
    have hmem : (ds, v) ∈ leaves t := by rw [el]; simp
    obtain ⟨l1, l2, l3, l4⟩ := lm _ hmem
    have l1' : ds.length ≤ 900 := l1
    have hlen : pre.length + 1 ≤ 300000 := by
      have : (leaves t).length = pre.length + (r'.length + 1) := by rw [el, List.length_append, List.length_cons]
      omega
    have hpre : ∀ r ∈ pre, KeyOk ea eb (prodD r.1) := fun r hr => (lm r (by rw [el]; simp [hr])).2.2.2
    obtain ⟨to1, to2⟩ := tally_ok pre [] (by simp) (by simp) hpre
    have tl := keys_len to1 to2
    rw [List.length_map] at tl
    have wk := wo.k
    refine ⟨vg, vb, pc, cs, v, ds, rfl, fW.td ha hg, fW.td ha hb, hpc, ee, fun pl dp ld v2 v4 us H2 s2 hp hl hus => ?_⟩
    have iW2 := s2 _ _ iW
    have dW2 := s2 _ _ dW
    walk_at "gof"
    refine ⟨a, dx, pl, dp, ld, v2, v4, us, most, pre.length, dw, tally pre [], ds, v, rfl, iW2, dW2, to1, by omega, hp, hl, hus, by omega, fun p hp => Nat.le_trans (l3 p hp).2 (by omega), hm2, fun H3 f3 i3 d3 => ?_⟩
    have npl : pl ≠ a := fun z => by
      subst z
      rw [iW2] at hp
      injection hp with hp
      injection hp with _ _ hp
      exact absurd (congrArg List.length hp) (by simp)
    have nld : ld ≠ a := fun z => by subst z; rw [iW2] at hl; cases hl
    have nlw : ld ≠ dw := fun z => by subst z; rw [dW2] at hl; cases hl
    have npw : pl ≠ dw := fun z => by subst z; rw [dW2] at hp; cases hp
    have hp3 := f3.keep _ _ npl (by simpa using npw) hp
    have hl3 := f3.keep _ _ nld (by simpa using nlw) hl
    have hus3 := TdL.ext (f3.ext iW2) hus
    walk_at "gof"
    have ets : (if v = true then Dr.bump (tally pre []) (prodD ds) else tally pre []) = tally (pre ++ [(ds, v)]) [] := (tally_snoc pre (ds, v) []).symm
    rw [ets] at d3
    have fA : FrB a [dw] H H3 := (fW.trans (FrB.sm s2)).trans f3
    refine ⟨ld, us, ds, rfl, hl3, hus3, by omega, fun p hp => Nat.lt_of_lt_of_le (l3 p hp).1 (Nat.le_trans (l3 p hp).2 (by omega)), fun hn H4 s4 => ?_, fun cs' hn p H4 s4 hp4 => ?_⟩
    · walk_at "gof"
      rcases hnx with ⟨_, rfl⟩ | ⟨cs'', hn', _⟩
      · exact ⟨_, by simp, pre ++ [(ds, v)], [], .non, _, by rw [el]; simp, rfl, rfl, fA.trans (FrB.sm s4), by rw [List.length_append]; exact s4 _ _ i3, s4 _ _ d3, .inl ⟨rfl, rfl⟩⟩
      · rw [hn] at hn'; cases hn'
    · walk_at "gof"
      rcases hnx with ⟨hn', _⟩ | ⟨cs'', hn', c'⟩
      · rw [hn] at hn'; cases hn'
      · rw [hn] at hn'
        cases hn'
        exact ⟨_, by simp, pre ++ [(ds, v)], r', .ref p, _, by rw [el]; simp, rfl, rfl, fA.trans (FrB.sm s4), by rw [List.length_append]; exact s4 _ _ i3, s4 _ _ d3, .inr ⟨_, p, rfl, hp4, c'⟩⟩
end
/-! Part A34: the chance. -/
open PySem PySem.Spec PyProof.Rows L2
open Dr (tally prodD leaves Chain Bq sumR sumT)
def fI (wl : List (Nat × Nat)) (k : Int) : Rat := mkRat (((cntN wl k.toNat).getD 0 : Nat) : Int) k.toNat
theorem cntN_mem : ∀ {w : List (Nat × Nat)} {p : Nat × Nat}, (w.map (·.1)).Nodup → p ∈ w → cntN w p.1 = some p.2
  | [], p, _, h => by simp at h
  | q :: r, p, nd, h => by
    simp only [List.map_cons, List.nodup_cons] at nd
    rcases List.mem_cons.mp h with rfl | h
    · simp [cntN]
    · have ne : q.1 ≠ p.1 := fun z => nd.1 (List.mem_map.mpr ⟨p, h, z.symm⟩)
      rw [← cntN_mem nd.2 h]
      simp [cntN, ne]
theorem mkRat_cnt (c n : Nat) : mkRat (c : Int) n = (c : Rat) * (1 / (n : Rat)) := by
  rw [Rat.mkRat_eq_div, Rat.intCast_natCast]
  grind
theorem sum_fI {wl : List (Nat × Nat)} (nd : (wl.map (·.1)).Nodup) : sumR ((wl.map fun p => (p.1 : Int)).map (fI wl)) = sumT wl := by
  unfold sumT
  rw [List.map_map]
  congr 1
  refine List.map_congr_left fun p hp => ?_
  simp only [Function.comp, fI, Int.toNat_natCast]
  rw [cntN_mem nd hp, mkRat_cnt]
  rfl
section
variable {P : Program} {w : World} {K : PySem.W.Frag} {mg : Str → Option Value} {base : Heap}
theorem t_Ways_chance (T : Tx w K mg) : C8.Met P w K mg base 3 (aWays K) "chance" (spN 1 fun vs H Q _ => ∃ a dx, ∃ most many : Nat, ∃ dw wl, vs = [.ref a] ∧ H a = some (.ins (aWays K) dx (wayF most many dw)) ∧ H dw = some (.dK (List.map kvI wl)) ∧ (List.map Prod.fst wl).Nodup ∧ wl.length ≤ 63 ∧ (∀ p ∈ wl, 0 < p.1 ∧ p.1 < 2 ^ 60 ∧ p.2 < 2 ^ 60) ∧
    ∀ v H', Same H H' → Td H' (frD (sumT wl)) v → Q v H') [] := by
  refine mkMt T.c_Ways T.fn_Ways_chance sc_Ways_chance (fun _ _ _ _ _ _ us hl => match us, hl with | [_], _ => rfl) (fun f cdv A outer s H vs Q E hr _ h => ?_)
  obtain ⟨a, dx, most, many, dw, wl, rfl, ha, hd, nd, hwl, hp0, q⟩ := h
  refine ⟨_, (pss_cons (ps_set (i := 1) sc_Ways_chance.nd rfl (by first | exact Or.inl rfl | exact Or.inr rfl) (pe_tup (pa_cons pe_int (pa_cons pe_int pa_nil))))
  (pss_cons (ps_for PassesOwn.never rfl (piLK (K := K) (pe_callB (call_sortedDI rfl) (by rfl) T.f_sorted bt_sorted (pa_cons (fldK (K := K) (pv 0) rfl) pa_nil))) (pg_name (i := 2) sc_Ways_chance.nd rfl (by first | exact Or.inl rfl | exact Or.inr rfl)) (pss_one (ps_set (i := 1) sc_Ways_chance.nd rfl (by first | exact Or.inl rfl | exact Or.inr rfl) (C8.pe_c (c_add T) hr (by first | decide | omega) (by rfl) (pa_cons (pv 1) (pa_cons (C8.pe_c (c_fraction T) hr (by first | decide | omega) (by rfl) (pa_cons (pe_dget (hu_of hr) (fldK (K := K) (pv 0) rfl) (pv 2) (fun _ _ => rfl)) (pa_cons (pv 2) pa_nil))) pa_nil))))))
  (pss_one (ps_ret (pv 1))))), ?_⟩
  walk_at "gof"
  walk_at "new"; rename_i p0 np0 H1 s1 h1
  have a1 := s1 _ _ ha
  have d1 := s1 _ _ hd
  walk_at "gof"
  refine ⟨dw, _, wl.map fun p => (p.1 : Int), rfl, .inl d1, by rw [List.map_map, List.map_map]; rfl, by rw [List.length_map]; omega, fun ys py yp _ npy => ?_⟩
  generalize e2 : upd H1 py _ = H2
  obtain ⟨s2, h2⟩ := newE2 e2 npy
  refine ⟨py, rfl, ⟨_, SqL.of h2⟩, ?_⟩
  have yl : ys.length ≤ 63 := by rw [yp.length_eq, List.length_map]; exact hwl
  refine for_it (walk_list (xs := ys.map V.int)) (fun i σ H3 => ∃ u y, σ = [some (.ref a), some u, y] ∧ Same H2 H3 ∧ Td H3 (frD (sumR ((ys.take i).map (fI wl)))) u ∧ RB (sumR ((ys.take i).map (fI wl))) (61 * i + 1)) ?_ (fun _ _ _ _ hp => by obtain ⟨_, _, _, s, _⟩ := hp; exact SqL.of (s _ _ h2)) (fun i x σ H3 H4 hi hp hy => ?_) (fun σ H3 hp => ?_)
  · refine ⟨.ref p0, none, rfl, Same.refl _, ⟨p0, _, rfl, s2 _ _ h1, _, _, rfl, rfl, _, _, rfl, rfl, rfl⟩, ?_⟩
    show RB 0 1
    exact ⟨by decide, by decide⟩
  · obtain ⟨u, y, rfl, s3, hu, rb⟩ := hp
    obtain ⟨rfl, hx⟩ := hy
    rw [List.length_map] at hi
    rw [List.getElem?_map, List.getElem?_eq_getElem hi] at hx
    obtain rfl := Option.some.inj hx
    have hmem : ys[i] ∈ wl.map fun p => (p.1 : Int) := yp.mem_iff.mp (List.getElem_mem hi)
    obtain ⟨p, hpw, ep⟩ := List.mem_map.mp hmem
    obtain ⟨b1, b2, b3⟩ := hp0 p hpw
    have ef : fI wl ys[i] = mkRat (p.2 : Int) p.1 := by
      rw [← ep, fI, Int.toNat_natCast, cntN_mem nd hpw]; rfl
    have a4 := s3 _ _ (s2 _ _ a1)
    have d4 := s3 _ _ (s2 _ _ d1)
    have eT : sumR ((ys.take (i + 1)).map (fI wl)) = sumR ((ys.take i).map (fI wl)) + mkRat (p.2 : Int) p.1 := by
      rw [List.take_add_one, List.getElem?_eq_getElem hi]
      show sumR ((ys.take i ++ [ys[i]]).map (fI wl)) = _
      rw [List.map_append, Dr.sumR_append]
      show _ + (fI wl ys[i] + 0) = _
      rw [ef, Rat.add_zero]
    rw [← ep]
    walk_at "gof"
    refine ⟨dw, .int (p.2 : Int), rfl, ?_, ?_⟩
    · have := DGet.k (k := .inl (p.1 : Int)) d4
      rw [valV_cnt, cntN_mem nd hpw] at this
      exact this
    walk_at "gof"
    refine ⟨(p.2 : Int), p.1, rfl, b1, Nat.lt_trans b2 (Nat.pow_lt_pow_right (by decide) (by decide)), fun v H5 s5 hv => ?_⟩
    walk_at "gof"
    have rt : RB (mkRat (p.2 : Int) p.1) 60 := mkRat_RB b1 (by rw [Int.natAbs_natCast]; exact b3) b2
    refine ⟨u, v, _, _, 61 * i + 61, rfl, hu.same s5, hv, rb.mono (by omega), rt.mono (by omega), by omega, by omega, fun v2 H6 s6 hv2 => ?_⟩
    walk_at "gof"
    refine ⟨_, _, rfl, (s3.trans s5).trans s6, by rw [eT]; exact hv2, ?_⟩
    rw [eT]
    exact (rb_add rb rt).mono (by omega)
  · obtain ⟨u, y, rfl, s3, hu, rb⟩ := hp
    rw [List.length_map, List.take_length] at hu
    walk_at "gof"
    refine q u H3 ((s1.trans s2).trans s3) ?_
    rw [← sum_fI nd, ← Dr.sumR_perm (yp.map (fI wl))]
    exact hu
end
/-! Part A35: chances and advantages. -/
open PySem PySem.Spec PyProof.Rows L2
open Dr (tally prodD leaves Chain Bq sumR sumT prob)
section
variable {P : Program} {w : World} {K : PySem.W.Frag} {mg : Str → Option Value} {base : Heap}
theorem vals_app : ∀ {vs zs : List V} {us ws : List Value}, Vals vs us → Vals zs ws → Vals (vs ++ zs) (us ++ ws)
  | _, _, _, _, .nil, h => h
  | _, _, _, _, .cons r t, h => .cons r (vals_app t h)
/-- a def with keyword-only defaults: called with all keywords -/
theorem mkFnN {x nm : Str} {st : Stmt} {kws : List (Str × V)} {N ps : List Str} {k n : Nat} {ks : List Str} {sp : Sp} (F : FnF K mg x nm st kws) (S : FnScope N ps (defScope st))
    (hb : ∀ (kV doc pm : Value) (an : Option Addr) (cdv ct : Value) (us ws : List Value), us.length = n → ws.length = ks.length → bindArgs (PySem.W.fnOf nm nm (defArgs st) (defBody st) (defScope st) .none kV doc pm an cdv ct) ⟨us, ks.zip ws⟩ = pure (ps.zip (us ++ ws)))
    (hbody : ∀ (f : Addr) (cdv : Value) (A : Around) (outer : List Env) (s : Shared) (H : Hp) (vs : List V) (Q : VK) (E : XK), Room k (A.deeper (envOfC nm (defScope st) s.heap.objs.size f cdv)) → vs.length = ps.length → sp vs H Q E →
      ∃ t, PSs (cxOf CX0 P w K mg base N nm (defScope st) f cdv A outer s H E).nox (defBody st) t ∧ t { nx := fun _ H' => Q .non H', rt := Q } (start N vs) H) : CalN P w K mg base (k + 1) x n ks (spN ps.length sp) := by
  obtain ⟨f, fd, F, hm⟩ := F.ex
  refine ⟨f, fd, ps, F.ok S (fun vs H Q E h => h.1) (fun cdv A outer s H vs Q E hr h => ?_), hm, F.kp, ?_⟩
  · obtain ⟨t, h1, h2⟩ := hbody f cdv A outer s H vs Q E hr h.1 h.2
    exact ⟨t, h1.nox, h2⟩
  · obtain ⟨oc, od, dV, kV, doc, pm, an, cdv, ct, osl, rfl, lk, hcd, hD, hK⟩ := F.ex
    rcases hD with ⟨_, rfl⟩ | ⟨e, _⟩
    · exact ⟨fun s us ws X l1 l2 => BindsTo.of_eq (hb kV doc pm an cdv ct us ws l1 l2), fun r1 r2 => vals_app r1 r2⟩
    · exact absurd rfl e
theorem c_ways_of (T : Tx w K mg) (kw : Nat) (hk : 6 ≤ kw) (g : Gm) (b : Mb) (gg : g.good) (hb : b.good) (hl : b.layers ≤ 20)
    (hmk : C8.Mak P w K mg base kw "Ways" (aWays K) (spN 4 fun vs H Q _ => ∃ a dx vg vb, ∃ most : Nat, vs = [.ref a, vg, vb, .int most] ∧ H a = some (.ins (aWays K) dx []) ∧ Td H (encGm g) vg ∧ Td H (encM b) vb ∧ 300000 ≤ most ∧ most ≤ 2 ^ 60 ∧
      ∀ dw H', H dw = none → FrB a [] H H' → H' a = some (.ins (aWays K) dx (wayF most (leaves (playM g b)).length dw)) → H' dw = some (.dK ((tally (leaves (playM g b)) []).map kvI)) → Q .non H') []) :
    C8.Cal P w K mg base (kw + 2) "ways_of" (spN 3 fun vs H Q _ => ∃ vg vb, ∃ most : Nat, vs = [vg, vb, .int most] ∧ Td H (encGm g) vg ∧ Td H (encM b) vb ∧ 300000 ≤ most ∧ most ≤ 2 ^ 60 ∧
      ∀ a dx dw H', Same H H' → H' a = some (.ins (aWays K) dx (wayF most (leaves (playM g b)).length dw)) → H' dw = some (.dK ((tally (leaves (playM g b)) []).map kvI)) → Q (.ref a) H') [] := by
  refine mkFn T.fn_ways_of sc_ways_of (fun _ _ _ _ _ _ us hl => match us, hl with | [_, _, _], _ => rfl) (fun f cdv A outer s H vs Q E hr _ h => ?_)
  obtain ⟨vg, vb, most, rfl, hg, hbr, hm1, hm2, q⟩ := h
  refine ⟨_, (pss_cons (ps_expr (C8.pe_c (c_check_game T) hr (by first | decide | omega) (by rfl) (pa_cons (pv 0) pa_nil)))
  (pss_cons (ps_expr (C8.pe_c (c_check_breaker T) hr (by first | decide | omega) (by rfl) (pa_cons (pv 1) pa_nil)))
  (pss_one (ps_ret (C8.pe_mk (hmk) hr (by first | decide | omega) (by rfl) (pa_cons (pv 0) (pa_cons (pv 1) (pa_cons (pv 2) pa_nil)))))))), ?_⟩
  walk_at "gof"
  refine ⟨vg, g, rfl, hg, gg, fun H1 s1 => ?_⟩
  walk_at "gof"
  refine ⟨vb, b, rfl, hbr.same s1, hb, hl, fun H2 s2 => ?_⟩
  walk_at "gof"
  walk_at "mk"; rename_i x dx nx H3 s3 fB h3
  refine ⟨rfl, ?_⟩
  refine ⟨x, dx, vg, vb, most, rfl, h3, hg.same ((s1.trans s2).trans s3), hbr.same ((s1.trans s2).trans s3), hm1, hm2, fun dw H4 nd fr i4 d4 => ?_⟩
  refine ⟨rfl, ?_⟩
  exact q x dx dw H4 ((s1.trans s2).trans (Fr.toS (fB _ _ fr))) i4 d4
theorem bump_cnt {w : List (Nat × Nat)} {k n : Nat} (h : ∀ p ∈ w, p.2 ≤ n) : ∀ p ∈ Dr.bump w k, p.2 ≤ n + 1 := by
  induction w with
  | nil => intro p hp; rw [Dr.bump, List.mem_singleton] at hp; subst hp; simp
  | cons q r ih =>
    intro p hp
    obtain ⟨a, c⟩ := q
    rw [Dr.bump] at hp
    by_cases e : a = k
    · rw [if_pos e] at hp
      rcases List.mem_cons.mp hp with rfl | hp
      · have := h (a, c) (by simp); simp only at this ⊢; omega
      · have := h p (by simp [hp]); omega
    · rw [if_neg e] at hp
      rcases List.mem_cons.mp hp with rfl | hp
      · have := h (a, c) (by simp); simp only at this ⊢; omega
      · exact ih (fun q hq => h q (by simp [hq])) p hp
theorem tally_cnt : ∀ (l : List (Dr.Ds × Bool)) {w : List (Nat × Nat)} {n : Nat}, (∀ p ∈ w, p.2 ≤ n) → ∀ p ∈ tally l w, p.2 ≤ n + l.length
  | [], w, n, h, p, hp => h p hp
  | r :: l, w, n, h, p, hp => by
    rw [tally] at hp
    rw [List.length_cons]
    cases e : r.2 with
    | false => rw [e] at hp; have := tally_cnt l h p hp; omega
    | true => rw [e] at hp; have := tally_cnt l (bump_cnt h) p hp; omega
theorem way_facts {t : Dr Bool} {a b : Nat} (wo : WayOk t a b) : (List.map Prod.fst (tally (leaves t) [])).Nodup ∧ (tally (leaves t) []).length ≤ 63 ∧ ∀ p ∈ tally (leaves t) [], 0 < p.1 ∧ p.1 < 2 ^ 60 ∧ p.2 < 2 ^ 60 := by
  have lm := Dr.leaves_mem wo.q
  have ll := Dr.leaves_len wo.q
  have wm := wo.m
  obtain ⟨t1, t2⟩ := tally_ok (leaves t) [] (by simp) (by simp) fun r hr => (lm r hr).2.2.2
  have tl := keys_len t1 t2
  rw [List.length_map] at tl
  have wk := wo.k
  refine ⟨t1, by omega, fun p hp => ?_⟩
  obtain ⟨x, y, e, hx, hy⟩ := t2 p.1 (List.mem_map.mpr ⟨p, hp, rfl⟩)
  have hc := tally_cnt (leaves t) (w := []) (n := 0) (by simp) p hp
  have hle : 2 ^ x * 3 ^ y ≤ 2 ^ a * 3 ^ b := Nat.mul_le_mul (Nat.pow_le_pow_right (by decide) hx) (Nat.pow_le_pow_right (by decide) hy)
  exact ⟨by rw [e]; exact Dr.pow_pos' x y, by omega, by omega⟩
abbrev WaysOk (P : Program) (w : World) (K : PySem.W.Frag) (mg : Str → Option Value) (base : Heap) (kw : Nat) (g : Gm) (b : Mb) : Prop :=
  C8.Mak P w K mg base kw "Ways" (aWays K) (spN 4 fun vs H Q _ => ∃ a dx vg vb, ∃ most : Nat, vs = [.ref a, vg, vb, .int most] ∧ H a = some (.ins (aWays K) dx []) ∧ Td H (encGm g) vg ∧ Td H (encM b) vb ∧ 300000 ≤ most ∧ most ≤ 2 ^ 60 ∧
      ∀ dw H', H dw = none → FrB a [] H H' → H' a = some (.ins (aWays K) dx (wayF most (leaves (playM g b)).length dw)) → H' dw = some (.dK ((tally (leaves (playM g b)) []).map kvI)) → Q .non H') []
theorem c_chance (T : Tx w K mg) (kw : Nat) (hk : 6 ≤ kw) (g : Gm) (b : Mb) (gg : g.good) (hb : b.good) (hl : b.layers ≤ 20) (ea eb : Nat) (wo : WayOk (playM g b) ea eb) (hmk : WaysOk P w K mg base kw g b) :
    CalN P w K mg base (kw + 3) "chance" 2 ["most"] (spN 3 fun vs H Q _ => ∃ vg vb, ∃ most : Nat, vs = [vg, vb, .int most] ∧ Td H (encGm g) vg ∧ Td H (encM b) vb ∧ 300000 ≤ most ∧ most ≤ 2 ^ 60 ∧
      ∀ v H', Same H H' → Td H' (frD (prob (playM g b))) v → Q v H') := by
  refine mkFnN T.fn_chance sc_chance (fun _ _ _ _ _ _ us ws h1 h2 => match us, ws, h1, h2 with | [_, _], [_], _, _ => rfl) (fun f cdv A outer s H vs Q E hr _ h => ?_)
  obtain ⟨vg, vb, most, rfl, hg, hbr, hm1, hm2, q⟩ := h
  have hw := c_ways_of T kw hk g b gg hb hl hmk
  obtain ⟨w1, w2, w3⟩ := way_facts wo
  refine ⟨_, (pss_one (ps_ret (C8.pe_mt0 (t_Ways_chance T) hr (by first | decide | omega) (C8.pe_c hw hr (by first | decide | omega) (by rfl) (pa_cons (pv 0) (pa_cons (pv 1) (pa_cons (pv 2) pa_nil))))))), ?_⟩
  walk_at "gof"
  refine ⟨vg, vb, most, rfl, hg, hbr, hm1, hm2, fun a dx dw H1 s1 i1 d1 => ?_⟩
  walk_at "gof"
  refine ⟨a, dx, most, _, dw, _, rfl, i1, d1, w1, w2, w3, fun v H2 s2 hv => ?_⟩
  rw [Dr.prob_tally] at hv
  walk_at "gof"
  exact q v H2 (s1.trans s2) hv
theorem sumT_rb : ∀ {wl : List (Nat × Nat)}, (∀ p ∈ wl, 0 < p.1 ∧ p.1 < 2 ^ 60 ∧ p.2 < 2 ^ 60) → RB (sumT wl) (61 * wl.length + 1)
  | [], _ => by show RB 0 1; exact ⟨by decide, by decide⟩
  | p :: r, h => by
    have ih := sumT_rb (wl := r) fun q hq => h q (by simp [hq])
    obtain ⟨h1, h2, h3⟩ := h p (by simp)
    have e : sumT (p :: r) = mkRat (p.2 : Int) p.1 + sumT r := by rw [mkRat_cnt]; rfl
    rw [e, List.length_cons]
    exact (rb_add (mkRat_RB h1 (by rw [Int.natAbs_natCast]; exact h3) h2) ih).mono (by omega)
theorem prob_rb {t : Dr Bool} {a b : Nat} (wo : WayOk t a b) : RB (prob t) 3900 := by
  obtain ⟨_, h2, h3⟩ := way_facts wo
  rw [← Dr.prob_tally]
  exact (sumT_rb h3).mono (by omega)
theorem c_advantage (T : Tx w K mg) (kw : Nat) (hk : 6 ≤ kw) (g1 g0 : Gm) (b : Mb) (word : Str) (rest : List PyData) (e1 : encGm g1 = .tuple [.str word, .tuple (.str word :: rest), .bool true]) (e0 : encGm g0 = .tuple [.str word, .tuple (.str word :: rest), .bool false])
    (hb : b.good) (hl : b.layers ≤ 20) (a1 b1 a0 b0 : Nat) (wo1 : WayOk (playM g1 b) a1 b1) (wo0 : WayOk (playM g0 b) a0 b0) (hm1 : WaysOk P w K mg base kw g1 b) (hm0 : WaysOk P w K mg base kw g0 b) :
    CalN P w K mg base (kw + 2) "advantage" 2 ["most"] (spN 3 fun vs H Q _ => ∃ v vb, ∃ most : Nat, vs = [v, vb, .int most] ∧ Td H (.tuple (.str word :: rest)) v ∧ GoodB H v ∧ Td H (encM b) vb ∧ 300000 ≤ most ∧ most ≤ 2 ^ 60 ∧
      ∀ v H', Same H H' → Td H' (frD (prob (playM g1 b) - prob (playM g0 b))) v → Q v H') := by
  refine mkFnN T.fn_advantage sc_advantage (fun _ _ _ _ _ _ us ws h1 h2 => match us, ws, h1, h2 with | [_, _], [_], _, _ => rfl) (fun f cdv A outer s H vs Q E hr _ h => ?_)
  obtain ⟨v, vb, most, rfl, hv, hgb, hbr, hs1, hs2, q⟩ := h
  obtain ⟨w1, w2, w3⟩ := way_facts wo1
  obtain ⟨z1, z2, z3⟩ := way_facts wo0
  refine ⟨_, (pss_cons (ps_expr (C8.pe_c (c_check_block T) hr (by first | decide | omega) (by rfl) (pa_cons (pv 0) pa_nil)))
  (pss_cons (ps_expr (C8.pe_c (c_check_breaker T) hr (by first | decide | omega) (by rfl) (pa_cons (pv 1) pa_nil)))
  (pss_cons (ps_set (i := 3) sc_advantage.nd rfl (by first | exact Or.inl rfl | exact Or.inr rfl) (C8.pe_mt0 (t_Ways_chance T) hr (by first | decide | omega) (C8.pe_mk (hm1) hr (by first | decide | omega) (by rfl) (pa_cons (pe_tup (pa_cons (pe_ix (ixK (K := K)) (pv 0) pe_int (fun _ _ => rfl)) (pa_cons (pv 0) (pa_cons pe_bl pa_nil)))) (pa_cons (pv 1) (pa_cons (pv 2) pa_nil))))))
  (pss_one (ps_ret (C8.pe_c (c_less T) hr (by first | decide | omega) (by rfl) (pa_cons (pv 3) (pa_cons (C8.pe_mt0 (t_Ways_chance T) hr (by first | decide | omega) (C8.pe_mk (hm0) hr (by first | decide | omega) (by rfl) (pa_cons (pe_tup (pa_cons (pe_ix (ixK (K := K)) (pv 0) pe_int (fun _ _ => rfl)) (pa_cons (pv 0) (pa_cons pe_bl pa_nil)))) (pa_cons (pv 1) (pa_cons (pv 2) pa_nil))))) pa_nil)))))))), ?_⟩
  walk_at "gof"
  refine ⟨v, rfl, hgb, fun H1 s1 => ?_⟩
  walk_at "gof"
  refine ⟨vb, b, rfl, hbr.same s1, hb, hl, fun H2 s2 => ?_⟩
  have hv2 := hv.same (s1.trans s2)
  have hb2 := hbr.same (s1.trans s2)
  walk_at "gof"
  walk_at "new"; rename_i p3 np3 H3 s3 h3
  walk_at "gof"
  walk_at "mk"; rename_i x dx nx H4 s4 fB h4
  refine ⟨rfl, ?_⟩
  have s24 := s3.trans s4
  have hg1 : Td H4 (encGm g1) (.ref p3) := by
    rw [e1]
    exact ⟨p3, _, rfl, s4 _ _ h3, _, _, rfl, rfl, _, _, rfl, hv2.same s24, _, _, rfl, rfl, rfl⟩
  refine ⟨x, dx, .ref p3, vb, most, rfl, h4, hg1, hb2.same s24, hs1, hs2, fun dw H5 nd fr i5 d5 => ?_⟩
  have s25 : Same H2 H5 := s3.trans (Fr.toS (fB _ _ fr))
  refine ⟨rfl, ?_⟩
  walk_at "gof"
  refine ⟨x, dx, most, _, dw, _, rfl, i5, d5, w1, w2, w3, fun u1 H6 s6 hu1 => ?_⟩
  rw [Dr.prob_tally] at hu1
  have hv6 := hv2.same (s25.trans s6)
  have hb6 := hb2.same (s25.trans s6)
  walk_at "gof"
  walk_at "new"; rename_i p7 np7 H7 s7 h7
  walk_at "gof"
  walk_at "mk"; rename_i x2 dx2 nx2 H8 s8 fB8 h8
  refine ⟨rfl, ?_⟩
  have s68 := s7.trans s8
  have hg0 : Td H8 (encGm g0) (.ref p7) := by
    rw [e0]
    exact ⟨p7, _, rfl, s8 _ _ h7, _, _, rfl, rfl, _, _, rfl, hv6.same s68, _, _, rfl, rfl, rfl⟩
  refine ⟨x2, dx2, .ref p7, vb, most, rfl, h8, hg0, hb6.same s68, hs1, hs2, fun dw2 H9 nd2 fr9 i9 d9 => ?_⟩
  have s69 : Same H6 H9 := s7.trans (Fr.toS (fB8 _ _ fr9))
  refine ⟨rfl, ?_⟩
  walk_at "gof"
  refine ⟨x2, dx2, most, _, dw2, _, rfl, i9, d9, z1, z2, z3, fun u0 H10 s10 hu0 => ?_⟩
  rw [Dr.prob_tally] at hu0
  walk_at "gof"
  refine ⟨u1, u0, _, _, 3900, rfl, hu1.same (s69.trans s10), hu0, prob_rb wo1, prob_rb wo0, by omega, by omega, fun v3 H11 s11 hv3 => ?_⟩
  walk_at "gof"
  exact q v3 H11 (((((s1.trans s2).trans s25).trans s6).trans (s69.trans s10)).trans s11) hv3
end
/-! Part A36: the gain. -/
open PySem PySem.Spec PyProof.Rows L2
open Dr (tally prodD leaves Chain Bq sumR sumT prob)
section
variable {P : Program} {w : World} {K : PySem.W.Frag} {mg : Str → Option Value} {base : Heap}
theorem mkFnD {x nm : Str} {st : Stmt} {kws : List (Str × V)} {N ps : List Str} {k n : Nat} {sp : Sp} (F : FnF K mg x nm st kws) (S : FnScope N ps (defScope st)) (hk : kws ≠ []) (hn : n + kws.length = ps.length)
    (hb : ∀ (D : Addr) (doc pm : Value) (an : Option Addr) (cdv ct : Value) (us ks : List Value), us.length = n → ks.length = kws.length →
      KwChain D ((kws.map (·.1)).zip ks) (bindArgs (PySem.W.fnOf nm nm (defArgs st) (defBody st) (defScope st) .none (.ref D) doc pm an cdv ct) ⟨us, []⟩) (ps.zip (us ++ ks)))
    (hbody : ∀ (f : Addr) (cdv : Value) (A : Around) (outer : List Env) (s : Shared) (H : Hp) (vs : List V) (Q : VK) (E : XK), Room k (A.deeper (envOfC nm (defScope st) s.heap.objs.size f cdv)) → vs.length = ps.length → sp vs H Q E →
      ∃ t, PSs (cxOf CX0 P w K mg base N nm (defScope st) f cdv A outer s H E).nox (defBody st) t ∧ t { nx := fun _ H' => Q .non H', rt := Q } (start N vs) H) : C8.Cal P w K mg base (k + 1) x (spN ps.length sp) (kws.map (·.2)) := by
  obtain ⟨f, fd, F, hm⟩ := F.ex
  obtain ⟨ds, r, B⟩ := F.binds0 n hk hn hb
  refine ⟨f, fd, ps, ds, F.ok S (fun vs H Q E h => h.1) (fun cdv A outer s H vs Q E hr h => ?_), hm, F.kp, B, r⟩
  obtain ⟨t, h1, h2⟩ := hbody f cdv A outer s H vs Q E hr h.1 h.2
  exact ⟨t, h1.nox, h2⟩
abbrev AdvOk (P : Program) (w : World) (K : PySem.W.Frag) (mg : Str → Option Value) (base : Heap) (ka : Nat) (d : PyData) (b : Mb) (r : Rat) : Prop :=
  CalN P w K mg base ka "advantage" 2 ["most"] (spN 3 fun vs H Q _ => ∃ v vb, ∃ most : Nat, vs = [v, vb, .int most] ∧ Td H d v ∧ GoodB H v ∧ Td H (encM b) vb ∧ 300000 ≤ most ∧ most ≤ 2 ^ 60 ∧ ∀ v H', Same H H' → Td H' (frD r) v → Q v H')
abbrev ChOk (P : Program) (w : World) (K : PySem.W.Frag) (mg : Str → Option Value) (base : Heap) (ka : Nat) (g : Gm) (b : Mb) : Prop :=
  CalN P w K mg base ka "chance" 2 ["most"] (spN 3 fun vs H Q _ => ∃ vg vb, ∃ most : Nat, vs = [vg, vb, .int most] ∧ Td H (encGm g) vg ∧ Td H (encM b) vb ∧ 300000 ≤ most ∧ most ≤ 2 ^ 60 ∧ ∀ v H', Same H H' → Td H' (frD (prob (playM g b))) v → Q v H')
abbrev spGain (g : Go) (n d : Nat) (rows : List Bs) (br : Br) (r : Rat) : Sp := spN 4 fun vs H Q _ => ∃ v b vb, vs = [v, b, vb, .int 300000] ∧ Td H (encGo g d n) v ∧ Td H (encG n (n + 1) rows) b ∧ Sch n d rows ∧ Td H (encB br) vb ∧ (Mb.plain br).good ∧ ∀ v H', Same H H' → Td H' (frD r) v → Q v H'
theorem c_gain_tell (T : Tx w K mg) (ka : Nat) (hk : 8 ≤ ka) (n d : Nat) (rows : List Bs) (br : Br) (r : Rat) (hadv : AdvOk P w K mg base ka (encF n d n (tree2 n d rows)) (.plain br) r) :
    C8.Cal P w K mg base (ka + 1) "gain" (spGain .tell n d rows br r) [.int 300000] := by
  refine mkFnD (kws := [("most", .int 300000)]) (n := 3) T.fn_gain sc_gain (by simp) rfl (fun D doc pm an cdv ct us ks h1 h2 => match us, ks, h1, h2 with | [_, _, _], [_], _, _ => ⟨_, _, _, _, _, _, rfl, rfl, rfl⟩) (fun f cdv A outer s H vs Q E hr _ h => ?_)
  obtain ⟨v, b, vb, rfl, hv, hb, S, hbr, hg, q⟩ := h
  refine ⟨_, (pss_cons (ps_expr (C8.pe_c (c_check_plain_schemes T) hr (by first | decide | omega) (by rfl) (pa_cons (pv 0) (pa_cons (pv 1) (pa_cons (pv 2) pa_nil)))))
  (pss_cons (ps_set (i := 4) sc_gain.nd rfl (by first | exact Or.inl rfl | exact Or.inr rfl) (pe_ix (ixK (K := K)) (C8.pe_c (c_tables_of T) hr (by first | decide | omega) (by rfl) (pa_cons (pe_ix (ixK (K := K)) (pv 0) (pe_un un_neg pe_int) (fun _ _ => rfl)) (pa_cons (pv 1) pa_nil))) (pe_un un_neg pe_int) (fun _ _ => rfl)))
  (pss_cons (ps_set (i := 5) sc_gain.nd rfl (by first | exact Or.inl rfl | exact Or.inr rfl) (pe_ix (ixK (K := K)) (pv 0) pe_int (fun _ _ => rfl)))
  (pss_cons (ps_if (pt_cmpR op_eq (pv 5) pe_str (by rfl)) (pss_one (ps_ret (pe_kw (hadv) hr (by first | decide | omega) (by rfl) (pa_cons (pv 4) (pa_cons (pv 2) pa_nil)) (pk_cons (pv 3) pk_nil)))) pss_nil)
  (pss_cons ps_never
  (pss_cons ps_never
  (pss_cons ps_never
  (pss_cons ps_never
  (pss_one ps_never))))))))), ?_⟩
  walk_at "gof"
  refine ⟨v, b, vb, n, d, rows, .tell, br, rfl, hv, hb, S, hbr, hg, fun H1 s1 => ?_⟩
  walk_at "gof"
  refine r_ixDlast (hv.same s1) rfl fun u hu => ?_
  walk_at "gof"
  refine ⟨u, b, n, d, rows, rfl, hu, hb.same s1, S, fun p u1 u2 H2 s2 np hp hu1 hu2 => ?_⟩
  walk_at "gof"
  refine r_ixLlast hp rfl ?_
  have s12 := s1.trans s2
  have hv2 := hv.same s12
  have hb2 := hbr.same s12
  walk_at "gof"
  walk_at "ift"
  refine ⟨rfl, rfl, rfl, u2, vb, 300000, rfl, hu2, .inr ⟨_, _, _, _, hu2, S.F⟩, hb2, by decide, by decide, fun v3 H3 s3 hv3 => ?_⟩
  walk_at "gof"
  exact q v3 H3 (s12.trans s3) hv3
theorem c_gain_marks (T : Tx w K mg) (ka : Nat) (hk : 8 ≤ ka) (n d : Nat) (rows : List Bs) (br : Br) (hc1 : ChOk P w K mg base ka (.marks n d n (tree2 n d rows) true) (.plain br)) (hc0 : ChOk P w K mg base ka (.marks n d n (tree2 n d rows) false) (.plain br))
    (rb1 : RB (prob (playM (.marks n d n (tree2 n d rows) true) (.plain br))) 3900) (rb0 : RB (prob (playM (.marks n d n (tree2 n d rows) false) (.plain br))) 3900) :
    C8.Cal P w K mg base (ka + 1) "gain" (spGain .marks n d rows br (prob (playM (.marks n d n (tree2 n d rows) true) (.plain br)) - prob (playM (.marks n d n (tree2 n d rows) false) (.plain br)))) [.int 300000] := by
  refine mkFnD (kws := [("most", .int 300000)]) (n := 3) T.fn_gain sc_gain (by simp) rfl (fun D doc pm an cdv ct us ks h1 h2 => match us, ks, h1, h2 with | [_, _, _], [_], _, _ => ⟨_, _, _, _, _, _, rfl, rfl, rfl⟩) (fun f cdv A outer s H vs Q E hr _ h => ?_)
  obtain ⟨v, b, vb, rfl, hv, hb, S, hbr, hg, q⟩ := h
  refine ⟨_, (pss_cons (ps_expr (C8.pe_c (c_check_plain_schemes T) hr (by first | decide | omega) (by rfl) (pa_cons (pv 0) (pa_cons (pv 1) (pa_cons (pv 2) pa_nil)))))
  (pss_cons (ps_set (i := 4) sc_gain.nd rfl (by first | exact Or.inl rfl | exact Or.inr rfl) (pe_ix (ixK (K := K)) (C8.pe_c (c_tables_of T) hr (by first | decide | omega) (by rfl) (pa_cons (pe_ix (ixK (K := K)) (pv 0) (pe_un un_neg pe_int) (fun _ _ => rfl)) (pa_cons (pv 1) pa_nil))) (pe_un un_neg pe_int) (fun _ _ => rfl)))
  (pss_cons (ps_set (i := 5) sc_gain.nd rfl (by first | exact Or.inl rfl | exact Or.inr rfl) (pe_ix (ixK (K := K)) (pv 0) pe_int (fun _ _ => rfl)))
  (pss_cons (ps_if (pt_cmpR op_eq (pv 5) pe_str (by rfl)) (pss_one ps_never) pss_nil)
  (pss_cons (ps_if (pt_cmpR op_eq (pv 5) pe_str (by rfl)) (pss_cons (ps_set (i := 6) sc_gain.nd rfl (by first | exact Or.inl rfl | exact Or.inr rfl) (pe_kw (hc1) hr (by first | decide | omega) (by rfl) (pa_cons (pe_tup (pa_cons pe_str (pa_cons (pv 4) (pa_cons pe_bl pa_nil)))) (pa_cons (pv 2) pa_nil)) (pk_cons (pv 3) pk_nil)))
  (pss_one (ps_ret (C8.pe_c (c_less T) hr (by first | decide | omega) (by rfl) (pa_cons (pv 6) (pa_cons (pe_kw (hc0) hr (by first | decide | omega) (by rfl) (pa_cons (pe_tup (pa_cons pe_str (pa_cons (pv 4) (pa_cons pe_bl pa_nil)))) (pa_cons (pv 2) pa_nil)) (pk_cons (pv 3) pk_nil)) pa_nil)))))) pss_nil)
  (pss_cons ps_never
  (pss_cons ps_never
  (pss_cons ps_never
  (pss_one ps_never))))))))), ?_⟩
  walk_at "gof"
  refine ⟨v, b, vb, n, d, rows, .marks, br, rfl, hv, hb, S, hbr, hg, fun H1 s1 => ?_⟩
  walk_at "gof"
  refine r_ixDlast (hv.same s1) rfl fun u hu => ?_
  walk_at "gof"
  refine ⟨u, b, n, d, rows, rfl, hu, hb.same s1, S, fun p u1 u2 H2 s2 np hp hu1 hu2 => ?_⟩
  walk_at "gof"
  refine r_ixLlast hp rfl ?_
  have s12 := s1.trans s2
  have hv2 := hv.same s12
  have hb2 := hbr.same s12
  walk_at "gof"
  walk_at "iff"
  walk_at "ift"
  walk_at "new"; rename_i p3 np3 H3 s3 h3
  walk_at "gof"
  refine ⟨rfl, rfl, rfl, .ref p3, vb, 300000, rfl, ⟨p3, _, rfl, h3, _, _, rfl, rfl, _, _, rfl, hu2.same s3, _, _, rfl, rfl, rfl⟩, hb2.same s3, by decide, by decide, fun v4 H4 s4 hv4 => ?_⟩
  walk_at "gof"
  walk_at "new"; rename_i p5 np5 H5 s5 h5
  have s25 := (s3.trans s4).trans s5
  walk_at "gof"
  refine ⟨rfl, rfl, rfl, .ref p5, vb, 300000, rfl, ⟨p5, _, rfl, h5, _, _, rfl, rfl, _, _, rfl, hu2.same s25, _, _, rfl, rfl, rfl⟩, hb2.same s25, by decide, by decide, fun v6 H6 s6 hv6 => ?_⟩
  walk_at "gof"
  refine ⟨v4, v6, _, _, 3900, rfl, hv4.same (s5.trans s6), hv6, rb1, rb0, by omega, by omega, fun v7 H7 s7 hv7 => ?_⟩
  walk_at "gof"
  exact q v7 H7 (((s12.trans s25).trans s6).trans s7) hv7
/-- a family of games -/
abbrev ChF (P : Program) (w : World) (K : PySem.W.Frag) (mg : Str → Option Value) (base : Heap) (ka : Nat) {ι : Type} (gs : ι → Gm) (b : Mb) : Prop :=
  CalN P w K mg base ka "chance" 2 ["most"] (spN 3 fun vs H Q _ => ∃ i : ι, ∃ vg vb, ∃ most : Nat, vs = [vg, vb, .int most] ∧ Td H (encGm (gs i)) vg ∧ Td H (encM b) vb ∧ 300000 ≤ most ∧ most ≤ 2 ^ 60 ∧ ∀ v H', Same H H' → Td H' (frD (prob (playM (gs i) b))) v → Q v H')
theorem c_chanceF (T : Tx w K mg) (kw : Nat) (hk : 6 ≤ kw) {ι : Type} (gs : ι → Gm) (b : Mb) (gg : ∀ i, (gs i).good) (hb : b.good) (hl : b.layers ≤ 20) (ea eb : Nat) (wo : ∀ i, WayOk (playM (gs i) b) ea eb) (hmk0 : ∀ i, WaysOk P w K mg base kw (gs i) b) : ChF P w K mg base (kw + 3) gs b := by
  refine mkFnN T.fn_chance sc_chance (fun _ _ _ _ _ _ us ws h1 h2 => match us, ws, h1, h2 with | [_, _], [_], _, _ => rfl) (fun f cdv A outer s H vs Q E hr _ h => ?_)
  obtain ⟨i, vg, vb, most, rfl, hg, hbr, hm1, hm2, q⟩ := h
  have hw := c_ways_of T kw hk (gs i) b (gg i) hb hl (hmk0 i)
  obtain ⟨w1, w2, w3⟩ := way_facts (wo i)
  refine ⟨_, (pss_one (ps_ret (C8.pe_mt0 (t_Ways_chance T) hr (by first | decide | omega) (C8.pe_c hw hr (by first | decide | omega) (by rfl) (pa_cons (pv 0) (pa_cons (pv 1) (pa_cons (pv 2) pa_nil))))))), ?_⟩
  walk_at "gof"
  refine ⟨vg, vb, most, rfl, hg, hbr, hm1, hm2, fun a dx dw H1 s1 i1 d1 => ?_⟩
  walk_at "gof"
  refine ⟨a, dx, most, _, dw, _, rfl, i1, d1, w1, w2, w3, fun v H2 s2 hv => ?_⟩
  rw [Dr.prob_tally] at hv
  walk_at "gof"
  exact q v H2 (s1.trans s2) hv
theorem rb_sub {p q : Rat} {k j : Nat} (hp : RB p k) (hq : RB q j) : RB (p - q) (k + j + 1) := by
  obtain ⟨b1, b2⟩ := hp
  obtain ⟨b3, b4⟩ := hq
  rw [← sub_mkRat]
  have e := Nat.pow_succ (n := 2) (m := k + j)
  have e2 := Nat.pow_add 2 k j
  have m1 := Nat.mul_lt_mul'' b1 b4
  have m2 := Nat.mul_lt_mul'' b3 b2
  have m3 := Nat.mul_lt_mul'' b2 b4
  rw [Nat.mul_comm (2 ^ j)] at m2
  refine mkRat_RB (Nat.mul_pos p.den_pos q.den_pos) ?_ ?_
  · rw [Int.sub_eq_add_neg]
    refine Nat.lt_of_le_of_lt (Int.natAbs_add_le _ _) ?_
    rw [Int.natAbs_neg, Int.natAbs_mul, Int.natAbs_mul, Int.natAbs_natCast, Int.natAbs_natCast]
    omega
  · omega
theorem c_gain_secrets (T : Tx w K mg) (ka : Nat) (hk : 8 ≤ ka) (n d : Nat) (rows : List Bs) (br : Br) (hc1 : ChF P w K mg base ka (fun i : Bool × Bool => Gm.secrets n d n (tree2 n d rows) i.1 i.2) (.plain br))
    (rb : ∀ real bb, RB (prob (playM (.secrets n d n (tree2 n d rows) real bb) (.plain br))) 2000) :
    C8.Cal P w K mg base (ka + 1) "gain" (spGain .secrets n d rows br ((prob (playM (.secrets n d n (tree2 n d rows) true true) (.plain br)) - prob (playM (.secrets n d n (tree2 n d rows) true false) (.plain br))) - (prob (playM (.secrets n d n (tree2 n d rows) false true) (.plain br)) - prob (playM (.secrets n d n (tree2 n d rows) false false) (.plain br))))) [.int 300000] := by
  refine mkFnD (kws := [("most", .int 300000)]) (n := 3) T.fn_gain sc_gain (by simp) rfl (fun D doc pm an cdv ct us ks h1 h2 => match us, ks, h1, h2 with | [_, _, _], [_], _, _ => ⟨_, _, _, _, _, _, rfl, rfl, rfl⟩) (fun f cdv A outer s H vs Q E hr _ h => ?_)
  obtain ⟨v, b, vb, rfl, hv, hb, S, hbr, hg, q⟩ := h
  have hc0 := hc1
  refine ⟨_, (pss_cons (ps_expr (C8.pe_c (c_check_plain_schemes T) hr (by first | decide | omega) (by rfl) (pa_cons (pv 0) (pa_cons (pv 1) (pa_cons (pv 2) pa_nil)))))
  (pss_cons (ps_set (i := 4) sc_gain.nd rfl (by first | exact Or.inl rfl | exact Or.inr rfl) (pe_ix (ixK (K := K)) (C8.pe_c (c_tables_of T) hr (by first | decide | omega) (by rfl) (pa_cons (pe_ix (ixK (K := K)) (pv 0) (pe_un un_neg pe_int) (fun _ _ => rfl)) (pa_cons (pv 1) pa_nil))) (pe_un un_neg pe_int) (fun _ _ => rfl)))
  (pss_cons (ps_set (i := 5) sc_gain.nd rfl (by first | exact Or.inl rfl | exact Or.inr rfl) (pe_ix (ixK (K := K)) (pv 0) pe_int (fun _ _ => rfl)))
  (pss_cons (ps_if (pt_cmpR op_eq (pv 5) pe_str (by rfl)) (pss_one ps_never) pss_nil)
  (pss_cons (ps_if (pt_cmpR op_eq (pv 5) pe_str (by rfl)) (pss_cons ps_never
  (pss_one ps_never)) pss_nil)
  (pss_cons (ps_if (pt_cmpR op_eq (pv 5) pe_str (by rfl)) (pss_one ps_never) pss_nil)
  (pss_cons (ps_set (i := 7) sc_gain.nd rfl (by first | exact Or.inl rfl | exact Or.inr rfl) (pe_lst pa_nil))
  (pss_cons (ps_for PassesOwn.never rfl (piTK (K := K) (pe_tup (pa_cons pe_bl (pa_cons pe_bl pa_nil)))) (pg_name (i := 6) sc_gain.nd rfl (by first | exact Or.inl rfl | exact Or.inr rfl)) (pss_cons (ps_setLc (i := 8) (own := [("b", 9)]) (by rfl) sc_gain.nd rfl rfl (sw_true rfl rfl rfl (by decide +kernel)) (piTK (K := K) (pe_tup (pa_cons pe_int (pa_cons pe_int pa_nil)))) (blkOk_by (by rfl)) (fun _ _ _ _ _ => (pg_name (i := 9) sc_gain.nd rfl (by first | exact Or.inl rfl | exact Or.inr rfl))) (fun _ _ _ _ _ => pts_nil) (fun _ _ _ _ _ => (pe_op (catTK (K := K)) (pe_op (catTK (K := K)) (pe_tup (pa_cons (pv 5) (pa_cons (pv 4) pa_nil))) (pe_slice (slTK (K := K)) (pv 0) (po_some pe_int) (po_some (pe_un un_neg pe_int)))) (pe_tup (pa_cons (pv 6) (pa_cons (pv 9) pa_nil))))))
  (pss_one (ps_expr (bmK (K := K) PySem.F.plainAttrs_list PySem.F.slot_list_append PySem.F.type_list_append mt_append (pv 7) (pa_cons (C8.pe_c (c_less T) hr (by first | decide | omega) (by rfl) (pa_cons (pe_kw (hc1) hr (by first | decide | omega) (by rfl) (pa_cons (pe_ix (ixK (K := K)) (pv 8) pe_int (fun _ _ => rfl)) (pa_cons (pv 2) pa_nil)) (pk_cons (pv 3) pk_nil)) (pa_cons (pe_kw (hc0) hr (by first | decide | omega) (by rfl) (pa_cons (pe_ix (ixK (K := K)) (pv 8) pe_int (fun _ _ => rfl)) (pa_cons (pv 2) pa_nil)) (pk_cons (pv 3) pk_nil)) pa_nil))) pa_nil))))))
  (pss_one (ps_ret (C8.pe_c (c_less T) hr (by first | decide | omega) (by rfl) (pa_cons (pe_ix (ixK (K := K)) (pv 7) pe_int (fun _ _ => rfl)) (pa_cons (pe_ix (ixK (K := K)) (pv 7) pe_int (fun _ _ => rfl)) pa_nil))))))))))))), ?_⟩
  walk_at "gof"
  refine ⟨v, b, vb, n, d, rows, .secrets, br, rfl, hv, hb, S, hbr, hg, fun H1 s1 => ?_⟩
  walk_at "gof"
  refine r_ixDlast (hv.same s1) rfl fun u hu => ?_
  walk_at "gof"
  refine ⟨u, b, n, d, rows, rfl, hu, hb.same s1, S, fun p u1 u2 H2 s2 np hp hu1 hu2 => ?_⟩
  walk_at "gof"
  refine r_ixLlast hp rfl ?_
  have s12 := s1.trans s2
  have hv2 := hv.same s12
  have hb2 := hbr.same s12
  walk_at "gof"
  walk_at "iff"
  walk_at "iff"
  walk_at "iff"
  walk_at "new"; rename_i pv npv H3 s3 h3
  walk_at "gof"
  walk_at "new"; rename_i pt npt H4 s4 h4
  walk_at "gof"
  have hkw : Go.secrets.word = ("secrets" : Str) := rfl
  have hpv4 := s4 _ _ h3
  have s14 := (s12.trans s3).trans s4
  refine ⟨pt, rfl, ⟨_, SqT.of h4⟩, ?_⟩
  refine for_it (walk_tup (xs := [.bl true, .bl false])) (fun i σ H5 => ∃ y6 y8 y9 us, σ = [some v, some b, some vb, some (.int 300000), some u2, some (.str "secrets"), y6, some (.ref pv), y8, y9] ∧ Ext [pv] H4 H5 ∧ H5 pv = some (.lst us) ∧
      TdL H5 ([frD (prob (playM (.secrets n d n (tree2 n d rows) true true) (.plain br)) - prob (playM (.secrets n d n (tree2 n d rows) true false) (.plain br))), frD (prob (playM (.secrets n d n (tree2 n d rows) false true) (.plain br)) - prob (playM (.secrets n d n (tree2 n d rows) false false) (.plain br)))].take i) us)
    ⟨none, none, none, [], rfl, Ext.refl _, hpv4, rfl⟩ (fun i σ H5 _ hp => ?_) (fun i x σ H5 H6 hi hp hy => ?_) (fun σ H5 hp => ?_)
  · obtain ⟨_, _, _, _, _, x5, _⟩ := hp
    exact SqT.of (x5.tup _ _ h4)
  · obtain ⟨y6, y8, y9, us, rfl, x5, hpv5, hus⟩ := hp
    obtain ⟨rfl, hx⟩ := hy
    obtain ⟨real, rfl, hreal⟩ : ∃ real : Bool, x = .bl real ∧ ((i = 0 ∧ real = true) ∨ (i = 1 ∧ real = false)) := by
      match i, hi, hx with
      | 0, _, hx => exact ⟨true, (Option.some.inj hx).symm, .inl ⟨rfl, rfl⟩⟩
      | 1, _, hx => exact ⟨false, (Option.some.inj hx).symm, .inr ⟨rfl, rfl⟩⟩
    have hv5 := Td.ext x5 (hv2.same (s3.trans s4))
    have hu5 := Td.ext x5 (hu2.same (s3.trans s4))
    have hb5 := Td.ext x5 (hb2.same (s3.trans s4))
    walk_at "gof"
    walk_at "new"; rename_i pb npb H7 s7 h7
    walk_at "gof"
    refine ⟨pb, rfl, ⟨_, SqT.of h7⟩, fun B nB => ?_⟩
    refine lc_it (walk_tup (xs := [.int 1, .int 0])) (fun j H8 => Same H7 H8 ∧ ∃ gl, H8 B = some (.lst gl) ∧ TdL H8 ([encGm (.secrets n d n (tree2 n d rows) real true), encGm (.secrets n d n (tree2 n d rows) real false)].take j) gl) ⟨same_upd nB, [], upd_same, rfl⟩ (fun _ _ _ hp => SqT.of (hp.1 _ _ h7)) (fun j x H8 H9 hj hp hy => ?_) (fun H8 hp => ?_)
    · obtain ⟨s8, gl, hB, hgl⟩ := hp
      obtain ⟨rfl, hxj⟩ := hy
      obtain ⟨bb, rfl, hbb⟩ : ∃ bb : Bool, x = .int (if bb then 1 else 0) ∧ ((j = 0 ∧ bb = true) ∨ (j = 1 ∧ bb = false)) := by
        match j, hj, hxj with
        | 0, _, hx => exact ⟨true, (Option.some.inj hx).symm, .inl ⟨rfl, rfl⟩⟩
        | 1, _, hx => exact ⟨false, (Option.some.inj hx).symm, .inr ⟨rfl, rfl⟩⟩
      walk_at "gof"
      refine ⟨rfl, ?_⟩
      walk_at "gof"
      walk_at "new"; rename_i pa npa HA sA hA
      have s5A := (s7.trans s8).trans sA
      walk_at "gof"
      refine r_slT (hv5.same s5A) rfl fun HB uE sB huE => ?_
      obtain ⟨aE, xE, rfl, haE, rfl⟩ := huE
      refine ⟨pa, aE, _, _, rfl, rfl, SqT.of (sB _ _ hA), SqT.of haE, by simp [sizeLine], fun z => by simp at z, fun _ _ => ?_, fun _ z => absurd rfl z⟩
      walk_at "gof"
      walk_at "new"; rename_i pc npc HC sC hC
      refine ⟨pa, pc, _, _, rfl, rfl, SqT.of (sC _ _ (sB _ _ hA)), SqT.of hC, by simp [sizeLine], fun z => by simp at z, fun _ z => by simp at z, fun _ _ pd npd => ?_⟩
      generalize eD : upd HC pd _ = HD
      obtain ⟨sD, hD⟩ := newE2 eD npd
      have s9D := ((sA.trans sB).trans sC).trans sD
      have sDB : Same HD (upd HD B (.lst (gl ++ [.ref pd]))) ∨ True := .inr trivial
      have x9 : Ext [B] HD (upd HD B (.lst (gl ++ [.ref pd]))) := Ext.put (by simp) (s9D _ _ hB) (by intro xs z; cases z)
      refine ⟨gl, s9D _ _ hB, smallL (by rw [hgl.len, List.length_take]; simp; omega), (s8.trans s9D).putNew nB, _, upd_same, ?_⟩
      have hnew : Td HD (encGm (.secrets n d n (tree2 n d rows) real bb)) (.ref pd) := by
        refine ⟨pd, _, rfl, hD, _, _, rfl, rfl, _, _, rfl, hu5.same (((s7.trans s8).trans s9D)), _, _, rfl, rfl, _, _, rfl, rfl, rfl⟩
      have hold := TdL.ext x9 (TdL.same s9D hgl)
      have hn9 := Td.ext x9 hnew
      rcases hbb with ⟨rfl, rfl⟩ | ⟨rfl, rfl⟩
      · exact TdL.snoc hold hn9
      · exact TdL.snoc hold hn9
    · obtain ⟨s8, gl, hB, hgl⟩ := hp
      obtain ⟨g1, _, rfl, hg1, g0, _, rfl, hg0, rfl⟩ := hgl
      have s58 := s7.trans s8
      have hpv8 := s58 _ _ hpv5
      walk_at "gof"
      refine r_ixL (by simp) hB rfl ?_
      walk_at "gof"
      refine ⟨rfl, rfl, rfl, (real, true), g1, vb, 300000, rfl, hg1, hb5.same s58, by decide, by decide, fun w1 HA sA hw1 => ?_⟩
      walk_at "gof"
      have hBA := sA _ _ hB
      refine r_ixL (by simp) hBA rfl ?_
      walk_at "gof"
      refine ⟨rfl, rfl, rfl, (real, false), g0, vb, 300000, rfl, hg0.same sA, hb5.same (s58.trans sA), by decide, by decide, fun w0 HB sB hw0 => ?_⟩
      walk_at "gof"
      refine ⟨w1, w0, _, _, 2000, rfl, hw1.same sB, hw0, rb real true, rb real false, by omega, by omega, fun w2 HC sC hw2 => ?_⟩
      have s5C := ((s58.trans sA).trans sB).trans sC
      have hpvC := s5C _ _ hpv5
      walk_at "gof"
      refine r_app hpvC (by rw [hus.len, List.length_take]; simp; omega) ?_
      have x9 : Ext [pv] HC (upd HC pv (.lst (us ++ [w2]))) := Ext.put (by simp) hpvC (by intro xs z; cases z)
      walk_at "gof"
      refine ⟨_, _, _, us ++ [w2], rfl, (x5.trans (Ext.of s5C)).trans x9, upd_same, ?_⟩
      have hold := TdL.ext x9 (TdL.same s5C hus)
      have hn9 := Td.ext x9 hw2
      rcases hreal with ⟨rfl, rfl⟩ | ⟨rfl, rfl⟩
      · exact TdL.snoc hold hn9
      · exact TdL.snoc hold hn9
  · obtain ⟨y6, y8, y9, us, rfl, x5, hpv5, hus⟩ := hp
    obtain ⟨v1, _, rfl, hv1, v0, _, rfl, hv0, rfl⟩ := hus
    walk_at "gof"
    refine r_ixL (by simp) hpv5 rfl ?_
    walk_at "gof"
    refine r_ixL (by simp) hpv5 rfl ?_
    walk_at "gof"
    refine ⟨v1, v0, _, _, 4400, rfl, hv1, hv0, ?_, ?_, by omega, by omega, fun v2 H7 s7 hv2 => ?_⟩
    · exact (rb_sub (rb true true) (rb true false)).mono (by omega)
    · exact (rb_sub (rb false true) (rb false false)).mono (by omega)
    walk_at "gof"
    exact q v2 H7 ((x5.toSame s14 fun y hy => by rw [List.mem_singleton.mp hy]; exact noneS s12 npv).trans s7) hv2
end
/-! Part A37: the law's own fractions. -/
open PySem PySem.Spec PyProof.Rows L2
section
variable {P : Program} {w : World} {K : PySem.W.Frag} {mg : Str → Option Value} {base : Heap}
theorem c_law_gcd (T : Tx w K mg) : C8.Cal P w K mg base 1 "_law_gcd" (spN 2 fun vs H Q _ => ∃ a b : Nat, vs = [.int a, .int b] ∧ a < 2 ^ 8900 ∧ b < 2 ^ 8900 ∧ Q (.int (Nat.gcd a b : Nat)) H) [] := by
  refine mkFn T.fn_law_gcd sc_law_gcd (fun _ _ _ _ _ _ us hl => match us, hl with | [_, _], _ => rfl) (fun f cdv A outer s H vs Q E hr _ h => ?_)
  obtain ⟨a0, b0, rfl, ha, hb, q⟩ := h
  refine ⟨_, (pss_cons (ps_while PassesOwn.never (pt_cmpR op_gt (pv 1) pe_int (by rfl)) (pss_cons (ps_set (i := 2) sc_law_gcd.nd rfl (by first | exact Or.inl rfl | exact Or.inr rfl) (pe_op op_sub (pv 0) (pe_op op_mulW (pe_op op_fdivW (pv 0) (pv 1)) (pv 1))))
  (pss_cons (ps_set (i := 0) sc_law_gcd.nd rfl (by first | exact Or.inl rfl | exact Or.inr rfl) (pv 1))
  (pss_one (ps_set (i := 1) sc_law_gcd.nd rfl (by first | exact Or.inl rfl | exact Or.inr rfl) (pv 2))))))
  (pss_one (ps_ret (pv 0)))), ?_⟩
  walk_at "gof"
  refine r_while ⟨fun m σ H' => ∃ a b : Nat, ∃ y, m = b ∧ σ = [some (.int a), some (.int b), y] ∧ H' = H ∧ a < 2 ^ 8900 ∧ b < 2 ^ 8900 ∧ Nat.gcd a b = Nat.gcd a0 b0, ⟨b0, a0, b0, none, rfl, rfl, rfl, ha, hb, rfl⟩, fun m σ H' hW => ?_⟩
  obtain ⟨a, b, y, rfl, rfl, rfl, h1, h2, h3⟩ := hW
  walk_at "gof"
  by_cases c : 0 < m
  · refine ite_t (by simp; omega) ?_
    refine ⟨_, fun _ _ h => h, ?_⟩
    walk_at "gof"
    refine r_I (wide_div (b := 8900) (by omega) (by rw [Int.natAbs_natCast]; exact h2) (by decide) (by decide)) ?_
    walk_at "gof"
    refine r_I (wide_mul (a := 8900) (b := 8900) ?_ (by rw [Int.natAbs_natCast]; exact h2) (by decide) (by decide) (by decide)) ?_
    · rw [← Int.natCast_ediv, Int.natAbs_natCast]
      exact Nat.lt_of_le_of_lt (Nat.div_le_self _ _) h1
    walk_at "gof"
    have e : ((a : Int) - (a : Int) / (m : Int) * (m : Int)) = ((a % m : Nat) : Int) := by
      rw [Int.natCast_emod, Int.emod_def, Int.mul_comm]
    exact ⟨_, Nat.mod_lt _ c, m, a % m, _, rfl, by rw [e]; rfl, rfl, h2, Nat.lt_trans (Nat.mod_lt _ c) h2, by rw [← h3, Nat.gcd_comm a m, Nat.gcd_rec m a, Nat.gcd_comm]⟩
  · refine ite_f (by simp; omega) ?_
    walk_at "gof"
    have e0 : m = 0 := by omega
    subst e0
    rw [Nat.gcd_zero_right] at h3
    rw [h3]
    exact q
theorem c_law_fraction (T : Tx w K mg) : C8.Cal P w K mg base 2 "_law_fraction" (spN 2 fun vs H Q _ => ∃ n : Int, ∃ d : Nat, vs = [.int n, .int d] ∧ 0 < d ∧ d < 2 ^ 8900 ∧ n.natAbs < 2 ^ 8900 ∧ ∀ v H', Same H H' → Td H' (frD (mkRat n d)) v → Q v H') [] := by
  refine mkFn T.fn_law_fraction sc_law_fraction (fun _ _ _ _ _ _ us hl => match us, hl with | [_, _], _ => rfl) (fun f cdv A outer s H vs Q E hr _ h => ?_)
  obtain ⟨n, d, rfl, hd, hb, hn, q⟩ := h
  refine ⟨_, (pss_cons (ps_if (pt_cmpR op_eq (pv 0) pe_int (by rfl)) (pss_one (ps_ret (pe_tup (pa_cons pe_int (pa_cons pe_int pa_nil))))) pss_nil)
  (pss_cons (ps_set (i := 2) sc_law_fraction.nd rfl (by first | exact Or.inl rfl | exact Or.inr rfl) (C8.pe_c (c_law_gcd T) hr (by first | decide | omega) (by rfl) (pa_cons (pe_callB (call_abs) (by rfl) T.f_abs bt_abs (pa_cons (pv 0) pa_nil)) (pa_cons (pv 1) pa_nil))))
  (pss_one (ps_ret (pe_tup (pa_cons (pe_op op_fdivW (pv 0) (pv 2)) (pa_cons (pe_op op_fdivW (pv 1) (pv 2)) pa_nil))))))), ?_⟩
  walk_at "gof"
  by_cases c : n = 0
  · refine ite_t (by simpa using c) ?_
    subst c
    walk_at "gof"
    walk_at "new"; rename_i p np H1 s1 h1
    refine q _ _ s1 ?_
    rw [show mkRat 0 d = 0 from Rat.zero_mkRat d]
    exact ⟨p, _, rfl, h1, _, _, rfl, rfl, _, _, rfl, rfl, rfl⟩
  · refine ite_f (by simpa using c) ?_
    walk_at "gof"
    have ea : (if n < 0 then -n else n) = ((n.natAbs : Nat) : Int) := by split <;> omega
    rw [ea]
    walk_at "gof"
    refine ⟨n.natAbs, d, rfl, hn, hb, ?_⟩
    obtain ⟨e1, e2⟩ := mkRat_num n d hd
    have gp : 0 < Nat.gcd n.natAbs d := Nat.gcd_pos_of_pos_right _ hd
    have gl : Nat.gcd n.natAbs d ≤ d := Nat.le_of_dvd hd (Nat.gcd_dvd_right _ _)
    generalize Nat.gcd n.natAbs d = g at e1 e2 gp gl
    have cd : ∀ i : Int, CDivW i (g : Int) := fun i => wide_div (b := 8900) (by omega) (by rw [Int.natAbs_natCast]; exact Nat.lt_of_le_of_lt gl hb) (by decide) (by decide)
    walk_at "gof"
    refine r_I (cd _) ?_
    walk_at "gof"
    refine r_I (cd _) ?_
    walk_at "gof"
    walk_at "new"; rename_i p np H1 s1 h1
    refine q _ _ s1 ⟨p, _, rfl, h1, _, _, rfl, ?_, _, _, rfl, ?_, rfl⟩
    · show V.int _ = V.int _
      rw [e1]
    · show V.int _ = V.int _
      rw [e2, Int.natCast_ediv]
theorem c_law_times (T : Tx w K mg) : C8.Cal P w K mg base 3 "_law_times" (spN 2 fun vs H Q _ => ∃ v p, ∃ k : Nat, vs = [v, .int k] ∧ Td H (frD p) v ∧ RB p 8000 ∧ k < 2 ^ 60 ∧ ∀ v H', Same H H' → Td H' (frD (p * (k : Rat))) v → Q v H') [] := by
  refine mkFn T.fn_law_times sc_law_times (fun _ _ _ _ _ _ us hl => match us, hl with | [_, _], _ => rfl) (fun f cdv A outer s H vs Q E hr _ h => ?_)
  obtain ⟨v, p, k, rfl, hv, rb, hk, q⟩ := h
  refine ⟨_, (pss_one (ps_ret (C8.pe_c (c_law_fraction T) hr (by first | decide | omega) (by rfl) (pa_cons (pe_op op_mulW (pe_ix (ixK (K := K)) (pv 0) pe_int (fun _ _ => rfl)) (pv 1)) (pa_cons (pe_ix (ixK (K := K)) (pv 0) pe_int (fun _ _ => rfl)) pa_nil))))), ?_⟩
  rw [frD] at hv
  walk_at "gof"
  obtain ⟨b1, b2⟩ := rb
  refine r_I (wide_mul (a := 8000) (b := 60) b1 (by rw [Int.natAbs_natCast]; exact hk) (by decide) (by decide) (by decide)) ?_
  walk_at "gof"
  have eq : mkRat (p.num * (k : Int)) p.den = p * (k : Rat) := by
    rw [Rat.mkRat_eq_div, Rat.intCast_mul, Rat.intCast_natCast]
    have h1 : (p.num : Rat) / (p.den : Rat) = p := by rw [← Rat.mkRat_eq_div, Rat.mkRat_self]
    grind
  have e8 : 2 ^ 8000 ≤ (2 : Nat) ^ 8900 := Nat.pow_le_pow_right (by decide) (by decide)
  have e9 : (2 : Nat) ^ 8060 ≤ 2 ^ 8900 := Nat.pow_le_pow_right (by decide) (by decide)
  refine ⟨p.num * (k : Int), p.den, rfl, p.den_pos, Nat.lt_of_lt_of_le b2 e8, ?_, fun v2 H1 s1 hv2 => ?_⟩
  · exact Nat.lt_of_lt_of_le (wide_lt (a := 8000) (b := 60) b1 (by rw [Int.natAbs_natCast]; exact hk)) e9
  rw [eq] at hv2
  walk_at "gof"
  exact q v2 H1 s1 hv2
end
/-! Part A38: the law's hand. -/
open PySem PySem.Spec PyProof.Rows L2
/-- the hand at h: a list of draws, a place -/
def HandR (h dl : Addr) (xs : List Int) (H : Hp) : Prop := dl ≠ h ∧ H dl = some (.lst (xs.map V.int)) ∧ (∀ x ∈ xs, 0 ≤ x) ∧ ∃ at_ : Nat, H h = some (.lst [.ref dl, .int at_])
theorem HandR.same {h dl : Addr} {xs : List Int} {H H' : Hp} (r : HandR h dl xs H) (s : Same H H') : HandR h dl xs H' := ⟨r.1, s _ _ r.2.1, r.2.2.1, by obtain ⟨a, e⟩ := r.2.2.2; exact ⟨a, s _ _ e⟩⟩
theorem r_gSub {to ti : TE} {r : V → V → V → Hp → (Hp → Prop) → Prop} {v : V} {σ : L2.St} {H : Hp} {R : L2.St → Hp → Prop} (h : to σ H fun x H1 => ti σ H1 fun y H2 => r x y v H2 fun H3 => R σ H3) : gSub to ti r v σ H R := h
section
variable {P : Program} {w : World} {K : PySem.W.Frag} {mg : Str → Option Value} {base : Heap}
theorem c_law_take (T : Tx w K mg) : C8.Cal P w K mg base 1 "_law_take" (spN 2 fun vs H Q _ => ∃ h dl xs, ∃ m : Nat, vs = [.ref h, .int m] ∧ HandR h dl xs H ∧ 0 < m ∧ m < 1000 ∧ ∀ (r : Nat) H', r < m → Ext [h] H H' → HandR h dl xs H' → Q (.int r) H') [] := by
  refine mkFn T.fn_law_take sc_law_take (fun _ _ _ _ _ _ us hl => match us, hl with | [_, _], _ => rfl) (fun f cdv A outer s H vs Q E hr _ h => ?_)
  obtain ⟨h, dl, xs, m, rfl, hh, h1, h2, q⟩ := h
  obtain ⟨ne, hdl, hx, at_, hhd⟩ := id hh
  refine ⟨_, (pss_cons (ps_set (i := 2) sc_law_take.nd rfl (by first | exact Or.inl rfl | exact Or.inr rfl) (pe_ix (ixK (K := K)) (pv 0) pe_int (fun _ _ => rfl)))
  (pss_cons (ps_asg (pe_op op_add (pv 2) pe_int) (pg_sub (pv 0) pe_int set_list))
  (pss_cons (ps_set (i := 3) sc_law_take.nd rfl (by first | exact Or.inl rfl | exact Or.inr rfl) (pe_ix (ixK (K := K)) (pv 0) pe_int (fun _ _ => rfl)))
  (pss_cons (ps_if (pt_cmpR op_ge (pv 2) (pe_callB (lenK (K := K)) (by rfl) T.f_len bt_len (pa_cons (pv 3) pa_nil)) (by rfl)) (pss_one (ps_ret pe_int)) pss_nil)
  (pss_one (ps_ret (pe_op op_mod (pe_op op_fdiv (pe_callTy call_int1 (by rfl) T.f_int bt_int (pa_cons (pe_ix (ixK (K := K)) (pv 3) (pv 2) (fun _ _ => rfl)) pa_nil)) pe_int) (pv 1)))))))), ?_⟩
  walk_at "gof"
  refine r_ixL (by simp) hhd rfl ?_
  walk_at "gof"
  refine r_gSub ?_
  walk_at "gof"
  refine ⟨h, _, 1, 1, rfl, rfl, hhd, rfl, ?_⟩
  generalize e1 : upd H h _ = H1
  have x1 : Ext [h] H H1 := by subst e1; exact Ext.put (by simp) hhd (by intro xs z; cases z)
  have hh1 : H1 h = some (.lst [.ref dl, .int ((at_ + 1 : Nat) : Int)]) := by rw [← e1]; exact upd_same
  have hdl1 : H1 dl = some (.lst (xs.map V.int)) := x1.keep _ _ (by simpa using ne) hdl
  have fin : HandR h dl xs H1 := ⟨ne, hdl1, hx, _, hh1⟩
  walk_at "gof"
  refine r_ixL (by simp) hh1 rfl ?_
  walk_at "gof"
  rw [List.length_map]
  by_cases c : xs.length ≤ at_
  · refine ite_t (by simp; omega) ?_
    walk_at "gof"
    exact q 0 H1 h1 x1 fin
  · refine ite_f (by simp; omega) ?_
    walk_at "gof"
    have hlt : at_ < xs.length := by omega
    have h0 := hx xs[at_] (List.getElem_mem hlt)
    refine r_ixL (by simp) hdl1 (by rw [Int.toNat_natCast, List.getElem?_map, List.getElem?_eq_getElem hlt]; rfl) ?_
    walk_at "gof"
    obtain ⟨r, hr⟩ : ∃ r : Nat, (xs[at_] / 7 % (m : Int)) = (r : Int) := ⟨(xs[at_] / 7 % (m : Int)).toNat, by rw [Int.toNat_of_nonneg (Int.emod_nonneg _ (by omega))]⟩
    have hrm : r < m := by
      have := Int.emod_lt_of_pos (xs[at_] / 7) (show (0 : Int) < (m : Int) by omega)
      omega
    rw [hr]
    exact q r H1 hrm x1 fin
theorem HandR.upd {h dl B : Addr} {xs : List Int} {H : Hp} {o : HO} (r : HandR h dl xs H) (b1 : h ≠ B) (b2 : dl ≠ B) : HandR h dl xs (upd H B o) :=
  ⟨r.1, by rw [upd_ne b2]; exact r.2.1, r.2.2.1, by obtain ⟨a, e⟩ := r.2.2.2; exact ⟨a, by rw [upd_ne b1]; exact e⟩⟩
theorem _root_.BB.Ext.putNew {D : List Addr} {H H1 : Hp} {p : Addr} {o : HO} (s : Ext D H H1) (h : H p = none) : Ext D H (upd H1 p o) :=
  ⟨fun b x hb e => by rw [upd_ne (ne_of_none e h)]; exact s.keep b x hb e, fun b x e => by rw [upd_ne (ne_of_none e h)]; exact s.tup b x e⟩
theorem c_law_string (T : Tx w K mg) : C8.Cal P w K mg base 2 "_law_string" (spN 2 fun vs H Q _ => ∃ h dl xs, ∃ l : Nat, vs = [.ref h, .int l] ∧ HandR h dl xs H ∧ l ≤ 100 ∧ ∀ s H', List.length s = l → Ext [h] H H' → HandR h dl xs H' → Q (.str (bstr s)) H') [] := by
  refine mkFn T.fn_law_string sc_law_string (fun _ _ _ _ _ _ us hl => match us, hl with | [_, _], _ => rfl) (fun f cdv A outer s H vs Q E hr _ h => ?_)
  obtain ⟨h, dl, xs, l, rfl, hh, hl, q⟩ := h
  obtain ⟨ne, hdl, hx, at_, hhd⟩ := id hh
  refine ⟨_, (pss_one (ps_ret (pe_join pe_str (pe_lc (own := [("_law_k", 2)]) (by rfl) sc_law_string.nd (pi_range1 (by rfl) T.f_range (pa_cons (pv 1) pa_nil)) (blkOk_by (by rfl)) (fun _ _ _ _ _ => (pg_name (i := 2) sc_law_string.nd rfl (by first | exact Or.inl rfl | exact Or.inr rfl))) (fun _ _ _ _ _ => pts_nil) (fun _ _ _ _ _ => (pe_ix (ixK (K := K)) (pe_lst (pa_cons pe_str (pa_cons pe_str pa_nil))) (C8.pe_c (c_law_take T) hr (by first | decide | omega) (by rfl) (pa_cons (pv 0) (pa_cons pe_int pa_nil))) (fun _ _ => rfl))))))), ?_⟩
  walk_at "gof"
  walk_at "rng"
  intro B nB
  have b1 : h ≠ B := fun z => by rw [← z, hhd] at nB; cases nB
  have b2 : dl ≠ B := fun z => by rw [← z, hdl] at nB; cases nB
  refine lc_it walk_range (fun i H2 => ∃ s : Bs, s.length = i ∧ Ext [h] H H2 ∧ HandR h dl xs H2 ∧ H2 B = some (.lst (s.map fun b => .str (bstr [b])))) ⟨[], rfl, (Ext.refl H).putNew nB, hh.upd b1 b2, upd_same⟩ (fun _ _ _ _ => trivial) (fun i x H2 H3 hi hp hy => ?_) (fun H2 hp => ?_)
  · obtain ⟨s, hs, x2, hh2, hB⟩ := hp
    obtain ⟨rfl, hx⟩ := hy
    subst hx
    walk_at "gof"
    refine ⟨rfl, ?_⟩
    walk_at "gof"
    walk_at "new"; rename_i p np H4 s4 h4
    walk_at "gof"
    refine ⟨h, dl, xs, 2, rfl, hh2.same s4, by decide, by decide, fun r H5 hr x5 hh5 => ?_⟩
    have ph : p ≠ h := fun z => by obtain ⟨_, _, _, _, e⟩ := hh2; rw [← z, np] at e; cases e
    have h5 := x5.keep _ _ (by simpa using ph) h4
    have hB5 := x5.keep _ _ (by simpa using Ne.symm b1) (s4 _ _ hB)
    have x25 : Ext [h] H H5 := (x2.trans (Ext.of s4)).trans x5
    have fin : ∀ c : Bool, ∃ acc, H5 B = some (.lst acc) ∧ acc.length < sizeLine ∧ ∃ s : Bs, s.length = i + 1 ∧ Ext [h] H (upd H5 B (.lst (acc ++ [.str (bstr [c])]))) ∧ HandR h dl xs (upd H5 B (.lst (acc ++ [.str (bstr [c])]))) ∧ (upd H5 B (.lst (acc ++ [.str (bstr [c])]))) B = some (.lst (s.map fun b => .str (bstr [b]))) := fun c =>
      ⟨_, hB5, smallL (by rw [List.length_map]; omega), s ++ [c], by simp [hs], x25.putNew nB, hh5.upd b1 b2, by rw [upd_same, List.map_append]; rfl⟩
    match r, hr with
    | 0, _ =>
      refine r_ixL (by simp) h5 rfl ?_
      exact fin false
    | 1, _ =>
      refine r_ixL (by simp) h5 rfl ?_
      exact fin true
  · obtain ⟨s, hs, x2, hh2, hB⟩ := hp
    walk_at "gof"
    refine r_join1 hB (by omega) ?_
    exact q s H2 hs x2 hh2
end
/-! Part A39: the law's block. -/
open PySem PySem.Spec PyProof.Rows L2
section
variable {P : Program} {w : World} {K : PySem.W.Frag} {mg : Str → Option Value} {base : Heap}
theorem c_law_table (T : Tx w K mg) : C8.Cal P w K mg base 3 "_law_table" (spN 3 fun vs H Q _ => ∃ h dl xs, ∃ n m : Nat, vs = [.ref h, .int n, .int m] ∧ HandR h dl xs H ∧ 1 ≤ n ∧ n ≤ 3 ∧ 1 ≤ m ∧ m ≤ 8 ∧ ∀ v rows H', GoodG n m rows → Ext [h] H H' → HandR h dl xs H' → Td H' (encG n m rows) v → Q v H') [] := by
  refine mkFn T.fn_law_table sc_law_table (fun _ _ _ _ _ _ us hl => match us, hl with | [_, _, _], _ => rfl) (fun f cdv A outer s H vs Q E hr _ h => ?_)
  obtain ⟨h, dl, xs, n, m, rfl, hh, n1, n2, m1, m2, q⟩ := h
  obtain ⟨ne, hdl, hx, at_, hhd⟩ := id hh
  have hp2 : 2 ^ n ≤ 2 ^ 3 := Nat.pow_le_pow_right (by decide) n2
  refine ⟨_, (pss_cons (ps_setLc (i := 3) (own := [("_law_k", 4)]) (by rfl) sc_law_table.nd rfl rfl (sw_true rfl rfl rfl (by decide +kernel)) (pi_range1 (by rfl) T.f_range (pa_cons (pe_op op_shl pe_int (pv 1)) pa_nil)) (blkOk_by (by rfl)) (fun _ _ _ _ _ => (pg_name (i := 4) sc_law_table.nd rfl (by first | exact Or.inl rfl | exact Or.inr rfl))) (fun _ _ _ _ _ => pts_nil) (fun _ _ _ _ _ => (C8.pe_c (c_law_string T) hr (by first | decide | omega) (by rfl) (pa_cons (pv 0) (pa_cons (pv 2) pa_nil)))))
  (pss_one (ps_ret (pe_tup (pa_cons pe_str (pa_cons (pv 1) (pa_cons (pv 2) (pa_cons (pe_callTy (tupK (K := K)) (by rfl) T.f_tuple bt_tuple (pa_cons (pv 3) pa_nil)) pa_nil)))))))), ?_⟩
  walk_at "gof"
  have e2 : (1 * 2 ^ ((n : Int)).toNat : Int) = ((2 ^ n : Nat) : Int) := by simp
  rw [e2]
  walk_at "rng"
  intro B nB
  have b1 : h ≠ B := fun z => by rw [← z, hhd] at nB; cases nB
  have b2 : dl ≠ B := fun z => by rw [← z, hdl] at nB; cases nB
  refine lc_it walk_range (fun i H2 => ∃ rows : List Bs, rows.length = i ∧ (∀ r ∈ rows, r.length = m) ∧ Ext [h] H H2 ∧ HandR h dl xs H2 ∧ H2 B = some (.lst (rows.map fun r => .str (bstr r)))) ⟨[], rfl, by simp, (Ext.refl H).putNew nB, hh.upd b1 b2, upd_same⟩ (fun _ _ _ _ => trivial) (fun i x H2 H3 hi hp hy => ?_) (fun H2 hp => ?_)
  · obtain ⟨rows, hs, hr, x2, hh2, hB⟩ := hp
    obtain ⟨rfl, hx⟩ := hy
    subst hx
    walk_at "gof"
    refine ⟨rfl, ?_⟩
    walk_at "gof"
    refine ⟨h, dl, xs, m, rfl, hh2, by omega, fun s H4 hsl x4 hh4 => ?_⟩
    have hB4 := x4.keep _ _ (by simpa using Ne.symm b1) hB
    refine ⟨_, hB4, smallL (by rw [List.length_map]; omega), rows ++ [s], by simp [hs], fun r hr' => ?_, (x2.trans x4).putNew nB, hh4.upd b1 b2, by rw [upd_same, List.map_append]; rfl⟩
    rcases List.mem_append.mp hr' with hr' | hr'
    · exact hr r hr'
    · rw [List.mem_singleton.mp hr']; exact hsl
  · obtain ⟨rows, hs, hr, x2, hh2, hB⟩ := hp
    walk_at "gof"
    refine ⟨B, _, rfl, .inl ⟨SqL.of hB, fun t nt => ?_⟩⟩
    generalize e3 : upd H2 t _ = H3
    obtain ⟨s3, ht⟩ := newE2 e3 nt
    walk_at "gof"
    walk_at "new"; rename_i p np H4 s4 h4
    have s24 := s3.trans s4
    refine q (.ref p) rows H4 ⟨n1, by omega, m1, by omega, hs, hr⟩ (x2.trans (Ext.of s24)) (hh2.same s24) ?_
    have hrows : ∀ l : List Bs, TdL H4 (l.map fun r => PyData.str (bstr r)) (l.map fun r => V.str (bstr r)) := by
      intro l
      induction l with
      | nil => rfl
      | cons a r ih => exact ⟨_, _, rfl, rfl, ih⟩
    refine ⟨p, _, rfl, h4, _, _, rfl, rfl, _, _, rfl, rfl, _, _, rfl, rfl, _, _, rfl, ⟨t, _, rfl, s4 _ _ ht, ?_⟩, rfl⟩
    exact hrows rows
end
/-! Part A40: the law's parts. -/
open PySem PySem.Spec PyProof.Rows L2
section
variable {P : Program} {w : World} {K : PySem.W.Frag} {mg : Str → Option Value} {base : Heap}
theorem c_law_parts (T : Tx w K mg) : C8.Cal P w K mg base 2 "_law_parts" (spN 2 fun vs H Q _ => ∃ h dl xs, ∃ l : Nat, vs = [.ref h, .int l] ∧ HandR h dl xs H ∧ l ≤ 100 ∧ ∀ v ps H', List.length ps = l → (∀ p ∈ ps, p.good) → Ext [h] H H' → HandR h dl xs H' → Td H' (encPs ps) v → Q v H') [] := by
  refine mkFn T.fn_law_parts sc_law_parts (fun _ _ _ _ _ _ us hl => match us, hl with | [_, _], _ => rfl) (fun f cdv A outer s H vs Q E hr _ h => ?_)
  obtain ⟨h, dl, xs, l, rfl, hh, hl, q⟩ := h
  obtain ⟨ne, hdl, hx, at_, hhd⟩ := id hh
  refine ⟨_, (pss_cons (ps_set (i := 2) sc_law_parts.nd rfl (by first | exact Or.inl rfl | exact Or.inr rfl) (pe_lst pa_nil))
  (pss_cons (ps_for PassesOwn.never rfl (pi_range1 (by rfl) T.f_range (pa_cons (pv 1) pa_nil)) (pg_name (i := 3) sc_law_parts.nd rfl (by first | exact Or.inl rfl | exact Or.inr rfl)) (pss_cons (ps_set (i := 4) sc_law_parts.nd rfl (by first | exact Or.inl rfl | exact Or.inr rfl) (C8.pe_c (c_law_take T) hr (by first | decide | omega) (by rfl) (pa_cons (pv 0) (pa_cons pe_int pa_nil))))
  (pss_one (ps_if (pt_cmpR op_lt (pv 4) pe_int (by rfl)) (pss_one (ps_expr (bmK (K := K) PySem.F.plainAttrs_list PySem.F.slot_list_append PySem.F.type_list_append mt_append (pv 2) (pa_cons (pe_ix (ixK (K := K)) (pe_lst (pa_cons pe_str (pa_cons pe_str pa_nil))) (pv 4) (fun _ _ => rfl)) pa_nil)))) (pss_one (ps_expr (bmK (K := K) PySem.F.plainAttrs_list PySem.F.slot_list_append PySem.F.type_list_append mt_append (pv 2) (pa_cons (C8.pe_c (c_law_take T) hr (by first | decide | omega) (by rfl) (pa_cons (pv 0) (pa_cons pe_int pa_nil))) pa_nil))))))))
  (pss_one (ps_ret (pe_callTy (tupK (K := K)) (by rfl) T.f_tuple bt_tuple (pa_cons (pv 2) pa_nil)))))), ?_⟩
  walk_at "gof"
  walk_at "new"; rename_i B nB H1 s1 hB1
  walk_at "gof"
  walk_at "rng"
  have b1 : h ≠ B := fun z => by rw [← z, hhd] at nB; cases nB
  have b2 : dl ≠ B := fun z => by rw [← z, hdl] at nB; cases nB
  refine for_it walk_range (fun i σ H2 => ∃ y1 y2, ∃ ps : List Part, ∃ us, σ = [some (.ref h), some (.int l), some (.ref B), y1, y2] ∧ ps.length = i ∧ (∀ p ∈ ps, p.good) ∧ Ext [h] H H2 ∧ HandR h dl xs H2 ∧ H2 B = some (.lst us) ∧ TdL H2 (ps.map encP) us)
    ⟨none, none, [], [], rfl, rfl, by simp, Ext.of s1, hh.same s1, hB1, rfl⟩ (fun _ _ _ _ _ => trivial) (fun i x σ H2 H3 hi hp hy => ?_) (fun σ H2 hp => ?_)
  · obtain ⟨y1, y2, ps, us, rfl, hs, hgd, x2, hh2, hB, hus⟩ := hp
    obtain ⟨rfl, hx⟩ := hy
    subst hx
    have hul : us.length = i := by rw [hus.len, List.length_map, hs]
    walk_at "gof"
    refine ⟨h, dl, xs, 5, rfl, hh2, by decide, by decide, fun r H4 hr x4 hh4 => ?_⟩
    have hB4 := x4.keep _ _ (by simpa using Ne.symm b1) hB
    have hus4 := TdL.ext x4 hus
    walk_at "gof"
    have fin : ∀ (H5 : Hp) (p : Part) (v : V) (y1 y2 : Option V), Ext [h] H H5 → HandR h dl xs H5 → H5 B = some (.lst us) → TdL H5 (ps.map encP) us → p.good → Td H5 (encP p) v →
        ∃ y1' y2', ∃ ps' : List Part, ∃ us', [some (.ref h), some (.int l), some (.ref B), y1, y2] = [some (V.ref h), some (.int l), some (.ref B), y1', y2'] ∧ ps'.length = i + 1 ∧ (∀ p ∈ ps', p.good) ∧ Ext [h] H (upd H5 B (.lst (us ++ [v]))) ∧ HandR h dl xs (upd H5 B (.lst (us ++ [v]))) ∧ (upd H5 B (.lst (us ++ [v]))) B = some (.lst us') ∧ TdL (upd H5 B (.lst (us ++ [v]))) (ps'.map encP) us' := by
      intro H5 p v y1 y2 x5 hh5 hB5 hus5 hpg hv
      have xB : Ext [B] H5 (upd H5 B (.lst (us ++ [v]))) := Ext.put (by simp) hB5 (by intro xs z; cases z)
      refine ⟨_, _, ps ++ [p], us ++ [v], rfl, by simp [hs], fun p' hp' => ?_, x5.putNew nB, hh5.upd b1 b2, upd_same, ?_⟩
      · rcases List.mem_append.mp hp' with z | z
        · exact hgd p' z
        · rw [List.mem_singleton.mp z]; exact hpg
      · rw [List.map_append]
        exact TdL.snoc (TdL.ext xB hus5) (Td.ext xB hv)
    match r, hr with
    | 0, _ =>
      walk_at "ift"
      walk_at "new"; rename_i p np H5 s5 h5
      walk_at "gof"
      refine r_ixL (by simp) h5 rfl ?_
      walk_at "gof"
      refine r_app (s5 _ _ hB4) (by omega) ?_
      walk_at "gof"
      exact fin H5 (.bit false) _ _ _ ((x2.trans x4).trans (Ext.of s5)) (hh4.same s5) (s5 _ _ hB4) (TdL.same s5 hus4) trivial rfl
    | 1, _ =>
      walk_at "ift"
      walk_at "new"; rename_i p np H5 s5 h5
      walk_at "gof"
      refine r_ixL (by simp) h5 rfl ?_
      walk_at "gof"
      refine r_app (s5 _ _ hB4) (by omega) ?_
      walk_at "gof"
      exact fin H5 (.bit true) _ _ _ ((x2.trans x4).trans (Ext.of s5)) (hh4.same s5) (s5 _ _ hB4) (TdL.same s5 hus4) trivial rfl
    | r + 2, hr =>
      refine ite_f (by simp; omega) ?_
      walk_at "gof"
      refine ⟨h, dl, xs, 9, rfl, hh4, by decide, by decide, fun r2 H5 hr2 x5 hh5 => ?_⟩
      have hB5 := x5.keep _ _ (by simpa using Ne.symm b1) hB4
      walk_at "gof"
      refine r_app hB5 (by omega) ?_
      walk_at "gof"
      exact fin H5 (.ix r2) _ _ _ ((x2.trans x4).trans x5) hh5 hB5 (TdL.ext x5 hus4) (by show r2 ≤ 9999; omega) rfl
  · obtain ⟨y1, y2, ps, us, rfl, hs, hgd, x2, hh2, hB, hus⟩ := hp
    walk_at "gof"
    refine ⟨B, _, rfl, .inl ⟨SqL.of hB, fun t nt => ?_⟩⟩
    generalize e3 : upd H2 t _ = H3
    obtain ⟨s3, ht⟩ := newE2 e3 nt
    walk_at "gof"
    exact q (.ref t) ps H3 hs hgd (x2.trans (Ext.of s3)) (hh2.same s3) ⟨t, _, rfl, ht, TdL.same s3 hus⟩
end
/-! Part A41: the law's breaker. -/
open PySem PySem.Spec PyProof.Rows L2
def SayOk (br : Br) : Prop := ∃ ps : List Part, br = .say ps ∧ ps.length ≤ 100 ∧ ∀ p ∈ ps, p.good
def LawBr : Nat → Br → Prop
  | 0, br => SayOk br
  | d + 1, br => SayOk br ∨ (∃ i a b, br = .look i a b ∧ i ≤ 8 ∧ LawBr d a ∧ LawBr d b) ∨ ∃ bs : List Br, br = .toss bs ∧ 1 ≤ bs.length ∧ bs.length ≤ 3 ∧ ∀ b ∈ bs, LawBr d b
section
variable {P : Program} {w : World} {K : PySem.W.Frag} {mg : Str → Option Value} {base : Heap}
abbrev spBrk (d : Nat) : Sp := spN 5 fun vs H Q _ => ∃ h dl xs, ∃ L sd : Nat, vs = [.ref h, .int d, .int 0, .int L, .int sd] ∧ HandR h dl xs H ∧ sd ≤ 100 ∧ ∀ v br H', LawBr d br → Ext [h] H H' → HandR h dl xs H' → Td H' (encB br) v → Q v H'
theorem law_breaker0 (T : Tx w K mg) : C8.Cal P w K mg base 3 "_law_breaker" (spBrk 0) [] := by
  refine mkFn T.fn_law_breaker sc_law_breaker (fun _ _ _ _ _ _ us hl => match us, hl with | [_, _, _, _, _], _ => rfl) (fun f cdv A outer s H vs Q E hr _ h => ?_)
  obtain ⟨h, dl, xs, L, sd, rfl, hh, hsd, q⟩ := h
  refine ⟨_, (pss_cons (ps_set (i := 5) sc_law_breaker.nd rfl (by first | exact Or.inl rfl | exact Or.inr rfl) (C8.pe_c (c_law_take T) hr (by first | decide | omega) (by rfl) (pa_cons (pv 0) (pa_cons pe_int pa_nil))))
  (pss_cons (ps_if (PW.pt (pw_or (pt_cmpR op_eq (pv 1) pe_int (by rfl)) (pw_or1 (pt_cmpR op_eq (pv 5) pe_int (by rfl))))) (pss_cons (ps_set (i := 6) sc_law_breaker.nd rfl (by first | exact Or.inl rfl | exact Or.inr rfl) (pv 4))
  (pss_cons (ps_if (pt_cmpR op_eq (C8.pe_c (c_law_take T) hr (by first | decide | omega) (by rfl) (pa_cons (pv 0) (pa_cons pe_int pa_nil))) pe_int (by rfl)) (pss_one (ps_set (i := 6) sc_law_breaker.nd rfl (by first | exact Or.inl rfl | exact Or.inr rfl) (C8.pe_c (c_law_take T) hr (by first | decide | omega) (by rfl) (pa_cons (pv 0) (pa_cons pe_int pa_nil))))) pss_nil)
  (pss_one (ps_ret (pe_tup (pa_cons pe_str (pa_cons (C8.pe_c (c_law_parts T) hr (by first | decide | omega) (by rfl) (pa_cons (pv 0) (pa_cons (pv 6) pa_nil))) pa_nil))))))) pss_nil)
  (pss_cons ps_never
  (pss_cons ps_never
  (pss_cons ps_never
  (pss_cons ps_never
  (pss_cons (ps_if (pt_cmpR op_eq (C8.pe_c (c_law_take T) hr (by first | decide | omega) (by rfl) (pa_cons (pv 0) (pa_cons pe_int pa_nil))) pe_int (by rfl)) (pss_one (ps_set (i := 6) sc_law_breaker.nd rfl (by first | exact Or.inl rfl | exact Or.inr rfl) (C8.pe_c (c_law_take T) hr (by first | decide | omega) (by rfl) (pa_cons (pv 0) (pa_cons pe_int pa_nil))))) pss_nil)
  (pss_one ps_never)))))))), ?_⟩
  walk_at "gof"
  refine ⟨h, dl, xs, 6, rfl, hh, by decide, by decide, fun r H1 hr1 x1 hh1 => ?_⟩
  walk_at "gof"
  walk_at "ift"
  refine ⟨h, dl, xs, 9, rfl, hh1, by decide, by decide, fun r2 H2 hr2 x2 hh2 => ?_⟩
  walk_at "gof"
  have x12 := x1.trans x2
  by_cases c2 : r2 = 0
  · refine ite_t (by simp; omega) ?_
    walk_at "gof"
    refine ⟨h, dl, xs, 4, rfl, hh2, by decide, by decide, fun r3 H3 hr3 x3 hh3 => ?_⟩
    walk_at "gof"
    refine ⟨h, dl, xs, r3, rfl, hh3, by omega, fun v ps H4 hps hpg x4 hh4 hv => ?_⟩
    walk_at "gof"
    walk_at "new"; rename_i p np H5 s5 h5
    exact q (.ref p) (.say ps) H5 (id ⟨ps, rfl, by omega, hpg⟩) (((x12.trans x3).trans x4).trans (Ext.of s5)) (hh4.same s5) ⟨p, _, rfl, h5, _, _, rfl, rfl, _, _, rfl, hv.same s5, rfl⟩
  · refine ite_f (by simp; omega) ?_
    walk_at "gof"
    refine ⟨h, dl, xs, sd, rfl, hh2, hsd, fun v ps H4 hps hpg x4 hh4 hv => ?_⟩
    walk_at "gof"
    walk_at "new"; rename_i p np H5 s5 h5
    exact q (.ref p) (.say ps) H5 (id ⟨ps, rfl, by omega, hpg⟩) ((x12.trans x4).trans (Ext.of s5)) (hh4.same s5) ⟨p, _, rfl, h5, _, _, rfl, rfl, _, _, rfl, hv.same s5, rfl⟩
theorem law_breakerS (T : Tx w K mg) (d : Nat) (hd : d ≤ 50) (hrec : C8.Cal P w K mg base (3 + d) "_law_breaker" (spBrk d) []) : C8.Cal P w K mg base (3 + d + 1) "_law_breaker" (spBrk (d + 1)) [] := by
  refine mkFn T.fn_law_breaker sc_law_breaker (fun _ _ _ _ _ _ us hl => match us, hl with | [_, _, _, _, _], _ => rfl) (fun f cdv A outer s H vs Q E hr _ h => ?_)
  obtain ⟨h, dl, xs, L, sd, rfl, hh, hsd, q⟩ := h
  have ed : ((d + 1 : Nat) : Int) - 1 = (d : Int) := by omega
  refine ⟨_, (pss_cons (ps_set (i := 5) sc_law_breaker.nd rfl (by first | exact Or.inl rfl | exact Or.inr rfl) (C8.pe_c (c_law_take T) hr (by first | decide | omega) (by rfl) (pa_cons (pv 0) (pa_cons pe_int pa_nil))))
  (pss_cons (ps_if (PW.pt (pw_or (pt_cmpR op_eq (pv 1) pe_int (by rfl)) (pw_or1 (pt_cmpR op_eq (pv 5) pe_int (by rfl))))) (pss_cons (ps_set (i := 6) sc_law_breaker.nd rfl (by first | exact Or.inl rfl | exact Or.inr rfl) (pv 4))
  (pss_cons (ps_if (pt_cmpR op_eq (C8.pe_c (c_law_take T) hr (by first | decide | omega) (by rfl) (pa_cons (pv 0) (pa_cons pe_int pa_nil))) pe_int (by rfl)) (pss_one (ps_set (i := 6) sc_law_breaker.nd rfl (by first | exact Or.inl rfl | exact Or.inr rfl) (C8.pe_c (c_law_take T) hr (by first | decide | omega) (by rfl) (pa_cons (pv 0) (pa_cons pe_int pa_nil))))) pss_nil)
  (pss_one (ps_ret (pe_tup (pa_cons pe_str (pa_cons (C8.pe_c (c_law_parts T) hr (by first | decide | omega) (by rfl) (pa_cons (pv 0) (pa_cons (pv 6) pa_nil))) pa_nil))))))) pss_nil)
  (pss_cons (ps_if (PW.pt (pw_or (pt_cmpR op_lt (pv 5) pe_int (by rfl)) (pw_or1 (PW.pt (pw_and (pt_cmpR op_eq (pv 5) pe_int (by rfl)) (pw_and1 (pt_cmpR op_eq (pv 2) pe_int (by rfl)))))))) (pss_cons (ps_set (i := 7) sc_law_breaker.nd rfl (by first | exact Or.inl rfl | exact Or.inr rfl) (C8.pe_c hrec hr (by first | decide | omega) (by rfl) (pa_cons (pv 0) (pa_cons (pe_op op_sub (pv 1) pe_int) (pa_cons (pv 2) (pa_cons (pv 3) (pa_cons (pv 4) pa_nil)))))))
  (pss_one (ps_ret (pe_tup (pa_cons pe_str (pa_cons (C8.pe_c (c_law_take T) hr (by first | decide | omega) (by rfl) (pa_cons (pv 0) (pa_cons pe_int pa_nil))) (pa_cons (pv 7) (pa_cons (C8.pe_c hrec hr (by first | decide | omega) (by rfl) (pa_cons (pv 0) (pa_cons (pe_op op_sub (pv 1) pe_int) (pa_cons (pv 2) (pa_cons (pv 3) (pa_cons (pv 4) pa_nil)))))) pa_nil)))))))) pss_nil)
  (pss_cons (ps_if (pt_cmpR op_eq (pv 5) pe_int (by rfl)) (pss_cons (ps_set (i := 8) sc_law_breaker.nd rfl (by first | exact Or.inl rfl | exact Or.inr rfl) (pe_op op_add pe_int (C8.pe_c (c_law_take T) hr (by first | decide | omega) (by rfl) (pa_cons (pv 0) (pa_cons pe_int pa_nil)))))
  (pss_one (ps_ret (pe_tup (pa_cons pe_str (pa_cons (pe_callTy (tupK (K := K)) (by rfl) T.f_tuple bt_tuple (pa_cons (pe_lc (own := [("_law_k", 9)]) (by rfl) sc_law_breaker.nd (pi_range1 (by rfl) T.f_range (pa_cons (pv 8) pa_nil)) (blkOk_by (by rfl)) (fun _ _ _ _ _ => (pg_name (i := 9) sc_law_breaker.nd rfl (by first | exact Or.inl rfl | exact Or.inr rfl))) (fun _ _ _ _ _ => pts_nil) (fun _ _ _ _ _ => (C8.pe_c hrec hr (by first | decide | omega) (by rfl) (pa_cons (pv 0) (pa_cons (pe_op op_sub (pv 1) pe_int) (pa_cons (pv 2) (pa_cons (pv 3) (pa_cons (pv 4) pa_nil)))))))) pa_nil)) pa_nil)))))) pss_nil)
  (pss_cons (ps_if (pt_cmpR op_eq (pv 2) pe_int (by rfl)) (pss_one (ps_ret (pe_tup (pa_cons pe_str (pa_cons (C8.pe_c (c_law_parts T) hr (by first | decide | omega) (by rfl) (pa_cons (pv 0) (pa_cons (pv 4) pa_nil))) pa_nil))))) pss_nil)
  (pss_cons ps_never
  (pss_cons (ps_if (pt_cmpR op_eq (C8.pe_c (c_law_take T) hr (by first | decide | omega) (by rfl) (pa_cons (pv 0) (pa_cons pe_int pa_nil))) pe_int (by rfl)) (pss_one (ps_set (i := 6) sc_law_breaker.nd rfl (by first | exact Or.inl rfl | exact Or.inr rfl) (C8.pe_c (c_law_take T) hr (by first | decide | omega) (by rfl) (pa_cons (pv 0) (pa_cons pe_int pa_nil))))) pss_nil)
  (pss_one ps_never)))))))), ?_⟩
  walk_at "gof"
  refine ⟨h, dl, xs, 6, rfl, hh, by decide, by decide, fun r H1 hr1 x1 hh1 => ?_⟩
  walk_at "gof"
  refine ite_f (by simp; omega) ?_
  walk_at "gof"
  by_cases c0 : r = 0
  · refine ite_t (by simp; omega) ?_
    walk_at "gof"
    refine ⟨h, dl, xs, 9, rfl, hh1, by decide, by decide, fun r2 H2 hr2 x2 hh2 => ?_⟩
    walk_at "gof"
    have x12 := x1.trans x2
    by_cases c2 : r2 = 0
    · refine ite_t (by simp; omega) ?_
      walk_at "gof"
      refine ⟨h, dl, xs, 4, rfl, hh2, by decide, by decide, fun r3 H3 hr3 x3 hh3 => ?_⟩
      walk_at "gof"
      refine ⟨h, dl, xs, r3, rfl, hh3, by omega, fun v ps H4 hps hpg x4 hh4 hv => ?_⟩
      walk_at "gof"
      walk_at "new"; rename_i p np H5 s5 h5
      exact q (.ref p) (.say ps) H5 (.inl ⟨ps, rfl, by omega, hpg⟩) (((x12.trans x3).trans x4).trans (Ext.of s5)) (hh4.same s5) ⟨p, _, rfl, h5, _, _, rfl, rfl, _, _, rfl, hv.same s5, rfl⟩
    · refine ite_f (by simp; omega) ?_
      walk_at "gof"
      refine ⟨h, dl, xs, sd, rfl, hh2, hsd, fun v ps H4 hps hpg x4 hh4 hv => ?_⟩
      walk_at "gof"
      walk_at "new"; rename_i p np H5 s5 h5
      exact q (.ref p) (.say ps) H5 (.inl ⟨ps, rfl, by omega, hpg⟩) ((x12.trans x4).trans (Ext.of s5)) (hh4.same s5) ⟨p, _, rfl, h5, _, _, rfl, rfl, _, _, rfl, hv.same s5, rfl⟩
  refine ite_f (by simp; omega) ?_
  walk_at "gof"
  have look : r < 3 ∨ r = 5 → True := fun _ => trivial
  by_cases c3 : r < 3
  · refine ite_t (by simp; omega) ?_
    walk_at "gof"
    refine ⟨h, dl, xs, L, sd, by rw [ed]; rfl, hh1, hsd, fun v1 ba H2 lb1 x2 hh2 hv1 => ?_⟩
    walk_at "gof"
    refine ⟨h, dl, xs, 9, rfl, hh2, by decide, by decide, fun r3 H3 hr3 x3 hh3 => ?_⟩
    walk_at "gof"
    refine ⟨h, dl, xs, L, sd, by rw [ed]; rfl, hh3, hsd, fun v2 bb H4 lb2 x4 hh4 hv2 => ?_⟩
    walk_at "gof"
    walk_at "new"; rename_i p np H5 s5 h5
    exact q (.ref p) (.look r3 ba bb) H5 (.inr (.inl ⟨r3, ba, bb, rfl, by omega, lb1, lb2⟩)) ((((x1.trans x2).trans x3).trans x4).trans (Ext.of s5)) (hh4.same s5) ⟨p, _, rfl, h5, _, _, rfl, rfl, _, _, rfl, rfl, _, _, rfl, Td.same s5 (Td.ext (x3.trans x4) hv1), _, _, rfl, hv2.same s5, rfl⟩
  refine ite_f (by simp; omega) ?_
  walk_at "gof"
  by_cases c5 : r = 5
  · refine ite_t (by rw [decide_eq_true_eq]; omega) ?_
    walk_at "gof"
    walk_at "ift"
    refine ⟨h, dl, xs, L, sd, by rw [ed]; rfl, hh1, hsd, fun v1 ba H2 lb1 x2 hh2 hv1 => ?_⟩
    walk_at "gof"
    refine ⟨h, dl, xs, 9, rfl, hh2, by decide, by decide, fun r3 H3 hr3 x3 hh3 => ?_⟩
    walk_at "gof"
    refine ⟨h, dl, xs, L, sd, by rw [ed]; rfl, hh3, hsd, fun v2 bb H4 lb2 x4 hh4 hv2 => ?_⟩
    walk_at "gof"
    walk_at "new"; rename_i p np H5 s5 h5
    exact q (.ref p) (.look r3 ba bb) H5 (.inr (.inl ⟨r3, ba, bb, rfl, by omega, lb1, lb2⟩)) ((((x1.trans x2).trans x3).trans x4).trans (Ext.of s5)) (hh4.same s5) ⟨p, _, rfl, h5, _, _, rfl, rfl, _, _, rfl, rfl, _, _, rfl, Td.same s5 (Td.ext (x3.trans x4) hv1), _, _, rfl, hv2.same s5, rfl⟩
  refine ite_f (by simp; omega) ?_
  walk_at "gof"
  by_cases c3' : r = 3
  · refine ite_t (by simp; omega) ?_
    walk_at "gof"
    refine ⟨h, dl, xs, 3, rfl, hh1, by decide, by decide, fun r3 H3 hr3 x3 hh3 => ?_⟩
    walk_at "gof"
    obtain ⟨ne, hdl, hx, at_, hhd⟩ := id hh3
    refine ⟨by omega, by omega, fun B nB => ?_⟩
    rw [show (1 + (r3 : Int)).toNat = r3 + 1 by omega]
    have b1 : h ≠ B := fun z => by rw [← z, hhd] at nB; cases nB
    have b2 : dl ≠ B := fun z => by rw [← z, hdl] at nB; cases nB
    refine lc_it walk_range (fun i H4 => ∃ bs : List Br, ∃ us, bs.length = i ∧ (∀ b ∈ bs, LawBr d b) ∧ Ext [h] H3 H4 ∧ HandR h dl xs H4 ∧ H4 B = some (.lst us) ∧ TdL H4 (bs.map encB) us) ⟨[], [], rfl, by simp, (Ext.refl H3).putNew nB, hh3.upd b1 b2, upd_same, rfl⟩ (fun _ _ _ _ => trivial) (fun i x H4 H5 hi hp hy => ?_) (fun H4 hp => ?_)
    · obtain ⟨bs, us, hs, hlb, x4, hh4, hB, hus⟩ := hp
      obtain ⟨rfl, hx⟩ := hy
      subst hx
      walk_at "gof"
      refine ⟨rfl, ?_⟩
      walk_at "gof"
      refine ⟨h, dl, xs, L, sd, by rw [ed]; rfl, hh4, hsd, fun v1 b1' H6 lb1 x6 hh6 hv1 => ?_⟩
      have hB6 := x6.keep _ _ (by simpa using Ne.symm b1) hB
      have xB : Ext [B] H6 (upd H6 B (.lst (us ++ [v1]))) := Ext.put (by simp) hB6 (by intro xs z; cases z)
      refine ⟨us, hB6, smallL (by rw [hus.len, List.length_map]; omega), bs ++ [b1'], us ++ [v1], by simp [hs], fun b hb => ?_, (x4.trans x6).putNew nB, hh6.upd b1 b2, upd_same, ?_⟩
      · rcases List.mem_append.mp hb with z | z
        · exact hlb b z
        · rw [List.mem_singleton.mp z]; exact lb1
      · rw [List.map_append]
        exact TdL.snoc (TdL.ext xB (TdL.ext x6 hus)) (Td.ext xB hv1)
    · obtain ⟨bs, us, hs, hlb, x4, hh4, hB, hus⟩ := hp
      walk_at "gof"
      refine ⟨B, _, rfl, .inl ⟨SqL.of hB, fun t nt => ?_⟩⟩
      generalize e3 : upd H4 t _ = H5
      obtain ⟨s5, ht⟩ := newE2 e3 nt
      walk_at "gof"
      walk_at "new"; rename_i p np H6 s6 h6
      exact q (.ref p) (.toss bs) H6 (.inr (.inr ⟨bs, rfl, by omega, by omega, hlb⟩)) (((x1.trans x3).trans x4).trans (Ext.of (s5.trans s6))) (hh4.same (s5.trans s6)) ⟨p, _, rfl, h6, _, _, rfl, rfl, _, _, rfl, ⟨t, _, rfl, s6 _ _ ht, by rw [encBs_eq]; exact TdL.same (s5.trans s6) hus⟩, rfl⟩
  refine ite_f (by simp; omega) ?_
  walk_at "gof"
  walk_at "ift"
  refine ⟨h, dl, xs, sd, rfl, hh1, hsd, fun v ps H4 hps hpg x4 hh4 hv => ?_⟩
  walk_at "gof"
  walk_at "new"; rename_i p np H5 s5 h5
  exact q (.ref p) (.say ps) H5 (.inl ⟨ps, rfl, by omega, hpg⟩) ((x1.trans x4).trans (Ext.of s5)) (hh4.same s5) ⟨p, _, rfl, h5, _, _, rfl, rfl, _, _, rfl, hv.same s5, rfl⟩
end
/-! Part A42: the law's draws. -/
open PySem PySem.Spec PyProof.Rows L2
theorem sqL_same {K : PySem.W.Frag} {H H' : Hp} {a : Addr} {xs : List V} (h : SqL K H a xs) (e : Same H H') : SqL K H' a xs :=
  h.elim (fun h => .inl (h.elim (fun h => .inl (e _ _ h)) fun ⟨o, h⟩ => .inr ⟨o, e _ _ h⟩)) fun h => .inr h
theorem r_ixSq {K : PySem.W.Frag} {H : Hp} {Q : VK} {a : Addr} {xs : List V} {i : Int} {u : V} (hi : 0 ≤ i) (h : SqL K H a xs) (e : xs[i.toNat]? = some u) (q : Q u H) : rIx K (.ref a) (.int i) H Q :=
  .inl ⟨a, xs, _, u, rfl, rfl, h, by rw [show i = ((i.toNat : Nat) : Int) by omega]; exact atI_nat (by simpa using e), q⟩
/-- where the loop stands -/
def LDI (k : Nat) (a B p : Addr) (n i : Nat) (H : Hp) (σ : L2.St) (H4 : Hp) : Prop := ∃ y2 y5 y6 y7, ∃ xs rs : List Int, σ = [some (.ref a), some (.int k), y2, some (.ref B), some (.ref p), y5, y6, y7] ∧ Same H H4 ∧ H4 B = some (.lst (rs.map V.int)) ∧ rs.length = n ∧ H4 p = some (.lst (xs.map V.int)) ∧ xs.length = i ∧ ∀ x ∈ xs, 0 ≤ x
theorem LDI.fin {k n i : Nat} {a B p : Addr} {H H5 : Hp} {y2 y5 y6 y7 : Option V} {xs rs : List Int} {v : Int} (hxs : xs.length = i) (hpos : ∀ x ∈ xs, 0 ≤ x) (hv : 0 ≤ v) (hl : rs.length = n) (s : Same H H5) (hB : H5 B = some (.lst (rs.map V.int))) (hp : H5 p = some (.lst ((xs.map V.int) ++ [.int v]))) :
    LDI k a B p n (i + 1) H [some (.ref a), some (.int k), y2, some (.ref B), some (.ref p), y5, y6, y7] H5 := by
  refine ⟨_, _, _, _, xs ++ [v], rs, rfl, s, hB, hl, by rw [hp, List.map_append]; rfl, by simp [hxs], fun x hx => ?_⟩
  rcases List.mem_append.mp hx with z | z
  · exact hpos x z
  · rw [List.mem_singleton.mp z]; exact hv
theorem LDI.fin2 {k n i : Nat} {a B p : Addr} {H H4 : Hp} {y2 y5 y6 y7 : Option V} {xs rs : List Int} {v : Int} (hxs : xs.length = i) (hpos : ∀ x ∈ xs, 0 ≤ x) (hv : 0 ≤ v) (hl : rs.length = n) (s : Same H H4) (hB : H4 B = some (.lst (rs.map V.int))) (np : H p = none) (pB : p ≠ B) :
    LDI k a B p n (i + 1) H [some (.ref a), some (.int k), y2, some (.ref B), some (.ref p), y5, y6, y7] (upd H4 p (.lst ((xs.map V.int) ++ [.int v]))) :=
  LDI.fin hxs hpos hv hl (fun b o e => by rw [upd_ne (ne_of_none e np)]; exact s b o e) (by rw [upd_ne (Ne.symm pB)]; exact hB) upd_same
section
variable {P : Program} {w : World} {K : PySem.W.Frag} {mg : Str → Option Value} {base : Heap}
theorem c_law_draws (T : Tx w K mg) : C8.Cal P w K mg base 1 "_law_draws" (spN 2 fun vs H Q _ => ∃ a ns, ∃ k : Nat, vs = [.ref a, .int k] ∧ SqL K H a (List.map V.int ns) ∧ ns.length ≤ 63 ∧ k ≤ 1000 ∧ ∀ p xs H', Same H H' → H p = none → H' p = some (.lst (List.map V.int xs)) → (∀ x ∈ xs, 0 ≤ x) → Q (.ref p) H') [] := by
  refine mkFn T.fn_law_draws sc_law_draws (fun _ _ _ _ _ _ us hl => match us, hl with | [_, _], _ => rfl) (fun f cdv A outer s H vs Q E hr _ h => ?_)
  obtain ⟨a, ns, k, rfl, ha, hn, hk, q⟩ := h
  refine ⟨_, (pss_cons (ps_setLc (i := 3) (own := [("_law_cell", 2)]) (by rfl) sc_law_draws.nd rfl rfl (sw_true rfl rfl rfl (by decide +kernel)) (piLK (K := K) (pv 0)) (blkOk_by (by rfl)) (fun _ _ _ _ _ => (pg_name (i := 2) sc_law_draws.nd rfl (by first | exact Or.inl rfl | exact Or.inr rfl))) (fun _ _ _ _ _ => pts_nil) (fun _ _ _ _ _ => (pe_callB (call_abs) (by rfl) T.f_abs bt_abs (pa_cons (pe_callTy call_int1 (by rfl) T.f_int bt_int (pa_cons (pv 2) pa_nil)) pa_nil))))
  (pss_cons (ps_set (i := 4) sc_law_draws.nd rfl (by first | exact Or.inl rfl | exact Or.inr rfl) (pe_lst pa_nil))
  (pss_cons (ps_for PassesOwn.never rfl (pi_range1 (by rfl) T.f_range (pa_cons (pv 1) pa_nil)) (pg_name (i := 5) sc_law_draws.nd rfl (by first | exact Or.inl rfl | exact Or.inr rfl)) (pss_cons (ps_set (i := 2) sc_law_draws.nd rfl (by first | exact Or.inl rfl | exact Or.inr rfl) (pv 5))
  (pss_cons (ps_if (pt_cmpR op_gt (pe_callB (lenK (K := K)) (by rfl) T.f_len bt_len (pa_cons (pv 0) pa_nil)) pe_int (by rfl)) (pss_cons (ps_set (i := 6) sc_law_draws.nd rfl (by first | exact Or.inl rfl | exact Or.inr rfl) (pe_op op_mod (pv 5) (pe_callB (lenK (K := K)) (by rfl) T.f_len bt_len (pa_cons (pv 0) pa_nil))))
  (pss_cons (ps_set (i := 2) sc_law_draws.nd rfl (by first | exact Or.inl rfl | exact Or.inr rfl) (pe_callTy call_int1 (by rfl) T.f_int bt_int (pa_cons (pe_ix (ixK (K := K)) (pv 0) (pv 6) (fun _ _ => rfl)) pa_nil)))
  (pss_one (ps_if (PW.pt (pw_and (pt_cmpR op_ge (pv 2) (pe_op op_pow pe_int pe_int) (by rfl)) (pw_and1 (pt_cmpR op_gt (pe_ix (ixK (K := K)) (pv 3) (pv 6) (fun _ _ => rfl)) pe_int (by rfl))))) (pss_cons (ps_expr (bmK (K := K) PySem.F.plainAttrs_list PySem.F.slot_list_append PySem.F.type_list_append mt_append (pv 4) (pa_cons (pe_op op_mod (pe_callTy call_int1 (by rfl) T.f_int bt_int (pa_cons (pe_ix (ixK (K := K)) (pv 3) (pv 6) (fun _ _ => rfl)) pa_nil)) pe_int) pa_nil)))
  (pss_cons (ps_asg (pe_op op_fdiv (pe_callTy call_int1 (by rfl) T.f_int bt_int (pa_cons (pe_ix (ixK (K := K)) (pv 3) (pv 6) (fun _ _ => rfl)) pa_nil)) pe_int) (pg_sub (pv 3) (pv 6) set_list))
  (pss_one ps_continue))) pss_nil)))) pss_nil)
  (pss_cons (ps_set (i := 7) sc_law_draws.nd rfl (by first | exact Or.inl rfl | exact Or.inr rfl) (pe_op op_mod (pe_callTy call_int1 (by rfl) T.f_int bt_int (pa_cons (pe_op op_add (pe_op op_add (pe_op op_mul (pv 2) pe_int) (pe_op op_mul (pv 5) pe_int)) pe_int) pa_nil)) pe_int))
  (pss_cons (ps_set (i := 7) sc_law_draws.nd rfl (by first | exact Or.inl rfl | exact Or.inr rfl) (pe_op op_mod (pe_callTy call_int1 (by rfl) T.f_int bt_int (pa_cons (pe_op op_add (pe_op op_fdiv (pe_op op_mul (pv 7) (pv 7)) pe_int) (pv 7)) pa_nil)) pe_int))
  (pss_one (ps_expr (bmK (K := K) PySem.F.plainAttrs_list PySem.F.slot_list_append PySem.F.type_list_append mt_append (pv 4) (pa_cons (pe_op op_mod (pe_callTy call_int1 (by rfl) T.f_int bt_int (pa_cons (pe_op op_add (pe_op op_fdiv (pe_op op_mul (pv 7) (pv 7)) pe_int) (pe_op op_mul (pv 5) pe_int)) pa_nil)) pe_int) pa_nil)))))))))
  (pss_one (ps_ret (pv 4)))))), ?_⟩
  walk_at "gof"
  refine ⟨a, rfl, ⟨_, ha⟩, fun B nB => ?_⟩
  refine lc_it (walk_list (xs := ns.map V.int)) (fun i H2 => Same H H2 ∧ H2 B = some (.lst (((ns.take i).map fun z : Int => if z < 0 then -z else z).map V.int))) ⟨same_upd nB, upd_same⟩ (fun _ _ _ hp => sqL_same ha hp.1) (fun i x H2 H3 hi hp hy => ?_) (fun H2 hp => ?_)
  · obtain ⟨s2, h2⟩ := hp
    obtain ⟨rfl, hx⟩ := hy
    rw [List.length_map] at hi
    rw [List.getElem?_map, List.getElem?_eq_getElem hi] at hx
    obtain rfl := Option.some.inj hx
    walk_at "gof"
    refine ⟨rfl, ?_⟩
    walk_at "gof"
    refine ⟨_, h2, smallL (by simp; omega), s2.putNew nB, ?_⟩
    rw [upd_same, List.take_add_one, List.getElem?_eq_getElem hi]
    simp only [List.map_append]
    rfl
  obtain ⟨s2, h2⟩ := hp
  rw [List.length_map, List.take_length] at h2
  have hr0 : ((ns.map fun z : Int => if z < 0 then -z else z)).length = ns.length := by rw [List.length_map]
  generalize (ns.map fun z : Int => if z < 0 then -z else z) = rs0 at h2 hr0
  walk_at "gof"
  walk_at "new"; rename_i p np H3 s3 h3
  walk_at "gof"
  walk_at "rng"
  have hB3 := s3 _ _ h2
  have pB : p ≠ B := fun z => by rw [z, h2] at np; cases np
  have nB3 : H p = none := noneS s2 np
  refine for_it walk_range (fun i σ H4 => LDI k a B p ns.length i H σ H4)
    ⟨none, none, none, none, [], rs0, rfl, s2.trans s3, hB3, hr0, h3, rfl, by simp⟩ (fun _ _ _ _ _ => trivial) (fun i x σ H4 H5 hi hp hy => ?_) (fun σ H4 hp => ?_)
  · obtain ⟨y2, y5, y6, y7, xs, rs, rfl, s4, h4, hrs, hp4, hxs, hpos⟩ := hp
    obtain ⟨rfl, hx⟩ := hy
    have hx : x = .int (i : Nat) := by rw [hx]; simp
    subst hx
    have ha4 := sqL_same ha s4
    walk_at "gof"
    refine ⟨_, _, rfl, .inl ⟨_, ha4, rfl⟩, ?_⟩
    walk_at "gof"
    rw [List.length_map]
    by_cases c0 : 0 < ns.length
    · refine ite_t (by simp; omega) ?_
      walk_at "gof"
      refine ⟨_, _, rfl, .inl ⟨_, ha4, rfl⟩, ?_⟩
      rw [List.length_map]
      refine r_I (by omega) ?_
      have hat : i % ns.length < ns.length := Nat.mod_lt _ c0
      rw [← Int.natCast_emod]
      generalize i % ns.length = at_ at hat
      walk_at "gof"
      refine r_ixSq (Int.natCast_nonneg _) ha4 (by rw [Int.toNat_natCast, List.getElem?_map, List.getElem?_eq_getElem hat]; rfl) ?_
      walk_at "gof"
      have hat2 : at_ < rs.length := by omega
      have key : ∀ (z : Int) (y6 : Option V) (Q : Prop), True := fun _ _ _ => trivial
      by_cases c1 : (10 : Int) ^ (18 : Int).toNat ≤ ns[at_]
      · refine ite_t (by simpa using c1) ?_
        walk_at "gof"
        refine r_ixL (Int.natCast_nonneg _) h4 (by rw [Int.toNat_natCast, List.getElem?_map, List.getElem?_eq_getElem hat2]; rfl) ?_
        walk_at "gof"
        by_cases c2 : 0 < rs[at_]
        · refine ite_t (by simpa using c2) ?_
          walk_at "gof"
          refine r_ixL (Int.natCast_nonneg _) h4 (by rw [Int.toNat_natCast, List.getElem?_map, List.getElem?_eq_getElem hat2]; rfl) ?_
          walk_at "gof"
          refine r_app hp4 (by rw [List.length_map]; omega) ?_
          have hB5 : (upd H5 p (.lst ((xs.map V.int) ++ [.int (rs[at_] % 1000003)]))) B = some (.lst (rs.map V.int)) := by rw [upd_ne (Ne.symm pB)]; exact h4
          have s5 : Same H (upd H5 p (.lst ((xs.map V.int) ++ [.int (rs[at_] % 1000003)]))) := fun b o e => by rw [upd_ne (ne_of_none e nB3)]; exact s4 b o e
          have hp5 : (upd H5 p (.lst ((xs.map V.int) ++ [.int (rs[at_] % 1000003)]))) p = some (.lst ((xs.map V.int) ++ [.int (rs[at_] % 1000003)])) := upd_same
          generalize upd H5 p _ = H6 at hB5 s5 hp5
          walk_at "gof"
          refine r_ixL (Int.natCast_nonneg _) hB5 (by rw [Int.toNat_natCast, List.getElem?_map, List.getElem?_eq_getElem hat2]; rfl) ?_
          walk_at "gof"
          refine r_gSub ?_
          walk_at "gof"
          refine ⟨B, _, at_, at_, rfl, rfl, hB5, ?_, ?_⟩
          · unfold ixN; rw [List.length_map]; simp; omega
          · walk_at "gof"
            refine LDI.fin (v := rs[at_] % 1000003) (rs := rs.set at_ (rs[at_] / 1000003)) hxs hpos (Int.emod_nonneg _ (by decide)) (by rw [List.length_set]; exact hrs) (s5.putNew nB) ?_ (by rw [upd_ne pB]; exact hp5)
            rw [upd_same, List.map_set]
        · refine ite_f (by simpa using c2) ?_
          walk_at "gof"
          refine r_app hp4 (by rw [List.length_map]; omega) ?_
          walk_at "gof"
          exact LDI.fin2 hxs hpos (Int.emod_nonneg _ (by decide)) hrs s4 h4 nB3 pB
      · refine ite_f (by simpa using c1) ?_
        walk_at "gof"
        refine r_app hp4 (by rw [List.length_map]; omega) ?_
        walk_at "gof"
        exact LDI.fin2 hxs hpos (Int.emod_nonneg _ (by decide)) hrs s4 h4 nB3 pB
    · refine ite_f (by rw [decide_eq_true_eq]; omega) ?_
      walk_at "gof"
      refine r_app hp4 (by rw [List.length_map]; omega) ?_
      walk_at "gof"
      exact LDI.fin2 hxs hpos (Int.emod_nonneg _ (by decide)) hrs s4 h4 nB3 pB
  · obtain ⟨y2, y5, y6, y7, xs, rs, rfl, s4, h4, hrs, hp4, hxs, hpos⟩ := hp
    walk_at "gof"
    exact q p xs H4 s4 nB3 hp4 hpos
end
/-! Part 5: calls whose promise is told when they come. -/
open PySem PySem.Spec PyProof.Rows L2
def tCallL (P : Program) (w : World) (K : PySem.W.Frag) (mg : Str → Option Value) (base : Heap) (k : Nat) (x : Str) (t : TA) : TE := fun σ H Q => t σ H fun vs H1 => ∃ sp dvs, C8.Cal P w K mg base k x sp dvs ∧ sp (vs ++ dvs) H1 Q E0
def tKwL (P : Program) (w : World) (K : PySem.W.Frag) (mg : Str → Option Value) (base : Heap) (k : Nat) (x : Str) (n : Nat) (ks : List Str) (t tk : TA) : TE := fun σ H Q => t σ H fun vs H1 => tk σ H1 fun zs H2 => ∃ sp, CalN P w K mg base k x n ks sp ∧ vs.length = n ∧ zs.length = ks.length ∧ sp (vs ++ zs) H2 Q E0
/-- where a def stands -/
def At (K : PySem.W.Frag) (mg : Str → Option Value) (x : Str) : Prop := ∃ f, mg x = some (.ref f) ∧ PySem.W.keepIn K (.ref f) = true
theorem FnF.at_ {K : PySem.W.Frag} {mg : Str → Option Value} {x nm : Str} {st : Stmt} {kws : List (Str × V)} (F : FnF K mg x nm st kws) : At K mg x := by
  obtain ⟨f, fd, D, hm⟩ := F.ex
  exact ⟨f, hm, D.kp⟩
section
variable {X : Cx} {P : Program} {w : World} {K : PySem.W.Frag} {mg : Str → Option Value} {base : Heap} {k j n : Nat} {e : Expr} {es : List Expr} {t tk : TA} {pos p : Pos} {x : Str} {ks : List Str} {kws : List Keyword}
theorem pe_cL (A : At K mg x) (hr : Room j X.A) (hk : k ≤ j) (hg : Gl X x) (ha : PA X (e :: es) t)
    (hdb : (x == ("__debug__" : Str)) = false := by decide) (he : starEach (e :: es) X.env = (false, eval e X.env) :: starEach es X.env := by rfl) (hpl : (backTo pos (starEach es X.env)).any (·.1) = false := by rfl)
    (hX : X.prog = P ∧ X.w = w ∧ X.K = K ∧ X.mg = mg ∧ X.base = base := by exact ⟨rfl, rfl, rfl, rfl, rfl⟩) : PE X (.Call (.Name x p) (e :: es) [] pos) (tCallL P w K mg base k x t) := by
  obtain ⟨rfl, rfl, rfl, rfl, rfl⟩ := hX
  obtain ⟨f, hm, kp⟩ := A
  refine ⟨fun pins s σ H Q I h => ?_⟩
  refine wpAny_Call_Name_kw (ld_glob I hg hm ?_ hdb)
  refine PySem.W.callWith_K (h₀ := X.base) I.ok.mod.kin kp (thn (ha.run pos pins s σ H _ I h) fun us s1 ⟨vs, H1, I1, r, sp, dvs, c, q⟩ => ⟨I1.kIn, ?_⟩) he hpl
  obtain ⟨f', fd, ps, ds, F, hm', _, b, d⟩ := c.ex
  obtain rfl : f = f' := by
    rw [hm] at hm'
    cases hm'
    rfl
  exact run_fn F (hr.mono hk) b d pass0 I1 r q
theorem pe_kwL (A : At K mg x) (hr : Room j X.A) (hk : k ≤ j) (hg : Gl X x) (ha : PA X (e :: es) t) (hkw : PK X kws tk)
    (hall : (backToKw pos (keywordEach kws X.env)).all (·.1.isSome) = true := by rfl) (hks : (backToKw pos (keywordEach kws X.env)).filterMap (·.1) = ks := by rfl)
    (hdb : (x == ("__debug__" : Str)) = false := by decide) (he : starEach (e :: es) X.env = (false, eval e X.env) :: starEach es X.env := by rfl)
    (hpl : ((backTo pos (starEach (e :: es) X.env)).any (·.1) || (backToKw pos (keywordEach kws X.env)).any (·.1.isNone)) = false := by rfl)
    (hX : X.prog = P ∧ X.w = w ∧ X.K = K ∧ X.mg = mg ∧ X.base = base := by exact ⟨rfl, rfl, rfl, rfl, rfl⟩) :
    PE X (.Call (.Name x p) (e :: es) kws pos) (tKwL P w K mg base k x n ks t tk) := by
  obtain ⟨rfl, rfl, rfl, rfl, rfl⟩ := hX
  obtain ⟨f, hm, kp⟩ := A
  refine ⟨fun pins s σ H Q I h => ?_⟩
  refine wpAny_Call_Name_kw (ld_glob I hg hm ?_ hdb)
  refine PySem.W.callWith_KW (h₀ := X.base) I.ok.mod.kin kp hall (thn (ha.run pos pins s σ H _ I h) fun us s1 ⟨vs, H1, I1, r, q⟩ => ?_) hpl he
  refine thn (hkw.run pos pins s1 σ H1 _ I1 q) fun ws s2 ⟨zs, H2, I2, rz, sp, c, l1, l2, q2⟩ => ⟨I2.kIn, ?_⟩
  rw [hks]
  obtain ⟨f', fd, ps, F, hm', _, b⟩ := c.ex
  obtain rfl : f = f' := by
    rw [hm] at hm'
    cases hm'
    rfl
  exact run_fnN F (hr.mono hk) b pass0 I2 r rz l1 l2 q2
end
section
variable {P : Program} {w : World} {K : PySem.W.Frag} {mg : Str → Option Value} {base : Heap} {k n : Nat} {x : Str} {ks : List Str} {σ : L2.St} {H : Hp} {Q : VK} {t tk : TA}
theorem r_callL (h : t σ H fun vs H1 => ∃ sp dvs, C8.Cal P w K mg base k x sp dvs ∧ sp (vs ++ dvs) H1 Q E0) : tCallL P w K mg base k x t σ H Q := h
theorem r_kwL (h : t σ H fun vs H1 => tk σ H1 fun zs H2 => ∃ sp, CalN P w K mg base k x n ks sp ∧ vs.length = n ∧ zs.length = ks.length ∧ sp (vs ++ zs) H2 Q E0) : tKwL P w K mg base k x n ks t tk σ H Q := h
theorem cal_mono {P : Program} {w : World} {K : PySem.W.Frag} {mg : Str → Option Value} {base : Heap} {j k : Nat} {x : Str} {sp : Sp} {dvs : List V} (c : C8.Cal P w K mg base j x sp dvs) (h : j ≤ k) : C8.Cal P w K mg base k x sp dvs := by
  obtain ⟨f, fd, ps, ds, F, hm, kp, b, d⟩ := c.ex
  exact ⟨f, fd, ps, ds, F.mono h, hm, kp, b, d⟩
theorem calN_mono {P : Program} {w : World} {K : PySem.W.Frag} {mg : Str → Option Value} {base : Heap} {j k n : Nat} {x : Str} {ks : List Str} {sp : Sp} (c : CalN P w K mg base j x n ks sp) (h : j ≤ k) : CalN P w K mg base k x n ks sp := by
  obtain ⟨f, fd, ps, F, hm, kp, b⟩ := c.ex
  exact ⟨f, fd, ps, F.mono h, hm, kp, b⟩
end
namespace Dr
variable {α β : Type}
theorem sumR_add (f g : Nat → Rat) : ∀ l : List Nat, sumR (l.map fun i => f i + g i) = sumR (l.map f) + sumR (l.map g)
  | [] => by simp [sumR, Rat.add_zero]
  | x :: r => by simp only [List.map_cons, sumR]; rw [sumR_add f g r]; grind
theorem sumR_smul (c : Rat) (f : Nat → Rat) : ∀ l : List Nat, sumR (l.map fun i => c * f i) = c * sumR (l.map f)
  | [] => by simp [sumR, Rat.mul_zero]
  | x :: r => by simp only [List.map_cons, sumR]; rw [sumR_smul c f r]; grind
theorem sumR_const (c : Rat) : ∀ l : List Nat, sumR (l.map fun _ => c) = (l.length : Rat) * c
  | [] => by simp [sumR]
  | x :: r => by simp only [List.map_cons, sumR, List.length_cons]; rw [sumR_const c r, Rat.natCast_add]; grind
theorem sumR_congr {f g : Nat → Rat} {l : List Nat} (h : ∀ i ∈ l, f i = g i) : sumR (l.map f) = sumR (l.map g) := by rw [List.map_congr_left h]
theorem ex_add (f g : α → Rat) : ∀ t : Dr α, ex t (fun a => f a + g a) = ex t f + ex t g
  | ret a => rfl
  | draw m k => by
    simp only [ex]
    rw [sumR_congr (g := fun i => ex (k i) f + ex (k i) g) (fun i _ => ex_add f g (k i)), sumR_add]; grind
theorem ex_smul (c : Rat) (f : α → Rat) : ∀ t : Dr α, ex t (fun a => c * f a) = c * ex t f
  | ret a => rfl
  | draw m k => by
    simp only [ex]
    rw [sumR_congr (g := fun i => c * ex (k i) f) (fun i _ => ex_smul c f (k i)), sumR_smul]; grind
theorem ex_sub (f g : α → Rat) (t : Dr α) : ex t (fun a => f a - g a) = ex t f - ex t g := by
  have h : (fun a => f a - g a) = fun a => f a + (-1) * g a := by funext a; grind
  rw [h, ex_add, ex_smul]; grind
theorem ex_sum (f : Nat → α → Rat) (t : Dr α) : ∀ l : List Nat, ex t (fun a => sumR (l.map fun i => f i a)) = sumR (l.map fun i => ex t (f i))
  | [] => by
    have := ex_smul 0 (fun _ => (0 : Rat)) t
    simp only [List.map_nil, sumR]
    have e : (fun _ : α => (0 : Rat)) = fun _ => 0 * 0 := by funext _; grind
    rw [e, this]; grind
  | x :: r => by simp only [List.map_cons, sumR]; rw [ex_add, ex_sum f t r]
/-- draws change places -/
theorem ex_comm (f : α → β → Rat) (u : Dr β) : ∀ t : Dr α, ex t (fun a => ex u (fun b => f a b)) = ex u (fun b => ex t (fun a => f a b))
  | ret a => rfl
  | draw m k => by
    simp only [ex]
    rw [sumR_congr (g := fun i => ex u (fun b => ex (k i) fun a => f a b)) (fun i _ => ex_comm f u (k i)), ex_smul, ex_sum]
/-- every number drawn is not 0 -/
def Pos : Dr α → Prop
  | ret _ => True
  | draw m k => 0 < m ∧ ∀ i, i < m → Pos (k i)
theorem ex_const (c : Rat) : ∀ t : Dr α, Pos t → ex t (fun _ => c) = c
  | ret a, _ => rfl
  | draw m k, h => by
    obtain ⟨h1, h2⟩ := h
    simp only [ex]
    rw [sumR_congr (g := fun _ => c) (fun i hi => ex_const c (k i) (h2 i (List.mem_range.mp hi))), sumR_const, List.length_range]
    have : (m : Rat) ≠ 0 := by
      intro z
      have := Rat.natCast_eq_zero_iff.mp z
      omega
    grind
end Dr
open Dr (ex sumR prob boolR)
/-- any string of n bits -/
def U (n : Nat) (f : Bs → Rat) : Rat := ex (strD n) f
theorem U_eq (n : Nat) (f : Bs → Rat) : U n f = (1 / ((2 ^ n : Nat) : Rat)) * sumR ((List.range (2 ^ n)).map fun i => f (bitsL n i)) := rfl
theorem U_ex {α : Type} (n : Nat) (g : Bs → Dr α) (f : α → Rat) : ex ((strD n).bind g) f = U n fun s => ex (g s) f := Dr.ex_bind ..
theorem U_zero (f : Bs → Rat) : U 0 f = f [] := by
  rw [U_eq]
  have : List.range (2 ^ 0) = [0] := rfl
  rw [this]
  simp only [List.map_cons, List.map_nil, sumR, bitsL, bitsR, List.reverse_nil]
  grind
theorem bitsR_add : ∀ n v : Nat, bitsR n (v + 2 ^ n) = bitsR n v
  | 0, v => rfl
  | n + 1, v => by
    have e1 : (v + 2 ^ (n + 1)) % 2 = v % 2 := by rw [Nat.pow_succ]; omega
    have e2 : (v + 2 ^ (n + 1)) / 2 = v / 2 + 2 ^ n := by rw [Nat.pow_succ]; omega
    rw [bitsR, bitsR, e1, e2, bitsR_add n]
theorem bitsL_succ (n v : Nat) : bitsL (n + 1) v = (v / 2 ^ n % 2 == 1) :: bitsL n v := by
  rw [bitsL, bitsR_snoc, List.reverse_append]; rfl
theorem U_succ (n : Nat) (f : Bs → Rat) : U (n + 1) f = (1 / 2) * (U n (fun s => f (false :: s)) + U n (fun s => f (true :: s))) := by
  have hp : 0 < 2 ^ n := Nat.pow_pos (by decide)
  have er : List.range (2 ^ (n + 1)) = List.range (2 ^ n) ++ (List.range (2 ^ n)).map fun i => i + 2 ^ n := by
    rw [Nat.pow_succ, Nat.mul_two, List.range_add]
    congr 1
    refine List.map_congr_left fun i _ => by omega
  rw [U_eq, U_eq, U_eq, er, List.map_append, Dr.sumR_append, List.map_map]
  have e1 : (List.range (2 ^ n)).map (fun i => f (bitsL (n + 1) i)) = (List.range (2 ^ n)).map fun i => f (false :: bitsL n i) := by
    refine List.map_congr_left fun i hi => ?_
    rw [bitsL_succ, Nat.div_eq_of_lt (List.mem_range.mp hi)]; rfl
  have e2 : (List.range (2 ^ n)).map ((fun i => f (bitsL (n + 1) i)) ∘ fun i => i + 2 ^ n) = (List.range (2 ^ n)).map fun i => f (true :: bitsL n i) := by
    refine List.map_congr_left fun i hi => ?_
    simp only [Function.comp]
    have h1 : (i + 2 ^ n) / 2 ^ n = 1 := by rw [Nat.add_div_right _ hp, Nat.div_eq_of_lt (List.mem_range.mp hi)]
    rw [bitsL_succ, h1, show bitsL n (i + 2 ^ n) = bitsL n i by rw [bitsL, bitsR_add]; rfl]; rfl
  rw [e1, e2, Nat.pow_succ, Rat.natCast_mul]
  have : ((2 : Nat) : Rat) = 2 := rfl
  grind
theorem U_congr : ∀ {n : Nat} {f g : Bs → Rat}, (∀ s, s.length = n → f s = g s) → U n f = U n g := by
  intro n f g h
  rw [U_eq, U_eq]
  congr 1
  exact Dr.sumR_congr fun i _ => h _ (bitsL_len n i)
theorem U_const (n : Nat) (c : Rat) : U n (fun _ => c) = c := Dr.ex_const c (strD n) ⟨Nat.pow_pos (by decide), fun _ _ => trivial⟩
theorem U_add (n : Nat) (f g : Bs → Rat) : U n (fun s => f s + g s) = U n f + U n g := Dr.ex_add ..
theorem U_sub (n : Nat) (f g : Bs → Rat) : U n (fun s => f s - g s) = U n f - U n g := Dr.ex_sub ..
theorem U_smul (n : Nat) (c : Rat) (f : Bs → Rat) : U n (fun s => c * f s) = c * U n f := Dr.ex_smul ..
theorem U_comm (n m : Nat) (f : Bs → Bs → Rat) : U n (fun s => U m fun t => f s t) = U m fun t => U n fun s => f s t := Dr.ex_comm ..
theorem U_append : ∀ (a b : Nat) (f : Bs → Rat), U (a + b) f = U a fun s => U b fun t => f (s ++ t)
  | 0, b, f => by rw [U_zero, Nat.zero_add]; rfl
  | a + 1, b, f => by
    rw [show a + 1 + b = (a + b) + 1 by omega, U_succ, U_succ, U_append a b, U_append a b]; rfl
/-- the bits of a string's number -/
theorem bitsL_num : ∀ (l : Bs), bitsL l.length (numL l) = l := by
  have key : ∀ (l : Bs), bitsR l.length (numL l.reverse) = l := by
    intro l
    induction l with
    | nil => rfl
    | cons b r ih =>
      rw [List.reverse_cons, numL_snoc, List.length_cons, bitsR]
      have e1 : (numL r.reverse * 2 + b.toNat) % 2 = b.toNat := by cases b <;> simp <;> omega
      have e2 : (numL r.reverse * 2 + b.toNat) / 2 = numL r.reverse := by cases b <;> simp <;> omega
      rw [e1, e2, ih]
      cases b <;> rfl
  intro l
  have := key l.reverse
  rw [List.reverse_reverse, List.length_reverse] at this
  rw [bitsL, this, List.reverse_reverse]
theorem bitsL_num' {l : Bs} {n : Nat} (h : l.length = n) : bitsL n (numL l) = l := by rw [← h]; exact bitsL_num l
theorem long_at {n : Nat} (rows : List Bs) (k : Nat) {s : Bs} (h : s.length = n) : rowAt (longT n rows k) s = putOut rows s k := by
  have hl : numL s < 2 ^ n := by rw [← h]; exact numL_lt s
  rw [rowAt, longT, List.getD_eq_getElem?_getD, List.getElem?_map, List.getElem?_range hl]
  show putOut rows (bitsL n (numL s)) k = _
  rw [bitsL_num' h]
theorem tree_at {n d : Nat} (rows : List Bs) {k x : Bs} (hk : k.length = n) (hx : x.length = d) : valAt (treeT n rows d) k x = goDown rows k x := by
  have hl : numL k < 2 ^ n := by rw [← hk]; exact numL_lt k
  have hl2 : numL x < 2 ^ d := by rw [← hx]; exact numL_lt x
  rw [valAt, treeT, rowAt, List.getD_eq_getElem?_getD (l := List.map _ _), List.getElem?_map, List.getElem?_range hl]
  simp only [Option.map_some, Option.getD_some]
  rw [List.getD_eq_getElem?_getD, List.getElem?_map, List.getElem?_range hl2]
  show goDown rows (bitsL n (numL k)) (bitsL d (numL x)) = _
  rw [bitsL_num' hk, bitsL_num' hx]
open Dr (ex sumR prob boolR Pos)
/-- the chance that it says 1 -/
abbrev said1 (r : Bs × Wd) : Rat := boolR (decide (r.1 = [true]))
abbrev one (s : Bs) : Rat := boolR (decide (s = [true]))
def vM (i : Mb) (W : Wd) (c : Bs) : Rat := ex (i.runM c W) said1
theorem cov_real (n m : Nat) (rows : List Bs) (f : Bs → Rat) : ex (covM n m rows true) f = U n fun s => f (rowAt rows s) := by
  show ex ((strD n).bind fun s => .ret (rowAt rows s)) f = _
  rw [U_ex]; rfl
theorem cov_any (n m : Nat) (rows : List Bs) (f : Bs → Rat) : ex (covM n m rows false) f = U m f := rfl
theorem runB_world : (∀ (b : Br) (h : Bs) (W : Wd), b.asks = 0 → runB b h W = (runB b h .silent).bind fun r => .ret (r.1, W)) ∧ ∀ (bs : List Br) (i : Nat) (h : Bs) (W : Wd), Br.asksL bs = 0 → runBs bs i h W = (runBs bs i h .silent).bind fun r => .ret (r.1, W) := by
  have : ∀ k : Nat, (∀ (b : Br) (h : Bs) (W : Wd), b.size ≤ k → b.asks = 0 → runB b h W = (runB b h .silent).bind fun r => .ret (r.1, W)) ∧ ∀ (bs : List Br) (i : Nat) (h : Bs) (W : Wd), Br.sizes bs ≤ k → Br.asksL bs = 0 → runBs bs i h W = (runBs bs i h .silent).bind fun r => .ret (r.1, W) := by
    intro k
    induction k with
    | zero =>
      refine ⟨fun b h W hs => ?_, fun bs i h W hs ha => ?_⟩
      · cases b <;> simp [Br.size] at hs
      · cases bs with
        | nil => rfl
        | cons b r => cases b <;> simp [Br.sizes, Br.size] at hs
    | succ k ih =>
      have h1 : ∀ (b : Br) (h : Bs) (W : Wd), b.size ≤ k + 1 → b.asks = 0 → runB b h W = (runB b h .silent).bind fun r => .ret (r.1, W) := by
        intro b h W hs ha
        cases b with
        | say ps => rw [runB, runB]; rfl
        | toss bs =>
          rw [runB, runB]
          show _ = Dr.draw _ _
          congr 1
          funext i
          exact ih.2 bs i h W (by simp only [Br.size] at hs; omega) (by simpa [Br.asks] using ha)
        | look i x y =>
          simp only [Br.asks, Br.size] at ha hs
          rw [runB, runB]
          by_cases c : h.getD i false = false
          · rw [if_pos c, if_pos c]; exact ih.1 x h W (by omega) (by omega)
          · rw [if_neg c, if_neg c]; exact ih.1 y h W (by omega) (by omega)
        | ask ps x => simp [Br.asks] at ha
      refine ⟨h1, fun bs => ?_⟩
      induction bs with
      | nil => intro i h W _ _; simp only [runBs]; rfl
      | cons b r ih2 =>
        intro i h W hs ha
        simp only [Br.asksL, Br.sizes] at ha hs
        cases i with
        | zero => rw [runBs, runBs]; exact h1 b h W (by omega) (by omega)
        | succ i => rw [runBs, runBs]; exact ih2 i h W (by omega) (by omega)
  exact ⟨fun b h W => (this b.size).1 b h W (Nat.le_refl _), fun bs i h W => (this (Br.sizes bs)).2 bs i h W (Nat.le_refl _)⟩
/-- what an ask-free breaker says -/
def sayD (b : Br) (h : Bs) : Dr Bs := (runB b h .silent).bind fun r => .ret r.1
theorem ex_runB {b : Br} (ha : b.asks = 0) (h : Bs) (W : Wd) (f : Bs × Wd → Rat) : ex (runB b h W) f = ex (sayD b h) fun s => f (s, W) := by
  rw [runB_world.1 b h W ha, Dr.ex_bind, sayD, Dr.ex_bind]; rfl
theorem ex_ask {b : Br} (ha : b.asks = 0) (ps : List Part) (W : Wd) (f : Bs × Wd → Rat) : ex (runB (.ask ps b) [] W) f = ex (ansM W (mkS ps [])) fun a => ex (sayD b a.1) fun s => f (s, a.2) := by
  rw [runB, Dr.ex_bind]
  congr 1
  funext a
  rw [List.nil_append, ex_runB ha]
/-! ### the made breaker over longer -/
theorem play_gen (n m : Nat) (rows : List Bs) (real : Bool) (b : Mb) : prob (playM (.gen n m rows real) b) = ex (covM n m rows real) fun ch => vM b (.notes [] .silent) ch := by
  unfold prob playM setM
  rw [Dr.ex_bind, Dr.ex_bind]
  congr 1
  funext ch
  show ex ((b.runM ch (.notes [] .silent)).bind _) boolR = _
  rw [Dr.ex_bind]
  rfl
theorem vM_longer (n m : Nat) (rows : List Bs) (k : Nat) (i : Mb) (W : Wd) (ch : Bs) : vM (.longer n m rows k i) W ch = (1 / (k : Rat)) * sumR ((List.range k).map fun x => U x fun f => vM i .silent (f ++ [ch.getLastD false] ++ putOut rows ch.dropLast (k - x - 1))) := by
  unfold vM
  rw [Mb.runM, ex]
  congr 2
  refine List.map_congr_left fun x _ => ?_
  rw [U_ex]
  congr 1
  funext f
  rw [Dr.ex_bind]
  rfl
theorem sumR_tele (h : Nat → Rat) : ∀ k : Nat, sumR ((List.range k).map fun x => h x) - sumR ((List.range k).map fun x => h (x + 1)) = h 0 - h k
  | 0 => by simp [sumR]; grind
  | k + 1 => by
    have ih := sumR_tele h k
    rw [List.range_succ, List.map_append, List.map_append, Dr.sumR_append, Dr.sumR_append]
    simp only [List.map_cons, List.map_nil, sumR]
    grind
theorem U_sumR (n : Nat) (f : Nat → Bs → Rat) (l : List Nat) : U n (fun s => sumR (l.map fun i => f i s)) = sumR (l.map fun i => U n (f i)) := Dr.ex_sum f (strD n) l
/-- the bits that are any, then what is put out from any state -/
def hyb (n : Nat) (rows : List Bs) (k : Nat) (V : Bs → Rat) (x : Nat) : Rat := U x fun f => U n fun s => V (f ++ putOut rows s (k - x))
theorem longer_adv {n : Nat} {rows : List Bs} (G : GoodG n (n + 1) rows) (k : Nat) (hk : 1 ≤ k) (i : Mb) :
    (k : Rat) * (prob (playM (.gen n (n + 1) rows true) (.longer n (n + 1) rows k i)) - prob (playM (.gen n (n + 1) rows false) (.longer n (n + 1) rows k i))) =
      U n (fun s => vM i .silent (putOut rows s k)) - U (n + k) (vM i .silent) := by
  have k0 : (k : Rat) ≠ 0 := by
    intro z
    have := Rat.natCast_eq_zero_iff.mp z
    omega
  rw [play_gen, play_gen, cov_real, cov_any]
  simp only [vM_longer]
  generalize vM i .silent = V
  rw [U_smul, U_smul, U_sumR, U_sumR]
  have e1 : sumR ((List.range k).map fun x => U n fun s => U x fun f => V (f ++ [(rowAt rows s).getLastD false] ++ putOut rows (rowAt rows s).dropLast (k - x - 1))) = sumR ((List.range k).map fun x => hyb n rows k V x) := by
    refine Dr.sumR_congr fun x hx => ?_
    have hx := List.mem_range.mp hx
    rw [hyb, U_comm]
    refine U_congr fun f _ => U_congr fun s _ => ?_
    obtain ⟨j, hj⟩ : ∃ j, k - x = j + 1 := ⟨k - x - 1, by omega⟩
    rw [hj, Nat.add_sub_cancel, putOut, List.append_assoc]; rfl
  have e2 : sumR ((List.range k).map fun x => U (n + 1) fun ch => U x fun f => V (f ++ [ch.getLastD false] ++ putOut rows ch.dropLast (k - x - 1))) = sumR ((List.range k).map fun x => hyb n rows k V (x + 1)) := by
    refine Dr.sumR_congr fun x hx => ?_
    have hx := List.mem_range.mp hx
    rw [hyb, U_append, U_append]
    refine (U_congr fun t _ => U_comm 1 x _).trans ((U_comm n x _).trans (U_congr fun f _ => (U_comm n 1 _).trans (U_congr fun t ht => U_congr fun s _ => ?_)))
    match t, ht with
    | [b], _ =>
      rw [show k - x - 1 = k - (x + 1) by omega]
      congr 2
      · simp
      · simp
  rw [e1, e2]
  have e3 := sumR_tele (hyb n rows k V) k
  have e4 : hyb n rows k V 0 = U n (fun s => V (putOut rows s k)) := by
    rw [hyb, U_zero]; rfl
  have e5 : hyb n rows k V k = U (n + k) V := by
    rw [hyb, Nat.add_comm n k, U_append, Nat.sub_self]; rfl
  rw [e4, e5] at e3
  grind
/-! ### the made breaker over a tree -/
theorem vM_tree (n m : Nat) (rows : List Bs) (d q : Nat) (i : Mb) (W : Wd) (ch : Bs) : vM (.tree n m rows d q i) W ch = (1 / ((turnsL d q).sum : Rat)) * sumR ((List.range (turnsL d q).sum).map fun t => vM i (.tree n rows d (lvlM (turnsL d q) t).1 (lvlM (turnsL d q) t).2 ch []) []) := by
  unfold vM
  rw [Mb.runM, ex]
  congr 2
  refine List.map_congr_left fun t _ => ?_
  rw [Dr.ex_bind]
  rfl
/-- what a turn gains -/
def turnA (n : Nat) (rows : List Bs) (d q : Nat) (i : Mb) (t : Nat) : Rat :=
  U n (fun s => vM i (.tree n rows d (lvlM (turnsL d q) t).1 (lvlM (turnsL d q) t).2 (rowAt rows s) []) []) - U (n + n) (fun c => vM i (.tree n rows d (lvlM (turnsL d q) t).1 (lvlM (turnsL d q) t).2 c []) [])
theorem sumR_sub (f g : Nat → Rat) (l : List Nat) : sumR (l.map fun i => f i - g i) = sumR (l.map f) - sumR (l.map g) := by
  have h := Dr.sumR_add f (fun i => (-1) * g i) l
  rw [Dr.sumR_smul] at h
  rw [Dr.sumR_congr (g := fun i => f i + (-1) * g i) (fun i _ => by grind), h]; grind
theorem tree_adv (n : Nat) (rows : List Bs) (d q : Nat) (i : Mb) (W : Wd) (hN : 1 ≤ (turnsL d q).sum) :
    ((turnsL d q).sum : Rat) * (U n (fun s => vM (.tree n (n + n) rows d q i) W (rowAt rows s)) - U (n + n) (vM (.tree n (n + n) rows d q i) W)) = sumR ((List.range (turnsL d q).sum).map (turnA n rows d q i)) := by
  have k0 : ((turnsL d q).sum : Rat) ≠ 0 := by
    intro z
    have := Rat.natCast_eq_zero_iff.mp z
    omega
  have e : vM (.tree n (n + n) rows d q i) W = fun c => vM (.tree n (n + n) rows d q i) W c := rfl
  rw [e]
  simp only [vM_tree]
  rw [U_smul, U_smul, U_sumR, U_sumR]
  unfold turnA
  rw [sumR_sub]
  grind
open Dr (ex sumR prob boolR Pos)
theorem half_app {n : Nat} {u v : Bs} (hu : u.length = n) (hv : v.length = n) (b : Bool) : halfOf (u ++ v) b = if b then v else u := by
  have e : (u ++ v).length / 2 = u.length := by rw [List.length_append]; omega
  unfold halfOf
  rw [e]
  cases b
  · simp
  · simp
theorem U_halves (n : Nat) (b : Bool) (f : Bs → Bs → Rat) : U (n + n) (fun c => f (halfOf c b) (halfOf c (!b))) = U n fun u => U n fun v => f u v := by
  rw [U_append]
  cases b with
  | false => exact U_congr fun u hu => U_congr fun v hv => by rw [half_app hu hv, half_app hu hv]; rfl
  | true =>
    rw [U_comm]
    exact U_congr fun u hu => U_congr fun v hv => by rw [half_app hv hu, half_app hv hu]; rfl
theorem U_half (n : Nat) (b : Bool) (f : Bs → Rat) : U (n + n) (fun c => f (halfOf c b)) = U n f := by
  rw [U_halves n b fun u _ => f u]
  exact U_congr fun u _ => U_const n (f u)
/-- what the turns gain is what the whole gains -/
def Bal (n : Nat) (rows : List Bs) (d q : Nat) (Φ : Wd → Rat) : Prop :=
  sumR ((List.range (turnsL d q).sum).map fun t => U n (fun s => Φ (.tree n rows d (lvlM (turnsL d q) t).1 (lvlM (turnsL d q) t).2 (rowAt rows s) [])) - U (n + n) (fun c => Φ (.tree n rows d (lvlM (turnsL d q) t).1 (lvlM (turnsL d q) t).2 c []))) =
    U n (fun k => Φ (.keyed n d n (treeT n rows d) k)) - Φ (.any d n [])
section
variable {n d q : Nat} {rows : List Bs}
theorem Bal.ex {α : Type} (D : Dr α) {Φ : α → Wd → Rat} (h : ∀ a, Bal n rows d q (Φ a)) : Bal n rows d q fun W => Dr.ex D fun a => Φ a W := by
  unfold Bal at h ⊢
  have e1 : ∀ (m : Nat) (w : Bs → Wd), U m (fun s => Dr.ex D fun a => Φ a (w s)) = Dr.ex D fun a => U m fun s => Φ a (w s) := fun m w => Dr.ex_comm (fun s a => Φ a (w s)) D (strD m)
  simp only [e1]
  rw [← Dr.ex_sub]
  rw [← (show (fun a => _) = fun a => _ from funext h), Dr.ex_sum]
  refine Dr.sumR_congr fun t _ => ?_
  rw [Dr.ex_sub]
theorem Bal.U (m : Nat) {Φ : Bs → Wd → Rat} (h : ∀ a, Bal n rows d q (Φ a)) : Bal n rows d q fun W => BB.U m fun a => Φ a W := Bal.ex (strD m) h
theorem Bal.const (c : Rat) : Bal n rows d q fun _ => c := by
  unfold Bal
  simp only [U_const]
  rw [Dr.sumR_congr (g := fun _ => 0) (fun _ _ => by grind), Dr.sumR_const]
  grind
theorem Bal.smul (c : Rat) {Φ : Wd → Rat} (h : Bal n rows d q Φ) : Bal n rows d q fun W => c * Φ W := by
  unfold Bal at h ⊢
  simp only [U_smul]
  rw [Dr.sumR_congr (g := fun t => c * (BB.U n (fun s => Φ (.tree n rows d (lvlM (turnsL d q) t).1 (lvlM (turnsL d q) t).2 (rowAt rows s) [])) - BB.U (n + n) (fun c => Φ (.tree n rows d (lvlM (turnsL d q) t).1 (lvlM (turnsL d q) t).2 c [])))) (fun _ _ => by grind), Dr.sumR_smul, h]
  grind
theorem Bal.add {Φ Ψ : Wd → Rat} (h : Bal n rows d q Φ) (h2 : Bal n rows d q Ψ) : Bal n rows d q fun W => Φ W + Ψ W := by
  unfold Bal at h h2 ⊢
  simp only [U_add]
  have e4 : ∀ a b c e : Rat, (a + b) - (c + e) = a - c + (b - e) ∧ (a - c + (b - e)) = (a + b) - (c + e) := by intros; grind
  have := Dr.sumR_add (fun t => BB.U n (fun s => Φ (.tree n rows d (lvlM (turnsL d q) t).1 (lvlM (turnsL d q) t).2 (rowAt rows s) [])) - BB.U (n + n) (fun c => Φ (.tree n rows d (lvlM (turnsL d q) t).1 (lvlM (turnsL d q) t).2 c []))) (fun t => BB.U n (fun s => Ψ (.tree n rows d (lvlM (turnsL d q) t).1 (lvlM (turnsL d q) t).2 (rowAt rows s) [])) - BB.U (n + n) (fun c => Ψ (.tree n rows d (lvlM (turnsL d q) t).1 (lvlM (turnsL d q) t).2 c []))) (List.range (turnsL d q).sum)
  rw [h, h2] at this
  refine (Dr.sumR_congr fun t _ => ?_).trans (this.trans ?_)
  · exact (e4 ..).1
  · exact (e4 ..).2
end
/-! ### one ask -/
def A1 (q : Bs) (W : Wd) (θ : Bs → Rat) : Rat := ex (ansM W q) fun a => θ a.1
/-- what is answered at the end of a pair -/
abbrev lab (rows : List Bs) (lv : Nat) (q p : Bs) : Bs := goDown rows (halfOf p (q.getD lv false)) (q.drop (lv + 1))
theorem ans_tree0 {n d lv tu : Nat} {rows : List Bs} {q c : Bs} (hq : q.length = d) (f : Bs × Wd → Rat) :
    ex (ansM (.tree n rows d lv tu c []) q) f = if tu = 0 then f (lab rows lv q c, .tree n rows d lv tu c [(q.take lv, c)]) else U (n + n) fun p => f (lab rows lv q p, .tree n rows d lv tu c [(q.take lv, p)]) := by
  rw [ansM, if_neg (fun z => z hq), Dr.ex_bind]
  have hl : lk [] (q.take lv) = none := rfl
  rw [pairM, hl]
  by_cases h : tu = 0
  · subst h
    rw [if_pos rfl, List.length_nil, if_pos rfl]
    rfl
  · rw [if_neg h, List.length_nil, if_neg (fun z => h z.symm), if_pos (by omega), Dr.ex_bind, Nat.two_mul]
    rfl
theorem ans_tree1 {n d lv tu : Nat} {rows : List Bs} {q c x p : Bs} (hq : q.length = d) (f : Bs × Wd → Rat) :
    ex (ansM (.tree n rows d lv tu c [(x, p)]) q) (fun a => f a) = if x = q.take lv then f (lab rows lv q p, .tree n rows d lv tu c [(x, p)]) else if 1 = tu then f (lab rows lv q c, .tree n rows d lv tu c [(x, p), (q.take lv, c)])
      else if 1 < tu then U (n + n) fun p' => f (lab rows lv q p', .tree n rows d lv tu c [(x, p), (q.take lv, p')]) else U n fun s => f (lab rows lv q (rowAt rows s), .tree n rows d lv tu c [(x, p), (q.take lv, rowAt rows s)]) := by
  rw [ansM, if_neg (fun z => z hq), Dr.ex_bind]
  by_cases h : x = q.take lv
  · have hl : lk [(x, p)] (q.take lv) = some p := by simp [lk, h]
    rw [if_pos h, pairM, hl]; rfl
  · have hl : lk [(x, p)] (q.take lv) = none := by simp [lk, h]
    rw [if_neg h, pairM, hl, List.length_singleton]
    by_cases h1 : 1 = tu
    · rw [if_pos h1, if_pos h1]; rfl
    · rw [if_neg h1, if_neg h1]
      by_cases h2 : 1 < tu
      · rw [if_pos h2, if_pos h2, Dr.ex_bind, Nat.two_mul]; rfl
      · rw [if_neg h2, if_neg h2, Dr.ex_bind, Dr.ex_bind]; rfl
theorem ans_keyed {n l m : Nat} {tab : List (List Bs)} {key q : Bs} (f : Bs × Wd → Rat) : ex (ansM (.keyed n l m tab key) q) f = f (if q.length ≠ l then [] else valAt tab key q, .keyed n l m tab key) := rfl
theorem ans_any {l m : Nat} {told : List (Bs × Bs)} {q : Bs} (hq : q.length = l) (h : lk told q = none) (f : Bs × Wd → Rat) : ex (ansM (.any l m told) q) f = U m fun v => f (v, .any l m (told ++ [(q, v)])) := by
  rw [ansM, if_neg (fun z => z hq), h]
  show ex ((strD m).bind _) f = _
  rw [U_ex]; rfl
theorem ans_bad_tree {n d lv tu : Nat} {rows : List Bs} {q c : Bs} {ps : List (Bs × Bs)} (hq : q.length ≠ d) (f : Bs × Wd → Rat) : ex (ansM (.tree n rows d lv tu c ps) q) f = f ([], .tree n rows d lv tu c ps) := by rw [ansM, if_pos hq]; rfl
theorem ans_bad_any {l m : Nat} {told : List (Bs × Bs)} {q : Bs} (hq : q.length ≠ l) (f : Bs × Wd → Rat) : ex (ansM (.any l m told) q) f = f ([], .any l m told) := by rw [ansM, if_pos hq]; rfl
theorem ans_bad_keyed {n l m : Nat} {tab : List (List Bs)} {key q : Bs} (hq : q.length ≠ l) (f : Bs × Wd → Rat) : ex (ansM (.keyed n l m tab key) q) f = f ([], .keyed n l m tab key) := by rw [ans_keyed, if_pos hq]
theorem turns11 : turnsL 1 1 = [1] := by decide
theorem turns12 : turnsL 1 2 = [1] := by decide
theorem turns21 : turnsL 2 1 = [1, 1] := by decide
theorem turns22 : turnsL 2 2 = [1, 2] := by decide
/-- the gain at one turn -/
abbrev gn (n : Nat) (rows : List Bs) (d : Nat) (Φ : Wd → Rat) (lv tu : Nat) : Rat := U n (fun s => Φ (.tree n rows d lv tu (rowAt rows s) [])) - U (n + n) (fun c => Φ (.tree n rows d lv tu c []))
theorem bal1 {n : Nat} {rows : List Bs} {Φ : Wd → Rat} (h : gn n rows 1 Φ 0 0 = U n (fun k => Φ (.keyed n 1 n (treeT n rows 1) k)) - Φ (.any 1 n [])) : ∀ q, q = 1 ∨ q = 2 → Bal n rows 1 q Φ := by
  intro q hq
  have e : turnsL 1 q = [1] := by rcases hq with rfl | rfl <;> decide
  unfold Bal
  rw [e, ← h]
  have er : List.range ([1] : List Nat).sum = [0] := by decide
  rw [er]
  simp only [List.map_cons, List.map_nil, sumR, lvlM]
  rw [if_pos (by decide), Rat.add_zero]
theorem bal21 {n : Nat} {rows : List Bs} {Φ : Wd → Rat} (h : gn n rows 2 Φ 0 0 + gn n rows 2 Φ 1 0 = U n (fun k => Φ (.keyed n 2 n (treeT n rows 2) k)) - Φ (.any 2 n [])) : Bal n rows 2 1 Φ := by
  unfold Bal
  rw [turns21, ← h]
  have er : List.range ([1, 1] : List Nat).sum = [0, 1] := by decide
  have l0 : lvlM [1, 1] 0 = (0, 0) := by decide
  have l1 : lvlM [1, 1] 1 = (1, 0) := by decide
  rw [er]
  simp only [List.map_cons, List.map_nil, sumR, l0, l1]
  grind
theorem bal22 {n : Nat} {rows : List Bs} {Φ : Wd → Rat} (h : gn n rows 2 Φ 0 0 + gn n rows 2 Φ 1 0 + gn n rows 2 Φ 1 1 = U n (fun k => Φ (.keyed n 2 n (treeT n rows 2) k)) - Φ (.any 2 n [])) : Bal n rows 2 2 Φ := by
  unfold Bal
  rw [turns22, ← h]
  have er : List.range ([1, 2] : List Nat).sum = [0, 1, 2] := by decide
  have l0 : lvlM [1, 2] 0 = (0, 0) := by decide
  have l1 : lvlM [1, 2] 1 = (1, 0) := by decide
  have l2 : lvlM [1, 2] 2 = (1, 1) := by decide
  rw [er]
  simp only [List.map_cons, List.map_nil, sumR, l0, l1, l2]
  grind
theorem one_bad {n d : Nat} {rows : List Bs} {q : Bs} (θ : Bs → Rat) (hq : q.length ≠ d) : (fun W => A1 q W θ) (.any d n []) = θ [] ∧ (∀ k, A1 q (.keyed n d n (treeT n rows d) k) θ = θ []) ∧ ∀ lv tu c, A1 q (.tree n rows d lv tu c []) θ = θ [] :=
  ⟨ans_bad_any hq _, fun k => ans_bad_keyed hq _, fun lv tu c => ans_bad_tree hq _⟩
theorem len1 {q : Bs} (h : q.length = 1) : ∃ x, q = [x] := by
  match q, h with
  | [x], _ => exact ⟨x, rfl⟩
theorem len2 {q : Bs} (h : q.length = 2) : ∃ x y, q = [x, y] := by
  match q, h with
  | [x, y], _ => exact ⟨x, y, rfl⟩
theorem one1 {n : Nat} {rows : List Bs} (q : Bs) (θ : Bs → Rat) : gn n rows 1 (fun W => A1 q W θ) 0 0 = U n (fun k => A1 q (.keyed n 1 n (treeT n rows 1) k) θ) - A1 q (.any 1 n []) θ := by
  by_cases hq : q.length = 1
  · obtain ⟨x, rfl⟩ := len1 hq
    have e1 : ∀ c, A1 [x] (.tree n rows 1 0 0 c []) θ = θ (halfOf c x) := fun c => by rw [A1, ans_tree0 hq, if_pos rfl]; rfl
    have e2 : U n (fun k => A1 [x] (.keyed n 1 n (treeT n rows 1) k) θ) = U n fun s => θ (halfOf (rowAt rows s) x) := by
      refine U_congr fun k hk => ?_
      rw [A1, ans_keyed, if_neg (fun z => z hq), tree_at rows hk hq]; rfl
    have e3 : A1 [x] (.any 1 n []) θ = U n θ := ans_any hq rfl _
    simp only [gn, e1]
    rw [e2, e3, U_half]
  · obtain ⟨h1, h2, h3⟩ := one_bad (n := n) (rows := rows) θ hq
    simp only [gn, h2, h3]
    simp only at h1
    rw [h1, U_const, U_const]
theorem one2 {n : Nat} {rows : List Bs} (q : Bs) (θ : Bs → Rat) : gn n rows 2 (fun W => A1 q W θ) 0 0 + gn n rows 2 (fun W => A1 q W θ) 1 0 = U n (fun k => A1 q (.keyed n 2 n (treeT n rows 2) k) θ) - A1 q (.any 2 n []) θ := by
  by_cases hq : q.length = 2
  · obtain ⟨x, y, rfl⟩ := len2 hq
    have e0 : ∀ c, A1 [x, y] (.tree n rows 2 0 0 c []) θ = θ (halfOf (rowAt rows (halfOf c x)) y) := fun c => by rw [A1, ans_tree0 hq, if_pos rfl]; rfl
    have e1 : ∀ c, A1 [x, y] (.tree n rows 2 1 0 c []) θ = θ (halfOf c y) := fun c => by rw [A1, ans_tree0 hq, if_pos rfl]; rfl
    have e2 : U n (fun k => A1 [x, y] (.keyed n 2 n (treeT n rows 2) k) θ) = U n fun s => θ (halfOf (rowAt rows (halfOf (rowAt rows s) x)) y) := by
      refine U_congr fun k hk => ?_
      rw [A1, ans_keyed, if_neg (fun z => z hq), tree_at rows hk hq]; rfl
    have e3 : A1 [x, y] (.any 2 n []) θ = U n θ := ans_any hq rfl _
    simp only [gn, e0, e1]
    rw [e2, e3, U_half n y θ, U_half n x fun s => θ (halfOf (rowAt rows s) y)]
    grind
  · obtain ⟨h1, h2, h3⟩ := one_bad (n := n) (rows := rows) θ hq
    simp only [gn, h2, h3]
    simp only at h1
    rw [h1, U_const, U_const]
    grind
theorem one2b {n : Nat} {rows : List Bs} (q : Bs) (θ : Bs → Rat) : gn n rows 2 (fun W => A1 q W θ) 1 1 = 0 := by
  by_cases hq : q.length = 2
  · have e1 : ∀ c, A1 q (.tree n rows 2 1 1 c []) θ = U (n + n) fun p => θ (lab rows 1 q p) := fun c => by rw [A1, ans_tree0 hq, if_neg (by decide)]
    simp only [gn, e1]
    rw [U_const, U_const]; grind
  · obtain ⟨h1, h2, h3⟩ := one_bad (n := n) (rows := rows) θ hq
    simp only [gn, h3]
    rw [U_const, U_const]; grind
theorem bal_one {n d q : Nat} {rows : List Bs} (hd : d = 1 ∨ d = 2) (hq : q = 1 ∨ q = 2) (x : Bs) (θ : Bs → Rat) : Bal n rows d q fun W => A1 x W θ := by
  rcases hd with rfl | rfl
  · exact bal1 (one1 x θ) q hq
  · rcases hq with rfl | rfl
    · exact bal21 (one2 x θ)
    · refine bal22 ?_
      rw [one2b, one2]; grind
open Dr (ex sumR prob boolR Pos)
/-! ### two asks -/
/-- a mark is said; κ tells what its ask is worth -/
def zz (b : Br) (d n : Nat) (q a : Bs) (κ : Bs → (Bs → Rat) → Rat) : Rat :=
  ex (sayD b a) fun s => if s.length ≠ d + n ∨ s.take d = q then 0 else κ (s.take d) fun v => boolR (decide (v = s.drop d))
theorem zz_U (b : Br) (d n : Nat) (q a : Bs) (m : Nat) (κ : Bs → Bs → (Bs → Rat) → Rat) : zz b d n q a (fun x θ => U m fun t => κ t x θ) = U m fun t => zz b d n q a (κ t) := by
  unfold zz
  rw [U, Dr.ex_comm]
  congr 1
  funext s
  by_cases h : s.length ≠ d + n ∨ s.take d = q
  · simp only [if_pos h]; exact (U_const m 0).symm
  · simp only [if_neg h]; rfl
theorem zz_congr {b : Br} {d n : Nat} {q a : Bs} {κ κ' : Bs → (Bs → Rat) → Rat} (h : ∀ x θ, x.length = d → x ≠ q → κ x θ = κ' x θ) : zz b d n q a κ = zz b d n q a κ' := by
  unfold zz
  congr 1
  funext s
  by_cases c : s.length ≠ d + n ∨ s.take d = q
  · rw [if_pos c, if_pos c]
  · rw [if_neg c, if_neg c]
    have c1 : s.length = d + n := Classical.byContradiction fun z => c (.inl z)
    exact h _ _ (by rw [List.length_take]; omega) fun z => c (.inr z)
/-- asked, marked -/
def T2 (b : Br) (d n : Nat) (q : Bs) (W : Wd) : Rat := ex (ansM W q) fun a => zz b d n q a.1 fun x θ => A1 x a.2 θ
section
variable {n q : Nat} {rows : List Bs} (b : Br)
theorem two_bad {d : Nat} (hd : d = 1 ∨ d = 2) (hq : q = 1 ∨ q = 2) {x : Bs} (hx : x.length ≠ d) : Bal n rows d q (T2 b d n x) := by
  have h : Bal n rows d q fun W => zz b d n x [] fun y θ => A1 y W θ := by
    unfold zz
    refine Bal.ex (sayD b []) (Φ := fun s W => if s.length ≠ d + n ∨ s.take d = x then 0 else A1 (s.take d) W fun v => boolR (decide (v = s.drop d))) fun s => ?_
    by_cases c : s.length ≠ d + n ∨ s.take d = x
    · simp only [if_pos c]; exact Bal.const 0
    · simp only [if_neg c]; exact bal_one hd hq _ _
  unfold Bal at h ⊢
  have e1 : ∀ lv tu c, T2 b d n x (.tree n rows d lv tu c []) = zz b d n x [] fun y θ => A1 y (.tree n rows d lv tu c []) θ := fun lv tu c => ans_bad_tree hx _
  have e2 : ∀ k, T2 b d n x (.keyed n d n (treeT n rows d) k) = zz b d n x [] fun y θ => A1 y (.keyed n d n (treeT n rows d) k) θ := fun k => ans_bad_keyed hx _
  have e3 : T2 b d n x (.any d n []) = zz b d n x [] fun y θ => A1 y (.any d n []) θ := ans_bad_any hx _
  simp only [e1, e2, e3]
  exact h
/-- any function: two answers that know nothing of each other -/
theorem two_any {d : Nat} {x : Bs} (hx : x.length = d) : T2 b d n x (.any d n []) = U n fun a => zz b d n x a fun _ θ => U n θ := by
  rw [T2, ans_any hx rfl]
  refine U_congr fun a _ => zz_congr fun y θ hy hne => ?_
  rw [A1, ans_any hy (by simp [lk, Ne.symm hne])]
theorem two1 {x : Bs} (hx : x.length = 1) : gn n rows 1 (T2 b 1 n x) 0 0 = U n (fun k => T2 b 1 n x (.keyed n 1 n (treeT n rows 1) k)) - T2 b 1 n x (.any 1 n []) := by
  obtain ⟨x, rfl⟩ := len1 hx
  have ex_ : ∀ y : Bs, y.length = 1 → y ≠ [x] → y = [!x] := fun y hy hne => by
    obtain ⟨z, rfl⟩ := len1 hy
    have : z ≠ x := fun e => hne (by rw [e])
    cases x <;> cases z <;> simp_all
  have e1 : ∀ c, T2 b 1 n [x] (.tree n rows 1 0 0 c []) = zz b 1 n [x] (halfOf c x) fun _ θ => θ (halfOf c (!x)) := fun c => by
    rw [T2, ans_tree0 hx, if_pos rfl]
    refine zz_congr fun y θ hy hne => ?_
    rw [A1, ans_tree1 hy, if_pos (by rfl), ex_ y hy hne]; rfl
  have e2 : U n (fun k => T2 b 1 n [x] (.keyed n 1 n (treeT n rows 1) k)) = U n fun s => zz b 1 n [x] (halfOf (rowAt rows s) x) fun _ θ => θ (halfOf (rowAt rows s) (!x)) := by
    refine U_congr fun k hk => ?_
    rw [T2, ans_keyed, if_neg (fun z => z hx), tree_at rows hk hx]
    refine zz_congr fun y θ hy hne => ?_
    rw [A1, ans_keyed, if_neg (fun z => z hy), tree_at rows hk hy, ex_ y hy hne]; rfl
  simp only [gn, e1]
  rw [e2, two_any b hx, U_halves n x fun u v => zz b 1 n [x] u fun _ θ => θ v]
  simp only [← zz_U]
/-- the answers below two pairs: the asked place's, the other one's -/
def EE (b : Br) (n : Nat) (x y : Bool) (c c' : Bs) : Rat := zz b 2 n [x, y] (halfOf c y) fun z θ => if z.getD 0 false = x then θ (halfOf c (!y)) else θ (halfOf c' (z.getD 1 false))
theorem two2 {x : Bs} (hx : x.length = 2) : gn n rows 2 (T2 b 2 n x) 0 0 + gn n rows 2 (T2 b 2 n x) 1 0 + gn n rows 2 (T2 b 2 n x) 1 1 = U n (fun k => T2 b 2 n x (.keyed n 2 n (treeT n rows 2) k)) - T2 b 2 n x (.any 2 n []) := by
  obtain ⟨x, y, rfl⟩ := len2 hx
  have ex_ : ∀ z : Bs, z.length = 2 → z ≠ [x, y] → ∃ u v, z = [u, v] ∧ ((u = x ∧ v = !y) ∨ (u ≠ x ∧ u = !x)) := fun z hz hne => by
    obtain ⟨u, v, rfl⟩ := len2 hz
    refine ⟨u, v, rfl, ?_⟩
    by_cases h : u = x
    · subst h
      have : v ≠ y := fun e => hne (by rw [e])
      cases y <;> cases v <;> simp_all
    · cases x <;> cases u <;> simp_all
  have e0 : ∀ c, T2 b 2 n [x, y] (.tree n rows 2 0 0 c []) = EE b n x y (rowAt rows (halfOf c x)) (rowAt rows (halfOf c (!x))) := fun c => by
    rw [T2, ans_tree0 hx, if_pos rfl]
    refine zz_congr fun z θ hz hne => ?_
    rw [A1, ans_tree1 hz, if_pos (by rfl)]
    obtain ⟨u, v, rfl, ⟨rfl, rfl⟩ | ⟨h1, rfl⟩⟩ := ex_ z hz hne
    · rw [if_pos (by rfl)]; rfl
    · rw [if_neg (by simpa using h1)]; rfl
  have e1 : ∀ c, T2 b 2 n [x, y] (.tree n rows 2 1 0 c []) = U n fun s => EE b n x y c (rowAt rows s) := fun c => by
    unfold EE
    rw [T2, ans_tree0 hx, if_pos rfl, ← zz_U]
    refine zz_congr fun z θ hz hne => ?_
    rw [A1, ans_tree1 hz]
    obtain ⟨u, v, rfl, ⟨rfl, rfl⟩ | ⟨h1, rfl⟩⟩ := ex_ z hz hne
    · rw [if_pos (by rfl)]
      simp only [List.getD_cons_zero, if_true]
      rw [U_const]; rfl
    · rw [if_neg (by simp), if_neg (by decide), if_neg (by decide)]
      refine U_congr fun s _ => ?_
      simp only [List.getD_cons_zero]
      rw [if_neg (by simp)]; rfl
  have e2 : ∀ c, T2 b 2 n [x, y] (.tree n rows 2 1 1 c []) = U (n + n) fun c' => EE b n x y c' c := fun c => by
    rw [T2, ans_tree0 hx, if_neg (by decide)]
    refine U_congr fun c' _ => ?_
    unfold EE
    refine zz_congr fun z θ hz hne => ?_
    rw [A1, ans_tree1 hz]
    obtain ⟨u, v, rfl, ⟨rfl, rfl⟩ | ⟨h1, rfl⟩⟩ := ex_ z hz hne
    · rw [if_pos (by rfl)]
      simp only [List.getD_cons_zero, if_true]
      rfl
    · rw [if_neg (by simp), if_pos rfl]
      simp only [List.getD_cons_zero]
      rw [if_neg (by simp)]; rfl
  have ek : U n (fun k => T2 b 2 n [x, y] (.keyed n 2 n (treeT n rows 2) k)) = U n fun s => EE b n x y (rowAt rows (halfOf (rowAt rows s) x)) (rowAt rows (halfOf (rowAt rows s) (!x))) := by
    refine U_congr fun k hk => ?_
    rw [T2, ans_keyed, if_neg (fun z => z hx), tree_at rows hk hx]
    refine zz_congr fun z θ hz hne => ?_
    rw [A1, ans_keyed, if_neg (fun z => z hz), tree_at rows hk hz]
    obtain ⟨u, v, rfl, ⟨rfl, rfl⟩ | ⟨h1, rfl⟩⟩ := ex_ z hz hne
    · simp only [List.getD_cons_zero, if_true]; rfl
    · simp only [List.getD_cons_zero]
      rw [if_neg (by simp)]; rfl
  have ea : U (n + n) (fun c => U (n + n) fun c' => EE b n x y c' c) = T2 b 2 n [x, y] (.any 2 n []) := by
    rw [two_any b hx, U_comm]
    have h1 : ∀ c', U (n + n) (fun c => EE b n x y c' c) = zz b 2 n [x, y] (halfOf c' y) fun z θ => if z.getD 0 false = x then θ (halfOf c' (!y)) else U n θ := fun c' => by
      unfold EE
      rw [← zz_U]
      refine zz_congr fun z θ hz hne => ?_
      by_cases h : z.getD 0 false = x
      · simp only [if_pos h]; exact U_const _ _
      · simp only [if_neg h]; exact U_half n _ θ
    simp only [h1]
    rw [U_halves n y fun u v => zz b 2 n [x, y] u fun z θ => if z.getD 0 false = x then θ v else U n θ]
    simp only [← zz_U]
    refine U_congr fun u _ => zz_congr fun z θ hz hne => ?_
    by_cases h : z.getD 0 false = x
    · simp only [if_pos h]
    · simp only [if_neg h]; exact U_const _ _
  simp only [gn, e0, e1, e2]
  rw [ek, U_halves n x fun u v => EE b n x y (rowAt rows u) (rowAt rows v), ea]
  rw [U_comm n (n + n)]
  grind
theorem bal_two {d : Nat} (hd : d = 1 ∨ d = 2) (x : Bs) : Bal n rows d 2 (T2 b d n x) := by
  by_cases hx : x.length = d
  · rcases hd with rfl | rfl
    · exact bal1 (two1 b hx) 2 (.inr rfl)
    · exact bal22 (two2 b hx)
  · exact two_bad b hd (.inr rfl) hx
end
/-! ### secrets -/
/-- what a breaker of secrets gains from a world -/
def S1 (b : Br) (l m : Nat) (bb : Nat) (q : Bs) (W : Wd) (θ : Bs → Rat) : Rat :=
  if q.length ≠ 2 * m then ex (sayD b []) θ else U l fun r => A1 r W fun a => ex (sayD b (r ++ xorL a ((q.drop (bb * m)).take m))) θ
theorem bal_S1 {n d q : Nat} {rows : List Bs} (hd : d = 1 ∨ d = 2) (hq : q = 1 ∨ q = 2) (b : Br) (l m bb : Nat) (x : Bs) (θ : Bs → Rat) : Bal n rows d q fun W => S1 b l m bb x W θ := by
  unfold S1
  by_cases c : x.length ≠ 2 * m
  · simp only [if_pos c]; exact Bal.const _
  · simp only [if_neg c]; exact Bal.U l fun r => bal_one hd hq r _
theorem ex_secret {b : Br} (ha : b.asks = 0) (ps : List Part) (l m bb : Nat) (W : Wd) (θ : Bs → Rat) : ex (runB (.ask ps b) [] (.secret l m bb W)) (fun r => θ r.1) = S1 b l m bb (mkS ps []) W θ := by
  rw [ex_ask ha, S1, ansM]
  by_cases c : (mkS ps []).length ≠ 2 * m
  · rw [if_pos c, if_pos c]; rfl
  · rw [if_neg c, if_neg c, U_ex]
    refine U_congr fun r _ => ?_
    rw [Dr.ex_bind]; rfl
theorem sayD_pos {b : Br} (g : b.good) : ∀ h : Bs, Pos (sayD b h) := by
  have key : ∀ k : Nat, (∀ (b : Br) (h : Bs), b.size ≤ k → b.good → Pos (runB b h .silent)) ∧ ∀ (bs : List Br) (i : Nat) (h : Bs), Br.sizes bs ≤ k → Br.goods bs → Pos (runBs bs i h .silent) := by
    intro k
    induction k with
    | zero =>
      refine ⟨fun b h hs => ?_, fun bs i h hs => ?_⟩
      · cases b <;> simp [Br.size] at hs
      · cases bs with
        | nil => intro _; trivial
        | cons b r => cases b <;> simp [Br.sizes, Br.size] at hs
    | succ k ih =>
      have h1 : ∀ (b : Br) (h : Bs), b.size ≤ k + 1 → b.good → Pos (runB b h .silent) := by
        intro b h hs g
        cases b with
        | say ps => rw [runB]; trivial
        | toss bs => rw [runB]; exact ⟨g.1, fun i _ => ih.2 bs i h (by simp only [Br.size] at hs; omega) g.2.2⟩
        | look i x y =>
          simp only [Br.size] at hs
          rw [runB]
          by_cases c : h.getD i false = false
          · rw [if_pos c]; exact ih.1 x h (by omega) g.2.1
          · rw [if_neg c]; exact ih.1 y h (by omega) g.2.2.1
        | ask ps x => simp only [Br.size] at hs; rw [runB]; exact ih.1 x _ (by omega) g.2.1
      refine ⟨h1, fun bs => ?_⟩
      induction bs with
      | nil => intro i h _ _; trivial
      | cons b r ih2 =>
        intro i h hs g
        simp only [Br.sizes] at hs
        cases i with
        | zero => rw [runBs]; exact h1 b h (by omega) g.1
        | succ i => rw [runBs]; exact ih2 i h (by omega) g.2
  have pb : ∀ t : Dr (Bs × Wd), Pos t → Pos (t.bind fun r => .ret r.1) := by
    intro t
    induction t with
    | ret a => intro _; trivial
    | draw m k ih => intro hp; exact ⟨hp.1, fun i hi => ih i (hp.2 i hi)⟩
  exact fun h => pb _ ((key b.size).1 b h (Nat.le_refl _) g)
open Dr (ex sumR prob boolR Pos)
theorem ex_notes (W : Wd) (q : Bs) (f : Bs × Wd → Rat) : ex (ansM (.notes [] W) q) f = ex (ansM W q) fun a => f (a.1, .notes [(q, a.1)] a.2) := by
  rw [ansM, Dr.ex_bind]; rfl
theorem ex_mark (W : Wd) (q : Bs) (f : Bs × Wd → Rat) : ex (ansM (.mark [] W) q) f = ex (ansM W q) fun a => f (a.1, .mark [q] a.2) := by
  rw [ansM, Dr.ex_bind, if_neg (by simp)]; rfl
theorem wld_real (n l m : Nat) (tab : List (List Bs)) (f : Wd → Rat) : ex (wldM n l m tab true) f = U n fun k => f (.keyed n l m tab k) := by
  show ex ((strD n).bind _) f = _
  rw [U_ex]; rfl
theorem wld_any (n l m : Nat) (tab : List (List Bs)) (f : Wd → Rat) : ex (wldM n l m tab false) f = f (.any l m []) := rfl
section
variable {b : Br} (ha : b.asks = 0) (ps : List Part)
include ha
theorem vM_tell (W : Wd) : vM (.plain (.ask ps b)) W [] = A1 (mkS ps []) W fun a => ex (sayD b a) one := by
  show ex (runB (.ask ps b) [] W) said1 = _
  rw [ex_ask ha]; rfl
theorem play_fn (n l m : Nat) (tab : List (List Bs)) (real : Bool) : prob (playM (.fn n l m tab real) (.plain (.ask ps b))) = ex (wldM n l m tab real) fun W => A1 (mkS ps []) W fun a => ex (sayD b a) one := by
  unfold prob playM setM
  rw [Dr.ex_bind, Dr.ex_bind]
  congr 1
  funext W
  show ex ((runB (.ask ps b) [] (.notes [] W)).bind fun r => .ret (decide (r.1 = [true]))) boolR = _
  rw [Dr.ex_bind, ex_ask ha, ex_notes]; rfl
theorem vM_marks (d n : Nat) (W : Wd) : vM (.marks d n (.plain (.ask ps b))) W [] = T2 b d n (mkS ps []) W := by
  unfold vM
  rw [Mb.runM, Dr.ex_bind]
  show ex (runB (.ask ps b) [] (.mark [] W)) _ = _
  rw [ex_ask ha, ex_mark, T2]
  congr 1
  funext a
  unfold zz
  congr 1
  funext s
  have e : s.take d ∈ (Wd.mark [mkS ps []] a.2).askedS ↔ s.take d = mkS ps [] := by simp [Wd.askedS]
  by_cases c : s.length ≠ d + n ∨ s.take d = mkS ps []
  · rw [if_pos c, if_pos (c.imp id e.mpr)]; rfl
  · rw [if_neg c, if_neg (fun z => c (z.imp id e.mp)), Dr.ex_bind]
    show ex (ansM a.2 (s.take d)) _ = ex (ansM a.2 (s.take d)) _
    congr 1
    funext r
    show boolR (decide ([decide (r.1 = s.drop d)] = [true])) = boolR (decide (r.1 = s.drop d))
    congr 1
    by_cases h : r.1 = s.drop d <;> simp [h]
theorem play_marks (n l m : Nat) (tab : List (List Bs)) (real : Bool) : prob (playM (.marks n l m tab real) (.plain (.ask ps b))) = ex (wldM n l m tab real) fun W => T2 b l m (mkS ps []) W := by
  unfold prob playM setM
  rw [Dr.ex_bind, Dr.ex_bind]
  congr 1
  funext W
  show ex ((runB (.ask ps b) [] (.notes [] W)).bind fun r => winM (.marks n l m tab real) r.1 (r.2.askedN.map (·.1)) r.2.sub) boolR = _
  rw [Dr.ex_bind, ex_ask ha, ex_notes, T2]
  congr 1
  funext a
  unfold zz
  congr 1
  funext s
  show ex (if s.length ≠ l + m ∨ s.take l ∈ [mkS ps []] then .ret false else (ansM a.2 (s.take l)).bind fun r => .ret (decide (r.1 = s.drop l))) boolR = _
  have e : s.take l ∈ [mkS ps []] ↔ s.take l = mkS ps [] := by simp
  by_cases c : s.length ≠ l + m ∨ s.take l = mkS ps []
  · rw [if_pos c, if_pos (c.imp id e.mpr)]; rfl
  · rw [if_neg c, if_neg (fun z => c (z.imp id e.mp)), Dr.ex_bind]; rfl
theorem play_secrets (n l m : Nat) (tab : List (List Bs)) (real bb : Bool) : prob (playM (.secrets n l m tab real bb) (.plain (.ask ps b))) = ex (wldM n l m tab real) fun W => S1 b l m (if bb then 1 else 0) (mkS ps []) W one := by
  unfold prob playM setM
  rw [Dr.ex_bind, Dr.ex_bind]
  congr 1
  funext W
  show ex ((runB (.ask ps b) [] (.notes [] (.secret l m (if bb then 1 else 0) W))).bind fun r => .ret (decide (r.1 = [true]))) boolR = _
  rw [Dr.ex_bind, ← ex_secret ha, ex_ask ha, ex_ask ha, ex_notes]; rfl
theorem vM_secrets (d n : Nat) (W : Wd) : vM (.secrets d n (.plain (.ask ps b))) W [] = (1 / 2) * (S1 b d n 0 (mkS ps []) W (fun s => 1 - one s) + S1 b d n 1 (mkS ps []) W one) := by
  unfold vM
  rw [Mb.runM, ex]
  have er : List.range 2 = [0, 1] := by decide
  rw [er]
  simp only [List.map_cons, List.map_nil, sumR]
  rw [Dr.ex_bind, Dr.ex_bind, Rat.add_zero]
  have e0 : ∀ r : Bs × Wd, ex (Dr.ret (([decide (decide (r.1 = [true]) = decide (0 = 1))] : Bs), r.2.sub)) said1 = 1 - one r.1 := by
    intro r
    show boolR (decide ([decide (decide (r.1 = [true]) = decide (0 = 1))] = [true])) = 1 - boolR (decide (r.1 = [true]))
    by_cases h : r.1 = [true]
    · simp only [h]; decide +kernel
    · simp only [h]; decide +kernel
  have e1 : ∀ r : Bs × Wd, ex (Dr.ret (([decide (decide (r.1 = [true]) = decide (1 = 1))] : Bs), r.2.sub)) said1 = one r.1 := by
    intro r
    show boolR (decide ([decide (decide (r.1 = [true]) = decide (1 = 1))] = [true])) = boolR (decide (r.1 = [true]))
    by_cases h : r.1 = [true]
    · simp only [h]; decide +kernel
    · simp only [h]; decide +kernel
  have q0 := (congrArg (ex (runB (.ask ps b) [] (.secret d n 0 W))) (funext e0)).trans (ex_secret ha ps d n 0 W fun s => 1 - one s)
  have q1 := (congrArg (ex (runB (.ask ps b) [] (.secret d n 1 W))) (funext e1)).trans (ex_secret ha ps d n 1 W one)
  rw [← q0, ← q1]
  rfl
end
theorem S1_not {b : Br} (g : b.good) (l m bb : Nat) (q : Bs) (W : Wd) (hp : ∀ r, Pos (ansM W r)) : S1 b l m bb q W (fun s => 1 - one s) = 1 - S1 b l m bb q W one := by
  have e : ∀ h, ex (sayD b h) (fun s => 1 - one s) = 1 - ex (sayD b h) one := fun h => by
    rw [Dr.ex_sub, Dr.ex_const 1 _ (sayD_pos g h)]
  unfold S1
  by_cases c : q.length ≠ 2 * m
  · rw [if_pos c, if_pos c, e]
  · rw [if_neg c, if_neg c]
    simp only [e]
    have e2 : ∀ r (f : Bs → Rat), A1 r W (fun a => 1 - f a) = 1 - A1 r W f := fun r f => by
      unfold A1
      rw [Dr.ex_sub, Dr.ex_const 1 _ (hp r)]
    simp only [e2]
    rw [U_sub, U_const]
theorem pos_keyed {n l m : Nat} {tab : List (List Bs)} {k : Bs} (r : Bs) : Pos (ansM (.keyed n l m tab k) r) := trivial
theorem pos_any {l m : Nat} (r : Bs) : Pos (ansM (.any l m []) r) := by
  rw [ansM]
  by_cases h : r.length ≠ l
  · rw [if_pos h]; trivial
  · rw [if_neg h]
    exact ⟨Nat.pow_pos (by decide), fun _ _ => trivial⟩
/-- what a breaker gains at a goal -/
def gainR (g : Go) (n d : Nat) (rows : List Bs) (br : Br) : Rat := match g with
  | .tell => prob (playM (.fn n d n (tree2 n d rows) true) (.plain br)) - prob (playM (.fn n d n (tree2 n d rows) false) (.plain br))
  | .marks => prob (playM (.marks n d n (tree2 n d rows) true) (.plain br)) - prob (playM (.marks n d n (tree2 n d rows) false) (.plain br))
  | .secrets => (prob (playM (.secrets n d n (tree2 n d rows) true true) (.plain br)) - prob (playM (.secrets n d n (tree2 n d rows) true false) (.plain br))) - (prob (playM (.secrets n d n (tree2 n d rows) false true) (.plain br)) - prob (playM (.secrets n d n (tree2 n d rows) false false) (.plain br)))
/-- the advantage of what is made -/
def advR (g : Go) (n d : Nat) (rows : List Bs) (br : Br) : Rat := prob (playM (.gen n (n + 1) rows true) (carM g n d rows br)) - prob (playM (.gen n (n + 1) rows false) (carM g n d rows br))
def goQ : Go → Nat
  | .marks => 2
  | _ => 1
theorem max_asks {b : Br} (ha : b.asks = 0) (ps : List Part) (g : Go) (l m : Nat) : max 1 (firstM g l m (.plain (.ask ps b))).asks = goQ g := by
  cases g <;> simp [firstM, Mb.asks, Br.asks, ha, goQ]
theorem main_law {g : Go} {n d : Nat} {rows : List Bs} {b : Br} (G : GoodG n (n + 1) rows) (hd : d = 1 ∨ d = 2) (ha : b.asks = 0) (hg : b.good) (ps : List Part) :
    advR g n d rows (.ask ps b) * (carN g n d (.ask ps b) : Rat) = gainR g n d rows (.ask ps b) := by
  have hN : 1 ≤ (turnsL d (goQ g)).sum := by rcases hd with rfl | rfl <;> cases g <;> decide
  have h1 := longer_adv G n G.n1 (.tree n (n + n) (long1 n rows) d (goQ g) (firstM g d n (.plain (.ask ps b))))
  have h2 := tree_adv n (long1 n rows) d (goQ g) (firstM g d n (.plain (.ask ps b))) .silent hN
  have e1 : U n (fun s => vM (.tree n (n + n) (long1 n rows) d (goQ g) (firstM g d n (.plain (.ask ps b)))) .silent (putOut rows s n)) = U n (fun s => vM (.tree n (n + n) (long1 n rows) d (goQ g) (firstM g d n (.plain (.ask ps b)))) .silent (rowAt (long1 n rows) s)) :=
    U_congr fun s hs => by rw [long_at rows n hs]
  have hB : ∀ (Φ : Wd → Rat), (∀ W, vM (firstM g d n (.plain (.ask ps b))) W [] = Φ W) → Bal n (long1 n rows) d (goQ g) Φ → sumR ((List.range (turnsL d (goQ g)).sum).map (turnA n (long1 n rows) d (goQ g) (firstM g d n (.plain (.ask ps b))))) = U n (fun k => Φ (.keyed n d n (tree2 n d rows) k)) - Φ (.any d n []) := by
    intro Φ e h
    rw [← h]
    unfold turnA
    simp only [e]
  have fin : sumR ((List.range (turnsL d (goQ g)).sum).map (turnA n (long1 n rows) d (goQ g) (firstM g d n (.plain (.ask ps b))))) * (g.num : Rat) = gainR g n d rows (.ask ps b) := by
    have hq : goQ g = 1 ∨ goQ g = 2 := by cases g <;> simp [goQ]
    cases g with
    | tell =>
      rw [hB _ (vM_tell ha ps) (bal_one hd hq _ _)]
      unfold gainR
      simp only
      rw [play_fn ha, play_fn ha, wld_real, wld_any]
      show _ * ((1 : Nat) : Rat) = _
      rw [show ((1 : Nat) : Rat) = 1 from rfl, Rat.mul_one]
    | marks =>
      rw [hB _ (vM_marks ha ps d n) (bal_two b hd _)]
      unfold gainR
      simp only
      rw [play_marks ha, play_marks ha, wld_real, wld_any]
      show _ * ((1 : Nat) : Rat) = _
      rw [show ((1 : Nat) : Rat) = 1 from rfl, Rat.mul_one]
    | secrets =>
      rw [hB _ (vM_secrets ha ps d n) (Bal.smul _ (Bal.add (bal_S1 hd hq b d n 0 _ _) (bal_S1 hd hq b d n 1 _ _)))]
      unfold gainR
      simp only
      rw [play_secrets ha, play_secrets ha, play_secrets ha, play_secrets ha, wld_real, wld_real, wld_any, wld_any]
      simp only [S1_not hg _ _ _ _ _ pos_keyed, S1_not hg _ _ _ _ _ pos_any]
      simp only [U_smul, U_add, U_sub, U_const]
      show _ * ((2 : Nat) : Rat) = _
      rw [show ((2 : Nat) : Rat) = 2 from rfl]
      simp only [if_true, if_false, Bool.false_eq_true]
      grind
  rw [e1] at h1
  have eM : carM g n d rows (.ask ps b) = .longer n (n + 1) rows n (.tree n (n + n) (long1 n rows) d (goQ g) (firstM g d n (.plain (.ask ps b)))) := by rw [carM, max_asks ha]
  have eN : carN g n d (.ask ps b) = g.num * (turnsL d (goQ g)).sum * n := by rw [carN, max_asks ha]
  unfold advR
  rw [eM, eN, Rat.natCast_mul, Rat.natCast_mul]
  rw [← h1] at h2
  rw [← fin, ← h2]
  grind
open Dr (ex sumR prob boolR Pos Bq)
/-! ### what the law's breakers are -/
theorem law_br : ∀ (d : Nat) (br : Br), LawBr d br → br.good ∧ br.asks = 0 ∧ br.depth ≤ d + 1 ∧ br.size ≤ 4 ^ d := by
  have say : ∀ (br : Br), SayOk br → br.good ∧ br.asks = 0 ∧ br.depth ≤ 1 ∧ br.size ≤ 1 := by
    rintro br ⟨ps, rfl, h1, h2⟩
    exact ⟨⟨by omega, h2⟩, rfl, Nat.le_refl _, Nat.le_refl _⟩
  intro d
  induction d with
  | zero => exact fun br h => say br h
  | succ d ih =>
    intro br h
    have hp : 1 ≤ 4 ^ d := Nat.pow_pos (by decide)
    rcases h with h | ⟨i, x, y, rfl, hi, hx, hy⟩ | ⟨bs, rfl, h1, h2, h3⟩
    · obtain ⟨a1, a2, a3, a4⟩ := say br h
      exact ⟨a1, a2, by omega, Nat.le_trans a4 (Nat.pow_pos (by decide))⟩
    · obtain ⟨a1, a2, a3, a4⟩ := ih x hx
      obtain ⟨b1, b2, b3, b4⟩ := ih y hy
      refine ⟨⟨by omega, a1, b1, trivial⟩, by simp [Br.asks, a2, b2], ?_, ?_⟩
      · simp only [Br.depth]; omega
      · simp only [Br.size]; rw [Nat.pow_succ]; omega
    · have key : ∀ l : List Br, (∀ b ∈ l, LawBr d b) → Br.goods l ∧ Br.asksL l = 0 ∧ Br.depths l ≤ d + 1 ∧ Br.sizes l ≤ l.length * 4 ^ d := by
        intro l
        induction l with
        | nil => intro _; exact ⟨trivial, rfl, by simp [Br.depths], by simp [Br.sizes]⟩
        | cons x r ihl =>
          intro hl
          obtain ⟨a1, a2, a3, a4⟩ := ih x (hl x (by simp))
          obtain ⟨b1, b2, b3, b4⟩ := ihl fun b hb => hl b (by simp [hb])
          refine ⟨⟨a1, b1⟩, by simp [Br.asksL, a2, b2], ?_, ?_⟩
          · simp only [Br.depths]; omega
          · simp only [Br.sizes, List.length_cons]; rw [Nat.succ_mul]; omega
      obtain ⟨b1, b2, b3, b4⟩ := key bs h3
      refine ⟨⟨h1, by omega, b1⟩, by simp [Br.asks, b2], ?_, ?_⟩
      · simp only [Br.depth]; omega
      · simp only [Br.size]; rw [Nat.pow_succ]
        have : bs.length * 4 ^ d ≤ 3 * 4 ^ d := Nat.mul_le_mul_right _ h2
        omega
/-! ### how many ways -/
theorem bq_str (n : Nat) : Bq (strD n) 1 n 0 fun s => s.length = n := ⟨0, n, 0, rfl, by simp, Nat.le_refl _, Nat.le_refl _, fun i _ => bitsL_len n i⟩
theorem bq_draw {α : Type} {k : Nat → Dr α} {m d a b : Nat} {Q : α → Prop} (h1 : 1 ≤ m) (h3 : m ≤ 3) (h : ∀ i, i < m → Bq (k i) d a b Q) : Bq (.draw m k) (d + 1) (a + 1) (b + 1) Q := by
  match m, h1, h3 with
  | 1, _, _ => exact ⟨d, 0, 0, rfl, rfl, by omega, by omega, fun i hi => (h i hi).mono (fun _ z => z) (Nat.le_refl _) (by omega) (by omega)⟩
  | 2, _, _ => exact ⟨d, 1, 0, rfl, rfl, by omega, by omega, fun i hi => (h i hi).mono (fun _ z => z) (Nat.le_refl _) (by omega) (by omega)⟩
  | 3, _, _ => exact ⟨d, 0, 1, rfl, rfl, by omega, by omega, fun i hi => (h i hi).mono (fun _ z => z) (Nat.le_refl _) (by omega) (by omega)⟩
theorem bq_draw2 {α : Type} {k : Nat → Dr α} {m d a b : Nat} {Q : α → Prop} (h1 : 1 ≤ m) (h3 : m ≤ 2) (h : ∀ i, i < m → Bq (k i) d a b Q) : Bq (.draw m k) (d + 1) (a + (m - 1)) b Q := by
  match m, h1, h3 with
  | 1, _, _ => exact ⟨d, 0, 0, rfl, rfl, by omega, by omega, fun i hi => (h i hi).mono (fun _ z => z) (Nat.le_refl _) (by omega) (by omega)⟩
  | 2, _, _ => exact ⟨d, 1, 0, rfl, rfl, by omega, by omega, fun i hi => (h i hi).mono (fun _ z => z) (Nat.le_refl _) (by omega) (by omega)⟩
/-- draws of an ask, bits of an ask -/
def Wd.nd : Wd → Nat
  | .silent => 0
  | .keyed .. => 0
  | .any .. => 1
  | .secret _ _ _ w => 1 + w.nd
  | .mark _ w => w.nd
  | .notes _ w => w.nd
  | .tree .. => 1
def Wd.nb : Wd → Nat
  | .silent => 0
  | .keyed .. => 0
  | .any _ m _ => m
  | .secret l _ _ w => l + w.nb
  | .mark _ w => w.nb
  | .notes _ w => w.nb
  | .tree n .. => 2 * n
theorem bq_map {α β : Type} {t : Dr α} {d a b : Nat} {Q : α → Prop} {R : β → Prop} (f : α → β) (h : Bq t d a b Q) (hf : ∀ x, Q x → R (f x)) : Bq (t.bind fun x => .ret (f x)) d a b R := h.bind (f := fun x => .ret (f x)) (d2 := 0) (a2 := 0) (b2 := 0) hf
/-- as it was -/
def Kp (W W' : Wd) : Prop := W'.nd = W.nd ∧ W'.nb = W.nb ∧ W'.sub.nd = W.sub.nd ∧ W'.sub.nb = W.sub.nb
theorem Kp.rfl {W : Wd} : Kp W W := ⟨Eq.refl _, Eq.refl _, Eq.refl _, Eq.refl _⟩
theorem bq_pair {n turn : Nat} {rows : List Bs} {chal place : Bs} {pairs : List (Bs × Bs)} : Bq (pairM n rows turn chal pairs place) 1 (2 * n) 0 fun _ => True := by
  have r0 : ∀ (x : Bs × List (Bs × Bs)), Bq (.ret x) 1 (2 * n) 0 fun _ => True := fun _ => trivial
  unfold pairM
  cases lk pairs place with
  | some p => exact r0 _
  | none =>
    show Bq (Dr.bind _ _) _ _ _ _
    by_cases h1 : pairs.length = turn
    · rw [if_pos h1]; exact r0 _
    · rw [if_neg h1]
      by_cases h2 : pairs.length < turn
      · rw [if_pos h2]
        exact bq_map _ (bq_str (2 * n)) fun _ _ => trivial
      · rw [if_neg h2]
        have h : Bq ((strD n).bind fun s => .ret (rowAt rows s)) 1 n 0 fun _ => True := bq_map _ (bq_str n) fun _ _ => trivial
        have h' : Bq ((strD n).bind fun s => .ret (rowAt rows s)) 1 (2 * n) 0 fun _ => True := h.mono (fun _ z => z) (Nat.le_refl _) (by omega) (Nat.le_refl _)
        exact bq_map _ h' fun _ _ => trivial
theorem bq_ans : ∀ (W : Wd) (q : Bs), Bq (ansM W q) W.nd W.nb 0 fun r => Kp W r.2
  | .silent, q => Kp.rfl
  | .keyed n l m tab key, q => Kp.rfl
  | .any l m told, q => by
    rw [ansM]
    by_cases h : q.length ≠ l
    · rw [if_pos h]; exact Kp.rfl
    · rw [if_neg h]
      cases lk told q with
      | some v => exact Kp.rfl
      | none => exact bq_map _ (bq_str m) fun _ _ => ⟨rfl, rfl, rfl, rfl⟩
  | .secret l m b W, q => by
    rw [ansM]
    by_cases h : q.length ≠ 2 * m
    · rw [if_pos h]; exact Kp.rfl
    · rw [if_neg h]
      have h1 : ∀ r : Bs, Bq ((ansM W r).bind fun a => .ret (r ++ xorL a.1 ((q.drop (b * m)).take m), Wd.secret l m b a.2)) W.nd W.nb 0 fun r => Kp (.secret l m b W) r.2 := fun r =>
        bq_map _ (bq_ans W r) fun a ha => ⟨congrArg (1 + ·) ha.1, congrArg (l + ·) ha.2.1, ha.1, ha.2.1⟩
      exact (bq_str l).bind (d2 := W.nd) (a2 := W.nb) (b2 := 0) fun r _ => h1 r
  | .mark asked W, q => bq_map _ (bq_ans W q) fun a ha => ⟨ha.1, ha.2.1, ha.1, ha.2.1⟩
  | .notes asked W, q => bq_map _ (bq_ans W q) fun a ha => ⟨ha.1, ha.2.1, ha.1, ha.2.1⟩
  | .tree n rows d level turn chal pairs, q => by
    rw [ansM]
    by_cases h : q.length ≠ d
    · rw [if_pos h]; exact Kp.rfl
    · rw [if_neg h]
      exact bq_map _ bq_pair fun a ha => ⟨rfl, rfl, rfl, rfl⟩
theorem bq_runs {Q : Bs × Wd → Prop} {h : Bs} {W : Wd} {d a b : Nat} : ∀ (bs : List Br) (i : Nat), i < bs.length → (∀ x ∈ bs, Bq (runB x h W) d a b Q) → Bq (runBs bs i h W) d a b Q
  | [], i, hi, _ => by simp at hi
  | x :: r, 0, _, hx => by rw [runBs]; exact hx x (by simp)
  | x :: r, i + 1, hi, hx => by rw [runBs]; exact bq_runs r i (by simpa using hi) fun y hy => hx y (by simp [hy])
theorem bq_run : ∀ (d : Nat) (br : Br) (h : Bs) (W : Wd), LawBr d br → Bq (runB br h W) d d d fun r => r.2 = W := by
  have say : ∀ (d : Nat) (br : Br) (h : Bs) (W : Wd), SayOk br → Bq (runB br h W) d d d fun r => r.2 = W := by
    rintro d br h W ⟨ps, rfl, _⟩
    rw [runB]; exact rfl
  intro d
  induction d with
  | zero => exact say 0
  | succ d ih =>
    intro br h W hb
    rcases hb with hb | ⟨i, x, y, rfl, hi, hx, hy⟩ | ⟨bs, rfl, h1, h2, h3⟩
    · exact say _ br h W hb
    · rw [runB]
      by_cases c : h.getD i false = false
      · rw [if_pos c]; exact (ih x h W hx).mono (fun _ z => z) (by omega) (by omega) (by omega)
      · rw [if_neg c]; exact (ih y h W hy).mono (fun _ z => z) (by omega) (by omega) (by omega)
    · rw [runB]
      exact bq_draw h1 h2 fun i hi => bq_runs bs i hi fun x hx => ih x h W (h3 x hx)
theorem bq_ask {d : Nat} {br : Br} (hb : LawBr d br) (ps : List Part) (h : Bs) (W : Wd) : Bq (runB (.ask ps br) h W) (W.nd + d) (W.nb + d) d fun r => Kp W r.2 := by
  rw [runB]
  have := (bq_ans W (mkS ps h)).bind (d2 := d) (a2 := d) (b2 := d) (R := fun r => Kp W r.2) (f := fun r => runB br (h ++ r.1) r.2) fun a ha => (bq_run d br (h ++ a.1) a.2 hb).mono (fun r hr => by rw [hr]; exact ha) (Nat.le_refl _) (Nat.le_refl _) (Nat.le_refl _)
  rw [Nat.zero_add] at this
  exact this
def fnd (g : Go) (d x : Nat) : Nat := match g with
  | .tell => x + d
  | .marks => x + d + x
  | .secrets => x + d + 2
def fnb (g : Go) (d l x : Nat) : Nat := match g with
  | .tell => x + d
  | .marks => x + d + x
  | .secrets => x + d + l + 1
/-- what a first made one draws over a world -/
theorem bq_first {d : Nat} {br : Br} (hb : LawBr d br) (ps : List Part) (l m : Nat) (W : Wd) (g : Go) : Bq ((firstM g l m (.plain (.ask ps br))).runM [] W) (fnd g d W.nd) (fnb g d l W.nb) d fun _ => True := by
  cases g with
  | tell => exact (bq_ask hb ps [] W).mono (fun _ _ => trivial) (Nat.le_refl _) (Nat.le_refl _) (Nat.le_refl _)
  | marks =>
    have h := bq_ask hb ps [] (.mark [] W)
    have h2 := h.bind (d2 := W.nd) (a2 := W.nb) (b2 := 0) (R := fun _ => True) (f := fun r => if r.1.length ≠ l + m ∨ r.1.take l ∈ r.2.askedS then .ret (([false] : Bs), r.2.sub) else
      (ansM r.2.sub (r.1.take l)).bind fun a => .ret ([decide (a.1 = r.1.drop l)], a.2)) fun r hr => by
        by_cases c : r.1.length ≠ l + m ∨ r.1.take l ∈ r.2.askedS
        · rw [if_pos c]; trivial
        · rw [if_neg c]
          have e := bq_ans r.2.sub (r.1.take l)
          rw [hr.2.2.1, hr.2.2.2] at e
          exact bq_map _ e fun _ _ => trivial
    exact h2.mono (fun _ z => z) (Nat.le_refl _) (Nat.le_refl _) (by omega)
  | secrets =>
    refine (bq_draw2 (k := fun b => ((Mb.plain (.ask ps br)).runM [] (.secret l m b W)).bind fun r => .ret ([decide (decide (r.1 = [true]) = decide (b = 1))], r.2.sub)) (m := 2) (d := 1 + W.nd + d) (a := l + W.nb + d) (b := d) (by decide) (by decide) fun b _ => ?_).mono (fun _ z => z) ?_ ?_ (Nat.le_refl _)
    · exact bq_map _ (bq_ask hb ps [] (.secret l m b W)) fun _ _ => trivial
    · simp only [fnd]; omega
    · simp only [fnb]; omega
theorem turns_le {d : Nat} (hd : d = 1 ∨ d = 2) (g : Go) : 1 ≤ (turnsL d (goQ g)).sum ∧ (turnsL d (goQ g)).sum ≤ 3 := by
  rcases hd with rfl | rfl <;> cases g <;> decide
/-- what may be drawn in the law -/
structure LawC (g : Go) (n d : Nat) : Prop where
  n1 : 1 ≤ n
  n2 : n ≤ 2
  d12 : d = 1 ∨ d = 2
  c : n = 2 → g = .tell ∧ d = 1
theorem bq_made {g : Go} {n d : Nat} {rows : List Bs} {br : Br} (C : LawC g n d) (hb : LawBr 2 br) (ps : List Part) (ch : Bs) (W : Wd) : Bq ((carM g n d rows (.ask ps br)).runM ch W) 10 9 3 fun _ => True := by
  have ha := (law_br 2 br hb).2.1
  rw [carM, max_asks ha]
  obtain ⟨t1, t2⟩ := turns_le C.d12 g
  have h1 : ∀ (lv tu : Nat) (c : Bs), Bq ((firstM g d n (.plain (.ask ps br))).runM [] (.tree n (long1 n rows) d lv tu c [])) (fnd g 2 1) (fnb g 2 d (2 * n)) 2 fun _ => True := fun lv tu c => bq_first hb ps d n (.tree n (long1 n rows) d lv tu c []) g
  have h2 : ∀ (W : Wd) (c : Bs), Bq ((Mb.tree n (n + n) (long1 n rows) d (goQ g) (firstM g d n (.plain (.ask ps br)))).runM c W) (fnd g 2 1 + 1) (fnb g 2 d (2 * n) + 1) 3 fun _ => True := fun W c =>
    bq_draw t1 t2 fun t _ => bq_map _ (h1 _ _ c) fun _ _ => trivial
  have h3 := bq_draw2 (m := n) (k := fun x => (strD x).bind fun f => ((Mb.tree n (n + n) (long1 n rows) d (goQ g) (firstM g d n (.plain (.ask ps br)))).runM (f ++ [ch.getLastD false] ++ putOut rows ch.dropLast (n - x - 1)) .silent).bind fun r => .ret (r.1, W)) (d := 1 + (fnd g 2 1 + 1)) (a := (n - 1) + (fnb g 2 d (2 * n) + 1)) (b := 0 + 3) (Q := fun _ => True) C.n1 C.n2 fun x hx =>
    ((bq_str x).mono (Q' := fun _ => True) (fun _ _ => trivial) (Nat.le_refl 1) (show x ≤ n - 1 by omega) (Nat.le_refl 0)).bind fun f _ => bq_map _ (h2 .silent _) fun _ _ => trivial
  have hc := C.c
  have n1 := C.n1
  have n2 := C.n2
  have hd := C.d12
  refine h3.mono (fun _ z => z) ?_ ?_ (Nat.le_refl _)
  · cases g <;> simp only [fnd] <;> omega
  · by_cases e : n = 2
    · obtain ⟨rfl, rfl⟩ := hc e
      simp only [fnb]; omega
    · cases g <;> simp only [fnb] <;> omega
theorem bq_cov {n m : Nat} {rows : List Bs} {real : Bool} (h : n ≤ m) : Bq (covM n m rows real) 1 m 0 fun _ => True := by
  unfold covM
  cases real with
  | true => exact (bq_map _ (bq_str n) fun _ _ => trivial).mono (fun _ z => z) (Nat.le_refl _) h (Nat.le_refl _)
  | false => exact (bq_str m).mono (fun _ _ => trivial) (Nat.le_refl _) (Nat.le_refl _) (Nat.le_refl _)
theorem wayok {t : Dr Bool} {d a b : Nat} (h : Bq t d a b fun _ => True) (h1 : d ≤ 900) (h2 : a ≤ 12) (h3 : b ≤ 3) : WayOk t 12 3 := ⟨h.mono (fun _ z => z) h1 h2 h3, by decide, by decide⟩
theorem wo_made {g : Go} {n d : Nat} {rows : List Bs} {br : Br} (C : LawC g n d) (hb : LawBr 2 br) (ps : List Part) (real : Bool) : WayOk (playM (.gen n (n + 1) rows real) (carM g n d rows (.ask ps br))) 12 3 := by
  have n2 := C.n2
  have h1 : Bq (setM (.gen n (n + 1) rows real)) 1 (n + 1) 0 fun _ => True := bq_map _ (bq_cov (by omega)) fun _ _ => trivial
  have h3 : ∀ s : Bs × Wd, True → Bq (((carM g n d rows (.ask ps br)).runM s.1 (.notes [] s.2)).bind fun r => .ret (decide (r.1 = [true]))) 10 9 3 fun _ => True := fun s _ =>
    bq_map (fun r => decide (r.1 = [true])) (bq_made (rows := rows) C hb ps s.1 (.notes [] s.2)) fun _ _ => trivial
  have h := h1.bind (f := fun s => ((carM g n d rows (.ask ps br)).runM s.1 (.notes [] s.2)).bind fun r => .ret (decide (r.1 = [true]))) h3
  exact wayok (t := playM (.gen n (n + 1) rows real) (carM g n d rows (.ask ps br))) h (by omega) (by omega) (by omega)
theorem bq_wld (n l m : Nat) (tab : List (List Bs)) (real : Bool) : Bq (wldM n l m tab real) 1 n 0 fun W => W.nd ≤ 1 ∧ W.nb ≤ m ∧ W.sub = W := by
  unfold wldM
  cases real with
  | true => exact bq_map _ (bq_str n) fun _ _ => ⟨Nat.zero_le _, Nat.zero_le _, rfl⟩
  | false => exact ⟨Nat.le_refl _, Nat.le_refl _, rfl⟩
/-- the games of the gain -/
theorem bq_fn {n l m : Nat} {tab : List (List Bs)} {real : Bool} {br : Br} (hb : LawBr 2 br) (ps : List Part) : Bq (playM (.fn n l m tab real) (.plain (.ask ps br))) 4 (n + (m + 2)) 2 fun _ => True := by
  have h1 : Bq (setM (.fn n l m tab real)) 1 n 0 fun s => s.2.nd ≤ 1 ∧ s.2.nb ≤ m := bq_map _ (bq_wld n l m tab real) fun _ h => ⟨h.1, h.2.1⟩
  have h3 : ∀ s : Bs × Wd, (s.2.nd ≤ 1 ∧ s.2.nb ≤ m) → Bq ((runB (.ask ps br) s.1 (.notes [] s.2)).bind fun r => .ret (decide (r.1 = [true]))) 3 (m + 2) 2 fun _ => True := fun s hs =>
    bq_map (fun r => decide (r.1 = [true])) ((bq_ask hb ps s.1 (.notes [] s.2)).mono (Q' := fun _ => True) (fun _ _ => trivial) (show s.2.nd + 2 ≤ 3 by omega) (show s.2.nb + 2 ≤ m + 2 by omega) (Nat.le_refl 2)) fun _ _ => trivial
  have h := h1.bind (f := fun s => (runB (.ask ps br) s.1 (.notes [] s.2)).bind fun r => .ret (decide (r.1 = [true]))) h3
  exact Bq.mono (t := playM (.fn n l m tab real) (.plain (.ask ps br))) (fun _ z => z) h (by omega) (Nat.le_refl _) (by omega)
theorem bq_marks {n l m : Nat} {tab : List (List Bs)} {real : Bool} {br : Br} (hb : LawBr 2 br) (ps : List Part) : Bq (playM (.marks n l m tab real) (.plain (.ask ps br))) 5 (n + (m + 2 + m)) 2 fun _ => True := by
  have h1 : Bq (setM (.marks n l m tab real)) 1 n 0 fun s => s.2.nd ≤ 1 ∧ s.2.nb ≤ m ∧ s.2.sub = s.2 := bq_map _ (bq_wld n l m tab real) fun _ h => h
  have h2 : ∀ (r : Bs × Wd), r.2.sub.nd ≤ 1 → r.2.sub.nb ≤ m → Bq (winM (.marks n l m tab real) r.1 (r.2.askedN.map (·.1)) r.2.sub) 1 m 0 fun _ => True := by
    intro r hr1 hr2
    show Bq (if r.1.length ≠ l + m ∨ r.1.take l ∈ r.2.askedN.map (·.1) then .ret false else (ansM r.2.sub (r.1.take l)).bind fun a => .ret (decide (a.1 = r.1.drop l))) 1 m 0 _
    by_cases c : r.1.length ≠ l + m ∨ r.1.take l ∈ r.2.askedN.map (·.1)
    · rw [if_pos c]; trivial
    · rw [if_neg c]
      refine bq_map (R := fun _ => True) (fun a => decide (a.1 = r.1.drop l)) ((bq_ans r.2.sub (r.1.take l)).mono (Q' := fun _ => True) (fun _ _ => trivial) hr1 hr2 (Nat.le_refl _)) fun _ _ => trivial
  have h3 : ∀ s : Bs × Wd, (s.2.nd ≤ 1 ∧ s.2.nb ≤ m ∧ s.2.sub = s.2) → Bq ((runB (.ask ps br) s.1 (.notes [] s.2)).bind fun r => winM (.marks n l m tab real) r.1 (r.2.askedN.map (·.1)) r.2.sub) (3 + 1) (m + 2 + m) (2 + 0) fun _ => True := by
    intro s hs
    have h4 : Bq (runB (.ask ps br) s.1 (.notes [] s.2)) 3 (m + 2) 2 fun r => r.2.sub.nd ≤ 1 ∧ r.2.sub.nb ≤ m :=
      (bq_ask hb ps s.1 (.notes [] s.2)).mono (fun r hr => ⟨by rw [hr.2.2.1]; exact hs.1, by rw [hr.2.2.2]; exact hs.2.1⟩) (show s.2.nd + 2 ≤ 3 by omega) (show s.2.nb + 2 ≤ m + 2 by omega) (Nat.le_refl 2)
    exact h4.bind fun r hr => h2 r hr.1 hr.2
  have h := h1.bind (f := fun s => (runB (.ask ps br) s.1 (.notes [] s.2)).bind fun r => winM (.marks n l m tab real) r.1 (r.2.askedN.map (·.1)) r.2.sub) h3
  exact Bq.mono (t := playM (.marks n l m tab real) (.plain (.ask ps br))) (fun _ z => z) h (by omega) (Nat.le_refl _) (by omega)
theorem bq_secrets {n l m : Nat} {tab : List (List Bs)} {real bb : Bool} {br : Br} (hb : LawBr 2 br) (ps : List Part) : Bq (playM (.secrets n l m tab real bb) (.plain (.ask ps br))) 5 (n + (l + m + 2)) 2 fun _ => True := by
  have h1 : Bq (setM (.secrets n l m tab real bb)) 1 n 0 fun s => s.2.nd ≤ 2 ∧ s.2.nb ≤ l + m := bq_map _ (bq_wld n l m tab real) fun W h => ⟨show 1 + W.nd ≤ 2 by omega, show l + W.nb ≤ l + m by omega⟩
  have h3 : ∀ s : Bs × Wd, (s.2.nd ≤ 2 ∧ s.2.nb ≤ l + m) → Bq ((runB (.ask ps br) s.1 (.notes [] s.2)).bind fun r => .ret (decide (r.1 = [true]))) 4 (l + m + 2) 2 fun _ => True := fun s hs =>
    bq_map (fun r => decide (r.1 = [true])) ((bq_ask hb ps s.1 (.notes [] s.2)).mono (Q' := fun _ => True) (fun _ _ => trivial) (show s.2.nd + 2 ≤ 4 by omega) (show s.2.nb + 2 ≤ l + m + 2 by omega) (Nat.le_refl 2)) fun _ _ => trivial
  have h := h1.bind (f := fun s => (runB (.ask ps br) s.1 (.notes [] s.2)).bind fun r => .ret (decide (r.1 = [true]))) h3
  exact Bq.mono (t := playM (.secrets n l m tab real bb) (.plain (.ask ps br))) (fun _ z => z) h (by omega) (Nat.le_refl _) (by omega)
theorem wo_fn {g : Go} {n d : Nat} {tab : List (List Bs)} {br : Br} (C : LawC g n d) (hb : LawBr 2 br) (ps : List Part) (real : Bool) : WayOk (playM (.fn n d n tab real) (.plain (.ask ps br))) 12 3 := by
  have := C.n2
  exact wayok (bq_fn hb ps) (by omega) (by omega) (by omega)
theorem wo_marks {g : Go} {n d : Nat} {tab : List (List Bs)} {br : Br} (C : LawC g n d) (hb : LawBr 2 br) (ps : List Part) (real : Bool) : WayOk (playM (.marks n d n tab real) (.plain (.ask ps br))) 12 3 := by
  have := C.n2
  exact wayok (bq_marks hb ps) (by omega) (by omega) (by omega)
theorem wo_secrets {n d : Nat} {tab : List (List Bs)} {br : Br} (C : LawC .secrets n d) (hb : LawBr 2 br) (ps : List Part) (real bb : Bool) : WayOk (playM (.secrets n d n tab real bb) (.plain (.ask ps br))) 6 2 := by
  have n2 := C.n2
  have n1 := C.n1
  have hd := C.d12
  have e : n = 1 := by
    by_cases h : n = 2
    · exact absurd (C.c h).1 (by simp)
    · omega
  exact ⟨(bq_secrets hb ps).mono (fun _ z => z) (by omega) (by omega) (by omega), by decide, by decide⟩
theorem ask_ok {br : Br} (hb : LawBr 2 br) {ps : List Part} (hp : ps.length ≤ 100) (hg : ∀ p ∈ ps, p.good) : (Mb.plain (.ask ps br)).good ∧ (Br.ask ps br).asks = 1 := by
  obtain ⟨h1, h2, h3, h4⟩ := law_br 2 br hb
  refine ⟨⟨⟨⟨by omega, hg⟩, h1, trivial⟩, ?_, ?_⟩, ?_⟩
  · simp only [Br.size]; omega
  · simp only [Br.depth]; omega
  · simp only [Br.asks]; omega
theorem LawC.sch {g : Go} {n d : Nat} (C : LawC g n d) {rows : List Bs} (G : GoodG n (n + 1) rows) : Sch n d rows := by
  have := C.n2
  have := C.d12
  exact ⟨G, by omega, by omega, by omega⟩
section
variable {g : Go} {n d : Nat} {rows : List Bs} {br : Br} {ps : List Part} (C : LawC g n d) (G : GoodG n (n + 1) rows) (hb : LawBr 2 br) (hp : ps.length ≤ 100) (hg : ∀ p ∈ ps, p.good)
include C G hb hp hg
theorem first_ok : (firstM g d n (.plain (.ask ps br))).ok ∧ (firstM g d n (.plain (.ask ps br))).asks ≤ 2 ∧ (firstM g d n (.plain (.ask ps br))).okc [] := by
  obtain ⟨h1, h2⟩ := ask_ok hb hp hg
  have n2 := C.n2
  have hd := C.d12
  have hc : (Mb.plain (.ask ps br)).okc [] := Nat.zero_le _
  cases g with
  | tell => exact ⟨h1, by simp only [firstM, Mb.asks]; omega, hc⟩
  | marks => exact ⟨⟨by omega, by omega, h1, by simp only [Mb.asks]; omega, hc⟩, by simp only [firstM, Mb.asks]; omega, trivial⟩
  | secrets => exact ⟨⟨by omega, by omega, h1, by simp only [Mb.asks]; omega, hc⟩, by simp only [firstM, Mb.asks]; omega, trivial⟩
theorem made_ok : (carM g n d rows (.ask ps br)).ok ∧ (carM g n d rows (.ask ps br)).good ∧ (carM g n d rows (.ask ps br)).layers ≤ 20 := by
  obtain ⟨h1, h2⟩ := ask_ok hb hp hg
  obtain ⟨f1, f2, f3⟩ := first_ok C G hb hp hg
  have n1 := C.n1
  have n2 := C.n2
  have hd := C.d12
  have G1 := (C.sch G).G1
  refine ⟨⟨G, rfl, by omega, ⟨G1, by omega, by omega, by omega, by omega, f1, by omega, f3⟩, rfl, fun ch hc => ?_⟩, ⟨G, rfl, by omega, by omega, G1, by omega, by omega, by omega, by omega, by omega, by omega, by omega, firstM_good g h1 (by omega) (by omega) (by omega) (by omega)⟩, ?_⟩
  · show ch.length = 2 * n
    omega
  · cases g <;> simp [carM, firstM, Mb.layers]
theorem play_made (real : Bool) : PlayOk (.gen n (n + 1) rows real) (carM g n d rows (.ask ps br)) := by
  obtain ⟨h1, _⟩ := made_ok C G hb hp hg
  exact ⟨G, h1, Nat.zero_le _, fun ch hc => hc, rfl⟩
theorem play_tell (real : Bool) : PlayOk (.fn n d n (tree2 n d rows) real) (.plain (.ask ps br)) := by
  obtain ⟨h1, h2⟩ := ask_ok hb hp hg
  exact ⟨(C.sch G).F, h1, by simp only [Mb.asks]; omega, Nat.zero_le _⟩
theorem play_mark (real : Bool) : PlayOk (.marks n d n (tree2 n d rows) real) (.plain (.ask ps br)) := by
  obtain ⟨h1, h2⟩ := ask_ok hb hp hg
  exact ⟨(C.sch G).F, h1, by simp only [Mb.asks]; omega, Nat.zero_le _⟩
theorem play_secret (real bb : Bool) : PlayOk (.secrets n d n (tree2 n d rows) real bb) (.plain (.ask ps br)) := by
  obtain ⟨h1, h2⟩ := ask_ok hb hp hg
  exact ⟨(C.sch G).F, h1, by simp only [Mb.asks]; omega, Nat.zero_le _⟩
omit G
theorem carN_eq : carN g n d (.ask ps br) = g.num * (turnsL d (goQ g)).sum * n ∧ carN g n d (.ask ps br) ≤ 100 := by
  have e : carN g n d (.ask ps br) = g.num * (turnsL d (goQ g)).sum * n := by rw [carN, max_asks (law_br 2 br hb).2.1]
  refine ⟨e, ?_⟩
  rw [e]
  have n2 := C.n2
  have := (turns_le C.d12 g).2
  have hn : g.num ≤ 2 := by cases g <;> decide
  have h1 := Nat.mul_le_mul hn this
  have h2 := Nat.mul_le_mul h1 n2
  omega
theorem made_lev : (carM g n d rows (.ask ps br)).lev 1 ≤ 20 := by
  cases g <;> simp [carM, firstM, Mb.lev]
end
/-! Part A43: the promises of gain and advantage in the law. -/
open PySem PySem.Spec PyProof.Rows L2
open Dr (prob)
section
variable {P : Program} {w : World} {K : PySem.W.Frag} {mg : Str → Option Value} {base : Heap}
theorem ways_ok (T : Tx w K mg) {g : Gm} {b : Mb} {ea eb : Nat} (o : PlayOk g b) (wo : WayOk (playM g b) ea eb) (hl : b.lev (g.dep + 1) ≤ 20) : WaysOk P w K mg base 22 g b :=
  m_Ways T 21 (by decide) g b ea eb wo (c_played T 20 (by decide) g b o (cal_mono (c_run_breaker T b (g.dep + 1) o.2.1) hl))
section
variable {g : Go} {n d : Nat} {rows : List Bs} {br : Br} {ps : List Part} (T : Tx w K mg) (C : LawC g n d) (G : GoodG n (n + 1) rows) (hb : LawBr 2 br) (hp : ps.length ≤ 100) (hg : ∀ p ∈ ps, p.good)
include T C G hb hp hg
theorem adv_cal : AdvOk P w K mg base 26 (encG n (n + 1) rows) (carM g n d rows (.ask ps br)) (advR g n d rows (.ask ps br)) := by
  obtain ⟨h1, h2, h3⟩ := made_ok C G hb hp hg
  have hl := made_lev C hb hp hg (rows := rows)
  exact calN_mono (c_advantage T 22 (by decide) (.gen n (n + 1) rows true) (.gen n (n + 1) rows false) _ "generator" [.int n, .int ((n + 1 : Nat)), encR rows] rfl rfl h2 h3 12 3 12 3 (wo_made C hb ps true) (wo_made C hb ps false)
    (ways_ok T (play_made C G hb hp hg true) (wo_made C hb ps true) hl) (ways_ok T (play_made C G hb hp hg false) (wo_made C hb ps false) hl)) (by decide)
theorem adv_rb : RB (advR g n d rows (.ask ps br)) 8000 := (rb_sub (prob_rb (wo_made C hb ps true)) (prob_rb (wo_made C hb ps false))).mono (by decide)
theorem gain_cal : C8.Cal P w K mg base 26 "gain" (spGain g n d rows (.ask ps br) (gainR g n d rows (.ask ps br))) [.int 300000] := by
  obtain ⟨h1, h2⟩ := ask_ok hb hp hg
  have h3 : (Mb.plain (.ask ps br)).layers ≤ 20 := Nat.zero_le _
  have F := (C.sch G).F
  cases g with
  | tell =>
    have hl : (Mb.plain (.ask ps br)).lev 1 ≤ 20 := by simp [Mb.lev]
    exact cal_mono (c_gain_tell T 24 (by decide) n d rows (.ask ps br) _ (c_advantage T 22 (by decide) (.fn n d n (tree2 n d rows) true) (.fn n d n (tree2 n d rows) false) _ "function" [.int n, .int d, .int n, .tuple ((tree2 n d rows).map encR)] rfl rfl h1 h3 12 3 12 3 (wo_fn C hb ps true) (wo_fn C hb ps false)
      (ways_ok T (play_tell C G hb hp hg true) (wo_fn C hb ps true) hl) (ways_ok T (play_tell C G hb hp hg false) (wo_fn C hb ps false) hl))) (by decide)
  | marks =>
    have hl : (Mb.plain (.ask ps br)).lev 1 ≤ 20 := by simp [Mb.lev]
    exact c_gain_marks T 25 (by decide) n d rows (.ask ps br) (c_chance T 22 (by decide) _ _ F h1 h3 12 3 (wo_marks C hb ps true) (ways_ok T (play_mark C G hb hp hg true) (wo_marks C hb ps true) hl)) (c_chance T 22 (by decide) _ _ F h1 h3 12 3 (wo_marks C hb ps false) (ways_ok T (play_mark C G hb hp hg false) (wo_marks C hb ps false) hl))
      (prob_rb (wo_marks C hb ps true)) (prob_rb (wo_marks C hb ps false))
  | secrets =>
    have hl : (Mb.plain (.ask ps br)).lev 2 ≤ 20 := by simp [Mb.lev]
    refine c_gain_secrets T 25 (by decide) n d rows (.ask ps br) (c_chanceF T 22 (by decide) _ _ (fun _ => F) h1 h3 6 2 (fun i => wo_secrets C hb ps i.1 i.2) fun i => ways_ok T (play_secret C G hb hp hg i.1 i.2) (wo_secrets C hb ps i.1 i.2) hl) fun real bb => ?_
    obtain ⟨_, w2, w3⟩ := way_facts (wo_secrets C hb ps real bb (tab := tree2 n d rows))
    rw [← Dr.prob_tally]
    refine (sumT_rb w3).mono ?_
    obtain ⟨t1, t2⟩ := tally_ok (Dr.leaves (playM (.secrets n d n (tree2 n d rows) real bb) (.plain (.ask ps br)))) [] (by simp) (by simp) fun r hr => (Dr.leaves_mem (wo_secrets C hb ps real bb (tab := tree2 n d rows)).q r hr).2.2.2
    have tl := keys_len t1 t2
    rw [List.length_map] at tl
    omega
end
end
/-! Part A44: the law. -/
open PySem PySem.Spec PyProof.Rows L2
def spLaw (K : PySem.W.Frag) : Sp := fun vs H Q _ => ∃ a, ∃ ns : List Int, vs = [.ref a] ∧ SqL K H a (ns.map V.int) ∧ ns.length ≤ 63 ∧ ∀ H', Q (.bl true) H'
/-- b1 and b2, where the second does not touch the heap -/
theorem r_iteB {tb : TE} {b1 b2 : Bool} {σ : L2.St} {H : Hp} {Q : VK} (h2 : ∀ Q : VK, Q (.bl b2) H → tb σ H Q) (q : Q (.bl (b1 && b2)) H) : if b1 = true then tb σ H Q else Q (.bl false) H := by
  cases b1 with
  | true => rw [if_pos rfl]; exact h2 _ q
  | false => rw [if_neg (by decide)]; exact q
/-- if b: x = v -/
theorem r_ifSet {i : Nat} {te : TE} {D : Ends} {σ : L2.St} {H : Hp} {b : Bool} (v : V) {x : V} (hx : σ[i]? = some (some x)) (ht : ∀ Q : VK, Q v H → te σ H Q) (q : D.nx (σ.set i (some (if b = true then v else x))) H) : if b = true then tAsg te (gName i) D σ H else tNext D σ H := by
  cases b with
  | true =>
    rw [if_pos rfl]
    exact r_asg (ht _ (r_gN q))
  | false =>
    rw [if_neg (by decide)]
    refine r_next ?_
    rw [if_neg (by decide)] at q
    have e : σ.set i (some x) = σ := by
      have hi : i < σ.length := by
        rcases Nat.lt_or_ge i σ.length with h | h
        · exact h
        · rw [List.getElem?_eq_none h] at hx; cases hx
      have : σ[i] = some x := by
        rw [List.getElem?_eq_getElem hi] at hx
        exact Option.some.inj hx
      rw [← this, List.set_getElem_self]
    rwa [e] at q
theorem frD_shaped (q : Rat) : SeqAt.shaped (frD q) = true := by
  simp [frD, SeqAt.shaped, PyData.canLay0, PyData.canLayAll0, PyData.depth, PyData.depthAll]
theorem frD_eq (q : Rat) : PyData.eqv (frD q) (frD q) = true := by simp [frD, PyData.eqv, PyData.eqvAll]
theorem goN (g : Go) (d : Nat) (hd : d = 1 ∨ d = 2) : ∃ n : Nat, (1 + (if (decide (g.word = Str.ofString "tell") && decide ((d : Int) = 1)) = true then (1 : Int) else 0)) = (n : Int) ∧ LawC g n d := by
  have e1 : decide (Go.tell.word = Str.ofString "tell") = true := by decide +kernel
  have e2 : decide (Go.marks.word = Str.ofString "tell") = false := by decide +kernel
  have e3 : decide (Go.secrets.word = Str.ofString "tell") = false := by decide +kernel
  rcases hd with rfl | rfl
  · cases g with
    | tell => exact ⟨2, by rw [e1]; rfl, by decide, by decide, .inl rfl, fun _ => ⟨rfl, rfl⟩⟩
    | marks => exact ⟨1, by rw [e2]; rfl, by decide, by decide, .inl rfl, fun z => absurd z (by decide)⟩
    | secrets => exact ⟨1, by rw [e3]; rfl, by decide, by decide, .inl rfl, fun z => absurd z (by decide)⟩
  · cases g with
    | tell => exact ⟨1, by rw [e1]; rfl, by decide, by decide, .inr rfl, fun z => absurd z (by decide)⟩
    | marks => exact ⟨1, by rw [e2]; rfl, by decide, by decide, .inr rfl, fun z => absurd z (by decide)⟩
    | secrets => exact ⟨1, by rw [e3]; rfl, by decide, by decide, .inr rfl, fun z => absurd z (by decide)⟩
theorem sumN_cast : ∀ l : List Nat, (l.map fun x : Nat => (x : Int)).sum = ((l.sum : Nat) : Int)
  | [] => rfl
  | x :: r => by rw [List.map_cons, List.sum_cons, List.sum_cons, sumN_cast r]; simp
theorem goMarks (g : Go) : (1 + (if decide (g.word = Str.ofString "marks") = true then (1 : Int) else 0)) = (goQ g : Int) := by
  have e1 : decide (Go.tell.word = Str.ofString "marks") = false := by decide +kernel
  have e2 : decide (Go.marks.word = Str.ofString "marks") = true := by decide +kernel
  have e3 : decide (Go.secrets.word = Str.ofString "marks") = false := by decide +kernel
  cases g with
  | tell => rw [e1]; rfl
  | marks => rw [e2]; rfl
  | secrets => rw [e3]; rfl
theorem goSecrets (g : Go) : (1 + (if decide (g.word = Str.ofString "secrets") = true then (1 : Int) else 0)) = (g.num : Int) := by
  have e1 : decide (Go.tell.word = Str.ofString "secrets") = false := by decide +kernel
  have e2 : decide (Go.marks.word = Str.ofString "secrets") = false := by decide +kernel
  have e3 : decide (Go.secrets.word = Str.ofString "secrets") = true := by decide +kernel
  cases g with
  | tell => rw [e1]; rfl
  | marks => rw [e2]; rfl
  | secrets => rw [e3]; rfl
section
variable {P : Program} {w : World} {K : PySem.W.Frag} {mg : Str → Option Value} {base : Heap}
theorem mkFnO {nm : Str} {st : Stmt} {N ps : List Str} {k : Nat} {sp : Sp} {f : Addr} {fd : FuncData} (F : FunD K nm nm (defArgs st) (defBody st) (defScope st) [] [] f fd) (S : FnScope N ps (defScope st))
    (hbody : ∀ (f : Addr) (cdv : Value) (A : Around) (outer : List Env) (s : Shared) (H : Hp) (vs : List V) (Q : VK) (E : XK), Room k (A.deeper (envOfC nm (defScope st) s.heap.objs.size f cdv)) → vs.length = ps.length → sp vs H Q E →
      ∃ t, PSs (cxOf CX0 P w K mg base N nm (defScope st) f cdv A outer s H E).nox (defBody st) t ∧ t { nx := fun _ H' => Q .non H', rt := Q } (start N vs) H) : FnOk P w K mg base CX0 (k + 1) f fd ps (spN ps.length sp) := by
  refine F.ok S (fun vs H Q E h => h.1) (fun cdv A outer s H vs Q E hr h => ?_)
  obtain ⟨t, h1, h2⟩ := hbody f cdv A outer s H vs Q E hr h.1 h.2
  exact ⟨t, h1.nox, h2⟩
theorem law_ok (T : Tx w K mg) {f : Addr} {fd : FuncData} (F : FunD K "law" "law" (defArgs (topS 132)) (defBody (topS 132)) (defScope (topS 132)) [] [] f fd) : FnOk P w K mg base CX0 27 f fd ["_law_script"] (spN 1 (spLaw K)) := by
  refine mkFnO F sc_law (fun f cdv A outer s H vs Q E hr _ h => ?_)
  obtain ⟨a, ns, rfl, ha, hn, q⟩ := h
  have hbrk := law_breakerS (P := P) (base := base) T 1 (by decide) (law_breakerS T 0 (by decide) (law_breaker0 T))
  refine ⟨_, (pss_cons (ps_set (i := 1) sc_law.nd rfl (by first | exact Or.inl rfl | exact Or.inr rfl) (pe_lst (pa_cons (C8.pe_c (c_law_draws T) hr (by first | decide | omega) (by rfl) (pa_cons (pv 0) (pa_cons pe_int pa_nil))) (pa_cons pe_int pa_nil))))
  (pss_cons (ps_set (i := 2) sc_law.nd rfl (by first | exact Or.inl rfl | exact Or.inr rfl) (pe_ix (ixK (K := K)) (pe_lst (pa_cons pe_str (pa_cons pe_str (pa_cons pe_str pa_nil)))) (C8.pe_c (c_law_take T) hr (by first | decide | omega) (by rfl) (pa_cons (pv 1) (pa_cons pe_int pa_nil))) (fun _ _ => rfl)))
  (pss_cons (ps_set (i := 3) sc_law.nd rfl (by first | exact Or.inl rfl | exact Or.inr rfl) (pe_op op_add pe_int (C8.pe_c (c_law_take T) hr (by first | decide | omega) (by rfl) (pa_cons (pv 1) (pa_cons pe_int pa_nil)))))
  (pss_cons (ps_set (i := 4) sc_law.nd rfl (by first | exact Or.inl rfl | exact Or.inr rfl) (pe_op op_add pe_int (pe_callTy call_int1 (by rfl) T.f_int bt_int (pa_cons (pe_and (pe_cmpR op_eq (pv 2) pe_str (by rfl)) (pe_one (pe_cmpR op_eq (pv 3) pe_int (by rfl)))) pa_nil))))
  (pss_cons (ps_set (i := 5) sc_law.nd rfl (by first | exact Or.inl rfl | exact Or.inr rfl) (C8.pe_c (c_law_table T) hr (by first | decide | omega) (by rfl) (pa_cons (pv 1) (pa_cons (pv 4) (pa_cons (pe_op op_add (pv 4) pe_int) pa_nil)))))
  (pss_cons (ps_set (i := 6) sc_law.nd rfl (by first | exact Or.inl rfl | exact Or.inr rfl) (pe_tup (pa_cons pe_str (pa_cons (pv 3) (pa_cons (pe_tup (pa_cons pe_str (pa_cons (pv 4) (pa_cons (pe_tup (pa_cons pe_str pa_nil)) pa_nil)))) pa_nil)))))
  (pss_cons (ps_set (i := 7) sc_law.nd rfl (by first | exact Or.inl rfl | exact Or.inr rfl) (C8.pe_c (c_built T) hr (by first | decide | omega) (by rfl) (pa_cons (pv 6) (pa_cons (pv 5) pa_nil))))
  (pss_cons (ps_par (i := 8) (j := 9) rfl sc_law.nd rfl rfl (by decide) rfl rfl (pa_cons (pv 3) (pa_cons pe_int pa_nil)) (by rfl))
  (pss_cons (ps_if (pt_cmpR op_eq (pv 2) pe_str (by rfl)) (pss_one (ps_set (i := 9) sc_law.nd rfl (by first | exact Or.inl rfl | exact Or.inr rfl) (pe_op op_add (pv 3) (pv 4)))) pss_nil)
  (pss_cons (ps_if (pt_cmpR op_eq (pv 2) pe_str (by rfl)) (pss_one (ps_set (i := 8) sc_law.nd rfl (by first | exact Or.inl rfl | exact Or.inr rfl) (pe_op op_mul pe_int (pv 4)))) pss_nil)
  (pss_cons (ps_set (i := 10) sc_law.nd rfl (by first | exact Or.inl rfl | exact Or.inr rfl) (pe_tup (pa_cons pe_str (pa_cons (C8.pe_c (c_law_parts T) hr (by first | decide | omega) (by rfl) (pa_cons (pv 1) (pa_cons (pv 8) pa_nil))) (pa_cons (C8.pe_c hbrk hr (by first | decide | omega) (by rfl) (pa_cons (pv 1) (pa_cons pe_int (pa_cons pe_int (pa_cons (pv 8) (pa_cons (pv 9) pa_nil)))))) pa_nil)))))
  (pss_cons (ps_set (i := 11) sc_law.nd rfl (by first | exact Or.inl rfl | exact Or.inr rfl) (pe_cL (P := P) (w := w) (K := K) (mg := mg) (base := base) (k := 26) T.fn_gain.at_ hr (by first | decide | omega) (by rfl) (pa_cons (pe_tup (pa_cons (pv 2) (pa_cons (pv 6) pa_nil))) (pa_cons (pv 5) (pa_cons (pv 10) pa_nil)))))
  (pss_cons (ps_asg (C8.pe_c (c_carried T) hr (by first | decide | omega) (by rfl) (pa_cons (pe_tup (pa_cons (pv 2) (pa_cons (pv 6) pa_nil))) (pa_cons (pv 5) (pa_cons (pv 10) pa_nil)))) (pgTK (K := K) (n := 2) rfl (pgs_cons (pg_name (i := 12) sc_law.nd rfl (by first | exact Or.inl rfl | exact Or.inr rfl)) (pgs_cons (pg_name (i := 13) sc_law.nd rfl (by first | exact Or.inl rfl | exact Or.inr rfl)) pgs_nil)) (hn := by rfl)))
  (pss_cons (ps_set (i := 14) sc_law.nd rfl (by first | exact Or.inl rfl | exact Or.inr rfl) (pe_op op_add pe_int (pe_callTy call_int1 (by rfl) T.f_int bt_int (pa_cons (pe_cmpR op_eq (pv 2) pe_str (by rfl)) pa_nil))))
  (pss_cons (ps_set (i := 15) sc_law.nd rfl (by first | exact Or.inl rfl | exact Or.inr rfl) (pe_callB (sumK (K := K) rfl) (by rfl) T.f_sum bt_sum (pa_cons (pe_lc (own := [("_law_level", 16)]) (by rfl) sc_law.nd (pi_range1 (by rfl) T.f_range (pa_cons (pv 3) pa_nil)) (blkOk_by (by rfl)) (fun _ _ _ _ _ => (pg_name (i := 16) sc_law.nd rfl (by first | exact Or.inl rfl | exact Or.inr rfl))) (fun _ _ _ _ _ => pts_nil) (fun _ _ _ _ _ => (pe_callB (call_min2 rfl) (by rfl) T.f_min bt_min (pa_cons (pe_op op_shl pe_int (pv 16)) (pa_cons (pv 14) pa_nil))))) pa_nil)))
  (pss_cons (ps_if (PW.pt (pw_or (pt_val (pe_callB (isiK (K := K)) (by rfl) T.f_isinstance bt_isinstance (pa_cons (pv 13) (pa_cons (pe_bltn (v := .ty "bool") (by rfl) T.f_bool bt_bool rfl) pa_nil)))) (pw_or (pt_cmpR op_ne (pv 13) (pe_op op_mul (pe_op op_mul (pv 4) (pv 15)) (pe_op op_add pe_int (pe_callTy call_int1 (by rfl) T.f_int bt_int (pa_cons (pe_cmpR op_eq (pv 2) pe_str (by rfl)) pa_nil)))) (by rfl)) (pw_or1 (pt_cmpR op_ne (pe_callB (lenK (K := K)) (by rfl) T.f_len bt_len (pa_cons (pv 7) pa_nil)) pe_int (by rfl)))))) (pss_one (ps_ret pe_bl)) pss_nil)
  (pss_one (ps_ret (pe_cmpR (eqDK (K := K) hr.units) (C8.pe_c (c_law_times T) hr (by first | decide | omega) (by rfl) (pa_cons (pe_kwL (P := P) (w := w) (K := K) (mg := mg) (base := base) (k := 26) (n := 2) (ks := ["most"]) T.fn_advantage.at_ hr (by first | decide | omega) (by rfl) (pa_cons (pv 5) (pa_cons (pv 12) pa_nil)) (pk_cons pe_int pk_nil)) (pa_cons (pv 13) pa_nil))) (pv 11) (by rfl)))))))))))))))))))), ?_⟩
  refine r_seqN (σ' := [some (.ref a), none, none, none, none, none, none, none, none, none, none, none, none, none, none, none, none]) rfl ?_
  walk_at "gof"
  refine ⟨a, ns, 200, rfl, ha, hn, by decide, fun p xs H1 s1 np h1 hxs => ?_⟩
  walk_at "gof"
  walk_at "new"; rename_i h nh H2 s2 h2
  have hph : p ≠ h := by
    intro z
    rw [z, nh] at h1
    cases h1
  have hh2 : HandR h p xs H2 := ⟨hph, s2 _ _ h1, hxs, 0, h2⟩
  walk_at "gof"
  walk_at "new"; rename_i L nL H3 s3 h3
  walk_at "gof"
  refine ⟨h, p, xs, 3, rfl, hh2.same s3, by decide, by decide, fun r H4 hr4 x4 hh4 => ?_⟩
  have Lh : L ≠ h := by
    intro z
    rw [z, h2] at nL
    cases nL
  have h4 := x4.keep _ _ (by simpa using Lh) h3
  obtain ⟨g, hgw⟩ : ∃ g : Go, ([V.str "tell", V.str "marks", V.str "secrets"] : List V)[r]? = some (.str g.word) := by
    match r, hr4 with
    | 0, _ => exact ⟨.tell, rfl⟩
    | 1, _ => exact ⟨.marks, rfl⟩
    | 2, _ => exact ⟨.secrets, rfl⟩
  refine r_ixL (Int.natCast_nonneg _) h4 (by rw [Int.toNat_natCast]; exact hgw) ?_
  walk_at "gof"
  refine ⟨h, p, xs, 2, rfl, hh4, by decide, by decide, fun r5 H5 hr5 x5 hh5 => ?_⟩
  walk_at "gof"
  obtain ⟨d, hd, d12⟩ : ∃ d : Nat, 1 + (r5 : Int) = (d : Int) ∧ (d = 1 ∨ d = 2) := ⟨1 + r5, by omega, by omega⟩
  rw [hd]
  refine r_iteB (b1 := decide (g.word = Str.ofString "tell")) (b2 := decide ((d : Int) = 1)) (fun Q q => ?_) ?_
  · walk_at "gof"
    exact q
  walk_at "gof"
  obtain ⟨n, en, C⟩ := goN g d d12
  rw [en]
  walk_at "gof"
  have n1 := C.n1
  have n2 := C.n2
  refine ⟨h, p, xs, n, n + 1, rfl, hh5, by omega, by omega, by omega, by omega, fun v rows H6 G x6 hh6 hv => ?_⟩
  walk_at "gof"
  walk_at "new"; rename_i b1 nb1 H7 s7 h7
  walk_at "gof"
  walk_at "new"; rename_i b2 nb2 H8 s8 h8
  walk_at "gof"
  walk_at "new"; rename_i b3 nb3 H9 s9 h9
  walk_at "gof"
  have hsc : Td H9 (encS d n) (.ref b3) := td_tup h9 ⟨_, _, rfl, rfl, _, _, rfl, rfl, _, _, rfl, td_tup (s9 _ _ h8) ⟨_, _, rfl, rfl, _, _, rfl, rfl, _, _, rfl, td_tup (s9 _ _ (s8 _ _ h7)) ⟨_, _, rfl, rfl, rfl⟩, rfl⟩, rfl⟩
  have s69 := (s7.trans s8).trans s9
  have S := C.sch G
  refine ⟨.ref b3, v, n, d, rows, rfl, hsc, hv.same s69, S, fun u2 H10 s10 hu2 => ?_⟩
  walk_at "gof"
  refine r_ifSet (V.int ((d : Int) + (n : Int))) rfl (fun Q q => ?_) ?_
  · walk_at "gof"
    exact q
  obtain ⟨sd, esd, hsd⟩ : ∃ sd : Nat, (if decide (g.word = Str.ofString "marks") = true then V.int ((d : Int) + (n : Int)) else V.int 1) = V.int (sd : Int) ∧ sd ≤ 100 := by
    by_cases c : decide (g.word = Str.ofString "marks") = true
    · exact ⟨d + n, by rw [if_pos c]; rfl, by omega⟩
    · exact ⟨1, by rw [if_neg c]; rfl, by omega⟩
  rw [esd]
  walk_at "gof"
  refine r_ifSet (V.int (2 * (n : Int))) rfl (fun Q q => ?_) ?_
  · walk_at "gof"
    exact q
  obtain ⟨ln, eln, hln⟩ : ∃ ln : Nat, (if decide (g.word = Str.ofString "secrets") = true then V.int (2 * (n : Int)) else V.int (d : Int)) = V.int (ln : Int) ∧ ln ≤ 100 := by
    by_cases c : decide (g.word = Str.ofString "secrets") = true
    · exact ⟨2 * n, by rw [if_pos c]; rfl, by omega⟩
    · exact ⟨d, by rw [if_neg c], by omega⟩
  rw [eln]
  walk_at "gof"
  refine ⟨h, p, xs, ln, rfl, (hh6.same s69).same s10, hln, fun v11 ps H11 hpl hpg x11 hh11 hv11 => ?_⟩
  walk_at "gof"
  refine ⟨h, p, xs, ln, sd, rfl, hh11, hsd, fun v12 br H12 hbr x12 hh12 hv12 => ?_⟩
  walk_at "gof"
  walk_at "new"; rename_i b4 nb4 H13 s13 h13
  walk_at "gof"
  have x10 : Ext [h] H10 H12 := x11.trans x12
  have hv13 : Td H13 (encG n (n + 1) rows) v := ((Td.ext x10 ((hv.same s69).same s10))).same s13
  have hsc13 : Td H13 (encS d n) (.ref b3) := (Td.ext x10 (hsc.same s10)).same s13
  have hu13 : Td H13 (encF n d n (tree2 n d rows)) u2 := (Td.ext x10 hu2).same s13
  have hbr13 : Td H13 (encB (.ask ps br)) (.ref b4) := td_tup h13 ⟨_, _, rfl, rfl, _, _, rfl, (Td.ext x12 hv11).same s13, _, _, rfl, hv12.same s13, rfl⟩
  have hps : ps.length ≤ 100 := by omega
  obtain ⟨aok, aas⟩ := ask_ok hbr hps hpg
  refine r_callL ?_
  walk_at "gof"
  walk_at "new"; rename_i b5 nb5 H14 s14 h14
  walk_at "gof"
  refine ⟨_, _, gain_cal (P := P) (base := base) T C G hbr hps hpg, rfl, .ref b5, v, .ref b4, rfl, td_tup h14 ⟨_, _, rfl, rfl, _, _, rfl, hsc13.same s14, rfl⟩, hv13.same s14, S, hbr13.same s14, aok, fun v15 H15 s15 hv15 => ?_⟩
  have s135 := s14.trans s15
  walk_at "gof"
  walk_at "new"; rename_i b6 nb6 H16 s16 h16
  walk_at "gof"
  have s136 := s135.trans s16
  refine ⟨.ref b6, v, .ref b4, n, d, rows, g, .ask ps br, rfl, td_tup h16 ⟨_, _, rfl, rfl, _, _, rfl, hsc13.same s136, rfl⟩, hv13.same s136, S, hbr13.same s136, aok, by omega, fun p17 u17 H17 s17 h17 hu17 => ?_⟩
  refine r_gTup (SqT.of h17) rfl ?_
  walk_at "gof"
  rw [goMarks g]
  have s137 := s136.trans s17
  walk_at "gof"
  walk_at "rng"
  intro D nD
  have hd4 : d ≤ 4 := by omega
  refine lc_it walk_range (fun i H18 => Same H17 H18 ∧ H18 D = some (.lst ((turnsL i (goQ g)).map fun x : Nat => V.int x))) ⟨same_upd nD, upd_same⟩ (fun _ _ _ _ => trivial) (fun i x H18 H19 hi hp hy => ?_) (fun H18 hp => ?_)
  · obtain ⟨s18, h18⟩ := hp
    obtain ⟨rfl, hx⟩ := hy
    have hx : x = .int (i : Nat) := by rw [hx]; simp
    subst hx
    walk_at "gof"
    refine ⟨rfl, ?_⟩
    walk_at "gof"
    refine ⟨_, h18, smallL (by simp [turnsL]; omega), s18.putNew nD, ?_⟩
    rw [upd_same]
    simp only [turnsL, List.range_succ, List.map_append, List.map_cons, List.map_nil]
    congr 3
    rw [pow_int]
    congr 1
    by_cases hh : (goQ g : Int) < ((2 ^ i : Nat) : Int)
    · rw [if_pos hh, Nat.min_eq_right (by omega)]
    · rw [if_neg hh, Nat.min_eq_left (by omega)]
  obtain ⟨s18, h18⟩ := hp
  walk_at "gof"
  refine ⟨D, (turnsL d (goQ g)).map fun x : Nat => (x : Int), rfl, SqL.of (by rw [h18, List.map_map]; rfl), ?_⟩
  rw [sumN_cast]
  walk_at "gof"
  rw [goSecrets g]
  obtain ⟨eN, hN⟩ := carN_eq C hbr hps hpg
  have e2 : ((carN g n d (.ask ps br) : Nat) : Int) = (n : Int) * ((turnsL d (goQ g)).sum : Nat) * (g.num : Nat) := by
    rw [eN, Int.natCast_mul, Int.natCast_mul]
    rw [Int.mul_comm, Int.mul_comm (g.num : Int), ← Int.mul_assoc]
  have s188 := s137.trans s18
  have hv18 := hv13.same s188
  have hu18 := hu13.same s188
  have hm18 := hu17.same s18
  have hd18 := hv15.same ((s16.trans s17).trans s18)
  refine ite_f (by rw [decide_eq_true e2]; decide) ?_
  walk_at "gof"
  walk_at "iff"
  refine r_kwL ?_
  walk_at "gof"
  refine ⟨_, adv_cal (P := P) (base := base) T C G hbr hps hpg, rfl, rfl, rfl, v, u17, 1000000, rfl, hv18, .inl ⟨n, n + 1, rows, hv18, G⟩, hm18, by decide, by decide, fun v20 H20 s20 hv20 => ?_⟩
  walk_at "gof"
  refine ⟨v20, _, carN g n d (.ask ps br), rfl, hv20, adv_rb T C G hbr hps hpg, Nat.lt_of_le_of_lt hN (by decide), fun v21 H21 s21 hv21 => ?_⟩
  rw [main_law G d12 (law_br 2 br hbr).2.1 (law_br 2 br hbr).1 ps] at hv21
  walk_at "gof"
  refine ⟨_, _, hv21.dp, (hd18.same (s20.trans s21)).dp, frD_shaped _, frD_shaped _, ?_⟩
  rw [frD_eq]
  exact q _
end
end BB
set_option Elab.async false
set_option linter.all false
set_option maxRecDepth 100000
set_option maxHeartbeats 0
/-! The head, behind all: Tx of what was looked at; the law. -/
namespace BB
open PySem PySem.Spec PyProof.Rows L2
theorem iso_of {K : PySem.W.Frag} {C : Addr} (h : isoB K C = true) : IsO K C := by
  obtain ⟨h1, h2⟩ := He.ba h
  obtain ⟨h3, h4⟩ := He.ba h2
  exact ⟨He.eqO_ok h1, of_decide_eq_true h3, of_decide_eq_true h4⟩
theorem sil_of {K : PySem.W.Frag} (h : (PySem.W.makesIn K (He.ga K "Silent") && (He.eqO (PySem.W.findIn K (.ref (He.ga K "Silent")) "__init__") (some (some (.builtin "object.__init__"))) && PySem.W.keepIn K (.ref (He.ga K "Silent")))) = true) :
    PySem.W.makesIn K (aSilent K) = true ∧ PySem.W.findIn K (.ref (aSilent K)) "__init__" = some (some (.builtin "object.__init__")) ∧ PySem.W.keepIn K (.ref (aSilent K)) = true := by
  obtain ⟨h1, h2⟩ := He.ba h
  obtain ⟨h3, h4⟩ := He.ba h2
  exact ⟨h1, He.eqO_ok h3, h4⟩
theorem tab_of {w : World} {K : PySem.W.Frag} {a : Addr} {kvs : List (Str × He.Dv)} (t : ∃ es n, KDict K w a es n) (h : He.valsB K a kvs = true) : TabF K w a (kvs.map fun q => (q.1, q.2.v K)) := by
  refine ⟨t, fun q hq => ?_⟩
  obtain ⟨r, hr, rfl⟩ := List.mem_map.mp hq
  exact He.valsB_ok h hr
theorem ex_of {K : PySem.W.Frag} (e : exA K = true) (i : Nat) {f : PySem.W.Frag → Bool} (h : exL[i]? = some f) : f K = true := List.all_eq_true.mp e f (List.mem_of_getElem? h)
theorem tx_of {w : World} {K : PySem.W.Frag} {h : Heap} {mg : Str → Option Value} (X : K.In h) (G : h.Ns mainGlobals mg) (c : He.SaysT faL fnL tsL w K) (e : exA K = true) : Tx w K mg where
  f_len := He.free_ok X G (c.d.fact 0 (f := .free "len") rfl)
  f_isinstance := He.free_ok X G (c.d.fact 1 (f := .free "isinstance") rfl)
  f_all := He.free_ok X G (c.d.fact 2 (f := .free "all") rfl)
  f_int := He.free_ok X G (c.d.fact 3 (f := .free "int") rfl)
  f_max := He.free_ok X G (c.d.fact 4 (f := .free "max") rfl)
  f_min := He.free_ok X G (c.d.fact 5 (f := .free "min") rfl)
  f_sum := He.free_ok X G (c.d.fact 6 (f := .free "sum") rfl)
  f_range := He.free_ok X G (c.d.fact 7 (f := .free "range") rfl)
  f_zip := He.free_ok X G (c.d.fact 8 (f := .free "zip") rfl)
  f_reversed := He.free_ok X G (c.d.fact 9 (f := .free "reversed") rfl)
  f_enumerate := He.free_ok X G (c.d.fact 10 (f := .free "enumerate") rfl)
  f_tuple := He.free_ok X G (c.d.fact 11 (f := .free "tuple") rfl)
  f_list := He.free_ok X G (c.d.fact 12 (f := .free "list") rfl)
  f_abs := He.free_ok X G (c.d.fact 13 (f := .free "abs") rfl)
  f_sorted := He.free_ok X G (c.d.fact 14 (f := .free "sorted") rfl)
  f_str := He.free_ok X G (c.d.fact 15 (f := .free "str") rfl)
  f_bool := He.free_ok X G (c.d.fact 16 (f := .free "bool") rfl)
  k_MOST_LENGTH := (let ⟨t, h⟩ := He.int_ok X G (c.d.fact 17 (f := .int "MOST_LENGTH" 40) rfl); ⟨_, h, t, rfl⟩)
  k_MOST_BIT := (let ⟨t, h⟩ := He.int_ok X G (c.d.fact 18 (f := .int "MOST_BIT" 9999) rfl); ⟨_, h, t, rfl⟩)
  k_MOST_TOSSED := (let ⟨t, h⟩ := He.int_ok X G (c.d.fact 19 (f := .int "MOST_TOSSED" 64) rfl); ⟨_, h, t, rfl⟩)
  k_MOST_DEPTH := (let ⟨t, h⟩ := He.int_ok X G (c.d.fact 20 (f := .int "MOST_DEPTH" 60) rfl); ⟨_, h, t, rfl⟩)
  k_MOST_LAYERS := (let ⟨t, h⟩ := He.int_ok X G (c.d.fact 21 (f := .int "MOST_LAYERS" 20) rfl); ⟨_, h, t, rfl⟩)
  k_MOST_WITHIN := (let ⟨t, h⟩ := He.int_ok X G (c.d.fact 22 (f := .int "MOST_WITHIN" 2000) rfl); ⟨_, h, t, rfl⟩)
  k_MOST_ASKS := (let ⟨t, h⟩ := He.int_ok X G (c.d.fact 23 (f := .int "MOST_ASKS" 1000) rfl); ⟨_, h, t, rfl⟩)
  k_MOST_COUNTED := (let ⟨t, h⟩ := He.int_ok X G (c.d.fact 24 (f := .int "MOST_COUNTED" 256) rfl); ⟨_, h, t, rfl⟩)
  k_MOST_DEEP := (let ⟨t, h⟩ := He.int_ok X G (c.d.fact 25 (f := .int "MOST_DEEP" 8) rfl); ⟨_, h, t, rfl⟩)
  k_gcd := PySem.W.mg_of X G (He.eqO_ok (ex_of e 0 (f := e_gcd) rfl))
  k_PLAIN_WORDS := ⟨_, He.glo_ok X G (c.d.fact 26 (f := .glo "PLAIN_WORDS") rfl), rfl⟩
  plain := fun H => He.tupB_ok (ex_of e 1 (f := e_plain) rfl) H
  k_RUNS := ⟨_, He.glo_ok X G (c.d.fact 27 (f := .glo "RUNS") rfl), rfl⟩
  t_RUNS := tab_of (kvs := kv_RUNS) (c.tab 0 rfl) (ex_of e 2 (f := e_RUNS) rfl)
  k_SIZES := ⟨_, He.glo_ok X G (c.d.fact 28 (f := .glo "SIZES") rfl), rfl⟩
  t_SIZES := tab_of (kvs := kv_SIZES) (c.tab 1 rfl) (ex_of e 3 (f := e_SIZES) rfl)
  k_LAYERS := ⟨_, He.glo_ok X G (c.d.fact 29 (f := .glo "LAYERS") rfl), rfl⟩
  t_LAYERS := tab_of (kvs := kv_LAYERS) (c.tab 2 rfl) (ex_of e 4 (f := e_LAYERS) rfl)
  k_GOALS := ⟨_, He.glo_ok X G (c.d.fact 30 (f := .glo "GOALS") rfl), rfl⟩
  t_GOALS := tab_of (kvs := kv_GOALS) (c.tab 3 rfl) (ex_of e 5 (f := e_GOALS) rfl)
  noRun := fun x hx => He.eqO_ok (List.all_eq_true.mp (ex_of e 6 (f := e_noRun) rfl) x hx)
  g_fn := fun x hx => PySem.W.mg_of X G (He.eqO_ok (List.all_eq_true.mp (ex_of e 7 (f := e_gfn) rfl) x hx))
  k_OnetimeWorld := ⟨_, He.glo_ok X G (c.d.fact 31 (f := .glo "OnetimeWorld") rfl), rfl⟩
  isn := He.eqO_ok (ex_of e 8 (f := e_isn) rfl)
  ist := of_decide_eq_true (ex_of e 9 (f := e_ist) rfl)
  c_Silent := He.cls_ok (c.d.fact 32 (f := .cls "Silent") rfl)
  g_Silent := He.glo_ok X G (c.d.fact 33 (f := .glo "Silent") rfl)
  c_KeyedWorld := He.cls_ok (c.d.fact 34 (f := .cls "KeyedWorld") rfl)
  g_KeyedWorld := He.glo_ok X G (c.d.fact 35 (f := .glo "KeyedWorld") rfl)
  n_KeyedWorld := fun x hx => He.eqO_ok (List.all_eq_true.mp (ex_of e 10 (f := e_nKeyedWorld) rfl) x hx)
  c_AnyWorld := He.cls_ok (c.d.fact 36 (f := .cls "AnyWorld") rfl)
  g_AnyWorld := He.glo_ok X G (c.d.fact 37 (f := .glo "AnyWorld") rfl)
  n_AnyWorld := fun x hx => He.eqO_ok (List.all_eq_true.mp (ex_of e 11 (f := e_nAnyWorld) rfl) x hx)
  c_SecretWorld := He.cls_ok (c.d.fact 38 (f := .cls "SecretWorld") rfl)
  g_SecretWorld := He.glo_ok X G (c.d.fact 39 (f := .glo "SecretWorld") rfl)
  n_SecretWorld := fun x hx => He.eqO_ok (List.all_eq_true.mp (ex_of e 12 (f := e_nSecretWorld) rfl) x hx)
  c_MarkWorld := He.cls_ok (c.d.fact 40 (f := .cls "MarkWorld") rfl)
  g_MarkWorld := He.glo_ok X G (c.d.fact 41 (f := .glo "MarkWorld") rfl)
  n_MarkWorld := fun x hx => He.eqO_ok (List.all_eq_true.mp (ex_of e 13 (f := e_nMarkWorld) rfl) x hx)
  c_Stopped := He.cls_ok (c.d.fact 42 (f := .cls "Stopped") rfl)
  g_Stopped := He.glo_ok X G (c.d.fact 43 (f := .glo "Stopped") rfl)
  n_Stopped := fun x hx => He.eqO_ok (List.all_eq_true.mp (ex_of e 14 (f := e_nStopped) rfl) x hx)
  c_TreeWorld := He.cls_ok (c.d.fact 44 (f := .cls "TreeWorld") rfl)
  g_TreeWorld := He.glo_ok X G (c.d.fact 45 (f := .glo "TreeWorld") rfl)
  n_TreeWorld := fun x hx => He.eqO_ok (List.all_eq_true.mp (ex_of e 15 (f := e_nTreeWorld) rfl) x hx)
  c_Tape := He.cls_ok (c.d.fact 46 (f := .cls "Tape") rfl)
  g_Tape := He.glo_ok X G (c.d.fact 47 (f := .glo "Tape") rfl)
  n_Tape := fun x hx => He.eqO_ok (List.all_eq_true.mp (ex_of e 16 (f := e_nTape) rfl) x hx)
  c_Play := He.cls_ok (c.d.fact 48 (f := .cls "Play") rfl)
  g_Play := He.glo_ok X G (c.d.fact 49 (f := .glo "Play") rfl)
  n_Play := fun x hx => He.eqO_ok (List.all_eq_true.mp (ex_of e 17 (f := e_nPlay) rfl) x hx)
  c_Notes := He.cls_ok (c.d.fact 50 (f := .cls "Notes") rfl)
  g_Notes := He.glo_ok X G (c.d.fact 51 (f := .glo "Notes") rfl)
  n_Notes := fun x hx => He.eqO_ok (List.all_eq_true.mp (ex_of e 18 (f := e_nNotes) rfl) x hx)
  c_Table := He.cls_ok (c.d.fact 52 (f := .cls "Table") rfl)
  g_Table := He.glo_ok X G (c.d.fact 53 (f := .glo "Table") rfl)
  n_Table := fun x hx => He.eqO_ok (List.all_eq_true.mp (ex_of e 19 (f := e_nTable) rfl) x hx)
  c_Ways := He.cls_ok (c.d.fact 54 (f := .cls "Ways") rfl)
  g_Ways := He.glo_ok X G (c.d.fact 55 (f := .glo "Ways") rfl)
  n_Ways := fun x hx => He.eqO_ok (List.all_eq_true.mp (ex_of e 20 (f := e_nWays) rfl) x hx)
  silent := sil_of (ex_of e 21 (f := e_silent) rfl)
  o_KeyedWorld := iso_of (ex_of e 22 (f := e_oKeyedWorld) rfl)
  o_AnyWorld := iso_of (ex_of e 23 (f := e_oAnyWorld) rfl)
  o_SecretWorld := iso_of (ex_of e 24 (f := e_oSecretWorld) rfl)
  o_MarkWorld := iso_of (ex_of e 25 (f := e_oMarkWorld) rfl)
  o_TreeWorld := iso_of (ex_of e 26 (f := e_oTreeWorld) rfl)
  o_Notes := iso_of (ex_of e 27 (f := e_oNotes) rfl)
  fn_bits := (let ⟨fd, h⟩ := (c.d.def_ 0 (d := d_bits) rfl); ⟨_, fd, h, He.glo_ok X G (c.d.fact 56 (f := .glo "bits") rfl)⟩)
  fn_number_of := (let ⟨fd, h⟩ := (c.d.def_ 1 (d := d_number_of) rfl); ⟨_, fd, h, He.glo_ok X G (c.d.fact 57 (f := .glo "number_of") rfl)⟩)
  fn_xor := (let ⟨fd, h⟩ := (c.d.def_ 2 (d := d_xor) rfl); ⟨_, fd, h, He.glo_ok X G (c.d.fact 58 (f := .glo "xor") rfl)⟩)
  fn_is_number := (let ⟨fd, h⟩ := (c.d.def_ 3 (d := d_is_number) rfl); ⟨_, fd, h, He.glo_ok X G (c.d.fact 59 (f := .glo "is_number") rfl)⟩)
  fn_is_bits := (let ⟨fd, h⟩ := (c.d.def_ 4 (d := d_is_bits) rfl); ⟨_, fd, h, He.glo_ok X G (c.d.fact 60 (f := .glo "is_bits") rfl)⟩)
  fn_is_row := (let ⟨fd, h⟩ := (c.d.def_ 5 (d := d_is_row) rfl); ⟨_, fd, h, He.glo_ok X G (c.d.fact 61 (f := .glo "is_row") rfl)⟩)
  fn_is_generator := (let ⟨fd, h⟩ := (c.d.def_ 6 (d := d_is_generator) rfl); ⟨_, fd, h, He.glo_ok X G (c.d.fact 62 (f := .glo "is_generator") rfl)⟩)
  fn_is_function := (let ⟨fd, h⟩ := (c.d.def_ 7 (d := d_is_function) rfl); ⟨_, fd, h, He.glo_ok X G (c.d.fact 63 (f := .glo "is_function") rfl)⟩)
  fn_check_block := (let ⟨fd, h⟩ := (c.d.def_ 8 (d := d_check_block) rfl); ⟨_, fd, h, He.glo_ok X G (c.d.fact 64 (f := .glo "check_block") rfl)⟩)
  fn_row_at := (let ⟨fd, h⟩ := (c.d.def_ 9 (d := d_row_at) rfl); ⟨_, fd, h, He.glo_ok X G (c.d.fact 65 (f := .glo "row_at") rfl)⟩)
  fn_value_at := (let ⟨fd, h⟩ := (c.d.def_ 10 (d := d_value_at) rfl); ⟨_, fd, h, He.glo_ok X G (c.d.fact 66 (f := .glo "value_at") rfl)⟩)
  fn_put_out := (let ⟨fd, h⟩ := (c.d.def_ 11 (d := d_put_out) rfl); ⟨_, fd, h, He.glo_ok X G (c.d.fact 67 (f := .glo "put_out") rfl)⟩)
  fn_longer := (let ⟨fd, h⟩ := (c.d.def_ 12 (d := d_longer) rfl); ⟨_, fd, h, He.glo_ok X G (c.d.fact 68 (f := .glo "longer") rfl)⟩)
  fn_go_down := (let ⟨fd, h⟩ := (c.d.def_ 13 (d := d_go_down) rfl); ⟨_, fd, h, He.glo_ok X G (c.d.fact 69 (f := .glo "go_down") rfl)⟩)
  fn_half := (let ⟨fd, h⟩ := (c.d.def_ 14 (d := d_half) rfl); ⟨_, fd, h, He.glo_ok X G (c.d.fact 70 (f := .glo "half") rfl)⟩)
  fn_tree := (let ⟨fd, h⟩ := (c.d.def_ 15 (d := d_tree) rfl); ⟨_, fd, h, He.glo_ok X G (c.d.fact 71 (f := .glo "tree") rfl)⟩)
  fn_tree_turns := (let ⟨fd, h⟩ := (c.d.def_ 16 (d := d_tree_turns) rfl); ⟨_, fd, h, He.glo_ok X G (c.d.fact 72 (f := .glo "tree_turns") rfl)⟩)
  fn_is_plain := (let ⟨fd, h⟩ := (c.d.def_ 17 (d := d_is_plain) rfl); ⟨_, fd, h, He.glo_ok X G (c.d.fact 73 (f := .glo "is_plain") rfl)⟩)
  fn_are_parts := (let ⟨fd, h⟩ := (c.d.def_ 18 (d := d_are_parts) rfl); ⟨_, fd, h, He.glo_ok X G (c.d.fact 74 (f := .glo "are_parts") rfl)⟩)
  fn_inner_plain := (let ⟨fd, h⟩ := (c.d.def_ 19 (d := d_inner_plain) rfl); ⟨_, fd, h, He.glo_ok X G (c.d.fact 75 (f := .glo "inner_plain") rfl)⟩)
  fn_check_plain_breakers := (let ⟨fd, h⟩ := (c.d.def_ 20 (d := d_check_plain_breakers) rfl); ⟨_, fd, h, He.glo_ok X G (c.d.fact 76 (f := .glo "check_plain_breakers") rfl)⟩)
  fn_fits_longer := (let ⟨fd, h⟩ := (c.d.def_ 21 (d := d_fits_longer) rfl); ⟨_, fd, h, He.glo_ok X G (c.d.fact 77 (f := .glo "fits_longer") rfl)⟩)
  fn_fits_tree := (let ⟨fd, h⟩ := (c.d.def_ 22 (d := d_fits_tree) rfl); ⟨_, fd, h, He.glo_ok X G (c.d.fact 78 (f := .glo "fits_tree") rfl)⟩)
  fn_is_length := (let ⟨fd, h⟩ := (c.d.def_ 23 (d := d_is_length) rfl); ⟨_, fd, h, He.glo_ok X G (c.d.fact 79 (f := .glo "is_length") rfl)⟩)
  fn_fits_word := (let ⟨fd, h⟩ := (c.d.def_ 24 (d := d_fits_word) rfl); ⟨_, fd, h, He.glo_ok X G (c.d.fact 80 (f := .glo "fits_word") rfl)⟩)
  fn_has_plain_word := (let ⟨fd, h⟩ := (c.d.def_ 25 (d := d_has_plain_word) rfl); ⟨_, fd, h, He.glo_ok X G (c.d.fact 81 (f := .glo "has_plain_word") rfl)⟩)
  fn_check_breaker := (let ⟨fd, h⟩ := (c.d.def_ 26 (d := d_check_breaker) rfl); ⟨_, fd, h, He.glo_ok X G (c.d.fact 82 (f := .glo "check_breaker") rfl)⟩)
  fn_most_plain_asks := (let ⟨fd, h⟩ := (c.d.def_ 27 (d := d_most_plain_asks) rfl); ⟨_, fd, h, He.glo_ok X G (c.d.fact 83 (f := .glo "most_plain_asks") rfl)⟩)
  fn_most_asks := (let ⟨fd, h⟩ := (c.d.def_ 28 (d := d_most_asks) rfl); ⟨_, fd, h, He.glo_ok X G (c.d.fact 84 (f := .glo "most_asks") rfl)⟩)
  fn_KeyedWorld_init := (let ⟨fd, h⟩ := (c.d.def_ 29 (d := d_KeyedWorld_init) rfl); ⟨_, fd, h, He.mkr_ok (c.d.fact 85 (f := .mkr "KeyedWorld") rfl)⟩)
  fn_KeyedWorld_answer := (let ⟨fd, h⟩ := (c.d.def_ 30 (d := d_KeyedWorld_answer) rfl); ⟨_, fd, h, He.meth_ok (c.d.fact 86 (f := .meth "KeyedWorld" "answer") rfl)⟩)
  fn_AnyWorld_init := (let ⟨fd, h⟩ := (c.d.def_ 31 (d := d_AnyWorld_init) rfl); ⟨_, fd, h, He.mkr_ok (c.d.fact 87 (f := .mkr "AnyWorld") rfl)⟩)
  fn_AnyWorld_answer := (let ⟨fd, h⟩ := (c.d.def_ 32 (d := d_AnyWorld_answer) rfl); ⟨_, fd, h, He.meth_ok (c.d.fact 88 (f := .meth "AnyWorld" "answer") rfl)⟩)
  fn_SecretWorld_init := (let ⟨fd, h⟩ := (c.d.def_ 33 (d := d_SecretWorld_init) rfl); ⟨_, fd, h, He.mkr_ok (c.d.fact 89 (f := .mkr "SecretWorld") rfl)⟩)
  fn_SecretWorld_answer := (let ⟨fd, h⟩ := (c.d.def_ 34 (d := d_SecretWorld_answer) rfl); ⟨_, fd, h, He.meth_ok (c.d.fact 90 (f := .meth "SecretWorld" "answer") rfl)⟩)
  fn_MarkWorld_init := (let ⟨fd, h⟩ := (c.d.def_ 35 (d := d_MarkWorld_init) rfl); ⟨_, fd, h, He.mkr_ok (c.d.fact 91 (f := .mkr "MarkWorld") rfl)⟩)
  fn_MarkWorld_answer := (let ⟨fd, h⟩ := (c.d.def_ 36 (d := d_MarkWorld_answer) rfl); ⟨_, fd, h, He.meth_ok (c.d.fact 92 (f := .meth "MarkWorld" "answer") rfl)⟩)
  fn_made_string := (let ⟨fd, h⟩ := (c.d.def_ 37 (d := d_made_string) rfl); ⟨_, fd, h, He.glo_ok X G (c.d.fact 93 (f := .glo "made_string") rfl)⟩)
  fn_Stopped_init := (let ⟨fd, h⟩ := (c.d.def_ 38 (d := d_Stopped_init) rfl); ⟨_, fd, h, He.mkr_ok (c.d.fact 94 (f := .mkr "Stopped") rfl)⟩)
  fn_Stopped_now := (let ⟨fd, h⟩ := (c.d.def_ 39 (d := d_Stopped_now) rfl); ⟨_, fd, h, He.meth_ok (c.d.fact 95 (f := .meth "Stopped" "now") rfl)⟩)
  fn_run_plain := (let ⟨fd, h⟩ := (c.d.def_ 40 (d := d_run_plain) rfl); ⟨_, fd, h, He.glo_ok X G (c.d.fact 96 (f := .glo "run_plain") rfl)⟩)
  fn_run_longer := (let ⟨fd, h⟩ := (c.d.def_ 41 (d := d_run_longer) rfl); ⟨_, fd, h, He.glo_ok X G (c.d.fact 97 (f := .glo "run_longer") rfl)⟩)
  fn_TreeWorld_init := (let ⟨fd, h⟩ := (c.d.def_ 42 (d := d_TreeWorld_init) rfl); ⟨_, fd, h, He.mkr_ok (c.d.fact 98 (f := .mkr "TreeWorld") rfl)⟩)
  fn_TreeWorld_pair_of := (let ⟨fd, h⟩ := (c.d.def_ 43 (d := d_TreeWorld_pair_of) rfl); ⟨_, fd, h, He.meth_ok (c.d.fact 99 (f := .meth "TreeWorld" "pair_of") rfl)⟩)
  fn_TreeWorld_answer := (let ⟨fd, h⟩ := (c.d.def_ 44 (d := d_TreeWorld_answer) rfl); ⟨_, fd, h, He.meth_ok (c.d.fact 100 (f := .meth "TreeWorld" "answer") rfl)⟩)
  fn_run_tree := (let ⟨fd, h⟩ := (c.d.def_ 45 (d := d_run_tree) rfl); ⟨_, fd, h, He.glo_ok X G (c.d.fact 101 (f := .glo "run_tree") rfl)⟩)
  fn_run_marks := (let ⟨fd, h⟩ := (c.d.def_ 46 (d := d_run_marks) rfl); ⟨_, fd, h, He.glo_ok X G (c.d.fact 102 (f := .glo "run_marks") rfl)⟩)
  fn_guessed := (let ⟨fd, h⟩ := (c.d.def_ 47 (d := d_guessed) rfl); ⟨_, fd, h, He.glo_ok X G (c.d.fact 103 (f := .glo "guessed") rfl)⟩)
  fn_run_secrets := (let ⟨fd, h⟩ := (c.d.def_ 48 (d := d_run_secrets) rfl); ⟨_, fd, h, He.glo_ok X G (c.d.fact 104 (f := .glo "run_secrets") rfl)⟩)
  fn_run_breaker := (let ⟨fd, h⟩ := (c.d.def_ 49 (d := d_run_breaker) rfl); ⟨_, fd, h, He.glo_ok X G (c.d.fact 105 (f := .glo "run_breaker") rfl)⟩)
  fn_Tape_init := (let ⟨fd, h⟩ := (c.d.def_ 50 (d := d_Tape_init) rfl); ⟨_, fd, h, He.mkr_ok (c.d.fact 106 (f := .mkr "Tape") rfl)⟩)
  fn_Tape_draw := (let ⟨fd, h⟩ := (c.d.def_ 51 (d := d_Tape_draw) rfl); ⟨_, fd, h, He.meth_ok (c.d.fact 107 (f := .meth "Tape" "draw") rfl)⟩)
  fn_Tape_string := (let ⟨fd, h⟩ := (c.d.def_ 52 (d := d_Tape_string) rfl); ⟨_, fd, h, He.meth_ok (c.d.fact 108 (f := .meth "Tape" "string") rfl)⟩)
  fn_is_truth := (let ⟨fd, h⟩ := (c.d.def_ 53 (d := d_is_truth) rfl); ⟨_, fd, h, He.glo_ok X G (c.d.fact 109 (f := .glo "is_truth") rfl)⟩)
  fn_is_right := (let ⟨fd, h⟩ := (c.d.def_ 54 (d := d_is_right) rfl); ⟨_, fd, h, He.glo_ok X G (c.d.fact 110 (f := .glo "is_right") rfl)⟩)
  fn_check_game := (let ⟨fd, h⟩ := (c.d.def_ 55 (d := d_check_game) rfl); ⟨_, fd, h, He.glo_ok X G (c.d.fact 111 (f := .glo "check_game") rfl)⟩)
  fn_Play_init := (let ⟨fd, h⟩ := (c.d.def_ 56 (d := d_Play_init) rfl); ⟨_, fd, h, He.mkr_ok (c.d.fact 112 (f := .mkr "Play") rfl)⟩)
  fn_Notes_init := (let ⟨fd, h⟩ := (c.d.def_ 57 (d := d_Notes_init) rfl); ⟨_, fd, h, He.mkr_ok (c.d.fact 113 (f := .mkr "Notes") rfl)⟩)
  fn_Notes_answer := (let ⟨fd, h⟩ := (c.d.def_ 58 (d := d_Notes_answer) rfl); ⟨_, fd, h, He.meth_ok (c.d.fact 114 (f := .meth "Notes" "answer") rfl)⟩)
  fn_cover := (let ⟨fd, h⟩ := (c.d.def_ 59 (d := d_cover) rfl); ⟨_, fd, h, He.glo_ok X G (c.d.fact 115 (f := .glo "cover") rfl)⟩)
  fn_function_world := (let ⟨fd, h⟩ := (c.d.def_ 60 (d := d_function_world) rfl); ⟨_, fd, h, He.glo_ok X G (c.d.fact 116 (f := .glo "function_world") rfl)⟩)
  fn_Table_init := (let ⟨fd, h⟩ := (c.d.def_ 61 (d := d_Table_init) rfl); ⟨_, fd, h, He.mkr_ok (c.d.fact 117 (f := .mkr "Table") rfl)⟩)
  fn_Table_begin_asks := (let ⟨fd, h⟩ := (c.d.def_ 62 (d := d_Table_begin_asks) rfl); ⟨_, fd, h, He.meth_ok (c.d.fact 118 (f := .meth "Table" "begin_asks") rfl)⟩)
  fn_Table_begin_challenge := (let ⟨fd, h⟩ := (c.d.def_ 63 (d := d_Table_begin_challenge) rfl); ⟨_, fd, h, He.meth_ok (c.d.fact 119 (f := .meth "Table" "begin_challenge") rfl)⟩)
  fn_Table_is_marked := (let ⟨fd, h⟩ := (c.d.def_ 64 (d := d_Table_is_marked) rfl); ⟨_, fd, h, He.meth_ok (c.d.fact 120 (f := .meth "Table" "is_marked") rfl)⟩)
  fn_Table_has_won := (let ⟨fd, h⟩ := (c.d.def_ 65 (d := d_Table_has_won) rfl); ⟨_, fd, h, He.meth_ok (c.d.fact 121 (f := .meth "Table" "has_won") rfl)⟩)
  fn_played := (let ⟨fd, h⟩ := (c.d.def_ 66 (d := d_played) rfl); ⟨_, fd, h, He.glo_ok X G (c.d.fact 122 (f := .glo "played") rfl)⟩)
  fn_fraction := (let ⟨fd, h⟩ := (c.d.def_ 67 (d := d_fraction) rfl); ⟨_, fd, h, He.glo_ok X G (c.d.fact 123 (f := .glo "fraction") rfl)⟩)
  fn_add := (let ⟨fd, h⟩ := (c.d.def_ 68 (d := d_add) rfl); ⟨_, fd, h, He.glo_ok X G (c.d.fact 124 (f := .glo "add") rfl)⟩)
  fn_less := (let ⟨fd, h⟩ := (c.d.def_ 69 (d := d_less) rfl); ⟨_, fd, h, He.glo_ok X G (c.d.fact 125 (f := .glo "less") rfl)⟩)
  fn_next_choices := (let ⟨fd, h⟩ := (c.d.def_ 70 (d := d_next_choices) rfl); ⟨_, fd, h, He.glo_ok X G (c.d.fact 126 (f := .glo "next_choices") rfl)⟩)
  fn_Ways_init := (let ⟨fd, h⟩ := (c.d.def_ 71 (d := d_Ways_init) rfl); ⟨_, fd, h, He.mkr_ok (c.d.fact 127 (f := .mkr "Ways") rfl)⟩)
  fn_Ways_count := (let ⟨fd, h⟩ := (c.d.def_ 72 (d := d_Ways_count) rfl); ⟨_, fd, h, He.meth_ok (c.d.fact 128 (f := .meth "Ways" "count") rfl)⟩)
  fn_Ways_chance := (let ⟨fd, h⟩ := (c.d.def_ 73 (d := d_Ways_chance) rfl); ⟨_, fd, h, He.meth_ok (c.d.fact 129 (f := .meth "Ways" "chance") rfl)⟩)
  fn_ways_of := (let ⟨fd, h⟩ := (c.d.def_ 74 (d := d_ways_of) rfl); ⟨_, fd, h, He.glo_ok X G (c.d.fact 130 (f := .glo "ways_of") rfl)⟩)
  fn_chance := (let ⟨fd, h⟩ := (c.d.def_ 75 (d := d_chance) rfl); ⟨_, fd, h, He.glo_ok X G (c.d.fact 131 (f := .glo "chance") rfl)⟩)
  fn_advantage := (let ⟨fd, h⟩ := (c.d.def_ 76 (d := d_advantage) rfl); ⟨_, fd, h, He.glo_ok X G (c.d.fact 132 (f := .glo "advantage") rfl)⟩)
  fn_layers_of := (let ⟨fd, h⟩ := (c.d.def_ 77 (d := d_layers_of) rfl); ⟨_, fd, h, He.glo_ok X G (c.d.fact 133 (f := .glo "layers_of") rfl)⟩)
  fn_tables_of := (let ⟨fd, h⟩ := (c.d.def_ 78 (d := d_tables_of) rfl); ⟨_, fd, h, He.glo_ok X G (c.d.fact 134 (f := .glo "tables_of") rfl)⟩)
  fn_built := (let ⟨fd, h⟩ := (c.d.def_ 79 (d := d_built) rfl); ⟨_, fd, h, He.glo_ok X G (c.d.fact 135 (f := .glo "built") rfl)⟩)
  fn_check_goal := (let ⟨fd, h⟩ := (c.d.def_ 80 (d := d_check_goal) rfl); ⟨_, fd, h, He.glo_ok X G (c.d.fact 136 (f := .glo "check_goal") rfl)⟩)
  fn_check_plain_schemes := (let ⟨fd, h⟩ := (c.d.def_ 81 (d := d_check_plain_schemes) rfl); ⟨_, fd, h, He.glo_ok X G (c.d.fact 137 (f := .glo "check_plain_schemes") rfl)⟩)
  fn_gain := (let ⟨fd, h⟩ := (c.d.def_ 82 (d := d_gain) rfl); ⟨_, fd, h, He.glo_ok X G (c.d.fact 138 (f := .glo "gain") rfl)⟩)
  fn_first_made := (let ⟨fd, h⟩ := (c.d.def_ 83 (d := d_first_made) rfl); ⟨_, fd, h, He.glo_ok X G (c.d.fact 139 (f := .glo "first_made") rfl)⟩)
  fn_carried := (let ⟨fd, h⟩ := (c.d.def_ 84 (d := d_carried) rfl); ⟨_, fd, h, He.glo_ok X G (c.d.fact 140 (f := .glo "carried") rfl)⟩)
  fn_law_draws := (let ⟨fd, h⟩ := (c.d.def_ 85 (d := d_law_draws) rfl); ⟨_, fd, h, He.glo_ok X G (c.d.fact 141 (f := .glo "_law_draws") rfl)⟩)
  fn_law_take := (let ⟨fd, h⟩ := (c.d.def_ 86 (d := d_law_take) rfl); ⟨_, fd, h, He.glo_ok X G (c.d.fact 142 (f := .glo "_law_take") rfl)⟩)
  fn_law_string := (let ⟨fd, h⟩ := (c.d.def_ 87 (d := d_law_string) rfl); ⟨_, fd, h, He.glo_ok X G (c.d.fact 143 (f := .glo "_law_string") rfl)⟩)
  fn_law_parts := (let ⟨fd, h⟩ := (c.d.def_ 88 (d := d_law_parts) rfl); ⟨_, fd, h, He.glo_ok X G (c.d.fact 144 (f := .glo "_law_parts") rfl)⟩)
  fn_law_breaker := (let ⟨fd, h⟩ := (c.d.def_ 89 (d := d_law_breaker) rfl); ⟨_, fd, h, He.glo_ok X G (c.d.fact 145 (f := .glo "_law_breaker") rfl)⟩)
  fn_law_table := (let ⟨fd, h⟩ := (c.d.def_ 90 (d := d_law_table) rfl); ⟨_, fd, h, He.glo_ok X G (c.d.fact 146 (f := .glo "_law_table") rfl)⟩)
  fn_law_gcd := (let ⟨fd, h⟩ := (c.d.def_ 91 (d := d_law_gcd) rfl); ⟨_, fd, h, He.glo_ok X G (c.d.fact 147 (f := .glo "_law_gcd") rfl)⟩)
  fn_law_fraction := (let ⟨fd, h⟩ := (c.d.def_ 92 (d := d_law_fraction) rfl); ⟨_, fd, h, He.glo_ok X G (c.d.fact 148 (f := .glo "_law_fraction") rfl)⟩)
  fn_law_times := (let ⟨fd, h⟩ := (c.d.def_ 93 (d := d_law_times) rfl); ⟨_, fd, h, He.glo_ok X G (c.d.fact 149 (f := .glo "_law_times") rfl)⟩)
  fn_law := (let ⟨fd, h⟩ := (c.d.def_ 94 (d := d_law) rfl); ⟨_, fd, h, He.glo_ok X G (c.d.fact 150 (f := .glo "law") rfl)⟩)
theorem run (w : World) : HandSHeadRun.RunEqI rowR (PySem.W.view rowR.prog [0, 132]) hkZ obH 12000 namesZ w := by
  obtain ⟨x, hx, h1⟩ := Option.map_eq_some_iff.mp (p1 w)
  obtain ⟨x2, hx2, h2⟩ := Option.map_eq_some_iff.mp (p2 w)
  obtain ⟨x3, hx3, h3⟩ := Option.map_eq_some_iff.mp (p3 w)
  obtain ⟨x4, hx4, h4⟩ := Option.map_eq_some_iff.mp (p4 w)
  obtain ⟨x5, hx5, h5⟩ := Option.map_eq_some_iff.mp (p5 w)
  rw [hx] at hx2 hx3 hx4 hx5
  obtain rfl := Option.some.inj hx2
  obtain rfl := Option.some.inj hx3
  obtain rfl := Option.some.inj hx4
  obtain rfl := Option.some.inj hx5
  obtain ⟨a1, a2⟩ := Prod.mk.inj h4
  obtain ⟨a3, a4⟩ := Prod.mk.inj h5
  show (WW w).map _ = _
  rw [hx]
  refine congrArg some (Prod.ext h1 (Prod.ext h2 ?_))
  refine Prod.ext (Prod.ext (Prod.ext ?_ a1) a3) a4
  show (_ && _) = true
  rw [h3, a2]
  rfl
theorem facts {P : Program} {w : World} {K : PySem.W.Frag} {h : Heap} {mg : Str → Option Value} {f : Addr} (X : K.In h) (G : h.Ns mainGlobals mg) (hfa : mg ("law" : Str) = some (.ref f)) (c : He.SaysT faL fnL tsL w K) (e : exA K = true) :
    ∃ fd : FuncData, (∀ (s : Shared) (v : Value), BindsTo s fd ⟨[v], []⟩ [("_law_script", v)]) ∧ ∀ base : Heap, K.In base → base.Ns mainGlobals mg → FnOk P w K mg base CX0 27 f fd ["_law_script"] (spN 1 (spLaw K)) := by
  have T := tx_of X G c e
  obtain ⟨f', fd, F, hm⟩ := T.fn_law.ex
  have e2 := hfa.symm.trans hm
  cases e2
  have b := FunD.bindsA (ps := ["_law_script"]) F fun _ _ _ _ _ _ us hl => match us, hl with | [_], _ => rfl
  exact ⟨fd, fun s v => b s [v] rfl, fun base _ _ => law_ok T F⟩
end BB
open PySem PySem.W PySem.Calls PyProof.Rows
theorem PySem.Challenge.cw_breakback_k43_whole_two_layers_holds : PySem.Challenge.rw_breakback_k43_whole_two_layers.Holds := by
  w_on; o_law
  refine HandSHeadRun.head_imp (r := OpenLaw.row PySem.Challenge.rw_breakback_k43_whole_two_layers) (q := view (OpenLaw.row PySem.Challenge.rw_breakback_k43_whole_two_layers).prog [0, 132]) (H := BB.hkZ) (ob := BB.obH) (M := 12000) (loose := BB.namesZ) (d := HandSHeadRun.topDef (OpenLaw.row PySem.Challenge.rw_breakback_k43_whole_two_layers).prog 132) (kwd := []) BB.obH_eq
    BB.run (by kernel_rfl) (by kernel_rfl) (by kernel_rfl) (by rfl) (by first | assumption | decide +kernel) (by decide +kernel) ⟨rfl, rfl, rfl, rfl, rfl, by decide +kernel⟩ ?hw ?hc
  case hw => w_witness2
  case hc =>
    refine L2.walk_ofE (l := PySem.Challenge.rw_breakback_k43_whole_two_layers) (n := 63) (k := 27) (x := "_law_script") (CX := L2.CX0) rfl (by decide) (by kernel_rfl) ⟨rfl, by decide, by decide⟩ ?F (fun _ _ _ _ z => z)
    intro w mg fa h Y G hmg0
    obtain ⟨K, KX, c, e⟩ := Y
    have hmg : mg ("law" : PySem.Str) = some (.ref fa) := by
      have e : (HandSHeadRun.topDef (OpenLaw.row PySem.Challenge.rw_breakback_k43_whole_two_layers).prog 132).name = ("law" : PySem.Str) := by kernel_rfl
      rw [← e]
      exact hmg0
    obtain ⟨fd, hb, hF⟩ := BB.facts (P := (PySem.Challenge.rw_breakback_k43_whole_two_layers).prog) (w := w) KX G hmg c e
    exact ⟨K, fd, BB.spN 1 (BB.spLaw K), KX, hb, fun H a ns hl _ hS => ⟨rfl, a, ns, rfl, hS, hl, fun _ => rfl⟩, hF⟩
