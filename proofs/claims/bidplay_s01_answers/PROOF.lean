import PyProof.Rows.All
import Wide.All
import OpenK.AllK
import Wide.FinOn
import PyProof.EqAt
import PyProof.EqKinds
import PyProof.TupleCall
import KE.KStateDown
import Open.SpecLaws
import KE.OsGo
import HandS.ForMost
import HandS.ForSpec
import HandS.Defaults
import HandS.Head0
import HandS.Head1
import HandS.Head2
import HandS.HeadHook1
import HandS.HeadHook2
import HandS.HeadHook3
import HandS.IsInst
import HandS.Wide
import HandS.SortInts
import HandS.Zip
import HandS.Walk
import HandS.Rev
import HandS.Conv
import HandS.ExcField
import HandS.ExcInit
import HandS.ExcSuper
import HandS.NoneIn
import KE.GoesComp
import KE.GoesRaise
import KE.KAsSuite
import KE.GoesEnum
import HandS.Steps
import HandS.TryOnly
import HandS.ExcOwn
import HandS.Head4
import PySem.Challenge.RW_bidplay_s01_answers
set_option Elab.async false
set_option linter.all false
set_option maxRecDepth 100000
set_option maxHeartbeats 4000000
/-! ## BdText -/
section
/-! The text by its places; what the top leaves, as data and as one Prop (TxK). Printed by gen_head.py. -/
namespace Bd
open PySem PySem.Spec PyProof.Rows L2
abbrev R : PySem.W.OpenSpec := PySem.Challenge.rw_bidplay_s01_answers
def top (i : Nat) : Stmt := PySem.Challenge.pw_bidplay_s01_answers.main.body.getD i (.Pass ⟨0, 0, 0, 0⟩)
abbrev s_is_list : Stmt := top 6
abbrev s_as_number : Stmt := top 7
abbrev s_as_list : Stmt := top 8
abbrev s_fail_if : Stmt := top 9
abbrev s_truth : Stmt := top 10
abbrev s_calculate : Stmt := top 11
abbrev s_are_same : Stmt := top 12
abbrev s_member_at : Stmt := top 13
abbrev s_numbers_between : Stmt := top 14
abbrev s_pair_operation : Stmt := top 15
abbrev s_filled_operation : Stmt := top 16
abbrev s_single_operation : Stmt := top 17
abbrev s_operate : Stmt := top 18
abbrev s_checked : Stmt := top 19
abbrev s_number_expression : Stmt := top 22
abbrev s_with_inner : Stmt := top 23
abbrev s_function_named : Stmt := top 26
abbrev s_count_inner : Stmt := top 27
abbrev s_count_all : Stmt := top 28
abbrev s_are_numbers : Stmt := top 32
abbrev s_constant : Stmt := top 33
abbrev s_folded_operation : Stmt := top 34
abbrev s_folded_choice : Stmt := top 35
abbrev s_folded : Stmt := top 36
abbrev s_folded_program : Stmt := top 37
abbrev s_begin : Stmt := top 43
abbrev s_with_name : Stmt := top 44
abbrev s_next_in_order : Stmt := top 45
abbrev s_next_of_if : Stmt := top 46
abbrev s_next_of_let : Stmt := top 47
abbrev s_next_of_walk : Stmt := top 48
abbrev s_next_of_both : Stmt := top 49
abbrev s_next_of_call : Stmt := top 50
abbrev s_next_part : Stmt := top 51
abbrev s_variable_value : Stmt := top 52
abbrev s_kept : Stmt := top 53
abbrev s_value_of : Stmt := top 54
abbrev s_work_out : Stmt := top 55
abbrev s_scores : Stmt := top 57
abbrev s_hand : Stmt := top 58
abbrev s_inputs_for : Stmt := top 59
abbrev s_bid_failure : Stmt := top 60
abbrev s_bid_of : Stmt := top 61
abbrev s_match : Stmt := top 62
abbrev s_match_margin : Stmt := top 63
abbrev s_best_from : Stmt := top 64
abbrev s_full_places : Stmt := top 68
abbrev s_is_digit : Stmt := top 78
abbrev s_digits_number : Stmt := top 79
abbrev s_number_of : Stmt := top 80
abbrev s_is_language : Stmt := top 81
abbrev s_is_name : Stmt := top 82
abbrev s_operation_of : Stmt := top 83
abbrev s_takes : Stmt := top 84
abbrev s_form_parts : Stmt := top 85
abbrev s_bytes_of : Stmt := top 91
abbrev s_in_brackets : Stmt := top 92
abbrev s_head_rows : Stmt := top 93
abbrev s_expression_bytes : Stmt := top 94
abbrev s_function_bytes : Stmt := top 95
abbrev s_program_bytes : Stmt := top 96
abbrev s_is_word : Stmt := top 105
abbrev s_letters_of : Stmt := top 106
abbrev s_is_blank : Stmt := top 107
abbrev s_is_bracket : Stmt := top 108
abbrev s_may_stand : Stmt := top 109
abbrev s_check_bytes : Stmt := top 110
abbrev s_word_end : Stmt := top 111
abbrev s_trees_of : Stmt := top 112
abbrev s_wrong : Stmt := top 118
abbrev s_need : Stmt := top 119
abbrev s_read_parameters : Stmt := top 120
abbrev s_read_head : Stmt := top 121
abbrev s_read_heads : Stmt := top 122
abbrev s_parameter_count : Stmt := top 123
abbrev s_read_word : Stmt := top 124
abbrev s_read_all : Stmt := top 125
abbrev s_read_binding : Stmt := top 126
abbrev s_read_form : Stmt := top 127
abbrev s_read_bracket : Stmt := top 128
abbrev s_read_expression : Stmt := top 129
abbrev s_read_program : Stmt := top 130
abbrev s_call_load : Stmt := top 132
abbrev s_call_size : Stmt := top 133
abbrev s_call_prizes : Stmt := top 134
abbrev s_call_bid : Stmt := top 135
abbrev s_call_play : Stmt := top 136
abbrev s_call_best : Stmt := top 137
abbrev s_points_for : Stmt := top 138
abbrev s_league_row : Stmt := top 139
abbrev s_call_league : Stmt := top 140
abbrev s_call_fold : Stmt := top 141
abbrev s_call_drop : Stmt := top 142
abbrev s_work : Stmt := top 143
abbrev s_are_within : Stmt := top 154
abbrev s_lists_fit : Stmt := top 155
abbrev s_needed_places : Stmt := top 156
abbrev s_are_cards : Stmt := top 157
abbrev s_bids_fit : Stmt := top 158
abbrev s_refusal : Stmt := top 159
abbrev s_answer_to : Stmt := top 161
abbrev s_read_rows : Stmt := top 162
abbrev s_answers : Stmt := top 163
abbrev s_TextFault : Stmt := inClass (top 1) 0
abbrev s_Failure : Stmt := inClass (top 2) 0
abbrev s_Expression : Stmt := inClass (top 21) 0
abbrev s_Function : Stmt := inClass (top 24) 0
abbrev s_Program : Stmt := inClass (top 25) 0
abbrev s_Frame : Stmt := inClass (top 41) 0
abbrev s_Machine : Stmt := inClass (top 42) 0
abbrev s_House : Stmt := inClass (top 67) 0
abbrev s_Tree : Stmt := inClass (top 104) 0
abbrev s_Head : Stmt := inClass (top 117) 0
abbrev cTextFault : Addr := 31
abbrev cFailure : Addr := 51
abbrev cExpression : Addr := 167
abbrev cFunction : Addr := 202
abbrev cProgram : Addr := 223
abbrev cFrame : Addr := 298
abbrev cMachine : Addr := 319
abbrev cHouse : Addr := 485
abbrev cTree : Addr := 607
abbrev cHead : Addr := 682
abbrev aFOLDED : Addr := 245
abbrev aFORMS : Addr := 495
abbrev aINPUTS : Addr := 496
abbrev aONE_PART : Addr := 497
abbrev aTWO_PARTS : Addr := 498
abbrev aWHOLE : Addr := 858
abbrev aLISTS : Addr := 859
abbrev aSIGNS : Addr := 499
abbrev aSIGN_BYTES : Addr := 500
/-- a def of the text: its name, qualified name, text, the addresses of its object and of its code's record -/
structure Fd where
  name : Str
  qual : Str
  st : Stmt
  at_ : Addr
  code : Addr
def fnL0 : List Fd := [⟨"is_list", "is_list", s_is_list, 61, 60⟩, ⟨"as_number", "as_number", s_as_number, 68, 67⟩, ⟨"as_list", "as_list", s_as_list, 75, 74⟩, ⟨"fail_if", "fail_if", s_fail_if, 82, 81⟩, ⟨"truth", "truth", s_truth, 89, 88⟩, ⟨"calculate", "calculate", s_calculate, 96, 95⟩, ⟨"are_same", "are_same", s_are_same, 103, 102⟩, ⟨"member_at", "member_at", s_member_at, 110, 109⟩, ⟨"numbers_between", "numbers_between", s_numbers_between, 117, 116⟩, ⟨"pair_operation", "pair_operation", s_pair_operation, 124, 123⟩, ⟨"filled_operation", "filled_operation", s_filled_operation, 131, 130⟩, ⟨"single_operation", "single_operation", s_single_operation, 138, 137⟩, ⟨"operate", "operate", s_operate, 143, 142⟩, ⟨"checked", "checked", s_checked, 150, 149⟩, ⟨"number_expression", "number_expression", s_number_expression, 178, 177⟩, ⟨"with_inner", "with_inner", s_with_inner, 185, 184⟩, ⟨"function_named", "function_named", s_function_named, 234, 233⟩, ⟨"count_inner", "count_inner", s_count_inner, 239, 238⟩, ⟨"count_all", "count_all", s_count_all, 244, 243⟩, ⟨"are_numbers", "are_numbers", s_are_numbers, 250, 249⟩]
def fnL1 : List Fd := [⟨"constant", "constant", s_constant, 255, 254⟩, ⟨"folded_operation", "folded_operation", s_folded_operation, 262, 261⟩, ⟨"folded_choice", "folded_choice", s_folded_choice, 269, 268⟩, ⟨"folded", "folded", s_folded, 274, 273⟩, ⟨"folded_program", "folded_program", s_folded_program, 281, 280⟩, ⟨"begin", "begin", s_begin, 330, 329⟩, ⟨"with_name", "with_name", s_with_name, 337, 336⟩, ⟨"next_in_order", "next_in_order", s_next_in_order, 344, 343⟩, ⟨"next_of_if", "next_of_if", s_next_of_if, 351, 350⟩, ⟨"next_of_let", "next_of_let", s_next_of_let, 358, 357⟩, ⟨"next_of_walk", "next_of_walk", s_next_of_walk, 365, 364⟩, ⟨"next_of_both", "next_of_both", s_next_of_both, 372, 371⟩, ⟨"next_of_call", "next_of_call", s_next_of_call, 379, 378⟩, ⟨"next_part", "next_part", s_next_part, 386, 385⟩, ⟨"variable_value", "variable_value", s_variable_value, 393, 392⟩, ⟨"kept", "kept", s_kept, 400, 399⟩, ⟨"value_of", "value_of", s_value_of, 407, 406⟩, ⟨"work_out", "work_out", s_work_out, 414, 413⟩, ⟨"scores", "scores", s_scores, 421, 420⟩, ⟨"hand", "hand", s_hand, 426, 425⟩]
def fnL2 : List Fd := [⟨"inputs_for", "inputs_for", s_inputs_for, 433, 432⟩, ⟨"bid_failure", "bid_failure", s_bid_failure, 440, 439⟩, ⟨"bid_of", "bid_of", s_bid_of, 447, 446⟩, ⟨"match", "match", s_match, 454, 453⟩, ⟨"match_margin", "match_margin", s_match_margin, 461, 460⟩, ⟨"best_from", "best_from", s_best_from, 468, 467⟩, ⟨"full_places", "full_places", s_full_places, 494, 493⟩, ⟨"is_digit", "is_digit", s_is_digit, 507, 506⟩, ⟨"digits_number", "digits_number", s_digits_number, 512, 511⟩, ⟨"number_of", "number_of", s_number_of, 519, 518⟩, ⟨"is_language", "is_language", s_is_language, 526, 525⟩, ⟨"is_name", "is_name", s_is_name, 533, 532⟩, ⟨"operation_of", "operation_of", s_operation_of, 540, 539⟩, ⟨"takes", "takes", s_takes, 547, 546⟩, ⟨"form_parts", "form_parts", s_form_parts, 554, 553⟩, ⟨"bytes_of", "bytes_of", s_bytes_of, 559, 558⟩, ⟨"in_brackets", "in_brackets", s_in_brackets, 566, 565⟩, ⟨"head_rows", "head_rows", s_head_rows, 573, 572⟩, ⟨"expression_bytes", "expression_bytes", s_expression_bytes, 578, 577⟩, ⟨"function_bytes", "function_bytes", s_function_bytes, 583, 582⟩]
def fnL3 : List Fd := [⟨"program_bytes", "program_bytes", s_program_bytes, 590, 589⟩, ⟨"is_word", "is_word", s_is_word, 618, 617⟩, ⟨"letters_of", "letters_of", s_letters_of, 623, 622⟩, ⟨"is_blank", "is_blank", s_is_blank, 630, 629⟩, ⟨"is_bracket", "is_bracket", s_is_bracket, 637, 636⟩, ⟨"may_stand", "may_stand", s_may_stand, 644, 643⟩, ⟨"check_bytes", "check_bytes", s_check_bytes, 651, 650⟩, ⟨"word_end", "word_end", s_word_end, 658, 657⟩, ⟨"trees_of", "trees_of", s_trees_of, 665, 664⟩, ⟨"wrong", "wrong", s_wrong, 693, 692⟩, ⟨"need", "need", s_need, 700, 699⟩, ⟨"read_parameters", "read_parameters", s_read_parameters, 707, 706⟩, ⟨"read_head", "read_head", s_read_head, 714, 713⟩, ⟨"read_heads", "read_heads", s_read_heads, 719, 718⟩, ⟨"parameter_count", "parameter_count", s_parameter_count, 726, 725⟩, ⟨"read_word", "read_word", s_read_word, 733, 732⟩, ⟨"read_all", "read_all", s_read_all, 738, 737⟩, ⟨"read_binding", "read_binding", s_read_binding, 745, 744⟩, ⟨"read_form", "read_form", s_read_form, 752, 751⟩, ⟨"read_bracket", "read_bracket", s_read_bracket, 759, 758⟩]
def fnL4 : List Fd := [⟨"read_expression", "read_expression", s_read_expression, 766, 765⟩, ⟨"read_program", "read_program", s_read_program, 773, 772⟩, ⟨"call_load", "call_load", s_call_load, 780, 779⟩, ⟨"call_size", "call_size", s_call_size, 787, 786⟩, ⟨"call_prizes", "call_prizes", s_call_prizes, 794, 793⟩, ⟨"call_bid", "call_bid", s_call_bid, 801, 800⟩, ⟨"call_play", "call_play", s_call_play, 808, 807⟩, ⟨"call_best", "call_best", s_call_best, 815, 814⟩, ⟨"points_for", "points_for", s_points_for, 822, 821⟩, ⟨"league_row", "league_row", s_league_row, 829, 828⟩, ⟨"call_league", "call_league", s_call_league, 836, 835⟩, ⟨"call_fold", "call_fold", s_call_fold, 843, 842⟩, ⟨"call_drop", "call_drop", s_call_drop, 850, 849⟩, ⟨"work", "work", s_work, 857, 856⟩, ⟨"are_within", "are_within", s_are_within, 864, 863⟩, ⟨"lists_fit", "lists_fit", s_lists_fit, 871, 870⟩, ⟨"needed_places", "needed_places", s_needed_places, 878, 877⟩, ⟨"are_cards", "are_cards", s_are_cards, 885, 884⟩, ⟨"bids_fit", "bids_fit", s_bids_fit, 892, 891⟩, ⟨"refusal", "refusal", s_refusal, 897, 896⟩]
def fnL5 : List Fd := [⟨"answer_to", "answer_to", s_answer_to, 904, 903⟩, ⟨"read_rows", "read_rows", s_read_rows, 911, 910⟩, ⟨"answers", "answers", s_answers, 918, 917⟩, ⟨"__init__", "TextFault.__init__", s_TextFault, 28, 27⟩, ⟨"__init__", "Failure.__init__", s_Failure, 48, 47⟩, ⟨"__init__", "Expression.__init__", s_Expression, 164, 163⟩, ⟨"__init__", "Function.__init__", s_Function, 199, 198⟩, ⟨"__init__", "Program.__init__", s_Program, 220, 219⟩, ⟨"__init__", "Frame.__init__", s_Frame, 295, 294⟩, ⟨"__init__", "Machine.__init__", s_Machine, 316, 315⟩, ⟨"__init__", "House.__init__", s_House, 482, 481⟩, ⟨"__init__", "Tree.__init__", s_Tree, 604, 603⟩, ⟨"__init__", "Head.__init__", s_Head, 679, 678⟩]
def fnL : List Fd := fnL0 ++ (fnL1 ++ (fnL2 ++ (fnL3 ++ (fnL4 ++ (fnL5)))))
def glL0 : List (Str × Addr) := [("is_list", 61), ("as_number", 68), ("as_list", 75), ("fail_if", 82), ("truth", 89), ("calculate", 96), ("are_same", 103), ("member_at", 110), ("numbers_between", 117), ("pair_operation", 124), ("filled_operation", 131), ("single_operation", 138), ("operate", 143), ("checked", 150), ("number_expression", 178), ("with_inner", 185), ("function_named", 234), ("count_inner", 239), ("count_all", 244), ("are_numbers", 250)]
def glL1 : List (Str × Addr) := [("constant", 255), ("folded_operation", 262), ("folded_choice", 269), ("folded", 274), ("folded_program", 281), ("begin", 330), ("with_name", 337), ("next_in_order", 344), ("next_of_if", 351), ("next_of_let", 358), ("next_of_walk", 365), ("next_of_both", 372), ("next_of_call", 379), ("next_part", 386), ("variable_value", 393), ("kept", 400), ("value_of", 407), ("work_out", 414), ("scores", 421), ("hand", 426)]
def glL2 : List (Str × Addr) := [("inputs_for", 433), ("bid_failure", 440), ("bid_of", 447), ("match", 454), ("match_margin", 461), ("best_from", 468), ("full_places", 494), ("is_digit", 507), ("digits_number", 512), ("number_of", 519), ("is_language", 526), ("is_name", 533), ("operation_of", 540), ("takes", 547), ("form_parts", 554), ("bytes_of", 559), ("in_brackets", 566), ("head_rows", 573), ("expression_bytes", 578), ("function_bytes", 583)]
def glL3 : List (Str × Addr) := [("program_bytes", 590), ("is_word", 618), ("letters_of", 623), ("is_blank", 630), ("is_bracket", 637), ("may_stand", 644), ("check_bytes", 651), ("word_end", 658), ("trees_of", 665), ("wrong", 693), ("need", 700), ("read_parameters", 707), ("read_head", 714), ("read_heads", 719), ("parameter_count", 726), ("read_word", 733), ("read_all", 738), ("read_binding", 745), ("read_form", 752), ("read_bracket", 759)]
def glL4 : List (Str × Addr) := [("read_expression", 766), ("read_program", 773), ("call_load", 780), ("call_size", 787), ("call_prizes", 794), ("call_bid", 801), ("call_play", 808), ("call_best", 815), ("points_for", 822), ("league_row", 829), ("call_league", 836), ("call_fold", 843), ("call_drop", 850), ("work", 857), ("are_within", 864), ("lists_fit", 871), ("needed_places", 878), ("are_cards", 885), ("bids_fit", 892), ("refusal", 897)]
def glL5 : List (Str × Addr) := [("answer_to", 904), ("read_rows", 911), ("answers", 918), ("TextFault", 31), ("Failure", 51), ("Expression", 167), ("Function", 202), ("Program", 223), ("Frame", 298), ("Machine", 319), ("House", 485), ("Tree", 607), ("Head", 682), ("FOLDED", 245), ("FORMS", 495), ("INPUTS", 496), ("ONE_PART", 497), ("TWO_PARTS", 498), ("WHOLE", 858), ("LISTS", 859)]
def glL6 : List (Str × Addr) := [("SIGNS", 499), ("SIGN_BYTES", 500)]
def glL : List (Str × Addr) := glL0 ++ (glL1 ++ (glL2 ++ (glL3 ++ (glL4 ++ (glL5 ++ (glL6))))))
def frL0 : List Str := ["Exception", "all", "any", "dict", "enumerate", "isinstance", "len", "list", "max", "min", "ord", "range", "reversed", "set", "sorted", "str", "sum", "zip"]
def frL : List Str := frL0
def itL0 : List (Str × Int) := [("MOST_VALUE", 1000000000000000000), ("MOST_LENGTH", 64), ("MOST_NUMBER_folding", 1000000000), ("MOST_STEPS", 5000), ("MOST_CALLS", 20), ("MOST_PLACES", 8), ("MOST_NUMBER_language", 1000000000), ("MINUS", 45), ("LINE_FEED_shown", 10), ("BLANK_shown", 32), ("OPENING_shown", 40), ("CLOSING_shown", 41), ("LINE_FEED_trees", 10), ("BLANK_trees", 32), ("OPENING_trees", 40), ("CLOSING_trees", 41), ("MOST_OPEN", 20), ("MOST_FUNCTIONS", 8), ("MOST_PARAMETERS", 4), ("MOST_BYTES", 4000)]
def itL1 : List (Str × Int) := [("LOAD", 0), ("PRIZES", 3), ("BID", 4), ("PLAY", 5), ("BEST", 6), ("LEAGUE", 7), ("FOLD", 8)]
def itL : List (Str × Int) := itL0 ++ (itL1)
def clL0 : List (Addr × Addr × List Str) := [(167, 164, ["kind", "word", "number", "inner"]), (202, 199, ["name", "parameters", "body"]), (223, 220, ["functions", "last"]), (298, 295, ["expression", "known", "done"]), (319, 316, ["program", "inputs", "steps", "calls", "frames"]), (485, 482, ["places", "prizes"]), (607, 604, ["place", "data", "inner", "letters"]), (682, 679, ["name", "parameters", "body"])]
def clL : List (Addr × Addr × List Str) := clL0
def exL0 : List (Addr × Addr × List Str) := [(31, 28, ["kind", "place"]), (51, 48, ["cause"])]
def exL : List (Addr × Addr × List Str) := exL0
def c_FOLDED : List V := [.str "plus", .str "minus", .str "times", .str "quotient", .str "remainder", .str "less", .str "same", .str "not"]
def c_FORMS : List V := [.str "if", .str "let", .str "each", .str "keep", .str "and", .str "or"]
def c_INPUTS : List V := [.str "prize", .str "pot", .str "mine", .str "theirs", .str "bids", .str "foes", .str "past", .str "left", .str "me", .str "foe"]
def c_ONE_PART : List V := [.str "not", .str "len", .str "tail", .str "least", .str "most", .str "sum", .str "sort", .str "rev"]
def c_TWO_PARTS : List V := [.str "at", .str "cons", .str "cat", .str "has", .str "range"]
def c_WHOLE : List V := [.int 1, .int 1, .int 1, .int 0, .int 1, .int 2, .int 1, .int 0, .int 2, .int 1, .int 0]
def c_LISTS : List V := [.int 1, .int 0, .int 0, .int 1, .int 2, .int 0, .int 0, .int 0, .int 0, .int 0, .int 0]
def tpL0 : List (Addr × List V) := [(245, c_FOLDED), (495, c_FORMS), (496, c_INPUTS), (497, c_ONE_PART), (498, c_TWO_PARTS), (858, c_WHOLE), (859, c_LISTS)]
def tpL : List (Addr × List V) := tpL0
def sbL : List (Str × Int) := [("plus", 43), ("minus", 45), ("times", 42), ("quotient", 47), ("remainder", 37), ("less", 60), ("same", 61)]
def sgL : List (Int × Str) := [(43, "plus"), (45, "minus"), (42, "times"), (47, "quotient"), (37, "remainder"), (60, "less"), (61, "same")]
def adL0 : List Addr := [3, 31, 51, 167, 202, 223, 298, 319, 485, 607, 682, 30, 50, 166, 201, 222, 297, 318, 484, 606, 681, 28, 48, 164, 199, 220, 295, 316, 482, 604, 679, 245, 495, 496, 497, 498, 858, 859, 499, 500]
def adL1 : List Addr := [27, 47, 163, 198, 219, 294, 315, 481, 603, 678, 61, 60, 68, 67, 75, 74, 82, 81, 89, 88, 96, 95, 103, 102, 110, 109, 117, 116, 124, 123, 131, 130, 138, 137, 143, 142, 150, 149, 178, 177]
def adL2 : List Addr := [185, 184, 234, 233, 239, 238, 244, 243, 250, 249, 255, 254, 262, 261, 269, 268, 274, 273, 281, 280, 330, 329, 337, 336, 344, 343, 351, 350, 358, 357, 365, 364, 372, 371, 379, 378, 386, 385, 393, 392]
def adL3 : List Addr := [400, 399, 407, 406, 414, 413, 421, 420, 426, 425, 433, 432, 440, 439, 447, 446, 454, 453, 461, 460, 468, 467, 494, 493, 507, 506, 512, 511, 519, 518, 526, 525, 533, 532, 540, 539, 547, 546, 554, 553]
def adL4 : List Addr := [559, 558, 566, 565, 573, 572, 578, 577, 583, 582, 590, 589, 618, 617, 623, 622, 630, 629, 637, 636, 644, 643, 651, 650, 658, 657, 665, 664, 693, 692, 700, 699, 707, 706, 714, 713, 719, 718, 726, 725]
def adL5 : List Addr := [733, 732, 738, 737, 745, 744, 752, 751, 759, 758, 766, 765, 773, 772, 780, 779, 787, 786, 794, 793, 801, 800, 808, 807, 815, 814, 822, 821, 829, 828, 836, 835, 843, 842, 850, 849, 857, 856, 864, 863]
def adL6 : List Addr := [871, 870, 878, 877, 885, 884, 892, 891, 897, 896, 904, 903, 911, 910, 918, 917]
def adL : List Addr := adL0 ++ (adL1 ++ (adL2 ++ (adL3 ++ (adL4 ++ (adL5 ++ (adL6))))))
/-- an error's class over Exception with its own __init__ -/
structure ExOk (K : PySem.W.Frag) (C fI : Addr) (fs : List Str) : Prop where
  cls : ∃ nm q N bs sn sub ab col dd k0 k1 k2 k3 k5, K.lookup C = some (excClassObj nm q C N bs [.type "Exception", .type "BaseException", .type "object"] true sn sub ab col dd k0 k1 k2 k3 k5 "Exception.__new__")
  sa : PySem.W.findIn K (.ref C) "__setattr__" = some (some (.builtin "object.__setattr__"))
  ga : PySem.W.findIn K (.ref C) "__getattribute__" = some (some (.builtin "BaseException.__getattribute__"))
  gg : PySem.W.findIn K (.ref C) "__getattr__" = some none
  iC : PySem.W.findIn K (.ref C) "__init__" = some (some (.ref fI))
  tI : PySem.W.typeIn K (.ref fI) = some (.type "function")
  exC : PySem.W.subIn K (.ref C) (.type "BaseException") = some true
  tyC : PySem.W.typeIn K (.ref C) = some (.type "type")
  hdC : PySem.W.hasDictIn K C = true
  kC : PySem.W.keepIn K (.ref C) = true
  te : PySem.W.exmOne K (.ref C) (.ref C) = some true
  no : ∀ f ∈ fs, PySem.W.findIn K (.ref C) f = some none
/-- an int-keyed table of the top -/
def entB : List (Int × Str) → List DictEntry → Bool
  | [], [] => true
  | (k, v) :: r, e :: es => (match e.key with
    | .int i _ => decide (i = k)
    | _ => false) && ((match e.val with
    | .str x _ => decide (x = v)
    | _ => false) && (decide (e.hash = hashInt k) && entB r es))
  | _, _ => false
/-- what the top leaves -/
structure TxK (w : World) (K : PySem.W.Frag) : Prop where
  gl : ∀ (i : Nat) x a, glL[i]? = some (x, a) → PySem.W.nsIn K mainGlobals x = some (some (.ref a))
  fr : ∀ (i : Nat) x, frL[i]? = some x → PySem.W.nsIn K mainGlobals x = some none
  it : ∀ (i : Nat) x n, itL[i]? = some (x, n) → ∃ t, PySem.W.nsIn K mainGlobals x = some (some (.int n t))
  le : ∃ t, PySem.W.nsIn K mainGlobals "LETTERS" = some (some (.str "abcdefghijklmnopqrstuvwxyz" t))
  fn : ∀ (i : Nat) d, fnL[i]? = some d → ∃ fd, FunD K d.name d.qual (defArgs d.st) (defBody d.st) (defScope d.st) [] [] d.at_ fd
  cl : ∀ (i : Nat) C f l, clL[i]? = some (C, f, l) → Cls K C ∧ Mk K C f ∧ ∀ x ∈ l, NoAttr K C x
  ex : ∀ (i : Nat) C f l, exL[i]? = some (C, f, l) → ExOk K C f l
  tp : ∀ (i : Nat) a vs, tpL[i]? = some (a, vs) → ∀ H, SqT K H a vs
  sb : ∃ es n, KDict K w aSIGN_BYTES es n
  sbV : ∀ (i : Nat) x n, sbL[i]? = some (x, n) → ∃ t, PySem.W.nsIn K aSIGN_BYTES x = some (some (.int n t))
  sbN : ∀ x, (∀ n, (x, n) ∉ sbL) → PySem.W.nsIn K aSIGN_BYTES x = some none
  sg : ∃ es n, K.lookup aSIGNS = some ⟨.type "dict", none, .dict es n, #[]⟩ ∧ (aSIGNS == sysModules) = false ∧ entB sgL es.toList = true
/-- .. with the module's names as they are found while the law runs -/
structure Tx (w : World) (K : PySem.W.Frag) (mg : Str → Option Value) : Prop where
  k : TxK w K
  h : ∃ h : Heap, K.In h ∧ h.Ns mainGlobals mg
section
variable {w : World} {K : PySem.W.Frag} {mg : Str → Option Value}
theorem Tx.glo (T : Tx w K mg) (i : Nat) {x : Str} {a : Addr} (e : glL[i]? = some (x, a)) : mg x = some (.ref a) := let ⟨_, X, G⟩ := T.h; PySem.W.mg_of X G (T.k.gl i x a e)
theorem Tx.free (T : Tx w K mg) (i : Nat) {x : Str} (e : frL[i]? = some x) : mg x = none := let ⟨_, X, G⟩ := T.h; PySem.W.mg_none_of X G (T.k.fr i x e)
theorem Tx.int (T : Tx w K mg) (i : Nat) {x : Str} {n : Int} (e : itL[i]? = some (x, n)) : ∃ t, mg x = some (.int n t) := let ⟨_, X, G⟩ := T.h; let ⟨t, q⟩ := T.k.it i x n e; ⟨t, PySem.W.mg_of X G q⟩
theorem Tx.k_LETTERS (T : Tx w K mg) : ∃ t, mg "LETTERS" = some (.str "abcdefghijklmnopqrstuvwxyz" t) := let ⟨_, X, G⟩ := T.h; let ⟨t, q⟩ := T.k.le; ⟨t, PySem.W.mg_of X G q⟩
theorem Tx.fr_Exception (T : Tx w K mg) : mg "Exception" = none := T.free 0 rfl
theorem Tx.fr_all (T : Tx w K mg) : mg "all" = none := T.free 1 rfl
theorem Tx.fr_any (T : Tx w K mg) : mg "any" = none := T.free 2 rfl
theorem Tx.fr_dict (T : Tx w K mg) : mg "dict" = none := T.free 3 rfl
theorem Tx.fr_enumerate (T : Tx w K mg) : mg "enumerate" = none := T.free 4 rfl
theorem Tx.fr_isinstance (T : Tx w K mg) : mg "isinstance" = none := T.free 5 rfl
theorem Tx.fr_len (T : Tx w K mg) : mg "len" = none := T.free 6 rfl
theorem Tx.fr_list (T : Tx w K mg) : mg "list" = none := T.free 7 rfl
theorem Tx.fr_max (T : Tx w K mg) : mg "max" = none := T.free 8 rfl
theorem Tx.fr_min (T : Tx w K mg) : mg "min" = none := T.free 9 rfl
theorem Tx.fr_ord (T : Tx w K mg) : mg "ord" = none := T.free 10 rfl
theorem Tx.fr_range (T : Tx w K mg) : mg "range" = none := T.free 11 rfl
theorem Tx.fr_reversed (T : Tx w K mg) : mg "reversed" = none := T.free 12 rfl
theorem Tx.fr_set (T : Tx w K mg) : mg "set" = none := T.free 13 rfl
theorem Tx.fr_sorted (T : Tx w K mg) : mg "sorted" = none := T.free 14 rfl
theorem Tx.fr_str (T : Tx w K mg) : mg "str" = none := T.free 15 rfl
theorem Tx.fr_sum (T : Tx w K mg) : mg "sum" = none := T.free 16 rfl
theorem Tx.fr_zip (T : Tx w K mg) : mg "zip" = none := T.free 17 rfl
theorem Tx.k_MOST_VALUE (T : Tx w K mg) : ∃ t, mg "MOST_VALUE" = some (.int 1000000000000000000 t) := T.int 0 rfl
theorem Tx.k_MOST_LENGTH (T : Tx w K mg) : ∃ t, mg "MOST_LENGTH" = some (.int 64 t) := T.int 1 rfl
theorem Tx.k_MOST_NUMBER_folding (T : Tx w K mg) : ∃ t, mg "MOST_NUMBER_folding" = some (.int 1000000000 t) := T.int 2 rfl
theorem Tx.k_MOST_STEPS (T : Tx w K mg) : ∃ t, mg "MOST_STEPS" = some (.int 5000 t) := T.int 3 rfl
theorem Tx.k_MOST_CALLS (T : Tx w K mg) : ∃ t, mg "MOST_CALLS" = some (.int 20 t) := T.int 4 rfl
theorem Tx.k_MOST_PLACES (T : Tx w K mg) : ∃ t, mg "MOST_PLACES" = some (.int 8 t) := T.int 5 rfl
theorem Tx.k_MOST_NUMBER_language (T : Tx w K mg) : ∃ t, mg "MOST_NUMBER_language" = some (.int 1000000000 t) := T.int 6 rfl
theorem Tx.k_MINUS (T : Tx w K mg) : ∃ t, mg "MINUS" = some (.int 45 t) := T.int 7 rfl
theorem Tx.k_LINE_FEED_shown (T : Tx w K mg) : ∃ t, mg "LINE_FEED_shown" = some (.int 10 t) := T.int 8 rfl
theorem Tx.k_BLANK_shown (T : Tx w K mg) : ∃ t, mg "BLANK_shown" = some (.int 32 t) := T.int 9 rfl
theorem Tx.k_OPENING_shown (T : Tx w K mg) : ∃ t, mg "OPENING_shown" = some (.int 40 t) := T.int 10 rfl
theorem Tx.k_CLOSING_shown (T : Tx w K mg) : ∃ t, mg "CLOSING_shown" = some (.int 41 t) := T.int 11 rfl
theorem Tx.k_LINE_FEED_trees (T : Tx w K mg) : ∃ t, mg "LINE_FEED_trees" = some (.int 10 t) := T.int 12 rfl
theorem Tx.k_BLANK_trees (T : Tx w K mg) : ∃ t, mg "BLANK_trees" = some (.int 32 t) := T.int 13 rfl
theorem Tx.k_OPENING_trees (T : Tx w K mg) : ∃ t, mg "OPENING_trees" = some (.int 40 t) := T.int 14 rfl
theorem Tx.k_CLOSING_trees (T : Tx w K mg) : ∃ t, mg "CLOSING_trees" = some (.int 41 t) := T.int 15 rfl
theorem Tx.k_MOST_OPEN (T : Tx w K mg) : ∃ t, mg "MOST_OPEN" = some (.int 20 t) := T.int 16 rfl
theorem Tx.k_MOST_FUNCTIONS (T : Tx w K mg) : ∃ t, mg "MOST_FUNCTIONS" = some (.int 8 t) := T.int 17 rfl
theorem Tx.k_MOST_PARAMETERS (T : Tx w K mg) : ∃ t, mg "MOST_PARAMETERS" = some (.int 4 t) := T.int 18 rfl
theorem Tx.k_MOST_BYTES (T : Tx w K mg) : ∃ t, mg "MOST_BYTES" = some (.int 4000 t) := T.int 19 rfl
theorem Tx.k_LOAD (T : Tx w K mg) : ∃ t, mg "LOAD" = some (.int 0 t) := T.int 20 rfl
theorem Tx.k_PRIZES (T : Tx w K mg) : ∃ t, mg "PRIZES" = some (.int 3 t) := T.int 21 rfl
theorem Tx.k_BID (T : Tx w K mg) : ∃ t, mg "BID" = some (.int 4 t) := T.int 22 rfl
theorem Tx.k_PLAY (T : Tx w K mg) : ∃ t, mg "PLAY" = some (.int 5 t) := T.int 23 rfl
theorem Tx.k_BEST (T : Tx w K mg) : ∃ t, mg "BEST" = some (.int 6 t) := T.int 24 rfl
theorem Tx.k_LEAGUE (T : Tx w K mg) : ∃ t, mg "LEAGUE" = some (.int 7 t) := T.int 25 rfl
theorem Tx.k_FOLD (T : Tx w K mg) : ∃ t, mg "FOLD" = some (.int 8 t) := T.int 26 rfl
theorem Tx.k_FOLDED (T : Tx w K mg) : mg "FOLDED" = some (.ref aFOLDED) := T.glo 113 rfl
theorem Tx.k_FORMS (T : Tx w K mg) : mg "FORMS" = some (.ref aFORMS) := T.glo 114 rfl
theorem Tx.k_INPUTS (T : Tx w K mg) : mg "INPUTS" = some (.ref aINPUTS) := T.glo 115 rfl
theorem Tx.k_ONE_PART (T : Tx w K mg) : mg "ONE_PART" = some (.ref aONE_PART) := T.glo 116 rfl
theorem Tx.k_TWO_PARTS (T : Tx w K mg) : mg "TWO_PARTS" = some (.ref aTWO_PARTS) := T.glo 117 rfl
theorem Tx.k_WHOLE (T : Tx w K mg) : mg "WHOLE" = some (.ref aWHOLE) := T.glo 118 rfl
theorem Tx.k_LISTS (T : Tx w K mg) : mg "LISTS" = some (.ref aLISTS) := T.glo 119 rfl
theorem Tx.k_SIGNS (T : Tx w K mg) : mg "SIGNS" = some (.ref aSIGNS) := T.glo 120 rfl
theorem Tx.k_SIGN_BYTES (T : Tx w K mg) : mg "SIGN_BYTES" = some (.ref aSIGN_BYTES) := T.glo 121 rfl
theorem Tx.g_TextFault (T : Tx w K mg) : mg "TextFault" = some (.ref cTextFault) := T.glo 103 rfl
theorem Tx.g_Failure (T : Tx w K mg) : mg "Failure" = some (.ref cFailure) := T.glo 104 rfl
theorem Tx.g_Expression (T : Tx w K mg) : mg "Expression" = some (.ref cExpression) := T.glo 105 rfl
theorem Tx.g_Function (T : Tx w K mg) : mg "Function" = some (.ref cFunction) := T.glo 106 rfl
theorem Tx.g_Program (T : Tx w K mg) : mg "Program" = some (.ref cProgram) := T.glo 107 rfl
theorem Tx.g_Frame (T : Tx w K mg) : mg "Frame" = some (.ref cFrame) := T.glo 108 rfl
theorem Tx.g_Machine (T : Tx w K mg) : mg "Machine" = some (.ref cMachine) := T.glo 109 rfl
theorem Tx.g_House (T : Tx w K mg) : mg "House" = some (.ref cHouse) := T.glo 110 rfl
theorem Tx.g_Tree (T : Tx w K mg) : mg "Tree" = some (.ref cTree) := T.glo 111 rfl
theorem Tx.g_Head (T : Tx w K mg) : mg "Head" = some (.ref cHead) := T.glo 112 rfl
theorem Tx.c_Expression (T : Tx w K mg) : Cls K cExpression := (T.k.cl 0 _ _ _ rfl).1
theorem Tx.n_Expression_kind (T : Tx w K mg) : NoAttr K cExpression "kind" := (T.k.cl 0 _ _ _ rfl).2.2 _ (by simp)
theorem Tx.n_Expression_word (T : Tx w K mg) : NoAttr K cExpression "word" := (T.k.cl 0 _ _ _ rfl).2.2 _ (by simp)
theorem Tx.n_Expression_number (T : Tx w K mg) : NoAttr K cExpression "number" := (T.k.cl 0 _ _ _ rfl).2.2 _ (by simp)
theorem Tx.n_Expression_inner (T : Tx w K mg) : NoAttr K cExpression "inner" := (T.k.cl 0 _ _ _ rfl).2.2 _ (by simp)
theorem Tx.c_Function (T : Tx w K mg) : Cls K cFunction := (T.k.cl 1 _ _ _ rfl).1
theorem Tx.n_Function_name (T : Tx w K mg) : NoAttr K cFunction "name" := (T.k.cl 1 _ _ _ rfl).2.2 _ (by simp)
theorem Tx.n_Function_parameters (T : Tx w K mg) : NoAttr K cFunction "parameters" := (T.k.cl 1 _ _ _ rfl).2.2 _ (by simp)
theorem Tx.n_Function_body (T : Tx w K mg) : NoAttr K cFunction "body" := (T.k.cl 1 _ _ _ rfl).2.2 _ (by simp)
theorem Tx.c_Program (T : Tx w K mg) : Cls K cProgram := (T.k.cl 2 _ _ _ rfl).1
theorem Tx.n_Program_functions (T : Tx w K mg) : NoAttr K cProgram "functions" := (T.k.cl 2 _ _ _ rfl).2.2 _ (by simp)
theorem Tx.n_Program_last (T : Tx w K mg) : NoAttr K cProgram "last" := (T.k.cl 2 _ _ _ rfl).2.2 _ (by simp)
theorem Tx.c_Frame (T : Tx w K mg) : Cls K cFrame := (T.k.cl 3 _ _ _ rfl).1
theorem Tx.n_Frame_expression (T : Tx w K mg) : NoAttr K cFrame "expression" := (T.k.cl 3 _ _ _ rfl).2.2 _ (by simp)
theorem Tx.n_Frame_known (T : Tx w K mg) : NoAttr K cFrame "known" := (T.k.cl 3 _ _ _ rfl).2.2 _ (by simp)
theorem Tx.n_Frame_done (T : Tx w K mg) : NoAttr K cFrame "done" := (T.k.cl 3 _ _ _ rfl).2.2 _ (by simp)
theorem Tx.c_Machine (T : Tx w K mg) : Cls K cMachine := (T.k.cl 4 _ _ _ rfl).1
theorem Tx.n_Machine_program (T : Tx w K mg) : NoAttr K cMachine "program" := (T.k.cl 4 _ _ _ rfl).2.2 _ (by simp)
theorem Tx.n_Machine_inputs (T : Tx w K mg) : NoAttr K cMachine "inputs" := (T.k.cl 4 _ _ _ rfl).2.2 _ (by simp)
theorem Tx.n_Machine_steps (T : Tx w K mg) : NoAttr K cMachine "steps" := (T.k.cl 4 _ _ _ rfl).2.2 _ (by simp)
theorem Tx.n_Machine_calls (T : Tx w K mg) : NoAttr K cMachine "calls" := (T.k.cl 4 _ _ _ rfl).2.2 _ (by simp)
theorem Tx.n_Machine_frames (T : Tx w K mg) : NoAttr K cMachine "frames" := (T.k.cl 4 _ _ _ rfl).2.2 _ (by simp)
theorem Tx.c_House (T : Tx w K mg) : Cls K cHouse := (T.k.cl 5 _ _ _ rfl).1
theorem Tx.n_House_places (T : Tx w K mg) : NoAttr K cHouse "places" := (T.k.cl 5 _ _ _ rfl).2.2 _ (by simp)
theorem Tx.n_House_prizes (T : Tx w K mg) : NoAttr K cHouse "prizes" := (T.k.cl 5 _ _ _ rfl).2.2 _ (by simp)
theorem Tx.c_Tree (T : Tx w K mg) : Cls K cTree := (T.k.cl 6 _ _ _ rfl).1
theorem Tx.n_Tree_place (T : Tx w K mg) : NoAttr K cTree "place" := (T.k.cl 6 _ _ _ rfl).2.2 _ (by simp)
theorem Tx.n_Tree_data (T : Tx w K mg) : NoAttr K cTree "data" := (T.k.cl 6 _ _ _ rfl).2.2 _ (by simp)
theorem Tx.n_Tree_inner (T : Tx w K mg) : NoAttr K cTree "inner" := (T.k.cl 6 _ _ _ rfl).2.2 _ (by simp)
theorem Tx.n_Tree_letters (T : Tx w K mg) : NoAttr K cTree "letters" := (T.k.cl 6 _ _ _ rfl).2.2 _ (by simp)
theorem Tx.c_Head (T : Tx w K mg) : Cls K cHead := (T.k.cl 7 _ _ _ rfl).1
theorem Tx.n_Head_name (T : Tx w K mg) : NoAttr K cHead "name" := (T.k.cl 7 _ _ _ rfl).2.2 _ (by simp)
theorem Tx.n_Head_parameters (T : Tx w K mg) : NoAttr K cHead "parameters" := (T.k.cl 7 _ _ _ rfl).2.2 _ (by simp)
theorem Tx.n_Head_body (T : Tx w K mg) : NoAttr K cHead "body" := (T.k.cl 7 _ _ _ rfl).2.2 _ (by simp)
theorem Tx.x_TextFault (T : Tx w K mg) : ExOk K cTextFault 28 ["kind", "place"] := T.k.ex 0 _ _ _ rfl
theorem Tx.x_Failure (T : Tx w K mg) : ExOk K cFailure 48 ["cause"] := T.k.ex 1 _ _ _ rfl
theorem Tx.t_FOLDED (T : Tx w K mg) (H : Hp) : SqT K H aFOLDED c_FOLDED := T.k.tp 0 _ _ rfl H
theorem Tx.t_FORMS (T : Tx w K mg) (H : Hp) : SqT K H aFORMS c_FORMS := T.k.tp 1 _ _ rfl H
theorem Tx.t_INPUTS (T : Tx w K mg) (H : Hp) : SqT K H aINPUTS c_INPUTS := T.k.tp 2 _ _ rfl H
theorem Tx.t_ONE_PART (T : Tx w K mg) (H : Hp) : SqT K H aONE_PART c_ONE_PART := T.k.tp 3 _ _ rfl H
theorem Tx.t_TWO_PARTS (T : Tx w K mg) (H : Hp) : SqT K H aTWO_PARTS c_TWO_PARTS := T.k.tp 4 _ _ rfl H
theorem Tx.t_WHOLE (T : Tx w K mg) (H : Hp) : SqT K H aWHOLE c_WHOLE := T.k.tp 5 _ _ rfl H
theorem Tx.t_LISTS (T : Tx w K mg) (H : Hp) : SqT K H aLISTS c_LISTS := T.k.tp 6 _ _ rfl H
end
/-- places in fnL, by name -/
abbrev f_is_list : Nat := 0
abbrev f_as_number : Nat := 1
abbrev f_as_list : Nat := 2
abbrev f_fail_if : Nat := 3
abbrev f_truth : Nat := 4
abbrev f_calculate : Nat := 5
abbrev f_are_same : Nat := 6
abbrev f_member_at : Nat := 7
abbrev f_numbers_between : Nat := 8
abbrev f_pair_operation : Nat := 9
abbrev f_filled_operation : Nat := 10
abbrev f_single_operation : Nat := 11
abbrev f_operate : Nat := 12
abbrev f_checked : Nat := 13
abbrev f_number_expression : Nat := 14
abbrev f_with_inner : Nat := 15
abbrev f_function_named : Nat := 16
abbrev f_count_inner : Nat := 17
abbrev f_count_all : Nat := 18
abbrev f_are_numbers : Nat := 19
abbrev f_constant : Nat := 20
abbrev f_folded_operation : Nat := 21
abbrev f_folded_choice : Nat := 22
abbrev f_folded : Nat := 23
abbrev f_folded_program : Nat := 24
abbrev f_begin : Nat := 25
abbrev f_with_name : Nat := 26
abbrev f_next_in_order : Nat := 27
abbrev f_next_of_if : Nat := 28
abbrev f_next_of_let : Nat := 29
abbrev f_next_of_walk : Nat := 30
abbrev f_next_of_both : Nat := 31
abbrev f_next_of_call : Nat := 32
abbrev f_next_part : Nat := 33
abbrev f_variable_value : Nat := 34
abbrev f_kept : Nat := 35
abbrev f_value_of : Nat := 36
abbrev f_work_out : Nat := 37
abbrev f_scores : Nat := 38
abbrev f_hand : Nat := 39
abbrev f_inputs_for : Nat := 40
abbrev f_bid_failure : Nat := 41
abbrev f_bid_of : Nat := 42
abbrev f_match : Nat := 43
abbrev f_match_margin : Nat := 44
abbrev f_best_from : Nat := 45
abbrev f_full_places : Nat := 46
abbrev f_is_digit : Nat := 47
abbrev f_digits_number : Nat := 48
abbrev f_number_of : Nat := 49
abbrev f_is_language : Nat := 50
abbrev f_is_name : Nat := 51
abbrev f_operation_of : Nat := 52
abbrev f_takes : Nat := 53
abbrev f_form_parts : Nat := 54
abbrev f_bytes_of : Nat := 55
abbrev f_in_brackets : Nat := 56
abbrev f_head_rows : Nat := 57
abbrev f_expression_bytes : Nat := 58
abbrev f_function_bytes : Nat := 59
abbrev f_program_bytes : Nat := 60
abbrev f_is_word : Nat := 61
abbrev f_letters_of : Nat := 62
abbrev f_is_blank : Nat := 63
abbrev f_is_bracket : Nat := 64
abbrev f_may_stand : Nat := 65
abbrev f_check_bytes : Nat := 66
abbrev f_word_end : Nat := 67
abbrev f_trees_of : Nat := 68
abbrev f_wrong : Nat := 69
abbrev f_need : Nat := 70
abbrev f_read_parameters : Nat := 71
abbrev f_read_head : Nat := 72
abbrev f_read_heads : Nat := 73
abbrev f_parameter_count : Nat := 74
abbrev f_read_word : Nat := 75
abbrev f_read_all : Nat := 76
abbrev f_read_binding : Nat := 77
abbrev f_read_form : Nat := 78
abbrev f_read_bracket : Nat := 79
abbrev f_read_expression : Nat := 80
abbrev f_read_program : Nat := 81
abbrev f_call_load : Nat := 82
abbrev f_call_size : Nat := 83
abbrev f_call_prizes : Nat := 84
abbrev f_call_bid : Nat := 85
abbrev f_call_play : Nat := 86
abbrev f_call_best : Nat := 87
abbrev f_points_for : Nat := 88
abbrev f_league_row : Nat := 89
abbrev f_call_league : Nat := 90
abbrev f_call_fold : Nat := 91
abbrev f_call_drop : Nat := 92
abbrev f_work : Nat := 93
abbrev f_are_within : Nat := 94
abbrev f_lists_fit : Nat := 95
abbrev f_needed_places : Nat := 96
abbrev f_are_cards : Nat := 97
abbrev f_bids_fit : Nat := 98
abbrev f_refusal : Nat := 99
abbrev f_answer_to : Nat := 100
abbrev f_read_rows : Nat := 101
abbrev f_answers : Nat := 102
abbrev f_I_TextFault : Nat := 103
abbrev f_I_Failure : Nat := 104
abbrev f_I_Expression : Nat := 105
abbrev f_I_Function : Nat := 106
abbrev f_I_Program : Nat := 107
abbrev f_I_Frame : Nat := 108
abbrev f_I_Machine : Nat := 109
abbrev f_I_House : Nat := 110
abbrev f_I_Tree : Nat := 111
abbrev f_I_Head : Nat := 112
end Bd

end
/-! ## BdHead -/
section
namespace Bd
open PySem PySem.Spec PyProof.Rows L2
def names0 : List Str := ["is_list", "as_number", "as_list", "fail_if", "truth", "calculate", "are_same", "member_at", "numbers_between", "pair_operation", "filled_operation", "single_operation", "operate", "checked", "number_expression", "with_inner", "function_named", "count_inner", "count_all", "are_numbers"]
def names1 : List Str := ["constant", "folded_operation", "folded_choice", "folded", "folded_program", "begin", "with_name", "next_in_order", "next_of_if", "next_of_let", "next_of_walk", "next_of_both", "next_of_call", "next_part", "variable_value", "kept", "value_of", "work_out", "scores", "hand"]
def names2 : List Str := ["inputs_for", "bid_failure", "bid_of", "match", "match_margin", "best_from", "full_places", "is_digit", "digits_number", "number_of", "is_language", "is_name", "operation_of", "takes", "form_parts", "bytes_of", "in_brackets", "head_rows", "expression_bytes", "function_bytes"]
def names3 : List Str := ["program_bytes", "is_word", "letters_of", "is_blank", "is_bracket", "may_stand", "check_bytes", "word_end", "trees_of", "wrong", "need", "read_parameters", "read_head", "read_heads", "parameter_count", "read_word", "read_all", "read_binding", "read_form", "read_bracket"]
def names4 : List Str := ["read_expression", "read_program", "call_load", "call_size", "call_prizes", "call_bid", "call_play", "call_best", "points_for", "league_row", "call_league", "call_fold", "call_drop", "work", "are_within", "lists_fit", "needed_places", "are_cards", "bids_fit", "refusal"]
def names5 : List Str := ["answer_to", "read_rows", "TextFault", "Failure", "Expression", "Function", "Program", "Frame", "Machine", "House", "Tree", "Head", "MOST_VALUE", "MOST_LENGTH", "FOLDED", "MOST_NUMBER_folding", "MOST_STEPS", "MOST_CALLS", "MOST_PLACES", "FORMS"]
def names6 : List Str := ["INPUTS", "ONE_PART", "TWO_PARTS", "SIGNS", "SIGN_BYTES", "MOST_NUMBER_language", "MINUS", "LINE_FEED_shown", "BLANK_shown", "OPENING_shown", "CLOSING_shown", "LINE_FEED_trees", "BLANK_trees", "OPENING_trees", "CLOSING_trees", "MOST_OPEN", "LETTERS", "MOST_FUNCTIONS", "MOST_PARAMETERS", "MOST_BYTES"]
def names7 : List Str := ["WHOLE", "LISTS", "LOAD", "PRIZES", "BID", "PLAY", "BEST", "LEAGUE", "FOLD"]
def names : List Str := names0 ++ (names1 ++ (names2 ++ (names3 ++ (names4 ++ (names5 ++ (names6 ++ (names7)))))))
/-- a module's name: what is told of its value -/
inductive GV where
  | any
  | ref (a : Addr)
  | int (i : Int)
  | str (x : Str)
  deriving DecidableEq
def gL0 : List (Str × GV) := [("__name__", .any), ("__doc__", .any), ("__package__", .any), ("__loader__", .any), ("__spec__", .any), ("__annotations__", .any), ("__builtins__", .any), ("__file__", .any), ("__cached__", .any), ("TextFault", .ref 31), ("Failure", .ref 51), ("MOST_VALUE", .int 1000000000000000000), ("MOST_LENGTH", .int 64), ("is_list", .ref 61), ("as_number", .ref 68), ("as_list", .ref 75), ("fail_if", .ref 82), ("truth", .ref 89), ("calculate", .ref 96), ("are_same", .ref 103)]
def gL1 : List (Str × GV) := [("member_at", .ref 110), ("numbers_between", .ref 117), ("pair_operation", .ref 124), ("filled_operation", .ref 131), ("single_operation", .ref 138), ("operate", .ref 143), ("checked", .ref 150), ("Expression", .ref 167), ("number_expression", .ref 178), ("with_inner", .ref 185), ("Function", .ref 202), ("Program", .ref 223), ("function_named", .ref 234), ("count_inner", .ref 239), ("count_all", .ref 244), ("FOLDED", .ref 245), ("MOST_NUMBER_folding", .int 1000000000), ("are_numbers", .ref 250), ("constant", .ref 255), ("folded_operation", .ref 262)]
def gL2 : List (Str × GV) := [("folded_choice", .ref 269), ("folded", .ref 274), ("folded_program", .ref 281), ("MOST_STEPS", .int 5000), ("MOST_CALLS", .int 20), ("Frame", .ref 298), ("Machine", .ref 319), ("begin", .ref 330), ("with_name", .ref 337), ("next_in_order", .ref 344), ("next_of_if", .ref 351), ("next_of_let", .ref 358), ("next_of_walk", .ref 365), ("next_of_both", .ref 372), ("next_of_call", .ref 379), ("next_part", .ref 386), ("variable_value", .ref 393), ("kept", .ref 400), ("value_of", .ref 407), ("work_out", .ref 414)]
def gL3 : List (Str × GV) := [("scores", .ref 421), ("hand", .ref 426), ("inputs_for", .ref 433), ("bid_failure", .ref 440), ("bid_of", .ref 447), ("match", .ref 454), ("match_margin", .ref 461), ("best_from", .ref 468), ("MOST_PLACES", .int 8), ("House", .ref 485), ("full_places", .ref 494), ("FORMS", .ref 495), ("INPUTS", .ref 496), ("ONE_PART", .ref 497), ("TWO_PARTS", .ref 498), ("SIGNS", .ref 499), ("SIGN_BYTES", .ref 500), ("MOST_NUMBER_language", .int 1000000000), ("MINUS", .int 45), ("is_digit", .ref 507)]
def gL4 : List (Str × GV) := [("digits_number", .ref 512), ("number_of", .ref 519), ("is_language", .ref 526), ("is_name", .ref 533), ("operation_of", .ref 540), ("takes", .ref 547), ("form_parts", .ref 554), ("LINE_FEED_shown", .int 10), ("BLANK_shown", .int 32), ("OPENING_shown", .int 40), ("CLOSING_shown", .int 41), ("bytes_of", .ref 559), ("in_brackets", .ref 566), ("head_rows", .ref 573), ("expression_bytes", .ref 578), ("function_bytes", .ref 583), ("program_bytes", .ref 590), ("LINE_FEED_trees", .int 10), ("BLANK_trees", .int 32), ("OPENING_trees", .int 40)]
def gL5 : List (Str × GV) := [("CLOSING_trees", .int 41), ("MOST_OPEN", .int 20), ("LETTERS", .str "abcdefghijklmnopqrstuvwxyz"), ("Tree", .ref 607), ("is_word", .ref 618), ("letters_of", .ref 623), ("is_blank", .ref 630), ("is_bracket", .ref 637), ("may_stand", .ref 644), ("check_bytes", .ref 651), ("word_end", .ref 658), ("trees_of", .ref 665), ("MOST_FUNCTIONS", .int 8), ("MOST_PARAMETERS", .int 4), ("MOST_BYTES", .int 4000), ("Head", .ref 682), ("wrong", .ref 693), ("need", .ref 700), ("read_parameters", .ref 707), ("read_head", .ref 714)]
def gL6 : List (Str × GV) := [("read_heads", .ref 719), ("parameter_count", .ref 726), ("read_word", .ref 733), ("read_all", .ref 738), ("read_binding", .ref 745), ("read_form", .ref 752), ("read_bracket", .ref 759), ("read_expression", .ref 766), ("read_program", .ref 773), ("call_load", .ref 780), ("call_size", .ref 787), ("call_prizes", .ref 794), ("call_bid", .ref 801), ("call_play", .ref 808), ("call_best", .ref 815), ("points_for", .ref 822), ("league_row", .ref 829), ("call_league", .ref 836), ("call_fold", .ref 843), ("call_drop", .ref 850)]
def gL7 : List (Str × GV) := [("work", .ref 857), ("WHOLE", .ref 858), ("LISTS", .ref 859), ("LOAD", .int 0), ("PRIZES", .int 3), ("BID", .int 4), ("PLAY", .int 5), ("BEST", .int 6), ("LEAGUE", .int 7), ("FOLD", .int 8), ("are_within", .ref 864), ("lists_fit", .ref 871), ("needed_places", .ref 878), ("are_cards", .ref 885), ("bids_fit", .ref 892), ("refusal", .ref 897), ("answer_to", .ref 904), ("read_rows", .ref 911), ("answers", .ref 918)]
def gL : List (Str × GV) := gL0 ++ (gL1 ++ (gL2 ++ (gL3 ++ (gL4 ++ (gL5 ++ (gL6 ++ (gL7)))))))
/-! ## what is looked at behind the top -/
abbrev FnX : Type := Option (Str × Str × Arguments × FuncBody × Scope × Addr × List (Str × Addr) × Value × Addr)
def fnX (o : Option Obj) : FnX := match o with
  | some ⟨_, _, .func fd, _⟩ => some (fd.name, fd.qualname, fd.params, fd.body, fd.scope, fd.globals, fd.closure, fd.defaults, fd.builtins)
  | _ => none
def Fd.val (d : Fd) : FnX := some (d.name, d.qual, defArgs d.st, .stmts (defBody d.st), defScope d.st, mainGlobals, [], .none, builtinsNs)
/-- a def's code lies at c, the record there bears its qualified name -/
def codB (g : Addr → Option Obj) (d : Fd) : Bool := (match g d.at_ with
  | some ⟨_, _, .func fd, _⟩ => decide (fd.code = .ref d.code)
  | _ => false) && (match g d.code with
  | some ⟨_, _, .fields vs, _⟩ => (match vs.toList with
    | _ :: .str n _ :: _ => n == d.qual
    | _ => false)
  | _ => false)
def gvB : GV → Value → Bool
  | .any, _ => true
  | .ref a, .ref b => decide (a = b)
  | .int i, .int j _ => decide (i = j)
  | .str x, .str y _ => decide (x = y)
  | _, _ => false
def glB : List (Str × GV) → List DictEntry → Bool
  | [], [] => true
  | (x, v) :: r, e :: es => (match e.key with
    | .str y _ => decide (x = y)
    | _ => false) && (gvB v e.val && glB r es)
  | _, _ => false
def tpB (K : PySem.W.Frag) (q : Addr × List V) : Bool := match K.lookup q.1 with
  | some ⟨.type c, _, .seq its _, _⟩ => decide (c = "tuple") && (decide (its.size ≤ sizeLine) && He.relAll q.2 its.toList)
  | _ => false
def clB (K : PySem.W.Frag) (q : Addr × Addr × List Str) : Bool :=
  (PySem.W.plainGet K q.1 Str.empty && (PySem.W.hasDictIn K q.1 && (PySem.W.plainOver K q.1 && He.eqO (PySem.W.findIn K (.ref q.1) "__setattr__") (some (some (.builtin "object.__setattr__")))))) &&
  ((PySem.W.makesIn K q.1 && (He.eqO (PySem.W.findIn K (.ref q.1) "__init__") (some (some (.ref q.2.1))) && (PySem.W.isFn K (.ref q.2.1) && PySem.W.keepIn K (.ref q.1)))) &&
  q.2.2.all fun x => He.eqO (PySem.W.findIn K (.ref q.1) x) (some none))
def exB (K : PySem.W.Frag) (q : Addr × Addr × List Str) : Bool := (match K.lookup q.1 with
  | some ⟨.type c, dd, .cls cd, ⟨[k0, k1, k2, k3, some (.builtin n), k5]⟩⟩ => decide (c = "type") && (cd.hasDict && (!cd.hasDel && (decide (cd.mro = [.ref q.1, .type "Exception", .type "BaseException", .type "object"]) && decide (n = "Exception.__new__"))))
  | _ => false) && (He.eqO (PySem.W.findIn K (.ref q.1) "__setattr__") (some (some (.builtin "object.__setattr__"))) && (He.eqO (PySem.W.findIn K (.ref q.1) "__getattribute__") (some (some (.builtin "BaseException.__getattribute__"))) && (He.eqO (PySem.W.findIn K (.ref q.1) "__getattr__") (some none) &&
  (He.eqO (PySem.W.findIn K (.ref q.1) "__init__") (some (some (.ref q.2.1))) && (decide (PySem.W.typeIn K (.ref q.2.1) = some (.type "function")) &&
  (decide (PySem.W.subIn K (.ref q.1) (.type "BaseException") = some true) && (decide (PySem.W.typeIn K (.ref q.1) = some (.type "type")) && (PySem.W.hasDictIn K q.1 &&
  (PySem.W.keepIn K (.ref q.1) && (decide (PySem.W.exmOne K (.ref q.1) (.ref q.1) = some true) && q.2.2.all fun x => He.eqO (PySem.W.findIn K (.ref q.1) x) (some none)))))))))))
def sbB (K : PySem.W.Frag) : Bool := (match K.lookup aSIGN_BYTES with
  | some ⟨_, _, .dict es _, _⟩ => decide (es.toList.map (fun e => (match e.key with | .str x _ => x | _ => "?", match e.val with | .int i _ => i | _ => -1)) = sbL) && !(es.toList.any (·.refKey))
  | _ => false)
def sgB (K : PySem.W.Frag) : Bool := match K.lookup aSIGNS with
  | some ⟨.type c, none, .dict es n, sl⟩ => decide (c = "dict") && (sl.isEmpty && (!(aSIGNS == sysModules) && entB sgL es.toList))
  | _ => false
def chkT (g : Addr → Option Obj) (K : PySem.W.Frag) : Bool :=
  (match K.lookup mainGlobals with
    | some ⟨_, _, .dict es _, _⟩ => glB gL es.toList
    | _ => false) && ((fnL.all (codB g)) && ((clL.all (clB K)) && ((exL.all (exB K)) && ((tpL.all (tpB K)) && (sbB K && sgB K)))))
abbrev AlB : Type := (Bool × List FnX) × Option (List (Option (Str × Int)))
def obB (g : Addr → Option Obj) : AlB := ((chkT g (He.frG g adL), fnL.map fun d => fnX (g d.at_)), He.dicW (He.frG g adL) aSIGN_BYTES)
def valB (w : World) : AlB := ((true, fnL.map Fd.val), some (He.keysIn w.params (sbL.map (·.1))))

end Bd
namespace Bd
open PySem PySem.W PySem.Calls PyProof.Rows
abbrev qv : Program := view R.prog [163]
/-! ## what the row's own look asks, piece by piece (at once it wants 7 GB more than the library) -/
theorem both_t {a b : Bool} (h : a = true) (g : b = true) : (a && b) = true := by rw [h, g]; rfl
theorem said : PySem.Challenge.rw_bidplay_s01_answers.wellSaid = true := by
  unfold OpenSpec.wellSaid looksOpen
  refine both_t (both_t (both_t (both_t (both_t (both_t (both_t (both_t (both_t (both_t ?_ ?_) ?_) ?_) ?_) ?_) ?_) ?_) ?_) ?_) ?_
  all_goals decide +kernel
theorem view_ok : (chainsOk qv && opensWell R.prog) = true := both_t (by decide +kernel) (by decide +kernel)
/-! ## the run of the top: three looks at where it ends, each by a run of its own (for the memory) -/
theorem join3 {A B C S : Type} {o : Option S} {f : S → A} {g : S → B} {h : S → C} {a : A} {b : B} {c : C} (h1 : o.map f = some a) (h2 : o.map g = some b) (h3 : o.map h = some c) : o.map (fun s => (f s, g s, h s)) = some (a, b, c) := by
  cases o with
  | none => cases h1
  | some s => cases h1; cases h2; cases h3; rfl
section
open HandSHeadRun
def RunB (w : World) : Prop := ∀ os : OsState, (endF (stepQ (denQ tabQ) R.prog w) 8000 R.prog w os).map (fun s => (looksF R.prog (boot_heap w.params) s.abs, seenQ qv names (importedModules R.prog.main.body) (fun s => xlAt qv [] s && recOk [] s) s.abs, obB (getT s))) = some (true, openGood qv names, valB w)
def RunL (w : World) : Prop := ∀ os : OsState, (endF (stepQ (denQ tabQ) R.prog w) 8000 R.prog w os).map (fun s => looksF R.prog (boot_heap w.params) s.abs) = some true
def RunS (w : World) : Prop := ∀ os : OsState, (endF (stepQ (denQ tabQ) R.prog w) 8000 R.prog w os).map (fun s => seenQ qv names (importedModules R.prog.main.body) (fun s => xlAt qv [] s && recOk [] s) s.abs) = some (openGood qv names)
def RunO (w : World) : Prop := ∀ os : OsState, (endF (stepQ (denQ tabQ) R.prog w) 8000 R.prog w os).map (fun s => obB (getT s)) = some (valB w)
end
theorem run_Lf (w : World) : RunL (w.withFollow "special-get-raises" false) := by
  intro os
  kernel_rfl
theorem run_Lt (w : World) : RunL (w.withFollow "special-get-raises" true) := by
  intro os
  kernel_rfl
theorem run_Sf (w : World) : RunS (w.withFollow "special-get-raises" false) := by
  intro os
  kernel_rfl
theorem run_St (w : World) : RunS (w.withFollow "special-get-raises" true) := by
  intro os
  kernel_rfl
theorem run_Of (w : World) : RunO (w.withFollow "special-get-raises" false) := by
  intro os
  kernel_rfl
theorem run_Ot (w : World) : RunO (w.withFollow "special-get-raises" true) := by
  intro os
  kernel_rfl
theorem run_f (w : World) : RunB (w.withFollow "special-get-raises" false) := fun os => join3 (run_Lf w os) (run_Sf w os) (run_Of w os)
theorem run_t (w : World) : RunB (w.withFollow "special-get-raises" true) := fun os => join3 (run_Lt w os) (run_St w os) (run_Ot w os)
end Bd

end
/-! ## BdTx -/
section
namespace Bd
open PySem PySem.Spec PyProof.Rows L2
/-! ## from the checks to the facts -/
theorem frg_at {g : Addr → Option Obj} : ∀ {as : List Addr} {a : Addr} {o : Obj}, as.contains a = true → g a = some o → (He.frG g as).lookup a = some o
  | [], a, o, h, _ => by cases h
  | b :: r, a, o, h, e => by
    have ih := @frg_at g r a o
    unfold He.frG at ih ⊢
    rw [List.filterMap_cons]
    by_cases hab : a = b
    · subst hab
      rw [e]
      simp [List.lookup]
    · have hr : r.contains a = true := by
        rw [List.contains_cons] at h
        simpa [hab] using h
      cases gb : g b with
      | none => exact ih hr e
      | some o' =>
        have hb : (a == b) = false := by simpa using hab
        show List.lookup a ((b, o') :: _) = _
        rw [List.lookup_cons, hb]
        exact ih hr e
def look (l : List (Str × GV)) (x : Str) : Option GV := (l.find? fun q => decide (q.1 = x)).map (·.2)
theorem glo_look : (glL.all fun q => decide (look gL q.1 = some (.ref q.2))) = true := by decide +kernel
theorem fre_look : (frL.all fun x => decide (look gL x = none)) = true := by decide +kernel
theorem int_look : (itL.all fun q => decide (look gL q.1 = some (.int q.2))) = true := by decide +kernel
theorem let_look : look gL "LETTERS" = some (.str "abcdefghijklmnopqrstuvwxyz") := by decide +kernel
theorem fn_in : (fnL.all fun d => adL.contains d.at_ && adL.contains d.code) = true := by decide +kernel
def Looked (x : Str) (es : List DictEntry) : Option GV → Prop
  | none => es.find? (fun e => e.key.isStr x) = none
  | some v => ∃ e, es.find? (fun e => e.key.isStr x) = some e ∧ gvB v e.val = true
theorem gl_look {x : Str} : ∀ {l : List (Str × GV)} {es : List DictEntry}, glB l es = true → Looked x es (look l x) ∧ es.any (fun e => e.refKey) = false
  | [], [], _ => ⟨rfl, rfl⟩
  | [], _ :: _, h => by cases h
  | _ :: _, [], h => by cases h
  | (y, v) :: r, e :: es, h => by
    have h : ((match e.key with | .str z _ => decide (y = z) | _ => false) && (gvB v e.val && glB r es)) = true := h
    obtain ⟨h1, h⟩ := He.ba h
    obtain ⟨h2, h3⟩ := He.ba h
    obtain ⟨k1, k2⟩ := gl_look (x := x) h3
    cases hk : e.key with
    | str z t =>
      rw [hk] at h1
      have hyz : y = z := of_decide_eq_true h1
      subst hyz
      have hs : e.key.isStr x = (y == x) := by rw [hk]; rfl
      have hr : e.refKey = false := by unfold DictEntry.refKey; rw [hk]
      refine ⟨?_, by rw [List.any_cons, hr, k2]; rfl⟩
      unfold look
      rw [List.find?_cons]
      by_cases hyx : y = x
      · rw [decide_eq_true hyx]
        refine ⟨e, ?_, h2⟩
        rw [List.find?_cons, hs]
        have : (y == x) = true := by simpa using hyx
        rw [this]
      · rw [decide_eq_false hyx]
        have hb : (y == x) = false := by simpa using hyx
        unfold look at k1
        dsimp only
        cases hl : (r.find? fun q => decide (q.1 = x)).map (·.2) with
        | none =>
          rw [hl] at k1
          show List.find? _ (e :: es) = none
          rw [List.find?_cons, hs, hb]
          exact k1
        | some w =>
          rw [hl] at k1
          obtain ⟨e', k3, k4⟩ := k1
          refine ⟨e', ?_, k4⟩
          rw [List.find?_cons, hs, hb]
          exact k3
    | _ => rw [hk] at h1; cases h1
theorem ns_at {K : PySem.W.Frag} {ns : Addr} {c : Value} {d : Option Addr} {es : Array DictEntry} {n : Nat} {sl : Array (Option Value)} (h : K.lookup ns = some ⟨c, d, .dict es n, sl⟩) (x : Str) :
    PySem.W.nsIn K ns x = (match es.toList.find? (fun e => e.key.isStr x) with | some e => some (some e.val) | none => if es.toList.any (fun e => e.refKey) = true then none else some none) := by
  unfold PySem.W.nsIn
  rw [h]; rfl
theorem ns_some {K : PySem.W.Frag} {ns : Addr} {c : Value} {d : Option Addr} {es : Array DictEntry} {n : Nat} {sl : Array (Option Value)} (h : K.lookup ns = some ⟨c, d, .dict es n, sl⟩) {l : List (Str × GV)} (hg : glB l es.toList = true) {x : Str} {v : GV} (hv : look l x = some v) :
    ∃ u, PySem.W.nsIn K ns x = some (some u) ∧ gvB v u = true := by
  have k := (gl_look (x := x) hg).1
  rw [hv] at k
  obtain ⟨e, k1, k2⟩ := k
  exact ⟨e.val, by rw [ns_at h, k1], k2⟩
theorem ns_none {K : PySem.W.Frag} {ns : Addr} {c : Value} {d : Option Addr} {es : Array DictEntry} {n : Nat} {sl : Array (Option Value)} (h : K.lookup ns = some ⟨c, d, .dict es n, sl⟩) {l : List (Str × GV)} (hg : glB l es.toList = true) {x : Str} (hv : look l x = none) :
    PySem.W.nsIn K ns x = some none := by
  obtain ⟨k, k2⟩ := gl_look (x := x) hg
  rw [hv] at k
  have k : es.toList.find? (fun e => e.key.isStr x) = none := k
  rw [ns_at h, k, k2]
  rfl
theorem gv_ref {a : Addr} {u : Value} (h : gvB (.ref a) u = true) : u = .ref a := by
  cases u with
  | ref b => exact congrArg Value.ref (of_decide_eq_true h).symm
  | _ => cases h
theorem gv_int {i : Int} {u : Value} (h : gvB (.int i) u = true) : ∃ t, u = .int i t := by
  cases u with
  | int j t => exact ⟨t, by rw [of_decide_eq_true (show decide (i = j) = true from h)]⟩
  | _ => cases h
theorem gv_str {x : Str} {u : Value} (h : gvB (.str x) u = true) : ∃ t, u = .str x t := by
  cases u with
  | str y t => exact ⟨t, by rw [of_decide_eq_true (show decide (x = y) = true from h)]⟩
  | _ => cases h
theorem all_at {α : Type} {p : α → Bool} {l : List α} (h : l.all p = true) {i : Nat} {x : α} (e : l[i]? = some x) : p x = true := List.all_eq_true.mp h x (List.mem_of_getElem? e)
/-- a def as it was found -/
theorem fun_at {g : Addr → Option Obj} {d : Fd} (e : fnX (g d.at_) = d.val) (c : codB g d = true) (hin : (adL.contains d.at_ && adL.contains d.code) = true) :
    ∃ fd, FunD (He.frG g adL) d.name d.qual (defArgs d.st) (defBody d.st) (defScope d.st) [] [] d.at_ fd := by
  obtain ⟨i1, i2⟩ := He.ba hin
  unfold codB at c
  obtain ⟨c1, c2⟩ := He.ba c
  unfold fnX at e
  cases q : g d.at_ with
  | none => rw [q] at c1; cases c1
  | some o =>
    obtain ⟨oc, od, dt, osl⟩ := o
    rw [q] at c1 e
    cases dt with
    | func fd =>
      obtain ⟨n1, n2, n3, n4, n5, n6, n7, n8, n9, n10, n11, n12, n13, n14, n15⟩ := fd
      have e2 : (some (n1, n2, n3, n4, n5, n6, n7, n8, n15) : FnX) = some (d.name, d.qual, defArgs d.st, .stmts (defBody d.st), defScope d.st, mainGlobals, [], .none, builtinsNs) := e
      simp only [Option.some.injEq, Prod.mk.injEq] at e2
      obtain ⟨h1, h2, h3, h4, h5, h6, h7, h8, h9⟩ := e2
      subst h1 h2 h3 h4 h5 h6 h7 h8 h9
      have hc : n13 = .ref d.code := of_decide_eq_true c1
      subst hc
      have lk := frg_at (as := adL) i1 q
      have hcode : PySem.W.codeIn (He.frG g adL) (.ref d.code) d.qual = true := by
        cases qc : g d.code with
        | none => rw [qc] at c2; cases c2
        | some oc2 =>
          rw [qc] at c2
          unfold PySem.W.codeIn
          dsimp only
          rw [frg_at (as := adL) i2 qc]
          exact c2
      refine ⟨_, ⟨oc, od, _, n9, n10, n11, n12, _, n14, osl, rfl, lk, hcode, .inl ⟨rfl, rfl⟩, .inl rfl⟩, ?_⟩
      unfold PySem.W.keepIn
      dsimp only
      rw [lk]
    | _ => cases c1
theorem eq_of_beq {a b : Option (Option Value)} (h : He.eqO a b = true) : a = b := He.eqO_ok h
theorem cl_at {K : PySem.W.Frag} {C f : Addr} {l : List Str} (h : clB K (C, f, l) = true) : Cls K C ∧ Mk K C f ∧ ∀ x ∈ l, NoAttr K C x := by
  unfold clB at h
  obtain ⟨a, b⟩ := He.ba h
  obtain ⟨a1, a⟩ := He.ba a
  obtain ⟨a2, a⟩ := He.ba a
  obtain ⟨a3, a4⟩ := He.ba a
  obtain ⟨b, c⟩ := He.ba b
  obtain ⟨b1, b⟩ := He.ba b
  obtain ⟨b2, b⟩ := He.ba b
  obtain ⟨b3, b4⟩ := He.ba b
  exact ⟨⟨a1, a2, a3, He.eqO_ok a4⟩, ⟨b1, He.eqO_ok b2, b3, b4⟩, fun x hx => He.eqO_ok (List.all_eq_true.mp c x hx)⟩
theorem ex_at {K : PySem.W.Frag} {C f : Addr} {l : List Str} (h : exB K (C, f, l) = true) : ExOk K C f l := by
  unfold exB at h
  obtain ⟨a, h⟩ := He.ba h
  obtain ⟨h1, h⟩ := He.ba h
  obtain ⟨h2, h⟩ := He.ba h
  obtain ⟨h3, h⟩ := He.ba h
  obtain ⟨h4, h⟩ := He.ba h
  obtain ⟨h5, h⟩ := He.ba h
  obtain ⟨h6, h⟩ := He.ba h
  obtain ⟨h7, h⟩ := He.ba h
  obtain ⟨h8, h⟩ := He.ba h
  obtain ⟨h9, h⟩ := He.ba h
  obtain ⟨h10, h11⟩ := He.ba h
  refine ⟨?_, He.eqO_ok h1, He.eqO_ok h2, He.eqO_ok h3, He.eqO_ok h4, of_decide_eq_true h5, of_decide_eq_true h6, of_decide_eq_true h7, h8, h9, of_decide_eq_true h10, fun x hx => He.eqO_ok (List.all_eq_true.mp h11 x hx)⟩
  dsimp only at a
  split at a
  · rename_i c dd cd k0 k1 k2 k3 n k5 hq
    obtain ⟨a1, a⟩ := He.ba a
    obtain ⟨a2, a⟩ := He.ba a
    obtain ⟨a3, a⟩ := He.ba a
    obtain ⟨a4, a5⟩ := He.ba a
    obtain ⟨m1, m2, m3, m4, m5, m6, m7, m8, m9, m10, m11⟩ := cd
    have e1 : c = "type" := of_decide_eq_true a1
    have e4 : m3 = [.ref C, .type "Exception", .type "BaseException", .type "object"] := of_decide_eq_true a4
    have e5 : n = "Exception.__new__" := of_decide_eq_true a5
    have e2 : m6 = true := a2
    have e3 : m11 = false := by cases m11 with | false => rfl | true => cases a3
    subst e1 e2 e3 e4 e5
    exact ⟨_, _, _, _, _, _, _, _, _, _, _, _, _, _, hq⟩
  · cases a
theorem tp_at {K : PySem.W.Frag} {a : Addr} {vs : List V} (h : tpB K (a, vs) = true) (H : Hp) : SqT K H a vs := by
  unfold tpB at h
  dsimp only at h
  split at h
  · rename_i c dd its n sl hq
    obtain ⟨h1, h2⟩ := He.ba h
    obtain ⟨h3, h4⟩ := He.ba h2
    exact .inr ⟨_, its, n, hq, congrArg Value.type (of_decide_eq_true h1), rfl, of_decide_eq_true h3, He.relAll_ok h4⟩
  · cases h
end Bd

end
/-! ## BdBase -/
section
namespace Bd
open PySem PySem.Spec PyProof.Rows
open L2 hiding Same.trans
open L2
/-! ## heaps: H what stands, I a part of it that never changes any more -/
theorem Same.new {H : Hp} {p : Addr} {o : HO} (h : H p = none) : Same H (upd H p o) := fun b u e => by
  rw [upd_ne (ne_of_none e h)]; exact e
theorem Same.put {I H : Hp} {p : Addr} {o : HO} (s : Same I H) (h : I p = none) : Same I (upd H p o) := fun b u e => by
  rw [upd_ne (ne_of_none e h)]; exact s b u e
theorem Same.both {I H : Hp} {p : Addr} {o : HO} (s : Same I H) : Same (upd I p o) (upd H p o) := fun b u e => by
  by_cases hb : b = p
  · subst hb; rw [upd_same] at e ⊢; exact e
  · rw [upd_ne hb] at e ⊢; exact s b u e
/-- from (I, H) to (I', H'): nothing that stood is changed, what is new of I' was not tracked before -/
structure Ext (I H I' H' : Hp) : Prop where
  hh : Same H H'
  ii : Same I I'
  ih : Same I' H'
  fr : ∀ b, I b = none → I' b ≠ none → H b = none
theorem Ext.refl {I H : Hp} (s : Same I H) : Ext I H I H := ⟨Same.refl H, Same.refl I, s, fun b h n => absurd h n⟩
theorem Ext.trans {I H I1 H1 I2 H2 : Hp} (a : Ext I H I1 H1) (b : Ext I1 H1 I2 H2) : Ext I H I2 H2 :=
  ⟨a.hh.trans b.hh, a.ii.trans b.ii, b.ih, fun c h n => by
    cases e : I1 c with
    | none => exact a.hh.free (b.fr c e n)
    | some o => exact a.fr c h (by rw [e]; exact fun z => nomatch z)⟩
theorem Ext.si {I H I' H' : Hp} (a : Ext I H I' H') : Same I H' := a.ii.trans a.ih
/-- a new object, told of for good -/
theorem Ext.new {I H I' H' : Hp} {p : Addr} {o : HO} (a : Ext I H I' H') (h : H' p = none) : Ext I H (upd I' p o) (upd H' p o) :=
  ⟨a.hh.trans (Same.new h), a.ii.trans (Same.new (a.ih.free h)), Same.both a.ih, fun b n z => by
    by_cases hb : b = p
    · rw [hb]; exact a.hh.free h
    · rw [upd_ne hb] at z; exact a.fr b n z⟩
/-- a new object, not told of -/
theorem Ext.tmp {I H I' H' : Hp} {p : Addr} {o : HO} (a : Ext I H I' H') (h : H' p = none) : Ext I H I' (upd H' p o) :=
  ⟨a.hh.trans (Same.new h), a.ii, Same.put a.ih (a.ih.free h), a.fr⟩
/-- an object that was made on the way and isn't told of is changed -/
theorem Ext.mut {I H I' H' : Hp} {p : Addr} {o : HO} (a : Ext I H I' H') (h : H p = none) (hi : I' p = none) : Ext I H I' (upd H' p o) :=
  ⟨Same.put a.hh h, a.ii, Same.put a.ih hi, a.fr⟩
/-- such an object is told of from now on -/
theorem Ext.frz {I H I' H' : Hp} {p : Addr} {o : HO} (a : Ext I H I' H') (h : H p = none) (hi : I' p = none) (e : H' p = some o) : Ext I H (upd I' p o) H' :=
  ⟨a.hh, a.ii.trans (Same.new hi), fun b u z => by
    by_cases hb : b = p
    · subst hb; rw [upd_same] at z; rw [e]; exact z
    · rw [upd_ne hb] at z; exact a.ih b u z, fun b n z => by
    by_cases hb : b = p
    · rw [hb]; exact h
    · rw [upd_ne hb] at z; exact a.fr b n z⟩
/-- all that stands is told of -/
theorem Ext.all {I H H' : Hp} (s : Same I H) (t : Same H H') : Ext I H I H' := ⟨t, Same.refl I, s.trans t, fun b h n => absurd h n⟩
theorem Ext.of {H H' : Hp} (t : Same H H') : Ext H H H' H' := ⟨t, t, Same.refl H', fun b h _ => h⟩
/-! ## a def, found by its name -/
structure Def (w : World) (K : PySem.W.Frag) (mg : Str → Option Value) (base : Heap) (k : Nat) (x : Str) (ps : List Str) (sp : Sp) : Prop where
  ex : ∃ f fd, mg x = some (.ref f) ∧ PySem.W.keepIn K (.ref f) = true ∧ Binds K fd ps [] ∧ FnOk R.prog w K mg base (L2.CX R.prog w) k f fd ps sp
section
variable {w : World} {K : PySem.W.Frag} {mg : Str → Option Value} {base : Heap} {j k : Nat} {x : Str} {ps : List Str} {sp sp' : Sp}
theorem Def.mono (D : Def w K mg base j x ps sp) (h : j ≤ k) : Def w K mg base k x ps sp :=
  let ⟨f, fd, a, b, c, d⟩ := D.ex
  ⟨f, fd, a, b, c, d.mono h⟩
theorem Def.imp (D : Def w K mg base k x ps sp) (h : ∀ vs H Q E, sp' vs H Q E → sp vs H Q E) : Def w K mg base k x ps sp' :=
  let ⟨f, fd, a, b, c, d⟩ := D.ex
  ⟨f, fd, a, b, c, d.imp h⟩
end
/-- the context of a def's body -/
abbrev Cq (w : World) (K : PySem.W.Frag) (mg : Str → Option Value) (base : Heap) (N : List Str) (x : Str) (st : Stmt) (f : Addr) (cdv : Value) (A : Around) (outer : List Env) (s : Shared) (H : Hp) (E : XK) : Cx :=
  cxOf (L2.CX R.prog w) R.prog w K mg base N x (defScope st) f cdv A outer s H E
section
variable {w : World} {K : PySem.W.Frag} {mg : Str → Option Value} {base : Heap} {N : List Str} {x : Str} {sc : Scope} {f : Addr} {cdv : Value} {A : Around} {outer : List Env} {s : Shared} {H : Hp} {E : XK}
theorem tz : Takes (cxOf (L2.CX R.prog w) R.prog w K mg base N x sc f cdv A outer s H E) (fun cls d _ H => E cls d H) := takes_of rfl rfl rfl rfl
theorem pz : Passes (L2.CX R.prog w) (cxOf (L2.CX R.prog w) R.prog w K mg base N x sc f cdv A outer s H E) E := passes_call (W := fun cls d _ H => E cls d H) tz fun _ _ _ _ h => h
end
/-- f(e, ..) -/
theorem pe_c {X : Cx} {k k' : Nat} {x : Str} {ps : List Str} {sp : Sp} {E : XK} {p pos : Pos} {e : Expr} {es : List Expr} {t : TA} (D : Def X.w X.K X.mg X.base k x ps sp) (hr : Room k' X.A) (hx : Passes (L2.CX X.prog X.w) X E) (ha : PA X (e :: es) t) (hk : k ≤ k' := by decide)
    (hp : X.prog = R.prog := by rfl) (hg : Gl X x := by rfl) (hdb : (x == ("__debug__" : Str)) = false := by decide) (he : starEach (e :: es) X.env = (false, eval e X.env) :: starEach es X.env := by rfl) (hpl : (backTo pos (starEach es X.env)).any (·.1) = false := by rfl) :
    PE X (.Call (.Name x p) (e :: es) [] pos) (tCall sp [] E t) := by
  obtain ⟨f, fd, a, b, c, d⟩ := D.ex
  rw [← hp] at d
  exact pe_call d (hr.mono hk) hg a b c .nil hx ha hdb he hpl
/-! ## comprehensions over a list -/
section
variable {K : PySem.W.Frag} {a : Addr} {xs : List V} {j : Nat} {te : TE} {vs : List Nat} {σ : L2.St} {I H : Hp} {Q : VK}
/-- each element hands back a value that stands in a relation to its place, whatever is made on the way -/
theorem lc_rel (R : Nat → V → Hp → Prop) (sI : Same I H) (hx : SqL K H a xs) (hw : ∀ x, wipe ((wipe σ vs).set j (some x)) vs = wipe σ vs) (hR : ∀ i y J J', Same J J' → R i y J → R i y J') (hz : xs.length ≤ 1000000)
    (he : ∀ i x I2 H2 (Q' : VK), xs[i]? = some x → Ext I H I2 H2 → (∀ y I4 H4, Ext I2 H2 I4 H4 → R i y I4 → Q' y H4) → te ((wipe σ vs).set j (some x)) H2 Q')
    (q : ∀ D ys I' H', Ext I H I' H' → I D = none → H D = none → I' D = some (.lst ys) → ys.length = xs.length → (∀ (i : Nat) y, ys[i]? = some y → R i y I') → Q (.ref D) H') :
    ∀ D, H D = none → ∃ W : Nat → Nat → Hp → Prop, (∃ m, W 0 m (upd H D (.lst []))) ∧ ∀ i m H, W i m H →
      ((Itl K a).stop i H ∧ Q (.ref D) H) ∨ ((Itl K a).go i H ∧ ∃ Nx : Hp → Prop, (∀ H', Nx H' → ∃ m', m' < m ∧ W (i + 1) m' H') ∧ ∀ x H', (Itl K a).yld i H x H' → gName j x (wipe σ vs) H' fun σ2 H2 => wipe σ2 vs = wipe σ vs ∧ tYes σ2 H2 fun b H3 =>
        if b = true then te σ2 H3 fun y H4 => ∃ acc, H4 D = some (.lst acc) ∧ acc.length < sizeLine ∧ Nx (upd H4 D (.lst (acc ++ [y]))) else Nx H3) := fun D hD => by
  have iD : I D = none := sI.free hD
  refine lc_list (xs := xs) (fun i H' => ∃ ys I', H' D = some (.lst ys) ∧ ys.length = i ∧ I' D = none ∧ Ext I H I' H' ∧ ∀ (k : Nat) y, ys[k]? = some y → R k y I') ⟨[], I, upd_same, rfl, iD, (Ext.refl sI).tmp hD, fun k y e => by simp at e⟩
    (fun i H' _ p => by obtain ⟨ys, I', _, _, _, s, _⟩ := p; exact s.hh.seq hx) (fun i x H' hi p => ?_) fun H' p => ?_
  · obtain ⟨ys, I', h1, h2, h3, s, r⟩ := p
    refine ⟨hw x, ?_⟩
    have hlt := (List.getElem?_eq_some_iff.mp hi).1
    refine he i x I' H' _ hi s fun y I4 H4 s4 r4 => ⟨ys, s4.hh _ _ h1, Nat.lt_of_le_of_lt (show ys.length ≤ 1000000 by omega) (by rw [sizeLine_eq]; decide), ys ++ [y], I4, upd_same, by simp [h2], ?_, ?_, fun k z e => ?_⟩
    · cases e : I4 D with
      | none => rfl
      | some o => exact absurd (s4.fr D h3 (by rw [e]; exact fun z => nomatch z)) (by rw [h1]; exact fun z => nomatch z)
    · have d4 : I4 D = none := by
        cases e : I4 D with
        | none => rfl
        | some o => exact absurd (s4.fr D h3 (by rw [e]; exact fun z => nomatch z)) (by rw [h1]; exact fun z => nomatch z)
      exact (s.trans s4).mut hD d4
    · by_cases hk : k < ys.length
      · rw [List.getElem?_append_left hk] at e
        exact hR _ _ _ _ s4.ii (r k z e)
      · rw [List.getElem?_append_right (by omega)] at e
        have hk0 : k - ys.length = 0 := by
          have := (List.getElem?_eq_some_iff.mp e).1
          simp at this
          omega
        rw [hk0] at e
        have ez : z = y := by simpa using e.symm
        have ek : k = i := by omega
        subst ez ek
        exact r4
  · obtain ⟨ys, I', h1, h2, h3, s, r⟩ := p
    exact q D ys _ H' (s.frz hD h3 h1) iD hD upd_same h2 fun i y e => hR _ _ _ _ (Same.new h3) (r i y e)
/-- each element hands back a told function of its item; the heap may grow meanwhile -/
theorem lc_map (g : V → V) (sI : Same I H) (hx : SqL K H a xs) (hw : ∀ x, wipe ((wipe σ vs).set j (some x)) vs = wipe σ vs) (hz : xs.length ≤ 1000000)
    (he : ∀ x I2 H2 (Q' : VK), x ∈ xs → Ext I H I2 H2 → (∀ H4, Same H2 H4 → Q' (g x) H4) → te ((wipe σ vs).set j (some x)) H2 Q')
    (q : ∀ D I' H', Ext I H I' H' → I D = none → H D = none → I' D = some (.lst (xs.map g)) → Q (.ref D) H') :
    ∀ D, H D = none → ∃ W : Nat → Nat → Hp → Prop, (∃ m, W 0 m (upd H D (.lst []))) ∧ ∀ i m H, W i m H →
      ((Itl K a).stop i H ∧ Q (.ref D) H) ∨ ((Itl K a).go i H ∧ ∃ Nx : Hp → Prop, (∀ H', Nx H' → ∃ m', m' < m ∧ W (i + 1) m' H') ∧ ∀ x H', (Itl K a).yld i H x H' → gName j x (wipe σ vs) H' fun σ2 H2 => wipe σ2 vs = wipe σ vs ∧ tYes σ2 H2 fun b H3 =>
        if b = true then te σ2 H3 fun y H4 => ∃ acc, H4 D = some (.lst acc) ∧ acc.length < sizeLine ∧ Nx (upd H4 D (.lst (acc ++ [y]))) else Nx H3) :=
  lc_rel (fun i y _ => ∃ x, xs[i]? = some x ∧ y = g x) sI hx hw (fun _ _ _ _ _ h => h) hz
    (fun i x I2 H2 Q' hi e k => he x I2 H2 Q' (List.mem_of_getElem? hi) e fun H4 s => k _ I2 H4 (Ext.all e.ih s) ⟨x, hi, rfl⟩)
    fun D ys I' H' e iD hD h1 h2 r => q D I' H' e iD hD (by
      rw [h1]
      refine congrArg (fun l => some (HO.lst l)) (List.ext_getElem? fun i => ?_)
      rw [List.getElem?_map]
      cases ey : ys[i]? with
      | none =>
        have := List.getElem?_eq_none_iff.mp ey
        rw [List.getElem?_eq_none_iff.mpr (by omega)] <;> rfl
      | some y =>
        obtain ⟨x, hx, rfl⟩ := r i y ey
        rw [hx] <;> rfl)
end
/-! ## promises by arguments; a def of the text keeps its promise -/
def Sp1 (p : V → Hp → VK → XK → Prop) : Sp := fun vs H Q E => ∃ a, vs = [a] ∧ p a H Q E
def Sp2 (p : V → V → Hp → VK → XK → Prop) : Sp := fun vs H Q E => ∃ a b, vs = [a, b] ∧ p a b H Q E
def Sp3 (p : V → V → V → Hp → VK → XK → Prop) : Sp := fun vs H Q E => ∃ a b c, vs = [a, b, c] ∧ p a b c H Q E
def Sp4 (p : V → V → V → V → Hp → VK → XK → Prop) : Sp := fun vs H Q E => ∃ a b c d, vs = [a, b, c, d] ∧ p a b c d H Q E
def Sp5 (p : V → V → V → V → V → Hp → VK → XK → Prop) : Sp := fun vs H Q E => ∃ a b c d e, vs = [a, b, c, d, e] ∧ p a b c d e H Q E
section
variable {w : World} {K : PySem.W.Frag} {mg : Str → Option Value} {base : Heap} {k : Nat} {x : Str} {ps N : List Str} {sp : Sp} {st : Stmt} {a c : Addr}
abbrev BindE (x : Str) (st : Stmt) (ps : List Str) : Prop := ∀ (kV doc pm : Value) (an : Option Addr) (cdv ct : Value) (us : List Value), us.length = ps.length → bindArgs (PySem.W.fnOf x x (defArgs st) (defBody st) (defScope st) .none kV doc pm an cdv ct) ⟨us, []⟩ = pure (ps.zip us)
/-- what a body must be -/
abbrev Body (w : World) (K : PySem.W.Frag) (mg : Str → Option Value) (base : Heap) (k : Nat) (x : Str) (st : Stmt) (a : Addr) (N : List Str) (vs : List V) (p : Hp → VK → XK → Prop) : Prop :=
  ∀ (cdv : Value) (A : Around) (outer : List Env) (s : Shared) (H : Hp) (Q : VK) (E : XK), Room k (A.deeper (envOfC x (defScope st) s.heap.objs.size a cdv)) → p H Q E →
    ∃ t, PSs (Cq w K mg base N x st a cdv A outer s H E) (defBody st) t ∧ t { nx := fun _ H' => Q .non H', rt := Q } (start N vs) H
theorem mkDef (T : Tx w K mg) (i : Nat) (hi : fnL[i]? = some ⟨x, x, st, a, c⟩) (hg : glL[i]? = some (x, a)) (S : FnScope N ps (defScope st)) (hb : BindE x st ps) (len : ∀ vs H Q E, sp vs H Q E → vs.length = ps.length)
    (body : ∀ vs, Body w K mg base k x st a N vs (sp vs)) : Def w K mg base (k + 1) x ps sp := by
  obtain ⟨fd, F⟩ := T.k.fn i _ hi
  exact ⟨a, fd, T.glo i hg, F.kp, F.bindsN hb, F.ok S len fun cdv A outer s H vs Q E hr h => body vs cdv A outer s H Q E hr h⟩
theorem mkDef1 {p : V → Hp → VK → XK → Prop} (T : Tx w K mg) (i : Nat) (hi : fnL[i]? = some ⟨x, x, st, a, c⟩) (hg : glL[i]? = some (x, a)) (S : FnScope N ps (defScope st)) (hp : ps.length = 1) (hb : BindE x st ps)
    (body : ∀ u, Body w K mg base k x st a N [u] (p u)) : Def w K mg base (k + 1) x ps (Sp1 p) :=
  mkDef T i hi hg S hb (fun vs H Q E ⟨u, e, _⟩ => by rw [e, hp] <;> rfl) fun vs cdv A outer s H Q E hr ⟨u, e, h⟩ => by subst e; exact body u cdv A outer s H Q E hr h
theorem mkDef2 {p : V → V → Hp → VK → XK → Prop} (T : Tx w K mg) (i : Nat) (hi : fnL[i]? = some ⟨x, x, st, a, c⟩) (hg : glL[i]? = some (x, a)) (S : FnScope N ps (defScope st)) (hp : ps.length = 2) (hb : BindE x st ps)
    (body : ∀ u v, Body w K mg base k x st a N [u, v] (p u v)) : Def w K mg base (k + 1) x ps (Sp2 p) :=
  mkDef T i hi hg S hb (fun vs H Q E ⟨u, v, e, _⟩ => by rw [e, hp] <;> rfl) fun vs cdv A outer s H Q E hr ⟨u, v, e, h⟩ => by subst e; exact body u v cdv A outer s H Q E hr h
theorem mkDef3 {p : V → V → V → Hp → VK → XK → Prop} (T : Tx w K mg) (i : Nat) (hi : fnL[i]? = some ⟨x, x, st, a, c⟩) (hg : glL[i]? = some (x, a)) (S : FnScope N ps (defScope st)) (hp : ps.length = 3) (hb : BindE x st ps)
    (body : ∀ u v y, Body w K mg base k x st a N [u, v, y] (p u v y)) : Def w K mg base (k + 1) x ps (Sp3 p) :=
  mkDef T i hi hg S hb (fun vs H Q E ⟨u, v, y, e, _⟩ => by rw [e, hp] <;> rfl) fun vs cdv A outer s H Q E hr ⟨u, v, y, e, h⟩ => by subst e; exact body u v y cdv A outer s H Q E hr h
theorem mkDef4 {p : V → V → V → V → Hp → VK → XK → Prop} (T : Tx w K mg) (i : Nat) (hi : fnL[i]? = some ⟨x, x, st, a, c⟩) (hg : glL[i]? = some (x, a)) (S : FnScope N ps (defScope st)) (hp : ps.length = 4) (hb : BindE x st ps)
    (body : ∀ u v y z, Body w K mg base k x st a N [u, v, y, z] (p u v y z)) : Def w K mg base (k + 1) x ps (Sp4 p) :=
  mkDef T i hi hg S hb (fun vs H Q E ⟨u, v, y, z, e, _⟩ => by rw [e, hp] <;> rfl) fun vs cdv A outer s H Q E hr ⟨u, v, y, z, e, h⟩ => by subst e; exact body u v y z cdv A outer s H Q E hr h
end
/-! ## names of the module -/
section
variable {X : Cx} {x : Str} {pos : Pos}
theorem pe_gi {i : Int} (hm : ∃ t, X.mg x = some (.int i t)) (hg : Gl X x := by rfl) (hd : (x == ("__debug__" : Str)) = false := by decide) : PE X (.Name x pos) (tC (.int i)) := let ⟨_, e⟩ := hm; pe_glob hg e ⟨_, rfl⟩ hd
theorem pe_gs {z : Str} (hm : ∃ t, X.mg x = some (.str z t)) (hg : Gl X x := by rfl) (hd : (x == ("__debug__" : Str)) = false := by decide) : PE X (.Name x pos) (tC (.str z)) := let ⟨_, e⟩ := hm; pe_glob hg e ⟨_, rfl⟩ hd
theorem pe_gr {a : Addr} (hm : X.mg x = some (.ref a)) (hg : Gl X x := by rfl) (hd : (x == ("__debug__" : Str)) = false := by decide) : PE X (.Name x pos) (tC (.ref a)) := pe_glob hg hm rfl hd
end
end Bd

end
/-! ## BdExc -/
section
/-! An error's class over Exception, whose own __init__ says Exception.__init__(self, ..) and then lays its fields: made, raised, read. -/
namespace Bd
open PySem PySem.Spec PyProof.Rows
open L2
/-! ## the heap while it is made -/
section
variable {X : Cx} {pins : List (Addr × Obj)} {σ : L2.St} {H : Hp} {s : Shared} {h' : Heap} {t' : Nat} {a dx : Addr} {o1 o2 : HO}
/-- a tracked object is written, and another one, which is new, is tracked besides -/
theorem inv_grow (I : Inv X pins σ H s) (mu : Mut (H a)) (hd : H dx = none) (nd : ∀ b o, s.heap.get? b = some o → b ≠ dx) (k : ∀ b u, b ≠ a → s.heap.get? b = some u → h'.get? b = some u) (ha : ∃ u, h'.get? a = some u)
    (n1 : ObjOk X.prog X.w (upd H a o1) h' a o1) (n2 : ∀ J, ObjOk X.prog X.w J h' dx o2) : Inv X pins σ (upd (upd H a o1) dx o2) { s with heap := h', toks := t' } := by
  have U : Un X.fs [] H (upd H a o1) s.heap h' := Un.write mu (.inl rfl) k ha
  have w1 : HOk X.prog X.w (upd H a o1) h' := I.hok.write mu (.inl rfl) k ha n1
  have da : dx ≠ a := fun e => by rw [← e, hd] at mu; exact mu
  have hd1 : upd H a o1 dx = none := by rw [upd_ne da]; exact hd
  refine I.un (t' := t') { keep := U.keep, slot := U.slot, there := U.there, free := fun b o q n hx => ?_, tups := fun b xs q => ?_, frzs := fun b o u q => ?_, tbls := fun b ps q => ?_ } fun b o q => ?_
  · rw [upd_ne (nd b o q)]; exact U.free b o q n hx
  · rw [upd_ne (ne_of_none q hd)]; exact U.tups b xs q
  · rw [upd_ne (ne_of_none q hd)]; exact U.frzs b o u q
  · obtain ⟨m, e⟩ := U.tbls b ps q
    exact ⟨m, by rw [upd_ne (ne_of_none q hd)]; exact e⟩
  · by_cases hb : b = dx
    · subst hb; rw [upd_same] at q; cases q; exact n2 _
    · rw [upd_ne hb] at q
      exact (w1 b o q).stay (fun _ _ _ z => z) (fun c z => by rw [upd_ne (ne_of_none z hd1)]; exact z) fun c xs z => by rw [upd_ne (ne_of_none z hd1)]; exact z
end
/-! ## the class -/
section
variable {K : PySem.W.Frag} {C fI : Addr} {fs : List Str}
theorem ExOk.cd (T : ExOk K C fI fs) : ∃ cd, PySem.W.clsIn K C = some cd ∧ cd.mro = .ref C :: PySem.ESX.exTail ∧ cd.hasDict = true := by
  obtain ⟨nm, q, N, bs, sn, sub, ab, col, dd, k0, k1, k2, k3, k5, e⟩ := T.cls
  exact ⟨_, by unfold PySem.W.clsIn; rw [e] <;> rfl, rfl, rfl⟩
theorem ExOk.xf (T : ExOk K C fI fs) : XfC K C := ⟨T.ga, T.gg, T.exC, T.hdC⟩
end
theorem typ_E : typeOf (.type "Exception") = pure (.type "type") := by kernel_rfl
theorem init_E (K : PySem.W.Frag) : PySem.W.findCls K (.type "Exception") (.type "type") "__init__" = some (.val (.builtin "Exception.__init__")) := by kernel_rfl
/-! ## its __init__'s statements -/
/-- Exception.__init__(self, ..) -/
def tExI (K : PySem.W.Frag) (C fI : Addr) (fs : List Str) (ta : TA) : TE := fun σ H Q => ta σ H fun vs H1 => ∃ (a : Addr) (ws : List V), vs = .ref a :: ws ∧ ws.length ≤ 1000 ∧ H1 a = some (exo a C none) ∧ Q .non H1
/-- self.f = e, the first one; a further one -/
def tEx1 (C : Addr) (f : Str) (to te : TE) : TS := fun D σ H => te σ H fun y H1 => to σ H1 fun x H2 => ∃ a : Addr, x = .ref a ∧ H2 a = some (exo a C none) ∧ ∀ dx, H2 dx = none → dx ≠ a → D.nx σ (upd (upd H2 a (exo a C (some dx))) dx (exd dx [(f, y)]))
def tEx2 (C : Addr) (f : Str) (to te : TE) : TS := fun D σ H => te σ H fun y H1 => to σ H1 fun x H2 => ∃ (a dx : Addr) (l : List (Str × V)), x = .ref a ∧ H2 a = some (exo a C (some dx)) ∧ H2 dx = some (exd dx l) ∧ l.length ≤ 900 ∧ D.nx σ (upd H2 dx (exd dx ((f, y) :: l)))
section
variable {X : Cx} {C fI : Addr} {fs : List Str} {o e : Expr} {es : List Expr} {to te : TE} {ta : TA} {f : Str} {p p' p1 p2 pos : Pos}
theorem pe_exi {pl : Sem Bool} (T : ExOk X.K C fI fs) (hm : X.mg "Exception" = none) (ha : PA X (e :: es) ta) (hg : Gl X "Exception" := by rfl)
    (hc : eval (.Call (.Attribute (.Name "Exception" p1) "__init__" p2) (e :: es) [] pos) X.env = (do
      let ov ← eval (.Name "Exception" p1) X.env
      standAt p2.atName
      let (f, first) ← holding [ov] (getMethod ov "__init__" pl)
      callWith pos f first (backTo pos (starEach (e :: es) X.env)) (backToKw pos (keywordEach [] X.env))) := by rfl)
    (he : starEach (e :: es) X.env = (false, eval e X.env) :: starEach es X.env := by rfl) (hpl : (backTo pos (starEach es X.env)).any (·.1) = false := by rfl) :
    PE X (.Call (.Attribute (.Name "Exception" p1) "__init__" p2) (e :: es) [] pos) (tExI X.K C fI fs ta) := by
  constructor
  intro pins s σ H Q I h
  obtain ⟨m, fr⟩ := I.fr
  refine PySem.W.methodCall_KW (ld_blt I hg hm PyProof.Rows.Boot.«Exception» (PySem.W.method_type fr I.ok.mod.kin typ_E (by decide +kernel) (init_E X.K) (by decide +kernel) ?_) (by decide) (by decide)) hc
  show wpAny _ _ (callWith pos (Value.builtin "Exception.__init__") [] (backTo pos (starEach (e :: es) X.env)) []) _ _ _
  refine PyProof.Rows.callWith_method1 (thn (ha.run pos pins _ σ H _ (I.tok _) h) ?_) he hpl
  rintro us s1 ⟨vs, H1, I1, r1, a, ws, rfl, hl, ea, q⟩
  cases r1 with
  | @cons _ u0 _ ur ra rw' =>
    obtain rfl : u0 = Value.ref a := ra
    obtain ⟨nm, qn, N, bs, sn, sub, ab, col, dd, k0, k1, k2, k3, k5, hC⟩ := T.cls
    obtain ⟨t1, ho⟩ := exo_at I1.hok ea
    obtain ⟨hp, g, d, t, os⟩ := s1
    refine wpAny_call (PySem.HandSPX.init_base PySem.F.excBase_Exception (fun _ => rfl) (I1.kIn _ _ hC) ho (by rw [← Paired.length rw', sizeLine_eq]; omega) fun h' t2 k hx => ?_)
    have J := I1.write (t' := t) (x := a) (e := a) (o := exo a C none) (by rw [ea]; exact True.intro) (.inl rfl) k ⟨_, hx⟩ (exo_ok hx)
    have same : upd H1 a (exo a C none) = H1 := funext fun b => by
      by_cases hb : b = a
      · rw [hb, upd_same, ea]
      · exact upd_ne hb
    rw [same] at J
    exact ⟨.non, H1, J, rfl, q⟩
theorem ps_ex1 (T : ExOk X.K C fI fs) (hf : f ∈ fs) (ho : PE X o to) (he : PE X e te) (hs : swapsWith e (some (.Attribute o f p')) pos.line X.env = pure false := by rfl) : PS X (.Assign [.Attribute o f p'] e pos) (tEx1 C f to te) := by
  constructor
  intro pins s σ H D I h
  refine plainObj_wpAny_Assign_Attribute (thn (he.run pins s σ H _ I h) fun v s1 ⟨y, H1, I1, r1, q1⟩ => thn (ho.run pins s1 σ H1 _ I1 q1) ?_) hs
  rintro u s2 ⟨x, H2, I2, r2, a, rfl, ea, q⟩
  obtain rfl : u = Value.ref a := r2
  obtain ⟨cd, hcl, hmro, hhd⟩ := T.cd
  obtain ⟨t1, hoa⟩ := exo_at I2.hok ea
  obtain ⟨hp, g, d, t, os⟩ := s2
  refine PySem.W.set_plain I2.kIn (od := none) ⟨hoa, rfl, rfl, trivial⟩ T.sa (PySem.ESX.osa_new I2.kIn hoa hcl hmro hhd (T.no f hf) fun h' tk' dx k dn dne hx hn => ?_)
  have hnd : H2 dx = none := I2.hok.fresh dn
  exact ⟨σ, _, inv_grow (t' := tk') I2 (by rw [ea]; exact True.intro) hnd (fun b ob z => Nat.ne_of_lt (Nat.lt_of_lt_of_le (Heap.lt_size z) dn)) k ⟨_, hx⟩ (exo_ok hx) (fun J => exd_ok hn (relO_put (fs := []) r1 fun _ => True.intro)), q dx hnd dne⟩
theorem ps_ex2 (T : ExOk X.K C fI fs) (hf : f ∈ fs) (ho : PE X o to) (he : PE X e te) (hs : swapsWith e (some (.Attribute o f p')) pos.line X.env = pure false := by rfl) : PS X (.Assign [.Attribute o f p'] e pos) (tEx2 C f to te) := by
  constructor
  intro pins s σ H D I h
  refine plainObj_wpAny_Assign_Attribute (thn (he.run pins s σ H _ I h) fun v s1 ⟨y, H1, I1, r1, q1⟩ => thn (ho.run pins s1 σ H1 _ I1 q1) ?_) hs
  rintro u s2 ⟨x, H2, I2, r2, a, dx, l, rfl, ea, ed, hl, q⟩
  obtain rfl : u = Value.ref a := r2
  obtain ⟨cd, hcl, hmro, hhd⟩ := T.cd
  obtain ⟨t1, hoa⟩ := exo_at I2.hok ea
  obtain ⟨mA, hns, rel⟩ := exd_at I2.hok ed
  have hw := within_of rel
  obtain ⟨hp, g, d, t, os⟩ := s2
  obtain ⟨oD, _, _, hoD, _, _⟩ := hns.count hw
  refine PySem.W.set_plain I2.kIn (od := some oD) ⟨hoa, rfl, rfl, hoD⟩ T.sa (PySem.ESX.osa_old I2.kIn hoa hns hw (by rw [List.length_map]; omega) hcl hmro hhd (T.no f hf) fun h' tk' k hn => ?_)
  obtain ⟨od, _, _, eo, _⟩ := id hn
  exact ⟨σ, _, I2.write (t' := tk') (x := dx) (e := dx) (by rw [ed]; exact True.intro) (.inl rfl) k ⟨od, eo⟩ (exd_ok hn (relO_put r1 rel)), q⟩
end
/-! ## C(e, ..), raised -/
/-- the promise of its __init__: fl of the arguments is laid into a new dict -/
def spInE (C : Addr) (n : Nat) (fl : List V → List (Str × V)) : Sp := fun vs H Q _ => ∃ a ws, vs = .ref a :: ws ∧ ws.length = n ∧ H a = some (exo a C none) ∧
  ∀ d, H d = none → d ≠ a → Q .non (upd (upd H a (exo a C (some d))) d (exd d (fl ws)))
/-- what the class promises of C(vs): behind it its own dict d, which is new, holds fl vs -/
structure ErrD (w : World) (K : PySem.W.Frag) (mg : Str → Option Value) (base : Heap) (k : Nat) (x : Str) (C : Addr) (n : Nat) (fl : List V → List (Str × V)) : Prop where
  ex : ∃ fI fd ps fs, mg x = some (.ref C) ∧ ExOk K C fI fs ∧ Binds K fd ps [] ∧ FnOk R.prog w K mg base (L2.CX R.prog w) k fI fd ps (spInE C n fl)
/-- raise C(e, ..): the error's class, its dict, the heap behind -/
def tErr (C : Addr) (n : Nat) (fl : List V → List (Str × V)) (W : WX) (ta : TA) : TS := fun _ σ H => ta σ H fun vs H1 => vs.length = n ∧ ∀ d, H1 d = none → W (.ref C) (some d) σ (upd H1 d (.xd (fl vs)))
section
variable {X : Cx} {x : Str} {C : Addr} {n k k' : Nat} {fl : List V → List (Str × V)} {e : Expr} {es : List Expr} {ta : TA} {W : WX} {p pos pos2 : Pos}
theorem del_upd {H : Hp} {a d : Addr} {o1 o2 : HO} {fl : List (Str × V)} (ha : H a = none) (hd : d ≠ a) : upd (L2.del (upd (upd (upd H a o1) a o2) d (exd d fl)) a) d (.xd fl) = upd H d (.xd fl) := funext fun b => by
  by_cases hb : b = d
  · rw [hb, upd_same, upd_same]
  · rw [upd_ne hb, upd_ne hb]
    by_cases hba : b = a
    · rw [hba, del_same, ha]
    · rw [del_ne hba, upd_ne hb, upd_ne hba, upd_ne hba]
theorem ps_err (G : ErrD X.w X.K X.mg X.base k x C n fl) (hc : X.calm = true) (tk : Takes X W) (hr : Room k' X.A) (ha : PA X (e :: es) ta) (hn : n ≤ 1000 := by decide) (hk : k + 1 ≤ k' := by decide) (hp : X.prog = R.prog := by rfl) (hg : Gl X x := by rfl)
    (hdb : (x == ("__debug__" : Str)) = false := by decide) (he : starEach (e :: es) X.env = (false, eval e X.env) :: starEach es X.env := by rfl) (hpl : (backTo pos (starEach es X.env)).any (·.1) = false := by rfl) :
    PS X (.Raise (some (.Call (.Name x p) (e :: es) [] pos)) none pos2) (tErr C n fl W ta) := by
  obtain ⟨fI, fd, ps, fs, hm, T, hb, F1⟩ := G.ex
  rw [← hp] at F1
  have mk : PMk X (.Call (.Name x p) (e :: es) [] pos) (fun σ H Q => ta σ H fun vs H1 => vs.length = n ∧ ∀ d, H1 d = none → Q (.ref C) (some d) (upd H1 d (.xd (fl vs)))) := by
    intro pins s σ H Q I h
    obtain ⟨nm, q, N, bs, sn, sub, ab, col, dd, k0, k1, k2, k3, k5, hC⟩ := T.cls
    refine wpAny_Call_Name_kw (ld_glob I hg hm (PySem.W.callWith_K (h₀ := X.base) I.ok.mod.kin T.kC (thn (ha.run pos pins s σ H _ I h) fun us s1 ⟨vs, H1, I1, r1, hz, q1⟩ => ⟨I1.kIn, ?_⟩) he hpl) hdb)
    show wpAny _ _ (call (.ref C) us) _ _ _
    obtain ⟨hp1, g, dr, tk1, os⟩ := s1
    have sz : hp1.objs.size ≤ hp1.objs.size + 1 := Nat.le_succ _
    have free : H1 (hp1.objs.size + 1) = none := I1.hok.fresh sz
    have kk : ∀ b o, hp1.get? b = some o → ((hp1.push (PySem.W.kdv_tup us)).push (PySem.HandSPX.excO C hp1.objs.size)).get? b = some o := fun b o z => Heap.get?_push_of_some _ (Heap.get?_push_of_some _ z)
    have hget : ((hp1.push (PySem.W.kdv_tup us)).push (PySem.HandSPX.excO C hp1.objs.size)).get? (hp1.objs.size + 1) = some (PySem.HandSPX.excO C hp1.objs.size) := by heap_get
    have I2 := I1.laid (t' := tk1) (a := hp1.objs.size + 1) (o := exo (hp1.objs.size + 1) C none) kk sz (exo_ok hget)
    have r2 : Vals (V.ref (hp1.objs.size + 1) :: vs) (Value.ref (hp1.objs.size + 1) :: us) := .cons rfl r1
    -- the promise of __init__, at the state that the made object lies in
    have hq : spInE C n fl
        (V.ref (hp1.objs.size + 1) :: vs) (upd H1 (hp1.objs.size + 1) (exo (hp1.objs.size + 1) C none))
        (fun v H2 => v = .non ∧ ∃ d, H1 d = none ∧ d ≠ hp1.objs.size + 1 ∧ H2 = upd (upd (upd H1 (hp1.objs.size + 1) (exo (hp1.objs.size + 1) C none)) (hp1.objs.size + 1) (exo (hp1.objs.size + 1) C (some d))) d (exd d (fl vs))) (fun _ _ _ => False) :=
      ⟨_, vs, rfl, hz, upd_same, fun d hd hne => ⟨rfl, d, by rw [upd_ne hne] at hd; exact hd, hne, rfl⟩⟩
    have hl : (Value.ref (hp1.objs.size + 1) :: us).length = ps.length := by rw [← r2.length]; exact F1.len _ _ _ _ hq
    have hus : us.length ≤ sizeLine := by rw [← Paired.length r1, sizeLine_eq]; omega
    refine wpAny_call (PySem.HandSPX.call_own PySem.F.excBase_Exception (fun _ => rfl) (I1.kIn _ _ hC) (PySem.W.looks_findIn I1.kIn T.iC) (fun self => PySem.W.bind_fn I1.kIn self T.tI) hus
      (codeAny_mono (F1.run _ X.stack _ _ ⟨Value.ref (hp1.objs.size + 1) :: us, []⟩ (Value.ref (hp1.objs.size + 1) :: us) _ _ (fun _ _ _ => False) ((hr.mono hk).make C us []) (I2.env0.make C us [])
        (by have z := hb _ (Value.ref (hp1.objs.size + 1) :: us) I2.kIn (by rw [List.append_nil]; exact hl); rw [List.append_nil] at z; exact z) r2 hq) fun r s' hq' => ?_))
    cases r with
    | error er => exact passL (X := X) pins σ _ _ er s' I2 hq'
    | ok fl' =>
      cases fl' with
      | ret u =>
        obtain ⟨v, H2, os2, bare2, un2, hok2, rv, ev, d, hd1, hne, rfl⟩ := hq'
        subst ev
        obtain ⟨h2, g2, d2, t2, os'⟩ := s'
        refine ⟨rv, mk_end (raises_own T.exC T.tyC) I1 sz kk un2 hok2 os2 bare2 (d := d) (fs := fl vs) ?_ upd_same hd1 ?_⟩
        · rw [upd_ne (Ne.symm hne)]; exact upd_same
        · rw [del_upd free hne]; exact q1 d hd1
      | next => exact False.elim hq'
      | brk => exact False.elim hq'
      | cont => exact False.elim hq'
  exact ps_raise hc tk mk
end
end Bd

end
/-! ## BdCompX -/
section
/-! A list comprehension whose element may let an exception out of a call: the block's names are let go, the exception flies on in the def's own frame. -/
namespace Bd
open PySem PySem.Spec PyProof.Rows
open L2
/-- a call's exception, seen from the caller: the state without it, the ground, and that it flies over the caller's frames -/
theorem flying_of {X : Cx} {pins : List (Addr × Obj)} {σ : L2.St} {H : Hp} {s s' : Shared} {E : XK} {u : Value} (I : Inv X pins σ H s) (c : L2.CX X.prog X.w X.stack H s E u s') :
    ∃ (a : Addr) (B : Heap) (sI : Shared) (H' : Hp) (cls : Value) (d : Option Addr), u = .ref a ∧ Inv X pins σ H' sI ∧ (∀ b o, sI.heap.get? b = some o → b ∉ frs X.stack → B.get? b = some o) ∧ sI.heap.UpToSlots s'.heap ∧
      HandSPX.FlyingZ B X.stack a (Zc cls d) s'.heap ∧ H' a = none ∧ s'.os = sI.os ∧ AllBare s'.gens ∧ E cls d H' := by
  obtain ⟨a, B, H', cls, d, eu, fl, hok, ub, na, os, ag, hE⟩ := c
  obtain ⟨G, keepG, dropG⟩ := restrict s'.heap fun b => (B.get? b).isSome || decide (b ∈ frs X.stack)
  have inB : ∀ b o, B.get? b = some o → G.get? b = some o := fun b o e => (keepG b (by simp [e])).trans (fl.1 b o e)
  have inF : ∀ b, b ∈ frs X.stack → G.get? b = s'.heap.get? b := fun b hb => keepG b (by simp [hb])
  have back : ∀ b o, G.get? b = some o → s'.heap.get? b = some o ∧ ((B.get? b).isSome = true ∨ b ∈ frs X.stack) := fun b o e => by
    cases q : ((B.get? b).isSome || decide (b ∈ frs X.stack)) with
    | false => rw [dropG b q] at e; cases e
    | true =>
      rw [keepG b q] at e
      exact ⟨e, by simpa [Bool.or_eq_true] using q⟩
  have U : Un (frs X.stack) [] H H' s.heap G :=
    { keep := fun b o e n hb _ => inB b o (ub.keep b o e n hb)
      slot := fun b o e n hb _ => let ⟨sl, q⟩ := ub.slot b o e hb; ⟨sl, by rw [inF b hb]; exact q⟩
      free := fun b o e n _ => ub.free b o e n
      there := fun b o e _ => by
        by_cases hb : b ∈ frs X.stack
        · obtain ⟨sl, q⟩ := ub.slot b o e hb
          exact ⟨_, by rw [inF b hb]; exact q⟩
        · obtain ⟨o', q⟩ := ub.there b o e hb
          exact ⟨o', inB b o' q⟩
      tups := ub.tups
      frzs := ub.frzs
      tbls := ub.tbls }
  refine ⟨a, B, { s with heap := G, gens := s'.gens, drawn := s'.drawn, toks := s'.toks }, H', cls, d, eu, I.call (ch := []) U (hok.kept inB) ag (fun _ z => nomatch z), fun b o e hb => ?_, Heap.UpToSlots.of_keeps fun b o e => (back b o e).1, fl, na, os, ag, hE⟩
  obtain ⟨e', h⟩ := back b o e
  rcases h with h | h
  · obtain ⟨o', q⟩ := Option.isSome_iff_exists.mp h
    have z := fl.1 b o' q
    rw [e'] at z; cases z
    exact q
  · exact absurd h hb
/-- the context of a block whose element may raise: x, what is wanted of the exception -/
abbrev blkX (X : Cx) (s : Shared) (H : Hp) (scope : Scope) (cenv : Env) (fp : List Addr) (x : Value → Shared → Prop) : Cx := (X.blk s H scope cenv fp).wish x
section
variable {X : Cx} {pins : List (Addr × Obj)} {σ : L2.St} {s3 : Shared} {H3 : Hp} {scope : Scope} {ce : Env} {fp : List Addr} {E : XK} {W : WX}
/-- what flies out of a call of the element is held by the def's own frame, behind the block -/
theorem passes_blk (hs : X.stack = X.env :: X.outer) (hf : X.env.frame = some X.env.locals) (hcf : ce.frame = X.env.frame) (tk : Takes X W) (hW : ∀ cls d H, E cls d H → W cls d σ H) (I3 : Inv X pins σ H3 s3)
    (f3 : ∀ b ∈ fp, FpOk X pins H3 b) (cL : ce.locals = s3.heap.objs.size) :
    Passes (L2.CX X.prog X.w) (blkX X s3 H3 scope ce fp (notedBy (model X.prog X.w) X.A ce (CompFails (model X.prog X.w) X.A X.xe ce))) E := by
  intro pins' σ' H5 s5 u s6 I5 c
  obtain ⟨a, B, sI, H6, cls, d, rfl, J, nb, up, fl, na, os, ag, hE⟩ := flying_of I5 c
  have hst : X.stack = (blkX X s3 H3 scope ce fp (notedBy (model X.prog X.w) X.A ce (CompFails (model X.prog X.w) X.A X.xe ce))).stack := rfl
  have hfr : X.A.frames = some (X.env :: X.outer) := by rw [I3.ok.frames, hs]
  have nC : H6 ce.locals = none := J.free
  have lC : ce.locals ∉ frs X.stack := fun hm => by
    obtain ⟨_, o, ho, _⟩ := (show s3.heap.FunFrames X.base X.stack from I3.stack).mem hm
    rw [cL] at ho
    exact absurd (Heap.lt_size ho) (Nat.lt_irrefl _)
  obtain ⟨m, hn, _⟩ := J.loc
  have hnI : sI.heap.Ns ce.locals m := hn
  have hnB : B.Ns ce.locals m := let ⟨o, es, ep, e, r⟩ := hnI; ⟨o, es, ep, nb _ o e lC, r⟩
  have fl' : HandSPX.FlyingZ B (X.env :: X.outer) a (Zc cls d) s6.heap := by rw [← hs]; exact fl
  show wpAny _ _ (noteFrame (.ref a) ce) _ _ s6
  rw [noteFrame_env _ hcf]
  refine HandSPX.looks_onZ Zc.steady hfr hf fl' fun h7 hh up7 => ?_
  have hn7 : h7.Ns ce.locals m := let ⟨o, es, ep, e, r⟩ := hnB; ⟨o, es, ep, hh.1 _ o e, r⟩
  refine ⟨m, hn7, fun h8 m8 hn8 sb => ?_⟩
  -- the ground without the block
  obtain ⟨B', kB, dB⟩ := restrict B fun b => decide (b ≠ ce.locals)
  have kB' : ∀ b, b ≠ ce.locals → B'.get? b = B.get? b := fun b hb => kB b (decide_eq_true hb)
  have dB' : B'.get? ce.locals = none := dB _ (by simp)
  have sub : ∀ b o, B'.get? b = some o → b ≠ ce.locals ∧ B.get? b = some o := fun b o e => by
    by_cases hb : b = ce.locals
    · rw [hb, dB'] at e; cases e
    · exact ⟨hb, (kB' b hb).symm.trans e⟩
  have hh8 : HandSPX.HeldZ B' (X.env :: X.outer) a (Zc cls d) X.env.locals h8 := by
    obtain ⟨g1, g2, g3, oe, vs, T, oT, ts, he, hz, hd, h1, hnT, hTe, hT, hdT, h33⟩ := hh
    have notC : ∀ b o vs, h7.get? b = some o → o.data = .fields vs → b ≠ ce.locals := fun b o vs e q z => by
      obtain ⟨oc, es, ep, ec, ed, _⟩ := hn7
      rw [z, ec] at e; cases e
      rw [ed] at q; cases q
    refine ⟨fun b o e => ?_, ?_, ?_, oe, vs, T, oT, ts, ?_, hz, hd, h1, ?_, hTe, ?_, hdT, h33⟩
    · obtain ⟨hb, e'⟩ := sub b o e
      exact (sb.2 b hb).trans (g1 b o e')
    · cases q : B'.get? a with
      | none => rfl
      | some o => rw [(sub a o q).2] at g2; cases g2
    · have w8 : h8.FunFrames B (X.env :: X.outer) := Heap.FunFrames.sameBut sb hn8 g3
      exact funFrames_none w8 fun L hL => by
        cases q : B'.get? L with
        | none => rfl
        | some o =>
          obtain ⟨hne, _⟩ := w8.mem hL
          rw [(sub L o q).2] at hne; cases hne
    · exact (sb.2 a (notC a oe vs he hd)).trans he
    · cases q : B'.get? T with
      | none => rfl
      | some o => rw [(sub T o q).2] at hnT; cases hnT
    · exact (sb.2 T (notC T oT ts hT hdT)).trans hT
  have field1 : ∃ oe vs T, h8.get? a = some oe ∧ oe.data = .fields vs ∧ vs[1]? = some (.ref T) := by
    obtain ⟨_, _, _, oe, vs, T, _, _, he, _, hd, h1, _⟩ := hh8
    exact ⟨oe, vs, T, he, hd, h1⟩
  obtain ⟨oe, vs, T, he, hd, h1⟩ := field1
  unfold PySem.passOn
  refine wpAny_bind (wpAny_field he hd h1 ?_)
  rw [if_neg (show ¬ ((Value.ref T == Value.none) = true) from by simp), hcf, hf]
  refine wpAny_bind (HandSPX.setFlight_onZ hh8 fun h9 hh9 up9 => wpAny_throw ?_)
  -- back in the def's context
  have J2 : Inv X pins σ H6 sI := I3.call' (ch := fp) J.os J.base J.hok J.bare fun b hb => ⟨(f3 b hb).2.2.2.1, (f3 b hb).2.1, (f3 b hb).2.2.2.2.1, (f3 b hb).2.2.2.2.2⟩
  obtain ⟨g0, g1, g2, g3, g4, g5⟩ := I3.fpOk (H' := H6) (b := ce.locals) (by rw [cL]; exact Nat.le_refl _) nC
  obtain ⟨G, kG, dG⟩ := restrict sI.heap fun b => decide (b ≠ ce.locals)
  have kG' : ∀ b, b ≠ ce.locals → G.get? b = sI.heap.get? b := fun b hb => kG b (decide_eq_true hb)
  have dG' : G.get? ce.locals = none := dG _ (by simp)
  have J3 : Inv X pins σ H6 { sI with heap := G, toks := sI.toks } := J2.turned (t' := sI.toks) (fun b o hb e => (kG' b hb).trans e) g0 g1 g3 g4 g5
  have subG : ∀ b o, G.get? b = some o → b ≠ ce.locals ∧ sI.heap.get? b = some o := fun b o e => by
    by_cases hb : b = ce.locals
    · rw [hb, dG'] at e; cases e
    · exact ⟨hb, (kG' b hb).symm.trans e⟩
  refine tk _ _ ⟨a, B', { sI with heap := G, toks := sI.toks }, pins, σ, H6, cls, d, rfl, J3, fun b o e hb => ?_, fun b o e hnf => ?_, .inr (.inr (by rw [hs]; exact hh9)), na, os, ag, hW _ _ _ hE⟩
  · obtain ⟨hbc, e'⟩ := subG b o e
    exact (kB' b hbc).trans (nb b o e' hb)
  · obtain ⟨hbc, e'⟩ := subG b o e
    obtain ⟨sl, e6⟩ := up b o e' hnf
    obtain ⟨sl7, e7⟩ := up7 b _ e6 hnf
    have e8 := (sb.2 b hbc).trans e7
    obtain ⟨sl9, e9⟩ := up9 b { o with slots := sl7 } e8 hnf
    exact ⟨sl9, e9⟩
end
section
variable {X : Cx}
/-- [elt for target in iter]: as pe_lc, and E may come out of a call in elt -/
theorem pe_lcX {elt tg iter : Expr} {scope : Scope} {own : List (Str × Nat)} {pos : Pos} {wi : TI} {g : TG} {te : TE} {E : XK} {W : WX} (hs : X.stack = X.env :: X.outer) (hf : X.env.frame = some X.env.locals) (tk : Takes X W) (hW : ∀ cls d σ H, E cls d H → W cls d σ H)
    (hc : X.calm = true) (hN : X.N.Nodup) (hi : PI X tg iter wi) (ok : BlkOk X.N X.env.scope scope own)
    (hg : ∀ (s : Shared) (H : Hp) (C : Addr) (cl : List (Str × Addr)) (fp : List Addr) (x : Value → Shared → Prop), PG (blkX X s H scope (compEnvC scope cl C X.env) fp x) tg g)
    (he : ∀ (s : Shared) (H : Hp) (C : Addr) (cl : List (Str × Addr)) (fp : List Addr) (x : Value → Shared → Prop), Passes (L2.CX X.prog X.w) (blkX X s H scope (compEnvC scope cl C X.env) fp x) E → PE (blkX X s H scope (compEnvC scope cl C X.env) fp x) elt te)
    (hfs : ∀ x, foldedSetIterable iter X.env x = pure x := by intro _; rfl) :
    PE X (.ListComp elt [⟨tg, iter, [], 0⟩] scope pos) (tLc wi g tYes te (own.map (·.2))) := by
  constructor
  intro pins s σ H Q I h
  rw [eval_ListComp]
  have free : ∀ y ∈ scope.names, y.2 = .free → ∃ c, X.env.cells.lookup y.1 = some c := fun y hy e => I.ok.has _ (ok.free y hy e)
  refine comprehension_at (use := none) rfl hfs (closure_ok free) ok.kind (fun y hy e => by rw [ok.uniq y hy, e])
    (thn (hi.run pins s σ H _ I h) fun xv s1 hx => thn hx fun itv s2 h2 => ?_)
  obtain ⟨it, fp, tn, J, H2, e, I2, T, st2, f2, q⟩ := h2
  subst e
  refine wpAny_newObj_type (newEnv_comp ?_) (by show 0 ≤ sizeLine; decide)
  generalize hD : s2.heap.objs.size = D
  have hDn : H2 D = none := I2.hok.fresh (Nat.le_of_eq hD)
  obtain ⟨Wt, ⟨m0, w0⟩, turn⟩ := q D hDn
  generalize hs3 : ({ s2 with heap := s2.heap.push { cls := .type "list", data := .seq ([] : List Value).toArray } } : Shared) = s3
  have h3 : s3.heap = s2.heap.push { cls := .type "list", data := .seq ([] : List Value).toArray } := by rw [← hs3]
  have I3 : Inv X pins σ (upd H2 D (.lst [])) s3 := by
    rw [← hs3]
    exact I2.laid (t' := s2.toks) (fun b o e => Heap.get?_push_of_some _ e) (Nat.le_of_eq hD) ⟨Nat.zero_le _, [], 0, .nil, by rw [← hD]; exact Heap.get?_push_size _ rfl⟩
  have small : ∀ b ∈ fp, b < s2.heap.objs.size := fun b hb => let ⟨o, e, _⟩ := T.obj _ _ st2 b hb; Heap.lt_size e
  have f3 : ∀ b ∈ fp, FpOk X pins (upd H2 D (.lst [])) b := fun b hb => ⟨by rw [upd_ne (by rw [← hD]; exact Nat.ne_of_lt (small b hb))]; exact (f2 b hb).1, (f2 b hb).2⟩
  have st3 : tn 0 s3.heap := T.keep _ _ _ st2 fun b _ o e => by rw [h3]; exact Heap.get?_push_of_some _ e
  have I4 := block_start I3 ok hN fun b hb => ⟨f3 b hb, by rw [h3, Heap.size_push]; exact Nat.lt_succ_of_lt (small b hb)⟩
  generalize hce : compEnvC scope (cellsFrom (s3.heap.objs.size + 1) scope.names (cloFrom X.env.cells scope.names [])) s3.heap.objs.size X.env = ce at I4
  have cL : ce.locals = s3.heap.objs.size := by subst hce; rfl
  have cF : ce.frame = X.env.frame := by subst hce; rfl
  have pg : PG (blkX X s3 (upd H2 D (.lst [])) scope ce fp (notedBy (model X.prog X.w) X.A ce (CompFails (model X.prog X.w) X.A X.xe ce))) tg g := by subst hce; exact hg _ _ _ _ _ _
  have pe : PE (blkX X s3 (upd H2 D (.lst [])) scope ce fp (notedBy (model X.prog X.w) X.A ce (CompFails (model X.prog X.w) X.A X.xe ce))) elt te := by
    subst hce
    exact he _ _ _ _ _ _ (passes_blk hs hf cF tk (fun cls d H => hW cls d σ H) I3 f3 cL)
  show codeAny _ _ (.compStart (.ListComp elt [⟨tg, iter, [], 0⟩] scope pos) 0 (.ref it) (.ref D) (compEnvC scope (cellsFrom (s3.heap.objs.size + 1) scope.names (cloFrom X.env.cells scope.names [])) s3.heap.objs.size X.env))
    (compEnds (model X.prog X.w) X.A X.xe none (EP X pins σ Q) (.ref D) (compEnvC scope (cellsFrom (s3.heap.objs.size + 1) scope.names (cloFrom X.env.cells scope.names [])) s3.heap.objs.size X.env)) { s3 with heap := pushCells (s3.heap.push { cls := .type "dict", data := .dict #[] }) scope.names }
  rw [hce]
  generalize hx : notedBy (model X.prog X.w) X.A ce (CompFails (model X.prog X.w) X.A X.xe ce) = xw at pg pe
  have nfp : ∀ b ∈ fp, (upd H2 D (.lst [])) b = none := fun b hb => (f3 b hb).1
  generalize hH3 : upd H2 D (.lst []) = H3 at I3 I4 pg pe w0 nfp f3
  generalize hs4 : ({ s3 with heap := pushCells (s3.heap.push { cls := .type "dict", data := .dict #[] }) scope.names } : Shared) = s4 at I4 ⊢
  have st4 : tn 0 s4.heap := T.keep _ _ _ st3 fun b _ o e => by rw [← hs4]; exact pushCells_keeps _ _ _ _ (Heap.get?_push_of_some _ e)
  have I4' : Inv (blkX X s3 H3 scope ce fp xw) [] (wipe σ (own.map (·.2))) H3 s4 := I4.wish xw
  have stat : ∀ {σ' : L2.St} {H' : Hp} {s' : Shared}, Inv (blkX X s3 H3 scope ce fp xw) [] σ' H' s' → (∀ b ∈ fp, H' b = none) → ∀ b ∈ fp, FpOk (blkX X s3 H3 scope ce fp xw) [] H' b := fun {σ' H' s'} I' hn b hb =>
    ⟨hn b hb, (I'.ok.exf b hb).1, I'.ok.exfs b hb, .inl hb, fun x c e => (I'.ok.exf b hb).2 x c e, fun p hp => absurd (show p ∈ ([] : List (Addr × Obj)) ++ [] from hp) (by simp)⟩
  have loop : codeAny (model X.prog X.w) X.A (.compLoop (.ListComp elt [⟨tg, iter, [], 0⟩] scope pos) 0 (.ref it) (.ref D) ce) (compEnds (model X.prog X.w) X.A X.xe none (EP X pins σ Q) (.ref D) ce) s4 := by
    refine compLoop_any (fun n s' => ∃ i H', Inv (blkX X s3 H3 scope ce fp xw) [] (wipe σ (own.map (·.2))) H' s' ∧ tn i s'.heap ∧ (∀ b ∈ fp, H' b = none) ∧ Wt i n H') ?_ m0 ⟨0, H3, I4', st4, nfp, w0⟩
    rintro n s5 ⟨i, H5, I5, st5, n5, w5⟩
    have ex : (notedBy (model X.prog X.w) X.A ce fun e s' => compEnds (model X.prog X.w) X.A X.xe none (EP X pins σ Q) (.ref D) ce (.error e) s') = xw := hx
    rw [ex]
    rcases turn i n H5 w5 with ⟨stop, qq⟩ | ⟨go, Nx, hNx, step⟩
    · refine thnF (T.done (blkX X s3 H3 scope ce fp xw) rfl rfl rfl hc i [] s5 _ H5 (fun _ _ => False) I5 (stat I5 n5) st5 stop) fun r s6 ⟨hr, I6⟩ => ?_
      subst hr
      have I7 : Inv X pins σ H5 s6 := I3.call' (ch := fp) I6.os I6.base I6.hok I6.bare fun b hb => ⟨(f3 b hb).2.2.2.1, (f3 b hb).2.1, (f3 b hb).2.2.2.2.1, (f3 b hb).2.2.2.2.2⟩
      have nC : H5 ce.locals = none := I6.free
      obtain ⟨m, hn, _⟩ := I6.loc
      obtain ⟨f0, f1, f2', f3', f4, f5⟩ := I3.fpOk (H' := H5) (b := ce.locals) (by rw [cL]; exact Nat.le_refl _) nC
      exact ⟨m, hn, fun h'' sb => ⟨.ref D, H5, I7.turned (t' := s6.toks) (fun b o hb e => (sb.2 b hb).trans e) f0 f1 f3' f4 f5, rfl, qq⟩⟩
    · refine thnF (T.item (blkX X s3 H3 scope ce fp xw) rfl rfl rfl hc i [] s5 _ H5 (fun _ _ => False) I5 (stat I5 n5) st5 go) fun r s6 ⟨u, hr, h6⟩ => ?_
      subst hr
      refine thnF h6 fun _ s7 ⟨x, H7, I7, r7, y7, st7, n7⟩ => ?_
      have I7' := I7.pinned (stat I7 n7) (T.obj _ _ st7)
      refine thn (pg.run _ s7 _ H7 x u _ I7' r7 (step x H7 y7)) fun _ s8 ⟨σ8, H8, I8, hw8, q8⟩ => ?_
      have fin : ∀ {s' : Shared} {H' : Hp}, Inv (blkX X s3 H3 scope ce fp xw) ([] ++ pinsAt fp s7.heap) σ8 H' s' → Nx H' → ∃ m, m < n ∧ ∃ i H', Inv (blkX X s3 H3 scope ce fp xw) [] (wipe σ (own.map (·.2))) H' s' ∧ tn i s'.heap ∧ (∀ b ∈ fp, H' b = none) ∧ Wt i m H' := fun {s' H'} I' nx => by
        obtain ⟨m', hm, w'⟩ := hNx H' nx
        have pin' : ∀ b ∈ fp, ∀ o, s7.heap.get? b = some o → s'.heap.get? b = some o ∧ H' b = none := fun b hb o e =>
          let z := I'.pin (b, o) (List.mem_append_right _ (List.mem_append_right _ (mem_pinsAt hb e)))
          ⟨z.1, z.2.1⟩
        have hl : (wipe σ (own.map (·.2))).length = σ8.length := by rw [← hw8, wipe_length]
        refine ⟨m', hm, i + 1, H', (I'.unpinned (pins := [])).weak hl (fun j v e => by rw [← hw8] at e; exact (wipe_some e).1), T.keep _ _ _ st7 fun b hb o e => (pin' b hb o e).1, fun b hb => ?_, w'⟩
        obtain ⟨o, e, _⟩ := T.obj _ _ st7 b hb
        exact (pin' b hb o e).2
      refine wpAny_tests_nil ?_
      show wpAny _ _ (eval elt ce) _ _ _
      refine thn (pe.run _ s8 σ8 H8 _ I8 q8) fun z s10 ⟨yv, H10, I10, r10, acc, hD10, hz10, nx⟩ => ?_
      exact app_ok (X := blkX X s3 H3 scope ce fp xw) I10 hD10 hz10 r10 fun s11 I11 => fin I11 nx
  exact codeAny_compStart_list loop (T.self X.A 0 _ _ _ st4 loop)
end
end Bd

end
/-! ## BdRevL -/
section
namespace Bd
open PySem PySem.Spec PyProof.Rows
open L2
/-! ## list(reversed(x)), x a list -/
section
variable {prog : Program} {w : World} {A : Around} {E : Value → Shared → Prop} {s : Shared}
theorem ext_rev {R : Result → Shared → Prop} {it l : Addr} {items : Array Value} (hh : A.handled = none) (hit : s.heap.IsRevIter it l ((items.size : Int) - 1)) (hl : s.heap.IsList l items) (hne : l ≠ it) (hn : items.size ≤ sizeLine) (S : Addr) (res : Value) (c₀ : Nat)
    (hSi : S ≠ it) (hSl : S ≠ l) (hS : s.heap.get? S = some { cls := .type "list", data := .seq #[] c₀ })
    (hR : ∀ h' tk acc' c', (∀ b o, b ≠ S → b ≠ it → s.heap.get? b = some o → h'.get? b = some o) → h'.get? S = some { cls := .type "list", dict := none, data := .seq acc' c', slots := #[] } →
      ItemsOf (fun i v => items[items.size - 1 - i]? = some v) acc' items.size → R (.ok (.ret res)) { s with heap := h', toks := tk }) :
    wpAny (model prog w) A.in1 (Builtin.List.listExtendWith (.ref S) (.ref it) res)
      (fun fin s' => match fin with | .done f => R (.ok f) s' | .again c' => c'.quiet = true ∧ codeAny (model prog w) A c' R s') (fun e s' => R (.error e) s') s := by
  have W := (Walks.listRev (prog := prog) (w := w) (A := A.in1) hh it l hne items).toS
  have hSf : S ∉ [it, l] := by simp only [List.mem_cons, List.not_mem_nil, or_false, not_or]; exact ⟨hSi, hSl⟩
  have hT : s.TypeIs (.ref it) "list_reverseiterator" := hit.typeIs
  have h1 : Builtin.List.listSameRef (.ref S) (.ref it) = false := by simp [Builtin.List.listSameRef, hSi]
  unfold Builtin.List.listExtendWith
  refine wpAny_bind (wpAny_typeOf hT ?_)
  rw [if_neg (by rw [h1]; decide)]
  refine wpAny_bind (wpAny_pyIter_revIter hit ?_)
  refine wpAny_bind (wpAny_holding ?_)
  unfold Builtin.List.listLengthHint
  refine wpAny_bind (wpAny_specialOf hT RT.nolen_lri ?_)
  show wpAny _ A.in1 (specialOf (Value.ref it) (Str.ofString "__length_hint__") >>= _) _ _ _
  refine wpAny_bind (wpAny_specialOf hT RT.hint_lri ?_)
  generalize hid : ("list_reverseiterator.__length_hint__" : String) = id0
  wp_delta
  rw [show splitId id0 = some ("list_reverseiterator", "__length_hint__") from by subst hid; decide +kernel]
  subst hid
  refine wpAny_bind (wpAny_isInstance (b := true) hT (by rw [isSubtype_type]; kernel_rfl) ?_)
  refine wpAny_pure ?_
  rw [if_neg (by decide)]
  have e0 : ((items.size : Nat) : Int) - 1 - ((0 : Nat) : Int) = (items.size : Int) - 1 := by omega
  refine wpAny_pure ⟨plainId_quiet F.plain_extend_loop _, codeAny_extend_loopS W hn _ hSf _ items.size 0 _ _ _ rfl (Nat.zero_le _) ⟨Nat.zero_le _, by rw [e0]; exact hit, hl⟩ hS (ItemsOf.nil _) fun s' acc' c' hm hS' hacc => ?_⟩
  rw [Moved.eq_with hm]
  refine hR s'.heap s'.toks acc' c' (fun b o hb hb2 e => hm.heap b o (fun hmem => ?_) e) hS' hacc
  rcases List.mem_cons.mp hmem with e' | hmem
  · exact hb e'
  · exact hb2 (List.mem_singleton.mp hmem)
theorem init_rev {R : Result → Shared → Prop} {it l : Addr} {items : Array Value} (hh : A.handled = none) (hit : s.heap.IsRevIter it l ((items.size : Int) - 1)) (hl : s.heap.IsList l items) (hne : l ≠ it) (hn : items.size ≤ sizeLine) (S : Addr) (hSi : S ≠ it) (hSl : S ≠ l)
    (hS : s.heap.get? S = some { cls := .type "list", data := .seq #[] })
    (hR : ∀ h' tk acc' c', (∀ b o, b ≠ S → b ≠ it → s.heap.get? b = some o → h'.get? b = some o) → h'.get? S = some { cls := .type "list", dict := none, data := .seq acc' c', slots := #[] } →
      ItemsOf (fun i v => items[items.size - 1 - i]? = some v) acc' items.size → R (.ok (.ret .none)) { s with heap := h', toks := tk }) :
    wpAny (model prog w) A.in1 (Builtin.«list.__init__» ⟨[.ref S, .ref it], []⟩)
      (fun fin s' => match fin with | .done f => R (.ok f) s' | .again c' => c'.quiet = true ∧ codeAny (model prog w) A c' R s') (fun e s' => R (.error e) s') s := by
  show wpAny _ _ (do let old ← Builtin.List.listItems (.ref S); Builtin.List.listUpdate (.ref S) (fun _ => #[]); letGo old.toList.reverse; Builtin.List.listExtendWith (.ref S) (.ref it) .none) _ _ s
  refine wpAny_bind ?_
  unfold Builtin.List.listItems
  refine wpAny_bind (wpAny_seqItems hS rfl (wpAny_pure ?_))
  show wpAny _ _ (updateSeq S (fun _ => #[]) >>= fun _ => letGo (#[] : Array Value).toList.reverse >>= fun _ => Builtin.List.listExtendWith (.ref S) (.ref it) .none) _ _ s
  refine wpAny_bind (wpAny_updateSeq hS rfl ?_)
  have hS₂ := Heap.get?_update_self (Obj.mapSeq (fun _ => (#[] : Array Value))) hS rfl
  have oth : ∀ b o, b ≠ S → s.heap.get? b = some o → (s.heap.update S (Obj.mapSeq (fun _ => (#[] : Array Value)))).get? b = some o :=
    fun b o hb e => (Heap.get?_update_other _ _ (Ne.symm hb)).trans e
  refine wpAny_bind (wpAny_letGo ?_)
  refine ext_rev hh (hit.at fun o e => oth it o (Ne.symm hSi) e) (hl.at fun o e => oth l o (Ne.symm hSl) e) hne hn S .none _ hSi hSl hS₂ fun h' tk acc' c' hk hS' hacc => ?_
  exact hR h' tk acc' c' (fun b o hb hb2 e => hk b o hb hb2 (oth b o hb e)) hS' hacc
theorem call_list_rev {it l : Addr} {items : Array Value} {Q : Value → Shared → Prop} (hh : A.handled = none) (hit : s.heap.IsRevIter it l ((items.size : Int) - 1)) (hl : s.heap.IsList l items) (hne : l ≠ it) (hn : items.size ≤ sizeLine)
    (hQ : ∀ h' tk acc' c', (∀ b o, b ≠ it → s.heap.get? b = some o → h'.get? b = some o) →
      h'.get? s.heap.objs.size = some { cls := .type "list", dict := none, data := .seq acc' c', slots := #[] } → ItemsOf (fun i v => items[items.size - 1 - i]? = some v) acc' items.size → Q (.ref s.heap.objs.size) { s with heap := h', toks := tk }) :
    wpAny (model prog w) A (call (.type "list") [.ref it]) Q E s := by
  refine callType_codes (Q₁ := fun obj s₁ => obj = .ref s.heap.objs.size ∧ s₁ = { s with heap := s.heap.push { cls := .type "list", data := .seq #[] } }) F.called_list (F.typeCall_list_1 _) F.entry_list_init
    (code_list_new _ ⟨rfl, rfl⟩) fun obj s₁ h₁ => ?_
  obtain ⟨rfl, rfl⟩ := h₁
  have hS : (s.heap.push { cls := .type "list", data := .seq #[] }).get? s.heap.objs.size = some { cls := .type "list", data := .seq #[] } := Heap.get?_push_size _ rfl
  obtain ⟨oi, hoi, _⟩ := id hit
  obtain ⟨ol, hol, _⟩ := id hl
  refine ⟨⟨_, hS, rfl⟩, F.args_list_init_2 _ _, init_rev (A := A.in1) hh (hit.at fun o e => Heap.get?_push_of_some _ e) (hl.push _) hne hn _ (Nat.ne_of_gt (Heap.lt_size hoi)) (Nat.ne_of_gt (Heap.lt_size hol)) hS fun h' tk acc' c' hk hS' hacc => ?_⟩
  exact ⟨rfl, hQ h' tk acc' c' (fun b o hb e => hk b o (Nat.ne_of_lt (Heap.lt_size e)) hb (Heap.get?_push_of_some _ e)) hS' hacc⟩
end
def tLstRev (K : PySem.W.Frag) (te : TE) : TE := fun σ H Q => te σ H fun v H1 => ∃ (a : Addr) (xs : List V), v = .ref a ∧ SqL K H1 a xs ∧ ∀ q, H1 q = none → Q (.ref q) (upd H1 q (.lst xs.reverse))
section
variable {X : Cx}
open RT (vals_rev)
theorem pe_listrev (T : Tx X.w X.K X.mg) {e : Expr} {te : TE} {p p2 pos pos2 : Pos} (he : PE X e te) (hc : X.calm = true := by rfl) (hg : Gl X "list" := by rfl) (hg2 : Gl X "reversed" := by rfl)
    (hs : starEach [e] X.env = (false, eval e X.env) :: starEach [] X.env := by rfl)
    (hs2 : starEach [.Call (.Name "reversed" p2) [e] [] pos2] X.env = (false, eval (.Call (.Name "reversed" p2) [e] [] pos2) X.env) :: starEach [] X.env := by rfl) :
    PE X (.Call (.Name "list" p) [.Call (.Name "reversed" p2) [e] [] pos2] [] pos) (tLstRev X.K te) := by
  refine ⟨fun pins s σ H Q I h => ?_⟩
  refine Call_ (ld_blt I hg T.fr_list boot_list (PyProof.Rows.callWith_type1 (args_cons (Call_ (ld_blt I hg2 T.fr_reversed PyProof.Rows.boot_reversed (PyProof.Rows.callWith_type1 (args_cons (thn (he.run pins s σ H _ I h) fun u s1 ⟨v, H1, I1, r1, q1⟩ => args_nil ?_) hs) hs rfl))) hs2) hs2 rfl))
  obtain ⟨a, xs, ev, hq, q⟩ := q1
  subst ev
  obtain rfl : u = Value.ref a := r1
  obtain ⟨its, rv, p', hz⟩ := I1.list hq
  refine call_reversed_list p'.isList (args_nil ?_)
  have k0 : ∀ b o, s1.heap.get? b = some o → (s1.heap.push (revObj a ((its.toArray.size : Int) - 1))).get? b = some o := fun b o e => Heap.get?_push_of_some _ e
  have I2 : Inv X pins σ H1 { s1 with heap := s1.heap.push (revObj a ((its.toArray.size : Int) - 1)) } := I1.kept (t' := s1.toks) k0
  obtain ⟨f0, f1, f2, f3, f4, f5⟩ := I1.fpOk (H' := H1) (b := s1.heap.objs.size) (Nat.le_refl _) (I1.hok.fresh (Nat.le_refl _))
  have hl := p'.isList
  obtain ⟨ol, hol, _⟩ := id hl
  have hne : a ≠ s1.heap.objs.size := Nat.ne_of_lt (Heap.lt_size hol)
  have hn : its.toArray.size ≤ sizeLine := by rw [List.size_toArray, ← rv.length]; exact hz
  have hfr : H1 (s1.heap.push (revObj a ((its.toArray.size : Int) - 1))).objs.size = none := I2.hok.fresh (Nat.le_refl _)
  refine call_list_rev (s := { s1 with heap := s1.heap.push (revObj a ((its.toArray.size : Int) - 1)) }) (I1.ok.hd hc) ⟨_, Heap.get?_push_size _ rfl, rfl, rfl⟩ (hl.push _) hne hn fun h' tk acc c' hk e' hi => ?_
  have hle : s1.heap.objs.size ≤ (s1.heap.push (revObj a ((its.toArray.size : Int) - 1))).objs.size := by rw [Heap.size_push]; exact Nat.le_succ _
  refine ⟨.ref (s1.heap.push (revObj a ((its.toArray.size : Int) - 1))).objs.size, upd H1 (s1.heap.push (revObj a ((its.toArray.size : Int) - 1))).objs.size (.lst xs.reverse), I1.laid (t' := tk) (fun b o e => hk b o (Nat.ne_of_lt (Heap.lt_size e)) (Heap.get?_push_of_some _ e)) hle (show ObjOk X.prog X.w _ _ _ (.lst xs.reverse) from ⟨by rw [List.length_reverse]; exact hz, acc.toList, c', vals_rev rv hi, ?_⟩), rfl, q _ hfr⟩
  rw [Array.toArray_toList]
  exact e'
end
end Bd

end
/-! ## BdZip3 -/
section
namespace Bd
open PySem PySem.Spec PyProof.Rows
open L2
/-! ## zip of three lists -/
def Itz3 (K : PySem.W.Frag) (a b c : Addr) : It :=
  ⟨fun i H => ∃ (xs ys zs : List V) (x y z : V), SqL K H a xs ∧ SqL K H b ys ∧ SqL K H c zs ∧ xs[i]? = some x ∧ ys[i]? = some y ∧ zs[i]? = some z,
    fun i H v H' => ∃ T x y z, v = .ref T ∧ H T = none ∧ H' = upd H T (.tup [x, y, z]) ∧ (∀ xs, SqL K H a xs → xs[i]? = some x) ∧ (∀ ys, SqL K H b ys → ys[i]? = some y) ∧ ∀ zs, SqL K H c zs → zs[i]? = some z,
    fun i H => ∃ xs ys zs : List V, SqL K H a xs ∧ SqL K H b ys ∧ SqL K H c zs ∧ i ≤ xs.length ∧ i ≤ ys.length ∧ i ≤ zs.length ∧ (i = xs.length ∨ i = ys.length ∨ i = zs.length)⟩
theorem turn_zip3 {P : Program} {w : World} {K : PySem.W.Frag} {elts : List Expr} {kk : Nat} {tpos : Pos} {a b c z TI TO i1 i2 i3 : Addr} (S : ZipSep3 z TI TO i1 i2 i3 [i1, a] [i2, b] [i3, c]) (n1 : a ≠ i1) (n2 : b ≠ i2) (n3 : c ≠ i3) :
    Turn P w K (.Tuple elts kk tpos) (Itz3 K a b c) [z, TI, TO, i1, i2, i3] z (fun i h => IsZip h z TI TO .none ∧ IsTupOf3 h TI (.ref i1) (.ref i2) (.ref i3) ∧ (∃ x y u, IsTupOf3 h TO x y u) ∧ h.IsListIter i1 a i ∧ h.IsListIter i2 b i ∧ h.IsListIter i3 c i) where
  mem := by simp
  obj := fun i h st d hd => by
    obtain ⟨hz, hTI, ⟨x, y, u, hTO⟩, ⟨o1, e1, _, d1⟩, ⟨o2, e2, _, d2⟩, ⟨o3, e3, _, d3⟩⟩ := st
    have e' : d = z ∨ d = TI ∨ d = TO ∨ d = i1 ∨ d = i2 ∨ d = i3 := by simpa using hd
    rcases e' with q | q | q | q | q | q
    · rw [q]; exact ⟨_, hz, fun v q => nomatch q⟩
    · rw [q]; exact ⟨_, hTI, fun v q => nomatch q⟩
    · rw [q]; exact ⟨_, hTO, fun v q => nomatch q⟩
    · rw [q]; exact ⟨o1, e1, fun v q => by rw [d1] at q; cases q⟩
    · rw [q]; exact ⟨o2, e2, fun v q => by rw [d2] at q; cases q⟩
    · rw [q]; exact ⟨o3, e3, fun v q => by rw [d3] at q; cases q⟩
  keep := fun i h h' st k => by
    obtain ⟨hz, hTI, ⟨x, y, u, hTO⟩, h1, h2, h3⟩ := st
    exact ⟨k z (by simp) _ hz, k TI (by simp) _ hTI, ⟨x, y, u, k TO (by simp) _ hTO⟩, h1.at fun o q => k i1 (by simp) o q, h2.at fun o q => k i2 (by simp) o q, h3.at fun o q => k i3 (by simp) o q⟩
  item := by
    intro X hP hw hK hc i pins s σ H E I hf st hg
    subst hP hw hK
    obtain ⟨hz, hTI, ⟨x0, y0, u0, hTO⟩, h1, h2, h3⟩ := st
    obtain ⟨xs, ys, zs, x, y, v, hqx, hqy, hqz, hx, hy, hv⟩ := hg
    obtain ⟨its, rv, p, _⟩ := I.list hqx
    obtain ⟨its2, rv2, p2, _⟩ := I.list hqy
    obtain ⟨its3, rv3, p3, _⟩ := I.list hqz
    obtain ⟨u, hu, ru⟩ := rv.get hx
    obtain ⟨u2, hu2, ru2⟩ := rv2.get hy
    obtain ⟨u3, hu3, ru3⟩ := rv3.get hv
    have hzl : z < s.heap.objs.size := Heap.lt_size hz
    have hs1 : i < its.toArray.size := by rw [List.size_toArray]; exact (List.getElem?_eq_some_iff.mp hu).1
    have hs2 : i < its2.toArray.size := by rw [List.size_toArray]; exact (List.getElem?_eq_some_iff.mp hu2).1
    have hs3 : i < its3.toArray.size := by rw [List.size_toArray]; exact (List.getElem?_eq_some_iff.mp hu3).1
    have D1 : Draws X.prog X.w X.A.in1 i1 [i1, a] its.toArray.size (fun i v => its.toArray[i]? = some v) (fun i h => h.IsListIter i1 a i ∧ h.IsList a its.toArray) := Draws.list (show X.A.in1.handled = none from I.ok.hd hc) i1 a n1 its.toArray
    have D2 : Draws X.prog X.w X.A.in1 i2 [i2, b] its2.toArray.size (fun i v => its2.toArray[i]? = some v) (fun i h => h.IsListIter i2 b i ∧ h.IsList b its2.toArray) := Draws.list (show X.A.in1.handled = none from I.ok.hd hc) i2 b n2 its2.toArray
    have D3 : Draws X.prog X.w X.A.in1 i3 [i3, c] its3.toArray.size (fun i v => its3.toArray[i]? = some v) (fun i h => h.IsListIter i3 c i ∧ h.IsList c its3.toArray) := Draws.list (show X.A.in1.handled = none from I.ok.hd hc) i3 c n3 its3.toArray
    refine wpAny_pyNext_zipD3_item S D1 D2 D3 hz hTI hTO ⟨h1, p.isList⟩ ⟨h2, p2.isList⟩ ⟨h3, p3.isList⟩ hs1 hs2 hs3
      fun x1 x2 x3 h' tk y1 y2 y3 z' TO' ⟨h1', _⟩ ⟨h2', _⟩ ⟨h3', _⟩ hT hsz hk => ?_
    obtain rfl : u = x1 := by have : its[i]? = some x1 := by simpa using y1
                              rw [hu] at this; exact Option.some.inj this
    obtain rfl : u2 = x2 := by have : its2[i]? = some x2 := by simpa using y2
                               rw [hu2] at this; exact Option.some.inj this
    obtain rfl : u3 = x3 := by have : its3[i]? = some x3 := by simpa using y3
                               rw [hu3] at this; exact Option.some.inj this
    refine ⟨_, rfl, wpAny_letOwnedTupleGo_zip (s := { s with heap := h', toks := tk }) z' fun h'' z'' sb => ?_⟩
    have hT2 : h''.get? s.heap.objs.size = some { cls := .type "tuple", data := .seq #[u, u2, u3] } := (sb.2 _ (Nat.ne_of_gt hzl)).trans hT
    have new : ObjOk X.prog X.w (upd H s.heap.objs.size (.tup [x, y, v])) h'' s.heap.objs.size (.tup [x, y, v]) :=
      ⟨by show 3 ≤ sizeLine; decide, [u, u2, u3], .cons ru (.cons ru2 (.cons ru3 .nil)), ⟨_, hT2, rfl, _, rfl⟩⟩
    have I1 : Inv X pins σ (upd H s.heap.objs.size (.tup [x, y, v])) { s with heap := h'', toks := tk } :=
      I.turnedNew (t' := tk) (ch := [z, TI, TO, i1, i2, i3]) (fun c o hb q => (sb.2 c (fun q' => hb (by simp [q']))).trans (hk c o (fun q' => hb (by simp [q'])) (fun q' => hb (by simp [q'])) (fun q' => hb (by simp [q'])) (fun q' => hb (by simp [q'])) (fun q' => hb (by simp [q'])) q)) hf (Nat.le_refl _) new
    refine ⟨.ref s.heap.objs.size, _, I1, rfl, ⟨_, x, y, v, rfl, I.hok.fresh (Nat.le_refl _), rfl, fun l hl => by rw [I.list_inj hl hqx]; exact hx, fun l hl => by rw [I.list_inj hl hqy]; exact hy, fun l hl => by rw [I.list_inj hl hqz]; exact hv⟩, ⟨z'', ?_, ⟨u, u2, u3, ?_⟩, ?_, ?_, ?_⟩, fun d hdm => ?_⟩
    · exact (sb.2 _ S.TIz).trans (hk _ _ S.TIz S.TITO S.TIi1 S.TIi2 S.TIi3 hTI)
    · exact (sb.2 _ S.TOz).trans TO'
    · exact h1'.at fun o q => (sb.2 _ S.zi1.symm).trans q
    · exact h2'.at fun o q => (sb.2 _ S.zi2.symm).trans q
    · exact h3'.at fun o q => (sb.2 _ S.zi3.symm).trans q
    · have hlt : d < s.heap.objs.size := by
        have e' : d = z ∨ d = TI ∨ d = TO ∨ d = i1 ∨ d = i2 ∨ d = i3 := by simpa using hdm
        rcases e' with q | q | q | q | q | q
        · rw [q]; exact hzl
        · rw [q]; exact Heap.lt_size hTI
        · rw [q]; exact Heap.lt_size hTO
        · rw [q]; obtain ⟨_, e1, _⟩ := h1; exact Heap.lt_size e1
        · rw [q]; obtain ⟨_, e2, _⟩ := h2; exact Heap.lt_size e2
        · rw [q]; obtain ⟨_, e3, _⟩ := h3; exact Heap.lt_size e3
      rw [upd_ne (Nat.ne_of_lt hlt)]
      exact (hf d hdm).1
  done := by
    intro X hP hw hK hc i pins s σ H E I hf st hg
    subst hP hw hK
    obtain ⟨hz, hTI, ⟨x0, y0, u0, hTO⟩, h1, h2, h3⟩ := st
    obtain ⟨xs, ys, zs, hqx, hqy, hqz, e1, e2, e3, e4⟩ := hg
    obtain ⟨its, rv, p, _⟩ := I.list hqx
    obtain ⟨its2, rv2, p2, _⟩ := I.list hqy
    obtain ⟨its3, rv3, p3, _⟩ := I.list hqz
    have l1 : its.toArray.size = xs.length := by rw [List.size_toArray, rv.length]
    have l2 : its2.toArray.size = ys.length := by rw [List.size_toArray, rv2.length]
    have l3 : its3.toArray.size = zs.length := by rw [List.size_toArray, rv3.length]
    have D1 : Draws X.prog X.w X.A.in1 i1 [i1, a] its.toArray.size (fun i v => its.toArray[i]? = some v) (fun i h => h.IsListIter i1 a i ∧ h.IsList a its.toArray) := Draws.list (show X.A.in1.handled = none from I.ok.hd hc) i1 a n1 its.toArray
    have D2 : Draws X.prog X.w X.A.in1 i2 [i2, b] its2.toArray.size (fun i v => its2.toArray[i]? = some v) (fun i h => h.IsListIter i2 b i ∧ h.IsList b its2.toArray) := Draws.list (show X.A.in1.handled = none from I.ok.hd hc) i2 b n2 its2.toArray
    have D3 : Draws X.prog X.w X.A.in1 i3 [i3, c] its3.toArray.size (fun i v => its3.toArray[i]? = some v) (fun i h => h.IsListIter i3 c i ∧ h.IsList c its3.toArray) := Draws.list (show X.A.in1.handled = none from I.ok.hd hc) i3 c n3 its3.toArray
    exact wpAny_pyNext_zipD3_end S D1 D2 D3 hz hTI hTO ⟨h1, p.isList⟩ ⟨h2, p2.isList⟩ ⟨h3, p3.isList⟩ (by omega) (by omega) (by omega) (by omega)
      fun h' tk hk => ⟨rfl, I.turnedL (t' := tk) (ch := [z, TI, TO, i1, i2, i3]) (fun c o hb q =>
      hk c o (fun q' => hb (by simp [q'])) (fun q' => hb (by simp [q'])) (fun q' => hb (by simp [q'])) (fun q' => hb (by simp [q'])) (fun q' => hb (by simp [q'])) q) hf⟩
  self := fun A i s Q E st h => wpAny_pyIter_zip st.1 h
def iZip3 (K : PySem.W.Frag) (ta : TA) : TI := fun σ H R => ta σ H fun vs H1 => ∃ a b c xs ys zs, vs = [.ref a, .ref b, .ref c] ∧ SqL K H1 a xs ∧ SqL K H1 b ys ∧ SqL K H1 c zs ∧ R (Itz3 K a b c) H1
theorem pi_zip3 {X : Cx} {e e2 e3 : Expr} {ta : TA} {p pos tpos : Pos} {elts : List Expr} {kk : Nat} (hg : Gl X "zip") (hm : X.mg "zip" = none) (ha : PA X [e, e2, e3] ta)
    (hs : starEach [e, e2, e3] X.env = (false, eval e X.env) :: starEach [e2, e3] X.env := by rfl) (hpl : (backTo pos (starEach [e2, e3] X.env)).any (·.1) = false := by rfl) :
    PI X (.Tuple elts kk tpos) (.Call (.Name "zip" p) [e, e2, e3] [] pos) (iZip3 X.K ta) := by
  refine ⟨fun pins s σ H R I h => ?_⟩
  refine Call_ (ld_blt I hg hm PyProof.Rows.boot_zip (PyProof.Rows.callWith_type1 (thn (ha.run pos pins s σ H _ I h) fun us s1 ⟨vs, H1, I1, r1, q1⟩ => ?_) hs hpl))
  obtain ⟨a, b, c, xs, ys, zs, ex, hqx, hqy, hqz, q⟩ := q1
  subst ex
  cases r1 with
  | cons r rr =>
    cases rr with
    | cons r' rr =>
      cases rr with
      | cons r'' rr =>
        cases rr
        cases r
        cases r'
        cases r''
        obtain ⟨its, rv, p1, _⟩ := I1.list hqx
        obtain ⟨its2, rv2, p2, _⟩ := I1.list hqy
        obtain ⟨its3, rv3, p3, _⟩ := I1.list hqz
        have la : a < s1.heap.objs.size := p1.lt
        have lb : b < s1.heap.objs.size := p2.lt
        have lc : c < s1.heap.objs.size := p3.lt
        refine zip_begins3 (begins_list a its.toArray) (begins_list b its2.toArray) (begins_list c its3.toArray) p1.isList p2.isList p3.isList fun h' hz hTI hTO h1 h2 h3 hsz hk => wpAny_pyIter_zip hz ?_
        have I2 : Inv X pins σ H1 { s1 with heap := h' } := I1.kept (t' := s1.toks) hk
        have S : ZipSep3 (s1.heap.objs.size + 5) (s1.heap.objs.size + 3) (s1.heap.objs.size + 4) s1.heap.objs.size (s1.heap.objs.size + 1) (s1.heap.objs.size + 2) [s1.heap.objs.size, a] [s1.heap.objs.size + 1, b] [s1.heap.objs.size + 2, c] :=
          zip_sep3 (by simpa using la) (by simpa using lb) (by simpa using lc)
        refine ⟨s1.heap.objs.size + 5, [s1.heap.objs.size + 5, s1.heap.objs.size + 3, s1.heap.objs.size + 4, s1.heap.objs.size, s1.heap.objs.size + 1, s1.heap.objs.size + 2], _, _, H1, rfl, I2, turn_zip3 S (Nat.ne_of_lt la) (Nat.ne_of_lt (Nat.lt_succ_of_lt lb)) (Nat.ne_of_lt (Nat.lt_succ_of_lt (Nat.lt_succ_of_lt lc))), ⟨hz, hTI, ⟨_, _, _, hTO⟩, ⟨_, h1, rfl, rfl⟩, ⟨_, h2, rfl, rfl⟩, ⟨_, h3, rfl, rfl⟩⟩, fun d hdm => ?_, q⟩
        have e' : d = s1.heap.objs.size + 5 ∨ d = s1.heap.objs.size + 3 ∨ d = s1.heap.objs.size + 4 ∨ d = s1.heap.objs.size ∨ d = s1.heap.objs.size + 1 ∨ d = s1.heap.objs.size + 2 := by simpa using hdm
        have hle : s1.heap.objs.size ≤ d := by
          rcases e' with z | z | z | z | z | z
          · rw [z]; exact Nat.le_add_right _ _
          · rw [z]; exact Nat.le_add_right _ _
          · rw [z]; exact Nat.le_add_right _ _
          · rw [z]; exact Nat.le_refl _
          · rw [z]; exact Nat.le_add_right _ _
          · rw [z]; exact Nat.le_add_right _ _
        exact I1.fpOk hle (I1.hok.fresh hle)
def YTrip (xs ys zs : Nat → Option V) : Nat → Hp → V → Hp → Prop := fun i H v H' => ∃ T x y z, v = .ref T ∧ H T = none ∧ H' = upd H T (.tup [x, y, z]) ∧ xs i = some x ∧ ys i = some y ∧ zs i = some z
theorem walk_zip3 {K : PySem.W.Frag} {a b c : Addr} {xs ys zs : List V} {n : Nat} (hn : n = min (min xs.length ys.length) zs.length) : Walk (Itz3 K a b c) n (fun H => SqL K H a xs ∧ SqL K H b ys ∧ SqL K H c zs) (YTrip (fun i => xs[i]?) (fun i => ys[i]?) (fun i => zs[i]?)) := by
  subst hn
  refine ⟨fun i _ hi q => ?_, fun _ q => ⟨xs, ys, zs, q.1, q.2.1, q.2.2, by omega, by omega, by omega, by omega⟩, fun i H v H' _ q y => ?_⟩
  · have h1 : i < xs.length := by omega
    have h2 : i < ys.length := by omega
    have h3 : i < zs.length := by omega
    exact ⟨xs, ys, zs, xs[i], ys[i], zs[i], q.1, q.2.1, q.2.2, by simp [h1], by simp [h2], by simp [h3]⟩
  · obtain ⟨T, x, y, z, h1, h2, h3, h4, h5, h6⟩ := y
    exact ⟨T, x, y, z, h1, h2, h3, h4 xs q.1, h5 ys q.2.1, h6 zs q.2.2⟩
end Bd

end
/-! ## BdGap -/
section
namespace Bd
open PySem PySem.Spec PyProof.Rows
open L2
/-! ## floor division by any divisor but 0 -/
def CDivX (_ j : Int) : Prop := j ≠ 0 ∧ j.natAbs.log2 < 9000
section
variable {X : Cx}
theorem op_fdivX : OpR X (binaryOp .FloorDiv) (rI CDivX fun i j => .int (i.fdiv j)) := opI fun i j _ _ _ _ _ hc q => by
  exact floordiv_int hc.1 q (.inl (PyProof.noPylong_of_log2 hc.2))
end
/-! ## == of int lists -/
def dL (l : List Int) : PyData := .list (l.map PyData.int)
theorem canL : ∀ l : List Int, PyData.canLayAll0 (l.map PyData.int) = true
  | [] => by simp [PyData.canLayAll0]
  | n :: r => by simp [PyData.canLayAll0, PyData.canLay0, canL r]
theorem depL : ∀ l : List Int, PyData.depthAll (l.map PyData.int) = 0
  | [] => by simp [PyData.depthAll]
  | n :: r => by simp [PyData.depthAll, PyData.depth, depL r]
theorem shapedL (l : List Int) : SeqAt.shaped (dL l) = true := by
  unfold SeqAt.shaped dL
  simp [PyData.canLay0, PyData.depth, canL, depL]
theorem shapedI (n : Int) : SeqAt.shaped (.int n) = true := by
  unfold SeqAt.shaped
  simp [PyData.canLay0, PyData.depth]
theorem eqvAllL : ∀ l m : List Int, PyData.eqvAll (l.map PyData.int) (m.map PyData.int) = (l == m)
  | [], [] => by simp [PyData.eqvAll]
  | [], _ :: _ => by simp [PyData.eqvAll]
  | _ :: _, [] => by simp [PyData.eqvAll]
  | a :: l, b :: m => by simp only [List.map_cons, PyData.eqvAll, PyData.eqv, eqvAllL l m]; rfl
theorem eqvL (l m : List Int) : PyData.eqv (dL l) (dL m) = (l == m) := by
  unfold dL; simp only [PyData.eqv]; exact eqvAllL l m
theorem dpAllL {K : PySem.W.Frag} {H : Hp} : ∀ l : List Int, DpAll K H (l.map V.int) (l.map PyData.int)
  | [] => .nil
  | n :: r => .cons (.int n) (dpAllL r)
theorem dpL {K : PySem.W.Frag} {H : Hp} {a : Addr} {l : List Int} (h : SqL K H a (l.map V.int)) : Dp K H (.ref a) (dL l) := .lst h (dpAllL l)
end Bd

end
/-! ## BdSpec -/
section
namespace Bd
abbrev Val := Vbdcar.Val
/-! ## operations without the bounds -/
def isL : Val → Bool
  | .int _ => false
  | .list _ => true
def tr (b : Bool) : Int := if b = true then 1 else 0
/-- what happens with an outcome -/
def Out {α : Type} (r : Except Nat α) (q : α → Prop) (e : Nat → Prop) : Prop := match r with
  | .ok a => q a
  | .error k => e k
theorem Out.imp {α : Type} {r : Except Nat α} {q q' : α → Prop} {e e' : Nat → Prop} (h : Out r q e) (a : ∀ x, r = .ok x → q x → q' x) (b : ∀ k, r = .error k → e k → e' k) : Out r q' e' := by
  cases r with
  | ok x => exact a x rfl h
  | error k => exact b k rfl h
def calcu (o : Nat) (a b : Int) : Except Nat Int := match o with
  | 0 => .ok (a + b)
  | 1 => .ok (a - b)
  | 2 => .ok (a * b)
  | 3 => if b = 0 then .error 2 else .ok (a.fdiv b)
  | 4 => if b = 0 then .error 2 else .ok (a - b * a.fdiv b)
  | _ => .ok (tr (decide (a < b)))
def opName : Nat → String
  | 0 => "plus"
  | 1 => "minus"
  | 2 => "times"
  | 3 => "quotient"
  | 4 => "remainder"
  | 5 => "less"
  | 6 => "same"
  | 7 => "not"
  | 8 => "list"
  | 9 => "len"
  | 10 => "at"
  | 11 => "cons"
  | 12 => "tail"
  | 13 => "cat"
  | 14 => "least"
  | 15 => "most"
  | 16 => "sum"
  | 17 => "has"
  | 18 => "sort"
  | 19 => "rev"
  | _ => "range"
def raw (o : Nat) (vs : List Val) : Except Nat Val := match o, vs with
  | 0, [.int a, .int b] => .ok (.int (a + b))
  | 1, [.int a, .int b] => .ok (.int (a - b))
  | 2, [.int a, .int b] => .ok (.int (a * b))
  | 3, [.int a, .int b] => if b = 0 then .error 2 else .ok (.int (a.fdiv b))
  | 4, [.int a, .int b] => if b = 0 then .error 2 else .ok (.int (a - b * a.fdiv b))
  | 5, [.int a, .int b] => .ok (.int (tr (decide (a < b))))
  | 6, [a, b] => .ok (.int (tr (decide (a = b))))
  | 7, [.int a] => .ok (.int (tr (decide (a = 0))))
  | 8, l => (match Vbdcar.allInts l with
    | some l => .ok (.list l)
    | none => .error 1)
  | 9, [.list l] => .ok (.int (l.length : Nat))
  | 10, [.list l, .int i] => if i < 0 ∨ (l.length : Int) ≤ i then .error 2 else .ok (.int (l.getD i.toNat 0))
  | 11, [.int a, .list l] => .ok (.list (a :: l))
  | 12, [.list l] => if l.isEmpty = true then .error 2 else .ok (.list (l.drop 1))
  | 13, [.list l, .list m] => .ok (.list (l ++ m))
  | 14, [.list l] => (match Vbdcar.sorted l with
    | a :: _ => .ok (.int a)
    | [] => .error 2)
  | 15, [.list l] => (match (Vbdcar.sorted l).reverse with
    | a :: _ => .ok (.int a)
    | [] => .error 2)
  | 16, [.list l] => .ok (.int l.sum)
  | 17, [.list l, .int a] => .ok (.int (tr (l.contains a)))
  | 18, [.list l] => .ok (.list (Vbdcar.sorted l))
  | 19, [.list l] => .ok (.list l.reverse)
  | 20, [.int a, .int b] => if (64 : Int) < b - a then .error 3 else .ok (.list ((List.range (b - a).toNat).map fun (i : Nat) => a + (i : Int)))
  | _, _ => .error 1
/-- a value within the bounds -/
def VOk : Val → Prop
  | .int n => n.natAbs ≤ 1000000000000000000
  | .list l => l.length ≤ 64 ∧ ∀ n ∈ l, n.natAbs ≤ 1000000000000000000
abbrev One (o : Nat) : Prop := o = 7 ∨ o = 9 ∨ o = 12 ∨ o = 14 ∨ o = 15 ∨ o = 16 ∨ o = 18 ∨ o = 19
abbrev Two (o : Nat) : Prop := o = 0 ∨ o = 1 ∨ o = 2 ∨ o = 3 ∨ o = 4 ∨ o = 5 ∨ o = 6 ∨ o = 10 ∨ o = 11 ∨ o = 13 ∨ o = 17 ∨ o = 20
/-- the parts an operation may take -/
def arity (o n : Nat) : Prop := (o = 8 ∧ n ≤ 8) ∨ (One o ∧ n = 1) ∨ (Two o ∧ n = 2)
def chk (v : Val) : Except Nat Val := match v with
  | .int n => if 1000000000000000000 < n ∨ n < -1000000000000000000 then .error 3 else .ok v
  | .list l => if 64 < l.length then .error 3 else .ok v
/-! ## sorted -/
theorem putIn_perm (a : Int) : ∀ l, (Vbdcar.putIn a l).Perm (a :: l)
  | [] => .refl _
  | b :: r => by
    unfold Vbdcar.putIn
    split
    · exact .refl _
    · exact ((putIn_perm a r).cons b).trans (List.Perm.swap a b r)
theorem sorted_perm : ∀ l, (Vbdcar.sorted l).Perm l
  | [] => .refl _
  | a :: r => (putIn_perm a _).trans ((sorted_perm r).cons a)
theorem putIn_pw (a : Int) : ∀ l : List Int, l.Pairwise (· ≤ ·) → (Vbdcar.putIn a l).Pairwise (· ≤ ·)
  | [], _ => by simp [Vbdcar.putIn]
  | b :: r, h => by
    unfold Vbdcar.putIn
    have h' := List.pairwise_cons.mp h
    split
    · rename_i hab
      refine List.pairwise_cons.mpr ⟨fun c hc => ?_, h⟩
      rcases List.mem_cons.mp hc with rfl | hc
      · exact hab
      · exact Int.le_trans hab (h'.1 c hc)
    · rename_i hab
      refine List.pairwise_cons.mpr ⟨fun c hc => ?_, putIn_pw a r h'.2⟩
      rcases List.mem_cons.mp ((putIn_perm a r).mem_iff.mp hc) with rfl | hc
      · omega
      · exact h'.1 c hc
theorem sorted_pw : ∀ l : List Int, (Vbdcar.sorted l).Pairwise (· ≤ ·)
  | [] => .nil
  | a :: r => putIn_pw a _ (sorted_pw r)
theorem sorted_unique {l m : List Int} (p : m.Perm l) (s : m.Pairwise (· ≤ ·)) : m = Vbdcar.sorted l :=
  (p.trans (sorted_perm l).symm).eq_of_pairwise (le := (· ≤ ·)) (fun a b _ _ h1 h2 => Int.le_antisymm h1 h2) s (sorted_pw l)
theorem sorted_min {l : List Int} {a : Int} {r : List Int} (h : Vbdcar.sorted l = a :: r) : a ∈ l ∧ ∀ y ∈ l, a ≤ y := by
  have p := sorted_perm l
  have s := sorted_pw l
  rw [h] at p s
  refine ⟨p.mem_iff.mp (by simp), fun y hy => ?_⟩
  rcases List.mem_cons.mp (p.mem_iff.mpr hy) with rfl | hy
  · exact Int.le_refl _
  · exact (List.pairwise_cons.mp s).1 y hy
theorem sorted_max {l : List Int} {a : Int} {r : List Int} (h : (Vbdcar.sorted l).reverse = a :: r) : a ∈ l ∧ ∀ y ∈ l, y ≤ a := by
  have p := (List.reverse_perm (Vbdcar.sorted l)).trans (sorted_perm l)
  have s := List.pairwise_reverse.mpr (sorted_pw l)
  rw [h] at p s
  refine ⟨p.mem_iff.mp (by simp), fun y hy => ?_⟩
  rcases List.mem_cons.mp (p.mem_iff.mpr hy) with rfl | hy
  · exact Int.le_refl _
  · exact (List.pairwise_cons.mp s).1 y hy
theorem sorted_nil {l : List Int} (h : Vbdcar.sorted l = []) : l = [] := by
  have p := sorted_perm l
  rw [h] at p
  exact p.symm.eq_nil
theorem fdiv_le (a b : Int) : (a.fdiv b).natAbs ≤ a.natAbs + 1 := by
  rw [Int.fdiv_eq_ediv]
  have := Int.natAbs_ediv_le_natAbs a b
  split <;> omega
theorem foldl_sum : ∀ (l : List Int) (s : Int), l.foldl (fun a b => a + b) s = s + l.sum
  | [], s => by simp
  | a :: r, s => by rw [List.foldl_cons, foldl_sum r, List.sum_cons]; omega
end Bd
namespace Bd
/-! ## expressions as the program holds them -/
abbrev Exp := Vbdcar.Exp
def kindOf : Exp → String
  | .num _ => "number"
  | .var _ => "variable"
  | .ite _ _ _ => "if"
  | .let_ _ _ _ => "let"
  | .each _ _ _ => "each"
  | .keep _ _ _ => "keep"
  | .and_ _ _ => "and"
  | .or_ _ _ => "or"
  | .op _ _ => "operation"
  | .call _ _ => "call"
def numOf : Exp → Int
  | .num n => n
  | _ => 0
def innerOf : Exp → List Exp
  | .num _ => []
  | .var _ => []
  | .ite c a b => [c, a, b]
  | .let_ _ a b => [a, b]
  | .each _ a b => [a, b]
  | .keep _ a b => [a, b]
  | .and_ a b => [a, b]
  | .or_ a b => [a, b]
  | .op _ l => l.list
  | .call _ l => l.list
mutual
/-- how deep an expression is -/
def deep : Exp → Nat
  | .num _ => 0
  | .var _ => 0
  | .ite c a b => max (deep c) (max (deep a) (deep b)) + 1
  | .let_ _ a b => max (deep a) (deep b) + 1
  | .each _ a b => max (deep a) (deep b) + 1
  | .keep _ a b => max (deep a) (deep b) + 1
  | .and_ a b => max (deep a) (deep b) + 1
  | .or_ a b => max (deep a) (deep b) + 1
  | .op _ l => deeps l + 1
  | .call _ l => deeps l + 1
def deeps : Vbdcar.Exps → Nat
  | .nil => 0
  | .cons e l => max (deep e) (deeps l)
end
theorem deeps_mem : ∀ {l : Vbdcar.Exps} {c : Exp}, c ∈ l.list → deep c ≤ deeps l
  | .nil, c, h => by simp [Vbdcar.Exps.list] at h
  | .cons e l, c, h => by
    rw [Vbdcar.Exps.list] at h
    rw [deeps]
    rcases List.mem_cons.mp h with rfl | h
    · exact Nat.le_max_left _ _
    · exact Nat.le_trans (deeps_mem h) (Nat.le_max_right _ _)
theorem deep_mem {e c : Exp} (h : c ∈ innerOf e) : deep c < deep e := by
  cases e with
  | num _ => simp [innerOf] at h
  | var _ => simp [innerOf] at h
  | op o l => have := deeps_mem (l := l) h; rw [deep]; omega
  | call o l => have := deeps_mem (l := l) h; rw [deep]; omega
  | ite a b d => simp only [innerOf, List.mem_cons, List.not_mem_nil, or_false] at h; rw [deep]; rcases h with rfl | rfl | rfl <;> omega
  | let_ x a b => simp only [innerOf, List.mem_cons, List.not_mem_nil, or_false] at h; rw [deep]; rcases h with rfl | rfl <;> omega
  | each x a b => simp only [innerOf, List.mem_cons, List.not_mem_nil, or_false] at h; rw [deep]; rcases h with rfl | rfl <;> omega
  | keep x a b => simp only [innerOf, List.mem_cons, List.not_mem_nil, or_false] at h; rw [deep]; rcases h with rfl | rfl <;> omega
  | and_ a b => simp only [innerOf, List.mem_cons, List.not_mem_nil, or_false] at h; rw [deep]; rcases h with rfl | rfl <;> omega
  | or_ a b => simp only [innerOf, List.mem_cons, List.not_mem_nil, or_false] at h; rw [deep]; rcases h with rfl | rfl <;> omega
theorem weights_sum : ∀ l : Vbdcar.Exps, Vbdcar.weights l = (l.list.map Vbdcar.weight).sum
  | .nil => rfl
  | .cons e l => by rw [Vbdcar.weights, Vbdcar.Exps.list, List.map_cons, List.sum_cons, weights_sum l]
theorem weight_inner (e : Exp) : Vbdcar.weight e = 1 + ((innerOf e).map Vbdcar.weight).sum := by
  cases e with
  | op o l => rw [Vbdcar.weight, weights_sum]; rfl
  | call o l => rw [Vbdcar.weight, weights_sum]; rfl
  | num _ => rfl
  | var _ => rfl
  | ite c a b => simp only [Vbdcar.weight, innerOf, List.map_cons, List.map_nil, List.sum_cons, List.sum_nil]; omega
  | let_ x a b => simp only [Vbdcar.weight, innerOf, List.map_cons, List.map_nil, List.sum_cons, List.sum_nil]; omega
  | each x a b => simp only [Vbdcar.weight, innerOf, List.map_cons, List.map_nil, List.sum_cons, List.sum_nil]; omega
  | keep x a b => simp only [Vbdcar.weight, innerOf, List.map_cons, List.map_nil, List.sum_cons, List.sum_nil]; omega
  | and_ a b => simp only [Vbdcar.weight, innerOf, List.map_cons, List.map_nil, List.sum_cons, List.sum_nil]; omega
  | or_ a b => simp only [Vbdcar.weight, innerOf, List.map_cons, List.map_nil, List.sum_cons, List.sum_nil]; omega
/-- the sum as ints -/
theorem castSum : ∀ l : List Nat, ((l.sum : Nat) : Int) = (l.map fun (n : Nat) => (n : Int)).sum
  | [] => rfl
  | a :: r => by rw [List.sum_cons, List.map_cons, List.sum_cons, ← castSum r]; omega
theorem list_of {α β : Type} {f : β → α} {ys : List α} {cs : List β} (hl : ys.length = cs.length) (h : ∀ (i : Nat) y, ys[i]? = some y → ∃ c, cs[i]? = some c ∧ y = f c) : ys = cs.map f := by
  refine List.ext_getElem? fun i => ?_
  rw [List.getElem?_map]
  cases e : ys[i]? with
  | none =>
    have := List.getElem?_eq_none_iff.mp e
    rw [List.getElem?_eq_none_iff.mpr (by omega)] <;> rfl
  | some y =>
    obtain ⟨c, h1, rfl⟩ := h i y e
    rw [h1] <;> rfl
theorem find_at {α : Type} {p : α → Bool} : ∀ {l : List α} {i : Nat} {x : α}, l[i]? = some x → p x = true → (∀ j y, j < i → l[j]? = some y → p y = false) → l.find? p = some x
  | [], i, x, h, _, _ => by simp at h
  | a :: r, 0, x, h, hp, _ => by
    rw [List.getElem?_cons_zero] at h
    cases h
    rw [List.find?_cons, hp]
  | a :: r, i + 1, x, h, hp, hn => by
    rw [List.getElem?_cons_succ] at h
    rw [List.find?_cons, hn 0 a (by omega) rfl]
    exact find_at h hp fun j y hj e => hn (j + 1) y (by omega) (by rw [List.getElem?_cons_succ]; exact e)
theorem find_none {α : Type} {p : α → Bool} {l : List α} (h : ∀ (j : Nat) y, l[j]? = some y → p y = false) : l.find? p = none := by
  rw [List.find?_eq_none]
  intro x hx
  obtain ⟨j, hj, e⟩ := List.getElem_of_mem hx
  rw [h j x (by rw [List.getElem?_eq_getElem hj, e])]
  exact Bool.false_ne_true
def isChoice : Exp → Bool
  | .ite _ _ _ => true
  | .and_ _ _ => true
  | .or_ _ _ => true
  | _ => false
end Bd

end
/-! ## BdOps -/
section
namespace Bd
open PySem PySem.Spec PyProof.Rows
open L2
/-! ## the two errors -/
section
variable {w : World} {K : PySem.W.Frag} {mg : Str → Option Value} {base : Heap}
theorem initFn (T : Tx w K mg) {q : Str} {st : Stmt} {C fI cI : Addr} {fs : List Str} {N ps : List Str} {x : Str} {n : Nat} {fl : List V → List (Str × V)} (i : Nat) (hi : fnL[i]? = some ⟨"__init__", q, st, fI, cI⟩) (hm : mg x = some (.ref C)) (X : ExOk K C fI fs) (S : FnScope N ps (defScope st))
    (hb : ∀ (kV doc pm : Value) (an : Option Addr) (cdv ct : Value) (us : List Value), us.length = ps.length → bindArgs (PySem.W.fnOf "__init__" q (defArgs st) (defBody st) (defScope st) .none kV doc pm an cdv ct) ⟨us, []⟩ = pure (ps.zip us)) (hn : ps.length = n + 1)
    (body : ∀ (cdv : Value) (A : Around) (outer : List Env) (s : Shared) (H : Hp) (a : Addr) (ws : List V) (Q : VK) (E : XK), ws.length = n → H a = some (exo a C none) → (∀ d, H d = none → d ≠ a → Q .non (upd (upd H a (exo a C (some d))) d (exd d (fl ws)))) →
      ∃ t, PSs (cxOf (L2.CX R.prog w) R.prog w K mg base N q (defScope st) fI cdv A outer s H E) (defBody st) t ∧ t { nx := fun _ H' => Q .non H', rt := Q } (start N (.ref a :: ws)) H) : ErrD w K mg base 1 x C n fl := by
  obtain ⟨fd, F⟩ := T.k.fn i _ hi
  exact ⟨fI, fd, ps, fs, hm, X, F.bindsN hb, F.ok S (fun vs H Q E ⟨a, ws, e, l, _⟩ => by rw [e, hn, ← l] <;> rfl) fun cdv A outer s H vs Q E _ ⟨a, ws, e, l, h1, h2⟩ => by subst e; exact body cdv A outer s H a ws Q E l h1 h2⟩
abbrev flFailure : List V → List (Str × V) := fun ws => [("cause", ws.getD 0 .non)]
abbrev flFault : List V → List (Str × V) := fun ws => [("place", ws.getD 1 .non), ("kind", ws.getD 0 .non)]
theorem scFailure : FnScope ["self", "cause"] ["self", "cause"] (defScope s_Failure) := ⟨rfl, rfl, rfl, by decide +kernel, rfl, by decide +kernel, by decide +kernel⟩
theorem g_Failure (T : Tx w K mg) : ErrD w K mg base 1 "Failure" cFailure 1 flFailure :=
  initFn T f_I_Failure rfl T.g_Failure T.x_Failure scFailure (fun _ _ _ _ _ _ us hl => match us, hl with | [_, _], _ => rfl) rfl fun cdv A outer s H a ws Q E l h1 h2 =>
  ⟨_, pss_cons (ps_expr (pe_exi T.x_Failure T.fr_Exception (pa_cons (pv 0) (pa_cons pe_str pa_nil)))) (pss_one (ps_ex1 T.x_Failure (by simp) (pv 0) (pv 1))), by
    match ws, l with
    | [c], _ => exact ⟨_, rfl, a, [_], rfl, by decide, h1, _, rfl, _, rfl, a, rfl, h1, h2⟩⟩
theorem scFault : FnScope ["self", "kind", "place"] ["self", "kind", "place"] (defScope s_TextFault) := ⟨rfl, rfl, rfl, by decide +kernel, rfl, by decide +kernel, by decide +kernel⟩
theorem g_TextFault (T : Tx w K mg) : ErrD w K mg base 1 "TextFault" cTextFault 2 flFault :=
  initFn T f_I_TextFault rfl T.g_TextFault T.x_TextFault scFault (fun _ _ _ _ _ _ us hl => match us, hl with | [_, _, _], _ => rfl) rfl fun cdv A outer s H a ws Q E l h1 h2 =>
  ⟨_, pss_cons (ps_expr (pe_exi T.x_TextFault T.fr_Exception (pa_cons (pv 0) (pa_cons pe_str pa_nil)))) (pss_cons (ps_ex1 T.x_TextFault (by simp) (pv 0) (pv 1)) (pss_one (ps_ex2 T.x_TextFault (by simp) (pv 0) (pv 2)))), by
    match ws, l with
    | [c, p], _ =>
      refine ⟨_, rfl, a, [_], rfl, by decide, h1, _, rfl, _, rfl, a, rfl, h1, fun d hd hne => ⟨_, rfl, _, rfl, a, d, _, rfl, ?_, upd_same, by show 1 ≤ 900; decide, ?_⟩⟩
      · rw [upd_ne (Ne.symm hne)]; exact upd_same
      · rw [upd_upd]; exact h2 d hd hne⟩
/-- what an error of the run is wished to be -/
def errF (E : XK) (H : Hp) (k : Nat) : Prop := ∀ d, H d = none → E (.ref cFailure) (some d) (upd H d (.xd [("cause", .int (k : Int))]))
/-- what a text's error is wished to be -/
def errT (E : XK) (H : Hp) (k p : Int) : Prop := ∀ d, H d = none → E (.ref cTextFault) (some d) (upd H d (.xd [("place", .int p), ("kind", .int k)]))
/-! ## values -/
inductive VAt (I : Hp) : V → Val → Prop where
  | int (n : Int) : VAt I (.int n) (.int n)
  | list {a : Addr} {l : List Int} (h : I a = some (.lst (l.map V.int))) : VAt I (.ref a) (.list l)
theorem VAt.mono {I I' : Hp} {u : V} {v : Val} (s : Same I I') (h : VAt I u v) : VAt I' u v := by
  cases h with
  | int n => exact .int n
  | list h => exact .list (s _ _ h)
theorem dI (i j : Int) : decide (V.int i = V.int j) = decide (i = j) := by
  by_cases h : i = j
  · subst h; simp
  · rw [decide_eq_false h, decide_eq_false (fun q => h (V.int.inj q))]
theorem dS (i j : Str) : decide (V.str i = V.str j) = decide (i = j) := by
  by_cases h : i = j
  · subst h; simp
  · rw [decide_eq_false h, decide_eq_false (fun q => h (V.str.inj q))]
theorem dB (i j : Bool) : decide (V.bl i = V.bl j) = decide (i = j) := by cases i <;> cases j <;> rfl
theorem iteS {a b : Str} {A B : Prop} (c : Bool) (hc : decide (a = b) = c) (h : if c = true then A else B) : if decide (V.str a = V.str b) = true then A else B := by
  rw [dS, hc]; exact h
abbrev sp_is_list : Sp := Sp1 fun u H Q _ => ∃ v, VAt H u v ∧ Q (.bl (isL v)) H
abbrev n_is_list : List Str := ["value"]
theorem sc_is_list : FnScope n_is_list ["value"] (defScope s_is_list) := ⟨rfl, rfl, rfl, by decide +kernel, rfl, by decide +kernel, by decide +kernel⟩
theorem d_is_list (T : Tx w K mg)  : Def w K mg base 1 "is_list" ["value"] (sp_is_list) :=
  mkDef1 T f_is_list rfl rfl sc_is_list rfl (fun _ _ _ _ _ _ us hl => match us, hl with | [_], _ => rfl) fun u cdv A outer s H Q E hr h =>
  ⟨_, (pss_one (ps_ret (pe_callB call_isi (by rfl) T.fr_isinstance (by decide +kernel) (pa_cons (pv 0) (pa_cons (pe_bltn (v := V.ty "list") rfl T.fr_list PyProof.Rows.boot_list rfl) pa_nil))))), by
  obtain ⟨v, hv, q⟩ := h
  cases hv with
  | int n => exact ⟨_, rfl, _, _, _, _, _, rfl, .ty _, .base (.int _), kit_ty (b := "list") (r := false) (by decide +kernel), q⟩
  | list h => exact ⟨_, rfl, _, _, _, _, _, rfl, .ty _, .base (.lst h), kit_ty (b := "list") (r := true) (by decide +kernel), q⟩⟩
abbrev sp_as_number : Sp := Sp1 fun u H Q E => ∃ v, VAt H u v ∧ (isL v = false → Q u H) ∧ (isL v = true → errF E H 1)
abbrev n_as_number : List Str := ["value"]
theorem sc_as_number : FnScope n_as_number ["value"] (defScope s_as_number) := ⟨rfl, rfl, rfl, by decide +kernel, rfl, by decide +kernel, by decide +kernel⟩
theorem d_as_number (T : Tx w K mg)  : Def w K mg base 3 "as_number" ["value"] (sp_as_number) :=
  mkDef1 T f_as_number rfl rfl sc_as_number rfl (fun _ _ _ _ _ _ us hl => match us, hl with | [_], _ => rfl) fun u cdv A outer s H Q E hr h =>
  ⟨_, (pss_cons (ps_if (pt_val (pe_c (d_is_list T) hr pz (pa_cons (pv 0) pa_nil))) (pss_one (ps_err (g_Failure T) rfl tz hr (pa_cons pe_int pa_nil))) pss_nil)
  (pss_one (ps_ret (pv 0)))), by
  obtain ⟨v, hv, q, e⟩ := h
  refine ⟨_, rfl, _, rfl, v, hv, _, rfl, ?_⟩
  cases hl : isL v with
  | true => exact iteT ⟨rfl, fun d hd => e hl d hd⟩
  | false => exact iteF ⟨_, rfl, q hl⟩⟩
abbrev sp_as_list : Sp := Sp1 fun u H Q E => ∃ v, VAt H u v ∧ (isL v = true → Q u H) ∧ (isL v = false → errF E H 1)
abbrev n_as_list : List Str := ["value"]
theorem sc_as_list : FnScope n_as_list ["value"] (defScope s_as_list) := ⟨rfl, rfl, rfl, by decide +kernel, rfl, by decide +kernel, by decide +kernel⟩
theorem d_as_list (T : Tx w K mg)  : Def w K mg base 3 "as_list" ["value"] (sp_as_list) :=
  mkDef1 T f_as_list rfl rfl sc_as_list rfl (fun _ _ _ _ _ _ us hl => match us, hl with | [_], _ => rfl) fun u cdv A outer s H Q E hr h =>
  ⟨_, (pss_cons (ps_if (pt_not (pt_val (pe_c (d_is_list T) hr pz (pa_cons (pv 0) pa_nil)))) (pss_one (ps_err (g_Failure T) rfl tz hr (pa_cons pe_int pa_nil))) pss_nil)
  (pss_one (ps_ret (pv 0)))), by
  obtain ⟨v, hv, q, e⟩ := h
  refine ⟨_, rfl, _, rfl, v, hv, _, rfl, ?_⟩
  cases hl : isL v with
  | false => exact iteT ⟨rfl, fun d hd => e hl d hd⟩
  | true => exact iteF ⟨_, rfl, q hl⟩⟩
abbrev sp_fail_if : Sp := Sp1 fun u H Q E => ∃ b, u = .bl b ∧ (b = false → Q .non H) ∧ (b = true → errF E H 2)
abbrev n_fail_if : List Str := ["condition"]
theorem sc_fail_if : FnScope n_fail_if ["condition"] (defScope s_fail_if) := ⟨rfl, rfl, rfl, by decide +kernel, rfl, by decide +kernel, by decide +kernel⟩
theorem d_fail_if (T : Tx w K mg)  : Def w K mg base 3 "fail_if" ["condition"] (sp_fail_if) :=
  mkDef1 T f_fail_if rfl rfl sc_fail_if rfl (fun _ _ _ _ _ _ us hl => match us, hl with | [_], _ => rfl) fun u cdv A outer s H Q E hr h =>
  ⟨_, (pss_one (ps_if (pt_val (pv 0)) (pss_one (ps_err (g_Failure T) rfl tz hr (pa_cons pe_int pa_nil))) pss_nil)), by
  obtain ⟨b, rfl, q, e⟩ := h
  refine ⟨_, rfl, _, rfl, ?_⟩
  cases b with
  | true => exact iteT ⟨rfl, fun d hd => e rfl d hd⟩
  | false => exact iteF (q rfl)⟩
abbrev sp_truth : Sp := Sp1 fun u H Q _ => ∃ b, u = .bl b ∧ Q (.int (tr b)) H
abbrev n_truth : List Str := ["condition"]
theorem sc_truth : FnScope n_truth ["condition"] (defScope s_truth) := ⟨rfl, rfl, rfl, by decide +kernel, rfl, by decide +kernel, by decide +kernel⟩
theorem d_truth (T : Tx w K mg)  : Def w K mg base 1 "truth" ["condition"] (sp_truth) :=
  mkDef1 T f_truth rfl rfl sc_truth rfl (fun _ _ _ _ _ _ us hl => match us, hl with | [_], _ => rfl) fun u cdv A outer s H Q E hr h =>
  ⟨_, (pss_cons (ps_if (pt_val (pv 0)) (pss_one (ps_ret pe_int)) pss_nil)
  (pss_one (ps_ret pe_int))), by
  obtain ⟨b, rfl, q⟩ := h
  refine ⟨_, rfl, _, rfl, ?_⟩
  cases b with
  | true => exact iteT q
  | false => exact iteF q⟩
/-! ## reading an if that compares with a word -/
theorem ifST {i : Nat} {a b : Str} {t u : TS} {D : Ends} {σ : L2.St} {H : Hp} (hv : σ[i]? = some (some (.str a))) (h : t D σ H) (e : decide (a = b) = true := by decide +kernel) : tIfS (tTest (tOp rEq (tVar i) (tC (.str b)))) t u D σ H :=
  ⟨_, hv, rfl, _, rfl, by rw [dS, e]; exact h⟩
theorem ifSF {i : Nat} {a b : Str} {t u : TS} {D : Ends} {σ : L2.St} {H : Hp} (hv : σ[i]? = some (some (.str a))) (h : u D σ H) (e : decide (a = b) = false := by decide +kernel) : tIfS (tTest (tOp rEq (tVar i) (tC (.str b)))) t u D σ H :=
  ⟨_, hv, rfl, _, rfl, by rw [dS, e]; exact h⟩
/-- a value that stands in (I, H), or a failure -/
abbrev RetV (I H : Hp) (Q : VK) (E : XK) (r : Except Nat Val) : Prop := Out r (fun r => ∀ u I' H', Ext I H I' H' → VAt I' u r → Q u H') fun k => ∀ I' H', Ext I H I' H' → errF E H' k
theorem mulOk {a b : Int} (ha : a.natAbs ≤ 1000000000000000001) (hb : b.natAbs ≤ 1000000000000000001) : CMulW a b := wide_mul (a := 60) (b := 60) (by omega) (by omega) (by decide) (by decide) (by decide)
theorem divOk {a b : Int} (hb : b.natAbs ≤ 1000000000000000001) (h : b ≠ 0) : CDivX a b := ⟨h, by
  have h60 : b.natAbs < 2 ^ 60 := Nat.lt_of_le_of_lt hb (by decide)
  have := PySem.Flt.log2_lt_of (by decide) h60
  omega⟩
abbrev sp_calculate : Sp := Sp3 fun u v y H Q E => ∃ o a b, u = .str (opName o) ∧ o < 6 ∧ v = .int a ∧ y = .int b ∧ a.natAbs ≤ 1000000000000000000 ∧ b.natAbs ≤ 1000000000000000000 ∧ Out (calcu o a b) (fun n => Q (.int n) H) fun k => errF E H k
abbrev n_calculate : List Str := ["operation", "one", "other"]
theorem sc_calculate : FnScope n_calculate ["operation", "one", "other"] (defScope s_calculate) := ⟨rfl, rfl, rfl, by decide +kernel, rfl, by decide +kernel, by decide +kernel⟩
theorem d_calculate (T : Tx w K mg)  : Def w K mg base 5 "calculate" ["operation", "one", "other"] (sp_calculate) :=
  mkDef3 T f_calculate rfl rfl sc_calculate rfl (fun _ _ _ _ _ _ us hl => match us, hl with | [_, _, _], _ => rfl) fun u v y cdv A outer s H Q E hr h =>
  ⟨_, (pss_cons (ps_if (pt_cmpR op_eq (pv 0) pe_str (nomark _)) (pss_one (ps_ret (pe_op op_add (pv 1) (pv 2)))) pss_nil)
  (pss_cons (ps_if (pt_cmpR op_eq (pv 0) pe_str (nomark _)) (pss_one (ps_ret (pe_op op_sub (pv 1) (pv 2)))) pss_nil)
  (pss_cons (ps_if (pt_cmpR op_eq (pv 0) pe_str (nomark _)) (pss_one (ps_ret (pe_op op_mulW (pv 1) (pv 2)))) pss_nil)
  (pss_cons (ps_if (pt_cmpR op_eq (pv 0) pe_str (nomark _)) (pss_one (ps_ret (pe_c (d_truth T) hr pz (pa_cons (pe_cmpR op_lt (pv 1) (pv 2) (nomark _)) pa_nil)))) pss_nil)
  (pss_cons (ps_expr (pe_c (d_fail_if T) hr pz (pa_cons (pe_cmpR op_eq (pv 2) pe_int (nomark _)) pa_nil)))
  (pss_cons (ps_if (pt_cmpR op_eq (pv 0) pe_str (nomark _)) (pss_one (ps_ret (pe_op op_fdivX (pv 1) (pv 2)))) pss_nil)
  (pss_one (ps_ret (pe_op op_sub (pv 1) (pe_op op_mulW (pv 2) (pe_op op_fdivX (pv 1) (pv 2)))))))))))), by
  obtain ⟨o, a, b, rfl, ho, rfl, rfl, ha, hb, h⟩ := h
  match o, ho with
  | 0, _ => exact ifST rfl ⟨_, rfl, _, rfl, _, _, rfl, rfl, h⟩
  | 1, _ => exact ifSF rfl <| ifST rfl ⟨_, rfl, _, rfl, _, _, rfl, rfl, h⟩
  | 2, _ => exact ifSF rfl <| ifSF rfl <| ifST rfl ⟨_, rfl, _, rfl, _, _, rfl, rfl, mulOk (by omega) (by omega), h⟩
  | 5, _ => exact ifSF rfl <| ifSF rfl <| ifSF rfl <| ifST rfl ⟨_, rfl, _, rfl, _, _, rfl, rfl, _, rfl, _, rfl, h⟩
  | 3, _ =>
    refine ifSF rfl <| ifSF rfl <| ifSF rfl <| ifSF rfl ⟨_, rfl, rfl, _, rfl, _, rfl, fun e => ?_, fun e => ?_⟩
    · have hn : b ≠ 0 := by rw [dI] at e; exact of_decide_eq_false e
      rw [calcu, if_neg hn] at h
      exact ifST rfl ⟨_, rfl, _, rfl, _, _, rfl, rfl, divOk (by omega) hn, h⟩
    · have hn : b = 0 := by rw [dI] at e; exact of_decide_eq_true e
      rw [calcu, if_pos hn] at h
      exact h
  | 4, _ =>
    refine ifSF rfl <| ifSF rfl <| ifSF rfl <| ifSF rfl ⟨_, rfl, rfl, _, rfl, _, rfl, fun e => ?_, fun e => ?_⟩
    · have hn : b ≠ 0 := by rw [dI] at e; exact of_decide_eq_false e
      rw [calcu, if_neg hn] at h
      have hq := fdiv_le a b
      exact ifSF rfl ⟨_, rfl, _, rfl, _, rfl, _, rfl, _, _, rfl, rfl, divOk (by omega) hn, _, _, rfl, rfl, mulOk (by omega) (by omega), _, _, rfl, rfl, h⟩
    · have hn : b = 0 := by rw [dI] at e; exact of_decide_eq_true e
      rw [calcu, if_pos hn] at h
      exact h⟩
theorem dp_of {K : PySem.W.Frag} {H : Hp} {u : V} {v : Val} (h : VAt H u v) : ∃ d, Dp K H u d ∧ SeqAt.shaped d = true ∧ d = (match v with | .int n => PyData.int n | .list l => dL l) := by
  cases h with
  | int n => exact ⟨_, .int n, shapedI n, rfl⟩
  | list h => exact ⟨_, dpL (.inl (.inl h)), shapedL _, rfl⟩
abbrev sp_are_same : Sp := Sp2 fun u v H Q _ => ∃ x y, VAt H u x ∧ VAt H v y ∧ Q (.bl (decide (x = y))) H
abbrev n_are_same : List Str := ["one", "other"]
theorem sc_are_same : FnScope n_are_same ["one", "other"] (defScope s_are_same) := ⟨rfl, rfl, rfl, by decide +kernel, rfl, by decide +kernel, by decide +kernel⟩
theorem d_are_same (T : Tx w K mg)  : Def w K mg base 5 "are_same" ["one", "other"] (sp_are_same) :=
  mkDef2 T f_are_same rfl rfl sc_are_same rfl (fun _ _ _ _ _ _ us hl => match us, hl with | [_, _], _ => rfl) fun u v cdv A outer s H Q E hr h =>
  ⟨_, (pss_one (ps_ret (pe_and (pe_cmpR op_eq (pe_c (d_is_list T) hr pz (pa_cons (pv 0) pa_nil)) (pe_c (d_is_list T) hr pz (pa_cons (pv 1) pa_nil)) (nomark _)) (pe_one (pe_cmpR (op_eqD hr.units) (pv 0) (pv 1) (nomark _)))))), by
  obtain ⟨x, y, hx, hy, q⟩ := h
  refine ⟨_, rfl, _, rfl, x, hx, _, rfl, _, rfl, y, hy, rfl, _, rfl, ?_⟩
  cases x with
  | int n =>
    cases y with
    | int m =>
      cases hx; cases hy
      refine iteT ⟨_, rfl, _, rfl, _, _, .int n, .int m, shapedI n, shapedI m, ?_⟩
      have e : PyData.eqv (.int n) (.int m) = decide (Vbdcar.Val.int n = Vbdcar.Val.int m) := by
        simp only [PyData.eqv, Vbdcar.Val.int.injEq]; rfl
      rw [e]; exact q
    | list m =>
      refine iteF ?_
      have e : decide (Vbdcar.Val.int n = Vbdcar.Val.list m) = false := decide_eq_false (fun z => nomatch z)
      rw [e] at q; exact q
  | list l =>
    cases y with
    | int m =>
      refine iteF ?_
      have e : decide (Vbdcar.Val.list l = Vbdcar.Val.int m) = false := decide_eq_false (fun z => nomatch z)
      rw [e] at q; exact q
    | list m =>
      cases hx with | list hx =>
      cases hy with | list hy =>
      refine iteT ⟨_, rfl, _, rfl, _, _, dpL (.inl (.inl hx)), dpL (.inl (.inl hy)), shapedL l, shapedL m, ?_⟩
      have e : PyData.eqv (dL l) (dL m) = decide (Vbdcar.Val.list l = Vbdcar.Val.list m) := by
        rw [eqvL, Bool.eq_iff_iff, beq_iff_eq, decide_eq_true_iff]
        exact ⟨fun z => by rw [z], fun z => by cases z; rfl⟩
      rw [e]; exact q⟩
abbrev sp_member_at : Sp := Sp2 fun u v H Q E => ∃ (l : List Int) (a : Addr) (i : Int), u = .ref a ∧ H a = some (.lst (l.map V.int)) ∧ v = .int i ∧ (if i < 0 ∨ (l.length : Int) ≤ i then errF E H 2 else Q (.int (l.getD i.toNat 0)) H)
abbrev n_member_at : List Str := ["row", "place"]
theorem sc_member_at : FnScope n_member_at ["row", "place"] (defScope s_member_at) := ⟨rfl, rfl, rfl, by decide +kernel, rfl, by decide +kernel, by decide +kernel⟩
theorem d_member_at (T : Tx w K mg)  : Def w K mg base 5 "member_at" ["row", "place"] (sp_member_at) :=
  mkDef2 T f_member_at rfl rfl sc_member_at rfl (fun _ _ _ _ _ _ us hl => match us, hl with | [_, _], _ => rfl) fun u v cdv A outer s H Q E hr h =>
  ⟨_, (pss_cons (ps_expr (pe_c (d_fail_if T) hr pz (pa_cons (pe_or (pe_cmpR op_lt (pv 1) pe_int (nomark _)) (pe_one (pe_cmpR op_ge (pv 1) (pe_callB call_len_seq (by rfl) T.fr_len (by decide +kernel) (pa_cons (pv 0) pa_nil)) (nomark _)))) pa_nil)))
  (pss_one (ps_ret (pe_ix ix_list (pv 0) (pv 1) (fun _ _ => rfl))))), by
  obtain ⟨l, a, i, rfl, ha, rfl, q⟩ := h
  have hm : (l.map V.int).length = l.length := List.length_map _
  by_cases hi : i < 0 ∨ (l.length : Int) ≤ i
  · rw [if_pos hi] at q
    by_cases h0 : i < 0
    · exact ⟨_, rfl, i, 0, rfl, rfl, _, rfl, by rw [decide_eq_true h0]; exact iteT ⟨_, rfl, true, rfl, (fun z => nomatch z), fun _ => q⟩⟩
    · have h1 : (l.length : Int) ≤ i := by omega
      refine ⟨_, rfl, i, 0, rfl, rfl, _, rfl, by rw [decide_eq_false h0]; exact iteF ⟨_, rfl, _, rfl, _, l.map V.int, rfl, .inl (.inl (.inl ha)), i, _, rfl, rfl, _, rfl, true, congrArg V.bl (decide_eq_true (by rw [hm]; exact h1)), (fun z => nomatch z), fun _ => q⟩⟩
  · rw [if_neg hi] at q
    have h0 : ¬ i < 0 := by omega
    have h1 : ¬ (l.length : Int) ≤ i := by omega
    have hlt : i.toNat < l.length := by omega
    refine ⟨_, rfl, i, 0, rfl, rfl, _, rfl, ?_⟩
    rw [decide_eq_false h0]
    refine iteF ⟨_, rfl, _, rfl, _, l.map V.int, rfl, .inl (.inl (.inl ha)), i, _, rfl, rfl, _, rfl, false, congrArg V.bl (decide_eq_false (by rw [hm]; exact h1)), fun _ => ?_, (fun z => nomatch z)⟩
    refine ⟨_, rfl, _, rfl, _, _, _, _, rfl, rfl, .inl (.inl ha), ?_, q⟩
    have e : i = ((i.toNat : Nat) : Int) := by omega
    rw [e]
    refine atI_nat ?_
    rw [List.getElem?_map, List.getElem?_eq_getElem hlt, List.getD_eq_getElem?_getD, Int.toNat_natCast, List.getElem?_eq_getElem hlt]
    rfl⟩
abbrev sp_numbers_between : Sp := Sp2 fun u v H Q E => ∃ a b, u = .int a ∧ v = .int b ∧ a.natAbs ≤ 1000000000000000000 ∧ b.natAbs ≤ 1000000000000000000 ∧ (if (64 : Int) < b - a then errF E H 3 else ∀ p, H p = none → Q (.ref p) (upd H p (.lst (((List.range (b - a).toNat).map fun (i : Nat) => a + (i : Int)).map V.int))))
abbrev n_numbers_between : List Str := ["one", "other"]
theorem sc_numbers_between : FnScope n_numbers_between ["one", "other"] (defScope s_numbers_between) := ⟨rfl, rfl, rfl, by decide +kernel, rfl, by decide +kernel, by decide +kernel⟩
theorem d_numbers_between (T : Tx w K mg)  : Def w K mg base 5 "numbers_between" ["one", "other"] (sp_numbers_between) :=
  mkDef2 T f_numbers_between rfl rfl sc_numbers_between rfl (fun _ _ _ _ _ _ us hl => match us, hl with | [_, _], _ => rfl) fun u v cdv A outer s H Q E hr h =>
  ⟨_, (pss_cons (ps_if (pt_cmpR op_gt (pe_op op_sub (pv 1) (pv 0)) (pe_gi T.k_MOST_LENGTH) (nomark _)) (pss_one (ps_err (g_Failure T) rfl tz hr (pa_cons pe_int pa_nil))) pss_nil)
  (pss_one (ps_ret (pe_listRg rfl rfl T.fr_list (prg_2 rfl T.fr_range (pv 0) (pv 1)))))), by
  obtain ⟨a, b, rfl, rfl, ha, hb, q⟩ := h
  refine ⟨_, rfl, _, rfl, b, a, rfl, rfl, _, _, rfl, rfl, _, rfl, ?_⟩
  by_cases hi : (64 : Int) < b - a
  · rw [if_pos hi] at q
    rw [decide_eq_true hi]
    exact iteT ⟨rfl, fun d hd => q d hd⟩
  · rw [if_neg hi] at q
    rw [decide_eq_false hi]
    refine iteF ⟨_, rfl, _, rfl, _, _, rfl, rfl, ⟨by omega, by omega, by omega, by omega, by omega⟩, fun p hp => ?_⟩
    have := q p hp
    rw [List.map_map] at this
    exact this⟩

theorem VOk.int_le {n : Int} (h : VOk (.int n)) : n.natAbs ≤ 1000000000000000000 := h
abbrev sp_pair : Sp := Sp3 fun u v y H Q E => ∃ (I : Hp) (o : Nat) (x z : Val), Same I H ∧ u = .str (opName o) ∧ Two o ∧ VAt I v x ∧ VAt I y z ∧ VOk x ∧ VOk z ∧ RetV I H Q E (raw o [x, z])
theorem retI {I H : Hp} {Q : VK} {n : Int} (s : Same I H) (h : ∀ u I' H', Ext I H I' H' → VAt I' u (.int n) → Q u H') : Q (.int n) H := h _ I H (.refl s) (.int n)
theorem retL {I H : Hp} {Q : VK} {l : List Int} (s : Same I H) (h : ∀ u I' H', Ext I H I' H' → VAt I' u (.list l) → Q u H') {p : Addr} (hp : H p = none) : Q (.ref p) (upd H p (.lst (l.map V.int))) :=
  h _ _ _ ((Ext.refl s).new hp) (.list upd_same)
theorem retL2 {I H I1 H1 : Hp} {Q : VK} {l : List Int} (s : Ext I H I1 H1) (h : ∀ u I' H', Ext I H I' H' → VAt I' u (.list l) → Q u H') {p : Addr} (hp : H1 p = none) : Q (.ref p) (upd H1 p (.lst (l.map V.int))) :=
  h _ _ _ (s.new hp) (.list upd_same)
theorem inInts (n : Int) : ∀ l : List Int, inV (.int n) (l.map V.int) = l.contains n
  | [] => rfl
  | a :: r => by
    have := inInts n r
    unfold inV at this ⊢
    rw [List.map_cons, List.any_cons, this, List.contains_cons]
    congr 1
    show (a == n) = (n == a)
    exact Bool.eq_iff_iff.mpr ⟨fun h => beq_iff_eq.mpr (beq_iff_eq.mp h).symm, fun h => beq_iff_eq.mpr (beq_iff_eq.mp h).symm⟩
theorem flatInts : ∀ l : List Int, (l.map V.int).all flatV = true
  | [] => rfl
  | a :: r => by rw [List.map_cons, List.all_cons, flatInts r]; rfl
/-- as_number of a value that is one, or the failure -/
theorem asN {I H : Hp} {u : V} {x : Val} {Q : VK} {E : XK} (s : Same I H) (hx : VAt I u x) (a : ∀ n, x = .int n → u = .int n → Q u H) (b : ∀ l, x = .list l → errF E H 1) : sp_as_number [u] H Q E :=
  ⟨u, rfl, x, hx.mono s, (fun h => by cases hx with | int n => exact a n rfl rfl | list _ => cases h), (fun h => by cases hx with | int n => cases h | list _ => exact b _ rfl)⟩
theorem asL {I H : Hp} {u : V} {x : Val} {Q : VK} {E : XK} (s : Same I H) (hx : VAt I u x) (a : ∀ l p, x = .list l → u = .ref p → I p = some (.lst (l.map V.int)) → Q u H) (b : ∀ n, x = .int n → errF E H 1) : sp_as_list [u] H Q E :=
  ⟨u, rfl, x, hx.mono s, (fun h => by cases hx with | int n => cases h | list hl => exact a _ _ rfl rfl hl), (fun h => by cases hx with | int n => exact b _ rfl | list _ => cases h)⟩
theorem k_ret {te : TE} {D : Ends} {σ : L2.St} {H : Hp} (h : te σ H D.rt) : tRet te D σ H := h
theorem k_call {sp : Sp} {dvs : List V} {E : XK} {t : TA} {σ : L2.St} {H : Hp} {Q : VK} (h : t σ H fun vs H1 => sp (vs ++ dvs) H1 Q E) : tCall sp dvs E t σ H Q := h
theorem k_cons {ta : TE} {tr : TA} {σ : L2.St} {H : Hp} {Q : List V → Hp → Prop} (h : ta σ H fun x H1 => tr σ H1 fun xs H2 => Q (x :: xs) H2) : tCons ta tr σ H Q := h
theorem k_op {r : R2} {ta tb : TE} {σ : L2.St} {H : Hp} {Q : VK} (h : ta σ H fun x H1 => tb σ H1 fun y H2 => r x y H2 Q) : tOp r ta tb σ H Q := h
theorem k_set {te : TE} {i : Nat} {D : Ends} {σ : L2.St} {H : Hp} (h : te σ H fun x H1 => D.nx (σ.set i (some x)) H1) : tAsg te (gName i) D σ H := h
theorem k_seq {t u : TS} {D : Ends} {σ : L2.St} {H : Hp} (h : t { D with nx := u D } σ H) : tSeq t u D σ H := h
theorem k_lst {t : TA} {σ : L2.St} {H : Hp} {Q : VK} (h : t σ H fun xs H1 => xs.length ≤ sizeLine ∧ ∀ p, H1 p = none → Q (.ref p) (upd H1 p (.lst xs))) : tLst t σ H Q := h
theorem k_var {i : Nat} {σ : L2.St} {H : Hp} {Q : VK} {v : V} (e : σ[i]? = some (some v)) (h : Q v H) : tVar i σ H Q := ⟨v, e, h⟩
theorem rN {σ : L2.St} {i : Nat} {I H : Hp} {u : V} {x : Val} {Q : VK} {E : XK} (hv : σ[i]? = some (some u)) (s : Same I H) (hx : VAt I u x) (a : ∀ n, x = .int n → u = .int n → Q u H) (b : ∀ l, x = .list l → errF E H 1) : tCall sp_as_number [] E (tCons (tVar i) tNil) σ H Q :=
  ⟨_, hv, asN s hx a b⟩
theorem rL {σ : L2.St} {i : Nat} {I H : Hp} {u : V} {x : Val} {Q : VK} {E : XK} (hv : σ[i]? = some (some u)) (s : Same I H) (hx : VAt I u x) (a : ∀ l p, x = .list l → u = .ref p → I p = some (.lst (l.map V.int)) → Q u H) (b : ∀ n, x = .int n → errF E H 1) : tCall sp_as_list [] E (tCons (tVar i) tNil) σ H Q :=
  ⟨_, hv, asL s hx a b⟩
theorem raw10 (l : List Int) (i : Int) : raw 10 [.list l, .int i] = if i < 0 ∨ (l.length : Int) ≤ i then .error 2 else .ok (.int (l.getD i.toNat 0)) := rfl
theorem raw20 (a b : Int) : raw 20 [.int a, .int b] = if (64 : Int) < b - a then .error 3 else .ok (.list ((List.range (b - a).toNat).map fun (i : Nat) => a + (i : Int))) := rfl
theorem raw12 (l : List Int) : raw 12 [.list l] = if l.isEmpty = true then .error 2 else .ok (.list (l.drop 1)) := rfl
theorem rawC (o : Nat) (ho : o < 6) (a b : Int) : raw o [.int a, .int b] = (calcu o a b).map Vbdcar.Val.int := by
  match o, ho with
  | 0, _ => rfl
  | 1, _ => rfl
  | 2, _ => rfl
  | 3, _ => show (if b = 0 then _ else _) = Except.map _ (if b = 0 then _ else _); by_cases h : b = 0 <;> simp only [h, if_true, if_false] <;> rfl
  | 4, _ => show (if b = 0 then _ else _) = Except.map _ (if b = 0 then _ else _); by_cases h : b = 0 <;> simp only [h, if_true, if_false] <;> rfl
  | 5, _ => rfl
theorem rawCE (o : Nat) (ho : o < 6) (x z : Val) (h : isL x = true ∨ isL z = true) : raw o [x, z] = .error 1 := by
  match o, ho with
  | 0, _ => cases x <;> cases z <;> simp [isL] at h <;> rfl
  | 1, _ => cases x <;> cases z <;> simp [isL] at h <;> rfl
  | 2, _ => cases x <;> cases z <;> simp [isL] at h <;> rfl
  | 3, _ => cases x <;> cases z <;> simp [isL] at h <;> rfl
  | 4, _ => cases x <;> cases z <;> simp [isL] at h <;> rfl
  | 5, _ => cases x <;> cases z <;> simp [isL] at h <;> rfl
abbrev n_pair_operation : List Str := ["operation", "one", "other", "row", "first"]
theorem sc_pair_operation : FnScope n_pair_operation ["operation", "one", "other"] (defScope s_pair_operation) := ⟨rfl, rfl, rfl, by decide +kernel, rfl, by decide +kernel, by decide +kernel⟩
theorem d_pair_operation (T : Tx w K mg)  : Def w K mg base 6 "pair_operation" ["operation", "one", "other"] (sp_pair) :=
  mkDef3 T f_pair_operation rfl rfl sc_pair_operation rfl (fun _ _ _ _ _ _ us hl => match us, hl with | [_, _, _], _ => rfl) fun u v y cdv A outer s H Q E hr h =>
  ⟨_, (pss_cons (ps_if (pt_cmpR op_eq (pv 0) pe_str (nomark _)) (pss_one (ps_ret (pe_c (d_truth T) hr pz (pa_cons (pe_c (d_are_same T) hr pz (pa_cons (pv 1) (pa_cons (pv 2) pa_nil))) pa_nil)))) pss_nil)
  (pss_cons (ps_if (pt_cmpR op_eq (pv 0) pe_str (nomark _)) (pss_one (ps_ret (pe_c (d_member_at T) hr pz (pa_cons (pe_c (d_as_list T) hr pz (pa_cons (pv 1) pa_nil)) (pa_cons (pe_c (d_as_number T) hr pz (pa_cons (pv 2) pa_nil)) pa_nil))))) pss_nil)
  (pss_cons (ps_if (pt_cmpR op_eq (pv 0) pe_str (nomark _)) (pss_one (ps_ret (pe_op op_cat (pe_lst (pa_cons (pe_c (d_as_number T) hr pz (pa_cons (pv 1) pa_nil)) pa_nil)) (pe_c (d_as_list T) hr pz (pa_cons (pv 2) pa_nil))))) pss_nil)
  (pss_cons (ps_if (pt_cmpR op_eq (pv 0) pe_str (nomark _)) (pss_one (ps_ret (pe_op op_cat (pe_c (d_as_list T) hr pz (pa_cons (pv 1) pa_nil)) (pe_c (d_as_list T) hr pz (pa_cons (pv 2) pa_nil))))) pss_nil)
  (pss_cons (ps_if (pt_cmpR op_eq (pv 0) pe_str (nomark _)) (pss_cons (ps_set (i := 3) sc_pair_operation.nd rfl (Or.inl rfl) (pe_c (d_as_list T) hr pz (pa_cons (pv 1) pa_nil)))
  (pss_one (ps_ret (pe_c (d_truth T) hr pz (pa_cons (pe_cmpR op_in_seq (pe_c (d_as_number T) hr pz (pa_cons (pv 2) pa_nil)) (pv 3) (by rfl)) pa_nil))))) pss_nil)
  (pss_cons (ps_if (pt_cmpR op_eq (pv 0) pe_str (nomark _)) (pss_cons (ps_set (i := 4) sc_pair_operation.nd rfl (Or.inl rfl) (pe_c (d_as_number T) hr pz (pa_cons (pv 1) pa_nil)))
  (pss_one (ps_ret (pe_c (d_numbers_between T) hr pz (pa_cons (pv 4) (pa_cons (pe_c (d_as_number T) hr pz (pa_cons (pv 2) pa_nil)) pa_nil)))))) pss_nil)
  (pss_cons (ps_set (i := 4) sc_pair_operation.nd rfl (Or.inl rfl) (pe_c (d_as_number T) hr pz (pa_cons (pv 1) pa_nil)))
  (pss_one (ps_ret (pe_c (d_calculate T) hr pz (pa_cons (pv 0) (pa_cons (pv 4) (pa_cons (pe_c (d_as_number T) hr pz (pa_cons (pv 2) pa_nil)) pa_nil))))))))))))), by
  obtain ⟨I, o, x, z, sI, rfl, ho, hx, hz, ox, oz, q⟩ := h
  have E0 := Ext.refl sI
  have cal : o < 6 → Out (raw o [x, z]) (fun r => ∀ u I' H', Ext I H I' H' → VAt I' u r → Q u H') (fun k => ∀ I' H', Ext I H I' H' → errF E H' k) → ∀ σ : L2.St, σ[0]? = some (some (.str (opName o))) → σ[1]? = some (some v) → σ[2]? = some (some y) → σ.length = 5 →
      tSeq (tAsg (tCall sp_as_number [] E (tCons (tVar 1) tNil)) (gName 4)) (tRet (tCall sp_calculate [] E (tCons (tVar 0) (tCons (tVar 4) (tCons (tCall sp_as_number [] E (tCons (tVar 2) tNil)) tNil))))) { nx := fun _ H' => Q .non H', rt := Q } σ H := by
    intro ho q σ h0 h1 h2 hl
    refine k_seq (k_set (rN h1 sI hx (fun n e e' => ?_) fun l e => ?_))
    · subst e e'
      refine k_ret (k_call (k_cons (k_var (v := .str (opName o)) (by rw [List.getElem?_set_ne (by decide)]; exact h0) (k_cons (k_var (v := .int n) (by rw [List.getElem?_set_self (by omega)]) (k_cons (rN (by rw [List.getElem?_set_ne (by decide)]; exact h2) sI hz (fun m e e' => ?_) fun l e => ?_)))))))
      · subst e e'
        rw [rawC o ho] at q
        refine ⟨_, _, _, rfl, o, n, m, rfl, ho, rfl, rfl, ox, oz, ?_⟩
        cases hc : calcu o n m with
        | ok r => rw [hc] at q; exact retI sI q
        | error k => rw [hc] at q; exact q I H E0
      · subst e
        rw [rawCE o ho _ _ (.inr rfl)] at q
        exact q I H E0
    · subst e
      rw [rawCE o ho _ _ (.inl rfl)] at q
      exact q I H E0
  rcases ho with rfl | rfl | rfl | rfl | rfl | rfl | rfl | rfl | rfl | rfl | rfl | rfl
  · exact ifSF rfl <| ifSF rfl <| ifSF rfl <| ifSF rfl <| ifSF rfl <| ifSF rfl <| cal (by decide) q _ rfl rfl rfl rfl
  · exact ifSF rfl <| ifSF rfl <| ifSF rfl <| ifSF rfl <| ifSF rfl <| ifSF rfl <| cal (by decide) q _ rfl rfl rfl rfl
  · exact ifSF rfl <| ifSF rfl <| ifSF rfl <| ifSF rfl <| ifSF rfl <| ifSF rfl <| cal (by decide) q _ rfl rfl rfl rfl
  · exact ifSF rfl <| ifSF rfl <| ifSF rfl <| ifSF rfl <| ifSF rfl <| ifSF rfl <| cal (by decide) q _ rfl rfl rfl rfl
  · exact ifSF rfl <| ifSF rfl <| ifSF rfl <| ifSF rfl <| ifSF rfl <| ifSF rfl <| cal (by decide) q _ rfl rfl rfl rfl
  · exact ifSF rfl <| ifSF rfl <| ifSF rfl <| ifSF rfl <| ifSF rfl <| ifSF rfl <| cal (by decide) q _ rfl rfl rfl rfl
  · exact ifST rfl ⟨_, rfl, _, rfl, _, _, rfl, x, z, hx.mono sI, hz.mono sI, _, rfl, _, rfl, retI sI q⟩
  · refine ifSF rfl <| ifST rfl <| k_ret (k_call (k_cons (rL rfl sI hx (fun l p e e' hp => ?_) fun n e => ?_)))
    · subst e e'
      refine k_cons (rN rfl sI hz (fun m e e' => ?_) fun l e => ?_)
      · subst e e'
        refine ⟨_, _, rfl, l, p, m, rfl, sI _ _ hp, rfl, ?_⟩
        rw [raw10] at q
        by_cases hi : m < 0 ∨ (l.length : Int) ≤ m
        · rw [if_pos hi] at q ⊢
          exact q I H E0
        · rw [if_neg hi] at q ⊢
          exact retI sI q
      · subst e
        exact q I H E0
    · subst e
      exact (show ∀ I' H', Ext I H I' H' → errF E H' 1 from by cases z <;> exact q) I H E0
  · refine ifSF rfl <| ifSF rfl <| ifST rfl <| k_ret (k_op (k_lst (k_cons (rN rfl sI hx (fun n e e' => ?_) fun l e => ?_))))
    · subst e e'
      refine ⟨by rw [sizeLine_eq]; show 1 ≤ 16777216; decide, fun p hp => rL rfl (I := I) (Ext.si (E0.tmp hp)) hz (fun l p2 e e' hp2 => ?_) fun m e => ?_⟩
      · subst e e'
        refine ⟨_, _, [.int n], l.map V.int, rfl, rfl, upd_same, (Ext.si (E0.tmp hp)) _ _ hp2, ?_, fun p3 hp3 => ?_⟩
        · have := oz.1; rw [List.length_map, sizeLine_eq]; simp; omega
        · exact retL2 (l := n :: l) (E0.tmp hp) q hp3
      · subst e
        exact q I _ (E0.tmp hp)
    · subst e
      exact (show ∀ I' H', Ext I H I' H' → errF E H' 1 from by cases z <;> exact q) I H E0
  · refine ifSF rfl <| ifSF rfl <| ifSF rfl <| ifST rfl <| k_ret (k_op (rL rfl sI hx (fun l p e e' hp => ?_) fun n e => ?_))
    · subst e e'
      refine rL rfl sI hz (fun m p2 e e' hp2 => ?_) fun l e => ?_
      · subst e e'
        refine ⟨_, _, l.map V.int, m.map V.int, rfl, rfl, sI _ _ hp, sI _ _ hp2, ?_, fun p3 hp3 => ?_⟩
        · have := oz.1; have := ox.1; rw [List.length_map, List.length_map, sizeLine_eq]; omega
        · have := retL (l := l ++ m) sI q hp3
          rw [List.map_append] at this
          exact this
      · subst e
        exact q I H E0
    · subst e
      exact (show ∀ I' H', Ext I H I' H' → errF E H' 1 from by cases z <;> exact q) I H E0
  · refine ifSF rfl <| ifSF rfl <| ifSF rfl <| ifSF rfl <| ifST rfl <| k_seq (k_set (rL rfl sI hx (fun l p e e' hp => ?_) fun n e => ?_))
    · subst e e'
      refine k_ret (k_call (k_cons (k_op (rN rfl sI hz (fun m e e' => ?_) fun l e => ?_))))
      · subst e e'
        refine ⟨_, rfl, _, _, rfl, .inl (.inl (.inl (sI _ _ hp))), rfl, flatInts l, _, rfl, _, rfl, ?_⟩
        simp only [inInts]
        exact retI sI q
      · subst e
        exact q I H E0
    · subst e
      exact (show ∀ I' H', Ext I H I' H' → errF E H' 1 from by cases z <;> exact q) I H E0
  · refine ifSF rfl <| ifSF rfl <| ifSF rfl <| ifSF rfl <| ifSF rfl <| ifST rfl <| k_seq (k_set (rN rfl sI hx (fun n e e' => ?_) fun l e => ?_))
    · subst e e'
      refine k_ret (k_call (k_cons (k_var rfl (k_cons (rN rfl sI hz (fun m e e' => ?_) fun l e => ?_)))))
      · subst e e'
        refine ⟨_, _, rfl, n, m, rfl, rfl, ox, oz, ?_⟩
        rw [raw20] at q
        by_cases hi : (64 : Int) < m - n
        · rw [if_pos hi] at q ⊢
          exact q I H E0
        · rw [if_neg hi] at q ⊢
          exact fun p hp => retL sI q hp
      · subst e
        exact q I H E0
    · subst e
      exact (show ∀ I' H', Ext I H I' H' → errF E H' 1 from by cases z <;> exact q) I H E0⟩

abbrev sp_filled : Sp := Sp2 fun u v H Q E => ∃ (I : Hp) (o : Nat) (l : List Int) (a : Addr), Same I H ∧ u = .str (opName o) ∧ (o = 12 ∨ o = 14 ∨ o = 15) ∧ v = .ref a ∧ I a = some (.lst (l.map V.int)) ∧ RetV I H Q E (raw o [.list l])
theorem cut1 (xs : List V) : cutV xs (some 1) none = xs.drop 1 := by
  unfold cutV
  cases xs with
  | nil => rfl
  | cons x r =>
    have e1 : HT.sIx (x :: r).length 0 (some 1) = 1 := by unfold HT.sIx; simp
    have e2 : HT.sIx (x :: r).length (x :: r).length none = (x :: r).length := rfl
    rw [e1, e2, List.take_of_length_le (by simp)]
abbrev n_filled_operation : List Str := ["operation", "row"]
theorem sc_filled_operation : FnScope n_filled_operation ["operation", "row"] (defScope s_filled_operation) := ⟨rfl, rfl, rfl, by decide +kernel, rfl, by decide +kernel, by decide +kernel⟩
theorem d_filled_operation (T : Tx w K mg)  : Def w K mg base 5 "filled_operation" ["operation", "row"] (sp_filled) :=
  mkDef2 T f_filled_operation rfl rfl sc_filled_operation rfl (fun _ _ _ _ _ _ us hl => match us, hl with | [_, _], _ => rfl) fun u v cdv A outer s H Q E hr h =>
  ⟨_, (pss_cons (ps_expr (pe_c (d_fail_if T) hr pz (pa_cons (pe_cmpR op_eq (pe_callB call_len_seq (by rfl) T.fr_len (by decide +kernel) (pa_cons (pv 1) pa_nil)) pe_int (nomark _)) pa_nil)))
  (pss_cons (ps_if (pt_cmpR op_eq (pv 0) pe_str (nomark _)) (pss_one (ps_ret (pe_slice sl_list (pv 1) (po_some pe_int) po_none))) pss_nil)
  (pss_cons (ps_if (pt_cmpR op_eq (pv 0) pe_str (nomark _)) (pss_one (ps_ret (pe_callB (cr_min rfl) (by rfl) T.fr_min (by decide +kernel) (pa_cons (pv 1) pa_nil)))) pss_nil)
  (pss_one (ps_ret (pe_callB (cr_max rfl) (by rfl) T.fr_max (by decide +kernel) (pa_cons (pv 1) pa_nil))))))), by
  obtain ⟨I, o, l, a, sI, rfl, ho, rfl, ha, q⟩ := h
  have E0 := Ext.refl sI
  have hs : SqL K H a (l.map V.int) := .inl (.inl (sI _ _ ha))
  have hm : ((l.map V.int).length : Int) = l.length := by rw [List.length_map]
  refine ⟨_, rfl, _, _, rfl, .inl hs, rfl, _, rfl, _, rfl, fun e => ?_, fun e => ?_⟩
  · have hn : l ≠ [] := fun z => by subst z; exact absurd e (by decide)
    have hz : 0 < l.length := List.length_pos_iff.mpr hn
    rcases ho with rfl | rfl | rfl
    · rw [raw12, if_neg (by rw [List.isEmpty_iff]; exact hn)] at q
      refine ifST rfl ⟨_, rfl, _, rfl, _, _, rfl, hs, fun p hp => ?_⟩
      rw [cut1, ← List.map_drop]
      exact retL sI q hp
    · refine ifSF rfl <| ifST rfl ⟨_, rfl, a, l, rfl, hs, hz, fun m h1 h2 => ?_⟩
      have q : RetV I H Q E (match Vbdcar.sorted l with | a :: _ => .ok (.int a) | [] => .error 2) := q
      cases hc : Vbdcar.sorted l with
      | nil => exact absurd (sorted_nil hc) hn
      | cons b r =>
        rw [hc] at q
        obtain ⟨k1, k2⟩ := sorted_min hc
        obtain rfl : m = b := Int.le_antisymm (h2 _ k1) (k2 _ h1)
        exact retI sI q
    · refine ifSF rfl <| ifSF rfl ⟨_, rfl, a, l, rfl, hs, hz, fun m h1 h2 => ?_⟩
      have q : RetV I H Q E (match (Vbdcar.sorted l).reverse with | a :: _ => .ok (.int a) | [] => .error 2) := q
      cases hc : (Vbdcar.sorted l).reverse with
      | nil => exact absurd (sorted_nil (by simpa using hc)) hn
      | cons b r =>
        rw [hc] at q
        obtain ⟨k1, k2⟩ := sorted_max hc
        obtain rfl : m = b := Int.le_antisymm (k2 _ h1) (h2 _ k1)
        exact retI sI q
  · have hn : l = [] := by
      rw [dI, hm] at e
      exact List.length_eq_zero_iff.mp (by have := of_decide_eq_true e; omega)
    subst hn
    rcases ho with rfl | rfl | rfl
    · exact q I H E0
    · exact q I H E0
    · exact q I H E0⟩
abbrev sp_single : Sp := Sp2 fun u v H Q E => ∃ (I : Hp) (o : Nat) (x : Val), Same I H ∧ u = .str (opName o) ∧ One o ∧ VAt I v x ∧ VOk x ∧ RetV I H Q E (raw o [x])
abbrev n_single_operation : List Str := ["operation", "value", "row"]
theorem sc_single_operation : FnScope n_single_operation ["operation", "value"] (defScope s_single_operation) := ⟨rfl, rfl, rfl, by decide +kernel, rfl, by decide +kernel, by decide +kernel⟩
theorem d_single_operation (T : Tx w K mg)  : Def w K mg base 6 "single_operation" ["operation", "value"] (sp_single) :=
  mkDef2 T f_single_operation rfl rfl sc_single_operation rfl (fun _ _ _ _ _ _ us hl => match us, hl with | [_, _], _ => rfl) fun u v cdv A outer s H Q E hr h =>
  ⟨_, (pss_cons (ps_if (pt_cmpR op_eq (pv 0) pe_str (nomark _)) (pss_one (ps_ret (pe_c (d_truth T) hr pz (pa_cons (pe_cmpR op_eq (pe_c (d_as_number T) hr pz (pa_cons (pv 1) pa_nil)) pe_int (nomark _)) pa_nil)))) pss_nil)
  (pss_cons (ps_set (i := 2) sc_single_operation.nd rfl (Or.inl rfl) (pe_c (d_as_list T) hr pz (pa_cons (pv 1) pa_nil)))
  (pss_cons (ps_if (pt_cmpR op_eq (pv 0) pe_str (nomark _)) (pss_one (ps_ret (pe_callB call_len_seq (by rfl) T.fr_len (by decide +kernel) (pa_cons (pv 2) pa_nil)))) pss_nil)
  (pss_cons (ps_if (pt_cmpR op_eq (pv 0) pe_str (nomark _)) (pss_one (ps_ret (pe_callB (cr_sum rfl) (by rfl) T.fr_sum (by decide +kernel) (pa_cons (pv 2) pa_nil)))) pss_nil)
  (pss_cons (ps_if (pt_cmpR op_eq (pv 0) pe_str (nomark _)) (pss_one (ps_ret (pe_callB cr_sortedI (by rfl) T.fr_sorted (by decide +kernel) (pa_cons (pv 2) pa_nil)))) pss_nil)
  (pss_cons (ps_if (pt_cmpR op_eq (pv 0) pe_str (nomark _)) (pss_one (ps_ret (pe_listrev T (pv 2)))) pss_nil)
  (pss_one (ps_ret (pe_c (d_filled_operation T) hr pz (pa_cons (pv 0) (pa_cons (pv 2) pa_nil))))))))))), by
  obtain ⟨I, o, x, sI, rfl, ho, hx, ox, q⟩ := h
  have E0 := Ext.refl sI
  have lst : ∀ (te : TS) (D : Ends), raw o [x] = raw o [x] → (∀ n, x = .int n → errF E H 1) → (∀ l p, x = .list l → v = .ref p → I p = some (.lst (l.map V.int)) → te D ((start n_single_operation [.str (opName o), v]).set 2 (some v)) H) → tSeq (tAsg (tCall sp_as_list [] E (tCons (tVar 1) tNil)) (gName 2)) te D (start n_single_operation [.str (opName o), v]) H := by
    intro te D _ he hk
    exact k_seq (k_set (rL rfl sI hx (fun l p e e' hp => hk l p e e' hp) he))
  rcases ho with rfl | rfl | rfl | rfl | rfl | rfl | rfl | rfl
  · refine ifST rfl <| k_ret (k_call (k_cons (k_op (rN rfl sI hx (fun n e e' => ?_) fun l e => ?_))))
    · subst e e'
      refine ⟨rfl, _, rfl, _, rfl, ?_⟩
      rw [dI]
      exact retI sI q
    · subst e; exact q I H E0
  · refine ifSF rfl <| lst _ _ rfl (fun n e => ?_) fun l p e e' hp => ?_
    · subst e; exact q I H E0
    · subst e e'
      refine ifST rfl ⟨_, rfl, _, l.map V.int, rfl, .inl (.inl (.inl (sI _ _ hp))), ?_⟩
      have := retI sI q
      rw [List.length_map]; exact this
  · refine ifSF rfl <| lst _ _ rfl (fun n e => ?_) fun l p e e' hp => ?_
    · subst e; exact q I H E0
    · subst e e'
      exact ifSF rfl <| ifSF rfl <| ifSF rfl <| ifSF rfl ⟨_, rfl, _, rfl, _, _, rfl, I, _, l, p, sI, rfl, .inl rfl, rfl, hp, q⟩
  · refine ifSF rfl <| lst _ _ rfl (fun n e => ?_) fun l p e e' hp => ?_
    · subst e; exact q I H E0
    · subst e e'
      exact ifSF rfl <| ifSF rfl <| ifSF rfl <| ifSF rfl ⟨_, rfl, _, rfl, _, _, rfl, I, _, l, p, sI, rfl, .inr (.inl rfl), rfl, hp, q⟩
  · refine ifSF rfl <| lst _ _ rfl (fun n e => ?_) fun l p e e' hp => ?_
    · subst e; exact q I H E0
    · subst e e'
      exact ifSF rfl <| ifSF rfl <| ifSF rfl <| ifSF rfl ⟨_, rfl, _, rfl, _, _, rfl, I, _, l, p, sI, rfl, .inr (.inr rfl), rfl, hp, q⟩
  · refine ifSF rfl <| lst _ _ rfl (fun n e => ?_) fun l p e e' hp => ?_
    · subst e; exact q I H E0
    · subst e e'
      exact ifSF rfl <| ifST rfl ⟨_, rfl, p, l, rfl, .inl (.inl (sI _ _ hp)), retI sI q⟩
  · refine ifSF rfl <| lst _ _ rfl (fun n e => ?_) fun l p e e' hp => ?_
    · subst e; exact q I H E0
    · subst e e'
      refine ifSF rfl <| ifSF rfl <| ifST rfl ⟨_, rfl, p, l, rfl, .inl (.inl (sI _ _ hp)), fun ns d h1 h2 hd => ?_⟩
      rw [sorted_unique h1 h2]
      exact retL sI q hd
  · refine ifSF rfl <| lst _ _ rfl (fun n e => ?_) fun l p e e' hp => ?_
    · subst e; exact q I H E0
    · subst e e'
      refine ifSF rfl <| ifSF rfl <| ifSF rfl <| ifST rfl ⟨_, rfl, p, _, rfl, .inl (.inl (sI _ _ hp)), fun d hd => ?_⟩
      rw [← List.map_reverse]
      exact retL sI q hd⟩
abbrev sp_checked : Sp := Sp1 fun u H Q E => ∃ x, VAt H u x ∧ Out (chk x) (fun _ => Q u H) fun k => errF E H k
abbrev n_checked : List Str := ["value"]
theorem sc_checked : FnScope n_checked ["value"] (defScope s_checked) := ⟨rfl, rfl, rfl, by decide +kernel, rfl, by decide +kernel, by decide +kernel⟩
theorem d_checked (T : Tx w K mg)  : Def w K mg base 5 "checked" ["value"] (sp_checked) :=
  mkDef1 T f_checked rfl rfl sc_checked rfl (fun _ _ _ _ _ _ us hl => match us, hl with | [_], _ => rfl) fun u cdv A outer s H Q E hr h =>
  ⟨_, (pss_cons (ps_if (pt_val (pe_c (d_is_list T) hr pz (pa_cons (pv 0) pa_nil))) (pss_one (ps_if (pt_cmpR op_gt (pe_callB call_len_seq (by rfl) T.fr_len (by decide +kernel) (pa_cons (pv 0) pa_nil)) (pe_gi T.k_MOST_LENGTH) (nomark _)) (pss_one (ps_err (g_Failure T) rfl tz hr (pa_cons pe_int pa_nil))) pss_nil)) (pss_one (ps_if (PW.pt (pw_or (pt_cmpR op_gt (pv 0) (pe_gi T.k_MOST_VALUE) (nomark _)) (pw_or1 (pt_cmpR op_lt (pv 0) (pe_un un_neg (pe_gi T.k_MOST_VALUE)) (nomark _))))) (pss_one (ps_err (g_Failure T) rfl tz hr (pa_cons pe_int pa_nil))) pss_nil)))
  (pss_one (ps_ret (pv 0)))), by
  obtain ⟨x, hx, q⟩ := h
  refine ⟨_, rfl, _, rfl, x, hx, _, rfl, ?_⟩
  cases hx with
  | list hl =>
    rename_i a l
    have hm : ((l.map V.int).length : Int) = l.length := by rw [List.length_map]
    refine iteT ⟨_, rfl, _, l.map V.int, rfl, .inl (.inl (.inl hl)), _, _, rfl, rfl, _, rfl, ?_⟩
    have q : Out (if 64 < l.length then .error 3 else .ok (Vbdcar.Val.list l)) (fun _ => Q (.ref a) H) (fun k => errF E H k) := q
    by_cases h : 64 < l.length
    · rw [if_pos h] at q
      rw [hm, decide_eq_true (by omega)]
      exact iteT ⟨rfl, q⟩
    · rw [if_neg h] at q
      rw [hm, decide_eq_false (by omega)]
      exact iteF ⟨_, rfl, q⟩
  | int n =>
    have q : Out (if 1000000000000000000 < n ∨ n < -1000000000000000000 then .error 3 else .ok (Vbdcar.Val.int n)) (fun _ => Q (.int n) H) (fun k => errF E H k) := q
    refine iteF ⟨_, rfl, _, _, rfl, rfl, _, rfl, ?_⟩
    by_cases h : 1000000000000000000 < n
    · rw [if_pos (.inl h)] at q
      rw [decide_eq_true h]
      exact iteT ⟨rfl, q⟩
    · rw [decide_eq_false h]
      refine iteF ⟨_, rfl, _, rfl, _, _, rfl, rfl, _, rfl, ?_⟩
      by_cases h2 : n < -1000000000000000000
      · rw [if_pos (.inr h2)] at q
        rw [decide_eq_true h2]
        exact iteT ⟨rfl, q⟩
      · rw [if_neg (by omega)] at q
        rw [decide_eq_false h2]
        exact iteF ⟨_, rfl, q⟩⟩

/-! ## operate -/
abbrev VAll (I : Hp) : List V → List Val → Prop := Paired (VAt I)
theorem VAll.mono {I I' : Hp} (s : Same I I') : ∀ {xs : List V} {vs : List Val}, VAll I xs vs → VAll I' xs vs
  | _, _, .nil => .nil
  | _, _, .cons h t => .cons (h.mono s) (VAll.mono s t)
theorem paired_get {α β : Type} {F : α → β → Prop} : ∀ {xs : List α} {ys : List β} {i : Nat} {x : α}, Paired F xs ys → xs[i]? = some x → ∃ y, ys[i]? = some y ∧ F x y
  | _, _, _, _, .nil, h => by simp at h
  | _, _, 0, _, .cons h _, e => by
    rw [List.getElem?_cons_zero] at e
    cases e
    exact ⟨_, rfl, h⟩
  | _, _, i + 1, _, .cons _ t, e => by
    rw [List.getElem?_cons_succ] at e ⊢
    exact paired_get t e
theorem paired_len {α β : Type} {F : α → β → Prop} : ∀ {xs : List α} {ys : List β}, Paired F xs ys → xs.length = ys.length
  | _, _, .nil => rfl
  | _, _, .cons _ t => congrArg Nat.succ (paired_len t)
theorem paired_one {α β : Type} {F : α → β → Prop} {xs : List α} {y : β} (h : Paired F xs [y]) : ∃ x, xs = [x] ∧ F x y := by
  cases h with | cons a t => cases t; exact ⟨_, rfl, a⟩
theorem paired_two {α β : Type} {F : α → β → Prop} {xs : List α} {y z : β} (h : Paired F xs [y, z]) : ∃ x w, xs = [x, w] ∧ F x y ∧ F w z := by
  cases h with | cons a t => cases t with | cons b t => cases t; exact ⟨_, _, rfl, a, b⟩
theorem allInts_cons (v : Val) (r : List Val) : Vbdcar.allInts (v :: r) = match v with | .int n => (Vbdcar.allInts r).map (fun l => n :: l) | .list _ => none := by
  cases v <;> rfl
theorem allInts_len : ∀ {vs : List Val} {l : List Int}, Vbdcar.allInts vs = some l → l.length = vs.length
  | [], l, h => by cases h; rfl
  | v :: r, l, h => by
    rw [allInts_cons] at h
    cases v with
    | int n =>
      cases hr : Vbdcar.allInts r with
      | none => rw [hr] at h; cases h
      | some l' => rw [hr] at h; cases h; rw [List.length_cons, List.length_cons, allInts_len hr]
    | list _ => cases h
theorem allInts_get : ∀ {vs : List Val} {i : Nat} {v : Val}, vs[i]? = some v → Vbdcar.allInts vs = none ∨ ∃ l n, Vbdcar.allInts vs = some l ∧ v = .int n ∧ l[i]? = some n
  | [], _, _, h => by simp at h
  | w :: r, 0, v, h => by
    rw [List.getElem?_cons_zero] at h
    cases h
    rw [allInts_cons]
    cases w with
    | int n => cases hr : Vbdcar.allInts r with
      | none => exact .inl rfl
      | some l => exact .inr ⟨n :: l, n, rfl, rfl, rfl⟩
    | list _ => exact .inl rfl
  | w :: r, i + 1, v, h => by
    rw [List.getElem?_cons_succ] at h
    rw [allInts_cons]
    cases w with
    | list _ => exact .inl rfl
    | int n =>
      rcases allInts_get h with e | ⟨l, m, e, e2, e3⟩
      · rw [e]; exact .inl rfl
      · rw [e]; exact .inr ⟨n :: l, m, rfl, e2, e3⟩
abbrev sp_operate : Sp := Sp2 fun u v H Q E => ∃ (I : Hp) (o : Nat) (xs : List V) (vs : List Val) (a : Addr), Same I H ∧ u = .str (opName o) ∧ v = .ref a ∧ H a = some (.lst xs) ∧ VAll I xs vs ∧ arity o vs.length ∧ (∀ v ∈ vs, VOk v) ∧ RetV I H Q E (raw o vs)
theorem raw8_some {vs : List Val} {l : List Int} (h : Vbdcar.allInts vs = some l) : raw 8 vs = .ok (.list l) := by
  show (match Vbdcar.allInts vs with | some l => _ | none => _) = _
  rw [h]
theorem raw8_none {vs : List Val} (h : Vbdcar.allInts vs = none) : raw 8 vs = .error 1 := by
  show (match Vbdcar.allInts vs with | some l => _ | none => _) = _
  rw [h]
abbrev n_operate : List Str := ["operation", "parts", "value"]
theorem sc_operate : FnScope n_operate ["operation", "parts"] (defScope s_operate) := ⟨rfl, rfl, rfl, by decide +kernel, rfl, by decide +kernel, by decide +kernel⟩
theorem d_operate (T : Tx w K mg)  : Def w K mg base 8 "operate" ["operation", "parts"] (sp_operate) :=
  mkDef2 T f_operate rfl rfl sc_operate rfl (fun _ _ _ _ _ _ us hl => match us, hl with | [_, _], _ => rfl) fun u v cdv A outer s H Q E hr h =>
  ⟨_, (pss_cons (ps_if (pt_cmpR op_eq (pv 0) pe_str (nomark _)) (pss_one (ps_ret (pe_lcX (own := [("value", 2)]) (g := gName 2) rfl rfl tz (fun _ _ _ _ h => h) rfl sc_operate.nd (pi_list (pv 1)) (blkOk_by (N := n_operate) (sc := defScope s_operate) (by decide +kernel)) (fun _ _ _ _ _ _ => (pg_name (i := 2) sc_operate.nd rfl (Or.inl rfl))) (fun _ _ _ _ _ _ hE => by exact (pe_c (d_as_number T) hr hE (pa_cons (pv 2) pa_nil)))))) pss_nil)
  (pss_cons (ps_if (pt_cmpR op_eq (pe_callB call_len_seq (by rfl) T.fr_len (by decide +kernel) (pa_cons (pv 1) pa_nil)) pe_int (nomark _)) (pss_one (ps_ret (pe_c (d_single_operation T) hr pz (pa_cons (pv 0) (pa_cons (pe_ix ix_list (pv 1) pe_int (fun _ _ => rfl)) pa_nil))))) pss_nil)
  (pss_one (ps_ret (pe_c (d_pair_operation T) hr pz (pa_cons (pv 0) (pa_cons (pe_ix ix_list (pv 1) pe_int (fun _ _ => rfl)) (pa_cons (pe_ix ix_list (pv 1) pe_int (fun _ _ => rfl)) pa_nil)))))))), by
  obtain ⟨I, o, xs, vs, a, sI, rfl, rfl, ha, hv, har, hok, q⟩ := h
  have hq : SqL K H a xs := .inl (.inl ha)
  have hlen := paired_len hv
  rcases har with ⟨rfl, h8⟩ | ⟨h1, hl⟩ | ⟨h2, hl⟩
  · refine ifST rfl <| k_ret ⟨.ref a, rfl, a, rfl, ⟨xs, hq⟩, ?_⟩
    refine lc_rel (I := I) (xs := xs) (fun i y _ => ∃ n, y = .int n ∧ vs[i]? = some (.int n)) sI hq (fun _ => rfl) (fun _ _ _ _ _ h => h) (by omega) (fun i x I2 H2 Q' hi e k => ?_) fun D ys I' H' e iD hD h1 h2 r => ?_
    · obtain ⟨v0, hvi, hx⟩ := paired_get hv hi
      refine rN rfl (Same.trans e.ii e.ih) hx (fun n e1 e2 => ?_) fun l e1 => ?_
      · subst e1 e2
        exact k _ I2 H2 (.refl e.ih) ⟨n, rfl, hvi⟩
      · subst e1
        rcases allInts_get hvi with e3 | ⟨_, _, _, e4, _⟩
        · rw [raw8_none e3] at q
          exact q I2 H2 e
        · cases e4
    · cases hA : Vbdcar.allInts vs with
      | some l =>
        rw [raw8_some hA] at q
        refine q _ I' H' e (.list (l := l) ?_)
        rw [h1]
        refine congrArg (fun l => some (HO.lst l)) (List.ext_getElem? fun i => ?_)
        rw [List.getElem?_map]
        cases ey : ys[i]? with
        | none =>
          have h3 := List.getElem?_eq_none_iff.mp ey
          have h4 := allInts_len hA
          rw [List.getElem?_eq_none_iff.mpr (by omega)] <;> rfl
        | some y =>
          obtain ⟨n, rfl, hn⟩ := r i y ey
          rcases allInts_get hn with e3 | ⟨l', m, e3, e4, e5⟩
          · rw [e3] at hA; cases hA
          · rw [e3] at hA
            cases hA
            cases e4
            rw [e5] <;> rfl
      | none =>
        exfalso
        have key : ∀ (us : List Val), (∀ (i : Nat) v, us[i]? = some v → ∃ n, v = Vbdcar.Val.int n) → Vbdcar.allInts us ≠ none := by
          intro us
          induction us with
          | nil => intro _ z; cases z
          | cons w r ih =>
            intro hw z
            obtain ⟨n, rfl⟩ := hw 0 w rfl
            rw [allInts_cons] at z
            have := ih fun i v e => hw (i + 1) v (by rw [List.getElem?_cons_succ]; exact e)
            cases hr : Vbdcar.allInts r with
            | none => exact this hr
            | some l => rw [hr] at z; cases z
        refine key vs (fun i v e => ?_) hA
        have hi : i < vs.length := (List.getElem?_eq_some_iff.mp e).1
        have hy : ys[i]? = some ys[i] := List.getElem?_eq_getElem (by omega)
        obtain ⟨n, _, hn⟩ := r i _ hy
        exact ⟨n, by rw [e] at hn; exact Option.some.inj hn⟩
  · have ns : decide (Str.ofString (opName o) = Str.ofString "list") = false := by rcases h1 with rfl | rfl | rfl | rfl | rfl | rfl | rfl | rfl <;> decide +kernel
    obtain ⟨x, rfl⟩ := List.length_eq_one_iff.mp hl
    obtain ⟨u, rfl, hx⟩ := paired_one hv
    exact ifSF rfl ⟨_, rfl, _, [u], rfl, .inl hq, rfl, _, rfl, iteT ⟨_, rfl, _, rfl, _, _, _, _, rfl, rfl, hq, rfl, _, _, rfl, I, o, x, sI, rfl, h1, hx, hok x (List.mem_cons_self ..), q⟩⟩ ns
  · have ns : decide (Str.ofString (opName o) = Str.ofString "list") = false := by rcases h2 with rfl | rfl | rfl | rfl | rfl | rfl | rfl | rfl | rfl | rfl | rfl | rfl <;> decide +kernel
    obtain ⟨x, z, rfl⟩ : ∃ x z, vs = [x, z] := by
      cases vs with
      | nil => cases hl
      | cons x r => cases r with
        | nil => cases hl
        | cons z t => cases t with
          | nil => exact ⟨x, z, rfl⟩
          | cons _ _ => cases hl
    obtain ⟨u, v, rfl, hx, hz⟩ := paired_two hv
    exact ifSF rfl ⟨_, rfl, _, [u, v], rfl, .inl hq, rfl, _, rfl, iteF ⟨_, rfl, _, rfl, _, _, _, _, rfl, rfl, hq, rfl, _, rfl, _, _, _, _, rfl, rfl, hq, rfl, _, _, _, rfl, I, o, x, z, sI, rfl, h2, hx, hz, hok x (by simp), hok z (by simp), q⟩⟩ ns⟩
end
end Bd


end
/-! ## BdProg -/
section
namespace Bd
open PySem PySem.Spec PyProof.Rows
open L2
/-! ## rules in a comprehension: the reading must not name the inner context -/
theorem pe_fldK {X : Cx} {K' : PySem.W.Frag} {e : Expr} {f : Str} {ta : TE} {pos : Pos} (he : PE X e ta) (hb : attributeBase e f X.env (eval e X.env) = eval e X.env) (hK : X.K = K' := by rfl) : PE X (.Attribute e f pos) (tFld K' ta f) := by
  subst hK
  exact pe_fld he hb
theorem pi_listK {X : Cx} {K' : PySem.W.Frag} {tg l : Expr} {tl : TE} (hl : PE X l tl) (hK : X.K = K' := by rfl) : PI X tg l (iList K' tl) := by
  subst hK
  exact pi_list hl
theorem opK {X : Cx} {K' : PySem.W.Frag} {op : Value → Value → Sem Value} (r : PySem.W.Frag → R2) (h : OpR X op (r X.K)) (hK : X.K = K' := by rfl) : OpR X op (r K') := by
  subst hK
  exact h
theorem ixK {X : Cx} {K' : PySem.W.Frag} (r : PySem.W.Frag → R2) (h : IxR X (r X.K)) (hK : X.K = K' := by rfl) : IxR X (r K') := by
  subst hK
  exact h
/-! ## making an instance -/
structure MkD (w : World) (K : PySem.W.Frag) (mg : Str → Option Value) (base : Heap) (k : Nat) (x : Str) (C : Addr) (ps : List Str) (sp : Sp) : Prop where
  ex : ∃ f fd, mg x = some (.ref C) ∧ Mk K C f ∧ Binds K fd ps [] ∧ FnOk R.prog w K mg base (L2.CX R.prog w) k f fd ps sp
/-- what a plain __init__ does: the fields fl of its arguments -/
def spI (C : Addr) (n : Nat) (fl : List V → List (Str × V)) : Sp := fun vs H Q _ => ∃ a dx ws, vs = .ref a :: ws ∧ ws.length = n ∧ H a = some (.ins C dx []) ∧ Q .non (upd H a (.ins C dx (fl ws)))
section
variable {w : World} {K : PySem.W.Frag} {mg : Str → Option Value} {base : Heap} {k : Nat} {x q : Str} {ps N : List Str} {sp : Sp} {st : Stmt} {f c C : Addr}
theorem mkInit (T : Tx w K mg) (i : Nat) (hi : fnL[i]? = some ⟨"__init__", q, st, f, c⟩) (M : Mk K C f) (hm : mg x = some (.ref C)) (S : FnScope N ps (defScope st))
    (hb : ∀ (kV doc pm : Value) (an : Option Addr) (cdv ct : Value) (us : List Value), us.length = ps.length → bindArgs (PySem.W.fnOf "__init__" q (defArgs st) (defBody st) (defScope st) .none kV doc pm an cdv ct) ⟨us, []⟩ = pure (ps.zip us))
    (len : ∀ vs H Q E, sp vs H Q E → vs.length = ps.length) (body : ∀ vs, Body w K mg base k q st f N vs (sp vs)) : MkD w K mg base (k + 1) x C ps sp := by
  obtain ⟨fd, F⟩ := T.k.fn i _ hi
  exact ⟨f, fd, hm, M, F.bindsN hb, F.ok S len fun cdv A outer s H vs Q E hr h => body vs cdv A outer s H Q E hr h⟩
end
section
variable {X : Cx} {k k' : Nat} {x : Str} {C : Addr} {ps : List Str} {sp : Sp} {E : XK} {p pos : Pos} {e : Expr} {es : List Expr} {t : TA}
theorem pe_mk (D : MkD X.w X.K X.mg X.base k x C ps sp) (hr : Room k' X.A) (hx : Passes (L2.CX X.prog X.w) X E) (ha : PA X (e :: es) t) (hk : k + 1 ≤ k' := by decide)
    (hp : X.prog = R.prog := by rfl) (hg : Gl X x := by rfl) (hdb : (x == ("__debug__" : Str)) = false := by decide) (he : starEach (e :: es) X.env = (false, eval e X.env) :: starEach es X.env := by rfl) (hpl : (backTo pos (starEach es X.env)).any (·.1) = false := by rfl) :
    PE X (.Call (.Name x p) (e :: es) [] pos) (tMake C sp [] E t) := by
  obtain ⟨f, fd, a, b, c, d⟩ := D.ex
  rw [← hp] at d
  exact pe_make b d (hr.mono hk) hg a c .nil hx ha hdb he hpl
theorem pe_mk0 (D : MkD X.w X.K X.mg X.base k x C ps sp) (hr : Room k' X.A) (hx : Passes (L2.CX X.prog X.w) X E) (hk : k + 1 ≤ k' := by decide)
    (hp : X.prog = R.prog := by rfl) (hg : Gl X x := by rfl) (hdb : (x == ("__debug__" : Str)) = false := by decide) : PE X (.Call (.Name x p) [] [] pos) (tMake C sp [] E tNil) := by
  obtain ⟨f, fd, a, b, c, d⟩ := D.ex
  rw [← hp] at d
  exact pe_make0 b d (hr.mono hk) hg a c .nil hx hdb
end
theorem putF_le {f : Str} {v : V} : ∀ {fs : List (Str × V)} {n : Nat}, fs.length ≤ n → (putF f v fs).length ≤ n + 1
  | [], n, _ => by show 1 ≤ n + 1; omega
  | (g, x) :: r, n, h => by
    rw [List.length_cons] at h
    show (if g = f then (g, v) :: r else (g, x) :: putF f v r).length ≤ n + 1
    split
    · rw [List.length_cons]; omega
    · rw [List.length_cons]
      have := putF_le (f := f) (v := v) (fs := r) (n := n - 1) (by omega)
      omega
theorem putL0 : ([] : List (Str × V)).length < 1000 := by decide
theorem putL1 {f : Str} {v : V} : (putF f v []).length < 1000 := Nat.lt_of_le_of_lt (putF_le (Nat.le_refl 0)) (by decide)
theorem putL2 {f g : Str} {v x : V} : (putF g x (putF f v [])).length < 1000 := Nat.lt_of_le_of_lt (putF_le (putF_le (Nat.le_refl 0))) (by decide)
theorem putL3 {f g h : Str} {v x y : V} : (putF h y (putF g x (putF f v []))).length < 1000 := Nat.lt_of_le_of_lt (putF_le (putF_le (putF_le (Nat.le_refl 0)))) (by decide)
theorem putL4 {f g h i : Str} {v x y z : V} : (putF i z (putF h y (putF g x (putF f v [])))).length < 1000 := Nat.lt_of_le_of_lt (putF_le (putF_le (putF_le (putF_le (Nat.le_refl 0))))) (by decide)
/-- the reading of a plain making -/
theorem k_mk {C : Addr} {n : Nat} {fl : List V → List (Str × V)} {E : XK} {t : TA} {σ : L2.St} {H : Hp} {Q : VK}
    (h : t σ H fun ws H1 => ws.length = n ∧ ∀ x dx, H1 x = none → H1 dx = none → dx ≠ x → Q (.ref x) (upd (upd H1 dx (.own x)) x (.ins C dx (fl ws)))) (mono : ∀ {R R' : List V → Hp → Prop}, (∀ v H, R v H → R' v H) → t σ H R → t σ H R') : tMake C (spI C n fl) [] E t σ H Q :=
  mono (fun ws H1 ⟨hl, hk⟩ x dx hx hd hne => ⟨x, dx, ws, by rw [List.append_nil], hl, upd_same, rfl, by rw [upd_upd]; exact hk x dx hx hd hne⟩) h
theorem Ext.ins {I H I1 H1 : Hp} {x dx : Addr} {o : HO} (a : Ext I H I1 H1) (hx : H1 x = none) (hd : H1 dx = none) (hne : dx ≠ x) : Ext I H (upd I1 x o) (upd (upd H1 dx (.own x)) x o) :=
  (a.tmp hd).new (by rw [upd_ne (Ne.symm hne)]; exact hx)
theorem k_cb {r : List V → Hp → VK → Prop} {t : TA} {σ : L2.St} {H : Hp} {Q : VK} (h : t σ H fun vs H1 => r vs H1 Q) : tCB r t σ H Q := h
theorem k_c {v : V} {σ : L2.St} {H : Hp} {Q : VK} (h : Q v H) : tC v σ H Q := h
theorem k_lcR {K : PySem.W.Frag} {ta te : TE} {j : Nat} {vs : List Nat} {σ : L2.St} {I H : Hp} {Q : VK} {a : Addr} {xs : List V} (hv : L2.Val ta σ H (.ref a)) (R : Nat → V → Hp → Prop) (sI : Same I H) (hx : SqL K H a xs)
    (hw : ∀ x, wipe ((wipe σ vs).set j (some x)) vs = wipe σ vs) (hR : ∀ i y J J', Same J J' → R i y J → R i y J') (hz : xs.length ≤ 1000000)
    (he : ∀ i x I2 H2 (Q' : VK), xs[i]? = some x → Ext I H I2 H2 → (∀ y I4 H4, Ext I2 H2 I4 H4 → R i y I4 → Q' y H4) → te ((wipe σ vs).set j (some x)) H2 Q')
    (q : ∀ D ys I' H', Ext I H I' H' → I D = none → H D = none → I' D = some (.lst ys) → ys.length = xs.length → (∀ (i : Nat) y, ys[i]? = some y → R i y I') → Q (.ref D) H') :
    tLc (iList K ta) (gName j) tYes te vs σ H Q := hv _ ⟨a, rfl, ⟨xs, hx⟩, lc_rel R sI hx hw hR hz he q⟩
section
variable {w : World} {K : PySem.W.Frag} {mg : Str → Option Value} {base : Heap}
abbrev flExpression : List V → List (Str × V) := fun ws => [("kind", ws.getD 0 .non), ("word", ws.getD 1 .non), ("number", ws.getD 2 .non), ("inner", ws.getD 3 .non)]
theorem sc_I_Expression : FnScope ["self", "kind", "word", "number", "inner"] ["self", "kind", "word", "number", "inner"] (defScope s_Expression) := ⟨rfl, rfl, rfl, by decide +kernel, rfl, by decide +kernel, by decide +kernel⟩
theorem m_Expression (T : Tx w K mg) : MkD w K mg base 1 "Expression" cExpression ["self", "kind", "word", "number", "inner"] (spI cExpression 4 flExpression) :=
  mkInit T f_I_Expression rfl (T.k.cl 0 _ _ _ rfl).2.1 T.g_Expression sc_I_Expression (fun _ _ _ _ _ _ us hl => match us, hl with | [_, _, _, _, _], _ => rfl) (fun vs H Q E ⟨a, dx, ws, e, hl, _⟩ => by rw [e, List.length_cons, hl] <;> rfl) fun vs cdv A outer s H Q E hr ⟨a, dx, ws, e, hl, ha, q⟩ => by
  subst e
  match ws, hl with
  | [w0, w1, w2, w3], _ =>
    exact ⟨_, (pss_cons (ps_fld (pv 0) (pv 1) rfl)
  (pss_cons (ps_fld (pv 0) (pv 2) rfl)
  (pss_cons (ps_fld (pv 0) (pv 3) rfl)
  (pss_one (ps_fld (pv 0) (pv 4) rfl))))), _, rfl, _, rfl, a, _, dx, _, rfl, ha, T.c_Expression, T.n_Expression_kind, putL0, _, rfl, _, rfl, a, _, dx, _, rfl, upd_same, T.c_Expression, T.n_Expression_word, putL1, _, rfl, _, rfl, a, _, dx, _, rfl, upd_same, T.c_Expression, T.n_Expression_number, putL2, _, rfl, _, rfl, a, _, dx, _, rfl, upd_same, T.c_Expression, T.n_Expression_inner, putL3, by simp only [upd_upd]; exact q⟩
abbrev flFunction : List V → List (Str × V) := fun ws => [("name", ws.getD 0 .non), ("parameters", ws.getD 1 .non), ("body", ws.getD 2 .non)]
theorem sc_I_Function : FnScope ["self", "name", "parameters", "body"] ["self", "name", "parameters", "body"] (defScope s_Function) := ⟨rfl, rfl, rfl, by decide +kernel, rfl, by decide +kernel, by decide +kernel⟩
theorem m_Function (T : Tx w K mg) : MkD w K mg base 1 "Function" cFunction ["self", "name", "parameters", "body"] (spI cFunction 3 flFunction) :=
  mkInit T f_I_Function rfl (T.k.cl 1 _ _ _ rfl).2.1 T.g_Function sc_I_Function (fun _ _ _ _ _ _ us hl => match us, hl with | [_, _, _, _], _ => rfl) (fun vs H Q E ⟨a, dx, ws, e, hl, _⟩ => by rw [e, List.length_cons, hl] <;> rfl) fun vs cdv A outer s H Q E hr ⟨a, dx, ws, e, hl, ha, q⟩ => by
  subst e
  match ws, hl with
  | [w0, w1, w2], _ =>
    exact ⟨_, (pss_cons (ps_fld (pv 0) (pv 1) rfl)
  (pss_cons (ps_fld (pv 0) (pv 2) rfl)
  (pss_one (ps_fld (pv 0) (pv 3) rfl)))), _, rfl, _, rfl, a, _, dx, _, rfl, ha, T.c_Function, T.n_Function_name, putL0, _, rfl, _, rfl, a, _, dx, _, rfl, upd_same, T.c_Function, T.n_Function_parameters, putL1, _, rfl, _, rfl, a, _, dx, _, rfl, upd_same, T.c_Function, T.n_Function_body, putL2, by simp only [upd_upd]; exact q⟩
abbrev flProgram : List V → List (Str × V) := fun ws => [("functions", ws.getD 0 .non), ("last", ws.getD 1 .non)]
theorem sc_I_Program : FnScope ["self", "functions", "last"] ["self", "functions", "last"] (defScope s_Program) := ⟨rfl, rfl, rfl, by decide +kernel, rfl, by decide +kernel, by decide +kernel⟩
theorem m_Program (T : Tx w K mg) : MkD w K mg base 1 "Program" cProgram ["self", "functions", "last"] (spI cProgram 2 flProgram) :=
  mkInit T f_I_Program rfl (T.k.cl 2 _ _ _ rfl).2.1 T.g_Program sc_I_Program (fun _ _ _ _ _ _ us hl => match us, hl with | [_, _, _], _ => rfl) (fun vs H Q E ⟨a, dx, ws, e, hl, _⟩ => by rw [e, List.length_cons, hl] <;> rfl) fun vs cdv A outer s H Q E hr ⟨a, dx, ws, e, hl, ha, q⟩ => by
  subst e
  match ws, hl with
  | [w0, w1], _ =>
    exact ⟨_, (pss_cons (ps_fld (pv 0) (pv 1) rfl)
  (pss_one (ps_fld (pv 0) (pv 2) rfl))), _, rfl, _, rfl, a, _, dx, _, rfl, ha, T.c_Program, T.n_Program_functions, putL0, _, rfl, _, rfl, a, _, dx, _, rfl, upd_same, T.c_Program, T.n_Program_last, putL1, by simp only [upd_upd]; exact q⟩
abbrev flHead : List V → List (Str × V) := fun ws => [("name", ws.getD 0 .non), ("parameters", ws.getD 1 .non), ("body", ws.getD 2 .non)]
theorem sc_I_Head : FnScope ["self", "name", "parameters", "body"] ["self", "name", "parameters", "body"] (defScope s_Head) := ⟨rfl, rfl, rfl, by decide +kernel, rfl, by decide +kernel, by decide +kernel⟩
theorem m_Head (T : Tx w K mg) : MkD w K mg base 1 "Head" cHead ["self", "name", "parameters", "body"] (spI cHead 3 flHead) :=
  mkInit T f_I_Head rfl (T.k.cl 7 _ _ _ rfl).2.1 T.g_Head sc_I_Head (fun _ _ _ _ _ _ us hl => match us, hl with | [_, _, _, _], _ => rfl) (fun vs H Q E ⟨a, dx, ws, e, hl, _⟩ => by rw [e, List.length_cons, hl] <;> rfl) fun vs cdv A outer s H Q E hr ⟨a, dx, ws, e, hl, ha, q⟩ => by
  subst e
  match ws, hl with
  | [w0, w1, w2], _ =>
    exact ⟨_, (pss_cons (ps_fld (pv 0) (pv 1) rfl)
  (pss_cons (ps_fld (pv 0) (pv 2) rfl)
  (pss_one (ps_fld (pv 0) (pv 3) rfl)))), _, rfl, _, rfl, a, _, dx, _, rfl, ha, T.c_Head, T.n_Head_name, putL0, _, rfl, _, rfl, a, _, dx, _, rfl, upd_same, T.c_Head, T.n_Head_parameters, putL1, _, rfl, _, rfl, a, _, dx, _, rfl, upd_same, T.c_Head, T.n_Head_body, putL2, by simp only [upd_upd]; exact q⟩

/-! ## texts and expressions in the heap -/
def sB (b : List Nat) : Str := ⟨b.toArray⟩
theorem sB_inj {b c : List Nat} (h : sB b = sB c) : b = c := by
  have := congrArg (fun s : Str => s.cps.toList) h
  simpa [sB] using this
def wordOf : Exp → Str
  | .var x => sB x
  | .let_ x _ _ => sB x
  | .each x _ _ => sB x
  | .keep x _ _ => sB x
  | .op o _ => Str.ofString (opName o)
  | .call f _ => sB f
  | _ => Str.ofString ""
abbrev expF (k w : Str) (n : Int) (li : Addr) : List (Str × V) := [("kind", .str k), ("word", .str w), ("number", .int n), ("inner", .ref li)]
inductive ExpAt (I : Hp) : V → Exp → Prop where
  | mk {a dx li : Addr} {xs : List V} {e : Exp} (ha : I a = some (.ins cExpression dx (expF (Str.ofString (kindOf e)) (wordOf e) (numOf e) li))) (hl : I li = some (.lst xs)) (hn : xs.length = (innerOf e).length) (hz : xs.length ≤ 8)
      (hc : ∀ (i : Nat) x c, xs[i]? = some x → (innerOf e)[i]? = some c → ExpAt I x c) : ExpAt I (.ref a) e
theorem ExpAt.mono {I I' : Hp} (s : Same I I') : ∀ {u : V} {e : Exp}, ExpAt I u e → ExpAt I' u e
  | _, _, .mk ha hl hn hz hc => .mk (s _ _ ha) (s _ _ hl) hn hz fun i x c h1 h2 => ExpAt.mono s (hc i x c h1 h2)
abbrev RetE (I H : Hp) (Q : VK) (e : Exp) : Prop := ∀ u I' H', Ext I H I' H' → ExpAt I' u e → Q u H'
structure FunAt (I : Hp) (u : V) (f : Vbdcar.Fun) : Prop where
  ex : ∃ a dx li ub, u = .ref a ∧ I a = some (.ins cFunction dx [("name", .str (sB f.name)), ("parameters", .ref li), ("body", ub)]) ∧ I li = some (.lst (f.params.map fun b => V.str (sB b))) ∧ ExpAt I ub f.body
structure ProgAt (I : Hp) (u : V) (p : Vbdcar.Prog) : Prop where
  ex : ∃ a dx li ul xs, u = .ref a ∧ I a = some (.ins cProgram dx [("functions", .ref li), ("last", ul)]) ∧ I li = some (.lst xs) ∧ xs.length = p.funs.length ∧ xs.length ≤ 8 ∧ (∀ (i : Nat) x f, xs[i]? = some x → p.funs[i]? = some f → FunAt I x f) ∧ ExpAt I ul p.main
theorem FunAt.mono {I I' : Hp} {u : V} {f : Vbdcar.Fun} (s : Same I I') (h : FunAt I u f) : FunAt I' u f := by
  obtain ⟨a, dx, li, ub, h1, h2, h3, h4⟩ := h.ex
  exact ⟨⟨a, dx, li, ub, h1, s _ _ h2, s _ _ h3, h4.mono s⟩⟩
theorem ProgAt.mono {I I' : Hp} {u : V} {p : Vbdcar.Prog} (s : Same I I') (h : ProgAt I u p) : ProgAt I' u p := by
  obtain ⟨a, dx, li, ul, xs, h1, h2, h3, h4, h5, h6, h7⟩ := h.ex
  exact ⟨⟨a, dx, li, ul, xs, h1, s _ _ h2, s _ _ h3, h4, h5, fun i x f e1 e2 => (h6 i x f e1 e2).mono s, h7.mono s⟩⟩
theorem get_of_len {α β : Type} {xs : List α} {ys : List β} (h : xs.length = ys.length) {i : Nat} {x : α} (e : xs[i]? = some x) : ∃ y, ys[i]? = some y :=
  ⟨ys[i]'(by have := (List.getElem?_eq_some_iff.mp e).1; omega), List.getElem?_eq_getElem _⟩
abbrev sp_number_expression : Sp := Sp1 fun u H Q _ => ∃ I n, Same I H ∧ u = .int n ∧ RetE I H Q (.num n)
abbrev n_number_expression : List Str := ["number"]
theorem sc_number_expression : FnScope n_number_expression ["number"] (defScope s_number_expression) := ⟨rfl, rfl, rfl, by decide +kernel, rfl, by decide +kernel, by decide +kernel⟩
theorem d_number_expression (T : Tx w K mg)  : Def w K mg base 3 "number_expression" ["number"] (sp_number_expression) :=
  mkDef1 T f_number_expression rfl rfl sc_number_expression rfl (fun _ _ _ _ _ _ us hl => match us, hl with | [_], _ => rfl) fun u cdv A outer s H Q E hr h =>
  ⟨_, (pss_one (ps_ret (pe_mk (m_Expression T) hr pz (pa_cons pe_str (pa_cons pe_str (pa_cons (pv 0) (pa_cons (pe_lst pa_nil) pa_nil))))))), by
  obtain ⟨I, n, sI, rfl, q⟩ := h
  refine ⟨_, rfl, by rw [sizeLine_eq]; exact Nat.zero_le _, fun p hp x dx hx hdx hne => ⟨x, dx, _, rfl, rfl, upd_same, rfl, ?_⟩⟩
  rw [upd_upd]
  have e1 := (Ext.refl sI).new (o := .lst []) hp
  refine q _ _ _ (e1.ins hx hdx hne) (.mk (e := .num n) upd_same (xs := []) ?_ rfl (by decide) fun i x c h1 h2 => by simp at h1)
  rw [upd_ne (ne_of_none upd_same hx)]
  exact upd_same⟩
abbrev sp_with_inner : Sp := Sp2 fun u v H Q _ => ∃ (I : Hp) (e e' : Exp) (l : Addr) (xs : List V), Same I H ∧ ExpAt I u e ∧ v = .ref l ∧ I l = some (.lst xs) ∧ kindOf e' = kindOf e ∧ wordOf e' = wordOf e ∧ numOf e' = numOf e ∧ xs.length = (innerOf e').length ∧ xs.length ≤ 8 ∧ (∀ (i : Nat) x c, xs[i]? = some x → (innerOf e')[i]? = some c → ExpAt I x c) ∧ RetE I H Q e'
abbrev n_with_inner : List Str := ["expression", "inner"]
theorem sc_with_inner : FnScope n_with_inner ["expression", "inner"] (defScope s_with_inner) := ⟨rfl, rfl, rfl, by decide +kernel, rfl, by decide +kernel, by decide +kernel⟩
theorem d_with_inner (T : Tx w K mg)  : Def w K mg base 3 "with_inner" ["expression", "inner"] (sp_with_inner) :=
  mkDef2 T f_with_inner rfl rfl sc_with_inner rfl (fun _ _ _ _ _ _ us hl => match us, hl with | [_, _], _ => rfl) fun u v cdv A outer s H Q E hr h =>
  ⟨_, (pss_one (ps_ret (pe_mk (m_Expression T) hr pz (pa_cons (pe_fld (pv 0) rfl) (pa_cons (pe_fld (pv 0) rfl) (pa_cons (pe_fld (pv 0) rfl) (pa_cons (pv 1) pa_nil))))))), by
  obtain ⟨I, e, e', l, xs, sI, hu, rfl, hl, k1, k2, k3, hn, hz, hc, q⟩ := h
  cases hu with | mk ha hl2 hn2 hz2 hc2 =>
  rename_i a dx0 li ys
  have ha := sI _ _ ha
  refine ⟨_, rfl, a, _, dx0, _, _, rfl, ha, T.c_Expression, T.n_Expression_kind, rfl, _, rfl, a, _, dx0, _, _, rfl, ha, T.c_Expression, T.n_Expression_word, rfl, _, rfl, a, _, dx0, _, _, rfl, ha, T.c_Expression, T.n_Expression_number, rfl, _, rfl, fun x dx hx hdx hne => ⟨x, dx, _, rfl, rfl, upd_same, rfl, ?_⟩⟩
  rw [upd_upd]
  have s2 : Same I (upd I x (.ins cExpression dx (expF (Str.ofString (kindOf e)) (wordOf e) (numOf e) l))) := Same.new (sI.free hx)
  refine q _ _ _ ((Ext.refl sI).ins hx hdx hne) (.mk (e := e') (li := l) (dx := dx) (xs := xs) ?_ (s2 _ _ hl) hn hz fun i x c h1 h2 => (hc i x c h1 h2).mono s2)
  rw [k1, k2, k3]
  exact upd_same⟩
abbrev sp_function_named : Sp := Sp2 fun u v H Q _ => ∃ (I : Hp) (p : Vbdcar.Prog) (n : List Nat), Same I H ∧ ProgAt I u p ∧ v = .str (sB n) ∧ match p.funs.find? (fun f => f.name == n) with
  | some f => ∀ x, FunAt I x f → Q x H
  | none => Q .non H
abbrev n_function_named : List Str := ["program", "name", "function"]
theorem sc_function_named : FnScope n_function_named ["program", "name"] (defScope s_function_named) := ⟨rfl, rfl, rfl, by decide +kernel, rfl, by decide +kernel, by decide +kernel⟩
theorem d_function_named (T : Tx w K mg)  : Def w K mg base 1 "function_named" ["program", "name"] (sp_function_named) :=
  mkDef2 T f_function_named rfl rfl sc_function_named rfl (fun _ _ _ _ _ _ us hl => match us, hl with | [_, _], _ => rfl) fun u v cdv A outer s H Q E hr h =>
  ⟨_, (pss_cons (ps_for (passes_of rfl) rfl (pi_list (pe_fld (pv 0) rfl)) (pg_name (i := 2) sc_function_named.nd rfl (Or.inl rfl)) (pss_one (ps_if (pt_cmpR op_eq (pe_fld (pv 2) rfl) (pv 1) (nomark _)) (pss_one (ps_ret (pv 2))) pss_nil)))
  (pss_one (ps_ret pe_non))), by
  obtain ⟨I, p, n, sI, hu, rfl, q⟩ := h
  obtain ⟨a, dx, li, ul, xs, rfl, h2, h3, h4, h5, h6, h7⟩ := hu.ex
  refine ⟨_, rfl, a, _, dx, _, _, rfl, sI _ _ h2, T.c_Program, T.n_Program_functions, rfl, li, rfl, ⟨xs, .inl (.inl (sI _ _ h3))⟩, ?_⟩
  refine for_list (xs := xs) (fun i σ H' => H' = H ∧ (∃ o, σ = [some (.ref a), some (.str (sB n)), o]) ∧ ∀ (j : Nat) f, j < i → p.funs[j]? = some f → (f.name == n) = false) ⟨rfl, ⟨_, rfl⟩, fun j f hj => absurd hj (by omega)⟩
    (fun i σ H' _ ⟨e, _⟩ => by subst e; exact .inl (.inl (sI _ _ h3))) (fun i x σ H' hi ⟨e, ⟨o, e2⟩, hb⟩ => ?_) fun σ H' ⟨e, _, hb⟩ => ?_
  · subst e e2
    obtain ⟨f, hf⟩ := get_of_len h4 hi
    have hx := h6 i x f hi hf
    obtain ⟨b, dx2, li2, ub, rfl, g2, g3, g4⟩ := hx.ex
    refine ⟨_, rfl, b, _, dx2, _, _, rfl, sI _ _ g2, T.c_Function, T.n_Function_name, rfl, _, rfl, rfl, _, rfl, ?_⟩
    rw [dS]
    by_cases hn : f.name = n
    · rw [decide_eq_true (by rw [hn])]
      refine iteT ⟨_, rfl, ?_⟩
      rw [find_at hf (by rw [hn]; exact beq_self_eq_true _) hb] at q
      exact q _ hx
    · rw [decide_eq_false (fun z => hn (sB_inj z))]
      refine iteF ⟨rfl, ⟨_, rfl⟩, fun j g hj hg => ?_⟩
      by_cases hji : j < i
      · exact hb j g hji hg
      · obtain rfl : j = i := by omega
        rw [hf] at hg
        cases hg
        exact beq_eq_false_iff_ne.mpr hn
  · subst e
    rw [find_none (fun j f hf => hb j f (by have := (List.getElem?_eq_some_iff.mp hf).1; omega) hf)] at q
    exact q⟩
abbrev sp_count (d : Nat) : Sp := Sp1 fun u H Q _ => ∃ e, deep e < d ∧ ExpAt H u e ∧ ∀ H', Same H H' → Q (.int ((Vbdcar.weight e : Nat) : Int)) H'
abbrev n_count_inner : List Str := ["expression", "other"]
theorem sc_count_inner : FnScope n_count_inner ["expression"] (defScope s_count_inner) := ⟨rfl, rfl, rfl, by decide +kernel, rfl, by decide +kernel, by decide +kernel⟩
theorem e_count_inner (T : Tx w K mg) {d : Nat} (h1 : 1 ≤ k) (ih : Def w K mg base k "count_inner" ["expression"] (sp_count d)) : Def w K mg base (k+1) "count_inner" ["expression"] (sp_count (d+1)) :=
  mkDef1 T f_count_inner rfl rfl sc_count_inner rfl (fun _ _ _ _ _ _ us hl => match us, hl with | [_], _ => rfl) fun u cdv A outer s H Q E hr h =>
  ⟨_, (pss_one (ps_ret (pe_op op_add pe_int (pe_callB (cr_sum rfl) (by rfl) T.fr_sum (by decide +kernel) (pa_cons (pe_lc (own := [("other", 1)]) (g := gName 1) (tt := tYes) rfl sc_count_inner.nd (pi_list (pe_fld (pv 0) rfl)) (blkOk_by (N := n_count_inner) (sc := defScope s_count_inner) (by decide +kernel)) (fun _ _ _ _ _ => (pg_name (i := 1) sc_count_inner.nd rfl (Or.inl rfl))) (fun _ _ _ _ _ => pts_nil) (fun _ _ _ _ _ => by exact (pe_c (hk := by omega) ih hr passL (pa_cons (pv 1) pa_nil)))) pa_nil))))), by
  obtain ⟨e, hd, hu, q⟩ := h
  cases hu with | mk ha hl hn hz hc =>
  rename_i a dx0 li xs
  have sI := Same.refl H
  refine k_ret (k_op (k_c (k_cb (k_cons (k_lcR (I := H) (xs := xs) (val_fld (val_var rfl) ha T.c_Expression T.n_Expression_inner rfl) (fun i y _ => ∃ c, (innerOf e)[i]? = some c ∧ y = .int ((Vbdcar.weight c : Nat) : Int)) sI (.inl (.inl hl)) (fun _ => rfl) (fun _ _ _ _ _ h => h) (by omega) (fun i x I2 H2 Q' hi e2 k => ?_) fun D ys I' H' e2 iD hD h1 h2 r => ?_)))))
  · obtain ⟨c, hcc⟩ := get_of_len hn hi
    have hdc := deep_mem (List.mem_of_getElem? hcc)
    exact ⟨_, rfl, _, rfl, c, by omega, (hc i x c hi hcc).mono e2.hh, fun H4 s4 => k _ I2 H4 (Ext.all e2.ih s4) ⟨c, hcc, rfl⟩⟩
  · have hy := list_of (h2.trans hn) r
    subst hy
    refine ⟨_, (innerOf e).map fun c => ((Vbdcar.weight c : Nat) : Int), rfl, .inl (.inl (e2.ih _ _ (by rw [h1, List.map_map]; rfl))), _, _, rfl, rfl, ?_⟩
    have := q H' e2.hh
    rw [weight_inner] at this
    rw [Int.natCast_add, castSum, List.map_map] at this
    exact this⟩
theorem f0_count_inner (T : Tx w K mg) : Def w K mg base 1 "count_inner" ["expression"] (fun _ _ _ _ => False) := mkDef T f_count_inner rfl rfl sc_count_inner (fun _ _ _ _ _ _ us hl => match us, hl with | [_], _ => rfl) (fun _ _ _ _ h => h.elim) fun _ _ _ _ _ _ _ _ _ h => h.elim
theorem d_count_inner (T : Tx w K mg) : ∀ d : Nat, Def w K mg base (d + 1) "count_inner" ["expression"] (sp_count d)
  | 0 => (f0_count_inner T).imp fun _ _ _ _ ⟨_, _, _, h, _⟩ => absurd h (Nat.not_lt_zero _)
  | d + 1 => e_count_inner T (by omega) (d_count_inner T d)
end
end Bd


end
/-! ## BdFoldP -/
section
namespace Bd
/-! ## folding, in plain words -/
def BIGN : Nat := 1000000000
/-- what constant hands back -/
def constOf (o : Nat) (ns : List Int) : Option Int := match raw o (ns.map Vbdcar.Val.int) with
  | .ok (.int k) => if k < -1000000000 ∨ 1000000000 < k then none else some k
  | _ => none
def isNum : Exp → Bool
  | .num _ => true
  | _ => false
def numsOf (cs : List Exp) : List Int := cs.map numOf
/-- an expression with other parts -/
def rebuild (e : Exp) (cs : List Exp) : Exp := match e, cs with
  | .ite _ _ _, [c, a, b] => .ite c a b
  | .let_ x _ _, [a, b] => .let_ x a b
  | .each x _ _, [a, b] => .each x a b
  | .keep x _ _, [a, b] => .keep x a b
  | .and_ _ _, [a, b] => .and_ a b
  | .or_ _ _, [a, b] => .or_ a b
  | .op o _, cs => .op o (Vbdcar.Exps.of cs)
  | .call f _, cs => .call f (Vbdcar.Exps.of cs)
  | e, _ => e
theorem list_ofs : ∀ l : List Exp, (Vbdcar.Exps.of l).list = l
  | [] => rfl
  | e :: r => by rw [Vbdcar.Exps.of, Vbdcar.Exps.list, list_ofs r]
theorem of_list : ∀ l : Vbdcar.Exps, Vbdcar.Exps.of l.list = l
  | .nil => rfl
  | .cons e l => by rw [Vbdcar.Exps.list, Vbdcar.Exps.of, of_list l]
theorem len2 {α : Type} {l : List α} (h : l.length = 2) : ∃ a b, l = [a, b] := by
  match l, h with
  | [a, b], _ => exact ⟨a, b, rfl⟩
theorem len3 {α : Type} {l : List α} (h : l.length = 3) : ∃ a b c, l = [a, b, c] := by
  match l, h with
  | [a, b, c], _ => exact ⟨a, b, c, rfl⟩
theorem len0 {α : Type} {l : List α} (h : l.length = 0) : l = [] := List.length_eq_zero_iff.mp h
theorem kind_rebuild (e : Exp) (cs : List Exp) : kindOf (rebuild e cs) = kindOf e := by
  unfold rebuild; split <;> rfl
theorem num_rebuild (e : Exp) (cs : List Exp) : numOf (rebuild e cs) = numOf e := by
  unfold rebuild; split <;> rfl
theorem inner_rebuild {e : Exp} {cs : List Exp} (h : cs.length = (innerOf e).length) : innerOf (rebuild e cs) = cs := by
  cases e with
  | num n => rw [len0 h]; rfl
  | var n => rw [len0 h]; rfl
  | ite a b c => obtain ⟨x, y, z, rfl⟩ := len3 h; rfl
  | let_ x a b => obtain ⟨y, z, rfl⟩ := len2 h; rfl
  | each x a b => obtain ⟨y, z, rfl⟩ := len2 h; rfl
  | keep x a b => obtain ⟨y, z, rfl⟩ := len2 h; rfl
  | and_ a b => obtain ⟨y, z, rfl⟩ := len2 h; rfl
  | or_ a b => obtain ⟨y, z, rfl⟩ := len2 h; rfl
  | op o l => exact list_ofs cs
  | call o l => exact list_ofs cs
/-- what folding makes of an expression whose parts have been folded -/
def fdWith (e : Exp) (cs : List Exp) : Exp := match e with
  | .op o _ => if o < 8 ∧ cs.all isNum = true then (match constOf o (numsOf cs) with
    | some k => .num k
    | none => rebuild e cs) else rebuild e cs
  | .ite _ _ _ => if isNum (cs.getD 0 e) = true then (if numOf (cs.getD 0 e) ≠ 0 then cs.getD 1 e else cs.getD 2 e) else rebuild e cs
  | .and_ _ _ => if isNum (cs.getD 0 e) = true then (if numOf (cs.getD 0 e) ≠ 0 then rebuild e cs else .num 0) else rebuild e cs
  | .or_ _ _ => if isNum (cs.getD 0 e) = true then (if numOf (cs.getD 0 e) ≠ 0 then .num 1 else rebuild e cs) else rebuild e cs
  | e => rebuild e cs
/-- what the reader lets through, as far as it needs no scopes -/
inductive FOk : Exp → Prop where
  | mk {e : Exp} (hn : ∀ n, e = .num n → n.natAbs ≤ 1000000000) (ho : ∀ o l, e = .op o l → arity o l.list.length) (hl : (innerOf e).length ≤ 8) (hc : ∀ c, c ∈ innerOf e → FOk c) : FOk e
theorem foldAll_list : ∀ l : Vbdcar.Exps, Vbdcar.foldAll l = Vbdcar.Exps.of (l.list.map Vbdcar.fold)
  | .nil => rfl
  | .cons e l => by rw [Vbdcar.foldAll, foldAll_list l]; rfl
theorem literals_eq : ∀ cs : List Exp, Vbdcar.literals cs = if cs.all isNum = true then some ((numsOf cs).map Vbdcar.Val.int) else none
  | [] => rfl
  | c :: r => by
    rw [Vbdcar.literals, literals_eq r]
    cases c with
    | num n =>
      by_cases h : r.all isNum = true
      · simp [Vbdcar.literal, h, isNum, numsOf, numOf]
      · simp [Vbdcar.literal, h, isNum]
    | _ => simp [Vbdcar.literal, isNum]
theorem raw3 (a b : Int) : raw 3 [.int a, .int b] = if b = 0 then .error 2 else .ok (.int (a.fdiv b)) := rfl
theorem raw4 (a b : Int) : raw 4 [.int a, .int b] = if b = 0 then .error 2 else .ok (.int (a - b * a.fdiv b)) := rfl
theorem apply_raw_ints {o : Nat} {ns : List Int} (ho : o < 8) (ha : arity o ns.length) : Vbdcar.apply o (ns.map Vbdcar.Val.int) = (match raw o (ns.map Vbdcar.Val.int) with
    | .ok (.int k) => if 1000000000000000000 < k ∨ k < -1000000000000000000 then .error 3 else .ok (.int k)
    | .ok v => .ok v
    | .error k => .error k) ∧ (∀ l, raw o (ns.map Vbdcar.Val.int) ≠ .ok (.list l)) := by
  have tb : ∀ b : Bool, ¬ (1000000000000000000 < tr b ∨ tr b < -1000000000000000000) := fun b => by cases b <;> decide
  rcases ha with ⟨rfl, _⟩ | ⟨h1, hl⟩ | ⟨h2, hl⟩
  · omega
  · match ns, hl with
    | [a], _ =>
      obtain rfl : o = 7 := by omega
      refine ⟨?_, fun l z => by simp [raw] at z⟩
      show Vbdcar.truth (a == 0) = if _ then _ else _
      rw [if_neg (tb _)]
      rfl
  · match ns, hl with
    | [a, b], _ =>
      match o, ho with
      | 0, _ => exact ⟨rfl, fun l z => by simp [raw] at z⟩
      | 1, _ => exact ⟨rfl, fun l z => by simp [raw] at z⟩
      | 2, _ => exact ⟨rfl, fun l z => by simp [raw] at z⟩
      | 3, _ =>
        constructor
        · show (if b = 0 then _ else _) = _
          simp only [List.map_cons, List.map_nil, raw3]
          by_cases h : b = 0
          · rw [if_pos h, if_pos h]
          · rw [if_neg h, if_neg h]; rfl
        · intro l z
          by_cases h : b = 0 <;> simp [raw, h] at z
      | 4, _ =>
        constructor
        · show (if b = 0 then _ else _) = _
          simp only [List.map_cons, List.map_nil, raw4]
          by_cases h : b = 0
          · rw [if_pos h, if_pos h]
          · have e : a.fmod b = a - b * a.fdiv b := Int.fmod_def a b
            rw [if_neg h, if_neg h, e]; rfl
        · intro l z
          by_cases h : b = 0 <;> simp [raw, h] at z
      | 5, _ =>
        refine ⟨?_, fun l z => by simp [raw] at z⟩
        show Vbdcar.truth (decide (a < b)) = if _ then _ else _
        rw [if_neg (tb _)]
        rfl
      | 6, _ =>
        refine ⟨?_, fun l z => by simp [raw] at z⟩
        show Vbdcar.truth (Vbdcar.Val.int a == Vbdcar.Val.int b) = if _ then _ else _
        rw [if_neg (tb _)]
        rfl
theorem fold_op (o : Nat) (l : Vbdcar.Exps) (h : arity o l.list.length) : Vbdcar.fold (.op o l) = fdWith (.op o l) (l.list.map Vbdcar.fold) := by
  rw [Vbdcar.fold, foldAll_list]
  simp only [list_ofs, fdWith]
  by_cases ho : o < 8
  · rw [if_pos ho, literals_eq]
    by_cases ha : (l.list.map Vbdcar.fold).all isNum = true
    · rw [if_pos ha, if_pos ⟨ho, ha⟩]
      have hlen : (numsOf (l.list.map Vbdcar.fold)).length = l.list.length := by simp [numsOf]
      obtain ⟨e1, e2⟩ := apply_raw_ints (ns := numsOf (l.list.map Vbdcar.fold)) ho (by rw [hlen]; exact h)
      simp only [e1, constOf]
      cases hr : raw o ((numsOf (l.list.map Vbdcar.fold)).map Vbdcar.Val.int) with
      | error k => rfl
      | ok v =>
        cases v with
        | list m => exact absurd hr (e2 m)
        | int k =>
          have hB : Vbdcar.BIG = 1000000000 := rfl
          by_cases hk : 1000000000000000000 < k ∨ k < -1000000000000000000
          · simp only [if_pos hk]
            rw [if_pos (by omega)] <;> rfl
          · simp only [if_neg hk]
            by_cases hb : k < -1000000000 ∨ 1000000000 < k
            · rw [if_pos hb, if_pos (by rw [hB]; omega)] <;> rfl
            · rw [if_neg hb, if_neg (by rw [hB]; omega)]
    · rw [if_neg ha, if_neg (by rintro ⟨_, q⟩; exact ha q)] <;> rfl
  · rw [if_neg ho, if_neg (by rintro ⟨q, _⟩; exact ho q)] <;> rfl
theorem fold_eq {e : Exp} (h : FOk e) : Vbdcar.fold e = fdWith e ((innerOf e).map Vbdcar.fold) := by
  cases h with | mk hn ho hl hc =>
  cases e with
  | op o l => exact fold_op o l (ho o l rfl)
  | num n => rfl
  | var n => rfl
  | call f l => rw [Vbdcar.fold, foldAll_list]; rfl
  | let_ x a b => rfl
  | each x a b => rfl
  | keep x a b => rfl
  | ite c a b =>
    rw [Vbdcar.fold]
    simp only [innerOf, List.map_cons, List.map_nil, fdWith, List.getD_cons_zero, List.getD_cons_succ]
    cases hc : Vbdcar.fold c with
    | num k => by_cases h : k = 0 <;> simp [isNum, numOf, h]
    | _ => simp [isNum, rebuild]
  | and_ a b =>
    rw [Vbdcar.fold]
    simp only [innerOf, List.map_cons, List.map_nil, fdWith, List.getD_cons_zero, List.getD_cons_succ]
    cases hc : Vbdcar.fold a with
    | num k => by_cases h : k = 0 <;> simp [isNum, numOf, h, rebuild]
    | _ => simp [isNum, rebuild]
  | or_ a b =>
    rw [Vbdcar.fold]
    simp only [innerOf, List.map_cons, List.map_nil, fdWith, List.getD_cons_zero, List.getD_cons_succ]
    cases hc : Vbdcar.fold a with
    | num k => by_cases h : k = 0 <;> simp [isNum, numOf, h, rebuild]
    | _ => simp [isNum, rebuild]

def mx : List Exp → Nat
  | [] => 0
  | c :: r => max (deep c) (mx r)
def leaf : Exp → Bool
  | .num _ => true
  | .var _ => true
  | _ => false
theorem deeps_mx : ∀ l : Vbdcar.Exps, deeps l = mx l.list
  | .nil => rfl
  | .cons e l => by rw [deeps, Vbdcar.Exps.list, mx, deeps_mx l]
theorem deep_char (e : Exp) : deep e = if leaf e = true then 0 else mx (innerOf e) + 1 := by
  cases e with
  | num _ => rfl
  | var _ => rfl
  | op o l => rw [deep, deeps_mx]; rfl
  | call o l => rw [deep, deeps_mx]; rfl
  | ite a b c => simp [deep, leaf, innerOf, mx]
  | let_ x a b => simp [deep, leaf, innerOf, mx]
  | each x a b => simp [deep, leaf, innerOf, mx]
  | keep x a b => simp [deep, leaf, innerOf, mx]
  | and_ a b => simp [deep, leaf, innerOf, mx]
  | or_ a b => simp [deep, leaf, innerOf, mx]
theorem leaf_rebuild (e : Exp) (cs : List Exp) : leaf (rebuild e cs) = leaf e := by
  unfold rebuild; split <;> rfl
theorem mx_map {f : Exp → Exp} : ∀ {l : List Exp}, (∀ c, c ∈ l → deep (f c) ≤ deep c) → mx (l.map f) ≤ mx l
  | [], _ => Nat.le_refl _
  | c :: r, h => by
    have h1 := h c (by simp)
    have h2 := mx_map (l := r) fun c hc => h c (by simp [hc])
    rw [List.map_cons, mx, mx]
    omega
theorem deep_rebuild {f : Exp → Exp} {e : Exp} (h : ∀ c, c ∈ innerOf e → deep (f c) ≤ deep c) : deep (rebuild e ((innerOf e).map f)) ≤ deep e := by
  rw [deep_char, deep_char e, leaf_rebuild, inner_rebuild (by simp)]
  have := mx_map h
  split <;> omega
theorem deep_part {f : Exp → Exp} {e : Exp} (h : ∀ c, c ∈ innerOf e → deep (f c) ≤ deep c) {i : Nat} {d : Exp} (hi : i < (innerOf e).length) : deep (((innerOf e).map f).getD i d) ≤ deep e := by
  rw [List.getD_eq_getElem?_getD, List.getElem?_map, List.getElem?_eq_getElem hi]
  have hm := List.getElem_mem hi
  exact Nat.le_trans (h _ hm) (Nat.le_of_lt (deep_mem hm))
theorem deep_fd {f : Exp → Exp} {e : Exp} (h : ∀ c, c ∈ innerOf e → deep (f c) ≤ deep c) : deep (fdWith e ((innerOf e).map f)) ≤ deep e := by
  have hr := deep_rebuild h
  cases e with
  | op o l =>
    simp only [fdWith]
    split
    · split
      · exact Nat.zero_le _
      · exact hr
    · exact hr
  | ite a b c =>
    simp only [fdWith]
    split
    · split
      · exact deep_part h (by simp [innerOf])
      · exact deep_part h (by simp [innerOf])
    · exact hr
  | and_ a b =>
    simp only [fdWith]
    split
    · split
      · exact hr
      · exact Nat.zero_le _
    · exact hr
  | or_ a b =>
    simp only [fdWith]
    split
    · split
      · exact Nat.zero_le _
      · exact hr
    · exact hr
  | num _ => exact hr
  | var _ => exact hr
  | let_ _ _ _ => exact hr
  | each _ _ _ => exact hr
  | keep _ _ _ => exact hr
  | call _ _ => exact hr
theorem deep_fold : ∀ {e : Exp}, FOk e → deep (Vbdcar.fold e) ≤ deep e
  | e, .mk hn ho hl hc => by
    rw [fold_eq (.mk hn ho hl hc)]
    exact deep_fd fun c hm => deep_fold (hc c hm)
theorem rebuild_num {e : Exp} {cs : List Exp} {n : Int} (h : rebuild e cs = .num n) : e = .num n := by
  unfold rebuild at h; split at h <;> first | exact h | cases h
theorem rebuild_op {e : Exp} {cs : List Exp} {o : Nat} {l : Vbdcar.Exps} (h : rebuild e cs = .op o l) (hc : cs.length = (innerOf e).length) : ∃ l0, e = .op o l0 ∧ l = Vbdcar.Exps.of cs := by
  cases e with
  | op o' l0 => cases h; exact ⟨l0, rfl, rfl⟩
  | num _ => cases cs <;> cases h
  | var _ => cases cs <;> cases h
  | call _ _ => cases h
  | ite _ _ _ => obtain ⟨x, y, z, rfl⟩ := len3 hc; cases h
  | let_ _ _ _ => obtain ⟨x, y, rfl⟩ := len2 hc; cases h
  | each _ _ _ => obtain ⟨x, y, rfl⟩ := len2 hc; cases h
  | keep _ _ _ => obtain ⟨x, y, rfl⟩ := len2 hc; cases h
  | and_ _ _ => obtain ⟨x, y, rfl⟩ := len2 hc; cases h
  | or_ _ _ => obtain ⟨x, y, rfl⟩ := len2 hc; cases h
theorem fok_rebuild {e : Exp} {cs : List Exp} (h : FOk e) (hc : cs.length = (innerOf e).length) (hs : ∀ c, c ∈ cs → FOk c) : FOk (rebuild e cs) := by
  cases h with | mk hn ho hl hcc =>
  refine .mk (fun n q => hn n (rebuild_num q)) (fun o l q => ?_) (by rw [inner_rebuild hc]; omega) (by rw [inner_rebuild hc]; exact hs)
  obtain ⟨l0, rfl, rfl⟩ := rebuild_op q hc
  rw [list_ofs, hc]
  exact ho o l0 rfl
theorem fok_num {n : Int} (h : n.natAbs ≤ 1000000000) : FOk (.num n) := .mk (fun m q => by cases q; exact h) (fun o l q => by cases q) (by simp [innerOf]) (fun c hc => by simp [innerOf] at hc)
theorem constOf_le {o : Nat} {ns : List Int} {k : Int} (h : constOf o ns = some k) : k.natAbs ≤ 1000000000 := by
  unfold constOf at h
  split at h
  · split at h
    · cases h
    · cases h; omega
  · cases h
theorem fok_fd {e : Exp} {cs : List Exp} (h : FOk e) (hc : cs.length = (innerOf e).length) (hs : ∀ c, c ∈ cs → FOk c) : FOk (fdWith e cs) := by
  have hr := fok_rebuild h hc hs
  cases e with
  | op o l =>
    simp only [fdWith]
    split
    · split
      · rename_i k hk
        exact fok_num (constOf_le hk)
      · exact hr
    · exact hr
  | ite a b c =>
    obtain ⟨x, y, z, rfl⟩ := len3 hc
    simp only [fdWith, List.getD_cons_zero, List.getD_cons_succ]
    split
    · split
      · exact hs _ (by simp)
      · exact hs _ (by simp)
    · exact hr
  | and_ a b =>
    simp only [fdWith]
    split
    · split
      · exact hr
      · exact fok_num (by decide)
    · exact hr
  | or_ a b =>
    simp only [fdWith]
    split
    · split
      · exact fok_num (by decide)
      · exact hr
    · exact hr
  | num _ => exact hr
  | var _ => exact hr
  | let_ _ _ _ => exact hr
  | each _ _ _ => exact hr
  | keep _ _ _ => exact hr
  | call _ _ => exact hr
theorem fok_fold : ∀ {e : Exp}, FOk e → FOk (Vbdcar.fold e)
  | e, .mk hn ho hl hc => by
    rw [fold_eq (.mk hn ho hl hc)]
    refine fok_fd (.mk hn ho hl hc) (by simp) fun c hm => ?_
    obtain ⟨c0, hm0, rfl⟩ := List.mem_map.mp hm
    exact fok_fold (hc c0 hm0)
end Bd

end
/-! ## BdFold -/
section
namespace Bd
open PySem PySem.Spec PyProof.Rows
open L2
section
variable {X : Cx} {k k' : Nat} {x : Str} {ps : List Str} {sp : Sp} {W : WX} {p pos : Pos} {e : Expr} {es : List Expr} {t : TA}
/-- f(e, ..) in a try -/
theorem pe_cS (D : Def X.w X.K X.mg X.base k x ps sp) (hr : Room k' X.A) (tk : Takes X W) (ha : PA X (e :: es) t) (hk : k ≤ k' := by decide)
    (hp : X.prog = R.prog := by rfl) (hg : Gl X x := by rfl) (hdb : (x == ("__debug__" : Str)) = false := by decide) (he : starEach (e :: es) X.env = (false, eval e X.env) :: starEach es X.env := by rfl) (hpl : (backTo pos (starEach es X.env)).any (·.1) = false := by rfl) :
    PE X (.Call (.Name x p) (e :: es) [] pos) (tCallS sp (WE W) t) := by
  obtain ⟨f, fd, a, b, c, d⟩ := D.ex
  rw [← hp] at d
  exact pe_callS d (hr.mono hk) hg a b c (fun σ => passAt tk σ) ha hdb he hpl
end
theorem k_callS {sp : Sp} {E : L2.St → XK} {t : TA} {σ : L2.St} {H : Hp} {Q : VK} (h : t σ H fun vs H1 => sp vs H1 Q (E σ)) : tCallS sp E t σ H Q := h
theorem k_if {c : TT} {t u : TS} {D : Ends} {σ : L2.St} {H : Hp} (h : c σ H fun b H1 => if b = true then t D σ H1 else u D σ H1) : tIfS c t u D σ H := h
theorem k_sifN {c : TT} {t v : TS} {D : Ends} {σ : L2.St} {H : Hp} (h : c σ H fun b H1 => if b = true then t { D with nx := v D } σ H1 else v D σ H1) : tSeq (tIfS c t tNext) v D σ H := h
theorem k_nx {D : Ends} {σ : L2.St} {H : Hp} (h : D.nx σ H) : tNext D σ H := h
theorem k_sset {te : TE} {i : Nat} {u : TS} {D : Ends} {σ : L2.St} {H : Hp} (h : te σ H fun x H1 => u D (σ.set i (some x)) H1) : tSeq (tAsg te (gName i)) u D σ H := h
theorem k_sif {c : TT} {t u v : TS} {D : Ends} {σ : L2.St} {H : Hp} (h : c σ H fun b H1 => if b = true then t { D with nx := v D } σ H1 else u { D with nx := v D } σ H1) : tSeq (tIfS c t u) v D σ H := h
section
variable {w : World} {K : PySem.W.Frag} {mg : Str → Option Value} {base : Heap}
abbrev PDeep (p : Vbdcar.Prog) : Prop := deep p.main < 21 ∧ ∀ f, f ∈ p.funs → deep f.body < 21
abbrev wAll (p : Vbdcar.Prog) : Nat := (p.funs.map fun f => Vbdcar.weight f.body).foldl (fun a b => a + b) (Vbdcar.weight p.main)
theorem foldl_nat : ∀ (l : List Nat) (s : Nat), l.foldl (fun a b => a + b) s = s + l.sum
  | [], s => by simp
  | a :: r, s => by rw [List.foldl_cons, foldl_nat r, List.sum_cons]; omega
abbrev sp_count_all : Sp := Sp1 fun u H Q _ => ∃ p, ProgAt H u p ∧ PDeep p ∧ ∀ H', Same H H' → Q (.int ((wAll p : Nat) : Int)) H'
abbrev n_count_all : List Str := ["program", "function"]
theorem sc_count_all : FnScope n_count_all ["program"] (defScope s_count_all) := ⟨rfl, rfl, rfl, by decide +kernel, rfl, by decide +kernel, by decide +kernel⟩
theorem d_count_all (T : Tx w K mg)  : Def w K mg base 23 "count_all" ["program"] (sp_count_all) :=
  mkDef1 T f_count_all rfl rfl sc_count_all rfl (fun _ _ _ _ _ _ us hl => match us, hl with | [_], _ => rfl) fun u cdv A outer s H Q E hr h =>
  ⟨_, (pss_one (ps_ret (pe_op op_add (pe_callB (cr_sum rfl) (by rfl) T.fr_sum (by decide +kernel) (pa_cons (pe_lc (own := [("function", 1)]) (g := gName 1) (tt := tYes) rfl sc_count_all.nd (pi_list (pe_fld (pv 0) rfl)) (blkOk_by (N := n_count_all) (sc := defScope s_count_all) (by decide +kernel)) (fun _ _ _ _ _ => (pg_name (i := 1) sc_count_all.nd rfl (Or.inl rfl))) (fun _ _ _ _ _ => pts_nil) (fun _ _ _ _ _ => by exact (pe_c (d_count_inner T 21) hr passL (pa_cons (pe_fldK (K' := K) (pv 1) rfl) pa_nil)))) pa_nil)) (pe_c (d_count_inner T 21) hr pz (pa_cons (pe_fld (pv 0) rfl) pa_nil))))), by
  obtain ⟨p, hu, ⟨hm, hf⟩, q⟩ := h
  obtain ⟨a, dx, li, ul, xs, rfl, h2, h3, h4, h5, h6, h7⟩ := hu.ex
  refine k_ret (k_op (k_cb (k_cons (k_lcR (I := H) (xs := xs) (val_fld (val_var rfl) h2 T.c_Program T.n_Program_functions rfl) (fun i y _ => ∃ f, p.funs[i]? = some f ∧ y = .int ((Vbdcar.weight f.body : Nat) : Int)) (.refl H) (.inl (.inl h3)) (fun _ => rfl) (fun _ _ _ _ _ h => h) (by omega) (fun i x I2 H2 Q' hi e2 k => ?_) fun D ys I' H' e2 iD hD h1 hl r => ?_))))
  · obtain ⟨f, hff⟩ := get_of_len h4 hi
    obtain ⟨b, dx2, li2, ub, rfl, g2, g3, g4⟩ := (h6 i x f hi hff).ex
    exact ⟨_, rfl, b, _, dx2, _, _, rfl, e2.hh _ _ g2, T.c_Function, T.n_Function_body, rfl, _, rfl, f.body, hf f (List.mem_of_getElem? hff), g4.mono e2.hh, fun H4 s4 => k _ I2 H4 (Ext.all e2.ih s4) ⟨f, hff, rfl⟩⟩
  · have hy := list_of (hl.trans h4) r
    subst hy
    refine ⟨_, p.funs.map fun f => ((Vbdcar.weight f.body : Nat) : Int), rfl, .inl (.inl (e2.ih _ _ (by rw [h1, List.map_map]; rfl))), _, rfl, a, _, dx, _, _, rfl, e2.hh _ _ h2, T.c_Program, T.n_Program_last, rfl, _, rfl, p.main, hm, h7.mono e2.hh, fun H4 s4 => ⟨_, _, rfl, rfl, ?_⟩⟩
    have := q H4 (Same.trans e2.hh s4)
    rw [show wAll p = _ from foldl_nat _ _, Int.natCast_add, castSum, List.map_map, Int.add_comm] at this
    exact this⟩
abbrev sp_are_numbers : Sp := Sp1 fun u H Q _ => ∃ (a : Addr) (xs : List V) (cs : List Exp), u = .ref a ∧ H a = some (.lst xs) ∧ xs.length = cs.length ∧ xs.length ≤ 8 ∧ (∀ (i : Nat) x c, xs[i]? = some x → cs[i]? = some c → ExpAt H x c) ∧ ∀ H', Same H H' → Q (.bl (cs.all isNum)) H'
theorem kindNum (c : Exp) : decide (Str.ofString (kindOf c) = Str.ofString "number") = isNum c := by
  have key : ∀ s, s ∈ ["variable", "if", "let", "each", "keep", "and", "or", "operation", "call"] → decide (Str.ofString s = Str.ofString "number") = false := by decide +kernel
  cases c with
  | num _ => exact decide_eq_true rfl
  | _ => exact key _ (by simp [kindOf])
theorem ExpAt.at {I : Hp} {u : V} {e : Exp} (h : ExpAt I u e) : ∃ a dx li xs, u = .ref a ∧ I a = some (.ins cExpression dx (expF (Str.ofString (kindOf e)) (wordOf e) (numOf e) li)) ∧ I li = some (.lst xs) ∧ xs.length = (innerOf e).length ∧ xs.length ≤ 8 ∧ ∀ (i : Nat) x c, xs[i]? = some x → (innerOf e)[i]? = some c → ExpAt I x c := by
  cases h with | mk ha hl hn hz hc => exact ⟨_, _, _, _, rfl, ha, hl, hn, hz, hc⟩
abbrev n_are_numbers : List Str := ["row", "expression"]
theorem sc_are_numbers : FnScope n_are_numbers ["row"] (defScope s_are_numbers) := ⟨rfl, rfl, rfl, by decide +kernel, rfl, by decide +kernel, by decide +kernel⟩
theorem d_are_numbers (T : Tx w K mg)  : Def w K mg base 1 "are_numbers" ["row"] (sp_are_numbers) :=
  mkDef1 T f_are_numbers rfl rfl sc_are_numbers rfl (fun _ _ _ _ _ _ us hl => match us, hl with | [_], _ => rfl) fun u cdv A outer s H Q E hr h =>
  ⟨_, (pss_one (ps_ret (pe_callB (cr_all rfl) (by rfl) T.fr_all (by decide +kernel) (pa_cons (pe_lc (own := [("expression", 1)]) (g := gName 1) (tt := tYes) rfl sc_are_numbers.nd (pi_list (pv 0)) (blkOk_by (N := n_are_numbers) (sc := defScope s_are_numbers) (by decide +kernel)) (fun _ _ _ _ _ => (pg_name (i := 1) sc_are_numbers.nd rfl (Or.inl rfl))) (fun _ _ _ _ _ => pts_nil) (fun _ _ _ _ _ => by exact (pe_cmpR op_eq (pe_fldK (K' := K) (pv 1) rfl) pe_str (nomark _)))) pa_nil)))), by
  obtain ⟨a, xs, cs, rfl, ha, hn, hz, hc, q⟩ := h
  refine k_ret (k_cb (k_cons (k_lcR (I := H) (xs := xs) (val_var rfl) (fun i y _ => ∃ c, cs[i]? = some c ∧ y = .bl (isNum c)) (.refl H) (.inl (.inl ha)) (fun _ => rfl) (fun _ _ _ _ _ h => h) (by omega) (fun i x I2 H2 Q' hi e2 k => ?_) fun D ys I' H' e2 iD hD h1 hl r => ?_)))
  · obtain ⟨c, hcc⟩ := get_of_len hn hi
    obtain ⟨b, dx2, li2, ws, rfl, g2, _⟩ := (hc i x c hi hcc).at
    refine ⟨_, rfl, b, _, dx2, _, _, rfl, e2.hh _ _ g2, T.c_Expression, T.n_Expression_kind, rfl, rfl, ?_⟩
    rw [dS, kindNum]
    exact k _ I2 H2 (Ext.refl e2.ih) ⟨c, hcc, rfl⟩
  · have hy := list_of (hl.trans hn) r
    subst hy
    refine ⟨_, cs.map isNum, rfl, .inl (.inl (e2.ih _ _ (by rw [h1, List.map_map]; rfl))), ?_⟩
    have := q H' e2.hh
    rw [List.all_map]
    exact this⟩
theorem VAll_ints {I : Hp} : ∀ ns : List Int, VAll I (ns.map V.int) (ns.map Vbdcar.Val.int)
  | [] => .nil
  | n :: r => .cons (.int n) (VAll_ints r)
abbrev sp_constant : Sp := Sp2 fun u v H Q _ => ∃ (o : Nat) (ns : List Int) (xs : List V) (a : Addr), u = .str (Str.ofString (opName o)) ∧ o < 8 ∧ arity o ns.length ∧ (∀ n, n ∈ ns → n.natAbs ≤ 1000000000) ∧ v = .ref a ∧ H a = some (.lst xs) ∧ xs.length = ns.length ∧ (∀ (i : Nat) x n, xs[i]? = some x → ns[i]? = some n → ExpAt H x (.num n)) ∧ ∀ H', Same H H' → Q (match constOf o ns with | some k => .int k | none => .non) H'
theorem raw_int {o : Nat} {ns : List Int} {v : Val} (ho : o < 8) (ha : arity o ns.length) (h : raw o (ns.map Vbdcar.Val.int) = .ok v) : ∃ k, v = .int k := by
  cases v with
  | int k => exact ⟨k, rfl⟩
  | list l => exact absurd h ((apply_raw_ints ho ha).2 l)
abbrev n_constant : List Str := ["operation", "inner", "number", "expression"]
theorem sc_constant : FnScope n_constant ["operation", "inner"] (defScope s_constant) := ⟨rfl, rfl, rfl, by decide +kernel, rfl, by decide +kernel, by decide +kernel⟩
theorem d_constant (T : Tx w K mg)  : Def w K mg base 9 "constant" ["operation", "inner"] (sp_constant) :=
  mkDef2 T f_constant rfl rfl sc_constant rfl (fun _ _ _ _ _ _ us hl => match us, hl with | [_, _], _ => rfl) fun u v cdv A outer s H Q E hr h =>
  ⟨_, (pss_cons (ps_try_only rfl rfl ⟨rfl, by decide, .inl T.g_Failure⟩ tz (fun W pn xe tk _ => (pss_one (ps_set (i := 2) sc_constant.nd rfl (Or.inl rfl) (pe_cS (d_operate T) hr tk (pa_cons (pv 0) (pa_cons (pe_lc (own := [("expression", 3)]) (g := gName 3) (tt := tYes) rfl sc_constant.nd (pi_listK (K' := K) (pv 1)) (blkOk_by (N := n_constant) (sc := defScope s_constant) (by decide +kernel)) (fun _ _ _ _ _ => (pg_name (i := 3) sc_constant.nd rfl (Or.inl rfl))) (fun _ _ _ _ _ => pts_nil) (fun _ _ _ _ _ => by exact (pe_fldK (K' := K) (pv 3) rfl))) pa_nil)))))) (fun a oe cls d pn hz hf => (pss_one (ps_ret pe_non))))
  (pss_cons (ps_if (PW.pt (pw_or (pt_cmpR op_lt (pv 2) (pe_un un_neg (pe_gi T.k_MOST_NUMBER_folding)) (nomark _)) (pw_or1 (pt_cmpR op_gt (pv 2) (pe_gi T.k_MOST_NUMBER_folding) (nomark _))))) (pss_one (ps_ret pe_non)) pss_nil)
  (pss_one (ps_ret (pv 2))))), by
  obtain ⟨o, ns, xs, a, rfl, ho, har, hb, rfl, ha, hn, hc, q⟩ := h
  have hz : ns.length ≤ 8 := by rcases har with ⟨_, h⟩ | ⟨_, h⟩ | ⟨_, h⟩ <;> omega
  refine k_seq (k_set (k_callS (k_cons (k_var rfl (k_cons (k_lcR (I := H) (xs := xs) (val_var rfl) (fun i y _ => ∃ c, ns[i]? = some c ∧ y = .int c) (.refl H) (.inl (.inl ha)) (fun _ => rfl) (fun _ _ _ _ _ h => h) (by omega) (fun i x I2 H2 Q' hi e2 k => ?_) fun D ys I' H' e2 iD hD h1 hl r => ?_))))))
  · obtain ⟨c, hcc⟩ := get_of_len hn hi
    obtain ⟨b, dx2, li2, ws, rfl, g2, _⟩ := (hc i x c hi hcc).at
    exact ⟨_, rfl, b, _, dx2, _, _, rfl, e2.hh _ _ g2, T.c_Expression, T.n_Expression_number, rfl, k _ I2 H2 (Ext.refl e2.ih) ⟨c, hcc, rfl⟩⟩
  · have hy := list_of (hl.trans hn) r
    subst hy
    refine ⟨_, _, rfl, H', o, ns.map V.int, ns.map Vbdcar.Val.int, D, .refl H', rfl, rfl, e2.ih _ _ h1, VAll_ints ns, by rw [List.length_map]; exact har, fun v hv => ?_, ?_⟩
    · obtain ⟨n, hn, rfl⟩ := List.mem_map.mp hv
      have := hb n hn
      exact Nat.le_trans this (by decide)
    · cases hr : raw o (ns.map Vbdcar.Val.int) with
      | error k =>
        have hk : constOf o ns = none := by unfold constOf; rw [hr]
        rw [hk] at q
        exact fun I2 H2 e3 d hd => ⟨true, T.x_Failure.te, fun _ _ _ => q _ (Same.trans (Same.trans e2.hh e3.hh) (Same.new hd)), fun z => nomatch z⟩
      | ok v =>
        obtain ⟨k, rfl⟩ := raw_int ho har hr
        intro u I2 H2 e3 hu
        cases hu
        have hk : constOf o ns = if k < -1000000000 ∨ 1000000000 < k then none else some k := by unfold constOf; rw [hr]
        rw [hk] at q
        have q := q H2 (Same.trans e2.hh e3.hh)
        refine ⟨_, rfl, _, rfl, _, _, rfl, rfl, _, rfl, ?_⟩
        by_cases k1 : k < -1000000000
        · rw [if_pos (.inl k1)] at q
          rw [decide_eq_true k1]
          exact q
        · rw [decide_eq_false k1]
          refine iteF ⟨_, rfl, _, _, rfl, rfl, _, rfl, ?_⟩
          by_cases k2 : 1000000000 < k
          · rw [if_pos (.inr k2)] at q
            rw [decide_eq_true k2]
            exact q
          · rw [if_neg (by omega)] at q
            rw [decide_eq_false k2]
            exact ⟨_, rfl, q⟩⟩

theorem Ext.from_all {I H H1 I2 H2 : Hp} (s : Same I H) (t : Same H H1) (e : Ext I H1 I2 H2) : Ext I H I2 H2 := (Ext.all s t).trans e
/-- the parts of a rebuilt expression -/
theorem word_rebuild (e : Exp) (cs : List Exp) : wordOf (rebuild e cs) = wordOf e := by
  unfold rebuild; split <;> rfl
abbrev PartsAt (I : Hp) (xs : List V) (cs : List Exp) : Prop := ∀ (i : Nat) x c, xs[i]? = some x → cs[i]? = some c → ExpAt I x c
theorem with_rebuild {I H H1 : Hp} {Q : VK} {E : XK} {e : Exp} {cs : List Exp} {u : V} {l : Addr} {xs : List V} (sI : Same I H) (s1 : Same H H1) (hu : ExpAt I u e) (hl : I l = some (.lst xs)) (hn : xs.length = cs.length) (hc : cs.length = (innerOf e).length) (hz : xs.length ≤ 8) (hp : PartsAt I xs cs) (q : RetE I H Q (rebuild e cs)) : sp_with_inner [u, .ref l] H1 Q E :=
  ⟨u, .ref l, rfl, I, e, rebuild e cs, l, xs, Same.trans sI s1, hu, rfl, hl, kind_rebuild e cs, word_rebuild e cs, num_rebuild e cs, by rw [inner_rebuild hc]; exact hn, hz, by rw [inner_rebuild hc]; exact hp, fun u' I' H' e' h' => q u' I' H' (Ext.from_all sI s1 e') h'⟩
theorem inFolded : ∀ o : Nat, o ≤ 20 → inV (.str (Str.ofString (opName o))) c_FOLDED = decide (o < 8) := by decide +kernel
theorem flatFolded : c_FOLDED.all flatV = true := by decide +kernel
theorem arity_le {o n : Nat} (h : arity o n) : o ≤ 20 := by rcases h with ⟨h, _⟩ | ⟨h, _⟩ | ⟨h, _⟩ <;> omega
theorem all_nums : ∀ cs : List Exp, cs.all isNum = true → ∀ (i : Nat) n c, cs[i]? = some c → (numsOf cs)[i]? = some n → c = .num n := by
  intro cs h i n c h1 h2
  rw [numsOf, List.getElem?_map, h1] at h2
  have h3 := List.all_eq_true.mp h c (List.mem_of_getElem? h1)
  cases c with
  | num k => cases h2; rfl
  | _ => exact absurd h3 (by simp [isNum])
abbrev sp_folded_operation : Sp := Sp2 fun u v H Q _ => ∃ (I : Hp) (o : Nat) (l : Vbdcar.Exps) (cs : List Exp) (xs : List V) (a : Addr), Same I H ∧ ExpAt I u (.op o l) ∧ arity o cs.length ∧ cs.length = l.list.length ∧ v = .ref a ∧ I a = some (.lst xs) ∧ xs.length = cs.length ∧ PartsAt I xs cs ∧ (∀ n, .num n ∈ cs → n.natAbs ≤ 1000000000) ∧ RetE I H Q (fdWith (.op o l) cs)
abbrev n_folded_operation : List Str := ["expression", "inner", "number"]
theorem sc_folded_operation : FnScope n_folded_operation ["expression", "inner"] (defScope s_folded_operation) := ⟨rfl, rfl, rfl, by decide +kernel, rfl, by decide +kernel, by decide +kernel⟩
theorem d_folded_operation (T : Tx w K mg)  : Def w K mg base 10 "folded_operation" ["expression", "inner"] (sp_folded_operation) :=
  mkDef2 T f_folded_operation rfl rfl sc_folded_operation rfl (fun _ _ _ _ _ _ us hl => match us, hl with | [_, _], _ => rfl) fun u v cdv A outer s H Q E hr h =>
  ⟨_, (pss_cons (ps_if (PW.pt (pw_and (pt_cmpR op_in_seq (pe_fld (pv 0) rfl) (pe_gr T.k_FOLDED) (by rfl)) (pw_and1 (pt_val (pe_c (d_are_numbers T) hr pz (pa_cons (pv 1) pa_nil)))))) (pss_cons (ps_set (i := 2) sc_folded_operation.nd rfl (Or.inl rfl) (pe_c (d_constant T) hr pz (pa_cons (pe_fld (pv 0) rfl) (pa_cons (pv 1) pa_nil))))
  (pss_one (ps_if (pt_cmpR op_notN (pv 2) pe_non (nomark _)) (pss_one (ps_ret (pe_c (d_number_expression T) hr pz (pa_cons (pv 2) pa_nil)))) pss_nil))) pss_nil)
  (pss_one (ps_ret (pe_c (d_with_inner T) hr pz (pa_cons (pv 0) (pa_cons (pv 1) pa_nil)))))), by
  obtain ⟨I, o, l, cs, xs, a, sI, hu, har, hcl, rfl, ha, hn, hp, hb, q⟩ := h
  have hz : xs.length ≤ 8 := by rcases har with ⟨_, h⟩ | ⟨_, h⟩ | ⟨_, h⟩ <;> omega
  obtain ⟨b, dx, li, ys, rfl, g2, _⟩ := id hu.at
  have g2 := sI _ _ g2
  have reb : ∀ H1, Same H H1 → fdWith (.op o l) cs = rebuild (.op o l) cs → sp_with_inner [.ref b, .ref a] H1 Q E := fun H1 s1 e => with_rebuild sI s1 hu ha hn hcl hz hp (by rw [e] at q; exact q)
  refine k_seq (k_if ⟨_, rfl, b, _, dx, _, _, rfl, g2, T.c_Expression, T.n_Expression_word, rfl, _, _, rfl, .inr (T.t_FOLDED H), rfl, flatFolded, _, rfl, ?_⟩)
  show if inV (.str (Str.ofString (opName o))) c_FOLDED = true then _ else _
  rw [inFolded o (arity_le har)]
  by_cases ho : o < 8
  · rw [decide_eq_true ho]
    refine iteT ⟨_, rfl, _, rfl, a, xs, cs, rfl, sI _ _ ha, hn, hz, fun i x c h1 h2 => (hp i x c h1 h2).mono sI, fun H1 s1 => ⟨_, rfl, ?_⟩⟩
    cases hall : cs.all isNum with
    | false =>
      refine iteF ⟨_, rfl, _, rfl, reb H1 s1 ?_⟩
      simp [fdWith, hall]
    | true =>
      have hnl : (numsOf cs).length = cs.length := by simp [numsOf]
      refine iteT ⟨_, rfl, b, _, dx, _, _, rfl, s1 _ _ g2, T.c_Expression, T.n_Expression_word, rfl, _, rfl, _, _, rfl, o, numsOf cs, xs, a, rfl, ho, by rw [hnl]; exact har, fun n hm => ?_, rfl, s1 _ _ (sI _ _ ha), by rw [hnl]; exact hn, fun i x n h1 h2 => ?_, fun H2 s2 => ?_⟩
      · obtain ⟨c, hc, rfl⟩ := List.mem_map.mp hm
        have := List.all_eq_true.mp hall c hc
        cases c with
        | num k => exact hb k hc
        | _ => exact absurd this (by simp [isNum])
      · obtain ⟨c, hc⟩ := get_of_len hn h1
        rw [← all_nums cs hall i n c hc h2]
        exact (hp i x c h1 hc).mono (Same.trans sI s1)
      · have s12 := Same.trans s1 s2
        cases hk : constOf o (numsOf cs) with
        | none =>
          exact ⟨_, rfl, rfl, _, rfl, iteF ⟨_, rfl, _, rfl, reb H2 s12 (by simp [fdWith, hall, ho, hk])⟩⟩
        | some k =>
          have e : fdWith (.op o l) cs = .num k := by simp [fdWith, hall, ho, hk]
          rw [e] at q
          exact ⟨_, rfl, rfl, _, rfl, iteT ⟨_, rfl, _, rfl, I, k, Same.trans sI s12, rfl, fun u' I' H' e' h' => q u' I' H' (Ext.from_all sI s12 e') h'⟩⟩
  · rw [decide_eq_false ho]
    exact iteF ⟨_, rfl, _, rfl, reb H (.refl H) (by simp [fdWith, ho])⟩⟩

theorem retE {I H : Hp} {Q : VK} {u : V} {e : Exp} (s : Same I H) (h : ExpAt I u e) (q : RetE I H Q e) : Q u H := q u I H (.refl s) h
abbrev sp_folded_choice : Sp := Sp2 fun u v H Q _ => ∃ (I : Hp) (e : Exp) (cs : List Exp) (xs : List V) (a : Addr), Same I H ∧ ExpAt I u e ∧ isChoice e = true ∧ cs.length = (innerOf e).length ∧ v = .ref a ∧ I a = some (.lst xs) ∧ xs.length = cs.length ∧ PartsAt I xs cs ∧ RetE I H Q (fdWith e cs)
abbrev n_folded_choice : List Str := ["expression", "inner", "is_true"]
theorem sc_folded_choice : FnScope n_folded_choice ["expression", "inner"] (defScope s_folded_choice) := ⟨rfl, rfl, rfl, by decide +kernel, rfl, by decide +kernel, by decide +kernel⟩
theorem d_folded_choice (T : Tx w K mg)  : Def w K mg base 10 "folded_choice" ["expression", "inner"] (sp_folded_choice) :=
  mkDef2 T f_folded_choice rfl rfl sc_folded_choice rfl (fun _ _ _ _ _ _ us hl => match us, hl with | [_, _], _ => rfl) fun u v cdv A outer s H Q E hr h =>
  ⟨_, (pss_cons (ps_if (pt_cmpR op_ne (pe_fld (pe_ix ix_list (pv 1) pe_int (fun _ _ => rfl)) rfl) pe_str (nomark _)) (pss_one (ps_ret (pe_c (d_with_inner T) hr pz (pa_cons (pv 0) (pa_cons (pv 1) pa_nil))))) pss_nil)
  (pss_cons (ps_set (i := 2) sc_folded_choice.nd rfl (Or.inl rfl) (pe_cmpR op_ne (pe_fld (pe_ix ix_list (pv 1) pe_int (fun _ _ => rfl)) rfl) pe_int (nomark _)))
  (pss_cons (ps_if (pt_cmpR op_eq (pe_fld (pv 0) rfl) pe_str (nomark _)) (pss_cons (ps_if (pt_val (pv 2)) (pss_one (ps_ret (pe_ix ix_list (pv 1) pe_int (fun _ _ => rfl)))) pss_nil)
  (pss_one (ps_ret (pe_ix ix_list (pv 1) pe_int (fun _ _ => rfl))))) pss_nil)
  (pss_cons (ps_if (PW.pt (pw_and (pt_cmpR op_eq (pe_fld (pv 0) rfl) pe_str (nomark _)) (pw_and1 (pt_not (pt_val (pv 2)))))) (pss_one (ps_ret (pe_c (d_number_expression T) hr pz (pa_cons pe_int pa_nil)))) pss_nil)
  (pss_cons (ps_if (PW.pt (pw_and (pt_cmpR op_eq (pe_fld (pv 0) rfl) pe_str (nomark _)) (pw_and1 (pt_val (pv 2))))) (pss_one (ps_ret (pe_c (d_number_expression T) hr pz (pa_cons pe_int pa_nil)))) pss_nil)
  (pss_one (ps_ret (pe_c (d_with_inner T) hr pz (pa_cons (pv 0) (pa_cons (pv 1) pa_nil)))))))))), by
  obtain ⟨I, e, cs, xs, a, sI, hu, hch, hcl, rfl, ha, hn, hp, q⟩ := h
  obtain ⟨b, dx, li, ys, rfl, g2, g3, g4, g5, _⟩ := id hu.at
  have hz : xs.length ≤ 8 := by omega
  have g2 := sI _ _ g2
  have reb : fdWith e cs = rebuild e cs → sp_with_inner [.ref b, .ref a] H Q E := fun e1 => with_rebuild sI (.refl H) hu ha hn hcl hz hp (by rw [e1] at q; exact q)
  cases e with
  | ite q1 q2 q3 =>
    obtain ⟨c0, c1, c2, rfl⟩ := len3 hcl
    obtain ⟨x0, x1, x2, rfl⟩ := len3 hn
    have p0 := hp 0 x0 c0 rfl rfl
    obtain ⟨b0, dx0, li0, ws, rfl, g0, _⟩ := id p0.at
    have g0 := sI _ _ g0
    have hl : SqL K H a [.ref b0, x1, x2] := .inl (.inl (sI _ _ ha))
    refine k_sifN (⟨_, rfl, _, _, _, _, rfl, rfl, hl, rfl, b0, _, dx0, _, _, rfl, g0, T.c_Expression, T.n_Expression_kind, rfl, rfl, _, rfl, ?_⟩)
    rw [dS, kindNum]
    cases h0 : isNum c0 with
    | false => exact iteT ⟨_, rfl, _, rfl, reb (by simp [fdWith, h0])⟩
    | true =>
      refine iteF <| k_sset ?_
      refine ⟨_, rfl, _, _, _, _, rfl, rfl, hl, rfl, b0, _, dx0, _, _, rfl, g0, T.c_Expression, T.n_Expression_number, rfl, rfl, ?_⟩
      rw [dI]
      refine k_sifN (⟨_, rfl, b, _, dx, _, _, rfl, g2, T.c_Expression, T.n_Expression_kind, rfl, rfl, _, rfl, iteS (a := "if") true (by decide +kernel) (iteT ?_)⟩)
      by_cases hz0 : numOf c0 = 0
      · rw [decide_eq_true hz0]
        exact k_sifN (⟨_, rfl, _, rfl, iteF ⟨_, rfl, _, _, _, _, rfl, rfl, hl, rfl, retE sI (hp 2 x2 c2 rfl rfl) (by simpa [fdWith, h0, hz0] using q)⟩⟩)
      · rw [decide_eq_false hz0]
        exact k_sifN (⟨_, rfl, _, rfl, iteT ⟨_, rfl, _, _, _, _, rfl, rfl, hl, rfl, retE sI (hp 1 x1 c1 rfl rfl) (by simpa [fdWith, h0, hz0] using q)⟩⟩)
  | and_ q1 q2 =>
    obtain ⟨c0, c1, rfl⟩ := len2 hcl
    obtain ⟨x0, x1, rfl⟩ := len2 hn
    have p0 := hp 0 x0 c0 rfl rfl
    obtain ⟨b0, dx0, li0, ws, rfl, g0, _⟩ := id p0.at
    have g0 := sI _ _ g0
    have hl : SqL K H a [.ref b0, x1] := .inl (.inl (sI _ _ ha))
    refine k_sifN (⟨_, rfl, _, _, _, _, rfl, rfl, hl, rfl, b0, _, dx0, _, _, rfl, g0, T.c_Expression, T.n_Expression_kind, rfl, rfl, _, rfl, ?_⟩)
    rw [dS, kindNum]
    cases h0 : isNum c0 with
    | false => exact iteT ⟨_, rfl, _, rfl, reb (by simp [fdWith, h0])⟩
    | true =>
      refine iteF <| k_sset ?_
      refine ⟨_, rfl, _, _, _, _, rfl, rfl, hl, rfl, b0, _, dx0, _, _, rfl, g0, T.c_Expression, T.n_Expression_number, rfl, rfl, ?_⟩
      rw [dI]
      refine k_sifN (⟨_, rfl, b, _, dx, _, _, rfl, g2, T.c_Expression, T.n_Expression_kind, rfl, rfl, _, rfl, iteS (a := "and") false (by decide +kernel) (iteF (?_))⟩)
      by_cases hz0 : numOf c0 = 0
      · rw [decide_eq_true hz0]
        refine k_sifN (⟨_, rfl, b, _, dx, _, _, rfl, g2, T.c_Expression, T.n_Expression_kind, rfl, rfl, _, rfl, iteS (a := "and") true (by decide +kernel) (iteT ⟨_, rfl, _, rfl, iteT ⟨_, rfl, I, 0, sI, rfl, ?_⟩⟩)⟩)
        simpa [fdWith, h0, hz0] using q
      · rw [decide_eq_false hz0]
        refine k_sifN (⟨_, rfl, b, _, dx, _, _, rfl, g2, T.c_Expression, T.n_Expression_kind, rfl, rfl, _, rfl, iteS (a := "and") true (by decide +kernel) (iteT ⟨_, rfl, _, rfl, iteF (?_)⟩)⟩)
        refine k_sifN (⟨_, rfl, b, _, dx, _, _, rfl, g2, T.c_Expression, T.n_Expression_kind, rfl, rfl, _, rfl, iteS (a := "and") false (by decide +kernel) (iteF (⟨_, rfl, _, rfl, reb (by simp [fdWith, h0, hz0])⟩))⟩)
  | or_ q1 q2 =>
    obtain ⟨c0, c1, rfl⟩ := len2 hcl
    obtain ⟨x0, x1, rfl⟩ := len2 hn
    have p0 := hp 0 x0 c0 rfl rfl
    obtain ⟨b0, dx0, li0, ws, rfl, g0, _⟩ := id p0.at
    have g0 := sI _ _ g0
    have hl : SqL K H a [.ref b0, x1] := .inl (.inl (sI _ _ ha))
    refine k_sifN (⟨_, rfl, _, _, _, _, rfl, rfl, hl, rfl, b0, _, dx0, _, _, rfl, g0, T.c_Expression, T.n_Expression_kind, rfl, rfl, _, rfl, ?_⟩)
    rw [dS, kindNum]
    cases h0 : isNum c0 with
    | false => exact iteT ⟨_, rfl, _, rfl, reb (by simp [fdWith, h0])⟩
    | true =>
      refine iteF <| k_sset ?_
      refine ⟨_, rfl, _, _, _, _, rfl, rfl, hl, rfl, b0, _, dx0, _, _, rfl, g0, T.c_Expression, T.n_Expression_number, rfl, rfl, ?_⟩
      rw [dI]
      refine k_sifN (⟨_, rfl, b, _, dx, _, _, rfl, g2, T.c_Expression, T.n_Expression_kind, rfl, rfl, _, rfl, iteS (a := "or") false (by decide +kernel) (iteF (?_))⟩)
      by_cases hz0 : numOf c0 = 0
      · rw [decide_eq_true hz0]
        refine k_sifN (⟨_, rfl, b, _, dx, _, _, rfl, g2, T.c_Expression, T.n_Expression_kind, rfl, rfl, _, rfl, iteS (a := "or") false (by decide +kernel) (iteF (?_))⟩)
        exact k_sifN (⟨_, rfl, b, _, dx, _, _, rfl, g2, T.c_Expression, T.n_Expression_kind, rfl, rfl, _, rfl, iteS (a := "or") true (by decide +kernel) (iteT ⟨_, rfl, _, rfl, iteF (⟨_, rfl, _, rfl, reb (by simp [fdWith, h0, hz0])⟩)⟩)⟩)
      · rw [decide_eq_false hz0]
        refine k_sifN (⟨_, rfl, b, _, dx, _, _, rfl, g2, T.c_Expression, T.n_Expression_kind, rfl, rfl, _, rfl, iteS (a := "or") false (by decide +kernel) (iteF (?_))⟩)
        refine k_sifN (⟨_, rfl, b, _, dx, _, _, rfl, g2, T.c_Expression, T.n_Expression_kind, rfl, rfl, _, rfl, iteS (a := "or") true (by decide +kernel) (iteT ⟨_, rfl, _, rfl, iteT ⟨_, rfl, I, 1, sI, rfl, ?_⟩⟩)⟩)
        simpa [fdWith, h0, hz0] using q
  | num _ => cases hch
  | var _ => cases hch
  | let_ _ _ _ => cases hch
  | each _ _ _ => cases hch
  | keep _ _ _ => cases hch
  | op _ _ => cases hch
  | call _ _ => cases hch⟩

abbrev sp_folded (d : Nat) : Sp := Sp1 fun u H Q _ => ∃ (I : Hp) (e : Exp), deep e < d ∧ Same I H ∧ FOk e ∧ ExpAt I u e ∧ RetE I H Q (Vbdcar.fold e)
theorem parts_map {I : Hp} {f : Exp → Exp} {ys : List V} {cs : List Exp} (r : ∀ (i : Nat) y, ys[i]? = some y → ∃ c, cs[i]? = some c ∧ ExpAt I y (f c)) : PartsAt I ys (cs.map f) := by
  intro i x c h1 h2
  obtain ⟨c0, h3, h4⟩ := r i x h1
  rw [List.getElem?_map, h3] at h2
  cases h2
  exact h4
theorem fold_num {e : Exp} {n : Int} (h : FOk e) (he : Vbdcar.fold e = .num n) : n.natAbs ≤ 1000000000 := by
  have := fok_fold h
  rw [he] at this
  cases this with | mk hn _ _ _ => exact hn n rfl
abbrev n_folded : List Str := ["expression", "inner", "other"]
theorem sc_folded : FnScope n_folded ["expression"] (defScope s_folded) := ⟨rfl, rfl, rfl, by decide +kernel, rfl, by decide +kernel, by decide +kernel⟩
theorem e_folded (T : Tx w K mg) {d : Nat} (h10 : 10 ≤ k) (ih : Def w K mg base k "folded" ["expression"] (sp_folded d)) : Def w K mg base (k+1) "folded" ["expression"] (sp_folded (d+1)) :=
  mkDef1 T f_folded rfl rfl sc_folded rfl (fun _ _ _ _ _ _ us hl => match us, hl with | [_], _ => rfl) fun u cdv A outer s H Q E hr h =>
  ⟨_, (pss_cons (ps_setLc (i := 1) (own := [("other", 2)]) (g := gName 2) (tt := tYes) rfl sc_folded.nd rfl rfl (sw_true rfl rfl rfl (by decide +kernel)) (pi_list (pe_fld (pv 0) rfl)) (blkOk_by (N := n_folded) (sc := defScope s_folded) (by decide +kernel)) (fun _ _ _ _ _ => (pg_name (i := 2) sc_folded.nd rfl (Or.inl rfl))) (fun _ _ _ _ _ => pts_nil) (fun _ _ _ _ _ => by exact (pe_c (hk := by omega) ih hr passL (pa_cons (pv 2) pa_nil))))
  (pss_cons (ps_if (pt_cmpR op_eq (pe_fld (pv 0) rfl) pe_str (nomark _)) (pss_one (ps_ret (pe_c (hk := by omega) (d_folded_operation T) hr pz (pa_cons (pv 0) (pa_cons (pv 1) pa_nil))))) pss_nil)
  (pss_cons (ps_if (PW.pt (pw_or (pt_cmpR op_eq (pe_fld (pv 0) rfl) pe_str (nomark _)) (pw_or (pt_cmpR op_eq (pe_fld (pv 0) rfl) pe_str (nomark _)) (pw_or1 (pt_cmpR op_eq (pe_fld (pv 0) rfl) pe_str (nomark _)))))) (pss_one (ps_ret (pe_c (hk := by omega) (d_folded_choice T) hr pz (pa_cons (pv 0) (pa_cons (pv 1) pa_nil))))) pss_nil)
  (pss_one (ps_ret (pe_c (hk := by omega) (d_with_inner T) hr pz (pa_cons (pv 0) (pa_cons (pv 1) pa_nil)))))))), by
  obtain ⟨I, e, hd, sI, hf, hu, q⟩ := h
  obtain ⟨a, dx, li, xs, rfl, ha, hl, hn, hz, hc⟩ := id hu.at
  rw [fold_eq hf] at q
  refine k_sset (k_lcR (I := I) (xs := xs) (val_fld (val_var rfl) (sI _ _ ha) T.c_Expression T.n_Expression_inner rfl) (fun i y J => ∃ c, (innerOf e)[i]? = some c ∧ ExpAt J y (Vbdcar.fold c)) sI (.inl (.inl (sI _ _ hl))) (fun _ => rfl) (fun i y J J' s h => by obtain ⟨c, h1, h2⟩ := h; exact ⟨c, h1, h2.mono s⟩) (by omega) (fun i x I2 H2 Q' hi e2 k => ?_) fun D ys I' H' e2 iD hD h1 h2 r => ?_)
  · obtain ⟨c, hcc⟩ := get_of_len hn hi
    have hm := List.mem_of_getElem? hcc
    have hdc := deep_mem hm
    cases hf with | mk _ _ _ hfc =>
    exact ⟨_, rfl, _, rfl, I2, c, by omega, e2.ih, hfc c hm, (hc i x c hi hcc).mono e2.ii, fun u4 I4 H4 e4 h4 => k _ I4 H4 e4 ⟨c, hcc, h4⟩⟩
  · have hp := parts_map r
    have hu2 := hu.mono e2.ii
    have ha2 := e2.si _ _ ha
    have hcl : ((innerOf e).map Vbdcar.fold).length = (innerOf e).length := by simp
    have hyl : ys.length = ((innerOf e).map Vbdcar.fold).length := by rw [hcl]; omega
    have q2 : RetE I' H' Q (fdWith e ((innerOf e).map Vbdcar.fold)) := fun u3 I3 H3 e3 h3 => q u3 I3 H3 (e2.trans e3) h3
    have reb : fdWith e ((innerOf e).map Vbdcar.fold) = rebuild e ((innerOf e).map Vbdcar.fold) → sp_with_inner [.ref a, .ref D] H' Q E := fun e1 => with_rebuild e2.ih (.refl H') hu2 h1 hyl hcl (by omega) hp (by rw [e1] at q2; exact q2)
    have cho : isChoice e = true → sp_folded_choice [.ref a, .ref D] H' Q E := fun hch => ⟨_, _, rfl, I', e, _, ys, D, e2.ih, hu2, hch, hcl, rfl, h1, hyl, hp, q2⟩
    refine k_sifN ⟨_, rfl, a, _, dx, _, _, rfl, ha2, T.c_Expression, T.n_Expression_kind, rfl, rfl, _, rfl, ?_⟩
    cases e with
    | op o l =>
      refine iteS (a := "operation") true (by decide +kernel) (iteT ⟨_, rfl, _, rfl, _, _, rfl, I', o, l, _, ys, D, e2.ih, hu2, ?_, hcl, rfl, h1, hyl, hp, ?_, q2⟩)
      · rw [hcl]; cases hf with | mk _ ho _ _ => exact ho o l rfl
      · intro n hm
        obtain ⟨c, hm, e3⟩ := List.mem_map.mp hm
        cases hf with | mk _ _ _ hfc => exact fold_num (hfc c hm) e3
    | ite _ _ _ =>
      refine iteS (a := "if") false (by decide +kernel) (iteF (k_sifN ⟨_, rfl, a, _, dx, _, _, rfl, ha2, T.c_Expression, T.n_Expression_kind, rfl, rfl, _, rfl, ?_⟩))
      exact iteS (a := "if") true (by decide +kernel) (iteT (iteT ⟨_, rfl, _, rfl, cho rfl⟩))
    | and_ _ _ =>
      refine iteS (a := "and") false (by decide +kernel) (iteF (k_sifN ⟨_, rfl, a, _, dx, _, _, rfl, ha2, T.c_Expression, T.n_Expression_kind, rfl, rfl, _, rfl, ?_⟩))
      refine iteS (a := "and") false (by decide +kernel) (iteF ⟨_, rfl, a, _, dx, _, _, rfl, ha2, T.c_Expression, T.n_Expression_kind, rfl, rfl, _, rfl, ?_⟩)
      exact iteS (a := "and") true (by decide +kernel) (iteT (iteT ⟨_, rfl, _, rfl, cho rfl⟩))
    | or_ _ _ =>
      refine iteS (a := "or") false (by decide +kernel) (iteF (k_sifN ⟨_, rfl, a, _, dx, _, _, rfl, ha2, T.c_Expression, T.n_Expression_kind, rfl, rfl, _, rfl, ?_⟩))
      refine iteS (a := "or") false (by decide +kernel) (iteF ⟨_, rfl, a, _, dx, _, _, rfl, ha2, T.c_Expression, T.n_Expression_kind, rfl, rfl, _, rfl, ?_⟩)
      refine iteS (a := "or") false (by decide +kernel) (iteF ⟨_, rfl, a, _, dx, _, _, rfl, ha2, T.c_Expression, T.n_Expression_kind, rfl, rfl, _, rfl, ?_⟩)
      exact iteS (a := "or") true (by decide +kernel) (iteT ⟨_, rfl, _, rfl, cho rfl⟩)
    | num _ =>
      refine iteS (a := "number") false (by decide +kernel) (iteF (k_sifN ⟨_, rfl, a, _, dx, _, _, rfl, ha2, T.c_Expression, T.n_Expression_kind, rfl, rfl, _, rfl, ?_⟩))
      refine iteS (a := "number") false (by decide +kernel) (iteF ⟨_, rfl, a, _, dx, _, _, rfl, ha2, T.c_Expression, T.n_Expression_kind, rfl, rfl, _, rfl, ?_⟩)
      refine iteS (a := "number") false (by decide +kernel) (iteF ⟨_, rfl, a, _, dx, _, _, rfl, ha2, T.c_Expression, T.n_Expression_kind, rfl, rfl, _, rfl, ?_⟩)
      exact iteS (a := "number") false (by decide +kernel) (iteF ⟨_, rfl, _, rfl, reb rfl⟩)
    | var _ =>
      refine iteS (a := "variable") false (by decide +kernel) (iteF (k_sifN ⟨_, rfl, a, _, dx, _, _, rfl, ha2, T.c_Expression, T.n_Expression_kind, rfl, rfl, _, rfl, ?_⟩))
      refine iteS (a := "variable") false (by decide +kernel) (iteF ⟨_, rfl, a, _, dx, _, _, rfl, ha2, T.c_Expression, T.n_Expression_kind, rfl, rfl, _, rfl, ?_⟩)
      refine iteS (a := "variable") false (by decide +kernel) (iteF ⟨_, rfl, a, _, dx, _, _, rfl, ha2, T.c_Expression, T.n_Expression_kind, rfl, rfl, _, rfl, ?_⟩)
      exact iteS (a := "variable") false (by decide +kernel) (iteF ⟨_, rfl, _, rfl, reb rfl⟩)
    | let_ _ _ _ =>
      refine iteS (a := "let") false (by decide +kernel) (iteF (k_sifN ⟨_, rfl, a, _, dx, _, _, rfl, ha2, T.c_Expression, T.n_Expression_kind, rfl, rfl, _, rfl, ?_⟩))
      refine iteS (a := "let") false (by decide +kernel) (iteF ⟨_, rfl, a, _, dx, _, _, rfl, ha2, T.c_Expression, T.n_Expression_kind, rfl, rfl, _, rfl, ?_⟩)
      refine iteS (a := "let") false (by decide +kernel) (iteF ⟨_, rfl, a, _, dx, _, _, rfl, ha2, T.c_Expression, T.n_Expression_kind, rfl, rfl, _, rfl, ?_⟩)
      exact iteS (a := "let") false (by decide +kernel) (iteF ⟨_, rfl, _, rfl, reb rfl⟩)
    | each _ _ _ =>
      refine iteS (a := "each") false (by decide +kernel) (iteF (k_sifN ⟨_, rfl, a, _, dx, _, _, rfl, ha2, T.c_Expression, T.n_Expression_kind, rfl, rfl, _, rfl, ?_⟩))
      refine iteS (a := "each") false (by decide +kernel) (iteF ⟨_, rfl, a, _, dx, _, _, rfl, ha2, T.c_Expression, T.n_Expression_kind, rfl, rfl, _, rfl, ?_⟩)
      refine iteS (a := "each") false (by decide +kernel) (iteF ⟨_, rfl, a, _, dx, _, _, rfl, ha2, T.c_Expression, T.n_Expression_kind, rfl, rfl, _, rfl, ?_⟩)
      exact iteS (a := "each") false (by decide +kernel) (iteF ⟨_, rfl, _, rfl, reb rfl⟩)
    | keep _ _ _ =>
      refine iteS (a := "keep") false (by decide +kernel) (iteF (k_sifN ⟨_, rfl, a, _, dx, _, _, rfl, ha2, T.c_Expression, T.n_Expression_kind, rfl, rfl, _, rfl, ?_⟩))
      refine iteS (a := "keep") false (by decide +kernel) (iteF ⟨_, rfl, a, _, dx, _, _, rfl, ha2, T.c_Expression, T.n_Expression_kind, rfl, rfl, _, rfl, ?_⟩)
      refine iteS (a := "keep") false (by decide +kernel) (iteF ⟨_, rfl, a, _, dx, _, _, rfl, ha2, T.c_Expression, T.n_Expression_kind, rfl, rfl, _, rfl, ?_⟩)
      exact iteS (a := "keep") false (by decide +kernel) (iteF ⟨_, rfl, _, rfl, reb rfl⟩)
    | call _ _ =>
      refine iteS (a := "call") false (by decide +kernel) (iteF (k_sifN ⟨_, rfl, a, _, dx, _, _, rfl, ha2, T.c_Expression, T.n_Expression_kind, rfl, rfl, _, rfl, ?_⟩))
      refine iteS (a := "call") false (by decide +kernel) (iteF ⟨_, rfl, a, _, dx, _, _, rfl, ha2, T.c_Expression, T.n_Expression_kind, rfl, rfl, _, rfl, ?_⟩)
      refine iteS (a := "call") false (by decide +kernel) (iteF ⟨_, rfl, a, _, dx, _, _, rfl, ha2, T.c_Expression, T.n_Expression_kind, rfl, rfl, _, rfl, ?_⟩)
      exact iteS (a := "call") false (by decide +kernel) (iteF ⟨_, rfl, _, rfl, reb rfl⟩)⟩
theorem f0_folded (T : Tx w K mg) : Def w K mg base 1 "folded" ["expression"] (fun _ _ _ _ => False) := mkDef T f_folded rfl rfl sc_folded (fun _ _ _ _ _ _ us hl => match us, hl with | [_], _ => rfl) (fun _ _ _ _ h => h.elim) fun _ _ _ _ _ _ _ _ _ h => h.elim
theorem d_folded (T : Tx w K mg) : ∀ d : Nat, Def w K mg base (d + 10) "folded" ["expression"] (sp_folded d)
  | 0 => ((f0_folded T).imp fun _ _ _ _ ⟨_, _, _, _, h, _⟩ => absurd h (Nat.not_lt_zero _)).mono (by decide)
  | d + 1 => e_folded T (by omega) (d_folded T d)
end
/-! ## a list that grows by append -/
structure Acc (I H : Hp) (D : Addr) (R : Nat → V → Hp → Prop) (i : Nat) (I' H' : Hp) : Prop where
  ext : Ext I H I' H'
  new : H D = none
  free : I' D = none
  at_ : ∃ ys, H' D = some (.lst ys) ∧ ys.length = i ∧ ∀ (j : Nat) y, ys[j]? = some y → R j y I'
section
variable {I H I' H' I2 H2 : Hp} {D : Addr} {R : Nat → V → Hp → Prop} {i n : Nat} {y : V}
theorem Acc.start (s : Same I H) (h : H D = none) : Acc I H D R 0 I (upd H D (.lst [])) :=
  ⟨(Ext.refl s).tmp h, h, s.free h, [], upd_same, rfl, fun j y e => by simp at e⟩
theorem Acc.step (A : Acc I H D R i I' H') (e : Ext I' H' I2 H2) (mono : ∀ j z J J', Same J J' → R j z J → R j z J') (r : R i y I2) : ∃ ys, H2 D = some (.lst ys) ∧ ys.length = i ∧ Acc I H D R (i + 1) I2 (upd H2 D (.lst (ys ++ [y]))) := by
  obtain ⟨ys, h1, h2, h3⟩ := A.at_
  have d2 : I2 D = none := by
    cases e4 : I2 D with
    | none => rfl
    | some o => exact absurd (e.fr D A.free (by rw [e4]; exact fun z => nomatch z)) (by rw [h1]; exact fun z => nomatch z)
  refine ⟨ys, e.hh _ _ h1, h2, (A.ext.trans e).mut A.new d2, A.new, d2, ys ++ [y], upd_same, by simp [h2], fun j z e5 => ?_⟩
  by_cases hk : j < ys.length
  · rw [List.getElem?_append_left hk] at e5
    exact mono _ _ _ _ e.ii (h3 j z e5)
  · rw [List.getElem?_append_right (by omega)] at e5
    have hk0 : j - ys.length = 0 := by
      have := (List.getElem?_eq_some_iff.mp e5).1
      simp at this
      omega
    rw [hk0] at e5
    have ez : z = y := by simpa using e5.symm
    have ek : j = i := by omega
    subst ez ek
    exact r
theorem Acc.done (A : Acc I H D R n I' H') (mono : ∀ j z J J', Same J J' → R j z J → R j z J') : ∃ ys I2, Ext I H I2 H' ∧ Same I' I2 ∧ I2 D = some (.lst ys) ∧ ys.length = n ∧ ∀ (j : Nat) y, ys[j]? = some y → R j y I2 := by
  obtain ⟨ys, h1, h2, h3⟩ := A.at_
  exact ⟨ys, _, A.ext.frz A.new A.free h1, Same.new A.free, upd_same, h2, fun j y e => mono _ _ _ _ (Same.new A.free) (h3 j y e)⟩
end
section
variable {w : World} {K : PySem.W.Frag} {mg : Str → Option Value} {base : Heap}
abbrev PFok (p : Vbdcar.Prog) : Prop := FOk p.main ∧ ∀ f, f ∈ p.funs → FOk f.body
abbrev sp_folded_program : Sp := Sp1 fun u H Q _ => ∃ (I : Hp) (p : Vbdcar.Prog), Same I H ∧ ProgAt I u p ∧ PDeep p ∧ PFok p ∧ ∀ u' I' H', Ext I H I' H' → ProgAt I' u' (Vbdcar.folded p) → Q u' H'
theorem Ext.noneI {I H I' H' : Hp} {D : Addr} (e : Ext I H I' H') (hi : I D = none) {o : HO} (h : H D = some o) : I' D = none := by
  cases e4 : I' D with
  | none => rfl
  | some o => exact absurd (e.fr D hi (by rw [e4]; exact fun z => nomatch z)) (by rw [h]; exact fun z => nomatch z)
abbrev n_folded_program : List Str := ["program", "functions", "function"]
theorem sc_folded_program : FnScope n_folded_program ["program"] (defScope s_folded_program) := ⟨rfl, rfl, rfl, by decide +kernel, rfl, by decide +kernel, by decide +kernel⟩
theorem d_folded_program (T : Tx w K mg)  : Def w K mg base 32 "folded_program" ["program"] (sp_folded_program) :=
  mkDef1 T f_folded_program rfl rfl sc_folded_program rfl (fun _ _ _ _ _ _ us hl => match us, hl with | [_], _ => rfl) fun u cdv A outer s H Q E hr h =>
  ⟨_, (pss_cons (ps_set (i := 1) sc_folded_program.nd rfl (Or.inl rfl) (pe_lst pa_nil))
  (pss_cons (ps_for (passes_of rfl) rfl (pi_list (pe_fld (pv 0) rfl)) (pg_name (i := 2) sc_folded_program.nd rfl (Or.inl rfl)) (pss_one (ps_expr (pe_bm PySem.F.plainAttrs_list PySem.F.slot_list_append PySem.F.type_list_append mt_append (pv 1) (pa_cons (pe_mk (m_Function T) hr pz (pa_cons (pe_fld (pv 2) rfl) (pa_cons (pe_fld (pv 2) rfl) (pa_cons (pe_c (d_folded T 21) hr pz (pa_cons (pe_fld (pv 2) rfl) pa_nil)) pa_nil)))) pa_nil)))))
  (pss_one (ps_ret (pe_mk (m_Program T) hr pz (pa_cons (pv 1) (pa_cons (pe_c (d_folded T 21) hr pz (pa_cons (pe_fld (pv 0) rfl) pa_nil)) pa_nil))))))), by
  obtain ⟨I, p, sI, hu, ⟨hm, hf⟩, ⟨om, of⟩, q⟩ := h
  obtain ⟨a, dx, li, ul, xs, rfl, h2, h3, h4, h5, h6, h7⟩ := hu.ex
  refine k_sset ⟨by rw [sizeLine_eq]; exact Nat.zero_le _, fun D hD => ?_⟩
  let R : Nat → V → Hp → Prop := fun i y J => ∃ f, p.funs[i]? = some f ∧ FunAt J y { f with body := Vbdcar.fold f.body }
  have mR : ∀ j z J J', Same J J' → R j z J → R j z J' := fun j z J J' s ⟨f, h1, h2⟩ => ⟨f, h1, h2.mono s⟩
  have sD : Same I (upd H D (.lst [])) := Same.put sI (sI.free hD)
  refine ⟨_, rfl, a, _, dx, _, _, rfl, sD _ _ h2, T.c_Program, T.n_Program_functions, rfl, li, rfl, ⟨xs, .inl (.inl (sD _ _ h3))⟩, ?_⟩
  refine for_list (xs := xs) (fun i σ H' => ∃ I', Acc I H D R i I' H' ∧ ∃ o, σ = [some (.ref a), some (.ref D), o]) ⟨I, Acc.start sI hD, _, rfl⟩ (fun i σ H' _ ⟨I', A, _⟩ => .inl (.inl (A.ext.si _ _ h3))) (fun i x σ H' hi ⟨I', A, o, e⟩ => ?_) fun σ H' ⟨I', A, o, e⟩ => ?_
  · subst e
    obtain ⟨f, hff⟩ := get_of_len h4 hi
    obtain ⟨b, dx2, li2, ub, rfl, g2, g3, g4⟩ := (h6 i x f hi hff).ex
    have g2' := A.ext.si _ _ g2
    have hmem := List.mem_of_getElem? hff
    obtain ⟨ys, hy, hyl, _⟩ := A.at_
    refine ⟨_, rfl, .inl ⟨rfl, ys, .inl (.inl hy)⟩, ?_⟩
    refine ⟨_, rfl, b, _, dx2, _, _, rfl, g2', T.c_Function, T.n_Function_name, rfl, _, rfl, b, _, dx2, _, _, rfl, g2', T.c_Function, T.n_Function_parameters, rfl, _, rfl, b, _, dx2, _, _, rfl, g2', T.c_Function, T.n_Function_body, rfl, _, rfl, I', f.body, hf f hmem, A.ext.ih, of f hmem, g4.mono A.ext.ii, fun u4 I4 H4 e4 h4' => ?_⟩
    refine fun x dx' hx hdx hne => ⟨x, dx', _, rfl, rfl, upd_same, rfl, ?_⟩
    rw [upd_upd]
    have e5 := e4.ins (o := .ins cFunction dx' [("name", .str (sB f.name)), ("parameters", .ref li2), ("body", u4)]) hx hdx hne
    have s5 := Same.new (o := HO.ins cFunction dx' [("name", .str (sB f.name)), ("parameters", .ref li2), ("body", u4)]) (e4.ih.free hx)
    have r5 : R i (.ref x) (upd I4 x (HO.ins cFunction dx' [("name", .str (sB f.name)), ("parameters", .ref li2), ("body", u4)])) := ⟨f, hff, ⟨x, dx', li2, u4, rfl, upd_same, s5 _ _ (e4.ii _ _ (A.ext.ii _ _ g3)), h4'.mono s5⟩⟩
    obtain ⟨ys2, k1, k2, A2⟩ := A.step e5 mR r5
    exact ⟨D, ys2, _, rfl, rfl, k1, by rw [sizeLine_eq]; have := (List.getElem?_eq_some_iff.mp hi).1; omega, _, A2, _, rfl⟩
  · subst e
    obtain ⟨ys, I2, e2, s2, d2, hyl, r⟩ := A.done mR
    have h2' := e2.si _ _ h2
    refine ⟨_, rfl, _, rfl, a, _, dx, _, _, rfl, h2', T.c_Program, T.n_Program_last, rfl, _, rfl, I2, p.main, hm, e2.ih, om, h7.mono e2.ii, fun u4 I4 H4 e4 h4' => ?_⟩
    refine fun x dx' hx hdx hne => ⟨x, dx', _, rfl, rfl, upd_same, rfl, ?_⟩
    rw [upd_upd]
    have s5 : Same I4 _ := Same.new (o := .ins cProgram dx' [("functions", .ref D), ("last", u4)]) (e4.ih.free hx)
    refine q _ _ _ (e2.trans (e4.ins hx hdx hne)) ⟨x, dx', D, u4, ys, rfl, upd_same, s5 _ _ (e4.ii _ _ d2), by simp [Vbdcar.folded]; omega, by omega, fun i y f h1 h2 => ?_, h4'.mono s5⟩
    obtain ⟨f0, k1, k2⟩ := r i y h1
    rw [Vbdcar.folded, List.getElem?_map, k1] at h2
    cases h2
    exact k2.mono (Same.trans e4.ii s5)⟩
end
end Bd


end
/-! ## BdLang -/
section
namespace Bd
open PySem PySem.Spec PyProof.Rows
open L2
section
variable {w : World} {K : PySem.W.Frag} {mg : Str → Option Value} {base : Heap}
def isDig (n : Int) : Bool := decide (48 ≤ n) && decide (n ≤ 57)
abbrev n_is_digit : List Str := ["byte"]
theorem sc_is_digit : FnScope n_is_digit ["byte"] (defScope s_is_digit) := ⟨rfl, rfl, rfl, by decide +kernel, rfl, by decide +kernel, by decide +kernel⟩
theorem d_is_digit (T : Tx w K mg)  : Def w K mg base 1 "is_digit" ["byte"] (Sp1 fun u H Q _ => ∃ n, u = .int n ∧ Q (.bl (isDig n)) H) :=
  mkDef1 T f_is_digit rfl rfl sc_is_digit rfl (fun _ _ _ _ _ _ us hl => match us, hl with | [_], _ => rfl) fun u cdv A outer s H Q E hr h =>
  ⟨_, (pss_one (ps_ret (pe_chain op_le op_le pe_int (pv 0) pe_int))), by
  obtain ⟨n, rfl, q⟩ := h
  refine ⟨_, rfl, _, _, rfl, rfl, _, rfl, ?_⟩
  unfold isDig at q
  by_cases h : 48 ≤ n
  · rw [decide_eq_true h] at q ⊢
    exact iteT ⟨_, _, rfl, rfl, q⟩
  · rw [decide_eq_false h] at q ⊢
    exact iteF q⟩

def digV (l : List Int) : Int := l.foldl (fun n c => n * 10 + c - 48) 0
def digNum (l : List Int) : Option Int :=
  if l.length = 0 then none else if 10 < l.length then none else if l.all isDig = false then none else if l.headD 0 = 48 ∧ 1 < l.length then none else if 1000000000 < digV l then none else some (digV l)
abbrev ofO : Option Int → V
  | none => .non
  | some n => .int n
theorem digV_snoc (l : List Int) (c : Int) : digV (l ++ [c]) = digV l * 10 + c - 48 := by unfold digV; rw [List.foldl_append]; rfl
theorem digV_le : ∀ (l : List Int) (k : Nat), l.length ≤ k → k ≤ 10 → (∀ c ∈ l, isDig c = true) → 0 ≤ l.foldl (fun n c => n * 10 + c - 48) 0 := by
  intro l
  suffices h : ∀ (l : List Int) (s : Int), 0 ≤ s → (∀ c ∈ l, isDig c = true) → 0 ≤ l.foldl (fun n c => n * 10 + c - 48) s from fun k _ _ hd => h l 0 (by decide) hd
  intro l
  induction l with
  | nil => intro s hs _; exact hs
  | cons a r ih =>
    intro s hs hd
    have ha := hd a (by simp)
    unfold isDig at ha
    simp only [Bool.and_eq_true, decide_eq_true_eq] at ha
    rw [List.foldl_cons]
    exact ih _ (by omega) fun c hc => hd c (by simp [hc])
theorem digV_bound : ∀ (l : List Int) (s : Int) (B : Int), 0 ≤ s → s < B → (∀ c ∈ l, isDig c = true) → 0 ≤ l.foldl (fun n c => n * 10 + c - 48) s ∧ l.foldl (fun n c => n * 10 + c - 48) s < B * 10 ^ l.length
  | [], s, B, h0, h1, _ => by simp; omega
  | a :: r, s, B, h0, h1, hd => by
    have ha := hd a (by simp)
    unfold isDig at ha
    simp only [Bool.and_eq_true, decide_eq_true_eq] at ha
    rw [List.foldl_cons, List.length_cons]
    have := digV_bound r (s * 10 + a - 48) (B * 10) (by omega) (by omega) fun c hc => hd c (by simp [hc])
    rw [show B * 10 ^ (r.length + 1) = B * 10 * 10 ^ r.length by rw [Int.pow_succ, Int.mul_assoc, Int.mul_comm (10 ^ r.length) 10]]
    exact this
abbrev sp_digits : Sp := Sp1 fun u H Q _ => ∃ (a : Addr) (l : List Int), u = .ref a ∧ H a = some (.lst (l.map V.int)) ∧ l.length ≤ 4000 ∧ ∀ H', Same H H' → Q (ofO (digNum l)) H'
abbrev n_digits_number : List Str := ["data", "number", "byte"]
theorem sc_digits_number : FnScope n_digits_number ["data"] (defScope s_digits_number) := ⟨rfl, rfl, rfl, by decide +kernel, rfl, by decide +kernel, by decide +kernel⟩
theorem d_digits_number (T : Tx w K mg)  : Def w K mg base 2 "digits_number" ["data"] (sp_digits) :=
  mkDef1 T f_digits_number rfl rfl sc_digits_number rfl (fun _ _ _ _ _ _ us hl => match us, hl with | [_], _ => rfl) fun u cdv A outer s H Q E hr h =>
  ⟨_, (pss_cons (ps_if (PW.pt (pw_or (pt_cmpR op_eq (pe_callB call_len_seq (by rfl) T.fr_len (by decide +kernel) (pa_cons (pv 0) pa_nil)) pe_int (nomark _)) (pw_or (pt_cmpR op_gt (pe_callB call_len_seq (by rfl) T.fr_len (by decide +kernel) (pa_cons (pv 0) pa_nil)) pe_int (nomark _)) (pw_or1 (pt_not (pt_val (pe_callB (cr_all rfl) (by rfl) T.fr_all (by decide +kernel) (pa_cons (pe_lc (own := [("byte", 2)]) (g := gName 2) (tt := tYes) rfl sc_digits_number.nd (pi_list (pv 0)) (blkOk_by (N := n_digits_number) (sc := defScope s_digits_number) (by decide +kernel)) (fun _ _ _ _ _ => (pg_name (i := 2) sc_digits_number.nd rfl (Or.inl rfl))) (fun _ _ _ _ _ => pts_nil) (fun _ _ _ _ _ => by exact (pe_c (d_is_digit T) hr passL (pa_cons (pv 2) pa_nil)))) pa_nil)))))))) (pss_one (ps_ret pe_non)) pss_nil)
  (pss_cons (ps_if (PW.pt (pw_and (pt_cmpR op_eq (pe_ix ix_list (pv 0) pe_int (fun _ _ => rfl)) pe_int (nomark _)) (pw_and1 (pt_cmpR op_gt (pe_callB call_len_seq (by rfl) T.fr_len (by decide +kernel) (pa_cons (pv 0) pa_nil)) pe_int (nomark _))))) (pss_one (ps_ret pe_non)) pss_nil)
  (pss_cons (ps_set (i := 1) sc_digits_number.nd rfl (Or.inl rfl) pe_int)
  (pss_cons (ps_for (passes_of rfl) rfl (pi_list (pv 0)) (pg_name (i := 2) sc_digits_number.nd rfl (Or.inl rfl)) (pss_one (ps_set (i := 1) sc_digits_number.nd rfl (Or.inl rfl) (pe_op op_sub (pe_op op_add (pe_op op_mulW (pv 1) pe_int) (pv 2)) pe_int))))
  (pss_cons (ps_if (pt_cmpR op_gt (pv 1) (pe_gi T.k_MOST_NUMBER_language) (nomark _)) (pss_one (ps_ret pe_non)) pss_nil)
  (pss_one (ps_ret (pv 1)))))))), by
  obtain ⟨a, l, rfl, ha, hl4, q⟩ := h
  have hm : (l.map V.int).length = l.length := List.length_map _
  have hq : SqL K H a (l.map V.int) := .inl (.inl ha)
  refine k_sifN ⟨_, rfl, a, _, rfl, .inl hq, rfl, _, rfl, ?_⟩
  rw [dI, hm]
  by_cases h0 : l.length = 0
  · rw [decide_eq_true (by omega)]
    have := q H (.refl H)
    rw [digNum, if_pos h0] at this
    exact iteT (iteT this)
  rw [decide_eq_false (by omega)]
  refine iteF ⟨_, rfl, a, _, rfl, .inl hq, _, _, rfl, rfl, _, rfl, ?_⟩
  rw [hm]
  by_cases h10 : 10 < l.length
  · rw [decide_eq_true (by omega)]
    have := q H (.refl H)
    rw [digNum, if_neg h0, if_pos h10] at this
    exact iteT (iteT this)
  rw [decide_eq_false (by omega)]
  refine iteF ?_
  refine k_cb (k_cons (k_lcR (I := H) (xs := l.map V.int) (val_var rfl) (fun i y _ => ∃ c, l[i]? = some c ∧ y = .bl (isDig c)) (.refl H) hq (fun _ => rfl) (fun _ _ _ _ _ h => h) (by omega) (fun i x I2 H2 Q' hi e2 k => ?_) fun D ys I' H' e2 iD hD h1 hl r => ?_))
  · rw [List.getElem?_map] at hi
    cases hc : l[i]? with
    | none => rw [hc] at hi; cases hi
    | some c =>
      rw [hc] at hi
      cases hi
      exact ⟨_, rfl, _, rfl, c, rfl, k _ I2 H2 (Ext.refl e2.ih) ⟨c, hc, rfl⟩⟩
  have hy := list_of (hl.trans hm) r
  subst hy
  refine ⟨_, l.map isDig, rfl, .inl (.inl (e2.ih _ _ (by rw [h1, List.map_map]; rfl))), _, rfl, ?_⟩
  rw [List.all_map]
  show if (!l.all isDig) = true then _ else _
  have s1 := e2.hh
  cases hall : l.all isDig with
  | false =>
    have := q H' s1
    rw [digNum, if_neg h0, if_neg h10, if_pos hall] at this
    exact iteT this
  | true =>
    have q2 : ∀ H2, Same H H2 → Q (ofO (if l.headD 0 = 48 ∧ 1 < l.length then none else if 1000000000 < digV l then none else some (digV l))) H2 := fun H2 s2 => by
      have := q H2 s2
      rw [digNum, if_neg h0, if_neg h10, if_neg (by rw [hall]; exact fun z => nomatch z)] at this
      exact this
    have ha2 : SqL K H' a (l.map V.int) := .inl (.inl (s1 _ _ ha))
    have hx0 : (l.map V.int)[0]? = some (.int (l.headD 0)) := by
      cases l with
      | nil => exact absurd rfl h0
      | cons c r => rfl
    refine iteF ⟨_, rfl, a, _, _, _, rfl, rfl, ha2, atI_nat (j := 0) hx0, rfl, _, rfl, ?_⟩
    rw [dI]
    have rest : ¬ (l.headD 0 = 48 ∧ 1 < l.length) → ∀ D : Ends, D.rt = Q → D.nx = (fun _ H' => Q .non H') → ∀ o1 o2, tSeq (tAsg (tC (.int 0)) (gName 1)) (tSeq (tFor (iList K (tVar 0)) (gName 2) (tAsg (tOp (rI0 fun i j => V.int (i - j)) (tOp (rI0 fun i j => V.int (i + j)) (tOp (rI CMulW fun i j => V.int (i * j)) (tVar 1) (tC (.int 10))) (tVar 2)) (tC (.int 48))) (gName 1)))
        (tSeq (tIfS (tTest (tOp (rI0 fun i j => V.bl (decide (j < i))) (tVar 1) (tC (.int 1000000000)))) (tRet (tC .non)) tNext) (tRet (tVar 1)))) D [some (.ref a), o1, o2] H' := by
      intro hz Dd hrt hnx o1 o2
      have q3 := q2 H' s1
      rw [if_neg hz] at q3
      have hdig : ∀ c ∈ l, isDig c = true := List.all_eq_true.mp hall
      refine ⟨_, rfl, a, rfl, ⟨_, ha2⟩, ?_⟩
      refine for_list (xs := l.map V.int) (fun i σ H2 => H2 = H' ∧ ∃ o2, σ = [some (.ref a), some (.int (digV (l.take i))), o2]) ⟨rfl, o2, rfl⟩ (fun i σ H2 _ ⟨e, _⟩ => by subst e; exact ha2) (fun i x σ H2 hi ⟨e, o3, es⟩ => ?_) fun σ H2 ⟨e, o3, es⟩ => ?_
      · subst e es
        rw [List.getElem?_map] at hi
        cases hc : l[i]? with
        | none => rw [hc] at hi; cases hi
        | some c =>
          rw [hc] at hi
          cases hi
          have hb := digV_bound (l.take i) 0 1 (by decide) (by decide) fun c hc => hdig c (List.mem_of_mem_take hc)
          have hi10 : (l.take i).length ≤ 10 := by rw [List.length_take]; omega
          have hpow : (10 : Int) ^ (l.take i).length ≤ 10 ^ 10 := by
            have := Nat.pow_le_pow_right (n := 10) (by decide) hi10
            exact_mod_cast this
          have hb2 : digV (l.take i) < 10 ^ 10 := by have := hb.2; unfold digV; omega
          have hb1 : 0 ≤ digV (l.take i) := hb.1
          refine ⟨_, rfl, _, _, rfl, rfl, mulOk (by omega) (by decide), _, rfl, _, _, rfl, rfl, _, _, rfl, rfl, rfl, some (.int c), ?_⟩
          rw [show l.take (i + 1) = l.take i ++ [c] by rw [List.take_add_one, hc] <;> rfl, digV_snoc]
          rfl
      · subst e es
        rw [List.length_map, List.take_length]
        refine ⟨_, rfl, _, _, rfl, rfl, _, rfl, ?_⟩
        by_cases hbig : 1000000000 < digV l
        · rw [if_pos hbig] at q3
          rw [decide_eq_true hbig]
          refine iteT ?_
          show Dd.rt _ _
          rw [hrt]; exact q3
        · rw [if_neg hbig] at q3
          rw [decide_eq_false hbig]
          refine iteF ⟨_, rfl, ?_⟩
          rw [hrt]; exact q3
    by_cases h48 : l.headD 0 = 48
    · rw [decide_eq_true h48]
      refine iteT ⟨_, rfl, a, _, rfl, .inl ha2, _, _, rfl, rfl, _, rfl, ?_⟩
      rw [hm]
      by_cases h1l : 1 < l.length
      · rw [decide_eq_true (by omega)]
        have := q2 H' s1
        rw [if_pos ⟨h48, h1l⟩] at this
        exact iteT this
      · rw [decide_eq_false (by omega)]
        exact iteF (rest (fun z => h1l z.2) _ rfl rfl _ _)
    · rw [decide_eq_false h48]
      exact iteF (iteF (rest (fun z => h48 z.1) _ rfl rfl _ _))⟩
def numOfData (l : List Int) : Option Int := if l.headD 0 ≠ 45 then digNum l else match digNum (l.drop 1) with
  | none => none
  | some n => if n = 0 then none else some (-n)
abbrev sp_number_of : Sp := Sp1 fun u H Q _ => ∃ (a : Addr) (l : List Int), u = .ref a ∧ H a = some (.lst (l.map V.int)) ∧ l.length ≤ 4000 ∧ l ≠ [] ∧ ∀ H', Same H H' → Q (ofO (numOfData l)) H'
abbrev n_number_of : List Str := ["data", "number"]
theorem sc_number_of : FnScope n_number_of ["data"] (defScope s_number_of) := ⟨rfl, rfl, rfl, by decide +kernel, rfl, by decide +kernel, by decide +kernel⟩
theorem d_number_of (T : Tx w K mg)  : Def w K mg base 3 "number_of" ["data"] (sp_number_of) :=
  mkDef1 T f_number_of rfl rfl sc_number_of rfl (fun _ _ _ _ _ _ us hl => match us, hl with | [_], _ => rfl) fun u cdv A outer s H Q E hr h =>
  ⟨_, (pss_cons (ps_if (pt_cmpR op_ne (pe_ix ix_list (pv 0) pe_int (fun _ _ => rfl)) (pe_gi T.k_MINUS) (nomark _)) (pss_one (ps_ret (pe_c (d_digits_number T) hr pz (pa_cons (pv 0) pa_nil)))) pss_nil)
  (pss_cons (ps_set (i := 1) sc_number_of.nd rfl (Or.inl rfl) (pe_c (d_digits_number T) hr pz (pa_cons (pe_slice sl_list (pv 0) (po_some pe_int) po_none) pa_nil)))
  (pss_cons (ps_if (PW.pt (pw_or (pt_cmpR op_isN (pv 1) pe_non (nomark _)) (pw_or1 (pt_cmpR op_eq (pv 1) pe_int (nomark _))))) (pss_one (ps_ret pe_non)) pss_nil)
  (pss_one (ps_ret (pe_un un_neg (pv 1))))))), by
  obtain ⟨a, l, rfl, ha, hl4, hne, q⟩ := h
  have hq : SqL K H a (l.map V.int) := .inl (.inl ha)
  have hx0 : (l.map V.int)[0]? = some (.int (l.headD 0)) := by
    cases l with
    | nil => exact absurd rfl hne
    | cons c r => rfl
  refine k_sifN ⟨_, rfl, a, _, _, _, rfl, rfl, hq, atI_nat (j := 0) hx0, rfl, _, rfl, ?_⟩
  rw [dI]
  by_cases h45 : l.headD 0 = 45
  · rw [decide_eq_true h45]
    refine iteF (k_sset ⟨_, rfl, _, rfl, a, _, rfl, hq, fun S hS => ?_⟩)
    rw [cut1, ← List.map_drop]
    refine ⟨_, rfl, S, l.drop 1, rfl, upd_same, by rw [List.length_drop]; omega, fun H1 s1 => ?_⟩
    have sN : Same H H1 := Same.trans (Same.new hS) s1
    have q1 := q H1 sN
    unfold numOfData at q1
    rw [if_neg (by rw [h45]; exact fun z => z rfl)] at q1
    cases hd : digNum (l.drop 1) with
    | none =>
      rw [hd] at q1
      exact ⟨_, rfl, rfl, _, rfl, iteT (iteT q1)⟩
    | some n =>
      rw [hd] at q1
      refine ⟨_, rfl, rfl, _, rfl, iteF ⟨_, rfl, rfl, _, rfl, ?_⟩⟩
      rw [dI]
      by_cases hn : n = 0
      · simp only [if_pos hn] at q1
        rw [decide_eq_true hn]
        exact iteT q1
      · simp only [if_neg hn] at q1
        rw [decide_eq_false hn]
        exact iteF ⟨_, rfl, _, rfl, q1⟩
  · rw [decide_eq_false h45]
    refine iteT ⟨_, rfl, _, rfl, a, l, rfl, ha, hl4, fun H1 s1 => ?_⟩
    have q1 := q H1 s1
    rw [numOfData, if_pos h45] at q1
    exact q1⟩
def formParts (s : Str) : Int := if s = Str.ofString "and" ∨ s = Str.ofString "or" then 2 else 3
abbrev n_form_parts : List Str := ["form"]
theorem sc_form_parts : FnScope n_form_parts ["form"] (defScope s_form_parts) := ⟨rfl, rfl, rfl, by decide +kernel, rfl, by decide +kernel, by decide +kernel⟩
theorem d_form_parts (T : Tx w K mg)  : Def w K mg base 1 "form_parts" ["form"] (Sp1 fun u H Q _ => ∃ s, u = .str s ∧ Q (.int (formParts s)) H) :=
  mkDef1 T f_form_parts rfl rfl sc_form_parts rfl (fun _ _ _ _ _ _ us hl => match us, hl with | [_], _ => rfl) fun u cdv A outer s H Q E hr h =>
  ⟨_, (pss_cons (ps_if (PW.pt (pw_or (pt_cmpR op_eq (pv 0) pe_str (nomark _)) (pw_or1 (pt_cmpR op_eq (pv 0) pe_str (nomark _))))) (pss_one (ps_ret pe_int)) pss_nil)
  (pss_one (ps_ret pe_int))), by
  obtain ⟨s, rfl, q⟩ := h
  refine k_sifN ⟨_, rfl, rfl, _, rfl, ?_⟩
  rw [dS]
  unfold formParts at q
  by_cases h1 : s = Str.ofString "and"
  · rw [decide_eq_true h1]
    rw [if_pos (.inl h1)] at q
    exact iteT (iteT q)
  · rw [decide_eq_false h1]
    refine iteF ⟨_, rfl, rfl, _, rfl, ?_⟩
    rw [dS]
    by_cases h2 : s = Str.ofString "or"
    · rw [decide_eq_true h2]
      rw [if_pos (.inr h2)] at q
      exact iteT q
    · rw [decide_eq_false h2]
      rw [if_neg (by rintro (z | z); exact h1 z; exact h2 z)] at q
      exact iteF q⟩
def isLang (s : Str) : Bool := if decide (s = Str.ofString "fun") = true then true else if decide (s = Str.ofString "list") = true then true else if inV (.str s) c_FORMS = true then true else if inV (.str s) c_INPUTS = true then true else if inV (.str s) c_ONE_PART = true then true else inV (.str s) c_TWO_PARTS
theorem fl_FORMS : c_FORMS.all flatV = true := by decide +kernel
theorem fl_INPUTS : c_INPUTS.all flatV = true := by decide +kernel
theorem fl_ONE : c_ONE_PART.all flatV = true := by decide +kernel
theorem fl_TWO : c_TWO_PARTS.all flatV = true := by decide +kernel
abbrev n_is_language : List Str := ["letters"]
theorem sc_is_language : FnScope n_is_language ["letters"] (defScope s_is_language) := ⟨rfl, rfl, rfl, by decide +kernel, rfl, by decide +kernel, by decide +kernel⟩
theorem d_is_language (T : Tx w K mg)  : Def w K mg base 1 "is_language" ["letters"] (Sp1 fun u H Q _ => ∃ s, u = .str s ∧ Q (.bl (isLang s)) H) :=
  mkDef1 T f_is_language rfl rfl sc_is_language rfl (fun _ _ _ _ _ _ us hl => match us, hl with | [_], _ => rfl) fun u cdv A outer s H Q E hr h =>
  ⟨_, (pss_cons (ps_if (PW.pt (pw_or (pt_cmpR op_eq (pv 0) pe_str (nomark _)) (pw_or1 (pt_cmpR op_eq (pv 0) pe_str (nomark _))))) (pss_one (ps_ret pe_bl)) pss_nil)
  (pss_one (ps_ret (pe_or (pe_cmpR op_in_seq (pv 0) (pe_gr T.k_FORMS) (by rfl)) (pe_or (pe_cmpR op_in_seq (pv 0) (pe_gr T.k_INPUTS) (by rfl)) (pe_or (pe_cmpR op_in_seq (pv 0) (pe_gr T.k_ONE_PART) (by rfl)) (pe_one (pe_cmpR op_in_seq (pv 0) (pe_gr T.k_TWO_PARTS) (by rfl))))))))), by
  obtain ⟨s, rfl, q⟩ := h
  unfold isLang at q
  refine k_sifN ⟨_, rfl, rfl, _, rfl, ?_⟩
  rw [dS]
  cases h1 : decide (s = Str.ofString "fun") with
  | true => rw [h1] at q; exact iteT (iteT q)
  | false =>
    rw [h1] at q
    refine iteF ⟨_, rfl, rfl, _, rfl, ?_⟩
    rw [dS]
    cases h2 : decide (s = Str.ofString "list") with
    | true => rw [h2] at q; exact iteT q
    | false =>
      rw [h2] at q
      refine iteF ⟨_, rfl, _, _, rfl, .inr (T.t_FORMS H), rfl, fl_FORMS, _, rfl, ?_⟩
      show if inV (.str s) c_FORMS = true then _ else _
      cases h3 : inV (.str s) c_FORMS with
      | true => rw [h3] at q; exact iteT q
      | false =>
        rw [h3] at q
        refine iteF ⟨_, rfl, _, _, rfl, .inr (T.t_INPUTS H), rfl, fl_INPUTS, _, rfl, ?_⟩
        show if inV (.str s) c_INPUTS = true then _ else _
        cases h4 : inV (.str s) c_INPUTS with
        | true => rw [h4] at q; exact iteT q
        | false =>
          rw [h4] at q
          refine iteF ⟨_, rfl, _, _, rfl, .inr (T.t_ONE_PART H), rfl, fl_ONE, _, rfl, ?_⟩
          show if inV (.str s) c_ONE_PART = true then _ else _
          cases h5 : inV (.str s) c_ONE_PART with
          | true => rw [h5] at q; exact iteT q
          | false =>
            rw [h5] at q
            exact iteF ⟨_, rfl, _, _, rfl, .inr (T.t_TWO_PARTS H), rfl, fl_TWO, q⟩⟩
def isNm (s : Str) : Bool := if decide (1 ≤ ((s.length : Nat) : Int)) = true then (if decide (((s.length : Nat) : Int) ≤ 8) = true then !isLang s else false) else false
abbrev n_is_name : List Str := ["letters"]
theorem sc_is_name : FnScope n_is_name ["letters"] (defScope s_is_name) := ⟨rfl, rfl, rfl, by decide +kernel, rfl, by decide +kernel, by decide +kernel⟩
theorem d_is_name (T : Tx w K mg)  : Def w K mg base 2 "is_name" ["letters"] (Sp1 fun u H Q _ => ∃ s, u = .str s ∧ s.length ≤ 4000 ∧ Q (.bl (isNm s)) H) :=
  mkDef1 T f_is_name rfl rfl sc_is_name rfl (fun _ _ _ _ _ _ us hl => match us, hl with | [_], _ => rfl) fun u cdv A outer s H Q E hr h =>
  ⟨_, (pss_one (ps_ret (pe_and (pe_chain op_le op_le pe_int (pe_callB call_len_str (by rfl) T.fr_len (by decide +kernel) (pa_cons (pv 0) pa_nil)) pe_int) (pe_one (pe_not (pe_c (d_is_language T) hr pz (pa_cons (pv 0) pa_nil))))))), by
  obtain ⟨s, rfl, hl, q⟩ := h
  unfold isNm at q
  refine ⟨_, rfl, s, rfl, by rw [sizeLine_eq]; omega, _, _, rfl, rfl, _, rfl, ?_⟩
  cases h1 : decide (1 ≤ ((s.length : Nat) : Int)) with
  | false => rw [h1] at q; exact iteF ⟨_, rfl, iteF q⟩
  | true =>
    rw [h1] at q
    refine iteT ⟨_, _, rfl, rfl, _, rfl, ?_⟩
    cases h2 : decide (((s.length : Nat) : Int) ≤ 8) with
    | false => rw [h2] at q; exact iteF q
    | true => rw [h2] at q; exact iteT ⟨_, rfl, _, rfl, s, rfl, _, rfl, q⟩⟩
def takesB (s : Str) (n : Int) : Bool := if decide (s = Str.ofString "list") = true then decide (n ≤ 8) else if inV (.str s) c_ONE_PART = true then decide (n = 1) else decide (n = 2)
abbrev n_takes : List Str := ["operation", "count"]
theorem sc_takes : FnScope n_takes ["operation", "count"] (defScope s_takes) := ⟨rfl, rfl, rfl, by decide +kernel, rfl, by decide +kernel, by decide +kernel⟩
theorem d_takes (T : Tx w K mg)  : Def w K mg base 1 "takes" ["operation", "count"] (Sp2 fun u v H Q _ => ∃ s n, u = .str s ∧ v = .int n ∧ Q (.bl (takesB s n)) H) :=
  mkDef2 T f_takes rfl rfl sc_takes rfl (fun _ _ _ _ _ _ us hl => match us, hl with | [_, _], _ => rfl) fun u v cdv A outer s H Q E hr h =>
  ⟨_, (pss_cons (ps_if (pt_cmpR op_eq (pv 0) pe_str (nomark _)) (pss_one (ps_ret (pe_cmpR op_le (pv 1) pe_int (nomark _)))) pss_nil)
  (pss_cons (ps_if (pt_cmpR op_in_seq (pv 0) (pe_gr T.k_ONE_PART) (by rfl)) (pss_one (ps_ret (pe_cmpR op_eq (pv 1) pe_int (nomark _)))) pss_nil)
  (pss_one (ps_ret (pe_cmpR op_eq (pv 1) pe_int (nomark _)))))), by
  obtain ⟨s, n, rfl, rfl, q⟩ := h
  unfold takesB at q
  refine k_sifN ⟨_, rfl, rfl, _, rfl, ?_⟩
  rw [dS]
  cases h1 : decide (s = Str.ofString "list") with
  | true => rw [h1] at q; exact iteT ⟨_, rfl, _, _, rfl, rfl, q⟩
  | false =>
    rw [h1] at q
    refine iteF (k_sifN ⟨_, rfl, _, _, rfl, .inr (T.t_ONE_PART H), rfl, fl_ONE, _, rfl, ?_⟩)
    show if inV (.str s) c_ONE_PART = true then _ else _
    cases h5 : inV (.str s) c_ONE_PART with
    | true =>
      rw [h5] at q
      refine iteT ⟨_, rfl, rfl, ?_⟩
      rw [dI]; exact q
    | false =>
      rw [h5] at q
      refine iteF ⟨_, rfl, rfl, ?_⟩
      rw [dI]; exact q⟩
end
end Bd


end
/-! ## BdTab -/
section
namespace Bd
open PySem PySem.Spec PyProof.Rows
open L2
abbrev sgK (l : List (Int × Str)) : List (Key × V) := l.map fun p => (Sum.inl p.1, V.str p.2)
theorem entB_dict {P : Program} {w : World} : ∀ {l : List (Int × Str)} {es : List DictEntry}, entB l es = true → ∃ vs, Pairs (mixKind P w) es vs ∧ KV (sgK l) vs ∧ (∀ e, e ∈ es → ∃ k, (mixKind P w).is k e.key = true ∧ e.hash = (mixKind P w).hash k)
  | [], [], _ => ⟨[], .nil, .nil, fun e h => by simp at h⟩
  | (k, v) :: r, e :: es, h => by
    unfold entB at h
    simp only [Bool.and_eq_true] at h
    obtain ⟨h1, h2, h3, h4⟩ := h
    obtain ⟨vs, p1, p2, p3⟩ := entB_dict (P := P) (w := w) h4
    cases hk : e.key with
    | int i t =>
      rw [hk] at h1
      have h1 : i = k := of_decide_eq_true h1
      cases hv : e.val with
      | str x t2 =>
        rw [hv] at h2
        have h2 : x = v := of_decide_eq_true h2
        subst h1 h2
        have his : (mixKind P w).is (Sum.inl i) e.key = true := by
          rw [hk]
          show Value.isInt i (.int i t) = true
          unfold Value.isInt
          simp
        refine ⟨(Sum.inl i, .str x t2) :: vs, .cons his hv p1, .cons ⟨rfl, t2, rfl⟩ p2, fun e' he' => ?_⟩
        rcases List.mem_cons.mp he' with rfl | he'
        · exact ⟨Sum.inl i, his, of_decide_eq_true h3⟩
        · exact p3 e' he'
      | _ => rw [hv] at h2; cases h2
    | _ => rw [hk] at h1; cases h1
  | [], _ :: _, h => by unfold entB at h; cases h
  | _ :: _, [], h => by unfold entB at h; cases h
theorem sg_dict {X : Cx} (T : TxK X.w X.K) {pins : List (Addr × Obj)} {σ : L2.St} {H : Hp} {s : Shared} (I : Inv X pins σ H s) : (aSIGNS == sysModules) = false ∧ ∃ vs, KV (sgK sgL) vs ∧ s.heap.DictOf (mixKind X.prog X.w) aSIGNS vs := by
  obtain ⟨es, n, h1, h2, h3⟩ := T.sg
  obtain ⟨vs, p1, p2, p3⟩ := entB_dict (P := X.prog) (w := X.w) h3
  refine ⟨h2, vs, p2, _, es, n, I.kIn _ _ h1, ⟨rfl, rfl, rfl⟩, rfl, fun e he => p3 e (by simpa using he), p1, ?_⟩
  have hk : ∀ {l : List (Key × V)} {r : List (Key × Value)}, KV l r → r.map (·.1) = l.map (·.1) := by
    intro l r h
    unfold KV at h
    induction h with
    | nil => rfl
    | cons h _ ih => rw [List.map_cons, List.map_cons, ih, h.1]
  rw [hk p2]
  decide +kernel
section
variable {X : Cx}
theorem op_inSg (T : Tx X.w X.K X.mg) : OpR X (compareOp .In) (fun x y H Q => ∃ n : Int, x = .int n ∧ y = .ref aSIGNS ∧ Q (.bl (valV (sgK sgL) (Sum.inl n)).isSome) H) := by
  intro pins s σ H x y v u Q I rx ry h
  obtain ⟨n, rfl, rfl, q⟩ := h
  cases ry
  obtain ⟨hd, vs, rel, dd⟩ := sg_dict T.k I
  refine wpAny_in_of (kV_is (k := Sum.inl n) rx) hd dd.mapOf ?_
  rw [← (rel.val (Sum.inl n)).isSome_eq]
  exact ⟨.bl _, H, I.tok _, rfl, q⟩
/-- SIGNS[e] -/
def tItSg (ti : TE) : TE := fun σ H Q => ti σ H fun y H1 => ∃ (n : Int) (v : V), y = .int n ∧ valV (sgK sgL) (Sum.inl n) = some v ∧ Q v H1
theorem pe_itSg (T : Tx X.w X.K X.mg) {i : Expr} {ti : TE} {p pos : Pos} (hi : PE X i ti) (hg : Gl X "SIGNS" := by rfl) (hs : NoSl i := by exact fun _ _ => rfl) : PE X (.Subscript (.Name "SIGNS" p) i pos) (tItSg ti) := by
  refine ⟨fun pins s σ H Q I h => ?_⟩
  refine subD_of PySem.F.slot_dict_getitem.lookup hs (thn ((pe_gr (T.k_SIGNS) hg).run pins s σ H (fun v H' => v = .ref aSIGNS ∧ ti σ H' fun y H1 => ∃ (n : Int) (v : V), y = .int n ∧ valV (sgK sgL) (Sum.inl n) = some v ∧ Q v H1) I ⟨rfl, h⟩) fun u s1 ⟨x, H1, I1, rx, ex, q1⟩ => thn (hi.run pins s1 σ H1 _ I1 q1) fun iv s2 ⟨y, H2, I2, ry, n, v, ey, hv, q2⟩ => ?_)
  subst ex ey
  obtain rfl : u = Value.ref aSIGNS := rx
  obtain ⟨hd, vs, rel, dd⟩ := sg_dict T.k I2
  refine ⟨dd.typeIs, ?_⟩
  have hr := rel.val (Sum.inl n)
  rw [hv] at hr
  obtain ⟨w', hw, rw'⟩ := hr.some_of
  exact wpAny_getItem_of (kV_is (k := Sum.inl n) ry) dd.mapOf hw ⟨v, H2, I2.tok _, rw', q2⟩
/-! ## SIGN_BYTES -/
abbrev sbV (l : List (Str × Int)) (x : Str) : Option Int := (l.find? fun p => decide (p.1 = x)).map (·.2)
theorem sb_in (T : TxK X.w X.K) (x : Str) : ∃ r, PySem.W.nsIn X.K aSIGN_BYTES x = some r ∧ r.isSome = (sbV sbL x).isSome ∧ ∀ n, sbV sbL x = some n → ∃ t, r = some (.int n t) := by
  cases h : sbL.find? (fun p => decide (p.1 = x)) with
  | none =>
    have hn : ∀ n, (x, n) ∉ sbL := fun n hm => by
      have := List.find?_eq_none.mp h _ hm
      simp at this
    exact ⟨none, T.sbN x hn, by rw [sbV, h] <;> rfl, fun n e => by rw [sbV, h] at e; cases e⟩
  | some p =>
    have hm := List.mem_of_find?_eq_some h
    have hp := List.find?_some h
    obtain ⟨y, n⟩ := p
    have hy : y = x := of_decide_eq_true hp
    subst hy
    obtain ⟨i, hi, e⟩ := List.getElem_of_mem hm
    obtain ⟨t, ht⟩ := T.sbV i y n (by rw [List.getElem?_eq_getElem hi, e])
    exact ⟨_, ht, by rw [sbV, h] <;> rfl, fun m e => by rw [sbV, h] at e; cases e; exact ⟨t, rfl⟩⟩
theorem op_inSb (T : Tx X.w X.K X.mg) : OpR X (compareOp .In) (fun x y H Q => ∃ z : Str, x = .str z ∧ y = .ref aSIGN_BYTES ∧ Q (.bl (sbV sbL z).isSome) H) := by
  obtain ⟨es, n, D⟩ := T.k.sb
  intro pins s σ H x y v u Q I rx ry h
  obtain ⟨z, rfl, rfl, q⟩ := h
  obtain ⟨r, h1, h2, _⟩ := sb_in T.k z
  exact op_in_kd D pins s σ H _ _ v u Q I rx ry ⟨z, r, rfl, rfl, h1, by rw [h2]; exact q⟩
/-- SIGN_BYTES[e] -/
def tItSb (ti : TE) : TE := fun σ H Q => ti σ H fun y H1 => ∃ (z : Str) (n : Int), y = .str z ∧ sbV sbL z = some n ∧ Q (.int n) H1
theorem pe_itSb (T : Tx X.w X.K X.mg) {i : Expr} {ti : TE} {p pos : Pos} (hi : PE X i ti) (hg : Gl X "SIGN_BYTES" := by rfl) (hs : NoSl i := by exact fun _ _ => rfl) : PE X (.Subscript (.Name "SIGN_BYTES" p) i pos) (tItSb ti) := by
  obtain ⟨es, en, D⟩ := T.k.sb
  refine ⟨fun pins s σ H Q I h => ?_⟩
  refine subD_of PySem.F.slot_dict_getitem.lookup hs (thn ((pe_gr (T.k_SIGN_BYTES) hg).run pins s σ H (fun v H' => v = .ref aSIGN_BYTES ∧ ti σ H' fun y H1 => ∃ (z : Str) (n : Int), y = .str z ∧ sbV sbL z = some n ∧ Q (.int n) H1) I ⟨rfl, h⟩) fun u s1 ⟨x, H1, I1, rx, ex, q1⟩ => thn (hi.run pins s1 σ H1 _ I1 q1) fun iv s2 ⟨y, H2, I2, ry, z, n, ey, hv, q2⟩ => ?_)
  subst ex ey
  obtain rfl : u = Value.ref aSIGN_BYTES := rx
  obtain ⟨r, h1, _, h3⟩ := sb_in T.k z
  obtain ⟨t, rfl⟩ := h3 n hv
  exact ⟨kd_type D I2, op_item_kd D pins s2 σ H2 (.ref aSIGN_BYTES) (.str z) _ iv Q I2 rfl ry ⟨z, _, .int n, rfl, rfl, h1, ⟨t, rfl⟩, q2⟩⟩
end
end Bd

end
/-! ## BdWord -/
section
namespace Bd
open PySem PySem.Spec PyProof.Rows
open L2
/-! ## words of small letters -/
def lowB (c : Nat) : Bool := decide (97 ≤ c ∧ c ≤ 122)
/-- what a tree keeps of its bytes -/
def lettersB (b : List Nat) : List Nat := if b.all lowB = true then b else []
def wF : List (List Nat) := ["if", "let", "each", "keep", "and", "or"].map Vbdcar.ascii
def wOne : List (List Nat) := ["not", "len", "tail", "least", "most", "sum", "sort", "rev"].map Vbdcar.ascii
def wTwo : List (List Nat) := ["at", "cons", "cat", "has", "range"].map Vbdcar.ascii
theorem vF : c_FORMS = wF.map fun b => V.str (sB b) := by decide +kernel
theorem vI : c_INPUTS = Vbdcar.INPUTS.map fun b => V.str (sB b) := by decide +kernel
theorem vOne : c_ONE_PART = wOne.map fun b => V.str (sB b) := by decide +kernel
theorem vTwo : c_TWO_PARTS = wTwo.map fun b => V.str (sB b) := by decide +kernel
theorem inWords (n : List Nat) : ∀ l : List (List Nat), inV (.str (sB n)) (l.map fun b => V.str (sB b)) = l.contains n
  | [] => rfl
  | a :: r => by
    have := inWords n r
    unfold inV at this ⊢
    rw [List.map_cons, List.any_cons, this, List.contains_cons]
    congr 1
    show decide (sB a = sB n) = (n == a)
    rw [Bool.eq_iff_iff, decide_eq_true_iff, beq_iff_eq]
    exact ⟨fun h => (sB_inj h).symm, fun h => by rw [h]⟩
theorem sLit (n : List Nat) (s : String) (h : Str.ofString s = sB (Vbdcar.ascii s)) : decide (sB n = Str.ofString s) = (n == Vbdcar.ascii s) := by
  rw [h, Bool.eq_iff_iff, decide_eq_true_iff, beq_iff_eq]
  exact ⟨fun h => sB_inj h, fun h => by rw [h]⟩
theorem flatWords : ∀ l : List (List Nat), (l.map fun b => V.str (sB b)).all flatV = true
  | [] => rfl
  | a :: r => by rw [List.map_cons, List.all_cons, flatWords r]; rfl
def wLang : List (List Nat) := ["fun", "list"].map Vbdcar.ascii ++ (wF ++ (Vbdcar.INPUTS ++ (wOne ++ wTwo)))
theorem isLang_eq (n : List Nat) : isLang (sB n) = wLang.contains n := by
  unfold isLang
  rw [sLit n "fun" (by decide +kernel), sLit n "list" (by decide +kernel), vF, vI, vOne, vTwo, inWords, inWords, inWords, inWords]
  have e : wLang.contains n = (n == Vbdcar.ascii "fun" || (n == Vbdcar.ascii "list" || (wF.contains n || (Vbdcar.INPUTS.contains n || (wOne.contains n || wTwo.contains n))))) := by
    unfold wLang
    rw [Bool.eq_iff_iff]
    simp only [List.contains_iff_mem, List.mem_append, List.map_cons, List.map_nil, List.mem_cons, List.not_mem_nil, or_false, Bool.or_eq_true, beq_iff_eq]
    constructor
    · rintro ((h | h) | h | h | h | h) <;> simp [h]
    · rintro (h | h | h | h | h | h) <;> simp [h]
  rw [e]
  cases n == Vbdcar.ascii "fun" <;> cases n == Vbdcar.ascii "list" <;> cases wF.contains n <;> cases Vbdcar.INPUTS.contains n <;> cases wOne.contains n <;> rfl
theorem opOf_some (n : List Nat) : (Vbdcar.opOf n).isSome = (Vbdcar.OPS.map (·.1)).contains n := by
  unfold Vbdcar.opOf
  rw [Option.isSome_map, Bool.eq_iff_iff, List.contains_iff_mem, List.mem_map, Option.isSome_iff_exists]
  constructor
  · rintro ⟨x, hx⟩
    obtain ⟨hi, e⟩ := List.getElem?_eq_some_iff.mp hx
    exact ⟨x, by rw [← e]; exact List.getElem_mem hi, by have := List.findIdx_getElem (w := hi); rw [e] at this; exact beq_iff_eq.mp this⟩
  · rintro ⟨x, hx, e⟩
    have hi := List.findIdx_lt_length_of_exists (p := fun y => y.1 == n) ⟨x, hx, beq_iff_eq.mpr e⟩
    exact ⟨_, List.getElem?_eq_getElem hi⟩
theorem lang_sub : ∀ x ∈ wLang, Vbdcar.FORMS.contains x || (Vbdcar.INPUTS.contains x || (Vbdcar.OPS.map (·.1)).contains x) := by decide +kernel
theorem lang_sup : ∀ x ∈ Vbdcar.FORMS ++ (Vbdcar.INPUTS ++ Vbdcar.OPS.map (·.1)), wLang.contains x || !x.all lowB := by decide +kernel
theorem free_eq (b : List Nat) : isNm (sB (lettersB b)) = Vbdcar.isFree b := by
  have hlen : (sB (lettersB b)).length = (lettersB b).length := rfl
  unfold isNm Vbdcar.isFree Vbdcar.isName
  rw [hlen, isLang_eq]
  by_cases hl : b.all lowB = true
  · have e1 : lettersB b = b := if_pos hl
    have e2 : (b.all fun c => decide (97 ≤ c ∧ c ≤ 122)) = true := hl
    rw [e1, e2, Bool.and_true]
    have e3 : wLang.contains b = (Vbdcar.FORMS.contains b || (Vbdcar.INPUTS.contains b || (Vbdcar.opOf b).isSome)) := by
      rw [opOf_some, Bool.eq_iff_iff]
      constructor
      · intro h; exact lang_sub b (List.contains_iff_mem.mp h)
      · intro h
        have hm : b ∈ Vbdcar.FORMS ++ (Vbdcar.INPUTS ++ Vbdcar.OPS.map (·.1)) := by
          simp only [Bool.or_eq_true, List.contains_iff_mem] at h
          simp only [List.mem_append]
          exact h
        have := lang_sup b hm
        rw [hl] at this
        simpa using this
    rw [e3]
    by_cases h1 : 1 ≤ b.length
    · rw [if_pos (by simp; omega)]
      by_cases h8 : b.length ≤ 8
      · rw [if_pos (by simp; omega), decide_eq_true (show 1 ≤ b.length ∧ b.length ≤ 8 from ⟨h1, h8⟩)]
        cases Vbdcar.FORMS.contains b <;> cases Vbdcar.INPUTS.contains b <;> cases h : Vbdcar.opOf b <;> rfl
      · rw [if_neg (by simp; omega), decide_eq_false (fun z => h8 z.2)]; rfl
    · rw [if_neg (by simp; omega), decide_eq_false (fun z => h1 z.1)]; rfl
  · have e1 : lettersB b = [] := if_neg hl
    have e2 : (b.all fun c => decide (97 ≤ c ∧ c ≤ 122)) = false := by rw [← Bool.not_eq_true]; exact hl
    rw [e1, e2, Bool.and_false, Bool.false_and]
    rfl
theorem lettersB_mem {b x : List Nat} (h : lettersB b = x) (hx : x ≠ []) : b = x := by
  unfold lettersB at h
  split at h
  · exact h
  · exact absurd h.symm hx
/-- the operation of a word, by its name here -/
def opWord (b : List Nat) : Str := match Vbdcar.opOf b with
  | some x => Str.ofString (opName x.1)
  | none => Str.ofString ""
end Bd


end
/-! ## BdMachP -/
section
namespace Bd
abbrev EnvV := Vbdcar.Env
/-! ## the machine, in plain words -/
structure AFr where
  e : Exp
  loc : EnvV
  done : List Val
structure MS where
  steps : Nat
  calls : Nat
  frames : List AFr
/-- what comes next for a frame -/
inductive Nx where
  | push (e : Exp) (loc : EnvV)
  | done
  | fail (k : Nat)
/-- the next part in order -/
def ordF (f : AFr) : Nx := match (innerOf f.e)[f.done.length]? with
  | some c => .push c f.loc
  | none => .done
def ifF (c a b : Exp) (f : AFr) : Nx := match f.done with
  | [] => .push c f.loc
  | [.int k] => if k = 0 then .push b f.loc else .push a f.loc
  | [.list _] => .fail 1
  | _ => .done
def letF (x : List Nat) (a b : Exp) (f : AFr) : Nx := match f.done with
  | [] => .push a f.loc
  | [v] => .push b ((x, v) :: f.loc)
  | _ => .done
def walkF (x : List Nat) (a b : Exp) (f : AFr) : Nx := match f.done with
  | [] => .push a f.loc
  | .int _ :: _ => .fail 1
  | .list row :: r => match r.getLast? with
    | some (.list _) => .fail 1
    | _ => match row[r.length]? with
      | some n => .push b ((x, .int n) :: f.loc)
      | none => .done
def bothF (isAnd : Bool) (a b : Exp) (f : AFr) : Nx := match f.done with
  | [] => .push a f.loc
  | [.int k] => if decide (k ≠ 0) = isAnd then .push b f.loc else .done
  | [.list _] => .fail 1
  | _ => .done
def nextF (f : AFr) : Nx := match f.e with
  | .ite c a b => ifF c a b f
  | .let_ x a b => letF x a b f
  | .each x a b => walkF x a b f
  | .keep x a b => walkF x a b f
  | .and_ a b => bothF true a b f
  | .or_ a b => bothF false a b f
  | .op _ _ => ordF f
  | _ => .done
/-- .. with the calls: what comes next, and whether a call is begun -/
def nextA (p : Vbdcar.Prog) (calls : Nat) (f : AFr) : Nx × Bool := match f.e with
  | .call g l => if f.done.length < l.list.length then (ordF f, false)
    else if l.list.length < f.done.length then (.done, false)
    else if calls = 20 then (.fail 5, false)
    else match p.funs.find? fun h => h.name == g with
      | some h => (.push h.body (h.params.zip f.done), true)
      | none => (.fail 1, false)
  | _ => (nextF f, false)
def envGet (e : EnvV) (x : List Nat) : Option Val := (e.find? fun y => y.1 == x).map (·.2)
/-- the value of a frame that is through; none: that never happens -/
def valueA (io : EnvV) (f : AFr) : Option (Except Nat Val) := match f.e with
  | .num n => some (.ok (.int n))
  | .var x => match envGet f.loc x with
    | some v => some (.ok v)
    | none => (envGet io x).map .ok
  | .op o l => if f.done.length = l.list.length then some (match raw o f.done with
    | .ok v => chk v
    | .error k => .error k) else none
  | .each _ _ _ => (Vbdcar.allInts (f.done.drop 1)).map fun l => .ok (.list l)
  | .keep _ _ _ => match f.done with
    | .list row :: r => (Vbdcar.allInts r).map fun js => .ok (.list (((row.zip js).filter fun q => q.2 != 0).map (·.1)))
    | _ => none
  | .and_ _ _ => match f.done.getLast? with
    | some (.int j) => some (.ok (.int (tr (decide (j ≠ 0)))))
    | some (.list _) => some (.error 1)
    | none => none
  | .or_ _ _ => match f.done.getLast? with
    | some (.int j) => some (.ok (.int (tr (decide (j ≠ 0)))))
    | some (.list _) => some (.error 1)
    | none => none
  | _ => f.done.getLast?.map .ok
def isCall : Exp → Bool
  | .call _ _ => true
  | _ => false
/-- what a frame must be for the program's own text to go as told -/
structure Fit (f : AFr) : Prop where
  loc : f.loc.length ≤ 30
  vals : ∀ v, v ∈ f.done → VOk v
  op : ∀ o l, f.e = .op o l → arity o l.list.length
  two : isChoice f.e = true → f.done.length ≤ 2
  many : f.done.length ≤ 70
/-- the function of a call is there -/
def FitC (p : Vbdcar.Prog) (f : AFr) : Prop := ∀ g l, f.e = .call g l → ∃ h, p.funs.find? (fun h => h.name == g) = some h ∧ h.params.Nodup ∧ h.params.length ≤ 4
abbrev FitP (p : Vbdcar.Prog) (f : AFr) : Prop := Fit f ∧ FitC p f
/-- a run of the machine: so many turns, the outcome, the steps at its end -/
inductive Run (p : Vbdcar.Prog) (io : EnvV) : Nat → MS → Except Nat Val → Nat → Prop where
  | push {n s c f fs e loc b r t} (hf : FitP p f) (h : nextA p c f = (.push e loc, b)) (hs : s < 5000) (k : Run p io n ⟨s + 1, if b = true then c + 1 else c, ⟨e, loc, []⟩ :: f :: fs⟩ r t) : Run p io (n + 1) ⟨s, c, f :: fs⟩ r t
  | full {c f fs e loc b} (hf : FitP p f) (h : nextA p c f = (.push e loc, b)) : Run p io 1 ⟨5000, c, f :: fs⟩ (.error 4) 5000
  | fail {s c f fs k b} (hf : FitP p f) (h : nextA p c f = (.fail k, b)) : Run p io 1 ⟨s, c, f :: fs⟩ (.error k) s
  | vfail {s c f fs k b} (hf : FitP p f) (h : nextA p c f = (.done, b)) (hd : isCall f.e = false) (hv : valueA io f = some (.error k)) : Run p io 1 ⟨s, c, f :: fs⟩ (.error k) s
  | last {s c f v b} (hf : FitP p f) (h : nextA p c f = (.done, b)) (hc : isCall f.e = true → 0 < c) (hv : valueA io f = some (.ok v)) : Run p io 1 ⟨s, c, [f]⟩ (.ok v) s
  | pop {n s c f g fs v b r t} (hf : FitP p f) (h : nextA p c f = (.done, b)) (hc : isCall f.e = true → 0 < c) (hv : valueA io f = some (.ok v)) (hg : g.done.length ≤ 70)
      (k : Run p io n ⟨s, if isCall f.e = true then c - 1 else c, { g with done := g.done ++ [v] } :: fs⟩ r t) : Run p io (n + 1) ⟨s, c, f :: g :: fs⟩ r t
def keptOf (row js : List Int) : List Int := ((row.zip js).filter fun q => q.2 != 0).map (·.1)
theorem envGet_cons (x y : List Nat) (v : Val) (loc : EnvV) : envGet ((x, v) :: loc) y = if x = y then some v else envGet loc y := by
  unfold envGet
  rw [List.find?_cons]
  by_cases h : x = y
  · subst h; simp
  · rw [if_neg h, show ((x, v).1 == y) = false from beq_eq_false_iff_ne.mpr h]
theorem envGet_snoc (x y : List Nat) (v : Val) : ∀ l : EnvV, envGet (l ++ [(y, v)]) x = match envGet l x with | some w => some w | none => if y = x then some v else none
  | [] => by
    unfold envGet
    rw [List.nil_append, List.find?_cons]
    by_cases h : y = x
    · subst h; simp
    · simp [h, beq_eq_false_iff_ne.mpr h]
  | (z, w) :: r => by
    have ih := envGet_snoc x y v r
    unfold envGet at ih ⊢
    rw [List.cons_append, List.find?_cons, List.find?_cons]
    by_cases h : (z == x) = true
    · simp [h]
    · simp only [Bool.not_eq_true] at h
      simp only [h]
      exact ih
theorem envGet_zip_none {x : List Nat} : ∀ {ps : List (List Nat)} {vs : List Val}, x ∉ ps → envGet (ps.zip vs) x = none
  | [], _, _ => by simp [envGet]
  | _ :: _, [], _ => by simp [envGet]
  | p :: ps, v :: vs, h => by
    have h1 : ¬ p = x := fun e => h (by simp [e])
    have ih := envGet_zip_none (vs := vs) (fun hm => h (List.mem_cons_of_mem _ hm))
    unfold envGet at ih ⊢
    rw [List.zip_cons_cons, List.find?_cons, show ((p, v).1 == x) = false from beq_eq_false_iff_ne.mpr h1]
    exact ih
theorem zip_take_succ {α β : Type} {ps : List α} {vs : List β} {i : Nat} {p : α} {v : β} (h1 : ps[i]? = some p) (h2 : vs[i]? = some v) : (ps.zip vs).take (i + 1) = (ps.zip vs).take i ++ [(p, v)] := by
  have a := (List.getElem?_eq_some_iff.mp h1)
  have b := (List.getElem?_eq_some_iff.mp h2)
  obtain ⟨a1, a2⟩ := a
  obtain ⟨b1, b2⟩ := b
  have hz : (ps.zip vs)[i]? = some (p, v) := by rw [List.getElem?_eq_getElem (by rw [List.length_zip]; omega), List.getElem_zip, a2, b2]
  rw [List.take_add_one, hz] <;> rfl
theorem zip_take {α β : Type} : ∀ (ps : List α) (vs : List β) (i : Nat), (ps.zip vs).take i = (ps.take i).zip (vs.take i)
  | _, _, 0 => by simp
  | [], _, i + 1 => by simp
  | _ :: _, [], i + 1 => by simp
  | p :: ps, v :: vs, i + 1 => by simp [zip_take ps vs i]
end Bd

end
/-! ## BdMach -/
section
namespace Bd
open PySem PySem.Spec PyProof.Rows
open L2
theorem k_sfld {K : PySem.W.Frag} {ta tv : TE} {f : Str} {u : TS} {D : Ends} {σ : L2.St} {H : Hp} (h : tv σ H fun y H1 => ta σ H1 fun x H2 => ∃ a C dx fs, x = .ref a ∧ H2 a = some (.ins C dx fs) ∧ Cls K C ∧ NoAttr K C f ∧ fs.length < 1000 ∧ u D σ (upd H2 a (.ins C dx (putF f y fs)))) : tSeq (sFld K ta tv f) u D σ H := h
theorem k_test {t : TE} {σ : L2.St} {H : Hp} {Q : Bool → Hp → Prop} (h : t σ H fun x H' => ∃ k, x = .bl k ∧ Q k H') : tTest t σ H Q := h
abbrev rLenS (K : PySem.W.Frag) : List V → Hp → VK → Prop := fun xs H Q => ∃ p ys, xs = [V.ref p] ∧ (SqL K H p ys ∨ SqT K H p ys) ∧ Q (.int (ys.length : Nat)) H
/-! ## names that are known -/
def KnAt (I : Hp) (kd : Addr) (loc : EnvV) : Prop := ∃ kvs : List (Key × V), I kd = some (.dK kvs) ∧ kvs.length ≤ loc.length ∧ ∀ x, match envGet loc x with
  | some v => ∃ u, valV kvs (.inr (sB x)) = some u ∧ VAt I u v
  | none => valV kvs (.inr (sB x)) = none
theorem KnAt.mono {I I' : Hp} {kd : Addr} {loc : EnvV} (s : Same I I') (h : KnAt I kd loc) : KnAt I' kd loc := by
  obtain ⟨kvs, h1, h2, h3⟩ := h
  refine ⟨kvs, s _ _ h1, h2, fun x => ?_⟩
  have := h3 x
  cases hx : envGet loc x with
  | none => rw [hx] at this; exact this
  | some v => rw [hx] at this; obtain ⟨u, k1, k2⟩ := this; exact ⟨u, k1, k2.mono s⟩
theorem putK_len {kvs : List (Key × V)} {k : Key} {v : V} : (putK kvs k v).length ≤ kvs.length + 1 := by
  unfold putK
  split
  · rw [List.length_map]; omega
  · simp
theorem KnAt.put {I : Hp} {kd : Addr} {kvs : List (Key × V)} {loc : EnvV} {x : List Nat} {u : V} {v : Val} (hI : I kd = some (.dK (putK kvs (.inr (sB x)) u))) (hl : kvs.length ≤ loc.length)
    (h : ∀ x, match envGet loc x with | some v => ∃ u, valV kvs (.inr (sB x)) = some u ∧ VAt I u v | none => valV kvs (.inr (sB x)) = none) (hu : VAt I u v) : KnAt I kd ((x, v) :: loc) := by
  refine ⟨_, hI, Nat.le_trans putK_len (by rw [List.length_cons]; omega), fun y => ?_⟩
  rw [envGet_cons, valV_put]
  by_cases e : x = y
  · subst e
    rw [if_pos rfl, if_pos rfl]
    exact ⟨u, rfl, hu⟩
  · rw [if_neg e, if_neg (fun z => e (sB_inj (Sum.inr.inj z)).symm)]
    exact h y
theorem knNil {I : Hp} {kd : Addr} (h : I kd = some (.dK [])) : KnAt I kd [] := ⟨[], h, Nat.le_refl _, fun _ => rfl⟩
/-! ## frames -/
abbrev frF (ue : V) (kd d : Addr) : List (Str × V) := [("expression", ue), ("known", .ref kd), ("done", .ref d)]
def FrameAt (I H : Hp) (u : V) (d : Addr) (f : AFr) : Prop := ∃ a dx ue kd xs, u = .ref a ∧ I a = some (.ins cFrame dx (frF ue kd d)) ∧ ExpAt I ue f.e ∧ KnAt I kd f.loc ∧ H d = some (.lst xs) ∧ VAll I xs f.done
abbrev NxOut (I H : Hp) (Q : VK) (E : XK) (r : Nx) : Prop := match r with
  | .push e loc => ∀ t ue kd I2 H2, Ext I H I2 H2 → I2 t = some (.tup [ue, .ref kd]) → ExpAt I2 ue e → KnAt I2 kd loc → Q (.ref t) H2
  | .done => Q .non H
  | .fail k => ∀ I2 H2, Ext I H I2 H2 → errF E H2 k
theorem nxPush {I H I1 H1 : Hp} {Q : VK} {E : XK} {p kd : Addr} {ue : V} {e : Exp} {loc : EnvV} (x : Ext I H I1 H1) (hp : H1 p = none) (he : ExpAt I1 ue e) (hk : KnAt I1 kd loc) (q : NxOut I H Q E (.push e loc)) : Q (.ref p) (upd H1 p (.tup [ue, .ref kd])) :=
  have s := Same.new (o := HO.tup [ue, .ref kd]) (x.ih.free hp)
  q p ue kd _ _ (x.new hp) upd_same (he.mono s) (hk.mono s)
theorem two_ok {a b : V} : [a, b].length ≤ sizeLine := by rw [sizeLine_eq]; show 2 ≤ 16777216; decide
section
variable {w : World} {K : PySem.W.Frag} {mg : Str → Option Value} {base : Heap}
abbrev sp_with_name : Sp := Sp3 fun u v y H Q _ => ∃ (I : Hp) (kd : Addr) (loc : EnvV) (x : List Nat) (z : Val), Same I H ∧ u = .ref kd ∧ KnAt I kd loc ∧ loc.length ≤ 30 ∧ v = .str (sB x) ∧ VAt I y z ∧ ∀ k2 I' H', Ext I H I' H' → KnAt I' k2 ((x, z) :: loc) → Q (.ref k2) H'
abbrev n_with_name : List Str := ["known", "name", "value", "result"]
theorem sc_with_name : FnScope n_with_name ["known", "name", "value"] (defScope s_with_name) := ⟨rfl, rfl, rfl, by decide +kernel, rfl, by decide +kernel, by decide +kernel⟩
theorem d_with_name (T : Tx w K mg)  : Def w K mg base 1 "with_name" ["known", "name", "value"] (sp_with_name) :=
  mkDef3 T f_with_name rfl rfl sc_with_name rfl (fun _ _ _ _ _ _ us hl => match us, hl with | [_, _, _], _ => rfl) fun u v y cdv A outer s H Q E hr h =>
  ⟨_, (pss_cons (ps_set (i := 3) sc_with_name.nd rfl (Or.inl rfl) (pe_callTy call_dictD (by rfl) T.fr_dict (by decide +kernel) (pa_cons (pv 0) pa_nil)))
  (pss_cons (ps_dput (hu_of hr) (pv 3) (pv 1) (pv 2) rfl)
  (pss_one (ps_ret (pv 3))))), by
  obtain ⟨I, kd, loc, x, z, sI, rfl, hk, hl, rfl, hz, q⟩ := h
  obtain ⟨kvs, h1, h2, h3⟩ := hk
  refine k_sset ⟨_, rfl, kd, kvs, rfl, .inl (sI _ _ h1), fun p hp => ?_⟩
  refine ⟨_, rfl, _, rfl, _, rfl, p, _, rfl, DPut.k (k := .inr (sB x)) upd_same (by rw [sizeLine_eq]; omega), ?_⟩
  refine ⟨_, rfl, ?_⟩
  rw [upd_upd]
  have s := Same.new (o := HO.dK (putK kvs (.inr (sB x)) y)) (sI.free hp)
  refine q p _ _ ((Ext.refl sI).new hp) (KnAt.put (kvs := kvs) upd_same h2 (fun x => ?_) (hz.mono s))
  have := h3 x
  cases hx : envGet loc x with
  | none => rw [hx] at this; exact this
  | some v => rw [hx] at this; obtain ⟨u, k1, k2⟩ := this; exact ⟨u, k1, k2.mono s⟩⟩
abbrev spN (P : AFr → Prop) (F : AFr → Nx) : Sp := Sp1 fun u H Q E => ∃ (I : Hp) (d : Addr) (f : AFr), Same I H ∧ FrameAt I H u d f ∧ Fit f ∧ P f ∧ NxOut I H Q E (F f)
abbrev n_next_in_order : List Str := ["frame", "count"]
theorem sc_next_in_order : FnScope n_next_in_order ["frame"] (defScope s_next_in_order) := ⟨rfl, rfl, rfl, by decide +kernel, rfl, by decide +kernel, by decide +kernel⟩
theorem d_next_in_order (T : Tx w K mg)  : Def w K mg base 1 "next_in_order" ["frame"] (spN (fun _ => True) ordF) :=
  mkDef1 T f_next_in_order rfl rfl sc_next_in_order rfl (fun _ _ _ _ _ _ us hl => match us, hl with | [_], _ => rfl) fun u cdv A outer s H Q E hr h =>
  ⟨_, (pss_cons (ps_set (i := 1) sc_next_in_order.nd rfl (Or.inl rfl) (pe_callB call_len_seq (by rfl) T.fr_len (by decide +kernel) (pa_cons (pe_fld (pv 0) rfl) pa_nil)))
  (pss_cons (ps_if (pt_cmpR op_lt (pv 1) (pe_callB call_len_seq (by rfl) T.fr_len (by decide +kernel) (pa_cons (pe_fld (pe_fld (pv 0) rfl) rfl) pa_nil)) (nomark _)) (pss_one (ps_ret (pe_tup (pa_cons (pe_ix ix_list (pe_fld (pe_fld (pv 0) rfl) rfl) (pv 1) (fun _ _ => rfl)) (pa_cons (pe_fld (pv 0) rfl) pa_nil))))) pss_nil)
  (pss_one (ps_ret pe_non)))), by
  obtain ⟨I, d, f, sI, hf, hfit, _, q⟩ := h
  obtain ⟨a, dx, ue, kd, xs, rfl, ha, he, hk, hd, hv⟩ := hf
  obtain ⟨b, dx2, li, ys, rfl, g1, g2, g3, g4, g5⟩ := id he.at
  have hn := paired_len hv
  have E0 := Ext.refl sI
  have hin : L2.Val (tFld K (tFld K (tVar 0) "expression") "inner") (start n_next_in_order [.ref a]) H (.ref li) := val_fld (val_fld (val_var rfl) (sI _ _ ha) T.c_Frame T.n_Frame_expression rfl) (sI _ _ g1) T.c_Expression T.n_Expression_inner rfl
  have hl1 : SqL K H li ys := .inl (.inl (sI _ _ g2))
  refine k_sset (k_cb (k_cons (val_fld (val_var rfl) (sI _ _ ha) T.c_Frame T.n_Frame_done rfl _ ⟨d, xs, rfl, .inl (.inl (.inl hd)), ?_⟩)))
  have hin2 : L2.Val (tFld K (tFld K (tVar 0) "expression") "inner") ((start n_next_in_order [.ref a]).set 1 (some (.int xs.length))) H (.ref li) := val_fld (val_fld (val_var rfl) (sI _ _ ha) T.c_Frame T.n_Frame_expression rfl) (sI _ _ g1) T.c_Expression T.n_Expression_inner rfl
  refine k_sifN ⟨_, rfl, k_cb (k_cons (hin2 _ ⟨li, ys, rfl, .inl hl1, _, _, rfl, rfl, _, rfl, ?_⟩))⟩
  unfold ordF at q
  by_cases hlt : xs.length < ys.length
  · rw [decide_eq_true (by omega)]
    have hc : (innerOf f.e)[f.done.length]? = some ((innerOf f.e)[f.done.length]'(by omega)) := List.getElem?_eq_getElem _
    have hx : ys[xs.length]? = some ys[xs.length] := List.getElem?_eq_getElem hlt
    rw [hc] at q
    refine iteT (k_ret (k_op (hin2 _ ⟨_, rfl, li, ys, _, _, rfl, rfl, hl1, atI_nat hx, val_fld (val_var rfl) (sI _ _ ha) T.c_Frame T.n_Frame_known rfl _ ⟨two_ok, fun p hp => ?_⟩⟩)))
    exact nxPush E0 hp (g5 _ _ _ hx (by rw [hn]; exact hc)) hk q
  · rw [decide_eq_false (by omega)]
    rw [List.getElem?_eq_none_iff.mpr (by omega)] at q
    exact iteF q⟩

/-- if len(frame.done) == n -/
theorem ifLen (T : Tx w K mg) {i n : Nat} {a dx kd d : Addr} {ue : V} {xs : List V} {t v : TS} {D : Ends} {σ : L2.St} {H : Hp} (h0 : σ[i]? = some (some (.ref a))) (ha : H a = some (.ins cFrame dx (frF ue kd d))) (hd : H d = some (.lst xs))
    (h : if decide (xs.length = n) = true then t { D with nx := v D } σ H else v D σ H) : tSeq (tIfS (tTest (tOp rEq (tCB (rLenS K) (tCons (tFld K (tVar i) "done") tNil)) (tC (.int (n : Nat))))) t tNext) v D σ H := by
  refine k_sifN (k_test (k_op (k_cb (k_cons (val_fld (val_var h0) ha T.c_Frame T.n_Frame_done rfl _ ⟨d, xs, rfl, .inl (.inl (.inl hd)), rfl, _, rfl, ?_⟩)))))
  rw [dI]
  have e : decide (((xs.length : Nat) : Int) = ((n : Nat) : Int)) = decide (xs.length = n) := by
    by_cases hh : xs.length = n
    · rw [decide_eq_true hh, decide_eq_true (by omega)]
    · rw [decide_eq_false hh, decide_eq_false (by omega)]
  rw [e]
  exact h
/-- (inner[n], frame.known) -/
theorem retPair (T : Tx w K mg) (n : Nat) {a dx kd d li : Addr} {ue y : V} {ys : List V} {D : Ends} {σ : L2.St} {H : Hp} (h0 : σ[0]? = some (some (.ref a))) (h1 : σ[1]? = some (some (.ref li))) (ha : H a = some (.ins cFrame dx (frF ue kd d)))
    (hl : SqL K H li ys) (hy : ys[n]? = some y) (h : ∀ p, H p = none → D.rt (.ref p) (upd H p (.tup [y, .ref kd]))) : tRet (tTup (tCons (tOp (rIxL K) (tVar 1) (tC (.int (n : Nat)))) (tCons (tFld K (tVar 0) "known") tNil))) D σ H :=
  k_ret (k_op (k_var h1 (k_c ⟨li, ys, _, y, rfl, rfl, hl, atI_nat hy, val_fld (val_var h0) ha T.c_Frame T.n_Frame_known rfl _ ⟨two_ok, h⟩⟩)))
/-- frame.done[n] as a number -/
theorem doneN (T : Tx w K mg) (n : Nat) {I : Hp} {a dx kd d : Addr} {ue u : V} {x : Val} {xs : List V} {σ : L2.St} {H : Hp} {Q : VK} {E : XK} (sI : Same I H) (h0 : σ[0]? = some (some (.ref a))) (ha : H a = some (.ins cFrame dx (frF ue kd d))) (hd : H d = some (.lst xs)) (hu : xs[n]? = some u) (hx : VAt I u x)
    (h : ∀ k, x = .int k → u = .int k → Q u H) (hb : ∀ l, x = .list l → errF E H 1) : tCall sp_as_number [] E (tCons (tOp (rIxL K) (tFld K (tVar 0) "done") (tC (.int (n : Nat)))) tNil) σ H Q :=
  k_call (k_cons (k_op (val_fld (val_var h0) ha T.c_Frame T.n_Frame_done rfl _ (k_c ⟨d, xs, _, u, rfl, rfl, .inl (.inl hd), atI_nat hu, asN sI hx h hb⟩))))
theorem vInner (T : Tx w K mg) {i : Nat} {a dx kd d b dx2 li : Addr} {k wd : Str} {nn : Int} {σ : L2.St} {H : Hp} (h0 : σ[i]? = some (some (.ref a))) (ha : H a = some (.ins cFrame dx (frF (.ref b) kd d))) (hb : H b = some (.ins cExpression dx2 (expF k wd nn li))) : L2.Val (tFld K (tFld K (tVar i) "expression") "inner") σ H (.ref li) :=
  val_fld (val_fld (val_var h0) ha T.c_Frame T.n_Frame_expression rfl) hb T.c_Expression T.n_Expression_inner rfl
abbrev n_next_of_if : List Str := ["frame", "inner"]
theorem sc_next_of_if : FnScope n_next_of_if ["frame"] (defScope s_next_of_if) := ⟨rfl, rfl, rfl, by decide +kernel, rfl, by decide +kernel, by decide +kernel⟩
theorem d_next_of_if (T : Tx w K mg)  : Def w K mg base 4 "next_of_if" ["frame"] (spN (fun f => ∃ c a b, f.e = .ite c a b) nextF) :=
  mkDef1 T f_next_of_if rfl rfl sc_next_of_if rfl (fun _ _ _ _ _ _ us hl => match us, hl with | [_], _ => rfl) fun u cdv A outer s H Q E hr h =>
  ⟨_, (pss_cons (ps_set (i := 1) sc_next_of_if.nd rfl (Or.inl rfl) (pe_fld (pe_fld (pv 0) rfl) rfl))
  (pss_cons (ps_if (pt_cmpR op_eq (pe_callB call_len_seq (by rfl) T.fr_len (by decide +kernel) (pa_cons (pe_fld (pv 0) rfl) pa_nil)) pe_int (nomark _)) (pss_one (ps_ret (pe_tup (pa_cons (pe_ix ix_list (pv 1) pe_int (fun _ _ => rfl)) (pa_cons (pe_fld (pv 0) rfl) pa_nil))))) pss_nil)
  (pss_cons (ps_if (pt_cmpR op_eq (pe_callB call_len_seq (by rfl) T.fr_len (by decide +kernel) (pa_cons (pe_fld (pv 0) rfl) pa_nil)) pe_int (nomark _)) (pss_one (ps_ret pe_non)) pss_nil)
  (pss_cons (ps_if (pt_cmpR op_ne (pe_c (d_as_number T) hr pz (pa_cons (pe_ix ix_list (pe_fld (pv 0) rfl) pe_int (fun _ _ => rfl)) pa_nil)) pe_int (nomark _)) (pss_one (ps_ret (pe_tup (pa_cons (pe_ix ix_list (pv 1) pe_int (fun _ _ => rfl)) (pa_cons (pe_fld (pv 0) rfl) pa_nil))))) pss_nil)
  (pss_one (ps_ret (pe_tup (pa_cons (pe_ix ix_list (pv 1) pe_int (fun _ _ => rfl)) (pa_cons (pe_fld (pv 0) rfl) pa_nil))))))))), by
  obtain ⟨I, d, ⟨e, loc, dn⟩, sI, hf, hfit, ⟨c0, a0, b0, he0⟩, q⟩ := h
  obtain rfl : e = _ := he0
  obtain ⟨a, dx, ue, kd, xs, rfl, ha, he, hk, hd, hv⟩ := hf
  obtain ⟨b, dx2, li, ys, rfl, g1, g2, g3, g4, g5⟩ := id he.at
  change VAll I xs dn at hv
  have E0 := Ext.refl sI
  have hl1 : SqL K H li ys := .inl (.inl (sI _ _ g2))
  have ha := sI _ _ ha
  obtain ⟨y0, y1, y2, rfl⟩ := len3 g3
  have q : NxOut I H Q E (ifF c0 a0 b0 ⟨_, loc, dn⟩) := q
  have htwo : dn.length ≤ 2 := hfit.two rfl
  refine k_sset (vInner T rfl ha (sI _ _ g1) _ ?_)
  refine ifLen T (n := 0) rfl ha hd ?_
  cases hv with
  | nil => exact iteT (retPair T 0 rfl rfl ha hl1 rfl fun p hp => nxPush E0 hp (g5 0 _ _ rfl rfl) hk q)
  | @cons u x xr vr hx t =>
    refine iteF (ifLen T (n := 2) rfl ha hd ?_)
    cases t with
    | nil =>
      refine iteF (k_sifN (k_test (k_op (doneN T 0 sI rfl ha hd rfl hx (fun k e1 e2 => ?_) fun l e1 => ?_))))
      · subst e1 e2
        refine k_c ⟨rfl, _, rfl, ?_⟩
        rw [dI]
        have q : NxOut I H Q E (if k = 0 then .push b0 loc else .push a0 loc) := q
        by_cases hz : k = 0
        · rw [if_pos hz] at q
          rw [decide_eq_true hz]
          exact iteF (retPair T 2 rfl rfl ha hl1 rfl fun p hp => nxPush E0 hp (g5 2 _ _ rfl rfl) hk q)
        · rw [if_neg hz] at q
          rw [decide_eq_false hz]
          exact iteT (retPair T 1 rfl rfl ha hl1 rfl fun p hp => nxPush E0 hp (g5 1 _ _ rfl rfl) hk q)
      · subst e1
        exact q I H E0
    | cons hx2 t2 =>
      cases t2 with
      | nil =>
        refine iteT ?_
        cases x <;> exact q
      | cons _ _ => simp at htwo⟩
abbrev n_next_of_let : List Str := ["frame", "inner"]
theorem sc_next_of_let : FnScope n_next_of_let ["frame"] (defScope s_next_of_let) := ⟨rfl, rfl, rfl, by decide +kernel, rfl, by decide +kernel, by decide +kernel⟩
theorem d_next_of_let (T : Tx w K mg)  : Def w K mg base 4 "next_of_let" ["frame"] (spN (fun f => ∃ x a b, f.e = .let_ x a b) nextF) :=
  mkDef1 T f_next_of_let rfl rfl sc_next_of_let rfl (fun _ _ _ _ _ _ us hl => match us, hl with | [_], _ => rfl) fun u cdv A outer s H Q E hr h =>
  ⟨_, (pss_cons (ps_set (i := 1) sc_next_of_let.nd rfl (Or.inl rfl) (pe_fld (pe_fld (pv 0) rfl) rfl))
  (pss_cons (ps_if (pt_cmpR op_eq (pe_callB call_len_seq (by rfl) T.fr_len (by decide +kernel) (pa_cons (pe_fld (pv 0) rfl) pa_nil)) pe_int (nomark _)) (pss_one (ps_ret (pe_tup (pa_cons (pe_ix ix_list (pv 1) pe_int (fun _ _ => rfl)) (pa_cons (pe_fld (pv 0) rfl) pa_nil))))) pss_nil)
  (pss_cons (ps_if (pt_cmpR op_eq (pe_callB call_len_seq (by rfl) T.fr_len (by decide +kernel) (pa_cons (pe_fld (pv 0) rfl) pa_nil)) pe_int (nomark _)) (pss_one (ps_ret (pe_tup (pa_cons (pe_ix ix_list (pv 1) pe_int (fun _ _ => rfl)) (pa_cons (pe_c (d_with_name T) hr pz (pa_cons (pe_fld (pv 0) rfl) (pa_cons (pe_fld (pe_fld (pv 0) rfl) rfl) (pa_cons (pe_ix ix_list (pe_fld (pv 0) rfl) pe_int (fun _ _ => rfl)) pa_nil)))) pa_nil))))) pss_nil)
  (pss_one (ps_ret pe_non))))), by
  obtain ⟨I, d, ⟨e, loc, dn⟩, sI, hf, hfit, ⟨x0, a0, b0, he0⟩, q⟩ := h
  obtain rfl : e = _ := he0
  obtain ⟨a, dx, ue, kd, xs, rfl, ha, he, hk, hd, hv⟩ := hf
  obtain ⟨b, dx2, li, ys, rfl, g1, g2, g3, g4, g5⟩ := id he.at
  change VAll I xs dn at hv
  have E0 := Ext.refl sI
  have hl1 : SqL K H li ys := .inl (.inl (sI _ _ g2))
  have ha := sI _ _ ha
  obtain ⟨y0, y1, rfl⟩ := len2 g3
  have q : NxOut I H Q E (letF x0 a0 b0 ⟨_, loc, dn⟩) := q
  refine k_sset (vInner T rfl ha (sI _ _ g1) _ ?_)
  refine ifLen T (n := 0) rfl ha hd ?_
  cases hv with
  | nil => exact iteT (retPair T 0 rfl rfl ha hl1 rfl fun p hp => nxPush E0 hp (g5 0 _ _ rfl rfl) hk q)
  | @cons u x xr vr hx t =>
    refine iteF (ifLen T (n := 1) rfl ha hd ?_)
    cases t with
    | nil =>
      refine iteT (k_ret ⟨_, rfl, li, _, _, _, rfl, rfl, hl1, rfl, _, rfl, a, _, dx, _, _, rfl, ha, T.c_Frame, T.n_Frame_known, rfl, _, rfl, a, _, dx, _, _, rfl, ha, T.c_Frame, T.n_Frame_expression, rfl, b, _, dx2, _, _, rfl, sI _ _ g1, T.c_Expression, T.n_Expression_word, rfl, _, rfl, a, _, dx, _, _, rfl, ha, T.c_Frame, T.n_Frame_done, rfl, d, _, _, _, rfl, rfl, .inl (.inl hd), rfl, _, _, _, rfl, I, kd, loc, x0, x, sI, rfl, hk, hfit.loc, rfl, hx, fun k2 I' H' e' hk2 => ⟨two_ok, fun p hp => ?_⟩⟩)
      exact nxPush e' hp ((g5 1 _ _ rfl rfl).mono e'.ii) hk2 q
    | cons _ _ => exact iteF q⟩
abbrev n_next_of_both : List Str := ["frame", "inner", "is_true"]
theorem sc_next_of_both : FnScope n_next_of_both ["frame"] (defScope s_next_of_both) := ⟨rfl, rfl, rfl, by decide +kernel, rfl, by decide +kernel, by decide +kernel⟩
theorem d_next_of_both (T : Tx w K mg)  : Def w K mg base 4 "next_of_both" ["frame"] (spN (fun f => (∃ a b, f.e = .and_ a b) ∨ (∃ a b, f.e = .or_ a b)) nextF) :=
  mkDef1 T f_next_of_both rfl rfl sc_next_of_both rfl (fun _ _ _ _ _ _ us hl => match us, hl with | [_], _ => rfl) fun u cdv A outer s H Q E hr h =>
  ⟨_, (pss_cons (ps_set (i := 1) sc_next_of_both.nd rfl (Or.inl rfl) (pe_fld (pe_fld (pv 0) rfl) rfl))
  (pss_cons (ps_if (pt_cmpR op_eq (pe_callB call_len_seq (by rfl) T.fr_len (by decide +kernel) (pa_cons (pe_fld (pv 0) rfl) pa_nil)) pe_int (nomark _)) (pss_one (ps_ret (pe_tup (pa_cons (pe_ix ix_list (pv 1) pe_int (fun _ _ => rfl)) (pa_cons (pe_fld (pv 0) rfl) pa_nil))))) pss_nil)
  (pss_cons (ps_if (pt_cmpR op_eq (pe_callB call_len_seq (by rfl) T.fr_len (by decide +kernel) (pa_cons (pe_fld (pv 0) rfl) pa_nil)) pe_int (nomark _)) (pss_one (ps_ret pe_non)) pss_nil)
  (pss_cons (ps_set (i := 2) sc_next_of_both.nd rfl (Or.inl rfl) (pe_cmpR op_ne (pe_c (d_as_number T) hr pz (pa_cons (pe_ix ix_list (pe_fld (pv 0) rfl) pe_int (fun _ _ => rfl)) pa_nil)) pe_int (nomark _)))
  (pss_cons (ps_if (pt_cmpR op_eq (pv 2) (pe_cmpR op_eq (pe_fld (pe_fld (pv 0) rfl) rfl) pe_str (nomark _)) (nomark _)) (pss_one (ps_ret (pe_tup (pa_cons (pe_ix ix_list (pv 1) pe_int (fun _ _ => rfl)) (pa_cons (pe_fld (pv 0) rfl) pa_nil))))) pss_nil)
  (pss_one (ps_ret pe_non))))))), by
  obtain ⟨I, d, ⟨e, loc, dn⟩, sI, hf, hfit, hor, q⟩ := h
  obtain ⟨a, dx, ue, kd, xs, rfl, ha, he, hk, hd, hv⟩ := hf
  obtain ⟨b, dx2, li, ys, rfl, g1, g2, g3, g4, g5⟩ := id he.at
  obtain ⟨isA, a0, b0, hin, hkk, hq, hch⟩ : ∃ isA a0 b0, innerOf e = [a0, b0] ∧ decide (Str.ofString (kindOf e) = Str.ofString "and") = isA ∧ nextF ⟨e, loc, dn⟩ = bothF isA a0 b0 ⟨e, loc, dn⟩ ∧ isChoice e = true := by
    rcases hor with ⟨a0, b0, he0⟩ | ⟨a0, b0, he0⟩
    · obtain rfl : e = _ := he0
      exact ⟨true, a0, b0, rfl, (by decide +kernel : decide (Str.ofString "and" = Str.ofString "and") = true), rfl, rfl⟩
    · obtain rfl : e = _ := he0
      exact ⟨false, a0, b0, rfl, (by decide +kernel : decide (Str.ofString "or" = Str.ofString "and") = false), rfl, rfl⟩
  rw [hq] at q
  change VAll I xs dn at hv
  have E0 := Ext.refl sI
  have hl1 : SqL K H li ys := .inl (.inl (sI _ _ g2))
  have ha := sI _ _ ha
  change ys.length = (innerOf e).length at g3
  change ∀ (i : Nat) x c, ys[i]? = some x → (innerOf e)[i]? = some c → ExpAt I x c at g5
  rw [hin] at g3 g5
  obtain ⟨y0, y1, rfl⟩ := len2 g3
  have htwo : dn.length ≤ 2 := hfit.two hch
  refine k_sset (vInner T rfl ha (sI _ _ g1) _ ?_)
  refine ifLen T (n := 0) rfl ha hd ?_
  cases hv with
  | nil => exact iteT (retPair T 0 rfl rfl ha hl1 rfl fun p hp => nxPush E0 hp (g5 0 _ _ rfl rfl) hk q)
  | @cons u x xr vr hx t =>
    refine iteF (ifLen T (n := 2) rfl ha hd ?_)
    cases t with
    | nil =>
      refine iteF (k_sset (k_op (doneN T 0 sI rfl ha hd rfl hx (fun k e1 e2 => ?_) fun l e1 => ?_)))
      · subst e1 e2
        refine k_c ⟨rfl, ?_⟩
        rw [dI]
        refine k_sifN ⟨_, rfl, _, rfl, a, _, dx, _, _, rfl, ha, T.c_Frame, T.n_Frame_expression, rfl, b, _, dx2, _, _, rfl, sI _ _ g1, T.c_Expression, T.n_Expression_kind, rfl, rfl, rfl, _, rfl, ?_⟩
        rw [dB, dS, hkk]
        have q : NxOut I H Q E (if decide (k ≠ 0) = isA then .push b0 loc else .done) := q
        have e3 : (!decide (k = 0)) = decide (k ≠ 0) := by by_cases hz : k = 0 <;> simp [hz]
        rw [e3]
        by_cases hz : decide (k ≠ 0) = isA
        · rw [if_pos hz] at q
          rw [decide_eq_true hz]
          exact iteT (retPair T 1 rfl rfl ha hl1 rfl fun p hp => nxPush E0 hp (g5 1 _ _ rfl rfl) hk q)
        · rw [if_neg hz] at q
          rw [decide_eq_false hz]
          exact iteF q
      · subst e1
        exact q I H E0
    | cons hx2 t2 =>
      cases t2 with
      | nil =>
        refine iteT ?_
        cases x <;> exact q
      | cons _ _ => simp at htwo⟩

theorem atI_last {xs : List V} {u : V} (n : Nat) (i : Int) (hi : i = (n : Int) + 1) (hu : xs[n]? = some u) : atI xs (i - 1) = some u := by
  have e : i - 1 = ((n : Nat) : Int) := by omega
  rw [e]
  exact atI_nat hu
abbrev n_next_of_walk : List Str := ["frame", "inner", "count", "row"]
theorem sc_next_of_walk : FnScope n_next_of_walk ["frame"] (defScope s_next_of_walk) := ⟨rfl, rfl, rfl, by decide +kernel, rfl, by decide +kernel, by decide +kernel⟩
theorem d_next_of_walk (T : Tx w K mg)  : Def w K mg base 4 "next_of_walk" ["frame"] (spN (fun f => (∃ x a b, f.e = .each x a b) ∨ (∃ x a b, f.e = .keep x a b)) nextF) :=
  mkDef1 T f_next_of_walk rfl rfl sc_next_of_walk rfl (fun _ _ _ _ _ _ us hl => match us, hl with | [_], _ => rfl) fun u cdv A outer s H Q E hr h =>
  ⟨_, (pss_cons (ps_set (i := 1) sc_next_of_walk.nd rfl (Or.inl rfl) (pe_fld (pe_fld (pv 0) rfl) rfl))
  (pss_cons (ps_set (i := 2) sc_next_of_walk.nd rfl (Or.inl rfl) (pe_callB call_len_seq (by rfl) T.fr_len (by decide +kernel) (pa_cons (pe_fld (pv 0) rfl) pa_nil)))
  (pss_cons (ps_if (pt_cmpR op_eq (pv 2) pe_int (nomark _)) (pss_one (ps_ret (pe_tup (pa_cons (pe_ix ix_list (pv 1) pe_int (fun _ _ => rfl)) (pa_cons (pe_fld (pv 0) rfl) pa_nil))))) pss_nil)
  (pss_cons (ps_set (i := 3) sc_next_of_walk.nd rfl (Or.inl rfl) (pe_c (d_as_list T) hr pz (pa_cons (pe_ix ix_list (pe_fld (pv 0) rfl) pe_int (fun _ _ => rfl)) pa_nil)))
  (pss_cons (ps_if (pt_cmpR op_gt (pv 2) pe_int (nomark _)) (pss_one (ps_expr (pe_c (d_as_number T) hr pz (pa_cons (pe_ix ix_list (pe_fld (pv 0) rfl) (pe_op op_sub (pv 2) pe_int) (fun _ _ => rfl)) pa_nil)))) pss_nil)
  (pss_cons (ps_if (pt_cmpR op_le (pv 2) (pe_callB call_len_seq (by rfl) T.fr_len (by decide +kernel) (pa_cons (pv 3) pa_nil)) (nomark _)) (pss_one (ps_ret (pe_tup (pa_cons (pe_ix ix_list (pv 1) pe_int (fun _ _ => rfl)) (pa_cons (pe_c (d_with_name T) hr pz (pa_cons (pe_fld (pv 0) rfl) (pa_cons (pe_fld (pe_fld (pv 0) rfl) rfl) (pa_cons (pe_ix ix_list (pv 3) (pe_op op_sub (pv 2) pe_int) (fun _ _ => rfl)) pa_nil)))) pa_nil))))) pss_nil)
  (pss_one (ps_ret pe_non)))))))), by
  obtain ⟨I, d, ⟨e, loc, dn⟩, sI, hf, hfit, hor, q⟩ := h
  obtain ⟨a, dx, ue, kd, xs, rfl, ha, he, hk, hd, hv⟩ := hf
  obtain ⟨b, dx2, li, ys, rfl, g1, g2, g3, g4, g5⟩ := id he.at
  obtain ⟨x0, a0, b0, hin, hq, hwd⟩ : ∃ x0 a0 b0, innerOf e = [a0, b0] ∧ nextF ⟨e, loc, dn⟩ = walkF x0 a0 b0 ⟨e, loc, dn⟩ ∧ wordOf e = sB x0 := by
    rcases hor with ⟨x0, a0, b0, he0⟩ | ⟨x0, a0, b0, he0⟩
    · obtain rfl : e = _ := he0
      exact ⟨x0, a0, b0, rfl, rfl, rfl⟩
    · obtain rfl : e = _ := he0
      exact ⟨x0, a0, b0, rfl, rfl, rfl⟩
  rw [hq] at q
  change VAll I xs dn at hv
  change I b = some (.ins cExpression dx2 (expF (Str.ofString (kindOf e)) (wordOf e) (numOf e) li)) at g1
  rw [hwd] at g1
  have E0 := Ext.refl sI
  have hl1 : SqL K H li ys := .inl (.inl (sI _ _ g2))
  have ha := sI _ _ ha
  change ys.length = (innerOf e).length at g3
  change ∀ (i : Nat) x c, ys[i]? = some x → (innerOf e)[i]? = some c → ExpAt I x c at g5
  rw [hin] at g3 g5
  obtain ⟨y0, y1, rfl⟩ := len2 g3
  have hq1 : SqL K H d xs := .inl (.inl hd)
  refine k_sset (vInner T rfl ha (sI _ _ g1) _ ?_)
  refine k_sset (k_cb (k_cons (val_fld (val_var rfl) ha T.c_Frame T.n_Frame_done rfl _ ⟨d, xs, rfl, .inl hq1, ?_⟩)))
  refine k_sifN ⟨_, rfl, rfl, _, rfl, ?_⟩
  rw [dI]
  cases hv with
  | nil => exact iteT (retPair T 0 rfl rfl ha hl1 rfl fun p hp => nxPush E0 hp (g5 0 _ _ rfl rfl) hk q)
  | @cons u x xr vr hx t =>
    have hlen := paired_len t
    rw [decide_eq_false (by rw [List.length_cons]; omega)]
    refine iteF (k_sset (k_call (k_cons (k_op (val_fld (val_var rfl) ha T.c_Frame T.n_Frame_done rfl _ (k_c ⟨d, _, _, u, rfl, rfl, hq1, atI_nat (j := 0) rfl, asL sI hx (fun row pr e1 e2 hrow => ?_) fun n e1 => ?_⟩))))))
    · subst e1 e2
      have hrowS : SqL K H pr (row.map V.int) := .inl (.inl (sI _ _ hrow))
      -- behind the check of the last value
      have fin : (∀ z, vr.getLast? ≠ some (.list z)) → ∀ v : TS, ∀ D : Ends, D.rt = Q → D.nx = (fun _ H' => Q .non H') → tSeq (tIfS (tTest (tOp (rI0 fun i j => V.bl (decide (i ≤ j))) (tVar 2) (tCB (rLenS K) (tCons (tVar 3) tNil))))
          (tRet (tTup (tCons (tOp (rIxL K) (tVar 1) (tC (.int 1))) (tCons (tCall sp_with_name [] E (tCons (tFld K (tVar 0) "known") (tCons (tFld K (tFld K (tVar 0) "expression") "word") (tCons (tOp (rIxL K) (tVar 3) (tOp (rI0 fun i j => V.int (i - j)) (tVar 2) (tC (.int 1)))) tNil)))) tNil)))) tNext) (tRet (tC .non)) D
          [some (.ref a), some (.ref li), some (.int ((V.ref pr :: xr).length : Nat)), some (.ref pr)] H := by
        intro hno _ D hD hN
        refine k_sifN ⟨_, rfl, _, rfl, pr, row.map V.int, rfl, .inl hrowS, _, _, rfl, rfl, _, rfl, ?_⟩
        have q : NxOut I H Q E (match vr.getLast? with | some (.list _) => Nx.fail 1 | _ => match row[vr.length]? with | some n => Nx.push b0 ((x0, .int n) :: loc) | none => Nx.done) := q
        have q : NxOut I H Q E (match row[vr.length]? with | some n => Nx.push b0 ((x0, .int n) :: loc) | none => Nx.done) := by
          cases hg : vr.getLast? with
          | none => rw [hg] at q; exact q
          | some z =>
            cases z with
            | int m => rw [hg] at q; exact q
            | list m => exact absurd hg (hno m)
        rw [List.length_map, List.length_cons]
        by_cases hlt : vr.length < row.length
        · rw [decide_eq_true (by omega)]
          rw [List.getElem?_eq_getElem hlt] at q
          have hr : (row.map V.int)[vr.length]? = some (.int row[vr.length]) := by rw [List.getElem?_map, List.getElem?_eq_getElem hlt] <;> rfl
          refine iteT (k_ret ⟨_, rfl, li, _, _, _, rfl, rfl, hl1, rfl, _, rfl, a, _, dx, _, _, rfl, ha, T.c_Frame, T.n_Frame_known, rfl, _, rfl, a, _, dx, _, _, rfl, ha, T.c_Frame, T.n_Frame_expression, rfl, b, _, dx2, _, _, rfl, sI _ _ g1, T.c_Expression, T.n_Expression_word, rfl, _, rfl, _, rfl, _, _, rfl, rfl, pr, _, _, _, rfl, rfl, hrowS, atI_last vr.length _ (by omega) hr, _, _, _, rfl, I, kd, loc, x0, .int row[vr.length], sI, rfl, hk, hfit.loc, rfl, .int _, fun k2 I' H' e' hk2 => ⟨two_ok, fun p hp => ?_⟩⟩)
          show D.rt _ _
          rw [hD]
          exact nxPush e' hp ((g5 1 _ _ rfl rfl).mono e'.ii) hk2 q
        · rw [decide_eq_false (by omega)]
          rw [List.getElem?_eq_none_iff.mpr (by omega)] at q
          refine iteF ?_
          show D.rt _ _
          rw [hD]
          exact q
      refine k_sifN ⟨_, rfl, _, _, rfl, rfl, _, rfl, ?_⟩
      rw [List.length_cons]
      rcases Nat.eq_zero_or_pos vr.length with h0 | hpos
      · rw [decide_eq_false (by omega)]
        exact iteF (fin (fun z hz => by rw [List.length_eq_zero_iff.mp h0] at hz; cases hz) tNext _ rfl rfl)
      · rw [decide_eq_true (by omega)]
        obtain ⟨m, hm⟩ : ∃ m, vr.length = m + 1 := ⟨vr.length - 1, by omega⟩
        obtain ⟨ul, hxl⟩ : ∃ ul, xr[m]? = some ul := ⟨_, List.getElem?_eq_getElem (by omega)⟩
        obtain ⟨z, hz, hzz⟩ := paired_get t hxl
        have hlast : vr.getLast? = some z := by rw [List.getLast?_eq_getElem?, hm]; exact hz
        have hxs : (V.ref pr :: xr)[m + 1]? = some ul := by rw [List.getElem?_cons_succ]; exact hxl
        refine iteT ⟨_, rfl, a, _, dx, _, _, rfl, ha, T.c_Frame, T.n_Frame_done, rfl, _, rfl, _, _, rfl, rfl, d, _, _, _, rfl, rfl, hq1, atI_last (m + 1) _ (by omega) hxs, ?_⟩
        refine asN sI hzz (fun m1 e1 e2 => ?_) fun m1 e1 => ?_
        · subst e1
          exact fin (fun z hz => by rw [hlast] at hz; exact nomatch hz) tNext _ rfl rfl
        · subst e1
          have q : NxOut I H Q E (match vr.getLast? with | some (.list _) => Nx.fail 1 | _ => match row[vr.length]? with | some n => Nx.push b0 ((x0, .int n) :: loc) | none => Nx.done) := q
          rw [hlast] at q
          exact q I H E0
    · subst e1
      exact q I H E0⟩

/-! ## the machine in the heap -/
inductive FsAt (H0 I H : Hp) : List V → List Addr → List AFr → Prop where
  | nil : FsAt H0 I H [] [] []
  | cons {u d f us ds fs} (h : FrameAt I H u d f) (h0 : H0 d = none) (hi : I d = none) (t : FsAt H0 I H us ds fs) : FsAt H0 I H (u :: us) (d :: ds) (f :: fs)
abbrev mF (pv : V) (dio : Addr) (s c : Nat) (fl : Addr) : List (Str × V) := [("program", pv), ("inputs", .ref dio), ("steps", .int (s : Nat)), ("calls", .int (c : Nat)), ("frames", .ref fl)]
structure MAt (I0 H0 : Hp) (m : Addr) (p : Vbdcar.Prog) (io : EnvV) (I H : Hp) (st : MS) (rs : List V) : Prop where
  ext : Ext I0 H0 I H
  ex : ∃ dx pv dio fl ds, H0 m = none ∧ I m = none ∧ H0 fl = none ∧ I fl = none ∧ H m = some (.ins cMachine dx (mF pv dio st.steps st.calls fl)) ∧ H fl = some (.lst rs.reverse) ∧ ProgAt I pv p ∧ KnAt I dio io ∧ FsAt H0 I H rs ds st.frames ∧ fl ∉ ds ∧ ds.Nodup
theorem FrameAt.grow {I H I2 H2 : Hp} {u : V} {d : Addr} {f : AFr} (h : FrameAt I H u d f) (si : Same I I2) (hd : H2 d = H d) : FrameAt I2 H2 u d f := by
  obtain ⟨a, dx, ue, kd, xs, h1, h2, h3, h4, h5, h6⟩ := h
  exact ⟨a, dx, ue, kd, xs, h1, si _ _ h2, h3.mono si, h4.mono si, by rw [hd]; exact h5, h6.mono si⟩
theorem FrameAt.done {I H : Hp} {u : V} {d : Addr} {f : AFr} (h : FrameAt I H u d f) : ∃ xs, H d = some (.lst xs) := by
  obtain ⟨a, dx, ue, kd, xs, h1, h2, h3, h4, h5, h6⟩ := h
  exact ⟨xs, h5⟩
theorem FsAt.mem {H0 I H : Hp} : ∀ {us : List V} {ds : List Addr} {fs : List AFr}, FsAt H0 I H us ds fs → ∀ d, d ∈ ds → ∃ xs, H d = some (.lst xs)
  | _, _, _, .nil, d, h => by simp at h
  | _, _, _, .cons h h0 hi t, d, hm => by
    rcases List.mem_cons.mp hm with rfl | hm
    · exact h.done
    · exact t.mem d hm
theorem FsAt.grow {H0 I H I2 H2 : Hp} (si : Same I I2) : ∀ {us : List V} {ds : List Addr} {fs : List AFr}, FsAt H0 I H us ds fs → (∀ d, d ∈ ds → H2 d = H d ∧ I2 d = none) → FsAt H0 I2 H2 us ds fs
  | _, _, _, .nil, _ => .nil
  | _, _, _, .cons h h0 _ t, hd => .cons (h.grow si (hd _ (by simp)).1) h0 (hd _ (by simp)).2 (t.grow si fun d hm => hd d (by simp [hm]))
theorem FsAt.noneI {H0 I H : Hp} : ∀ {us : List V} {ds : List Addr} {fs : List AFr}, FsAt H0 I H us ds fs → ∀ d, d ∈ ds → I d = none ∧ H0 d = none
  | _, _, _, .nil, d, h => by simp at h
  | _, _, _, .cons h h0 hi t, d, hm => by
    rcases List.mem_cons.mp hm with rfl | hm
    · exact ⟨hi, h0⟩
    · exact t.noneI d hm
theorem FsAt.upd {H0 I H : Hp} {us : List V} {ds : List Addr} {fs : List AFr} {q : Addr} {o : HO} (h : FsAt H0 I H us ds fs) (hq : q ∉ ds) : FsAt H0 I (L2.upd H q o) us ds fs :=
  h.grow (.refl I) fun d hm => ⟨upd_ne (fun e => hq (e ▸ hm)), (h.noneI d hm).1⟩
theorem MAt.grow {I0 H0 I H I2 H2 : Hp} {m : Addr} {p : Vbdcar.Prog} {io : EnvV} {st : MS} {rs : List V} (M : MAt I0 H0 m p io I H st rs) (e : Ext I H I2 H2) : MAt I0 H0 m p io I2 H2 st rs := by
  obtain ⟨dx, pv, dio, fl, ds, h1, h2, h3, h4, h5, h6, h7, h8, h9, h10, h11⟩ := M.ex
  refine ⟨M.ext.trans e, dx, pv, dio, fl, ds, h1, e.noneI h2 h5, h3, e.noneI h4 h6, e.hh _ _ h5, e.hh _ _ h6, h7.mono e.ii, h8.mono e.ii, h9.grow e.ii fun d hm => ?_, h10, h11⟩
  obtain ⟨xs, hx⟩ := h9.mem d hm
  exact ⟨by rw [hx]; exact e.hh _ _ hx, e.noneI (h9.noneI d hm).1 hx⟩
/-- the machine's own numbers change -/
theorem MAt.nums {I0 H0 I H : Hp} {m : Addr} {p : Vbdcar.Prog} {io : EnvV} {st : MS} {rs : List V} (M : MAt I0 H0 m p io I H st rs) : ∃ dx pv dio fl, H m = some (.ins cMachine dx (mF pv dio st.steps st.calls fl)) ∧ H fl = some (.lst rs.reverse) ∧ ProgAt I pv p ∧ KnAt I dio io ∧
    ∀ s c, MAt I0 H0 m p io I (upd H m (.ins cMachine dx (mF pv dio s c fl))) ⟨s, c, st.frames⟩ rs := by
  obtain ⟨dx, pv, dio, fl, ds, h1, h2, h3, h4, h5, h6, h7, h8, h9, h10, h11⟩ := M.ex
  refine ⟨dx, pv, dio, fl, h5, h6, h7, h8, fun s c => ⟨M.ext.mut h1 h2, dx, pv, dio, fl, ds, h1, h2, h3, h4, upd_same, ?_, h7, h8, h9.upd fun hm => ?_, h10, h11⟩⟩
  · rw [upd_ne (fun e => by rw [e, h5] at h6; cases h6)]; exact h6
  · obtain ⟨xs, hx⟩ := h9.mem m hm
    rw [h5] at hx; cases hx
theorem upd_swap {H : Hp} {a p : Addr} {o l o' : HO} (h : p ≠ a) : upd (upd (upd H a o) p l) a o' = upd (upd H p l) a o' := by
  funext b
  unfold upd
  by_cases e1 : b = a
  · rw [if_pos e1, if_pos e1]
  · simp only [if_neg e1]
theorem sc_I_Frame : FnScope ["self", "expression", "known"] ["self", "expression", "known"] (defScope s_Frame) := ⟨rfl, rfl, rfl, by decide +kernel, rfl, by decide +kernel, by decide +kernel⟩
theorem m_Frame (T : Tx w K mg)  : MkD w K mg base 2 "Frame" cFrame ["self", "expression", "known"] (Sp3 fun u v y H Q _ => ∃ a dx, u = .ref a ∧ H a = some (.ins cFrame dx []) ∧ ∀ p, H p = none → p ≠ a → Q .non (upd (upd H p (.lst [])) a (.ins cFrame dx [("expression", v), ("known", y), ("done", .ref p)]))) :=
  mkInit T f_I_Frame rfl (T.k.cl 3 _ _ _ rfl).2.1 T.g_Frame sc_I_Frame (fun _ _ _ _ _ _ us hl => match us, hl with | [_, _, _], _ => rfl) (fun vs H Q E ⟨u, v, y, e, _⟩ => by rw [e] <;> rfl) fun vs cdv A outer s H Q E hr ⟨u, v, y, e, h⟩ => by
  subst e
  refine ⟨_, (pss_cons (ps_fld (pv 0) (pv 1) rfl)
  (pss_cons (ps_fld (pv 0) (pv 2) rfl)
  (pss_one (ps_fld (pv 0) (pe_lst pa_nil) rfl)))), ?_⟩
  obtain ⟨a, dx, rfl, ha, q⟩ := h
  refine ⟨_, rfl, _, rfl, a, _, dx, _, rfl, ha, T.c_Frame, T.n_Frame_expression, putL0, _, rfl, _, rfl, a, _, dx, _, rfl, upd_same, T.c_Frame, T.n_Frame_known, putL1, by rw [sizeLine_eq]; exact Nat.zero_le _, fun p hp => ?_⟩
  have hpa : p ≠ a := fun e => by rw [e, upd_same] at hp; cases hp
  refine ⟨_, rfl, a, _, dx, _, rfl, by rw [upd_ne (Ne.symm hpa)]; exact upd_same, T.c_Frame, T.n_Frame_done, putL2, ?_⟩
  rw [upd_upd, upd_swap hpa]
  rw [upd_upd, upd_ne hpa] at hp
  exact q p hp hpa

theorem frame_nd {I : Hp} {d : Addr} (h : I d = none) {o : HO} {x : Addr} (e : I x = some o) : x ≠ d := ne_of_none e h
theorem mF_len {pv : V} {dio fl : Addr} {s c : Nat} : (mF pv dio s c fl).length < 1000 := by show 5 < 1000; decide
theorem mF_steps {pv : V} {dio fl : Addr} {s c : Nat} : putF "steps" (.int ((s : Int) + 1)) (mF pv dio s c fl) = mF pv dio (s + 1) c fl := rfl
theorem mF_calls {pv : V} {dio fl : Addr} {s c : Nat} : putF "calls" (.int ((c : Int) + 1)) (mF pv dio s c fl) = mF pv dio s (c + 1) fl := rfl
theorem mF_less {pv : V} {dio fl : Addr} {s c : Nat} (h : 0 < c) : putF "calls" (.int ((c : Int) - 1)) (mF pv dio s c fl) = mF pv dio s (c - 1) fl := by
  rw [show ((c : Int) - 1) = ((c - 1 : Nat) : Int) by omega]; rfl
abbrev sp_begin : Sp := Sp3 fun u v y H Q E => ∃ (I0 H0 : Hp) (m : Addr) (p : Vbdcar.Prog) (io : EnvV) (I : Hp) (st : MS) (rs : List V) (e : Exp) (loc : EnvV) (kd : Addr), u = .ref m ∧ MAt I0 H0 m p io I H st rs ∧ rs.length ≤ 5001 ∧ ExpAt I v e ∧ y = .ref kd ∧ KnAt I kd loc ∧ (st.steps = 5000 → errF E H 4) ∧
  (st.steps ≠ 5000 → ∀ I2 H2 r, MAt I0 H0 m p io I2 H2 ⟨st.steps + 1, st.calls, ⟨e, loc, []⟩ :: st.frames⟩ (r :: rs) → Q .non H2)
abbrev n_begin : List Str := ["machine", "expression", "known"]
theorem sc_begin : FnScope n_begin ["machine", "expression", "known"] (defScope s_begin) := ⟨rfl, rfl, rfl, by decide +kernel, rfl, by decide +kernel, by decide +kernel⟩
theorem d_begin (T : Tx w K mg)  : Def w K mg base 4 "begin" ["machine", "expression", "known"] (sp_begin) :=
  mkDef3 T f_begin rfl rfl sc_begin rfl (fun _ _ _ _ _ _ us hl => match us, hl with | [_, _, _], _ => rfl) fun u v y cdv A outer s H Q E hr h =>
  ⟨_, (pss_cons (ps_if (pt_cmpR op_eq (pe_fld (pv 0) rfl) (pe_gi T.k_MOST_STEPS) (nomark _)) (pss_one (ps_err (g_Failure T) rfl tz hr (pa_cons pe_int pa_nil))) pss_nil)
  (pss_cons (ps_fld (pv 0) (pe_op op_add (pe_fld (pv 0) rfl) pe_int) rfl)
  (pss_one (ps_expr (pe_bm PySem.F.plainAttrs_list PySem.F.slot_list_append PySem.F.type_list_append mt_append (pe_fld (pv 0) rfl) (pa_cons (pe_mk (m_Frame T) hr pz (pa_cons (pv 1) (pa_cons (pv 2) pa_nil))) pa_nil)))))), by
  obtain ⟨I0, H0, m, p, io, I, st, rs, e, loc, kd, rfl, M, hrs, he, rfl, hk, q4, q⟩ := h
  obtain ⟨dx, pv, dio, fl, hm, hfl, hpv, hio, hnum⟩ := M.nums
  refine k_sifN ⟨_, rfl, m, _, dx, _, _, rfl, hm, T.c_Machine, T.n_Machine_steps, rfl, rfl, _, rfl, ?_⟩
  rw [dI]
  by_cases h5 : st.steps = 5000
  · rw [decide_eq_true (by omega)]
    exact iteT ⟨rfl, q4 h5⟩
  · rw [decide_eq_false (by omega)]
    refine iteF ⟨_, rfl, m, _, dx, _, _, rfl, hm, T.c_Machine, T.n_Machine_steps, rfl, _, _, rfl, rfl, _, rfl, m, _, dx, _, rfl, hm, T.c_Machine, T.n_Machine_steps, mF_len, ?_⟩
    rw [mF_steps]
    have M1 := hnum (st.steps + 1) st.calls
    obtain ⟨dx', pv', dio', fl', ds, h1, h2, h3, h4, h5', h6, h7, h8, h9, h10, h11⟩ := M1.ex
    have hmm := h5'
    rw [upd_same] at hmm
    have e1 : fl' = fl ∧ dx' = dx := by
      have := HO.ins.inj (Option.some.inj hmm)
      have e3 := this.2.2
      simp only [mF, List.cons.injEq, Prod.mk.injEq, V.ref.injEq, and_true, true_and] at e3
      exact ⟨e3.2.2.symm, this.2.1.symm⟩
    obtain ⟨rfl, rfl⟩ := e1
    refine ⟨_, rfl, m, _, dx', _, _, rfl, upd_same, T.c_Machine, T.n_Machine_frames, rfl, .inl ⟨rfl, _, .inl (.inl h6)⟩, _, rfl, _, rfl, fun x dx2 hx hdx hne => ?_⟩
    refine ⟨_, _, _, rfl, x, dx2, rfl, upd_same, fun d hd hdne => ⟨rfl, ?_⟩⟩
    have hd1 : d ≠ dx2 := fun e2 => by rw [e2, upd_ne hne, upd_same] at hd; cases hd
    rw [upd_ne hdne, upd_ne hd1] at hd
    rw [upd_swap hdne]
    have nfx : fl' ≠ x := ne_of_none h6 hx
    have nfd : fl' ≠ d := ne_of_none h6 hd
    have nf2 : fl' ≠ dx2 := ne_of_none h6 hdx
    have nmx : m ≠ x := ne_of_none h5' hx
    have nmd : m ≠ d := ne_of_none h5' hd
    have nm2 : m ≠ dx2 := ne_of_none h5' hdx
    have nmf : m ≠ fl' := ne_of h5' h6 (fun z => nomatch z)
    have ix : I x = none := M1.ext.ih.free hx
    have sI := Same.new (o := HO.ins cFrame dx2 (frF v kd d)) ix
    have x1 := (M1.ext.tmp (o := .own x) hdx).tmp (o := .lst []) (p := d) (by rw [upd_ne hd1]; exact hd)
    have x2 := x1.new (p := x) (o := HO.ins cFrame dx2 (frF v kd d)) (by rw [upd_ne (Ne.symm hdne), upd_ne (Ne.symm hne)]; exact hx)
    have i3f : L2.upd I x (HO.ins cFrame dx2 (frF v kd d)) fl' = none := by rw [upd_ne nfx]; exact h4
    refine ⟨fl', rs.reverse, .ref x, rfl, rfl, ?_, ?_, q h5 _ _ (.ref x) ⟨x2.mut (o := .lst (rs.reverse ++ [.ref x])) h3 i3f, dx', pv', dio', fl', d :: ds, h1, by rw [upd_ne nmx]; exact h2, h3, i3f, ?_, ?_, h7.mono sI, h8.mono sI, ?_, ?_, ?_⟩⟩
    · rw [upd_ne nfx, upd_ne nfd, upd_ne nf2]; exact h6
    · rw [List.length_reverse, sizeLine_eq]; omega
    · rw [upd_ne nmf, upd_ne nmx, upd_ne nmd, upd_ne nm2]; exact h5'
    · rw [upd_same, List.reverse_cons]
    · refine .cons ⟨x, dx2, v, kd, [], rfl, upd_same, he.mono sI, hk.mono sI, ?_, .nil⟩ (M1.ext.hh.free hd) (by rw [upd_ne hdne]; exact M1.ext.ih.free hd) (h9.grow sI fun d2 hm2 => ?_)
      · rw [upd_ne (Ne.symm nfd), upd_ne hdne]; exact upd_same
      · obtain ⟨ys, hy⟩ := h9.mem d2 hm2
        have n1 : d2 ≠ x := ne_of_none hy hx
        have n2 : d2 ≠ d := ne_of_none hy hd
        have n3 : d2 ≠ dx2 := ne_of_none hy hdx
        have n4 : d2 ≠ fl' := fun e2 => h10 (e2 ▸ hm2)
        exact ⟨by rw [upd_ne n4, upd_ne n1, upd_ne n2, upd_ne n3], by rw [upd_ne n1]; exact (h9.noneI d2 hm2).1⟩
    · intro hm2
      rcases List.mem_cons.mp hm2 with e2 | hm2
      · exact nfd e2
      · exact h10 hm2
    · refine List.nodup_cons.mpr ⟨fun hm2 => ?_, h11⟩
      obtain ⟨ys, hy⟩ := h9.mem d hm2
      rw [hd] at hy; cases hy⟩

abbrev sp_variable : Sp := Sp2 fun u v H Q _ => ∃ (I0 H0 : Hp) (m : Addr) (p : Vbdcar.Prog) (io : EnvV) (I : Hp) (st : MS) (rs : List V) (d : Addr) (f : AFr) (x : List Nat) (z : Val), u = .ref m ∧ MAt I0 H0 m p io I H st rs ∧ FrameAt I H v d f ∧ f.e = .var x ∧ valueA io f = some (.ok z) ∧ ∀ u', VAt I u' z → Q u' H
abbrev n_variable_value : List Str := ["machine", "frame", "name"]
theorem sc_variable_value : FnScope n_variable_value ["machine", "frame"] (defScope s_variable_value) := ⟨rfl, rfl, rfl, by decide +kernel, rfl, by decide +kernel, by decide +kernel⟩
theorem d_variable_value (T : Tx w K mg)  : Def w K mg base 1 "variable_value" ["machine", "frame"] (sp_variable) :=
  mkDef2 T f_variable_value rfl rfl sc_variable_value rfl (fun _ _ _ _ _ _ us hl => match us, hl with | [_, _], _ => rfl) fun u v cdv A outer s H Q E hr h =>
  ⟨_, (pss_cons (ps_set (i := 2) sc_variable_value.nd rfl (Or.inl rfl) (pe_fld (pe_fld (pv 1) rfl) rfl))
  (pss_cons (ps_if (pt_cmp (pc_din (hu_of hr) (pv 2) (pe_fld (pv 1) rfl))) (pss_one (ps_ret (pe_dget (hu_of hr) (pe_fld (pv 1) rfl) (pv 2) (fun _ _ => rfl)))) pss_nil)
  (pss_one (ps_ret (pe_dget (hu_of hr) (pe_fld (pv 0) rfl) (pv 2) (fun _ _ => rfl)))))), by
  obtain ⟨I0, H0, m, p, io, I, st, rs, d, ⟨e, loc, dn⟩, x, z, rfl, M, hf, he0, hz, q⟩ := h
  obtain rfl : e = _ := he0
  obtain ⟨a, dx, ue, kd, xs, rfl, ha, he, hk, hd, hv⟩ := hf
  obtain ⟨b, dx2, li, ys, rfl, g1, g2, g3, g4, g5⟩ := id he.at
  have sI := M.ext.ih
  obtain ⟨mdx, pv, dio, fl, hm, hfl, hpv, hio, hnum⟩ := M.nums
  obtain ⟨kvs, k1, k2, k3⟩ := hk
  obtain ⟨ivs, i1, i2, i3⟩ := hio
  have k3 := k3 x
  have i3 := i3 x
  have hz : (match envGet loc x with | some v => some (Except.ok v) | none => (envGet io x).map .ok) = some (.ok z) := hz
  refine k_sset ⟨_, rfl, a, _, dx, _, _, rfl, sI _ _ ha, T.c_Frame, T.n_Frame_expression, rfl, b, _, dx2, _, _, rfl, sI _ _ g1, T.c_Expression, T.n_Expression_word, rfl, ?_⟩
  refine k_sifN ⟨_, rfl, _, rfl, a, _, dx, _, _, rfl, sI _ _ ha, T.c_Frame, T.n_Frame_known, rfl, kd, _, rfl, DGet.k (k := .inr (sB x)) (sI _ _ k1), _, rfl, ?_⟩
  cases hl : envGet loc x with
  | some v =>
    rw [hl] at k3 hz
    obtain ⟨u, e1, e2⟩ := k3
    cases hz
    rw [e1]
    exact iteT ⟨_, rfl, a, _, dx, _, _, rfl, sI _ _ ha, T.c_Frame, T.n_Frame_known, rfl, _, rfl, kd, u, rfl, e1 ▸ DGet.k (k := .inr (sB x)) (sI _ _ k1), q u e2⟩
  | none =>
    rw [hl] at k3 hz
    have k3 : valV kvs (.inr (sB x)) = none := k3
    rw [k3]
    cases hi : envGet io x with
    | none => rw [hi] at hz; cases hz
    | some v =>
      rw [hi] at hz i3
      obtain ⟨u, e1, e2⟩ := i3
      cases hz
      exact iteF ⟨_, rfl, m, _, mdx, _, _, rfl, hm, T.c_Machine, T.n_Machine_inputs, rfl, _, rfl, dio, u, rfl, e1 ▸ DGet.k (k := .inr (sB x)) (sI _ _ i1), q u e2⟩⟩
theorem vall_ints {I : Hp} : ∀ {xs : List V} {vs : List Val} {js : List Int}, VAll I xs vs → Vbdcar.allInts vs = some js → xs = js.map V.int
  | _, _, _, .nil, h => by cases h; rfl
  | _, _, _, .cons (b := v) (l₂ := r) hx t, h => by
    rw [allInts_cons] at h
    cases hx with
    | list _ => cases h
    | int n =>
      cases hr : Vbdcar.allInts r with
      | none => rw [hr] at h; cases h
      | some l => rw [hr] at h; cases h; rw [List.map_cons, vall_ints t hr]
abbrev sp_kept : Sp := Sp1 fun u H Q _ => ∃ (I : Hp) (d : Addr) (f : AFr) (row js : List Int) (r : List Val), Same I H ∧ FrameAt I H u d f ∧ f.done = .list row :: r ∧ f.done.length ≤ 70 ∧ Vbdcar.allInts r = some js ∧ ∀ u' I' H', Ext I H I' H' → VAt I' u' (.list (keptOf row js)) → Q u' H'
abbrev n_kept : List Str := ["frame", "row", "number", "value"]
theorem sc_kept : FnScope n_kept ["frame"] (defScope s_kept) := ⟨rfl, rfl, rfl, by decide +kernel, rfl, by decide +kernel, by decide +kernel⟩
theorem d_kept (T : Tx w K mg)  : Def w K mg base 1 "kept" ["frame"] (sp_kept) :=
  mkDef1 T f_kept rfl rfl sc_kept rfl (fun _ _ _ _ _ _ us hl => match us, hl with | [_], _ => rfl) fun u cdv A outer s H Q E hr h =>
  ⟨_, (pss_cons (ps_set (i := 1) sc_kept.nd rfl (Or.inl rfl) (pe_lst pa_nil))
  (pss_cons (ps_for (passes_of rfl) rfl (pi_zip (by rfl) (T.fr_zip) (pa_cons (pe_ix ix_list (pe_fld (pv 0) rfl) pe_int (fun _ _ => rfl)) (pa_cons (pe_slice sl_list (pe_fld (pv 0) rfl) (po_some pe_int) po_none) pa_nil))) (pg_tup rfl (pgs_cons (pg_name (i := 2) sc_kept.nd rfl (Or.inl rfl)) (pgs_cons (pg_name (i := 3) sc_kept.nd rfl (Or.inl rfl)) pgs_nil))) (pss_one (ps_if (pt_cmpR op_ne (pv 3) pe_int (nomark _)) (pss_one (ps_expr (pe_bm PySem.F.plainAttrs_list PySem.F.slot_list_append PySem.F.type_list_append mt_append (pv 1) (pa_cons (pv 2) pa_nil)))) pss_nil)))
  (pss_one (ps_ret (pv 1))))), by
  obtain ⟨I, d, ⟨e, loc, dn⟩, row, js, r, sI, hf, hdn, hle, hjs, q⟩ := h
  obtain rfl : dn = _ := hdn
  obtain ⟨a, dx, ue, kd, xs, rfl, ha, he, hk, hd, hv⟩ := hf
  change VAll I xs (.list row :: r) at hv
  cases hv with
  | @cons u x xr vr hx t =>
    cases hx with
    | @list pr _ hrow =>
      have hxr := vall_ints t hjs
      subst hxr
      refine k_sset ⟨by rw [sizeLine_eq]; exact Nat.zero_le _, fun D hD => ?_⟩
      have E1 := (Ext.refl sI).tmp (o := .lst []) hD
      have hDd : d ≠ D := ne_of_none hd hD
      have hd1 : (L2.upd H D (.lst [])) d = some (.lst (.ref pr :: js.map V.int)) := by rw [upd_ne hDd]; exact hd
      refine ⟨_, rfl, a, _, dx, _, _, rfl, E1.si _ _ ha, T.c_Frame, T.n_Frame_done, rfl, d, _, _, _, rfl, rfl, .inl (.inl hd1), atI_nat (j := 0) rfl, _, rfl, a, _, dx, _, _, rfl, E1.si _ _ ha, T.c_Frame, T.n_Frame_done, rfl, _, rfl, d, _, rfl, .inl (.inl hd1), fun S hS => ?_⟩
      rw [cut1, List.drop_one, List.tail_cons]
      have E2 := E1.tmp (o := .lst (js.map V.int)) hS
      have hSD : D ≠ S := ne_of_none upd_same hS
      have hDI : I D = none := sI.free hD
      have hSI : I S = none := E1.ih.free hS
      refine ⟨pr, S, row.map V.int, js.map V.int, rfl, .inl (.inl (E2.si _ _ hrow)), .inl (.inl upd_same), ?_⟩
      have hn : min row.length js.length = min (row.map V.int).length (js.map V.int).length := by simp
      refine for_it (walk_zip (n := min row.length js.length) hn) (fun i σ H' => Ext I H I H' ∧ H' S = some (.lst (js.map V.int)) ∧ H' D = some (.lst (((((row.zip js).take i).filter fun q => q.2 != 0).map (·.1)).map V.int)) ∧ ∃ o2 o3, σ = [some (.ref a), some (.ref D), o2, o3])
        ⟨E2, upd_same, by rw [upd_ne hSD]; exact upd_same, _, _, rfl⟩ (fun i σ H' _ ⟨e1, h1, _⟩ => ⟨.inl (.inl (e1.si _ _ hrow)), .inl (.inl h1)⟩) (fun i x σ H1 H2 hi ⟨e1, h1, h2, o2, o3, es⟩ y => ?_) fun σ H' ⟨e1, h1, h2, o2, o3, es⟩ => ?_
      · subst es
        obtain ⟨Tp, x1, y1, rfl, hT, rfl, hx1, hy1⟩ := y
        have hi1 : i < row.length := by omega
        have hi2 : i < js.length := by omega
        replace hx1 : (row.map V.int)[i]? = some x1 := hx1
        replace hy1 : (js.map V.int)[i]? = some y1 := hy1
        rw [List.getElem?_map, List.getElem?_eq_getElem hi1] at hx1
        rw [List.getElem?_map, List.getElem?_eq_getElem hi2] at hy1
        cases hx1; cases hy1
        have e3 := e1.tmp (o := .tup [V.int row[i], V.int js[i]]) hT
        have nD : D ≠ Tp := ne_of_none h2 hT
        have nS : S ≠ Tp := ne_of_none h1 hT
        have hzi : (row.zip js)[i]? = some (row[i], js[i]) := by rw [List.getElem?_eq_getElem (by rw [List.length_zip]; omega), List.getElem_zip]
        have htk : (row.zip js).take (i + 1) = (row.zip js).take i ++ [(row[i], js[i])] := by rw [List.take_add_one, hzi] <;> rfl
        refine ⟨Tp, _, rfl, .inl (.inl upd_same), rfl, _, _, rfl, _, _, rfl, rfl, ⟨_, rfl, rfl, _, rfl, ?_⟩⟩
        rw [dI]
        by_cases hz : js[i] = 0
        · rw [decide_eq_true hz]
          refine ⟨e3, by rw [upd_ne nS]; exact h1, ?_, _, _, rfl⟩
          rw [upd_ne nD, h2, htk, List.filter_append]
          simp [hz]
        · rw [decide_eq_false hz]
          refine ⟨_, rfl, .inl ⟨rfl, _, .inl (.inl (by rw [upd_ne nD]; exact h2))⟩, _, rfl, D, _, _, rfl, rfl, by rw [upd_ne nD]; exact h2, ?_, e3.mut hD hDI, ?_, ?_, _, _, rfl⟩
          · have h70 : (V.ref pr :: js.map V.int).length ≤ 70 := by have := paired_len t; simp at this hle ⊢; omega
            have := List.length_filter_le (fun q : Int × Int => q.2 != 0) ((row.zip js).take i)
            rw [sizeLine_eq, List.length_map, List.length_map]
            rw [List.length_take, List.length_zip] at this
            simp at h70
            omega
          · rw [upd_ne (Ne.symm hSD), upd_ne nS]; exact h1
          · rw [upd_same, htk, List.filter_append]
            simp [hz]
      · subst es
        have hfull : (row.zip js).take (min row.length js.length) = row.zip js := List.take_of_length_le (by rw [List.length_zip]; exact Nat.le_refl _)
        rw [hfull] at h2
        exact ⟨_, rfl, q _ _ _ (e1.frz hD hDI h2) (.list (l := keptOf row js) upd_same)⟩⟩

abbrev NxM (I0 H0 : Hp) (m : Addr) (p : Vbdcar.Prog) (io : EnvV) (st : MS) (rs : List V) (H : Hp) (Q : VK) (E : XK) (r : Nx × Bool) : Prop := match r.1 with
  | .push e loc => ∀ t ue kd I2 H2, MAt I0 H0 m p io I2 H2 ⟨st.steps, if r.2 = true then st.calls + 1 else st.calls, st.frames⟩ rs → I2 t = some (.tup [ue, .ref kd]) → ExpAt I2 ue e → KnAt I2 kd loc → Q (.ref t) H2
  | .done => Q .non H
  | .fail k => ∀ I2 H2, MAt I0 H0 m p io I2 H2 st rs → errF E H2 k
theorem nxM_of {I0 H0 I H : Hp} {m : Addr} {p : Vbdcar.Prog} {io : EnvV} {st : MS} {rs : List V} {Q : VK} {E : XK} {r : Nx} (M : MAt I0 H0 m p io I H st rs) (h : NxM I0 H0 m p io st rs H Q E (r, false)) : NxOut I H Q E r := by
  cases r with
  | push e loc => exact fun t ue kd I2 H2 e2 h1 h2 h3 => h t ue kd I2 H2 (M.grow e2) h1 h2 h3
  | done => exact h
  | fail k => exact fun I2 H2 e2 => h I2 H2 (M.grow e2)
theorem KnAt.snoc {kvs : List (Key × V)} {I : Hp} {l : EnvV} {x : List Nat} {u : V} {v : Val} (h : ∀ x, match envGet l x with | some v => ∃ u, valV kvs (.inr (sB x)) = some u ∧ VAt I u v | none => valV kvs (.inr (sB x)) = none) (hn : envGet l x = none) (hu : VAt I u v) :
    ∀ y, match envGet (l ++ [(x, v)]) y with | some v => ∃ u', valV (putK kvs (.inr (sB x)) u) (.inr (sB y)) = some u' ∧ VAt I u' v | none => valV (putK kvs (.inr (sB x)) u) (.inr (sB y)) = none := by
  intro y
  rw [envGet_snoc, valV_put]
  by_cases e : x = y
  · subst e
    rw [hn, if_pos rfl, if_pos rfl]
    exact ⟨u, rfl, hu⟩
  · have h1 := h y
    rw [if_neg (fun z => e (sB_inj (Sum.inr.inj z)).symm)]
    cases hg : envGet l y with
    | some w => rw [hg] at h1; exact h1
    | none => rw [hg] at h1; rw [if_neg e]; exact h1
abbrev sp_next_call : Sp := Sp2 fun u v H Q E => ∃ (I0 H0 : Hp) (m : Addr) (p : Vbdcar.Prog) (io : EnvV) (I : Hp) (st : MS) (rs : List V) (d : Addr) (f : AFr), u = .ref m ∧ MAt I0 H0 m p io I H st rs ∧ FrameAt I H v d f ∧ I d = none ∧ H0 d = none ∧ FitP p f ∧ (∃ g l, f.e = .call g l) ∧ NxM I0 H0 m p io st rs H Q E (nextA p st.calls f)
abbrev n_next_of_call : List Str := ["machine", "frame", "count", "function", "known", "name", "value"]
theorem sc_next_of_call : FnScope n_next_of_call ["machine", "frame"] (defScope s_next_of_call) := ⟨rfl, rfl, rfl, by decide +kernel, rfl, by decide +kernel, by decide +kernel⟩
theorem d_next_of_call (T : Tx w K mg)  : Def w K mg base 5 "next_of_call" ["machine", "frame"] (sp_next_call) :=
  mkDef2 T f_next_of_call rfl rfl sc_next_of_call rfl (fun _ _ _ _ _ _ us hl => match us, hl with | [_, _], _ => rfl) fun u v cdv A outer s H Q E hr h =>
  ⟨_, (pss_cons (ps_set (i := 2) sc_next_of_call.nd rfl (Or.inl rfl) (pe_callB call_len_seq (by rfl) T.fr_len (by decide +kernel) (pa_cons (pe_fld (pe_fld (pv 1) rfl) rfl) pa_nil)))
  (pss_cons (ps_if (pt_cmpR op_lt (pe_callB call_len_seq (by rfl) T.fr_len (by decide +kernel) (pa_cons (pe_fld (pv 1) rfl) pa_nil)) (pv 2) (nomark _)) (pss_one (ps_ret (pe_c (d_next_in_order T) hr pz (pa_cons (pv 1) pa_nil)))) pss_nil)
  (pss_cons (ps_if (pt_cmpR op_gt (pe_callB call_len_seq (by rfl) T.fr_len (by decide +kernel) (pa_cons (pe_fld (pv 1) rfl) pa_nil)) (pv 2) (nomark _)) (pss_one (ps_ret pe_non)) pss_nil)
  (pss_cons (ps_if (pt_cmpR op_eq (pe_fld (pv 0) rfl) (pe_gi T.k_MOST_CALLS) (nomark _)) (pss_one (ps_err (g_Failure T) rfl tz hr (pa_cons pe_int pa_nil))) pss_nil)
  (pss_cons (ps_fld (pv 0) (pe_op op_add (pe_fld (pv 0) rfl) pe_int) rfl)
  (pss_cons (ps_set (i := 3) sc_next_of_call.nd rfl (Or.inl rfl) (pe_c (d_function_named T) hr pz (pa_cons (pe_fld (pv 0) rfl) (pa_cons (pe_fld (pe_fld (pv 1) rfl) rfl) pa_nil))))
  (pss_cons (ps_set (i := 4) sc_next_of_call.nd rfl (Or.inl rfl) pe_dnewK)
  (pss_cons (ps_for (passes_of rfl) rfl (pi_zip (by rfl) (T.fr_zip) (pa_cons (pe_fld (pv 3) rfl) (pa_cons (pe_fld (pv 1) rfl) pa_nil))) (pg_tup rfl (pgs_cons (pg_name (i := 5) sc_next_of_call.nd rfl (Or.inl rfl)) (pgs_cons (pg_name (i := 6) sc_next_of_call.nd rfl (Or.inl rfl)) pgs_nil))) (pss_one (ps_dput (hu_of hr) (pv 4) (pv 5) (pv 6) rfl)))
  (pss_one (ps_ret (pe_tup (pa_cons (pe_fld (pv 3) rfl) (pa_cons (pv 4) pa_nil))))))))))))), by
  obtain ⟨I0, H0, m, p, io, I, st, rs, d, ⟨e, loc, dn⟩, rfl, M, hf, hid, h0d, ⟨hfit, hfc⟩, ⟨g, l, he0⟩, q⟩ := h
  obtain rfl : e = _ := he0
  have hf0 := hf
  obtain ⟨a, dx, ue, kd, xs, rfl, ha, he, hk, hd, hv⟩ := hf
  obtain ⟨b, dx2, li, ys, rfl, g1, g2, g3, g4, g5⟩ := id he.at
  change VAll I xs dn at hv
  have hlen := paired_len hv
  have sI := M.ext.ih
  change ys.length = l.list.length at g3
  have q : NxM I0 H0 m p io st rs H Q E (if dn.length < l.list.length then (ordF ⟨.call g l, loc, dn⟩, false) else if l.list.length < dn.length then (.done, false) else if st.calls = 20 then (.fail 5, false)
      else match p.funs.find? fun h => h.name == g with | some h => (.push h.body (h.params.zip dn), true) | none => (.fail 1, false)) := q
  refine k_sset (k_cb (k_cons (vInner T rfl (sI _ _ ha) (sI _ _ g1) _ ⟨li, ys, rfl, .inl (.inl (.inl (sI _ _ g2))), ?_⟩)))
  refine k_sifN (k_test (k_op (k_cb (k_cons (val_fld (val_var rfl) (sI _ _ ha) T.c_Frame T.n_Frame_done rfl _ ⟨d, xs, rfl, .inl (.inl (.inl hd)), _, rfl, _, _, rfl, rfl, _, rfl, ?_⟩)))))
  by_cases h1 : dn.length < l.list.length
  · rw [if_pos h1] at q
    rw [decide_eq_true (by omega)]
    exact iteT ⟨_, rfl, _, rfl, I, d, ⟨.call g l, loc, dn⟩, sI, hf0, hfit, True.intro, nxM_of M q⟩
  rw [if_neg h1] at q
  rw [decide_eq_false (by omega)]
  refine iteF (k_sifN (k_test (k_op (k_cb (k_cons (val_fld (val_var rfl) (sI _ _ ha) T.c_Frame T.n_Frame_done rfl _ ⟨d, xs, rfl, .inl (.inl (.inl hd)), _, rfl, _, _, rfl, rfl, _, rfl, ?_⟩))))))
  by_cases h2 : l.list.length < dn.length
  · rw [if_pos h2] at q
    rw [decide_eq_true (by omega)]
    exact iteT q
  rw [if_neg h2] at q
  rw [decide_eq_false (by omega)]
  obtain ⟨mdx, pv, dio, fl, hm, hfl, hpv, hio, hnum⟩ := M.nums
  refine iteF (k_sifN ⟨_, rfl, m, _, mdx, _, _, rfl, hm, T.c_Machine, T.n_Machine_calls, rfl, rfl, _, rfl, ?_⟩)
  rw [dI]
  by_cases h3 : st.calls = 20
  · rw [if_pos h3] at q
    rw [decide_eq_true (by omega)]
    exact iteT ⟨rfl, q I H M⟩
  rw [if_neg h3] at q
  rw [decide_eq_false (by omega)]
  refine iteF (k_sfld ?_)
  refine ⟨_, rfl, m, _, mdx, _, _, rfl, hm, T.c_Machine, T.n_Machine_calls, rfl, _, _, rfl, rfl, _, rfl, m, _, mdx, _, rfl, hm, T.c_Machine, T.n_Machine_calls, mF_len, ?_⟩
  rw [mF_calls]
  have M1 := hnum st.steps (st.calls + 1)
  have nmd : d ≠ m := ne_of hd hm (fun z => nomatch z)
  have hd1 : (L2.upd H m (.ins cMachine mdx (mF pv dio st.steps (st.calls + 1) fl))) d = some (.lst xs) := by rw [upd_ne nmd]; exact hd
  have s1 := M1.ext.ih
  obtain ⟨fn, hfn, hnd, hpl⟩ := hfc g l rfl
  rw [hfn] at q
  refine k_sset ?_
  refine ⟨_, rfl, m, _, mdx, _, _, rfl, upd_same, T.c_Machine, T.n_Machine_program, rfl, _, rfl, a, _, dx, _, _, rfl, s1 _ _ ha, T.c_Frame, T.n_Frame_expression, rfl, b, _, dx2, _, _, rfl, s1 _ _ g1, T.c_Expression, T.n_Expression_word, rfl, _, _, rfl, I, p, g, s1, hpv, rfl, ?_⟩
  rw [hfn]
  intro fx hfx
  obtain ⟨fa, fdx, fli, fub, rfl, f1, f2, f3⟩ := hfx.ex
  refine k_sset ?_
  intro D hD
  have E1 := (Ext.refl s1).tmp (o := .dK []) hD
  have nDd : d ≠ D := ne_of_none hd1 hD
  have hID : I D = none := s1.free hD
  refine ⟨_, rfl, fa, _, fdx, _, _, rfl, E1.si _ _ f1, T.c_Function, T.n_Function_parameters, rfl, _, rfl, a, _, dx, _, _, rfl, E1.si _ _ ha, T.c_Frame, T.n_Frame_done, rfl, fli, d, _, xs, rfl, .inl (.inl (E1.si _ _ f2)), .inl (.inl (by rw [upd_ne nDd]; exact hd1)), ?_⟩
  have hn : min fn.params.length dn.length = min (fn.params.map fun b => V.str (sB b)).length xs.length := by rw [List.length_map, hlen]
  refine for_it (walk_zip (n := min fn.params.length dn.length) hn) (fun i σ H' => Ext I (L2.upd H m (.ins cMachine mdx (mF pv dio st.steps (st.calls + 1) fl))) I H' ∧ H' d = some (.lst xs) ∧ (∃ kvs, H' D = some (.dK kvs) ∧ kvs.length ≤ i ∧
      ∀ x, match envGet ((fn.params.zip dn).take i) x with | some v => ∃ u, valV kvs (.inr (sB x)) = some u ∧ VAt I u v | none => valV kvs (.inr (sB x)) = none) ∧ ∃ o5 o6, σ = [some (.ref m), some (.ref a), some (.int ys.length), some (.ref fa), some (.ref D), o5, o6])
    ⟨E1, by rw [upd_ne nDd]; exact hd1, ⟨[], upd_same, Nat.le_refl _, fun x => by simp [envGet]; rfl⟩, _, _, rfl⟩ (fun i σ H' _ ⟨e1, h1, _⟩ => ⟨.inl (.inl (e1.si _ _ f2)), .inl (.inl h1)⟩) (fun i x σ H1 H2 hi ⟨e1, h1, ⟨kvs, k1, k2, k3⟩, o5, o6, es⟩ y => ?_) fun σ H' ⟨e1, h1, ⟨kvs, k1, k2, k3⟩, o5, o6, es⟩ => ?_
  · subst es
    obtain ⟨Tp, x1, y1, rfl, hT, rfl, hx1, hy1⟩ := y
    have hi1 : i < fn.params.length := by omega
    have hi2 : i < dn.length := by omega
    replace hx1 : (fn.params.map fun b => V.str (sB b))[i]? = some x1 := hx1
    replace hy1 : xs[i]? = some y1 := hy1
    rw [List.getElem?_map, List.getElem?_eq_getElem hi1] at hx1
    cases hx1
    obtain ⟨v1, hv1, hv2⟩ := paired_get hv hy1
    have hp1 : fn.params[i]? = some fn.params[i] := List.getElem?_eq_getElem hi1
    have e3 := e1.tmp (o := .tup [V.str (sB fn.params[i]), y1]) hT
    have nD : D ≠ Tp := ne_of_none k1 hT
    have nd : d ≠ Tp := ne_of_none h1 hT
    refine ⟨Tp, _, rfl, .inl (.inl upd_same), rfl, _, _, rfl, _, _, rfl, rfl, ?_⟩
    refine ⟨_, rfl, _, rfl, _, rfl, D, _, rfl, DPut.k (k := .inr (sB fn.params[i])) (by rw [upd_ne nD]; exact k1) (by rw [sizeLine_eq]; omega), ?_⟩
    refine ⟨e3.mut hD hID, by rw [upd_ne nDd, upd_ne nd]; exact h1, ⟨_, upd_same, Nat.le_trans putK_len (by omega), ?_⟩, _, _, rfl⟩
    rw [zip_take_succ hp1 hv1]
    refine KnAt.snoc k3 ?_ hv2
    rw [zip_take]
    refine envGet_zip_none fun hm2 => ?_
    obtain ⟨j, hj, ej⟩ := List.getElem_of_mem hm2
    have hj2 : j < i := by rw [List.length_take] at hj; omega
    have hne2 := List.pairwise_iff_getElem.mp hnd j i (by omega) hi1 hj2
    rw [List.getElem_take] at ej
    exact hne2 ej
  · subst es
    have hfull : (fn.params.zip dn).take (min fn.params.length dn.length) = fn.params.zip dn := List.take_of_length_le (by rw [List.length_zip]; exact Nat.le_refl _)
    rw [hfull] at k3
    have e4 := e1.frz (p := D) hD hID k1
    have hkn : KnAt (L2.upd I D (.dK kvs)) D (fn.params.zip dn) := ⟨kvs, upd_same, by rw [List.length_zip]; exact k2, fun x => by
      have := k3 x
      cases hx : envGet (fn.params.zip dn) x with
      | none => rw [hx] at this; exact this
      | some v => rw [hx] at this; obtain ⟨u, w1, w2⟩ := this; exact ⟨u, w1, w2.mono e4.ii⟩⟩
    refine ⟨_, rfl, fa, _, fdx, _, _, rfl, e1.si _ _ f1, T.c_Function, T.n_Function_body, rfl, _, rfl, two_ok, fun tp htp => ?_⟩
    have s6 := Same.new (o := HO.tup [fub, .ref D]) (e4.ih.free htp)
    exact q tp fub D _ _ (M1.grow (e4.new htp)) upd_same (f3.mono (Same.trans e4.ii s6)) (hkn.mono s6)⟩

theorem ifsT {i : Nat} {a b : Str} {t v : TS} {D : Ends} {σ : L2.St} {H : Hp} (hv : σ[i]? = some (some (.str a))) (h : t { D with nx := v D } σ H) (e : decide (a = b) = true := by decide +kernel) : tSeq (tIfS (tTest (tOp rEq (tVar i) (tC (.str b)))) t tNext) v D σ H :=
  ⟨_, hv, rfl, _, rfl, by rw [dS, e]; exact h⟩
theorem ifsF {i : Nat} {a b : Str} {t v : TS} {D : Ends} {σ : L2.St} {H : Hp} (hv : σ[i]? = some (some (.str a))) (h : v D σ H) (e : decide (a = b) = false := by decide +kernel) : tSeq (tIfS (tTest (tOp rEq (tVar i) (tC (.str b)))) t tNext) v D σ H :=
  ⟨_, hv, rfl, _, rfl, by rw [dS, e]; exact h⟩
theorem orT {i : Nat} {a b c : Str} {t v : TS} {D : Ends} {σ : L2.St} {H : Hp} (hv : σ[i]? = some (some (.str a))) (h : t { D with nx := v D } σ H) (e : (decide (a = b) || decide (a = c)) = true := by decide +kernel) : tSeq (tIfS (tOr (tTest (tOp rEq (tVar i) (tC (.str b)))) (tTest (tOp rEq (tVar i) (tC (.str c))))) t tNext) v D σ H := by
  refine ⟨_, hv, rfl, _, rfl, ?_⟩
  rw [dS]
  cases hb : decide (a = b) with
  | true => exact iteT (iteT h)
  | false =>
    rw [hb, Bool.false_or] at e
    refine iteF ⟨_, hv, rfl, _, rfl, ?_⟩
    rw [dS, e]
    exact iteT h
theorem orF {i : Nat} {a b c : Str} {t v : TS} {D : Ends} {σ : L2.St} {H : Hp} (hv : σ[i]? = some (some (.str a))) (h : v D σ H) (e : (decide (a = b) || decide (a = c)) = false := by decide +kernel) : tSeq (tIfS (tOr (tTest (tOp rEq (tVar i) (tC (.str b)))) (tTest (tOp rEq (tVar i) (tC (.str c))))) t tNext) v D σ H := by
  rw [Bool.or_eq_false_iff] at e
  refine ⟨_, hv, rfl, _, rfl, ?_⟩
  rw [dS, e.1]
  refine iteF ⟨_, hv, rfl, _, rfl, ?_⟩
  rw [dS, e.2]
  exact iteF h
abbrev sp_next_part : Sp := Sp2 fun u v H Q E => ∃ (I0 H0 : Hp) (m : Addr) (p : Vbdcar.Prog) (io : EnvV) (I : Hp) (st : MS) (rs : List V) (d : Addr) (f : AFr), u = .ref m ∧ MAt I0 H0 m p io I H st rs ∧ FrameAt I H v d f ∧ I d = none ∧ H0 d = none ∧ FitP p f ∧ NxM I0 H0 m p io st rs H Q E (nextA p st.calls f)
abbrev n_next_part : List Str := ["machine", "frame", "kind"]
theorem sc_next_part : FnScope n_next_part ["machine", "frame"] (defScope s_next_part) := ⟨rfl, rfl, rfl, by decide +kernel, rfl, by decide +kernel, by decide +kernel⟩
theorem d_next_part (T : Tx w K mg)  : Def w K mg base 6 "next_part" ["machine", "frame"] (sp_next_part) :=
  mkDef2 T f_next_part rfl rfl sc_next_part rfl (fun _ _ _ _ _ _ us hl => match us, hl with | [_, _], _ => rfl) fun u v cdv A outer s H Q E hr h =>
  ⟨_, (pss_cons (ps_set (i := 2) sc_next_part.nd rfl (Or.inl rfl) (pe_fld (pe_fld (pv 1) rfl) rfl))
  (pss_cons (ps_if (pt_cmpR op_eq (pv 2) pe_str (nomark _)) (pss_one (ps_ret (pe_c (d_next_in_order T) hr pz (pa_cons (pv 1) pa_nil)))) pss_nil)
  (pss_cons (ps_if (pt_cmpR op_eq (pv 2) pe_str (nomark _)) (pss_one (ps_ret (pe_c (d_next_of_if T) hr pz (pa_cons (pv 1) pa_nil)))) pss_nil)
  (pss_cons (ps_if (pt_cmpR op_eq (pv 2) pe_str (nomark _)) (pss_one (ps_ret (pe_c (d_next_of_let T) hr pz (pa_cons (pv 1) pa_nil)))) pss_nil)
  (pss_cons (ps_if (PW.pt (pw_or (pt_cmpR op_eq (pv 2) pe_str (nomark _)) (pw_or1 (pt_cmpR op_eq (pv 2) pe_str (nomark _))))) (pss_one (ps_ret (pe_c (d_next_of_walk T) hr pz (pa_cons (pv 1) pa_nil)))) pss_nil)
  (pss_cons (ps_if (PW.pt (pw_or (pt_cmpR op_eq (pv 2) pe_str (nomark _)) (pw_or1 (pt_cmpR op_eq (pv 2) pe_str (nomark _))))) (pss_one (ps_ret (pe_c (d_next_of_both T) hr pz (pa_cons (pv 1) pa_nil)))) pss_nil)
  (pss_cons (ps_if (pt_cmpR op_eq (pv 2) pe_str (nomark _)) (pss_one (ps_ret (pe_c (d_next_of_call T) hr pz (pa_cons (pv 0) (pa_cons (pv 1) pa_nil))))) pss_nil)
  (pss_one (ps_ret pe_non))))))))), by
  obtain ⟨I0, H0, m, p, io, I, st, rs, d, ⟨e, loc, dn⟩, rfl, M, hf, hid, h0d, ⟨hfit, hfc⟩, q⟩ := h
  have hf0 := hf
  obtain ⟨a, dx, ue, kd, xs, rfl, ha, he, hk, hd, hv⟩ := hf
  obtain ⟨b, dx2, li, ys, rfl, g1, g2, g3, g4, g5⟩ := id he.at
  have sI := M.ext.ih
  refine k_sset ⟨_, rfl, a, _, dx, _, _, rfl, sI _ _ ha, T.c_Frame, T.n_Frame_expression, rfl, b, _, dx2, _, _, rfl, sI _ _ g1, T.c_Expression, T.n_Expression_kind, rfl, ?_⟩
  cases e with
  | op o l => exact ifsT (a := "operation") rfl ⟨_, rfl, _, rfl, I, d, _, sI, hf0, hfit, True.intro, nxM_of M q⟩
  | ite c0 a0 b0 => exact ifsF (a := "if") rfl <| ifsT (a := "if") rfl ⟨_, rfl, _, rfl, I, d, _, sI, hf0, hfit, ⟨_, _, _, rfl⟩, nxM_of M q⟩
  | let_ x a0 b0 => exact ifsF (a := "let") rfl <| ifsF (a := "let") rfl <| ifsT (a := "let") rfl ⟨_, rfl, _, rfl, I, d, _, sI, hf0, hfit, ⟨_, _, _, rfl⟩, nxM_of M q⟩
  | each x a0 b0 => exact ifsF (a := "each") rfl <| ifsF (a := "each") rfl <| ifsF (a := "each") rfl <| orT (a := "each") rfl ⟨_, rfl, _, rfl, I, d, _, sI, hf0, hfit, .inl ⟨_, _, _, rfl⟩, nxM_of M q⟩
  | keep x a0 b0 => exact ifsF (a := "keep") rfl <| ifsF (a := "keep") rfl <| ifsF (a := "keep") rfl <| orT (a := "keep") rfl ⟨_, rfl, _, rfl, I, d, _, sI, hf0, hfit, .inr ⟨_, _, _, rfl⟩, nxM_of M q⟩
  | and_ a0 b0 => exact ifsF (a := "and") rfl <| ifsF (a := "and") rfl <| ifsF (a := "and") rfl <| orF (a := "and") rfl <| orT (a := "and") rfl ⟨_, rfl, _, rfl, I, d, _, sI, hf0, hfit, .inl ⟨_, _, rfl⟩, nxM_of M q⟩
  | or_ a0 b0 => exact ifsF (a := "or") rfl <| ifsF (a := "or") rfl <| ifsF (a := "or") rfl <| orF (a := "or") rfl <| orT (a := "or") rfl ⟨_, rfl, _, rfl, I, d, _, sI, hf0, hfit, .inr ⟨_, _, rfl⟩, nxM_of M q⟩
  | call g l => exact ifsF (a := "call") rfl <| ifsF (a := "call") rfl <| ifsF (a := "call") rfl <| orF (a := "call") rfl <| orF (a := "call") rfl <| ifsT (a := "call") rfl ⟨_, rfl, _, rfl, _, _, rfl, I0, H0, m, p, io, I, st, rs, d, _, rfl, M, hf0, hid, h0d, ⟨hfit, hfc⟩, ⟨_, _, rfl⟩, q⟩
  | num n => exact ifsF (a := "number") rfl <| ifsF (a := "number") rfl <| ifsF (a := "number") rfl <| orF (a := "number") rfl <| orF (a := "number") rfl <| ifsF (a := "number") rfl q
  | var x => exact ifsF (a := "variable") rfl <| ifsF (a := "variable") rfl <| ifsF (a := "variable") rfl <| orF (a := "variable") rfl <| orF (a := "variable") rfl <| ifsF (a := "variable") rfl q⟩
abbrev OutM (I0 H0 : Hp) (m : Addr) (p : Vbdcar.Prog) (io : EnvV) (st : MS) (rs : List V) (Q : VK) (E : XK) (cl : Bool) (r : Except Nat Val) : Prop :=
  Out r (fun z => ∀ u I2 H2, MAt I0 H0 m p io I2 H2 ⟨st.steps, if cl = true then st.calls - 1 else st.calls, st.frames⟩ rs → VAt I2 u z → Q u H2) fun k => ∀ I2 H2, MAt I0 H0 m p io I2 H2 st rs → errF E H2 k
abbrev sp_value_of : Sp := Sp2 fun u v H Q E => ∃ (I0 H0 : Hp) (m : Addr) (p : Vbdcar.Prog) (io : EnvV) (I : Hp) (st : MS) (rs : List V) (d : Addr) (f : AFr) (r : Except Nat Val), u = .ref m ∧ MAt I0 H0 m p io I H st rs ∧ FrameAt I H v d f ∧ Fit f ∧ (isCall f.e = true → 0 < st.calls) ∧ valueA io f = some r ∧ OutM I0 H0 m p io st rs Q E (isCall f.e) r
theorem lastA {I : Hp} {xs : List V} {vs : List Val} {z : Val} (hv : VAll I xs vs) (h : vs.getLast? = some z) : ∃ u, atI xs ((xs.length : Int) - 1) = some u ∧ VAt I u z := by
  have hl := paired_len hv
  rw [List.getLast?_eq_getElem?] at h
  have h1 := (List.getElem?_eq_some_iff.mp h).1
  obtain ⟨u, hu⟩ : ∃ u, xs[vs.length - 1]? = some u := ⟨_, List.getElem?_eq_getElem (by omega)⟩
  obtain ⟨z2, hz, hzz⟩ := paired_get hv hu
  rw [h] at hz
  cases hz
  exact ⟨u, atI_last (vs.length - 1) _ (by omega) hu, hzz⟩
theorem doneV (T : Tx w K mg) {I : Hp} {a dx kd d : Addr} {ue u : V} {x : Val} {xs : List V} {σ : L2.St} {H : Hp} {Q : VK} {E : XK} {i : Int} (sI : Same I H) (h0 : σ[1]? = some (some (.ref a))) (h3 : σ[3]? = some (some (.int i))) (ha : H a = some (.ins cFrame dx (frF ue kd d))) (hd : H d = some (.lst xs)) (hu : atI xs i = some u) (hx : VAt I u x)
    (h : ∀ k, x = .int k → u = .int k → Q u H) (hb : ∀ l, x = .list l → errF E H 1) : tCall sp_as_number [] E (tCons (tOp (rIxL K) (tFld K (tVar 1) "done") (tVar 3)) tNil) σ H Q :=
  k_call (k_cons (k_op (val_fld (val_var h0) ha T.c_Frame T.n_Frame_done rfl _ (k_var h3 ⟨d, xs, _, u, rfl, rfl, .inl (.inl hd), hu, asN sI hx h hb⟩))))
theorem arity_of {o : Nat} {l : Vbdcar.Exps} {loc : EnvV} {dn : List Val} (h : Fit ⟨.op o l, loc, dn⟩) (hl : dn.length = l.list.length) : arity o dn.length := by
  rw [hl]; exact h.op o l rfl
abbrev n_value_of : List Str := ["machine", "frame", "kind", "last"]
theorem sc_value_of : FnScope n_value_of ["machine", "frame"] (defScope s_value_of) := ⟨rfl, rfl, rfl, by decide +kernel, rfl, by decide +kernel, by decide +kernel⟩
theorem d_value_of (T : Tx w K mg)  : Def w K mg base 9 "value_of" ["machine", "frame"] (sp_value_of) :=
  mkDef2 T f_value_of rfl rfl sc_value_of rfl (fun _ _ _ _ _ _ us hl => match us, hl with | [_, _], _ => rfl) fun u v cdv A outer s H Q E hr h =>
  ⟨_, (pss_cons (ps_set (i := 2) sc_value_of.nd rfl (Or.inl rfl) (pe_fld (pe_fld (pv 1) rfl) rfl))
  (pss_cons (ps_set (i := 3) sc_value_of.nd rfl (Or.inl rfl) (pe_op op_sub (pe_callB call_len_seq (by rfl) T.fr_len (by decide +kernel) (pa_cons (pe_fld (pv 1) rfl) pa_nil)) pe_int))
  (pss_cons (ps_if (pt_cmpR op_eq (pv 2) pe_str (nomark _)) (pss_one (ps_ret (pe_fld (pe_fld (pv 1) rfl) rfl))) pss_nil)
  (pss_cons (ps_if (pt_cmpR op_eq (pv 2) pe_str (nomark _)) (pss_one (ps_ret (pe_c (d_variable_value T) hr pz (pa_cons (pv 0) (pa_cons (pv 1) pa_nil))))) pss_nil)
  (pss_cons (ps_if (pt_cmpR op_eq (pv 2) pe_str (nomark _)) (pss_one (ps_ret (pe_c (d_checked T) hr pz (pa_cons (pe_c (d_operate T) hr pz (pa_cons (pe_fld (pe_fld (pv 1) rfl) rfl) (pa_cons (pe_fld (pv 1) rfl) pa_nil))) pa_nil)))) pss_nil)
  (pss_cons (ps_if (pt_cmpR op_eq (pv 2) pe_str (nomark _)) (pss_one (ps_ret (pe_slice sl_list (pe_fld (pv 1) rfl) (po_some pe_int) po_none))) pss_nil)
  (pss_cons (ps_if (pt_cmpR op_eq (pv 2) pe_str (nomark _)) (pss_one (ps_ret (pe_c (d_kept T) hr pz (pa_cons (pv 1) pa_nil)))) pss_nil)
  (pss_cons (ps_if (PW.pt (pw_or (pt_cmpR op_eq (pv 2) pe_str (nomark _)) (pw_or1 (pt_cmpR op_eq (pv 2) pe_str (nomark _))))) (pss_one (ps_ret (pe_c (d_truth T) hr pz (pa_cons (pe_cmpR op_ne (pe_c (d_as_number T) hr pz (pa_cons (pe_ix ix_list (pe_fld (pv 1) rfl) (pv 3) (fun _ _ => rfl)) pa_nil)) pe_int (nomark _)) pa_nil)))) pss_nil)
  (pss_cons (ps_if (pt_cmpR op_eq (pv 2) pe_str (nomark _)) (pss_one (ps_fld (pv 0) (pe_op op_sub (pe_fld (pv 0) rfl) pe_int) rfl)) pss_nil)
  (pss_one (ps_ret (pe_ix ix_list (pe_fld (pv 1) rfl) (pv 3) (fun _ _ => rfl))))))))))))), by
  obtain ⟨I0, H0, m, p, io, I, st, rs, d, ⟨e, loc, dn⟩, r, rfl, M, hf, hfit, hcl, hr, q⟩ := h
  have hf0 := hf
  obtain ⟨a, dx, ue, kd, xs, rfl, ha, he, hk, hd, hv⟩ := hf
  obtain ⟨b, dx2, li, ys, rfl, g1, g2, g3, g4, g5⟩ := id he.at
  change VAll I xs dn at hv
  have sI := M.ext.ih
  have hq1 : SqL K H d xs := .inl (.inl hd)
  refine k_sset ⟨_, rfl, a, _, dx, _, _, rfl, sI _ _ ha, T.c_Frame, T.n_Frame_expression, rfl, b, _, dx2, _, _, rfl, sI _ _ g1, T.c_Expression, T.n_Expression_kind, rfl, ?_⟩
  refine k_sset ⟨_, rfl, a, _, dx, _, _, rfl, sI _ _ ha, T.c_Frame, T.n_Frame_done, rfl, d, xs, rfl, .inl hq1, _, _, rfl, rfl, ?_⟩
  have E0 := Ext.refl sI
  cases e with
  | num n =>
    obtain rfl : Except.ok (Vbdcar.Val.int n) = r := Option.some.inj hr
    exact ifsT (a := "number") rfl ⟨_, rfl, a, _, dx, _, _, rfl, sI _ _ ha, T.c_Frame, T.n_Frame_expression, rfl, b, _, dx2, _, _, rfl, sI _ _ g1, T.c_Expression, T.n_Expression_number, rfl, q _ I H M (.int n)⟩
  | var x =>
    refine ifsF (a := "variable") rfl <| ifsT (a := "variable") rfl ?_
    obtain ⟨z, rfl⟩ : ∃ z, r = .ok z := by
      have hr : (match envGet loc x with | some v => some (Except.ok v) | none => (envGet io x).map .ok) = some r := hr
      cases hl : envGet loc x with
      | some v => rw [hl] at hr; exact ⟨v, (Option.some.inj hr).symm⟩
      | none =>
        rw [hl] at hr
        cases hi : envGet io x with
        | none => rw [hi] at hr; cases hr
        | some v => rw [hi] at hr; exact ⟨v, (Option.some.inj hr).symm⟩
    exact ⟨_, rfl, _, rfl, _, _, rfl, I0, H0, m, p, io, I, st, rs, d, _, x, z, rfl, M, hf0, rfl, hr, fun u' hu => q u' I H M hu⟩
  | op o l =>
    have hr : (if dn.length = l.list.length then some (match raw o dn with | .ok v => chk v | .error k => .error k) else none) = some r := hr
    by_cases hl : dn.length = l.list.length
    · rw [if_pos hl] at hr
      refine ifsF (a := "operation") rfl <| ifsF (a := "operation") rfl <| ifsT (a := "operation") rfl ⟨_, rfl, a, _, dx, _, _, rfl, sI _ _ ha, T.c_Frame, T.n_Frame_expression, rfl, b, _, dx2, _, _, rfl, sI _ _ g1, T.c_Expression, T.n_Expression_word, rfl, _, rfl, a, _, dx, _, _, rfl, sI _ _ ha, T.c_Frame, T.n_Frame_done, rfl, _, _, rfl, I, o, xs, dn, d, sI, rfl, rfl, hd, hv, arity_of hfit hl, hfit.vals, ?_⟩
      cases hraw : raw o dn with
      | error k =>
        rw [hraw] at hr
        obtain rfl := Option.some.inj hr
        exact fun I2 H2 e2 => q I2 H2 (M.grow e2)
      | ok v =>
        rw [hraw] at hr
        have hr : chk v = r := Option.some.inj hr
        intro u I2 H2 e2 hu
        refine ⟨_, rfl, v, hu.mono e2.ih, ?_⟩
        have hck : ∀ w, chk v = .ok w → w = v := by
          intro w hw
          unfold chk at hw
          split at hw
          · split at hw
            · cases hw
            · exact (Except.ok.inj hw).symm
          · split at hw
            · cases hw
            · exact (Except.ok.inj hw).symm
        cases hc : chk v with
        | error k => rw [hc] at hr; subst hr; exact q I2 H2 (M.grow e2)
        | ok w => rw [hc] at hr; subst hr; exact q u I2 H2 (M.grow e2) (by rw [hck w hc]; exact hu)
    · rw [if_neg hl] at hr; cases hr
  | each x a0 b0 =>
    have hr : (Vbdcar.allInts (dn.drop 1)).map (fun l => Except.ok (Vbdcar.Val.list l)) = some r := hr
    cases hj : Vbdcar.allInts (dn.drop 1) with
    | none => rw [hj] at hr; cases hr
    | some js =>
      rw [hj] at hr
      obtain rfl := Option.some.inj hr
      refine ifsF (a := "each") rfl <| ifsF (a := "each") rfl <| ifsF (a := "each") rfl <| ifsT (a := "each") rfl ⟨_, rfl, a, _, dx, _, _, rfl, sI _ _ ha, T.c_Frame, T.n_Frame_done, rfl, _, rfl, d, xs, rfl, hq1, fun S hS => ?_⟩
      have hxs : xs.drop 1 = js.map V.int := by
        cases hv with
        | nil => cases hj; rfl
        | cons _ t => exact vall_ints t hj
      rw [cut1, hxs]
      exact q _ _ _ (M.grow (E0.new hS)) (.list (l := js) upd_same)
  | keep x a0 b0 =>
    have hr : (match (generalizing := false) dn with | .list row :: r => (Vbdcar.allInts r).map fun js => Except.ok (Vbdcar.Val.list (keptOf row js)) | _ => none) = some r := hr
    refine ifsF (a := "keep") rfl <| ifsF (a := "keep") rfl <| ifsF (a := "keep") rfl <| ifsF (a := "keep") rfl <| ifsT (a := "keep") rfl ?_
    cases dn with
    | nil => cases hr
    | cons v0 vr =>
      cases v0 with
      | int _ => cases hr
      | list row =>
        cases hj : Vbdcar.allInts vr with
        | none => simp only [hj] at hr; cases hr
        | some js =>
          simp only [hj] at hr
          obtain rfl := Option.some.inj hr
          exact ⟨_, rfl, _, rfl, I, d, _, row, js, vr, sI, hf0, rfl, hfit.many, hj, fun u' I2 H2 e2 hu => q u' I2 H2 (M.grow e2) hu⟩
  | and_ a0 b0 =>
    have hr : (match dn.getLast? with | some (.int j) => some (Except.ok (Vbdcar.Val.int (tr (decide (j ≠ 0))))) | some (.list _) => some (.error 1) | none => none) = some r := hr
    refine ifsF (a := "and") rfl <| ifsF (a := "and") rfl <| ifsF (a := "and") rfl <| ifsF (a := "and") rfl <| ifsF (a := "and") rfl <| orT (a := "and") rfl ?_
    cases hg : dn.getLast? with
    | none => rw [hg] at hr; cases hr
    | some z =>
      rw [hg] at hr
      obtain ⟨u, hu, hz⟩ := lastA hv hg
      refine k_ret (k_call (k_cons (k_op (doneV T sI rfl rfl (sI _ _ ha) hd hu hz (fun n e1 e2 => ?_) fun l e1 => ?_))))
      · subst e1 e2
        obtain rfl := Option.some.inj hr
        refine k_c ⟨rfl, _, rfl, _, rfl, ?_⟩
        rw [dI, show (!decide (n = 0)) = decide (n ≠ 0) by by_cases h : n = 0 <;> simp [h]]
        exact q _ I H M (.int _)
      · subst e1
        obtain rfl := Option.some.inj hr
        exact q I H M
  | or_ a0 b0 =>
    have hr : (match dn.getLast? with | some (.int j) => some (Except.ok (Vbdcar.Val.int (tr (decide (j ≠ 0))))) | some (.list _) => some (.error 1) | none => none) = some r := hr
    refine ifsF (a := "or") rfl <| ifsF (a := "or") rfl <| ifsF (a := "or") rfl <| ifsF (a := "or") rfl <| ifsF (a := "or") rfl <| orT (a := "or") rfl ?_
    cases hg : dn.getLast? with
    | none => rw [hg] at hr; cases hr
    | some z =>
      rw [hg] at hr
      obtain ⟨u, hu, hz⟩ := lastA hv hg
      refine k_ret (k_call (k_cons (k_op (doneV T sI rfl rfl (sI _ _ ha) hd hu hz (fun n e1 e2 => ?_) fun l e1 => ?_))))
      · subst e1 e2
        obtain rfl := Option.some.inj hr
        refine k_c ⟨rfl, _, rfl, _, rfl, ?_⟩
        rw [dI, show (!decide (n = 0)) = decide (n ≠ 0) by by_cases h : n = 0 <;> simp [h]]
        exact q _ I H M (.int _)
      · subst e1
        obtain rfl := Option.some.inj hr
        exact q I H M
  | call g l =>
    have hr : dn.getLast?.map Except.ok = some r := hr
    refine ifsF (a := "call") rfl <| ifsF (a := "call") rfl <| ifsF (a := "call") rfl <| ifsF (a := "call") rfl <| ifsF (a := "call") rfl <| orF (a := "call") rfl <| ifsT (a := "call") rfl ?_
    cases hg : dn.getLast? with
    | none => rw [hg] at hr; cases hr
    | some z =>
      rw [hg] at hr
      obtain rfl := Option.some.inj hr
      obtain ⟨u, hu, hz⟩ := lastA hv hg
      obtain ⟨mdx, pv, dio, fl, hm, hfl, hpv, hio, hnum⟩ := M.nums
      have hc0 := hcl rfl
      refine ⟨_, rfl, m, _, mdx, _, _, rfl, hm, T.c_Machine, T.n_Machine_calls, rfl, _, _, rfl, rfl, _, rfl, m, _, mdx, _, rfl, hm, T.c_Machine, T.n_Machine_calls, mF_len, ?_⟩
      rw [mF_less hc0]
      have M1 := hnum st.steps (st.calls - 1)
      have nmd : d ≠ m := ne_of hd hm (fun z => nomatch z)
      refine ⟨_, rfl, a, _, dx, _, _, rfl, M1.ext.ih _ _ ha, T.c_Frame, T.n_Frame_done, rfl, _, rfl, d, xs, _, u, rfl, rfl, .inl (.inl (by rw [upd_ne nmd]; exact hd)), hu, ?_⟩
      exact q u I _ M1 hz
  | ite _ _ _ =>
    have hr : dn.getLast?.map Except.ok = some r := hr
    refine ifsF (a := "if") rfl <| ifsF (a := "if") rfl <| ifsF (a := "if") rfl <| ifsF (a := "if") rfl <| ifsF (a := "if") rfl <| orF (a := "if") rfl <| ifsF (a := "if") rfl ?_
    cases hg : dn.getLast? with
    | none => rw [hg] at hr; cases hr
    | some z =>
      rw [hg] at hr
      obtain rfl := Option.some.inj hr
      obtain ⟨u, hu, hz⟩ := lastA hv hg
      exact ⟨_, rfl, a, _, dx, _, _, rfl, sI _ _ ha, T.c_Frame, T.n_Frame_done, rfl, _, rfl, d, xs, _, u, rfl, rfl, hq1, hu, q u I H M hz⟩
  | let_ _ _ _ =>
    have hr : dn.getLast?.map Except.ok = some r := hr
    refine ifsF (a := "let") rfl <| ifsF (a := "let") rfl <| ifsF (a := "let") rfl <| ifsF (a := "let") rfl <| ifsF (a := "let") rfl <| orF (a := "let") rfl <| ifsF (a := "let") rfl ?_
    cases hg : dn.getLast? with
    | none => rw [hg] at hr; cases hr
    | some z =>
      rw [hg] at hr
      obtain rfl := Option.some.inj hr
      obtain ⟨u, hu, hz⟩ := lastA hv hg
      exact ⟨_, rfl, a, _, dx, _, _, rfl, sI _ _ ha, T.c_Frame, T.n_Frame_done, rfl, _, rfl, d, xs, _, u, rfl, rfl, hq1, hu, q u I H M hz⟩⟩
end
end Bd


end
/-! ## BdWork -/
section
namespace Bd
open PySem PySem.Spec PyProof.Rows
open L2
section
variable {I0 H0 I H : Hp} {m : Addr} {p : Vbdcar.Prog} {io : EnvV} {s c : Nat} {f : AFr} {fs : List AFr} {rs : List V}
theorem MAt.top (M : MAt I0 H0 m p io I H ⟨s, c, f :: fs⟩ rs) : ∃ u us d, rs = u :: us ∧ FrameAt I H u d f ∧ I d = none ∧ H0 d = none := by
  obtain ⟨dx, pv, dio, fl, ds, h1, h2, h3, h4, h5, h6, h7, h8, h9, h10, h11⟩ := M.ex
  cases h9 with
  | cons h h0 hi t => exact ⟨_, _, _, rfl, h, hi, h0⟩
theorem FsAt.len {H0 I H : Hp} : ∀ {us : List V} {ds : List Addr} {fs : List AFr}, FsAt H0 I H us ds fs → us.length = fs.length
  | _, _, _, .nil => rfl
  | _, _, _, .cons _ _ _ t => congrArg Nat.succ t.len
theorem MAt.len {st : MS} (M : MAt I0 H0 m p io I H st rs) : rs.length = st.frames.length := by
  obtain ⟨dx, pv, dio, fl, ds, h1, h2, h3, h4, h5, h6, h7, h8, h9, h10, h11⟩ := M.ex
  exact h9.len
/-- the machine without its top frame -/
theorem MAt.pop {u : V} {us : List V} (M : MAt I0 H0 m p io I H ⟨s, c, f :: fs⟩ (u :: us)) : ∃ dx pv dio fl, H m = some (.ins cMachine dx (mF pv dio s c fl)) ∧ H fl = some (.lst (u :: us).reverse) ∧ MAt I0 H0 m p io I (upd H fl (.lst us.reverse)) ⟨s, c, fs⟩ us ∧ (upd H fl (.lst us.reverse)) m = some (.ins cMachine dx (mF pv dio s c fl)) := by
  obtain ⟨dx, pv, dio, fl, ds, h1, h2, h3, h4, h5, h6, h7, h8, h9, h10, h11⟩ := M.ex
  cases h9 with
  | cons h h0 hi t =>
    have nmf : m ≠ fl := ne_of h5 h6 (fun z => nomatch z)
    have h5' : (upd H fl (.lst us.reverse)) m = some (.ins cMachine dx (mF pv dio s c fl)) := by rw [upd_ne nmf]; exact h5
    exact ⟨dx, pv, dio, fl, h5, h6, ⟨M.ext.mut h3 h4, dx, pv, dio, fl, _, h1, h2, h3, h4, h5', upd_same, h7, h8, t.upd fun hm => h10 (List.mem_cons_of_mem _ hm), fun hm => h10 (List.mem_cons_of_mem _ hm), (List.nodup_cons.mp h11).2⟩, h5'⟩
/-- a value is told to the top frame -/
theorem MAt.app {x : V} {v : Val} (M : MAt I0 H0 m p io I H ⟨s, c, f :: fs⟩ rs) (hx : VAt I x v) : ∃ a dx us d ue kd xs, rs = .ref a :: us ∧ I a = some (.ins cFrame dx (frF ue kd d)) ∧ H d = some (.lst xs) ∧ xs.length = f.done.length ∧ MAt I0 H0 m p io I (upd H d (.lst (xs ++ [x]))) ⟨s, c, { f with done := f.done ++ [v] } :: fs⟩ rs := by
  obtain ⟨dx, pv, dio, fl, ds, h1, h2, h3, h4, h5, h6, h7, h8, h9, h10, h11⟩ := M.ex
  cases h9 with
  | @cons u d _ us ds _ h h0 hi t =>
    obtain ⟨a, fdx, ue, kd, xs, rfl, k1, k2, k3, k4, k5⟩ := h
    have nmd : m ≠ d := ne_of h5 k4 (fun z => nomatch z)
    have nfd : fl ≠ d := fun e => h10 (by rw [e]; simp)
    refine ⟨a, fdx, us, d, ue, kd, xs, rfl, k1, k4, paired_len k5, ⟨M.ext.mut h0 hi, dx, pv, dio, fl, _, h1, h2, h3, h4, ?_, ?_, h7, h8, .cons ⟨a, fdx, ue, kd, xs ++ [x], rfl, k1, k2, k3, upd_same, k5.snoc hx⟩ h0 hi (t.upd (List.nodup_cons.mp h11).1), h10, h11⟩⟩
    · rw [upd_ne nmd]; exact h5
    · rw [upd_ne nfd]; exact h6
end
section
variable {w : World} {K : PySem.W.Frag} {mg : Str → Option Value} {base : Heap}
abbrev sp_work_out : Sp := Sp2 fun u v H Q E => ∃ (I0 H0 : Hp) (m : Addr) (p : Vbdcar.Prog) (io : EnvV) (I : Hp) (e : Exp) (n : Nat) (r : Except Nat Val) (t : Nat), u = .ref m ∧ MAt I0 H0 m p io I H ⟨0, 0, []⟩ [] ∧ ExpAt I v e ∧ Run p io n ⟨1, 0, [⟨e, [], []⟩]⟩ r t ∧
  Out r (fun z => ∀ u I2 H2 c fs rs, MAt I0 H0 m p io I2 H2 ⟨t, c, fs⟩ rs → VAt I2 u z → Q u H2) fun k => ∀ I2 H2 c fs rs, MAt I0 H0 m p io I2 H2 ⟨t, c, fs⟩ rs → errF E H2 k
theorem atI_top {u : V} {us : List V} : atI (u :: us).reverse ((((u :: us).reverse.length : Nat) : Int) - 1) = some u := by
  refine atI_last us.length _ (by simp) ?_
  rw [List.reverse_cons, List.getElem?_append_right (by simp)]
  simp
abbrev n_work_out : List Str := ["machine", "expression", "frame", "following", "part", "known", "value"]
theorem sc_work_out : FnScope n_work_out ["machine", "expression"] (defScope s_work_out) := ⟨rfl, rfl, rfl, by decide +kernel, rfl, by decide +kernel, by decide +kernel⟩
theorem d_work_out (T : Tx w K mg)  : Def w K mg base 12 "work_out" ["machine", "expression"] (sp_work_out) :=
  mkDef2 T f_work_out rfl rfl sc_work_out rfl (fun _ _ _ _ _ _ us hl => match us, hl with | [_, _], _ => rfl) fun u v cdv A outer s H Q E hr h =>
  ⟨_, (pss_cons (ps_expr (pe_c (d_begin T) hr pz (pa_cons (pv 0) (pa_cons (pv 1) (pa_cons pe_dnewK pa_nil)))))
  (pss_one (ps_while (passes_of rfl) (pt_val pe_bl) (pss_cons (ps_set (i := 2) sc_work_out.nd rfl (Or.inl rfl) (pe_ix ix_list (pe_fld (pv 0) rfl) (pe_op op_sub (pe_callB call_len_seq (by rfl) T.fr_len (by decide +kernel) (pa_cons (pe_fld (pv 0) rfl) pa_nil)) pe_int) (fun _ _ => rfl)))
  (pss_cons (ps_set (i := 3) sc_work_out.nd rfl (Or.inl rfl) (pe_c (d_next_part T) hr pz (pa_cons (pv 0) (pa_cons (pv 2) pa_nil))))
  (pss_one (ps_if (pt_cmpR op_notN (pv 3) pe_non (nomark _)) (pss_cons (ps_asg (pv 3) (pg_tup rfl (pgs_cons (pg_name (i := 4) sc_work_out.nd rfl (Or.inl rfl)) (pgs_cons (pg_name (i := 5) sc_work_out.nd rfl (Or.inl rfl)) pgs_nil))))
  (pss_one (ps_expr (pe_c (d_begin T) hr pz (pa_cons (pv 0) (pa_cons (pv 4) (pa_cons (pv 5) pa_nil))))))) (pss_cons (ps_set (i := 6) sc_work_out.nd rfl (Or.inl rfl) (pe_c (d_value_of T) hr pz (pa_cons (pv 0) (pa_cons (pv 2) pa_nil))))
  (pss_cons (ps_expr (pe_bm0 PySem.F.plainAttrs_list PySem.F.slot_list_pop PySem.F.type_list_pop mt_pop (pe_fld (pv 0) rfl)))
  (pss_cons (ps_if (pt_cmpR op_eq (pe_callB call_len_seq (by rfl) T.fr_len (by decide +kernel) (pa_cons (pe_fld (pv 0) rfl) pa_nil)) pe_int (nomark _)) (pss_one (ps_ret (pv 6))) pss_nil)
  (pss_one (ps_expr (pe_bm PySem.F.plainAttrs_list PySem.F.slot_list_append PySem.F.type_list_append mt_append (pe_fld (pe_ix ix_list (pe_fld (pv 0) rfl) (pe_op op_sub (pe_callB call_len_seq (by rfl) T.fr_len (by decide +kernel) (pa_cons (pe_fld (pv 0) rfl) pa_nil)) pe_int) (fun _ _ => rfl)) rfl) (pa_cons (pv 6) pa_nil)))))))))))))), by
  obtain ⟨I0, H0, m, p, io, I, e, n, r, t, rfl, M, he, hrun, q⟩ := h
  have E0 := Ext.refl M.ext.ih
  refine k_seq ⟨_, rfl, _, rfl, fun D hD => ?_⟩
  have M0 := M.grow (E0.new (o := .dK []) hD)
  have s0 := Same.new (o := HO.dK []) (M.ext.ih.free hD)
  refine ⟨_, _, _, rfl, I0, H0, m, p, io, _, _, [], e, [], D, rfl, M0, by simp, he.mono s0, rfl, knNil upd_same, (fun z => nomatch z), fun _ I2 H2 r0 M2 => ?_⟩
  refine ⟨fun k σ H' => ∃ (I' : Hp) (s c : Nat) (f : AFr) (fs : List AFr) (rs : List V), MAt I0 H0 m p io I' H' ⟨s, c, f :: fs⟩ rs ∧ rs.length ≤ s ∧ s ≤ 5000 ∧ Run p io k ⟨s, c, f :: fs⟩ r t ∧ ∃ o2 o3 o4 o5 o6, σ = [some (.ref m), some v, o2, o3, o4, o5, o6],
    ⟨n, I2, 1, 0, ⟨e, [], []⟩, [], [r0], M2, Nat.le_refl _, by decide, hrun, none, none, none, none, none, rfl⟩, fun k σ H1 ⟨I1, s, c, f, fs, rs, M1, hrs, hs, run, o2, o3, o4, o5, o6, es⟩ => ?_⟩
  subst es
  refine ⟨true, rfl, iteT ⟨fun σ' H' => ∃ k', k' < k ∧ ∃ (I' : Hp) (s c : Nat) (f : AFr) (fs : List AFr) (rs : List V), MAt I0 H0 m p io I' H' ⟨s, c, f :: fs⟩ rs ∧ rs.length ≤ s ∧ s ≤ 5000 ∧ Run p io k' ⟨s, c, f :: fs⟩ r t ∧ ∃ o2 o3 o4 o5 o6, σ' = [some (.ref m), some v, o2, o3, o4, o5, o6], fun σ' H' h => h, ?_⟩⟩
  obtain ⟨u, us, d, rfl, hfr, hid, h0d⟩ := M1.top
  obtain ⟨mdx, pv, dio, fl, hm, hfl, hpv, hio, hnum⟩ := M1.nums
  have hq1 : SqL K H1 fl (u :: us).reverse := .inl (.inl hfl)
  have vfr : ∀ {σ : L2.St} {H' : Hp} {s' c' : Nat}, σ[0]? = some (some (.ref m)) → H' m = some (.ins cMachine mdx (mF pv dio s' c' fl)) → L2.Val (tFld K (tVar 0) "frames") σ H' (.ref fl) := fun h0 hm' => val_fld (val_var h0) hm' T.c_Machine T.n_Machine_frames rfl
  refine k_sset (k_op (vfr rfl hm _ (k_op (k_cb (k_cons (vfr rfl hm _ ⟨fl, _, rfl, .inl hq1, ⟨_, _, rfl, rfl, fl, _, _, u, rfl, rfl, hq1, atI_top, ?_⟩⟩))))))
  have nx : ∀ b, FitP p f → nextA p c f = b → NxM I0 H0 m p io ⟨s, c, f :: fs⟩ (u :: us) H1 = NxM I0 H0 m p io ⟨s, c, f :: fs⟩ (u :: us) H1 := fun _ _ _ => rfl
  have hlen : (u :: us).length = (f :: fs).length := M1.len
  cases run with
  | @push n' _ _ _ _ e' loc b _ _ hf h hs5 hk =>
    refine k_sset ⟨_, rfl, _, rfl, _, _, rfl, I0, H0, m, p, io, I1, _, u :: us, d, f, rfl, M1, hfr, hid, h0d, hf, ?_⟩
    rw [h]
    intro tt ue kd I2 H2 M2 ht hue hkd
    refine ⟨_, rfl, rfl, _, rfl, iteT ?_⟩
    refine ⟨_, rfl, tt, _, rfl, .inl (.inl (M2.ext.ih _ _ ht)), rfl, _, _, rfl, _, _, rfl, rfl, ?_⟩
    refine ⟨_, rfl, _, rfl, _, rfl, _, _, _, rfl, I0, H0, m, p, io, I2, _, u :: us, e', loc, kd, rfl, M2, by omega, hue, rfl, hkd, fun z => absurd z (show ¬ s = 5000 by omega), fun _ I3 H3 r3 M3 => ?_⟩
    refine ⟨n', Nat.lt_succ_self _, I3, s + 1, _, _, f :: fs, _, M3, ?_, by omega, hk, _, _, _, _, _, rfl⟩
    rw [List.length_cons]; omega
  | @full _ _ _ e' loc b hf h =>
    refine k_sset ⟨_, rfl, _, rfl, _, _, rfl, I0, H0, m, p, io, I1, _, u :: us, d, f, rfl, M1, hfr, hid, h0d, hf, ?_⟩
    rw [h]
    intro tt ue kd I2 H2 M2 ht hue hkd
    refine ⟨_, rfl, rfl, _, rfl, iteT ?_⟩
    refine ⟨_, rfl, tt, _, rfl, .inl (.inl (M2.ext.ih _ _ ht)), rfl, _, _, rfl, _, _, rfl, rfl, ?_⟩
    exact ⟨_, rfl, _, rfl, _, rfl, _, _, _, rfl, I0, H0, m, p, io, I2, _, u :: us, e', loc, kd, rfl, M2, by omega, hue, rfl, hkd, fun _ => q I2 H2 _ _ _ M2, fun z => absurd rfl z⟩
  | fail hf h =>
    refine k_sset ⟨_, rfl, _, rfl, _, _, rfl, I0, H0, m, p, io, I1, _, u :: us, d, f, rfl, M1, hfr, hid, h0d, hf, ?_⟩
    rw [h]
    exact fun I2 H2 M2 => q I2 H2 _ _ _ M2
  | vfail hf h hd hv =>
    refine k_sset ⟨_, rfl, _, rfl, _, _, rfl, I0, H0, m, p, io, I1, _, u :: us, d, f, rfl, M1, hfr, hid, h0d, hf, ?_⟩
    rw [h]
    refine ⟨_, rfl, rfl, _, rfl, iteF ?_⟩
    refine k_sset ⟨_, rfl, _, rfl, _, _, rfl, I0, H0, m, p, io, I1, _, u :: us, d, f, _, rfl, M1, hfr, hf.1, fun z => absurd z (by rw [hd]; exact Bool.false_ne_true), hv, ?_⟩
    exact fun I2 H2 M2 => q I2 H2 _ _ _ M2
  | last hf h hc hv =>
    refine k_sset ⟨_, rfl, _, rfl, _, _, rfl, I0, H0, m, p, io, I1, _, u :: us, d, f, rfl, M1, hfr, hid, h0d, hf, ?_⟩
    rw [h]
    refine ⟨_, rfl, rfl, _, rfl, iteF ?_⟩
    refine k_sset ⟨_, rfl, _, rfl, _, _, rfl, I0, H0, m, p, io, I1, _, u :: us, d, f, _, rfl, M1, hfr, hf.1, hc, hv, ?_⟩
    intro x I2 H2 M2 hx
    obtain ⟨dx2, pv2, dio2, fl2, hm2, hfl2, M3, hm3⟩ := M2.pop
    have hus : us = [] := List.length_eq_zero_iff.mp (by simpa using hlen)
    subst hus
    refine ⟨_, rfl, m, _, dx2, _, _, rfl, hm2, T.c_Machine, T.n_Machine_frames, rfl, .inl ⟨rfl, _, .inl (.inl hfl2)⟩, fl2, _, u, rfl, rfl, hfl2, rfl, ?_⟩
    refine ⟨_, rfl, m, _, dx2, _, _, rfl, hm3, T.c_Machine, T.n_Machine_frames, rfl, fl2, [], rfl, .inl (.inl (.inl upd_same)), rfl, _, rfl, iteT ⟨_, rfl, q x I2 _ _ _ _ M3 hx⟩⟩
  | @pop n' _ _ _ g gs z b _ _ hf h hc hv hg hk =>
    refine k_sset ⟨_, rfl, _, rfl, _, _, rfl, I0, H0, m, p, io, I1, _, u :: us, d, f, rfl, M1, hfr, hid, h0d, hf, ?_⟩
    rw [h]
    refine ⟨_, rfl, rfl, _, rfl, iteF ?_⟩
    refine k_sset ⟨_, rfl, _, rfl, _, _, rfl, I0, H0, m, p, io, I1, _, u :: us, d, f, _, rfl, M1, hfr, hf.1, hc, hv, ?_⟩
    intro x I2 H2 M2 hx
    obtain ⟨dx2, pv2, dio2, fl2, hm2, hfl2, M3, hm3⟩ := M2.pop
    have hdl : (u :: us).reverse.dropLast = us.reverse := by rw [List.reverse_cons, List.dropLast_concat]
    obtain ⟨a3, dx3, us3, d3, ue3, kd3, xs3, rfl, ha3, hd3, hl3, M4⟩ := M3.app hx
    refine ⟨_, rfl, m, _, dx2, _, _, rfl, hm2, T.c_Machine, T.n_Machine_frames, rfl, .inl ⟨rfl, _, .inl (.inl hfl2)⟩, fl2, _, u, rfl, rfl, hfl2, ?_, ?_⟩
    · rw [List.reverse_cons, List.length_append, List.length_singleton, Nat.add_sub_cancel, List.getElem?_append_right (by simp)]
      simp
    rw [hdl]
    have hq3 : SqL K (upd H2 fl2 (.lst (V.ref a3 :: us3).reverse)) fl2 (V.ref a3 :: us3).reverse := .inl (.inl upd_same)
    have nz : decide (V.int (((V.ref a3 :: us3).reverse.length : Nat) : Int) = V.int 0) = false := by
      rw [dI]
      exact decide_eq_false (by rw [List.length_reverse, List.length_cons]; omega)
    refine ⟨_, rfl, m, _, dx2, _, _, rfl, hm3, T.c_Machine, T.n_Machine_frames, rfl, fl2, _, rfl, .inl hq3, rfl, _, rfl, ?_⟩
    rw [nz]
    refine iteF ⟨_, rfl, m, _, dx2, _, _, rfl, hm3, T.c_Machine, T.n_Machine_frames, rfl, _, rfl, m, _, dx2, _, _, rfl, hm3, T.c_Machine, T.n_Machine_frames, rfl, fl2, _, rfl, .inl hq3, _, _, rfl, rfl, fl2, _, _, _, rfl, rfl, hq3, atI_top, a3, _, dx3, _, _, rfl, M3.ext.ih _ _ ha3, T.c_Frame, T.n_Frame_done, rfl, .inl ⟨rfl, _, .inl (.inl hd3)⟩, _, rfl, d3, _, _, rfl, rfl, hd3, ?_, ?_⟩
    · rw [sizeLine_eq, hl3]; omega
    · refine ⟨n', Nat.lt_succ_self _, I2, s, _, _, gs, _, M4, ?_, hs, hk, _, _, _, _, _, rfl⟩
      rw [List.length_cons] at hrs
      omega⟩
end
end Bd


end
/-! ## BdEvP -/
section
namespace Bd
/-! ## the spec's operations by the raw ones -/
theorem chk_int (n : Int) : chk (.int n) = Vbdcar.int n := rfl
theorem chk_small {v : Val} (h : VOk v) : chk v = .ok v := by
  cases v with
  | int n => have h : n.natAbs ≤ 1000000000000000000 := h; show (if _ then _ else _) = _; rw [if_neg (by omega)]
  | list l => have h := h.1; show (if _ then _ else _) = _; rw [if_neg (by omega)]
theorem vok_tr (b : Bool) : VOk (.int (tr b)) := by cases b <;> (show Int.natAbs _ ≤ _; decide)
theorem vok_chk {v w : Val} (h : chk v = .ok w) (hl : ∀ l, v = .list l → ∀ n ∈ l, n.natAbs ≤ 1000000000000000000) : VOk w := by
  cases v with
  | int n =>
    have h : (if 1000000000000000000 < n ∨ n < -1000000000000000000 then Except.error 3 else Except.ok (Vbdcar.Val.int n)) = .ok w := h
    split at h
    · cases h
    · cases h; show Int.natAbs _ ≤ _; omega
  | list l =>
    have h : (if 64 < l.length then Except.error 3 else Except.ok (Vbdcar.Val.list l)) = .ok w := h
    split at h
    · cases h
    · cases h; exact ⟨by omega, hl l rfl⟩
theorem sorted_len (l : List Int) : (Vbdcar.sorted l).length = l.length := (sorted_perm l).length_eq
theorem vok_sorted {l : List Int} (h : VOk (.list l)) : VOk (.list (Vbdcar.sorted l)) := ⟨by rw [sorted_len]; exact h.1, fun n hn => h.2 n ((sorted_perm l).mem_iff.mp hn)⟩
theorem allInts_mem : ∀ {vs : List Val} {l : List Int}, Vbdcar.allInts vs = some l → vs = l.map Vbdcar.Val.int
  | [], l, h => by cases h; rfl
  | .int n :: r, l, h => by
    have h : (Vbdcar.allInts r).map (fun l => n :: l) = some l := h
    cases hr : Vbdcar.allInts r with
    | none => rw [hr] at h; cases h
    | some l' => rw [hr] at h; cases h; rw [List.map_cons, allInts_mem hr]
  | .list _ :: r, l, h => by cases h
def Fine (a b : Except Nat Val) : Prop := a = (match b with | .ok v => chk v | .error k => .error k) ∧ ∀ v, a = .ok v → VOk v
theorem fE (k : Nat) : Fine (.error k) (.error k) := ⟨rfl, fun v q => by cases q⟩
theorem fI {a : Except Nat Val} {n : Int} (e : a = chk (.int n)) : Fine a (.ok (.int n)) := ⟨e, fun v q => by rw [e] at q; exact vok_chk q (fun l h => by cases h)⟩
theorem fL {a : Except Nat Val} {l : List Int} (e : a = chk (.list l)) (h : ∀ n ∈ l, n.natAbs ≤ 1000000000000000000) : Fine a (.ok (.list l)) := ⟨e, fun v q => by rw [e] at q; exact vok_chk q (fun l' h' => by cases h'; exact h)⟩
theorem fS {v : Val} (h : VOk v) : Fine (.ok v) (.ok v) := ⟨(chk_small h).symm, fun w q => by cases q; exact h⟩
theorem truth_chk (b : Bool) : Vbdcar.truth b = chk (.int (tr b)) := (chk_small (vok_tr b)).symm
theorem natAbs_getD {l : List Int} (h : VOk (.list l)) (i : Nat) : (l.getD i 0).natAbs ≤ 1000000000000000000 := by
  rw [List.getD_eq_getElem?_getD]
  cases e : l[i]? with
  | none => simp
  | some n => exact h.2 n (List.mem_of_getElem? e)
/-- what an operation's outcome is: the spec's; and a value stays within the bounds -/
theorem apply_raw {o : Nat} {vs : List Val} (ha : arity o vs.length) (hv : ∀ v, v ∈ vs → VOk v) : Fine (Vbdcar.apply o vs) (raw o vs) := by
  rcases ha with ⟨rfl, h8⟩ | ⟨h1, hl⟩ | ⟨h2, hl⟩
  · have e1 : Vbdcar.apply 8 vs = (match Vbdcar.allInts vs with | some l => Vbdcar.list l | none => .error 1) := rfl
    have e2 : raw 8 vs = (match Vbdcar.allInts vs with | some l => .ok (.list l) | none => .error 1) := rfl
    rw [e1, e2]
    cases h : Vbdcar.allInts vs with
    | none => exact fE 1
    | some l =>
      refine fL (a := Vbdcar.list l) rfl fun n hn => ?_
      have hm := allInts_mem h
      exact hv (.int n) (by rw [hm]; exact List.mem_map_of_mem hn)
  · match vs, hl with
    | [x], _ =>
      have hx := hv x (by simp)
      cases x with
      | int a =>
        rcases h1 with rfl | rfl | rfl | rfl | rfl | rfl | rfl | rfl
        · exact fI (a := Vbdcar.truth (a == 0)) (truth_chk _)
        all_goals exact fE 1
      | list l =>
        rcases h1 with rfl | rfl | rfl | rfl | rfl | rfl | rfl | rfl
        · exact fE 1
        · exact fI (a := Vbdcar.int (l.length : Nat)) rfl
        · show Fine (if l.isEmpty = true then .error 2 else .ok (.list (l.drop 1))) (if l.isEmpty = true then .error 2 else .ok (.list (l.drop 1)))
          by_cases h : l.isEmpty = true
          · rw [if_pos h]; exact fE 2
          · rw [if_neg h]
            exact fS ⟨by have := hx.1; rw [List.length_drop]; omega, fun n hn => hx.2 n (List.mem_of_mem_drop hn)⟩
        · show Fine (match Vbdcar.sorted l with | a :: _ => .ok (.int a) | [] => .error 2) (match Vbdcar.sorted l with | a :: _ => .ok (.int a) | [] => .error 2)
          cases h : Vbdcar.sorted l with
          | nil => exact fE 2
          | cons a r => exact fS (hx.2 a (sorted_min h).1)
        · show Fine (match (Vbdcar.sorted l).reverse with | a :: _ => .ok (.int a) | [] => .error 2) (match (Vbdcar.sorted l).reverse with | a :: _ => .ok (.int a) | [] => .error 2)
          cases h : (Vbdcar.sorted l).reverse with
          | nil => exact fE 2
          | cons a r => exact fS (hx.2 a (sorted_max h).1)
        · refine fI (a := Vbdcar.int (l.foldl (fun a b => a + b) 0)) (n := l.sum) ?_
          rw [foldl_sum, Int.zero_add]; rfl
        · exact fS (vok_sorted hx)
        · exact fS (v := .list l.reverse) ⟨by have := hx.1; rw [List.length_reverse]; exact this, fun n hn => hx.2 n (List.mem_reverse.mp hn)⟩
  · match vs, hl with
    | [x, y], _ =>
      have hx := hv x (by simp)
      have hy := hv y (by simp)
      cases x with
      | int a =>
        cases y with
        | int b =>
          rcases h2 with rfl | rfl | rfl | rfl | rfl | rfl | rfl | rfl | rfl | rfl | rfl | rfl
          · exact fI (a := Vbdcar.int (a + b)) rfl
          · exact fI (a := Vbdcar.int (a - b)) rfl
          · exact fI (a := Vbdcar.int (a * b)) rfl
          · rw [raw3]
            show Fine (if b = 0 then .error 2 else Vbdcar.int (a.fdiv b)) _
            by_cases h : b = 0
            · rw [if_pos h, if_pos h]; exact fE 2
            · rw [if_neg h, if_neg h]; exact fI rfl
          · rw [raw4]
            show Fine (if b = 0 then .error 2 else Vbdcar.int (a.fmod b)) _
            by_cases h : b = 0
            · rw [if_pos h, if_pos h]; exact fE 2
            · rw [if_neg h, if_neg h, Int.fmod_def]; exact fI rfl
          · exact fI (a := Vbdcar.truth (decide (a < b))) (truth_chk _)
          · exact fI (a := Vbdcar.truth (Vbdcar.Val.int a == Vbdcar.Val.int b)) (truth_chk _)
          · exact fE 1
          · exact fE 1
          · exact fE 1
          · exact fE 1
          · show Fine (if (Vbdcar.LONG : Int) < b - a then .error 3 else .ok (.list ((List.range (b - a).toNat).map fun (i : Nat) => a + (i : Int)))) (if (64 : Int) < b - a then .error 3 else .ok (.list ((List.range (b - a).toNat).map fun (i : Nat) => a + (i : Int))))
            have e : (Vbdcar.LONG : Int) = 64 := rfl
            rw [e]
            by_cases h : (64 : Int) < b - a
            · rw [if_pos h]; exact fE 3
            · rw [if_neg h]
              have hx : a.natAbs ≤ 1000000000000000000 := hx
              have hy : b.natAbs ≤ 1000000000000000000 := hy
              refine fS ⟨by rw [List.length_map, List.length_range]; omega, fun n hn => ?_⟩
              obtain ⟨i, hi, rfl⟩ := List.mem_map.mp hn
              have := List.mem_range.mp hi
              omega
        | list m =>
          rcases h2 with rfl | rfl | rfl | rfl | rfl | rfl | rfl | rfl | rfl | rfl | rfl | rfl
          all_goals first
            | exact fE 1
            | exact fI (a := Vbdcar.truth (Vbdcar.Val.int a == Vbdcar.Val.list m)) (truth_chk _)
            | exact fL (a := Vbdcar.list (a :: m)) rfl (fun n hn => by
                rcases List.mem_cons.mp hn with rfl | hn
                · exact hx
                · exact hy.2 n hn)
      | list l =>
        cases y with
        | int b =>
          rcases h2 with rfl | rfl | rfl | rfl | rfl | rfl | rfl | rfl | rfl | rfl | rfl | rfl
          · exact fE 1
          · exact fE 1
          · exact fE 1
          · exact fE 1
          · exact fE 1
          · exact fE 1
          · exact fI (a := Vbdcar.truth (Vbdcar.Val.list l == Vbdcar.Val.int b)) (truth_chk _)
          · show Fine (if b < 0 ∨ (l.length : Int) ≤ b then .error 2 else .ok (.int (l.getD b.toNat 0))) (if b < 0 ∨ (l.length : Int) ≤ b then .error 2 else .ok (.int (l.getD b.toNat 0)))
            by_cases h : b < 0 ∨ (l.length : Int) ≤ b
            · rw [if_pos h]; exact fE 2
            · rw [if_neg h]; exact fS (natAbs_getD hx _)
          · exact fE 1
          · exact fE 1
          · exact fI (a := Vbdcar.truth (l.contains b)) (truth_chk _)
          · exact fE 1
        | list m =>
          rcases h2 with rfl | rfl | rfl | rfl | rfl | rfl | rfl | rfl | rfl | rfl | rfl | rfl
          all_goals first
            | exact fE 1
            | exact fI (a := Vbdcar.truth (Vbdcar.Val.list l == Vbdcar.Val.list m)) (truth_chk _)
            | exact fL (a := Vbdcar.list (l ++ m)) rfl (fun n hn => by
                rcases List.mem_append.mp hn with hn | hn
                · exact hx.2 n hn
                · exact hy.2 n hn)
/-! ## steps never grow -/
theorem ev_le (fs : List Vbdcar.Fun) (io : EnvV) : ∀ N : Nat,
    (∀ d e x n r m, Vbdcar.ev fs io N d e x n = (r, m) → m ≤ n ∧ (∀ v, r = .ok v → m < n)) ∧
    (∀ d e l acc n r m, Vbdcar.evs fs io N d e l acc n = (r, m) → m ≤ n) ∧
    (∀ d e y b l acc n r m, Vbdcar.evEach fs io N d e y b l acc n = (r, m) → m ≤ n) ∧
    (∀ d e y b l acc n r m, Vbdcar.evKeep fs io N d e y b l acc n = (r, m) → m ≤ n)
  | 0 => by
    refine ⟨fun d e x n r m h => ?_, fun d e l acc n r m h => ?_, fun d e y b l acc n r m h => ?_, fun d e y b l acc n r m h => ?_⟩
    · rw [Vbdcar.ev] at h; cases h; exact ⟨Nat.le_refl _, fun v q => by cases q⟩
    · rw [Vbdcar.evs] at h; cases h; exact Nat.le_refl _
    · rw [Vbdcar.evEach] at h; cases h; exact Nat.le_refl _
    · rw [Vbdcar.evKeep] at h; cases h; exact Nat.le_refl _
  | N + 1 => by
    obtain ⟨h1, h2, h3, h4⟩ := ev_le fs io N
    refine ⟨fun d e x n r m h => ?_, fun d e l acc n r m h => ?_, fun d e y b l acc n r m h => ?_, fun d e y b l acc n r m h => ?_⟩
    · rw [Vbdcar.ev] at h
      by_cases hn : n = 0
      · rw [if_pos hn] at h; cases h; exact ⟨Nat.zero_le _, fun v q => by cases q⟩
      rw [if_neg hn] at h
      suffices hs : m ≤ n - 1 from ⟨by omega, fun _ _ => by omega⟩
      cases x with
      | num k => cases h; exact Nat.le_refl _
      | var y => cases h; exact Nat.le_refl _
      | ite c a b =>
        cases hc : Vbdcar.ev fs io N d e c (n - 1) with | mk rc mc =>
        simp only [hc] at h
        have l1 := (h1 _ _ _ _ _ _ hc).1
        cases rc with
        | error k => cases h; exact l1
        | ok v =>
          cases v with
          | list _ => cases h; exact l1
          | int k =>
            simp only at h
            split at h
            · have := (h1 _ _ _ _ _ _ h).1; omega
            · have := (h1 _ _ _ _ _ _ h).1; omega
      | let_ y c b =>
        cases hc : Vbdcar.ev fs io N d e c (n - 1) with | mk rc mc =>
        simp only [hc] at h
        have l1 := (h1 _ _ _ _ _ _ hc).1
        cases rc with
        | error k => cases h; exact l1
        | ok v =>
          have := (h1 _ _ _ _ _ _ h).1; omega
      | each y c b =>
        cases hc : Vbdcar.ev fs io N d e c (n - 1) with | mk rc mc =>
        simp only [hc] at h
        have l1 := (h1 _ _ _ _ _ _ hc).1
        cases rc with
        | error k => cases h; exact l1
        | ok v =>
          cases v with
          | int _ => cases h; exact l1
          | list l => have := h3 _ _ _ _ _ _ _ _ _ h; omega
      | keep y c b =>
        cases hc : Vbdcar.ev fs io N d e c (n - 1) with | mk rc mc =>
        simp only [hc] at h
        have l1 := (h1 _ _ _ _ _ _ hc).1
        cases rc with
        | error k => cases h; exact l1
        | ok v =>
          cases v with
          | int _ => cases h; exact l1
          | list l => have := h4 _ _ _ _ _ _ _ _ _ h; omega
      | and_ c b =>
        cases hc : Vbdcar.ev fs io N d e c (n - 1) with | mk rc mc =>
        simp only [hc] at h
        have l1 := (h1 _ _ _ _ _ _ hc).1
        cases rc with
        | error k => cases h; exact l1
        | ok v =>
          cases v with
          | list _ => cases h; exact l1
          | int k =>
            simp only at h
            split at h
            · cases h; exact l1
            · cases hb : Vbdcar.ev fs io N d e b mc with | mk rb mb =>
              simp only [hb] at h
              have l2 := (h1 _ _ _ _ _ _ hb).1
              cases rb with
              | error k => cases h; omega
              | ok w => cases w <;> (cases h; omega)
      | or_ c b =>
        cases hc : Vbdcar.ev fs io N d e c (n - 1) with | mk rc mc =>
        simp only [hc] at h
        have l1 := (h1 _ _ _ _ _ _ hc).1
        cases rc with
        | error k => cases h; exact l1
        | ok v =>
          cases v with
          | list _ => cases h; exact l1
          | int k =>
            simp only at h
            split at h
            · cases h; exact l1
            · cases hb : Vbdcar.ev fs io N d e b mc with | mk rb mb =>
              simp only [hb] at h
              have l2 := (h1 _ _ _ _ _ _ hb).1
              cases rb with
              | error k => cases h; omega
              | ok w => cases w <;> (cases h; omega)
      | op o l =>
        cases hc : Vbdcar.evs fs io N d e l [] (n - 1) with | mk rc mc =>
        simp only [hc] at h
        have l1 := h2 _ _ _ _ _ _ _ hc
        cases rc with
        | error k => cases h; exact l1
        | ok v => cases h; exact l1
      | call g l =>
        cases hc : Vbdcar.evs fs io N d e l [] (n - 1) with | mk rc mc =>
        simp only [hc] at h
        have l1 := h2 _ _ _ _ _ _ _ hc
        cases rc with
        | error k => cases h; exact l1
        | ok v =>
          simp only at h
          split at h
          · cases h; exact l1
          · split at h
            · have := (h1 _ _ _ _ _ _ h).1; omega
            · cases h; exact l1
    · cases l with
      | nil => rw [Vbdcar.evs] at h; cases h; exact Nat.le_refl _
      | cons c l =>
        rw [Vbdcar.evs] at h
        cases hc : Vbdcar.ev fs io N d e c n with | mk rc mc =>
        simp only [hc] at h
        have l1 := (h1 _ _ _ _ _ _ hc).1
        cases rc with
        | error k => cases h; exact l1
        | ok v => have := h2 _ _ _ _ _ _ _ h; omega
    · cases l with
      | nil => rw [Vbdcar.evEach] at h; cases h; exact Nat.le_refl _
      | cons a l =>
        rw [Vbdcar.evEach] at h
        cases hc : Vbdcar.ev fs io N d ((y, .int a) :: e) b n with | mk rc mc =>
        simp only [hc] at h
        have l1 := (h1 _ _ _ _ _ _ hc).1
        cases rc with
        | error k => cases h; exact l1
        | ok v =>
          cases v with
          | list _ => cases h; exact l1
          | int k => have := h3 _ _ _ _ _ _ _ _ _ h; omega
    · cases l with
      | nil => rw [Vbdcar.evKeep] at h; cases h; exact Nat.le_refl _
      | cons a l =>
        rw [Vbdcar.evKeep] at h
        cases hc : Vbdcar.ev fs io N d ((y, .int a) :: e) b n with | mk rc mc =>
        simp only [hc] at h
        have l1 := (h1 _ _ _ _ _ _ hc).1
        cases rc with
        | error k => cases h; exact l1
        | ok v =>
          cases v with
          | list _ => cases h; exact l1
          | int k => have := h4 _ _ _ _ _ _ _ _ _ h; omega
end Bd

end
/-! ## BdSimP -/
section
namespace Bd
/-! ## what the reader lets through, with scopes -/
inductive WE (fs : List Vbdcar.Fun) : List (List Nat) → Exp → Prop where
  | num {vs n} : WE fs vs (.num n)
  | var {vs x} (h : x ∈ vs) : WE fs vs (.var x)
  | ite {vs c a b} (hc : WE fs vs c) (ha : WE fs vs a) (hb : WE fs vs b) : WE fs vs (.ite c a b)
  | let_ {vs x a b} (ha : WE fs vs a) (hb : WE fs (x :: vs) b) : WE fs vs (.let_ x a b)
  | each {vs x a b} (ha : WE fs vs a) (hb : WE fs (x :: vs) b) : WE fs vs (.each x a b)
  | keep {vs x a b} (ha : WE fs vs a) (hb : WE fs (x :: vs) b) : WE fs vs (.keep x a b)
  | and_ {vs a b} (ha : WE fs vs a) (hb : WE fs vs b) : WE fs vs (.and_ a b)
  | or_ {vs a b} (ha : WE fs vs a) (hb : WE fs vs b) : WE fs vs (.or_ a b)
  | op {vs o l} (hl : ∀ c, c ∈ l.list → WE fs vs c) : WE fs vs (.op o l)
  | call {vs g l h} (hf : fs.find? (fun h => h.name == g) = some h) (hp : h.params.length = l.list.length) (hnd : h.params.Nodup) (h4 : h.params.length ≤ 4) (hl : ∀ c, c ∈ l.list → WE fs vs c) : WE fs vs (.call g l)
structure PWF (p : Vbdcar.Prog) : Prop where
  main : WE p.funs Vbdcar.INPUTS p.main ∧ FOk p.main ∧ deep p.main < 21
  funs : ∀ f, f ∈ p.funs → WE p.funs (f.params ++ Vbdcar.INPUTS) f.body ∧ FOk f.body ∧ deep f.body < 21
  few : p.funs.length ≤ 8
structure IoOk (io : EnvV) : Prop where
  has : ∀ x, x ∈ Vbdcar.INPUTS → ∃ v, envGet io x = some v
  ok : ∀ x v, envGet io x = some v → VOk v
def Sc (env : EnvV) (vs : List (List Nat)) : Prop := ∀ x, x ∈ vs → ∃ v, envGet env x = some v
theorem envGet_append (a b : EnvV) (x : List Nat) : envGet (a ++ b) x = match envGet a x with | some v => some v | none => envGet b x := by
  unfold envGet
  rw [List.find?_append]
  cases List.find? (fun y => y.1 == x) a with
  | none => rfl
  | some v => rfl
theorem lookup_get (e : EnvV) (x : List Nat) : Vbdcar.lookup e x = match envGet e x with | some v => .ok v | none => .error 1 := by
  unfold Vbdcar.lookup envGet
  cases List.find? (fun y => y.1 == x) e with
  | none => rfl
  | some v => rfl
theorem Sc.cons {env : EnvV} {vs : List (List Nat)} {x : List Nat} {v : Val} (h : Sc env vs) : Sc ((x, v) :: env) (x :: vs) := by
  intro y hy
  rw [envGet_cons]
  by_cases e : x = y
  · exact ⟨v, by rw [if_pos e]⟩
  · rw [if_neg e]
    exact h y ((List.mem_cons.mp hy).resolve_left (fun z => e z.symm))
theorem envGet_mem {x : List Nat} {v : Val} {e : EnvV} (h : envGet e x = some v) : ∃ y, y ∈ e ∧ y.2 = v := by
  unfold envGet at h
  cases hf : List.find? (fun y => y.1 == x) e with
  | none => rw [hf] at h; cases h
  | some y => rw [hf] at h; exact ⟨y, List.mem_of_find?_eq_some hf, Option.some.inj h⟩
theorem envGet_zip {x : List Nat} : ∀ {ps : List (List Nat)} {ws : List Val}, x ∈ ps → ps.length = ws.length → ∃ v, envGet (ps.zip ws) x = some v
  | p :: ps, w :: ws, h, hl => by
    rw [List.zip_cons_cons]
    rw [envGet_cons]
    by_cases e : p = x
    · exact ⟨w, by rw [if_pos e]⟩
    · rw [if_neg e]
      exact envGet_zip ((List.mem_cons.mp h).resolve_left (fun z => e z.symm)) (Nat.succ.inj hl)
  | _ :: _, [], _, hl => by cases hl
section
variable {p : Vbdcar.Prog} {io : EnvV}
theorem mkFit {vs : List (List Nat)} {e : Exp} {loc : EnvV} {dn : List Val} (h1 : WE p.funs vs e) (h2 : FOk e) (h3 : loc.length + deep e ≤ 25) (h4 : ∀ v, v ∈ dn → VOk v) (h5 : isChoice e = true → dn.length ≤ 2) (h6 : dn.length ≤ 70) : FitP p ⟨e, loc, dn⟩ := by
  refine ⟨⟨by show loc.length ≤ 30; omega, h4, fun o l q => ?_, h5, h6⟩, fun g l q => ?_⟩
  · cases h2 with | mk _ ho _ _ => exact ho o l q
  · obtain rfl : e = _ := q
    cases h1 with | call hf hp hnd h4 hl => exact ⟨_, hf, hnd, h4⟩
/-- what is wished when a frame's value v is told -/
def Fin (p : Vbdcar.Prog) (io : EnvV) (rest : List AFr) (v : Val) (m d : Nat) (r : Except Nat Val) (t : Nat) : Prop := match rest with
  | [] => r = .ok v ∧ t = 5000 - m
  | g :: gs => g.done.length ≤ 70 ∧ ∃ k, Run p io k ⟨5000 - m, d, { g with done := g.done ++ [v] } :: gs⟩ r t
theorem finish {f : AFr} {rest : List AFr} {v : Val} {m d t : Nat} {r : Except Nat Val} {b : Bool} (hf : FitP p f) (hn : nextA p d f = (.done, b)) (hc : isCall f.e = false) (hv : valueA io f = some (.ok v)) (h : Fin p io rest v m d r t) : ∃ k, Run p io k ⟨5000 - m, d, f :: rest⟩ r t := by
  have hc0 : isCall f.e = true → 0 < d := fun z => by rw [hc] at z; cases z
  cases rest with
  | nil =>
    obtain ⟨rfl, rfl⟩ := h
    exact ⟨1, .last hf hn hc0 hv⟩
  | cons g gs =>
    obtain ⟨hg, k, hk⟩ := h
    refine ⟨k + 1, .pop hf hn hc0 hv hg ?_⟩
    rw [hc]
    exact hk
def SimEv (p : Vbdcar.Prog) (io : EnvV) (N : Nat) : Prop := ∀ vs e loc d n rest r t res m, WE p.funs vs e → FOk e → Sc (loc ++ io) vs → loc.length + deep e ≤ 25 → (∀ x v, envGet (loc ++ io) x = some v → VOk v) → d ≤ 20 → 2 * n ≤ N → n ≤ 5000 → 0 < n →
  Vbdcar.ev p.funs io N d (loc ++ io) e n = (res, m) → (∀ v, res = .ok v → VOk v → Fin p io rest v m d r t) → (∀ k, res = .error k → r = .error k ∧ t = 5000 - m) → ∃ k, Run p io k ⟨5000 - (n - 1), d, ⟨e, loc, []⟩ :: rest⟩ r t
/-- a part is pushed and worked out -/
theorem pushSim {N : Nat} (S : SimEv p io N) {vs : List (List Nat)} {f : AFr} {e : Exp} {loc : EnvV} {rest : List AFr} {d n m t : Nat} {r : Except Nat Val} {res : Except Nat Val} (hf : FitP p f) (hn : nextA p d f = (.push e loc, false))
    (h1 : WE p.funs vs e) (h2 : FOk e) (h3 : Sc (loc ++ io) vs) (h4 : loc.length + deep e ≤ 25) (h5 : ∀ x v, envGet (loc ++ io) x = some v → VOk v) (hd : d ≤ 20) (hN : 2 * n ≤ N) (hn5 : n ≤ 5000) (hev : Vbdcar.ev p.funs io N d (loc ++ io) e n = (res, m))
    (hok : ∀ v, res = .ok v → VOk v → f.done.length ≤ 70 ∧ ∃ k, Run p io k ⟨5000 - m, d, { f with done := f.done ++ [v] } :: rest⟩ r t) (her : ∀ k, res = .error k → r = .error k ∧ t = 5000 - m) : ∃ k, Run p io k ⟨5000 - n, d, f :: rest⟩ r t := by
  rcases Nat.eq_zero_or_pos n with rfl | hpos
  · have e0 : Vbdcar.ev p.funs io N d (loc ++ io) e 0 = (.error 4, 0) := by
      cases N with
      | zero => rw [Vbdcar.ev]
      | succ N => rw [Vbdcar.ev, if_pos rfl]
    rw [e0] at hev
    cases hev
    obtain ⟨rfl, rfl⟩ := her 4 rfl
    exact ⟨1, .full hf hn⟩
  · obtain ⟨k, hk⟩ := S vs e loc d n (f :: rest) r t res m h1 h2 h3 h4 h5 hd hN hn5 hpos hev (fun v e1 e2 => hok v e1 e2) her
    refine ⟨k + 1, .push hf hn (by omega) ?_⟩
    rw [show 5000 - n + 1 = 5000 - (n - 1) by omega]
    exact hk

abbrev EnvOk (env : EnvV) : Prop := ∀ x v, envGet env x = some v → VOk v
def SimEvs (p : Vbdcar.Prog) (io : EnvV) (N : Nat) : Prop := ∀ vs E loc d n acc l rest r t res m pre, ((∃ o l0, E = .op o l0) ∨ ∃ g l0, E = .call g l0) → innerOf E = pre ++ l.list → pre.length = acc.length → WE p.funs vs E → FOk E → Sc (loc ++ io) vs → loc.length + deep E ≤ 25 → EnvOk (loc ++ io) → (∀ v, v ∈ acc → VOk v) → d ≤ 20 → 2 * n + 1 ≤ N → n ≤ 5000 →
  Vbdcar.evs p.funs io N d (loc ++ io) l acc n = (res, m) → (∀ ws, res = .ok ws → (∀ v, v ∈ ws → VOk v) → ws.length = (innerOf E).length → ∃ k, Run p io k ⟨5000 - m, d, ⟨E, loc, ws⟩ :: rest⟩ r t) → (∀ k, res = .error k → r = .error k ∧ t = 5000 - m) → ∃ k, Run p io k ⟨5000 - n, d, ⟨E, loc, acc.reverse⟩ :: rest⟩ r t
theorem ordNext {d : Nat} {E c : Exp} {loc : EnvV} {dn : List Val} (hE : (∃ o l0, E = .op o l0) ∨ ∃ g l0, E = .call g l0) (h : (innerOf E)[dn.length]? = some c) : nextA p d ⟨E, loc, dn⟩ = (.push c loc, false) := by
  have ho : ordF ⟨E, loc, dn⟩ = .push c loc := by
    show (match (innerOf E)[dn.length]? with | some c => Nx.push c loc | none => .done) = _
    rw [h]
  rcases hE with ⟨o, l0, rfl⟩ | ⟨g, l0, rfl⟩
  · show (ordF _, false) = _
    rw [ho]
  · have hl : dn.length < l0.list.length := (List.getElem?_eq_some_iff.mp h).1
    show (if dn.length < l0.list.length then (ordF _, false) else _) = _
    rw [if_pos hl, ho]
theorem we_child {fs : List Vbdcar.Fun} {vs : List (List Nat)} {E c : Exp} (hE : (∃ o l0, E = .op o l0) ∨ ∃ g l0, E = .call g l0) (h : WE fs vs E) (hc : c ∈ innerOf E) : WE fs vs c := by
  rcases hE with ⟨o, l0, rfl⟩ | ⟨g, l0, rfl⟩
  · cases h with | op hl => exact hl c hc
  · cases h with | call _ _ _ _ hl => exact hl c hc
theorem fok_child {E c : Exp} (h : FOk E) (hc : c ∈ innerOf E) : FOk c := by
  cases h with | mk _ _ _ h4 => exact h4 c hc
theorem fok_len {E : Exp} (h : FOk E) : (innerOf E).length ≤ 8 := by
  cases h with | mk _ _ h3 _ => exact h3
theorem sim_evs {N : Nat} (S : SimEv p io N) (S2 : SimEvs p io N) : SimEvs p io (N + 1) := by
  intro vs E loc d n acc l rest r t res m pre hE hin hpl hw hf hsc hdp hev hacc hd hN hn5 he hok her
  have h8 := fok_len hf
  have hchoice : isChoice E = true → acc.reverse.length ≤ 2 := by
    rcases hE with ⟨o, l0, rfl⟩ | ⟨g, l0, rfl⟩ <;> (intro z; cases z)
  cases l with
  | nil =>
    rw [Vbdcar.evs] at he
    cases he
    exact hok _ rfl (fun v hv => hacc v (List.mem_reverse.mp hv)) (by rw [hin]; simp [Vbdcar.Exps.list]; omega)
  | cons c l =>
    rw [Vbdcar.evs] at he
    have hlen : (innerOf E).length = acc.length + 1 + l.list.length := by rw [hin, List.length_append, Vbdcar.Exps.list, List.length_cons]; omega
    have hc : (innerOf E)[acc.reverse.length]? = some c := by
      rw [hin, List.length_reverse, ← hpl, List.getElem?_append_right (Nat.le_refl _), Nat.sub_self]; rfl
    have hcm := List.mem_of_getElem? hc
    have hdc := deep_mem hcm
    cases hr : Vbdcar.ev p.funs io N d (loc ++ io) c n with | mk rc mc =>
    simp only [hr] at he
    refine pushSim S (mkFit hw hf hdp (fun v hv => hacc v (List.mem_reverse.mp hv)) hchoice (by rw [List.length_reverse]; omega)) (ordNext hE hc) (we_child hE hw hcm) (fok_child hf hcm) hsc (by omega) hev hd (by omega) hn5 hr (fun v e1 hv => ⟨by show acc.reverse.length ≤ 70; rw [List.length_reverse]; omega, ?_⟩) fun k e1 => ?_
    · subst e1
      have hlt := ((ev_le p.funs io N).1 _ _ _ _ _ _ hr).2 v rfl
      have := S2 vs E loc d mc (v :: acc) l rest r t res m (pre ++ [c]) hE (by rw [hin, Vbdcar.Exps.list]; simp) (by simp [hpl]) hw hf hsc hdp hev (fun w hw => by
        rcases List.mem_cons.mp hw with rfl | hw
        · exact hv
        · exact hacc w hw) hd (by omega) (by omega) he hok her
      rw [List.reverse_cons] at this
      exact this
    · subst e1
      cases he
      exact her k rfl
theorem walk_ints {e a b : Exp} {y : List Nat} {loc : EnvV} {L js : List Int} : walkF y a b ⟨e, loc, .list L :: js.map Vbdcar.Val.int⟩ = match L[js.length]? with | some n => .push b ((y, .int n) :: loc) | none => .done := by
  show (match (js.map Vbdcar.Val.int).getLast? with | some (.list _) => Nx.fail 1 | _ => match L[(js.map Vbdcar.Val.int).length]? with | some n => .push b ((y, .int n) :: loc) | none => .done) = _
  rw [List.getLast?_map, List.length_map]
  cases js.getLast? <;> rfl
theorem walk_list {e a b : Exp} {y : List Nat} {loc : EnvV} {L js l' : List Int} : walkF y a b ⟨e, loc, .list L :: (js.map Vbdcar.Val.int ++ [.list l'])⟩ = .fail 1 := by
  show (match (js.map Vbdcar.Val.int ++ [Vbdcar.Val.list l']).getLast? with | some (.list _) => Nx.fail 1 | _ => match L[(js.map Vbdcar.Val.int ++ [Vbdcar.Val.list l']).length]? with | some n => .push b ((y, .int n) :: loc) | none => .done) = _
  rw [List.getLast?_concat]
theorem allInts_map : ∀ js : List Int, Vbdcar.allInts (js.map Vbdcar.Val.int) = some js
  | [] => rfl
  | n :: r => by
    show (Vbdcar.allInts (r.map Vbdcar.Val.int)).map (fun l => n :: l) = _
    rw [allInts_map r] <;> rfl
/-- frames that walk over a list: each (kp = false), keep (kp = true) -/
def walkE (kp : Bool) (y : List Nat) (a b : Exp) : Exp := if kp = true then .keep y a b else .each y a b
def walkV (kp : Bool) (L js : List Int) : Val := .list (if kp = true then keptOf L js else js)
def evWalk (kp : Bool) (fs : List Vbdcar.Fun) (io : EnvV) (N d : Nat) (e : EnvV) (y : List Nat) (b : Exp) (l acc : List Int) (n : Nat) : Vbdcar.Res := if kp = true then Vbdcar.evKeep fs io N d e y b l acc n else Vbdcar.evEach fs io N d e y b l acc n
def accOf (kp : Bool) (pre js : List Int) : List Int := (if kp = true then keptOf pre js else js).reverse
def SimWalk (kp : Bool) (p : Vbdcar.Prog) (io : EnvV) (N : Nat) : Prop := ∀ vs y a b loc d n L pre l js rest r t res m, L = pre ++ l → pre.length = js.length → VOk (.list L) → (∀ k, k ∈ js → k.natAbs ≤ 1000000000000000000) → WE p.funs (y :: vs) b → WE p.funs vs (walkE kp y a b) → FOk (walkE kp y a b) → Sc (loc ++ io) vs → loc.length + deep (walkE kp y a b) ≤ 25 → EnvOk (loc ++ io) → d ≤ 20 → 2 * n + 1 ≤ N → n ≤ 5000 →
  evWalk kp p.funs io N d (loc ++ io) y b l (accOf kp pre js) n = (res, m) → (∀ v, res = .ok v → VOk v → Fin p io rest v m d r t) → (∀ k, res = .error k → r = .error k ∧ t = 5000 - m) → ∃ k, Run p io k ⟨5000 - n, d, ⟨walkE kp y a b, loc, .list L :: js.map Vbdcar.Val.int⟩ :: rest⟩ r t
theorem keptOf_snoc {pre js : List Int} (h : pre.length = js.length) (a v : Int) : keptOf (pre ++ [a]) (js ++ [v]) = keptOf pre js ++ (if v = 0 then [] else [a]) := by
  unfold keptOf
  rw [List.zip_append h, List.filter_append, List.map_append]
  congr 1
  by_cases hv : v = 0
  · simp [hv]
  · simp [hv]
theorem accOf_snoc {kp : Bool} {pre js : List Int} (h : pre.length = js.length) (a v : Int) : accOf kp (pre ++ [a]) (js ++ [v]) = if kp = true then (if v = 0 then accOf kp pre js else a :: accOf kp pre js) else v :: accOf kp pre js := by
  cases kp with
  | false => simp [accOf]
  | true =>
    show (keptOf (pre ++ [a]) (js ++ [v])).reverse = if v = 0 then (keptOf pre js).reverse else a :: (keptOf pre js).reverse
    rw [keptOf_snoc h]
    by_cases hv : v = 0
    · simp [hv]
    · simp [hv]
theorem evWalk_nil (kp : Bool) (fs : List Vbdcar.Fun) (N d : Nat) (e : EnvV) (y : List Nat) (b : Exp) (acc : List Int) (n : Nat) : evWalk kp fs io (N + 1) d e y b [] acc n = (.ok (.list acc.reverse), n) := by
  cases kp with
  | false => show Vbdcar.evEach _ _ _ _ _ _ _ _ _ _ = _; rw [Vbdcar.evEach]
  | true => show Vbdcar.evKeep _ _ _ _ _ _ _ _ _ _ = _; rw [Vbdcar.evKeep]
theorem evWalk_cons (kp : Bool) (fs : List Vbdcar.Fun) (N d : Nat) (e : EnvV) (y : List Nat) (b : Exp) (a : Int) (l acc : List Int) (n : Nat) : evWalk kp fs io (N + 1) d e y b (a :: l) acc n = (match Vbdcar.ev fs io N d ((y, .int a) :: e) b n with
    | (.ok (.int v), m) => evWalk kp fs io N d e y b l (if kp = true then (if v = 0 then acc else a :: acc) else v :: acc) m
    | (.ok _, m) => (.error 1, m)
    | q => q) := by
  cases kp with
  | false => show Vbdcar.evEach _ _ _ _ _ _ _ _ _ _ = _; rw [Vbdcar.evEach]; rfl
  | true => show Vbdcar.evKeep _ _ _ _ _ _ _ _ _ _ = _; rw [Vbdcar.evKeep]; rfl
theorem walk_next {kp : Bool} {y : List Nat} {a b : Exp} {loc : EnvV} {d : Nat} {dn : List Val} : nextA p d ⟨walkE kp y a b, loc, dn⟩ = (walkF y a b ⟨walkE kp y a b, loc, dn⟩, false) := by cases kp <;> rfl
theorem keptOf_mem {L js : List Int} {n : Int} (h : n ∈ keptOf L js) : n ∈ L := by
  unfold keptOf at h
  obtain ⟨q, hq, rfl⟩ := List.mem_map.mp h
  exact (List.of_mem_zip (List.mem_filter.mp hq).1).1
theorem keptOf_len (L js : List Int) : (keptOf L js).length ≤ L.length := by
  unfold keptOf
  rw [List.length_map]
  refine Nat.le_trans (List.length_filter_le _ _) ?_
  rw [List.length_zip]; omega
theorem sim_walk {N : Nat} {kp : Bool} (S : SimEv p io N) (S2 : SimWalk kp p io N) : SimWalk kp p io (N + 1) := by
  intro vs y a b loc d n L pre l js rest r t res m hL hpl hok hjs hwb hw hf hsc hdp hev hd hN hn5 he hfin her
  have hL64 : L.length ≤ 64 := hok.1
  have hjl : js.length ≤ L.length := by rw [hL, List.length_append]; omega
  have hch : isChoice (walkE kp y a b) = true → False := by cases kp <;> (intro z; cases z)
  have hbm : b ∈ innerOf (walkE kp y a b) := by cases kp <;> simp [walkE, innerOf]
  have hdb := deep_mem hbm
  have vals : ∀ v, v ∈ (Vbdcar.Val.list L :: js.map Vbdcar.Val.int) → VOk v := by
    intro v hv
    rcases List.mem_cons.mp hv with rfl | hv
    · exact hok
    · obtain ⟨k, hk, rfl⟩ := List.mem_map.mp hv
      exact hjs k hk
  have fit : FitP p ⟨walkE kp y a b, loc, .list L :: js.map Vbdcar.Val.int⟩ := mkFit hw hf hdp vals (fun z => (hch z).elim) (by rw [List.length_cons, List.length_map]; omega)
  cases l with
  | nil =>
    rw [evWalk_nil] at he
    cases he
    rw [List.append_nil] at hL
    subst hL
    have hn : nextA p d ⟨walkE kp y a b, loc, .list L :: js.map Vbdcar.Val.int⟩ = (.done, false) := by
      rw [walk_next, walk_ints, List.getElem?_eq_none_iff.mpr (by omega)]
    have hv : valueA io ⟨walkE kp y a b, loc, .list L :: js.map Vbdcar.Val.int⟩ = some (.ok (walkV kp L js)) := by
      cases kp with
      | false =>
        show (Vbdcar.allInts (js.map Vbdcar.Val.int)).map (fun l => Except.ok (Vbdcar.Val.list l)) = _
        rw [allInts_map] <;> rfl
      | true =>
        show (Vbdcar.allInts (js.map Vbdcar.Val.int)).map (fun js => Except.ok (Vbdcar.Val.list (keptOf L js))) = _
        rw [allInts_map] <;> rfl
    have e1 : Vbdcar.Val.list (accOf kp L js).reverse = walkV kp L js := by rw [accOf, List.reverse_reverse, walkV]
    have vok : VOk (walkV kp L js) := by
      cases kp with
      | false => exact ⟨by show js.length ≤ 64; omega, hjs⟩
      | true => exact ⟨Nat.le_trans (keptOf_len L js) hL64, fun k hk => hok.2 k (keptOf_mem hk)⟩
    exact finish fit hn (by cases kp <;> rfl) hv (hfin _ (by rw [e1]) vok)
  | cons a0 l =>
    rw [evWalk_cons] at he
    have ha0 : L[js.length]? = some a0 := by rw [hL, ← hpl, List.getElem?_append_right (Nat.le_refl _), Nat.sub_self]; rfl
    have hn : nextA p d ⟨walkE kp y a b, loc, .list L :: js.map Vbdcar.Val.int⟩ = (.push b ((y, .int a0) :: loc), false) := by
      rw [walk_next, walk_ints, ha0]
    have hva : VOk (.int a0) := hok.2 a0 (List.mem_of_getElem? ha0)
    cases hr : Vbdcar.ev p.funs io N d ((y, .int a0) :: (loc ++ io)) b n with | mk rc mc =>
    simp only [hr] at he
    refine pushSim (rest := rest) (r := r) (t := t) (loc := (y, .int a0) :: loc) S fit hn hwb (fok_child hf hbm) hsc.cons (by rw [List.length_cons]; omega) (fun x v hx => ?_) hd (by omega) hn5 hr (fun v e1 hv => ⟨by rw [List.length_cons, List.length_map]; omega, ?_⟩) fun k e1 => ?_
    · rw [List.cons_append, envGet_cons] at hx
      split at hx
      · cases hx; exact hva
      · exact hev x v hx
    · subst e1
      have hlt := ((ev_le p.funs io N).1 _ _ _ _ _ _ hr).2 v rfl
      cases v with
      | int k =>
        simp only at he
        rw [← accOf_snoc hpl] at he
        have := S2 vs y a b loc d mc L (pre ++ [a0]) l (js ++ [k]) rest r t res m (by rw [hL]; simp) (by simp [hpl]) hok (fun q hq => by
          rcases List.mem_append.mp hq with hq | hq
          · exact hjs q hq
          · rw [List.mem_singleton.mp hq]; exact hv) hwb hw hf hsc hdp hev hd (by omega) (by omega) he hfin her
        rw [List.map_append] at this
        exact this
      | list l' =>
        cases he
        obtain ⟨rfl, rfl⟩ := her 1 rfl
        refine ⟨1, .fail (b := false) (mkFit hw hf hdp (fun v hv2 => ?_) (fun z => (hch z).elim) (by simp; omega)) ?_⟩
        · rcases List.mem_append.mp hv2 with hv2 | hv2
          · exact vals v hv2
          · rw [List.mem_singleton.mp hv2]; exact hv
        · rw [walk_next]
          exact congrArg (fun z => (z, false)) walk_list
    · subst e1
      cases he
      exact her k rfl

theorem finishE {f : AFr} {rest : List AFr} {k0 m d : Nat} {b : Bool} (hf : FitP p f) (hn : nextA p d f = (.done, b)) (hc : isCall f.e = false) (hv : valueA io f = some (.error k0)) : ∃ k, Run p io k ⟨5000 - m, d, f :: rest⟩ (.error k0) (5000 - m) := ⟨1, .vfail hf hn hc hv⟩
theorem sc_sub {env : EnvV} {vs : List (List Nat)} (h : Sc env vs) : Sc env vs := h
theorem mem_one {v w : Val} (h : VOk w) (hm : v ∈ ([w] : List Val)) : VOk v := by rw [List.mem_singleton.mp hm]; exact h
theorem mem_two {v w x : Val} (h : VOk w) (h' : VOk x) (hm : v ∈ ([w, x] : List Val)) : VOk v := by
  rcases List.mem_cons.mp hm with rfl | hm
  · exact h
  · exact mem_one h' hm
theorem envOk_cons {env : EnvV} {y : List Nat} {v : Val} (h : EnvOk env) (hv : VOk v) : EnvOk ((y, v) :: env) := by
  intro x w hx
  rw [envGet_cons] at hx
  split at hx
  · cases hx; exact hv
  · exact h x w hx
theorem sim_ev (W : PWF p) (O : IoOk io) {N : Nat} (S : SimEv p io N) (S2 : SimEvs p io N) (S3 : ∀ kp, SimWalk kp p io N) : SimEv p io (N + 1) := by
  intro vs e loc d n rest r t res m hw hf hsc hdp hev hd hN hn5 hpos he hfin her
  rw [Vbdcar.ev, if_neg (by omega)] at he
  have hN1 : 2 * (n - 1) + 1 ≤ N := by omega
  have hn4 : n - 1 ≤ 5000 := by omega
  have fit0 : FitP p ⟨e, loc, []⟩ := mkFit hw hf hdp (fun v hv => by simp at hv) (fun _ => by simp) (by simp)
  cases e with
  | num k =>
    cases he
    have hk : k.natAbs ≤ 1000000000 := by cases hf with | mk h _ _ _ => exact h k rfl
    exact finish fit0 (b := false) rfl rfl rfl (hfin _ rfl (Nat.le_trans hk (by decide)))
  | var x =>
    cases hw with | var hx =>
    obtain ⟨v, hv⟩ := hsc x hx
    have he : (Vbdcar.lookup (loc ++ io) x, n - 1) = (res, m) := he
    rw [lookup_get, hv] at he
    cases he
    refine finish fit0 (b := false) rfl rfl ?_ (hfin v rfl (hev x v hv))
    show (match envGet loc x with | some v => some (Except.ok v) | none => (envGet io x).map .ok) = some (.ok v)
    rw [envGet_append] at hv
    cases hl : envGet loc x with
    | some w => rw [hl] at hv; rw [Option.some.inj hv]
    | none => rw [hl] at hv; rw [show envGet io x = some v from hv]; rfl
  | ite c a b =>
    have hcm : c ∈ innerOf (.ite c a b) := by simp [innerOf]
    have ham : a ∈ innerOf (.ite c a b) := by simp [innerOf]
    have hbm : b ∈ innerOf (.ite c a b) := by simp [innerOf]
    have h1 := deep_mem hcm; have h2 := deep_mem ham; have h3 := deep_mem hbm
    obtain ⟨wc, wa, wb⟩ : WE p.funs vs c ∧ WE p.funs vs a ∧ WE p.funs vs b := by cases hw with | ite x y z => exact ⟨x, y, z⟩
    cases hr : Vbdcar.ev p.funs io N d (loc ++ io) c (n - 1) with | mk rc mc =>
    simp only [hr] at he
    refine pushSim S fit0 (loc := loc) (e := c) rfl wc (fok_child hf hcm) hsc (by omega) hev hd (by omega) hn4 hr (fun v e1 hv => ⟨by simp, ?_⟩) fun k e1 => ?_
    · subst e1
      have hlt := ((ev_le p.funs io N).1 _ _ _ _ _ _ hr).1
      have fit1 : FitP p ⟨.ite c a b, loc, [v]⟩ := mkFit hw hf hdp (fun w hw => mem_one hv hw) (fun _ => by simp) (by simp)
      cases v with
      | list l =>
        cases he
        obtain ⟨rfl, rfl⟩ := her 1 rfl
        exact ⟨1, .fail (b := false) fit1 rfl⟩
      | int k =>
        simp only at he
        have tail : ∀ x, (x = a ∨ x = b) → WE p.funs vs x → FOk x → loc.length + deep x ≤ 25 → nextA p d ⟨.ite c a b, loc, [.int k]⟩ = (.push x loc, false) → Vbdcar.ev p.funs io N d (loc ++ io) x mc = (res, m) → ∃ k2, Run p io k2 ⟨5000 - mc, d, ⟨.ite c a b, loc, [.int k]⟩ :: rest⟩ r t := by
          intro x _ wx fx dx hn hx
          refine pushSim S fit1 hn wx fx hsc dx hev hd (by omega) (by omega) hx (fun v2 e2 hv2 => ⟨by simp, ?_⟩) her
          exact finish (b := false) (mkFit hw hf hdp (fun w hw => mem_two hv hv2 hw) (fun _ => by simp) (by simp)) rfl rfl rfl (hfin v2 e2 hv2)
        have hnx : nextA p d ⟨.ite c a b, loc, [.int k]⟩ = (if k = 0 then Nx.push b loc else .push a loc, false) := rfl
        by_cases hz : k = 0
        · rw [if_pos hz] at he
          exact tail b (.inr rfl) wb (fok_child hf hbm) (by omega) (by rw [hnx, if_pos hz]) he
        · rw [if_neg hz] at he
          exact tail a (.inl rfl) wa (fok_child hf ham) (by omega) (by rw [hnx, if_neg hz]) he
    · subst e1; cases he; exact her k rfl
  | let_ y a b =>
    have ham : a ∈ innerOf (.let_ y a b) := by simp [innerOf]
    have hbm : b ∈ innerOf (.let_ y a b) := by simp [innerOf]
    have h2 := deep_mem ham; have h3 := deep_mem hbm
    obtain ⟨wa, wb⟩ : WE p.funs vs a ∧ WE p.funs (y :: vs) b := by cases hw with | let_ x y => exact ⟨x, y⟩
    cases hr : Vbdcar.ev p.funs io N d (loc ++ io) a (n - 1) with | mk rc mc =>
    simp only [hr] at he
    refine pushSim S fit0 (loc := loc) (e := a) rfl wa (fok_child hf ham) hsc (by omega) hev hd (by omega) hn4 hr (fun v e1 hv => ⟨by simp, ?_⟩) fun k e1 => ?_
    · subst e1
      have hlt := ((ev_le p.funs io N).1 _ _ _ _ _ _ hr).1
      have fit1 : FitP p ⟨.let_ y a b, loc, [v]⟩ := mkFit hw hf hdp (fun w hw => mem_one hv hw) (fun z => by cases z) (by simp)
      refine pushSim (vs := y :: vs) (e := b) (loc := (y, v) :: loc) S fit1 rfl wb (fok_child hf hbm) hsc.cons (by rw [List.length_cons]; omega) (envOk_cons hev hv) hd (by omega) (by omega) he (fun v2 e2 hv2 => ⟨by simp, ?_⟩) her
      exact finish (b := false) (mkFit hw hf hdp (fun w hw => mem_two hv hv2 hw) (fun z => by cases z) (by simp)) rfl rfl rfl (hfin v2 e2 hv2)
    · subst e1; cases he; exact her k rfl
  | each y a b =>
    have ham : a ∈ innerOf (.each y a b) := by simp [innerOf]
    have h2 := deep_mem ham
    obtain ⟨wa, wb⟩ : WE p.funs vs a ∧ WE p.funs (y :: vs) b := by cases hw with | each x y => exact ⟨x, y⟩
    cases hr : Vbdcar.ev p.funs io N d (loc ++ io) a (n - 1) with | mk rc mc =>
    simp only [hr] at he
    refine pushSim S fit0 (loc := loc) (e := a) rfl wa (fok_child hf ham) hsc (by omega) hev hd (by omega) hn4 hr (fun v e1 hv => ⟨by simp, ?_⟩) fun k e1 => ?_
    · subst e1
      have hlt := ((ev_le p.funs io N).1 _ _ _ _ _ _ hr).1
      cases v with
      | int k =>
        cases he
        obtain ⟨rfl, rfl⟩ := her 1 rfl
        exact ⟨1, .fail (b := false) (mkFit hw hf hdp (fun w hw => mem_one hv hw) (fun z => by cases z) (by simp)) rfl⟩
      | list l => exact S3 false vs y a b loc d mc l [] l [] rest r t res m rfl rfl hv (fun k hk => by simp at hk) wb hw hf hsc hdp hev hd (by omega) (by omega) he hfin her
    · subst e1; cases he; exact her k rfl
  | keep y a b =>
    have ham : a ∈ innerOf (.keep y a b) := by simp [innerOf]
    have h2 := deep_mem ham
    obtain ⟨wa, wb⟩ : WE p.funs vs a ∧ WE p.funs (y :: vs) b := by cases hw with | keep x y => exact ⟨x, y⟩
    cases hr : Vbdcar.ev p.funs io N d (loc ++ io) a (n - 1) with | mk rc mc =>
    simp only [hr] at he
    refine pushSim S fit0 (loc := loc) (e := a) rfl wa (fok_child hf ham) hsc (by omega) hev hd (by omega) hn4 hr (fun v e1 hv => ⟨by simp, ?_⟩) fun k e1 => ?_
    · subst e1
      have hlt := ((ev_le p.funs io N).1 _ _ _ _ _ _ hr).1
      cases v with
      | int k =>
        cases he
        obtain ⟨rfl, rfl⟩ := her 1 rfl
        exact ⟨1, .fail (b := false) (mkFit hw hf hdp (fun w hw => mem_one hv hw) (fun z => by cases z) (by simp)) rfl⟩
      | list l => exact S3 true vs y a b loc d mc l [] l [] rest r t res m rfl rfl hv (fun k hk => by simp at hk) wb hw hf hsc hdp hev hd (by omega) (by omega) he hfin her
    · subst e1; cases he; exact her k rfl
  | and_ a b =>
    have ham : a ∈ innerOf (.and_ a b) := by simp [innerOf]
    have hbm : b ∈ innerOf (.and_ a b) := by simp [innerOf]
    have h2 := deep_mem ham; have h3 := deep_mem hbm
    obtain ⟨wa, wb⟩ : WE p.funs vs a ∧ WE p.funs vs b := by cases hw with | and_ x y => exact ⟨x, y⟩
    cases hr : Vbdcar.ev p.funs io N d (loc ++ io) a (n - 1) with | mk rc mc =>
    simp only [hr] at he
    refine pushSim S fit0 (loc := loc) (e := a) rfl wa (fok_child hf ham) hsc (by omega) hev hd (by omega) hn4 hr (fun v e1 hv => ⟨by simp, ?_⟩) fun k e1 => ?_
    · subst e1
      have hlt := ((ev_le p.funs io N).1 _ _ _ _ _ _ hr).1
      have fit1 : FitP p ⟨.and_ a b, loc, [v]⟩ := mkFit hw hf hdp (fun w hw => mem_one hv hw) (fun _ => by simp) (by simp)
      cases v with
      | list l =>
        cases he
        obtain ⟨rfl, rfl⟩ := her 1 rfl
        exact ⟨1, .fail (b := false) fit1 rfl⟩
      | int k =>
        simp only at he
        have hnx : nextA p d ⟨.and_ a b, loc, [.int k]⟩ = (if decide (k ≠ 0) = true then Nx.push b loc else .done, false) := rfl
        have hval : valueA io ⟨.and_ a b, loc, [.int k]⟩ = some (.ok (.int (tr (decide (k ≠ 0))))) := rfl
        have tail : nextA p d ⟨.and_ a b, loc, [.int k]⟩ = (.push b loc, false) → (match Vbdcar.ev p.funs io N d (loc ++ io) b mc with
            | (.ok (.int j), q) => (Vbdcar.truth (j != 0), q)
            | (.ok _, q) => (.error 1, q)
            | r => r) = (res, m) → ∃ k2, Run p io k2 ⟨5000 - mc, d, ⟨.and_ a b, loc, [.int k]⟩ :: rest⟩ r t := by
          intro hn he
          cases hr2 : Vbdcar.ev p.funs io N d (loc ++ io) b mc with | mk rb mb =>
          rw [hr2] at he
          refine pushSim S fit1 hn wb (fok_child hf hbm) hsc (by omega) hev hd (by omega) (by omega) hr2 (fun v2 e2 hv2 => ⟨by simp, ?_⟩) fun k2 e2 => ?_
          · subst e2
            have fit2 : FitP p ⟨.and_ a b, loc, [.int k, v2]⟩ := mkFit hw hf hdp (fun w hw => mem_two hv hv2 hw) (fun _ => by simp) (by simp)
            cases v2 with
            | int j =>
              cases he
              have e3 : Vbdcar.truth (j != 0) = .ok (.int (tr (decide (j ≠ 0)))) := by
                show Except.ok (Vbdcar.Val.int (tr (j != 0))) = _
                rw [show (j != 0) = decide (j ≠ 0) by by_cases h : j = 0 <;> simp [h]]
              exact finish (b := false) fit2 rfl rfl rfl (hfin _ e3 (vok_tr _))
            | list l =>
              cases he
              obtain ⟨rfl, rfl⟩ := her 1 rfl
              exact finishE (b := false) fit2 rfl rfl rfl
          · subst e2; cases he; exact her k2 rfl
        by_cases hz : k = 0
        · subst hz
          rw [if_pos rfl] at he
          cases he
          exact finish (b := false) fit1 rfl rfl rfl (hfin _ rfl (vok_tr false))
        · rw [if_neg hz] at he
          exact tail (by rw [hnx, if_pos (decide_eq_true hz)]) he
    · subst e1; cases he; exact her k rfl
  | or_ a b =>
    have ham : a ∈ innerOf (.or_ a b) := by simp [innerOf]
    have hbm : b ∈ innerOf (.or_ a b) := by simp [innerOf]
    have h2 := deep_mem ham; have h3 := deep_mem hbm
    obtain ⟨wa, wb⟩ : WE p.funs vs a ∧ WE p.funs vs b := by cases hw with | or_ x y => exact ⟨x, y⟩
    cases hr : Vbdcar.ev p.funs io N d (loc ++ io) a (n - 1) with | mk rc mc =>
    simp only [hr] at he
    refine pushSim S fit0 (loc := loc) (e := a) rfl wa (fok_child hf ham) hsc (by omega) hev hd (by omega) hn4 hr (fun v e1 hv => ⟨by simp, ?_⟩) fun k e1 => ?_
    · subst e1
      have hlt := ((ev_le p.funs io N).1 _ _ _ _ _ _ hr).1
      have fit1 : FitP p ⟨.or_ a b, loc, [v]⟩ := mkFit hw hf hdp (fun w hw => mem_one hv hw) (fun _ => by simp) (by simp)
      cases v with
      | list l =>
        cases he
        obtain ⟨rfl, rfl⟩ := her 1 rfl
        exact ⟨1, .fail (b := false) fit1 rfl⟩
      | int k =>
        simp only at he
        have hnx : nextA p d ⟨.or_ a b, loc, [.int k]⟩ = (if decide (k ≠ 0) = false then Nx.push b loc else .done, false) := rfl
        have hval : valueA io ⟨.or_ a b, loc, [.int k]⟩ = some (.ok (.int (tr (decide (k ≠ 0))))) := rfl
        have tail : nextA p d ⟨.or_ a b, loc, [.int k]⟩ = (.push b loc, false) → (match Vbdcar.ev p.funs io N d (loc ++ io) b mc with
            | (.ok (.int j), q) => (Vbdcar.truth (j != 0), q)
            | (.ok _, q) => (.error 1, q)
            | r => r) = (res, m) → ∃ k2, Run p io k2 ⟨5000 - mc, d, ⟨.or_ a b, loc, [.int k]⟩ :: rest⟩ r t := by
          intro hn he
          cases hr2 : Vbdcar.ev p.funs io N d (loc ++ io) b mc with | mk rb mb =>
          rw [hr2] at he
          refine pushSim S fit1 hn wb (fok_child hf hbm) hsc (by omega) hev hd (by omega) (by omega) hr2 (fun v2 e2 hv2 => ⟨by simp, ?_⟩) fun k2 e2 => ?_
          · subst e2
            have fit2 : FitP p ⟨.or_ a b, loc, [.int k, v2]⟩ := mkFit hw hf hdp (fun w hw => mem_two hv hv2 hw) (fun _ => by simp) (by simp)
            cases v2 with
            | int j =>
              cases he
              have e3 : Vbdcar.truth (j != 0) = .ok (.int (tr (decide (j ≠ 0)))) := by
                show Except.ok (Vbdcar.Val.int (tr (j != 0))) = _
                rw [show (j != 0) = decide (j ≠ 0) by by_cases h : j = 0 <;> simp [h]]
              exact finish (b := false) fit2 rfl rfl rfl (hfin _ e3 (vok_tr _))
            | list l =>
              cases he
              obtain ⟨rfl, rfl⟩ := her 1 rfl
              exact finishE (b := false) fit2 rfl rfl rfl
          · subst e2; cases he; exact her k2 rfl
        by_cases hz : k = 0
        · subst hz
          rw [if_neg (fun z => z rfl)] at he
          exact tail (by rw [hnx]; rfl) he
        · rw [if_pos hz] at he
          cases he
          refine finish (b := false) fit1 (hnx.trans (by rw [if_neg (by rw [decide_eq_true hz]; exact fun z => nomatch z)])) rfl hval (hfin _ ?_ (vok_tr _))
          rw [decide_eq_true hz]; rfl
    · subst e1; cases he; exact her k rfl
  | op o l =>
    cases hr : Vbdcar.evs p.funs io N d (loc ++ io) l [] (n - 1) with | mk rc mc =>
    simp only [hr] at he
    refine S2 vs (.op o l) loc d (n - 1) [] l rest r t rc mc [] (.inl ⟨_, _, rfl⟩) rfl rfl hw hf hsc hdp hev (fun v hv => by simp at hv) hd hN1 hn4 hr (fun ws e1 hws hlen => ?_) fun k e1 => ?_
    · subst e1
      cases he
      have hl : ws.length = l.list.length := hlen
      have har : arity o ws.length := by rw [hl]; cases hf with | mk _ ho _ _ => exact ho o l rfl
      obtain ⟨a1, a2⟩ := apply_raw har hws
      have fit1 : FitP p ⟨.op o l, loc, ws⟩ := mkFit hw hf hdp hws (fun z => by cases z) (by have := fok_len hf; have : (innerOf (.op o l)).length = l.list.length := rfl; omega)
      have hn : nextA p d ⟨.op o l, loc, ws⟩ = (.done, false) := by
        show (ordF _, false) = _
        unfold ordF
        rw [show (innerOf (AFr.mk (.op o l) loc ws).e)[(AFr.mk (.op o l) loc ws).done.length]? = none from List.getElem?_eq_none_iff.mpr (by show l.list.length ≤ ws.length; omega)]
      have hv : valueA io ⟨.op o l, loc, ws⟩ = some (Vbdcar.apply o ws) := by
        show (if ws.length = l.list.length then some (match raw o ws with | .ok v => chk v | .error k => .error k) else none) = _
        rw [if_pos hl, a1] <;> rfl
      cases hap : Vbdcar.apply o ws with
      | ok v => exact finish fit1 hn rfl (by rw [hv, hap]) (hfin v hap (a2 v hap))
      | error k =>
        obtain ⟨rfl, rfl⟩ := her k hap
        exact finishE fit1 hn rfl (by rw [hv, hap])
    · subst e1; cases he; exact her k rfl
  | call g l =>
    cases hr : Vbdcar.evs p.funs io N d (loc ++ io) l [] (n - 1) with | mk rc mc =>
    simp only [hr] at he
    refine S2 vs (.call g l) loc d (n - 1) [] l rest r t rc mc [] (.inr ⟨_, _, rfl⟩) rfl rfl hw hf hsc hdp hev (fun v hv => by simp at hv) hd hN1 hn4 hr (fun ws e1 hws hlen => ?_) fun k e1 => ?_
    · subst e1
      have hle := (ev_le p.funs io N).2.1 _ _ _ _ _ _ _ hr
      have hl : ws.length = l.list.length := hlen
      have h8 := fok_len hf
      have h8 : l.list.length ≤ 8 := h8
      have fit1 : FitP p ⟨.call g l, loc, ws⟩ := mkFit hw hf hdp hws (fun z => by cases z) (by omega)
      cases hw0 : hw with | call hfn hp hnd h4 hcl =>
      rename_i h
      have hnx : nextA p d ⟨.call g l, loc, ws⟩ = if d = 20 then (.fail 5, false) else (.push h.body (h.params.zip ws), true) := by
        show (if ws.length < l.list.length then (ordF _, false) else if l.list.length < ws.length then (Nx.done, false) else if d = 20 then (.fail 5, false) else match p.funs.find? fun h => h.name == g with | some h => (.push h.body (h.params.zip ws), true) | none => (.fail 1, false)) = _
        rw [if_neg (by omega), if_neg (by omega), hfn]
      simp only at he
      by_cases hd20 : d = 20
      · rw [if_pos (by rw [hd20]; exact Nat.le_refl _)] at he
        cases he
        obtain ⟨rfl, rfl⟩ := her 5 rfl
        exact ⟨1, .fail fit1 (by rw [hnx, if_pos hd20])⟩
      · rw [if_neg (by show ¬ 20 ≤ d; omega), hfn] at he
        simp only at he
        rw [if_neg hd20] at hnx
        obtain ⟨wb, fb, db⟩ := W.funs h (List.mem_of_find?_eq_some hfn)
        have hzl : (h.params.zip ws).length ≤ 4 := by rw [List.length_zip]; omega
        have sc' : Sc (h.params.zip ws ++ io) (h.params ++ Vbdcar.INPUTS) := by
          intro x hx
          rw [envGet_append]
          rcases List.mem_append.mp hx with hx | hx
          · obtain ⟨v, hv⟩ := envGet_zip (ws := ws) hx (by omega)
            exact ⟨v, by rw [hv]⟩
          · obtain ⟨v, hv⟩ := O.has x hx
            cases hz : envGet (h.params.zip ws) x with
            | some w => exact ⟨w, rfl⟩
            | none => exact ⟨v, hv⟩
        have ev' : EnvOk (h.params.zip ws ++ io) := by
          intro x v hx
          rw [envGet_append] at hx
          cases hz : envGet (h.params.zip ws) x with
          | some w =>
            rw [hz] at hx
            cases hx
            obtain ⟨y, hy, rfl⟩ := envGet_mem hz
            exact hws _ (List.of_mem_zip hy).2
          | none => rw [hz] at hx; exact O.ok x v hx
        rcases Nat.eq_zero_or_pos mc with rfl | hmc
        · have e0 : Vbdcar.ev p.funs io N (d + 1) (h.params.zip ws ++ io) h.body 0 = (.error 4, 0) := by
            cases N with
            | zero => rw [Vbdcar.ev]
            | succ N => rw [Vbdcar.ev, if_pos rfl]
          rw [e0] at he
          cases he
          obtain ⟨rfl, rfl⟩ := her 4 rfl
          exact ⟨1, .full fit1 hnx⟩
        · have cont : ∀ v, res = .ok v → VOk v → Fin p io (⟨.call g l, loc, ws⟩ :: rest) v m (d + 1) r t := by
            intro v e2 hv
            refine ⟨by show ws.length ≤ 70; omega, ?_⟩
            have fit2 : FitP p ⟨.call g l, loc, ws ++ [v]⟩ := mkFit hw hf hdp (fun w hw => by
              rcases List.mem_append.mp hw with hw | hw
              · exact hws w hw
              · exact mem_one hv hw) (fun z => by cases z) (by rw [List.length_append, List.length_singleton]; omega)
            have hn2 : nextA p (d + 1) ⟨.call g l, loc, ws ++ [v]⟩ = (.done, false) := by
              show (if (ws ++ [v]).length < l.list.length then (ordF _, false) else if l.list.length < (ws ++ [v]).length then (Nx.done, false) else _) = _
              rw [List.length_append, List.length_singleton, if_neg (by omega), if_pos (by omega)]
            have hv2 : valueA io ⟨.call g l, loc, ws ++ [v]⟩ = some (.ok v) := by
              show (ws ++ [v]).getLast?.map Except.ok = _
              rw [List.getLast?_concat] <;> rfl
            have hF := hfin v e2 hv
            cases rest with
            | nil =>
              obtain ⟨rfl, rfl⟩ := hF
              exact ⟨1, .last fit2 hn2 (fun _ => Nat.succ_pos _) hv2⟩
            | cons g2 gs =>
              obtain ⟨hg, k2, hk2⟩ := hF
              exact ⟨k2 + 1, .pop fit2 hn2 (fun _ => Nat.succ_pos _) hv2 hg hk2⟩
          obtain ⟨k, hk⟩ := S (h.params ++ Vbdcar.INPUTS) h.body (h.params.zip ws) (d + 1) mc (⟨.call g l, loc, ws⟩ :: rest) r t res m wb fb sc' (by omega) ev' (by omega) (by omega) (by omega) hmc he cont her
          refine ⟨k + 1, .push fit1 hnx (by omega) ?_⟩
          rw [show 5000 - mc + 1 = 5000 - (mc - 1) by omega]
          exact hk
    · subst e1; cases he; exact her k rfl
theorem sim_all (W : PWF p) (O : IoOk io) : ∀ N, SimEv p io N ∧ SimEvs p io N ∧ ∀ kp, SimWalk kp p io N
  | 0 => ⟨fun vs e loc d n rest r t res m _ _ _ _ _ _ hN _ hpos => by omega, fun vs E loc d n acc l rest r t res m pre _ _ _ _ _ _ _ _ _ _ hN => by omega, fun kp vs y a b loc d n L pre l js rest r t res m _ _ _ _ _ _ _ _ _ _ _ hN => by omega⟩
  | N + 1 => by
    obtain ⟨a, b, c⟩ := sim_all W O N
    exact ⟨sim_ev W O a b c, sim_evs a b, fun kp => sim_walk a (c kp)⟩
/-- **the machine runs as the spec says** -/
theorem run_spec (W : PWF p) (O : IoOk io) : ∃ k, Run p io k ⟨1, 0, [⟨p.main, [], []⟩]⟩ (Vbdcar.runWith 5000 p io).1 (5000 - (Vbdcar.runWith 5000 p io).2) := by
  obtain ⟨w1, w2, w3⟩ := W.main
  have sc : Sc ([] ++ io) Vbdcar.INPUTS := fun x hx => O.has x hx
  obtain ⟨res, m, e⟩ : ∃ res m, Vbdcar.runWith 5000 p io = (res, m) := ⟨_, _, rfl⟩
  rw [e]
  unfold Vbdcar.runWith at e
  have h5 : 2 * 5000 ≤ Vbdcar.ENOUGH := by unfold Vbdcar.ENOUGH; decide
  have := (sim_all W O Vbdcar.ENOUGH).1 Vbdcar.INPUTS p.main [] 0 5000 [] res (5000 - m) res m w1 w2 sc (by simp; omega) (fun x v h => O.ok x v h) (Nat.zero_le _) h5 (Nat.le_refl _) (by omega) e (fun v e _ => ⟨e, rfl⟩) (fun k e => ⟨e, rfl⟩)
  exact this
end
end Bd

end
/-! ## BdGameP -/
section
namespace Bd
open Vbdcar (Score scored scoreOf)
theorem scoreOf_snoc : ∀ (ps bs fs : List Int) (s : Score) (p b f : Int), ps.length = bs.length → bs.length = fs.length → scoreOf s (ps ++ [p]) (bs ++ [b]) (fs ++ [f]) = scored (scoreOf s ps bs fs) p b f
  | [], [], [], s, p, b, f, _, _ => by simp [scoreOf]
  | x :: ps, y :: bs, z :: fs, s, p, b, f, h1, h2 => by
    rw [List.cons_append, List.cons_append, List.cons_append, scoreOf, scoreOf]
    exact scoreOf_snoc ps bs fs _ p b f (Nat.succ.inj h1) (Nat.succ.inj h2)
  | [], _ :: _, _, _, _, _, _, h, _ => by cases h
  | _ :: _, [], _, _, _, _, _, h, _ => by cases h
  | _, [], _ :: _, _, _, _, _, _, h => by cases h
  | _, _ :: _, [], _, _, _, _, _, h => by cases h
theorem scoreOf_take : ∀ (ps bs fs : List Int) (s : Score), scoreOf s ps bs fs = scoreOf s (ps.take (min (min ps.length bs.length) fs.length)) (bs.take (min (min ps.length bs.length) fs.length)) (fs.take (min (min ps.length bs.length) fs.length))
  | [], bs, fs, s => by simp [scoreOf]
  | _ :: _, [], fs, s => by simp [scoreOf]
  | _ :: _, _ :: _, [], s => by simp [scoreOf]
  | p :: ps, b :: bs, f :: fs, s => by
    rw [scoreOf, scoreOf_take ps bs fs]
    simp only [List.length_cons]
    have e : min (min (ps.length + 1) (bs.length + 1)) (fs.length + 1) = min (min ps.length bs.length) fs.length + 1 := by omega
    rw [e, List.take_succ_cons, List.take_succ_cons, List.take_succ_cons, scoreOf]

/-! ## bids -/
def PzOk (ps : List Int) : Prop := ps.length ≤ 13 ∧ ∀ x, x ∈ ps → 1 ≤ x ∧ x ≤ 1000000000
def BsOk (n : Nat) (bs : List Int) : Prop := bs.length ≤ 13 ∧ ∀ x, x ∈ bs → 1 ≤ x ∧ x ≤ (n : Int)
theorem hand_mem {n : Nat} {bs : List Int} {c : Int} (h : c ∈ Vbdcar.hand n bs) : 1 ≤ c ∧ c ≤ (n : Int) ∧ c ∉ bs := by
  unfold Vbdcar.hand at h
  obtain ⟨h1, h2⟩ := List.mem_filter.mp h
  obtain ⟨i, hi, rfl⟩ := List.mem_map.mp h1
  have := List.mem_range.mp hi
  refine ⟨by omega, by omega, fun hm => ?_⟩
  rw [List.contains_iff_mem.mpr hm] at h2
  exact absurd h2 (by decide)
theorem filter_ne_len {b : Int} : ∀ {l : List Int}, l.Nodup → l.length ≤ (l.filter fun c => c != b).length + 1
  | [], _ => by simp
  | a :: r, h => by
    have h' := List.nodup_cons.mp h
    by_cases e : a = b
    · subst e
      have hf : r.filter (fun c => c != a) = r := List.filter_eq_self.mpr fun c hc => by
        have : c ≠ a := fun z => h'.1 (z ▸ hc)
        simpa using this
      rw [List.filter_cons_of_neg (by simp), hf, List.length_cons]
      exact Nat.le_refl _
    · have := filter_ne_len (b := b) h'.2
      rw [List.filter_cons_of_pos (by simpa using e), List.length_cons, List.length_cons]
      omega
theorem filter_len : ∀ (bs : List Int) {l : List Int}, l.Nodup → l.length ≤ (l.filter fun c => !bs.contains c).length + bs.length
  | [], l, _ => by rw [show (l.filter fun c => !([] : List Int).contains c) = l from List.filter_eq_self.mpr (by simp)]; simp
  | b :: r, l, h => by
    have h1 := filter_len r h
    have h2 := filter_ne_len (b := b) (h.filter fun c => !r.contains c)
    have e : (l.filter fun c => !(b :: r).contains c) = (l.filter fun c => !r.contains c).filter fun c => c != b := by
      rw [List.filter_filter]
      refine List.filter_congr fun c _ => ?_
      rw [List.contains_cons, Bool.not_or]
      rfl
    rw [e, List.length_cons]
    omega
theorem range_nodup (n : Nat) : ((List.range n).map fun (i : Nat) => (i : Int) + 1).Nodup := by
  rw [List.nodup_iff_pairwise_ne, List.pairwise_map]
  exact (List.nodup_range).imp fun {a b} h => by omega
theorem hand_ne {n : Nat} {bs : List Int} (h : bs.length < n) : Vbdcar.hand n bs ≠ [] := by
  intro z
  have := filter_len bs (range_nodup n)
  unfold Vbdcar.hand at z
  rw [z] at this
  simp at this
  omega
theorem hand_len (n : Nat) (bs : List Int) : (Vbdcar.hand n bs).length ≤ n := by
  unfold Vbdcar.hand
  refine Nat.le_trans (List.length_filter_le _ _) ?_
  simp
theorem bid_mem {p : Vbdcar.Prog} {ps bs fs : List Int} (h : bs.length < ps.length) : (Vbdcar.bid p ps bs fs).1 ∈ Vbdcar.hand ps.length bs := by
  have hd : (Vbdcar.hand ps.length bs).headD 0 ∈ Vbdcar.hand ps.length bs := by
    cases e : Vbdcar.hand ps.length bs with
    | nil => exact absurd e (hand_ne h)
    | cons a r => simp
  unfold Vbdcar.bid Vbdcar.bidWith
  simp only
  split
  · split
    · rename_i c _ hc
      exact List.contains_iff_mem.mp hc
    · exact hd
  · exact hd
  · exact hd
theorem scoreOf_le : ∀ (ps bs fs : List Int) (s : Score) (B : Int), (∀ x, x ∈ ps → 1 ≤ x ∧ x ≤ 1000000000) → 0 ≤ s.me → 0 ≤ s.foe → 0 ≤ s.pot → s.me + s.foe + s.pot ≤ B →
    0 ≤ (scoreOf s ps bs fs).me ∧ 0 ≤ (scoreOf s ps bs fs).foe ∧ 0 ≤ (scoreOf s ps bs fs).pot ∧ (scoreOf s ps bs fs).me + (scoreOf s ps bs fs).foe + (scoreOf s ps bs fs).pot ≤ B + 1000000000 * (ps.length : Int)
  | [], bs, fs, s, B, _, h1, h2, h3, h4 => by simp only [scoreOf]; simp; omega
  | p :: ps, [], fs, s, B, _, h1, h2, h3, h4 => by simp only [scoreOf, List.length_cons]; omega
  | p :: ps, b :: bs, [], s, B, _, h1, h2, h3, h4 => by simp only [scoreOf, List.length_cons]; omega
  | p :: ps, b :: bs, f :: fs, s, B, hp, h1, h2, h3, h4 => by
    have hpp := hp p (by simp)
    rw [scoreOf]
    have key : 0 ≤ (scored s p b f).me ∧ 0 ≤ (scored s p b f).foe ∧ 0 ≤ (scored s p b f).pot ∧ (scored s p b f).me + (scored s p b f).foe + (scored s p b f).pot ≤ B + 1000000000 := by
      unfold scored
      simp only
      split
      · simp only; omega
      · split
        · simp only; omega
        · simp only; omega
    have := scoreOf_le ps bs fs (scored s p b f) (B + 1000000000) (fun x hx => hp x (by simp [hx])) key.1 key.2.1 key.2.2.1 key.2.2.2
    rw [List.length_cons]
    omega
theorem io_ok {ps bs fs : List Int} (hp : PzOk ps) (hb : BsOk ps.length bs) (hf : BsOk ps.length fs) (hl : bs.length < ps.length) : IoOk (Vbdcar.inputs ps bs fs) := by
  have hs := scoreOf_le ps bs fs {} 0 hp.2 (by decide) (by decide) (by decide) (by decide)
  have hpl := hp.1
  have vp : ∀ l : List Int, l.length ≤ 13 → (∀ x ∈ l, 0 ≤ x ∧ x ≤ 1000000000) → VOk (.list l) := fun l h1 h2 => ⟨by omega, fun n hn => by have := h2 n hn; omega⟩
  have hand_ok : ∀ l : List Int, VOk (.list (Vbdcar.hand ps.length l)) := fun l => vp _ (Nat.le_trans (hand_len _ _) hpl) fun x hx => by have := hand_mem hx; omega
  have bids_ok : ∀ l : List Int, BsOk ps.length l → VOk (.list l) := fun l h => vp l h.1 fun x hx => by have := h.2 x hx; omega
  have hmem : ∀ y, y ∈ Vbdcar.inputs ps bs fs → VOk y.2 := by
    intro y hy
    unfold Vbdcar.inputs at hy
    simp only [List.mem_cons, List.not_mem_nil, or_false] at hy
    rcases hy with rfl | rfl | rfl | rfl | rfl | rfl | rfl | rfl | rfl | rfl
    · have : ps.getD bs.length 0 ∈ ps := by rw [List.getD_eq_getElem?_getD, List.getElem?_eq_getElem hl]; exact List.getElem_mem hl
      have := hp.2 _ this
      show Int.natAbs _ ≤ _; omega
    · show Int.natAbs _ ≤ _; omega
    · exact hand_ok bs
    · exact hand_ok fs
    · exact bids_ok bs hb
    · exact bids_ok fs hf
    · exact vp _ (by rw [List.length_take]; omega) fun x hx => by have := hp.2 x (List.mem_of_mem_take hx); omega
    · exact vp _ (by rw [sorted_len, List.length_drop]; omega) fun x hx => by have := hp.2 x (List.mem_of_mem_drop ((sorted_perm _).mem_iff.mp hx)); omega
    · show Int.natAbs _ ≤ _; omega
    · show Int.natAbs _ ≤ _; omega
  refine ⟨fun x hx => ?_, fun x v h => ?_⟩
  · have hn : (Vbdcar.inputs ps bs fs).map (·.1) = Vbdcar.INPUTS := rfl
    unfold envGet
    cases hf2 : (Vbdcar.inputs ps bs fs).find? (fun y => y.1 == x) with
    | some y => exact ⟨y.2, rfl⟩
    | none =>
      exfalso
      rw [← hn] at hx
      obtain ⟨y, hy, rfl⟩ := List.mem_map.mp hx
      have := List.find?_eq_none.mp hf2 y hy
      simp at this
  · obtain ⟨y, hy, rfl⟩ := envGet_mem h
    exact hmem y hy
/-! ## a match, turn by turn -/
open Vbdcar (Game playOn)
theorem bs_snoc {n : Nat} {bs : List Int} {x : Int} (h : BsOk n bs) (hl : bs.length < 13) (hx : 1 ≤ x ∧ x ≤ (n : Int)) : BsOk n (bs ++ [x]) :=
  ⟨by rw [List.length_append, List.length_singleton]; omega, fun y hy => by
    rcases List.mem_append.mp hy with hy | hy
    · exact h.2 y hy
    · rw [List.mem_singleton.mp hy]; exact hx⟩
theorem playOn_last (p q : Vbdcar.Prog) (ps : List Int) : ∀ (n : Nat) (g : Game), playOn p q ps (n + 1) g = (let h := playOn p q ps n g; { a := h.a ++ [(Vbdcar.bid p ps h.a h.b).1], b := h.b ++ [(Vbdcar.bid q ps h.b h.a).1], failsA := h.failsA + (if (Vbdcar.bid p ps h.a h.b).2.1 = 0 then 0 else 1), failsB := h.failsB + (if (Vbdcar.bid q ps h.b h.a).2.1 = 0 then 0 else 1) })
  | 0, g => rfl
  | n + 1, g => by
    rw [playOn]
    simp only
    rw [playOn_last p q ps n]
    rfl
theorem playOn_ok {p q : Vbdcar.Prog} {ps : List Int} (hp : PzOk ps) : ∀ n : Nat, n ≤ ps.length → (playOn p q ps n {}).a.length = n ∧ (playOn p q ps n {}).b.length = n ∧ BsOk ps.length (playOn p q ps n {}).a ∧ BsOk ps.length (playOn p q ps n {}).b
  | 0, _ => ⟨rfl, rfl, ⟨Nat.zero_le _, fun x hx => by simp [playOn] at hx⟩, ⟨Nat.zero_le _, fun x hx => by simp [playOn] at hx⟩⟩
  | n + 1, h => by
    obtain ⟨h1, h2, h3, h4⟩ := playOn_ok (p := p) (q := q) hp n (by omega)
    have := hp.1
    rw [playOn_last]
    simp only
    have m1 := hand_mem (bid_mem (p := p) (ps := ps) (bs := (playOn p q ps n {}).a) (fs := (playOn p q ps n {}).b) (by omega))
    have m2 := hand_mem (bid_mem (p := q) (ps := ps) (bs := (playOn p q ps n {}).b) (fs := (playOn p q ps n {}).a) (by omega))
    exact ⟨by simp [h1], by simp [h2], bs_snoc h3 (by omega) ⟨m1.1, m1.2.1⟩, bs_snoc h4 (by omega) ⟨m2.1, m2.2.1⟩⟩
end Bd

end
/-! ## BdGame -/
section
namespace Bd
open PySem PySem.Spec PyProof.Rows
open L2
section
variable {w : World} {K : PySem.W.Frag} {mg : Str → Option Value} {base : Heap}
abbrev IL (H : Hp) (a : Addr) (l : List Int) : Prop := H a = some (.lst (l.map V.int))
theorem three_ok {a b c : V} : [a, b, c].length ≤ sizeLine := by rw [sizeLine_eq]; show 3 ≤ 16777216; decide
abbrev sp_scores : Sp := Sp3 fun u v y H Q _ => ∃ (I : Hp) (a b c : Addr) (ps bs fs : List Int), Same I H ∧ u = .ref a ∧ v = .ref b ∧ y = .ref c ∧ IL H a ps ∧ IL H b bs ∧ IL H c fs ∧
  ∀ t I' H', Ext I H I' H' → I' t = some (.tup [.int (Vbdcar.scoreOf {} ps bs fs).me, .int (Vbdcar.scoreOf {} ps bs fs).foe, .int (Vbdcar.scoreOf {} ps bs fs).pot]) → Q (.ref t) H'
abbrev n_scores : List Str := ["prizes", "bids", "foes", "me", "foe", "pot", "prize", "own", "other"]
theorem sc_scores : FnScope n_scores ["prizes", "bids", "foes"] (defScope s_scores) := ⟨rfl, rfl, rfl, by decide +kernel, rfl, by decide +kernel, by decide +kernel⟩
theorem d_scores (T : Tx w K mg)  : Def w K mg base 1 "scores" ["prizes", "bids", "foes"] (sp_scores) :=
  mkDef3 T f_scores rfl rfl sc_scores rfl (fun _ _ _ _ _ _ us hl => match us, hl with | [_, _, _], _ => rfl) fun u v y cdv A outer s H Q E hr h =>
  ⟨_, (pss_cons (ps_set (i := 3) sc_scores.nd rfl (Or.inl rfl) pe_int)
  (pss_cons (ps_set (i := 4) sc_scores.nd rfl (Or.inl rfl) pe_int)
  (pss_cons (ps_set (i := 5) sc_scores.nd rfl (Or.inl rfl) pe_int)
  (pss_cons (ps_for (passes_of rfl) rfl (pi_zip3 (by rfl) (T.fr_zip) (pa_cons (pv 0) (pa_cons (pv 1) (pa_cons (pv 2) pa_nil)))) (pg_tup rfl (pgs_cons (pg_name (i := 6) sc_scores.nd rfl (Or.inl rfl)) (pgs_cons (pg_name (i := 7) sc_scores.nd rfl (Or.inl rfl)) (pgs_cons (pg_name (i := 8) sc_scores.nd rfl (Or.inl rfl)) pgs_nil)))) (pss_cons (ps_set (i := 5) sc_scores.nd rfl (Or.inl rfl) (pe_op op_add (pv 5) (pv 6)))
  (pss_one (ps_if (pt_cmpR op_gt (pv 7) (pv 8) (nomark _)) (pss_cons (ps_set (i := 3) sc_scores.nd rfl (Or.inl rfl) (pe_op op_add (pv 3) (pv 5)))
  (pss_one (ps_set (i := 5) sc_scores.nd rfl (Or.inl rfl) pe_int))) (pss_one (ps_if (pt_cmpR op_lt (pv 7) (pv 8) (nomark _)) (pss_cons (ps_set (i := 4) sc_scores.nd rfl (Or.inl rfl) (pe_op op_add (pv 4) (pv 5)))
  (pss_one (ps_set (i := 5) sc_scores.nd rfl (Or.inl rfl) pe_int))) pss_nil))))))
  (pss_one (ps_ret (pe_tup (pa_cons (pv 3) (pa_cons (pv 4) (pa_cons (pv 5) pa_nil)))))))))), by
  obtain ⟨I, a, b, c, ps, bs, fs, sI, rfl, rfl, rfl, ha, hb, hc, q⟩ := h
  have E0 := Ext.refl sI
  refine k_sset (k_c (k_sset (k_c (k_sset (k_c ?_)))))
  refine ⟨_, rfl, _, rfl, _, rfl, a, b, c, _, _, _, rfl, .inl (.inl ha), .inl (.inl hb), .inl (.inl hc), ?_⟩
  have hn : min (min ps.length bs.length) fs.length = min (min (ps.map V.int).length (bs.map V.int).length) (fs.map V.int).length := by simp
  refine for_it (walk_zip3 (n := min (min ps.length bs.length) fs.length) hn) (fun i σ H' => Ext I H I H' ∧ ∃ o6 o7 o8, σ = [some (.ref a), some (.ref b), some (.ref c), some (.int (Vbdcar.scoreOf {} (ps.take i) (bs.take i) (fs.take i)).me), some (.int (Vbdcar.scoreOf {} (ps.take i) (bs.take i) (fs.take i)).foe), some (.int (Vbdcar.scoreOf {} (ps.take i) (bs.take i) (fs.take i)).pot), o6, o7, o8])
    ⟨E0, _, _, _, rfl⟩ (fun i σ H' _ ⟨e1, _⟩ => ⟨.inl (.inl (e1.hh _ _ ha)), .inl (.inl (e1.hh _ _ hb)), .inl (.inl (e1.hh _ _ hc))⟩) (fun i x σ H1 H2 hi ⟨e1, o6, o7, o8, es⟩ y => ?_) fun σ H' ⟨e1, o6, o7, o8, es⟩ => ?_
  · subst es
    obtain ⟨Tp, x1, y1, z1, rfl, hT, rfl, hx1, hy1, hz1⟩ := y
    have hi1 : i < ps.length := by omega
    have hi2 : i < bs.length := by omega
    have hi3 : i < fs.length := by omega
    replace hx1 : (ps.map V.int)[i]? = some x1 := hx1
    replace hy1 : (bs.map V.int)[i]? = some y1 := hy1
    replace hz1 : (fs.map V.int)[i]? = some z1 := hz1
    rw [List.getElem?_map, List.getElem?_eq_getElem hi1] at hx1
    rw [List.getElem?_map, List.getElem?_eq_getElem hi2] at hy1
    rw [List.getElem?_map, List.getElem?_eq_getElem hi3] at hz1
    cases hx1; cases hy1; cases hz1
    have e3 := e1.tmp (o := .tup [V.int ps[i], V.int bs[i], V.int fs[i]]) hT
    have stp : Vbdcar.scoreOf {} (ps.take (i + 1)) (bs.take (i + 1)) (fs.take (i + 1)) = Vbdcar.scored (Vbdcar.scoreOf {} (ps.take i) (bs.take i) (fs.take i)) ps[i] bs[i] fs[i] := by
      rw [List.take_add_one, List.take_add_one, List.take_add_one, List.getElem?_eq_getElem hi1, List.getElem?_eq_getElem hi2, List.getElem?_eq_getElem hi3]
      exact scoreOf_snoc _ _ _ _ _ _ _ (by simp; omega) (by simp; omega)
    refine ⟨Tp, _, rfl, .inl (.inl upd_same), rfl, _, _, rfl, _, _, rfl, _, _, rfl, rfl, ?_⟩
    refine k_sset ⟨_, rfl, _, rfl, _, _, rfl, rfl, ?_⟩
    refine ⟨_, rfl, _, rfl, _, _, rfl, rfl, _, rfl, ?_⟩
    rw [stp]
    by_cases h1 : fs[i] < bs[i]
    · rw [decide_eq_true h1]
      refine iteT ⟨_, rfl, _, rfl, _, _, rfl, rfl, e3, some (.int ps[i]), some (.int bs[i]), some (.int fs[i]), ?_⟩
      simp only [Vbdcar.scored, if_pos h1]
      rfl
    · rw [decide_eq_false h1]
      refine iteF ⟨_, rfl, _, rfl, _, _, rfl, rfl, _, rfl, ?_⟩
      by_cases h2 : bs[i] < fs[i]
      · rw [decide_eq_true h2]
        refine iteT ⟨_, rfl, _, rfl, _, _, rfl, rfl, e3, some (.int ps[i]), some (.int bs[i]), some (.int fs[i]), ?_⟩
        simp only [Vbdcar.scored, if_neg h1, if_pos h2]
        rfl
      · rw [decide_eq_false h2]
        refine iteF ⟨e3, some (.int ps[i]), some (.int bs[i]), some (.int fs[i]), ?_⟩
        simp only [Vbdcar.scored, if_neg h1, if_neg h2]
        rfl
  · subst es
    rw [← scoreOf_take]
    exact ⟨_, rfl, _, rfl, _, rfl, three_ok, fun p hp => q p _ _ (e1.new hp) upd_same⟩⟩
def failOf (x : Val) (cs : List Int) : Int := match x with | .list _ => 1 | .int c => if cs.contains c = true then 0 else 6
abbrev sp_bid_failure : Sp := Sp2 fun u v H Q _ => ∃ (x : Val) (a : Addr) (cs : List Int), VAt H u x ∧ v = .ref a ∧ IL H a cs ∧ Q (.int (failOf x cs)) H
abbrev n_bid_failure : List Str := ["value", "cards"]
theorem sc_bid_failure : FnScope n_bid_failure ["value", "cards"] (defScope s_bid_failure) := ⟨rfl, rfl, rfl, by decide +kernel, rfl, by decide +kernel, by decide +kernel⟩
theorem d_bid_failure (T : Tx w K mg)  : Def w K mg base 3 "bid_failure" ["value", "cards"] (sp_bid_failure) :=
  mkDef2 T f_bid_failure rfl rfl sc_bid_failure rfl (fun _ _ _ _ _ _ us hl => match us, hl with | [_, _], _ => rfl) fun u v cdv A outer s H Q E hr h =>
  ⟨_, (pss_cons (ps_if (pt_val (pe_c (d_is_list T) hr pz (pa_cons (pv 0) pa_nil))) (pss_one (ps_ret pe_int)) pss_nil)
  (pss_cons (ps_if (pt_cmpR op_notIn_seq (pv 0) (pv 1) (by rfl)) (pss_one (ps_ret pe_int)) pss_nil)
  (pss_one (ps_ret pe_int)))), by
  obtain ⟨x, a, cs, hx, rfl, ha, q⟩ := h
  refine k_sifN ⟨_, rfl, _, rfl, x, hx, _, rfl, ?_⟩
  cases x with
  | list l => exact iteT q
  | int c =>
    cases hx
    refine iteF (k_sifN ⟨_, rfl, _, rfl, _, _, rfl, .inl (.inl (.inl ha)), rfl, flatInts cs, _, rfl, ?_⟩)
    show if (!inV (.int c) (cs.map V.int)) = true then _ else _
    rw [inInts]
    replace q : Q (.int (if cs.contains c = true then 0 else 6)) H := q
    cases hc : cs.contains c with
    | true => rw [hc] at q; exact iteF q
    | false => rw [hc] at q; exact iteT q⟩
theorem sc_I_Machine : FnScope ["self", "program", "inputs"] ["self", "program", "inputs"] (defScope s_Machine) := ⟨rfl, rfl, rfl, by decide +kernel, rfl, by decide +kernel, by decide +kernel⟩
theorem m_Machine (T : Tx w K mg)  : MkD w K mg base 2 "Machine" cMachine ["self", "program", "inputs"] (Sp3 fun u v y H Q _ => ∃ a dx kd, u = .ref a ∧ y = .ref kd ∧ H a = some (.ins cMachine dx []) ∧ ∀ p, H p = none → p ≠ a → Q .non (upd (upd H p (.lst [])) a (.ins cMachine dx (mF v kd 0 0 p)))) :=
  mkInit T f_I_Machine rfl (T.k.cl 4 _ _ _ rfl).2.1 T.g_Machine sc_I_Machine (fun _ _ _ _ _ _ us hl => match us, hl with | [_, _, _], _ => rfl) (fun vs H Q E ⟨u, v, y, e, _⟩ => by rw [e] <;> rfl) fun vs cdv A outer s H Q E hr ⟨u, v, y, e, h⟩ => by
  subst e
  refine ⟨_, (pss_cons (ps_fld (pv 0) (pv 1) rfl)
  (pss_cons (ps_fld (pv 0) (pv 2) rfl)
  (pss_cons (ps_fld (pv 0) pe_int rfl)
  (pss_cons (ps_fld (pv 0) pe_int rfl)
  (pss_one (ps_fld (pv 0) (pe_lst pa_nil) rfl)))))), ?_⟩
  obtain ⟨a, dx, kd, rfl, rfl, ha, q⟩ := h
  refine ⟨_, rfl, _, rfl, a, _, dx, _, rfl, ha, T.c_Machine, T.n_Machine_program, putL0, _, rfl, _, rfl, a, _, dx, _, rfl, upd_same, T.c_Machine, T.n_Machine_inputs, putL1, _, rfl, a, _, dx, _, rfl, upd_same, T.c_Machine, T.n_Machine_steps, putL2, _, rfl, a, _, dx, _, rfl, upd_same, T.c_Machine, T.n_Machine_calls, putL3, by rw [sizeLine_eq]; exact Nat.zero_le _, fun p hp => ?_⟩
  have hpa : p ≠ a := fun e => by rw [e, upd_same] at hp; cases hp
  refine ⟨_, rfl, a, _, dx, _, rfl, by rw [upd_ne (Ne.symm hpa)]; exact upd_same, T.c_Machine, T.n_Machine_frames, putL4, ?_⟩
  simp only [upd_upd] at hp ⊢
  rw [upd_swap hpa]
  rw [upd_ne hpa] at hp
  exact q p hp hpa

/-- a comprehension with a condition over anything that is walked -/
theorem lc_it {J : It} {n : Nat} {G : Hp → Prop} {Y : Nat → Hp → V → Hp → Prop} (wk : Walk J n G Y) {j : Nat} {tt : TT} {te : TE} {vs : List Nat} {σ : L2.St} {H : Hp} {Q : VK} (Pv : Addr → Nat → Hp → Prop) (h0 : ∀ D, H D = none → Pv D 0 (upd H D (.lst []))) (hG : ∀ D i H, i ≤ n → Pv D i H → G H)
    (hs : ∀ D i x H1 H2, H D = none → i < n → Pv D i H1 → Y i H1 x H2 → gName j x (wipe σ vs) H2 fun σ2 H2 => wipe σ2 vs = wipe σ vs ∧ tt σ2 H2 fun b H3 => if b = true then te σ2 H3 fun y H4 => ∃ acc, H4 D = some (.lst acc) ∧ acc.length < sizeLine ∧ Pv D (i + 1) (upd H4 D (.lst (acc ++ [y]))) else Pv D (i + 1) H3)
    (hd : ∀ D H1, H D = none → Pv D n H1 → Q (.ref D) H1) :
    ∀ D, H D = none → ∃ W : Nat → Nat → Hp → Prop, (∃ m, W 0 m (upd H D (.lst []))) ∧ ∀ i m H, W i m H →
      (J.stop i H ∧ Q (.ref D) H) ∨ (J.go i H ∧ ∃ Nx : Hp → Prop, (∀ H', Nx H' → ∃ m', m' < m ∧ W (i + 1) m' H') ∧ ∀ x H', J.yld i H x H' → gName j x (wipe σ vs) H' fun σ2 H2 => wipe σ2 vs = wipe σ vs ∧ tt σ2 H2 fun b H3 =>
        if b = true then te σ2 H3 fun y H4 => ∃ acc, H4 D = some (.lst acc) ∧ acc.length < sizeLine ∧ Nx (upd H4 D (.lst (acc ++ [y]))) else Nx H3) := by
  intro D hD
  refine ⟨fun i m H => m = n - i ∧ i ≤ n ∧ Pv D i H, ⟨n, by simp, Nat.zero_le _, h0 D hD⟩, ?_⟩
  rintro i m H1 ⟨rfl, hi, p⟩
  have q := hG D i H1 hi p
  by_cases hlt : i < n
  · exact .inr ⟨wk.goes i H1 hlt q, Pv D (i + 1), fun H' p' => ⟨n - (i + 1), by omega, rfl, hlt, p'⟩, fun x H' y => hs D i x H1 H' hD hlt p (wk.yields i H1 x H' hlt q y)⟩
  · have e : i = n := by omega
    subst e
    exact .inl ⟨wk.stops H1 q, hd D H1 hD p⟩
abbrev sp_hand : Sp := Sp2 fun u v H Q _ => ∃ (I : Hp) (a b : Addr) (ps bs : List Int), Same I H ∧ u = .ref a ∧ v = .ref b ∧ IL H a ps ∧ ps.length ≤ 4000 ∧ IL H b bs ∧ ∀ t I' H', Ext I H I' H' → IL I' t (Vbdcar.hand ps.length bs) → Q (.ref t) H'
abbrev n_hand : List Str := ["prizes", "bids", "card"]
theorem sc_hand : FnScope n_hand ["prizes", "bids"] (defScope s_hand) := ⟨rfl, rfl, rfl, by decide +kernel, rfl, by decide +kernel, by decide +kernel⟩
theorem d_hand (T : Tx w K mg)  : Def w K mg base 1 "hand" ["prizes", "bids"] (sp_hand) :=
  mkDef2 T f_hand rfl rfl sc_hand rfl (fun _ _ _ _ _ _ us hl => match us, hl with | [_, _], _ => rfl) fun u v cdv A outer s H Q E hr h =>
  ⟨_, (pss_one (ps_ret (pe_lc (own := [("card", 2)]) (g := gName 2) (tt := _) rfl sc_hand.nd (pi_range2 (by rfl) (T.fr_range) (pa_cons pe_int (pa_cons (pe_op op_add (pe_callB call_len_seq (by rfl) T.fr_len (by decide +kernel) (pa_cons (pv 0) pa_nil)) pe_int) pa_nil))) (blkOk_by (N := n_hand) (sc := defScope s_hand) (by decide +kernel)) (fun _ _ _ _ _ => (pg_name (i := 2) sc_hand.nd rfl (Or.inl rfl))) (fun _ _ _ _ _ => by exact (pts_one (pt_cmpR (opK (K' := K) (fun K => rIn K true) op_notIn_seq) (pv 2) (pv 1) (by rfl)))) (fun _ _ _ _ _ => by exact (pv 2))))), by
  obtain ⟨I, a, b, ps, bs, sI, rfl, rfl, ha, hpl, hb, q⟩ := h
  have E0 := Ext.refl sI
  have hlen : (ps.map V.int).length = ps.length := List.length_map _
  refine k_ret ⟨_, rfl, a, ps.map V.int, rfl, .inl (.inl (.inl ha)), _, _, rfl, rfl, 1, _, rfl, ⟨by omega, by omega, by rw [hlen]; omega, by rw [hlen]; omega⟩, ?_⟩
  have hnn : ((((ps.map V.int).length : Nat) : Int) + 1 - 1).toNat = ps.length := by rw [hlen]; omega
  rw [hnn]
  refine lc_it (walk_range (lo := 1) (n := ps.length)) (fun D i H' => Ext I H I H' ∧ I D = none ∧ H' D = some (.lst ((Vbdcar.hand i bs).map V.int))) (fun D hD => ⟨E0.tmp hD, sI.free hD, upd_same⟩) (fun _ _ _ _ _ => True.intro) (fun D i x H1 H2 hD hi ⟨e1, iD, h2⟩ y => ?_) fun D H1 hD ⟨e1, iD, h2⟩ => ?_
  · obtain ⟨rfl, rfl⟩ := y
    refine ⟨rfl, ⟨_, rfl, _, rfl, _, bs.map V.int, rfl, .inl (.inl (.inl (e1.hh _ _ hb))), rfl, flatInts bs, _, rfl, ?_⟩⟩
    show if (!inV (.int (1 + (i : Int))) (bs.map V.int)) = true then _ else _
    rw [inInts]
    have hs : Vbdcar.hand (i + 1) bs = Vbdcar.hand i bs ++ (if bs.contains (1 + (i : Int)) = true then [] else [1 + (i : Int)]) := by
      unfold Vbdcar.hand
      rw [List.range_succ, List.map_append, List.filter_append]
      congr 1
      rw [show (1 + (i : Int)) = (i : Int) + 1 by omega]
      rw [List.map_cons, List.map_nil]
      by_cases hc : bs.contains ((i : Int) + 1) = true
      · rw [if_pos hc, List.filter_cons_of_neg (by rw [hc]; decide)]; rfl
      · rw [if_neg hc, List.filter_cons_of_pos (by rw [Bool.not_eq_true] at hc; rw [hc]; rfl)]; rfl
    have hh : (Vbdcar.hand i bs).length ≤ i := by
      unfold Vbdcar.hand
      refine Nat.le_trans (List.length_filter_le _ _) ?_
      simp
    cases hc : bs.contains (1 + (i : Int)) with
    | true =>
      rw [hc, if_pos rfl, List.append_nil] at hs
      exact iteF ⟨e1, iD, by rw [hs]; exact h2⟩
    | false =>
      rw [hc, if_neg Bool.false_ne_true] at hs
      refine iteT ⟨_, rfl, _, h2, by rw [List.length_map, sizeLine_eq]; omega, e1.mut hD iD, iD, ?_⟩
      rw [upd_same, hs, List.map_append]
      rfl
  · exact q D _ H1 (e1.frz hD iD h2) upd_same⟩

theorem kn_paired {I : Hp} {kd : Addr} {kvs : List (Key × V)} {env : EnvV} (h : I kd = some (.dK kvs)) (hp : Paired (fun (kv : Key × V) (y : List Nat × Val) => kv.1 = .inr (sB y.1) ∧ VAt I kv.2 y.2) kvs env) : KnAt I kd env := by
  refine ⟨kvs, h, by rw [paired_len hp]; exact Nat.le_refl _, fun x => ?_⟩
  clear h
  induction hp with
  | nil => rfl
  | @cons kv y kr yr hh _ ih =>
    obtain ⟨h1, h2⟩ := hh
    obtain ⟨k, u⟩ := kv
    obtain ⟨z, v⟩ := y
    have h1 : k = .inr (sB z) := h1
    subst h1
    rw [envGet_cons]
    by_cases e : z = x
    · subst e
      rw [if_pos rfl]
      exact ⟨u, valV_pos (p := ((Sum.inr (sB z) : Key), u)) rfl, h2⟩
    · rw [if_neg e, valV_neg (p := ((Sum.inr (sB z) : Key), u)) (fun q => e (sB_inj (Sum.inr.inj q)))]
      exact ih
theorem merge_new : ∀ {more acc : List (Key × V)}, ((acc ++ more).map (·.1)).Nodup → mergeK acc more = acc ++ more
  | [], acc, _ => by rw [List.append_nil]; rfl
  | (k, v) :: r, acc, h => by
    have hn : valV acc k = none := by
      cases hv : valV acc k with
      | none => rfl
      | some u =>
        exfalso
        unfold valV at hv
        cases hf : acc.find? (fun kv => decide (kv.1 = k)) with
        | none => rw [hf] at hv; cases hv
        | some y =>
          have hy := List.mem_of_find?_eq_some hf
          have hk : y.1 = k := by have := List.find?_some hf; simpa using this
          rw [List.map_append, List.map_cons] at h
          exact (List.nodup_append.mp h).2.2 y.1 (List.mem_map_of_mem hy) k (by simp) hk
    show mergeK (putK acc k v) r = _
    rw [putK_new v hn, merge_new (by rw [List.append_assoc]; exact h), List.append_assoc]
    rfl
theorem cutTake {xs : List V} {n : Nat} (h : n ≤ xs.length) : cutV xs none (some (n : Int)) = xs.take n := by
  unfold cutV
  have e1 : HT.sIx xs.length 0 none = 0 := rfl
  have e2 : HT.sIx xs.length xs.length (some (n : Int)) = n := by unfold HT.sIx; simp; split <;> omega
  rw [e1, e2, List.drop_zero, Nat.sub_zero]
theorem cutDrop {xs : List V} {n : Nat} {i : Int} (h : n ≤ xs.length) (hi : i = (n : Int) := by rfl) : cutV xs (some i) none = xs.drop n := by
  subst hi
  unfold cutV
  have e1 : HT.sIx xs.length 0 (some (n : Int)) = n := by unfold HT.sIx; simp; split <;> omega
  have e2 : HT.sIx xs.length xs.length none = xs.length := rfl
  rw [e1, e2]
  exact List.take_of_length_le (by rw [List.length_drop]; exact Nat.le_refl _)
abbrev sp_inputs : Sp := Sp3 fun u v y H Q _ => ∃ (I : Hp) (a b c : Addr) (ps bs fs : List Int), Same I H ∧ u = .ref a ∧ v = .ref b ∧ y = .ref c ∧ IL H a ps ∧ IL H b bs ∧ IL H c fs ∧ bs.length < ps.length ∧ ps.length ≤ 4000 ∧
  ∀ kd I' H', Ext I H I' H' → KnAt I' kd (Vbdcar.inputs ps bs fs) → Q (.ref kd) H'
abbrev n_inputs_for : List Str := ["prizes", "bids", "foes", "me", "foe", "pot", "turn"]
theorem sc_inputs_for : FnScope n_inputs_for ["prizes", "bids", "foes"] (defScope s_inputs_for) := ⟨rfl, rfl, rfl, by decide +kernel, rfl, by decide +kernel, by decide +kernel⟩
theorem d_inputs_for (T : Tx w K mg)  : Def w K mg base 2 "inputs_for" ["prizes", "bids", "foes"] (sp_inputs) :=
  mkDef3 T f_inputs_for rfl rfl sc_inputs_for rfl (fun _ _ _ _ _ _ us hl => match us, hl with | [_, _, _], _ => rfl) fun u v y cdv A outer s H Q E hr h =>
  ⟨_, (pss_cons (ps_asg (pe_c (d_scores T) hr pz (pa_cons (pv 0) (pa_cons (pv 1) (pa_cons (pv 2) pa_nil)))) (pg_tup rfl (pgs_cons (pg_name (i := 3) sc_inputs_for.nd rfl (Or.inl rfl)) (pgs_cons (pg_name (i := 4) sc_inputs_for.nd rfl (Or.inl rfl)) (pgs_cons (pg_name (i := 5) sc_inputs_for.nd rfl (Or.inl rfl)) pgs_nil)))))
  (pss_cons (ps_set (i := 6) sc_inputs_for.nd rfl (Or.inl rfl) (pe_callB call_len_seq (by rfl) T.fr_len (by decide +kernel) (pa_cons (pv 1) pa_nil)))
  (pss_one (ps_ret (pe_disp (pps_cons pe_str (pe_ix ix_list (pv 0) (pv 6) (fun _ _ => rfl)) (pps_cons pe_str (pv 5) (pps_cons pe_str (pe_c (d_hand T) hr pz (pa_cons (pv 0) (pa_cons (pv 1) pa_nil))) (pps_cons pe_str (pe_c (d_hand T) hr pz (pa_cons (pv 0) (pa_cons (pv 2) pa_nil))) (pps_cons pe_str (pe_callTy call_list_of (by rfl) T.fr_list (by decide +kernel) (pa_cons (pv 1) pa_nil)) (pps_cons pe_str (pe_callTy call_list_of (by rfl) T.fr_list (by decide +kernel) (pa_cons (pv 2) pa_nil)) (pps_cons pe_str (pe_slice sl_list (pv 0) po_none (po_some (pv 6))) (pps_cons pe_str (pe_callB cr_sortedI (by rfl) T.fr_sorted (by decide +kernel) (pa_cons (pe_slice sl_list (pv 0) (po_some (pe_op op_add (pv 6) pe_int)) po_none) pa_nil)) (pps_cons pe_str (pv 3) (pps_cons pe_str (pv 4) pps_nil)))))))))) (by rfl) (by rfl) (fun z => by cases z) (by decide)))))), by
  obtain ⟨I, a, b, c, ps, bs, fs, sI, rfl, rfl, rfl, ha, hb, hc, hlt, hpl, q⟩ := h
  refine ⟨_, rfl, _, rfl, _, rfl, _, _, _, rfl, I, a, b, c, ps, bs, fs, sI, rfl, rfl, rfl, ha, hb, hc, fun t I1 H1 e1 ht => ?_⟩
  refine ⟨t, _, rfl, .inl (.inl (e1.ih _ _ ht)), rfl, _, _, rfl, _, _, rfl, _, _, rfl, rfl, ?_⟩
  have hb1 := e1.hh _ _ hb
  have hbl : (bs.map V.int).length = bs.length := List.length_map _
  refine ⟨_, rfl, b, _, rfl, .inl (.inl (.inl hb1)), ?_⟩
  rw [hbl]
  intro p hp
  have x0 := e1.tmp (o := .dK []) hp
  have hHp : H p = none := e1.hh.free hp
  have hIp : I1 p = none := e1.ih.free hp
  have hpa : (ps.map V.int)[bs.length]? = some (.int (ps.getD bs.length 0)) := by
    rw [List.getElem?_map, List.getElem?_eq_getElem hlt, List.getD_eq_getElem?_getD, List.getElem?_eq_getElem hlt]; rfl
  refine ⟨_, rfl, _, rfl, a, _, _, _, rfl, rfl, .inl (.inl (x0.hh _ _ ha)), atI_nat hpa, ?_⟩
  refine ⟨_, rfl, ?_⟩
  refine ⟨_, rfl, _, rfl, _, _, rfl, I1, a, b, ps, bs, x0.ih, rfl, rfl, x0.hh _ _ ha, hpl, x0.hh _ _ hb, fun h1 J1 G1 y1 hh1 => ?_⟩
  have x1 := x0.trans y1
  refine ⟨_, rfl, _, rfl, _, _, rfl, J1, a, c, ps, fs, x1.ih, rfl, rfl, x1.hh _ _ ha, hpl, x1.hh _ _ hc, fun h2 J2 G2 y2 hh2 => ?_⟩
  have x2 := x1.trans y2
  refine ⟨_, rfl, b, _, rfl, .inl (.inl (.inl (x2.hh _ _ hb))), fun l1 hl1 => ?_⟩
  have x3 := x2.new (o := .lst (bs.map V.int)) hl1
  refine ⟨_, rfl, c, _, rfl, .inl (.inl (.inl (x3.hh _ _ hc))), fun l2 hl2 => ?_⟩
  have x4 := x3.new (o := .lst (fs.map V.int)) hl2
  refine ⟨_, rfl, _, rfl, _, rfl, a, _, rfl, .inl (.inl (x4.hh _ _ ha)), fun l3 hl3 => ?_⟩
  rw [cutTake (by rw [List.length_map]; omega), ← List.map_take]
  have x5 := x4.new (o := .lst ((ps.take bs.length).map V.int)) hl3
  refine ⟨_, rfl, _, rfl, _, _, rfl, rfl, _, rfl, a, _, rfl, .inl (.inl (x5.hh _ _ ha)), fun l4 hl4 => ?_⟩
  rw [cutDrop (n := bs.length + 1) (by rw [List.length_map]; omega), ← List.map_drop]
  have x6 := x5.tmp (o := .lst ((ps.drop (bs.length + 1)).map V.int)) hl4
  refine ⟨l4, ps.drop (bs.length + 1), rfl, .inl (.inl upd_same), fun ns l5 pm pw hl5 => ?_⟩
  rw [sorted_unique pm pw]
  have x7 := x6.new (o := .lst ((Vbdcar.sorted (ps.drop (bs.length + 1))).map V.int)) hl5
  refine ⟨_, rfl, _, rfl, ?_⟩
  have hp0 : (L2.upd H1 p (.dK [])) p = some (.dK []) := upd_same
  have z7 : Ext I1 (L2.upd H1 p (.dK [])) _ _ := (((((y1.trans y2).new (o := .lst (bs.map V.int)) hl1).new (o := .lst (fs.map V.int)) hl2).new (o := .lst ((ps.take bs.length).map V.int)) hl3).tmp (o := .lst ((ps.drop (bs.length + 1)).map V.int)) hl4).new (o := .lst ((Vbdcar.sorted (ps.drop (bs.length + 1))).map V.int)) hl5
  have hJp := z7.noneI hIp hp0
  refine ⟨z7.hh _ _ hp0, [(.inr "prize", .int (ps.getD bs.length 0)), (.inr "pot", .int (Vbdcar.scoreOf {} ps bs fs).pot), (.inr "mine", .ref h1), (.inr "theirs", .ref h2), (.inr "bids", .ref l1), (.inr "foes", .ref l2), (.inr "past", .ref l3), (.inr "left", .ref l5), (.inr "me", .int (Vbdcar.scoreOf {} ps bs fs).me), (.inr "foe", .int (Vbdcar.scoreOf {} ps bs fs).foe)], rfl, by show 10 ≤ 15; decide, ?_⟩
  rw [merge_new (by simp only [List.nil_append, List.map_cons, List.map_nil]; decide +kernel), List.nil_append]
  have w1 := ((((y2.new (o := .lst (bs.map V.int)) hl1).new (o := .lst (fs.map V.int)) hl2).new (o := .lst ((ps.take bs.length).map V.int)) hl3).tmp (o := .lst ((ps.drop (bs.length + 1)).map V.int)) hl4).new (o := .lst ((Vbdcar.sorted (ps.drop (bs.length + 1))).map V.int)) hl5
  have w2 := (((((Ext.refl x2.ih).new (o := .lst (bs.map V.int)) hl1).new (o := .lst (fs.map V.int)) hl2).new (o := .lst ((ps.take bs.length).map V.int)) hl3).tmp (o := .lst ((ps.drop (bs.length + 1)).map V.int)) hl4).new (o := .lst ((Vbdcar.sorted (ps.drop (bs.length + 1))).map V.int)) hl5
  have w3 := ((((Ext.refl x3.ih).new (o := .lst (fs.map V.int)) hl2).new (o := .lst ((ps.take bs.length).map V.int)) hl3).tmp (o := .lst ((ps.drop (bs.length + 1)).map V.int)) hl4).new (o := .lst ((Vbdcar.sorted (ps.drop (bs.length + 1))).map V.int)) hl5
  have w4 := (((Ext.refl x4.ih).new (o := .lst ((ps.take bs.length).map V.int)) hl3).tmp (o := .lst ((ps.drop (bs.length + 1)).map V.int)) hl4).new (o := .lst ((Vbdcar.sorted (ps.drop (bs.length + 1))).map V.int)) hl5
  have w5 := ((Ext.refl x5.ih).tmp (o := .lst ((ps.drop (bs.length + 1)).map V.int)) hl4).new (o := .lst ((Vbdcar.sorted (ps.drop (bs.length + 1))).map V.int)) hl5
  refine q p _ _ ((x7.mut hHp hJp).frz hHp hJp upd_same) (kn_paired upd_same ?_)
  have sP := fun (o : HO) => Same.new (o := o) hJp
  unfold Vbdcar.inputs
  refine .cons ⟨congrArg Sum.inr (by decide +kernel : Str.ofString "prize" = sB (Vbdcar.ascii "prize")), .int _⟩ (.cons ⟨congrArg Sum.inr (by decide +kernel : Str.ofString "pot" = sB (Vbdcar.ascii "pot")), .int _⟩ (.cons ⟨congrArg Sum.inr (by decide +kernel : Str.ofString "mine" = sB (Vbdcar.ascii "mine")), .list (sP _ _ _ (w1.ii _ _ hh1))⟩ (.cons ⟨congrArg Sum.inr (by decide +kernel : Str.ofString "theirs" = sB (Vbdcar.ascii "theirs")), .list (sP _ _ _ (w2.ii _ _ hh2))⟩ (.cons ⟨congrArg Sum.inr (by decide +kernel : Str.ofString "bids" = sB (Vbdcar.ascii "bids")), .list (sP _ _ _ (w3.ii _ _ upd_same))⟩
    (.cons ⟨congrArg Sum.inr (by decide +kernel : Str.ofString "foes" = sB (Vbdcar.ascii "foes")), .list (sP _ _ _ (w4.ii _ _ upd_same))⟩ (.cons ⟨congrArg Sum.inr (by decide +kernel : Str.ofString "past" = sB (Vbdcar.ascii "past")), .list (sP _ _ _ (w5.ii _ _ upd_same))⟩ (.cons ⟨congrArg Sum.inr (by decide +kernel : Str.ofString "left" = sB (Vbdcar.ascii "left")), .list (sP _ _ _ upd_same)⟩ (.cons ⟨congrArg Sum.inr (by decide +kernel : Str.ofString "me" = sB (Vbdcar.ascii "me")), .int _⟩ (.cons ⟨congrArg Sum.inr (by decide +kernel : Str.ofString "foe" = sB (Vbdcar.ascii "foe")), .int _⟩ .nil)))))))))⟩

/-! ## a bid -/
def hide (H : Hp) (m fl : Addr) : Hp := fun b => if b = m ∨ b = fl then none else H b
theorem hide_ext {I H : Hp} {m fl : Addr} (s : Same I H) (hm : I m = none) (hf : I fl = none) : Ext I (hide H m fl) I H := by
  refine ⟨fun b o h => ?_, .refl I, s, fun b h n => absurd h n⟩
  unfold hide at h
  split at h
  · cases h
  · exact h
theorem rebase {I H I3 H3 I2 H2 : Hp} {m fl : Addr} (e : Ext I H I3 H3) (hm : H m = none) (hf : H fl = none) (e2 : Ext I3 (hide H3 m fl) I2 H2) : Ext I H I2 H2 := by
  have key : ∀ b o, H b = some o → hide H3 m fl b = some o := by
    intro b o h
    unfold hide
    rw [if_neg]
    · exact e.hh _ _ h
    · rintro (rfl | rfl)
      · rw [hm] at h; cases h
      · rw [hf] at h; cases h
  refine ⟨fun b o h => e2.hh _ _ (key b o h), e.ii.trans e2.ii, e2.ih, fun b h n => ?_⟩
  cases h3 : I3 b with
  | some o => exact e.fr b h (by rw [h3]; exact fun z => nomatch z)
  | none =>
    have h4 := e2.fr b h3 n
    cases hb : H b with
    | none => rfl
    | some o => rw [key b o hb] at h4; cases h4
abbrev bidT (p : Vbdcar.Prog) (ps bs fs : List Int) : List V := [.int (Vbdcar.bid p ps bs fs).1, .int (((Vbdcar.bid p ps bs fs).2.1 : Nat) : Int), .int (((Vbdcar.bid p ps bs fs).2.2 : Nat) : Int)]
abbrev sp_bid_of : Sp := Sp4 fun u v y z H Q _ => ∃ (I : Hp) (p : Vbdcar.Prog) (a b c : Addr) (ps bs fs : List Int), Same I H ∧ ProgAt I u p ∧ PWF p ∧ v = .ref a ∧ y = .ref b ∧ z = .ref c ∧ IL H a ps ∧ IL H b bs ∧ IL H c fs ∧ bs.length < ps.length ∧ ps.length ≤ 4000 ∧ IoOk (Vbdcar.inputs ps bs fs) ∧ Vbdcar.hand ps.length bs ≠ [] ∧
  ∀ t I' H', Ext I H I' H' → I' t = some (.tup (bidT p ps bs fs)) → Q (.ref t) H'
abbrev n_bid_of : List Str := ["program", "prizes", "bids", "foes", "machine", "cards", "value", "failure", "cause"]
theorem sc_bid_of : FnScope n_bid_of ["program", "prizes", "bids", "foes"] (defScope s_bid_of) := ⟨rfl, rfl, rfl, by decide +kernel, rfl, by decide +kernel, by decide +kernel⟩
theorem d_bid_of (T : Tx w K mg)  : Def w K mg base 14 "bid_of" ["program", "prizes", "bids", "foes"] (sp_bid_of) :=
  mkDef4 T f_bid_of rfl rfl sc_bid_of rfl (fun _ _ _ _ _ _ us hl => match us, hl with | [_, _, _, _], _ => rfl) fun u v y z cdv A outer s H Q E hr h =>
  ⟨_, (pss_cons (ps_set (i := 4) sc_bid_of.nd rfl (Or.inl rfl) (pe_mk (m_Machine T) hr pz (pa_cons (pv 0) (pa_cons (pe_c (d_inputs_for T) hr pz (pa_cons (pv 1) (pa_cons (pv 2) (pa_cons (pv 3) pa_nil)))) pa_nil))))
  (pss_cons (ps_set (i := 5) sc_bid_of.nd rfl (Or.inl rfl) (pe_c (d_hand T) hr pz (pa_cons (pv 1) (pa_cons (pv 2) pa_nil))))
  (pss_cons (ps_try_as (i := 7) rfl rfl sc_bid_of.nd rfl rfl ⟨rfl, by decide, .inl T.g_Failure⟩ tz (fun W pn xe tk _ => (pss_one (ps_set (i := 6) sc_bid_of.nd rfl (Or.inl rfl) (pe_cS (d_work_out T) hr tk (pa_cons (pv 4) (pa_cons (pe_fldK (K' := K) (pv 0) rfl) pa_nil)))))) (fun a oe cls d pn hz hf => (pss_one (ps_ret (pe_tup (pa_cons (pe_ix (ixK (K' := K) rIxL ix_list) (pv 5) pe_int (fun _ _ => rfl)) (pa_cons (pe_xf (T.x_Failure).xf ((T.x_Failure).no _ (by simp)) hz hf (pv 7)) (pa_cons (pe_fldK (K' := K) (pv 4) rfl) pa_nil))))))))
  (pss_cons (ps_set (i := 8) sc_bid_of.nd rfl (Or.inl rfl) (pe_c (d_bid_failure T) hr pz (pa_cons (pv 6) (pa_cons (pv 5) pa_nil))))
  (pss_cons (ps_if (pt_cmpR op_ne (pv 8) pe_int (nomark _)) (pss_one (ps_ret (pe_tup (pa_cons (pe_ix ix_list (pv 5) pe_int (fun _ _ => rfl)) (pa_cons (pv 8) (pa_cons (pe_fld (pv 4) rfl) pa_nil)))))) pss_nil)
  (pss_one (ps_ret (pe_tup (pa_cons (pv 6) (pa_cons pe_int (pa_cons (pe_fld (pv 4) rfl) pa_nil))))))))))), by
  obtain ⟨I, p, a, b, c, ps, bs, fs, sI, hp, hw, rfl, rfl, rfl, ha, hb, hc, hlt, hpl, hio, hne, q⟩ := h
  refine k_sset ⟨_, rfl, _, rfl, _, rfl, _, rfl, _, _, _, rfl, I, a, b, c, ps, bs, fs, sI, rfl, rfl, rfl, ha, hb, hc, hlt, hpl, fun kd J G e1 hkd => ?_⟩
  intro x dx hx hdx hxd
  refine ⟨_, _, _, rfl, x, dx, kd, rfl, rfl, upd_same, fun fl hfl hflx => ⟨rfl, ?_⟩⟩
  have hfd : fl ≠ dx := fun e2 => by rw [e2, upd_ne hxd, upd_same] at hfl; cases hfl
  rw [upd_ne hflx, upd_ne hfd] at hfl
  rw [upd_swap hflx]
  have m1 := ((e1.tmp (o := .own x) hdx).tmp (o := .lst []) (p := fl) (by rw [upd_ne hfd]; exact hfl)).tmp (o := .ins cMachine dx (mF u kd 0 0 fl)) (p := x) (by rw [upd_ne (Ne.symm hflx), upd_ne (Ne.symm hxd)]; exact hx)
  have hHx : H x = none := e1.hh.free hx
  have hHf : H fl = none := e1.hh.free hfl
  have hJx : J x = none := e1.ih.free hx
  have hJf : J fl = none := e1.ih.free hfl
  refine k_sset ?_
  refine ⟨_, rfl, _, rfl, _, _, rfl, J, a, b, ps, bs, m1.ih, rfl, rfl, m1.hh _ _ ha, hpl, m1.hh _ _ hb, fun hc2 J2 G2 y2 hcards => ?_⟩
  have m2 := m1.trans y2
  have hx1 : (L2.upd (L2.upd (L2.upd G dx (.own x)) fl (.lst [])) x (.ins cMachine dx (mF u kd 0 0 fl))) x = some (.ins cMachine dx (mF u kd 0 0 fl)) := upd_same
  have hf1 : (L2.upd (L2.upd (L2.upd G dx (.own x)) fl (.lst [])) x (.ins cMachine dx (mF u kd 0 0 fl))) fl = some (.lst []) := by rw [upd_ne hflx]; exact upd_same
  have hx2 := y2.hh _ _ hx1
  have hf2 := y2.hh _ _ hf1
  have jx2 := y2.noneI hJx hx1
  have jf2 := y2.noneI hJf hf1
  have hp2 := hp.mono m2.ii
  have hk2 := hkd.mono y2.ii
  have M : MAt J2 (hide G2 x fl) x p (Vbdcar.inputs ps bs fs) J2 G2 ⟨0, 0, []⟩ [] := ⟨hide_ext y2.ih jx2 jf2, dx, u, kd, fl, [], by simp [hide], jx2, by simp [hide], jf2, hx2, hf2, hp2, hk2, .nil, by simp, List.nodup_nil⟩
  obtain ⟨n, hrun⟩ := run_spec hw hio
  obtain ⟨pa, pdx, pli, pul, pxs, rfl, p2, p3, p4, p5, p6, p7⟩ := hp2.ex
  have hbid : Vbdcar.bid p ps bs fs = (match (Vbdcar.runWith 5000 p (Vbdcar.inputs ps bs fs)).1 with
    | .ok (.int c) => if (Vbdcar.hand ps.length bs).contains c = true then (c, 0, 5000 - (Vbdcar.runWith 5000 p (Vbdcar.inputs ps bs fs)).2) else ((Vbdcar.hand ps.length bs).headD 0, 6, 5000 - (Vbdcar.runWith 5000 p (Vbdcar.inputs ps bs fs)).2)
    | .ok _ => ((Vbdcar.hand ps.length bs).headD 0, 1, 5000 - (Vbdcar.runWith 5000 p (Vbdcar.inputs ps bs fs)).2)
    | .error k => ((Vbdcar.hand ps.length bs).headD 0, k, 5000 - (Vbdcar.runWith 5000 p (Vbdcar.inputs ps bs fs)).2)) := rfl
  generalize hrs : (Vbdcar.runWith 5000 p (Vbdcar.inputs ps bs fs)).1 = rs at hrun hbid
  generalize hts : 5000 - (Vbdcar.runWith 5000 p (Vbdcar.inputs ps bs fs)).2 = ts at hrun hbid
  have h0 : ∃ c0 cr, Vbdcar.hand ps.length bs = c0 :: cr := by
    cases hh : Vbdcar.hand ps.length bs with
    | nil => exact absurd hh hne
    | cons c0 cr => exact ⟨c0, cr, rfl⟩
  obtain ⟨c0, cr, hcr⟩ := h0
  have card0 : atI ((Vbdcar.hand ps.length bs).map V.int) 0 = some (.int ((Vbdcar.hand ps.length bs).headD 0)) := by rw [hcr]; exact atI_nat (j := 0) rfl
  refine ⟨_, rfl, _, rfl, pa, _, pdx, _, _, rfl, m2.ih _ _ p2, T.c_Program, T.n_Program_last, rfl, _, _, rfl, J2, hide G2 x fl, x, p, Vbdcar.inputs ps bs fs, J2, p.main, n, rs, ts, rfl, M, p7, hrun, ?_⟩
  cases rs with
  | error k =>
    intro I2 H2 c' fs' rs' M2 d hd
    obtain ⟨mdx, pv, dio, fl', hm, _, _, _, _⟩ := M2.nums
    have E4 := rebase m2 hHx hHf M2.ext
    have nxd : x ≠ d := ne_of_none hm hd
    have hcd : hc2 ≠ d := ne_of_none (M2.ext.si _ _ hcards) hd
    have hcl : IL H2 hc2 (Vbdcar.hand ps.length bs) := M2.ext.si _ _ hcards
    have hq1 : SqL K (L2.upd H2 d (.xd [("cause", .int (k : Int))])) hc2 ((Vbdcar.hand ps.length bs).map V.int) := .inl (.inl (by rw [upd_ne hcd]; exact hcl))
    refine ⟨true, T.x_Failure.te, fun _ ea hea => ?_, fun z => nomatch z⟩
    refine ⟨_, rfl, hc2, _, _, _, rfl, rfl, hq1, card0, _, rfl, rfl, rfl, d, _, _, rfl, upd_same, rfl, _, rfl, x, _, mdx, _, _, rfl, by rw [upd_ne nxd]; exact hm, T.c_Machine, T.n_Machine_steps, rfl, three_ok, fun tp htp => q tp _ _ ((E4.tmp hd).new htp) ?_⟩
    rw [upd_same, bidT, hbid]
  | ok z =>
    intro u' I2 H2 c' fs' rs' M2 hu
    obtain ⟨mdx, pv, dio, fl', hm, _, _, _, _⟩ := M2.nums
    have E4 := rebase m2 hHx hHf M2.ext
    have hcl : IL H2 hc2 (Vbdcar.hand ps.length bs) := M2.ext.si _ _ hcards
    have hq1 : SqL K H2 hc2 ((Vbdcar.hand ps.length bs).map V.int) := .inl (.inl hcl)
    refine ⟨_, rfl, _, rfl, _, _, rfl, z, hc2, Vbdcar.hand ps.length bs, hu.mono M2.ext.ih, rfl, hcl, ?_⟩
    cases z with
    | list l =>
      refine ⟨_, rfl, rfl, _, rfl, iteT ?_⟩
      refine ⟨_, rfl, hc2, _, _, _, rfl, rfl, hq1, card0, _, rfl, _, rfl, x, _, mdx, _, _, rfl, hm, T.c_Machine, T.n_Machine_steps, rfl, three_ok, fun tp htp => q tp _ _ (E4.new htp) ?_⟩
      rw [upd_same, bidT, hbid]
      rfl
    | int k =>
      cases hu
      by_cases hk : (Vbdcar.hand ps.length bs).contains k = true
      · have e9 : failOf (.int k) (Vbdcar.hand ps.length bs) = 0 := by simp only [failOf, if_pos hk]
        rw [e9]
        refine ⟨_, rfl, rfl, _, rfl, iteF ?_⟩
        refine ⟨_, rfl, _, rfl, x, _, mdx, _, _, rfl, hm, T.c_Machine, T.n_Machine_steps, rfl, three_ok, fun tp htp => q tp _ _ (E4.new htp) ?_⟩
        rw [upd_same, bidT, hbid]
        simp only [if_pos hk]
        rfl
      · have e9 : failOf (.int k) (Vbdcar.hand ps.length bs) = 6 := by simp only [failOf, if_neg hk]
        rw [e9]
        refine ⟨_, rfl, rfl, _, rfl, iteT ?_⟩
        refine ⟨_, rfl, hc2, _, _, _, rfl, rfl, hq1, card0, _, rfl, _, rfl, x, _, mdx, _, _, rfl, hm, T.c_Machine, T.n_Machine_steps, rfl, three_ok, fun tp htp => q tp _ _ (E4.new htp) ?_⟩
        rw [upd_same, bidT, hbid]
        simp only [if_neg hk]
        rfl⟩
end
end Bd


end
/-! ## BdTreeA -/
section
namespace Bd
open PySem PySem.Spec PyProof.Rows
open L2
/-! ## bytes and trees in the heap -/
abbrev iB (b : List Nat) : List Int := b.map fun (c : Nat) => (c : Int)
theorem iB_len (b : List Nat) : (iB b).length = b.length := List.length_map _
theorem vB_get {b : List Nat} {i : Nat} {x : V} (h : ((iB b).map V.int)[i]? = some x) : ∃ c, b[i]? = some c ∧ x = .int (c : Nat) := by
  rw [List.getElem?_map, List.getElem?_map] at h
  cases hc : b[i]? with
  | none => rw [hc] at h; cases h
  | some c => rw [hc] at h; cases h; exact ⟨c, rfl, rfl⟩
theorem vB_at {b : List Nat} {i : Nat} {c : Nat} (h : b[i]? = some c) : ((iB b).map V.int)[i]? = some (.int (c : Nat)) := by
  rw [List.getElem?_map, List.getElem?_map, h]; rfl
abbrev treeF (n : Nat) (d : Addr) (iv : V) (s : Str) : List (Str × V) := [("place", .int (n : Nat)), ("data", .ref d), ("inner", iv), ("letters", .str s)]
inductive TreeAt (I : Hp) : V → Vbdcar.Tree → Prop where
  | word {a dx d : Addr} {n : Nat} {b : List Nat} (ha : I a = some (.ins cTree dx (treeF n d .non (sB (lettersB b))))) (hd : IL I d (iB b)) (hb : b.length ≤ 4000) (hne : b ≠ []) : TreeAt I (.ref a) (.word n b)
  | node {a dx d li : Addr} {n : Nat} {l : Vbdcar.Trees} {xs : List V} (ha : I a = some (.ins cTree dx (treeF n d (.ref li) (sB [])))) (hl : I li = some (.lst xs)) (hn : xs.length = l.list.length) (hz : xs.length ≤ 4000)
      (hc : ∀ (i : Nat) x c, xs[i]? = some x → l.list[i]? = some c → TreeAt I x c) : TreeAt I (.ref a) (.node n l)
theorem TreeAt.mono {I I' : Hp} (s : Same I I') : ∀ {u : V} {t : Vbdcar.Tree}, TreeAt I u t → TreeAt I' u t
  | _, _, .word ha hd hb hne => .word (s _ _ ha) (s _ _ hd) hb hne
  | _, _, .node ha hl hn hz hc => .node (s _ _ ha) (s _ _ hl) hn hz fun i x c h1 h2 => TreeAt.mono s (hc i x c h1 h2)
/-- its fields, of any tree -/
def letT : Vbdcar.Tree → Str
  | .word _ b => sB (lettersB b)
  | .node _ _ => sB []
def isW : Vbdcar.Tree → Bool
  | .word _ _ => true
  | .node _ _ => false
theorem TreeAt.at {I : Hp} {u : V} {t : Vbdcar.Tree} (h : TreeAt I u t) : ∃ a dx d iv, u = .ref a ∧ I a = some (.ins cTree dx (treeF t.place d iv (letT t))) ∧ decide (iv = .non) = isW t := by
  cases h with
  | word ha hd hb hne => exact ⟨_, _, _, _, rfl, ha, decide_eq_true rfl⟩
  | node ha hl hn hz hc => exact ⟨_, _, _, _, rfl, ha, decide_eq_false (fun z => nomatch z)⟩
/-- a comprehension over a list whose elements are told functions of the items, whatever is made on the way -/
theorem k_lcF {K : PySem.W.Frag} {ta te : TE} {j : Nat} {vs : List Nat} {σ : L2.St} {I H : Hp} {Q : VK} {a : Addr} {α : Type} {cs : List α} {f g : α → V} (hv : L2.Val ta σ H (.ref a)) (sI : Same I H) (hx : SqL K H a (cs.map g))
    (hw : ∀ x, wipe ((wipe σ vs).set j (some x)) vs = wipe σ vs) (hz : cs.length ≤ 1000000)
    (he : ∀ c I2 H2 (Q' : VK), c ∈ cs → Ext I H I2 H2 → (∀ I4 H4, Ext I2 H2 I4 H4 → Q' (f c) H4) → te ((wipe σ vs).set j (some (g c))) H2 Q')
    (q : ∀ D I' H', Ext I H I' H' → I D = none → H D = none → I' D = some (.lst (cs.map f)) → Q (.ref D) H') : tLc (iList K ta) (gName j) tYes te vs σ H Q :=
  k_lcR (I := I) (xs := cs.map g) hv (fun i y _ => ∃ c, cs[i]? = some c ∧ y = f c) sI hx hw (fun _ _ _ _ _ h => h) (by rw [List.length_map]; exact hz)
    (fun i x I2 H2 Q' hi e2 k => by
      rw [List.getElem?_map] at hi
      cases hc : cs[i]? with
      | none => rw [hc] at hi; cases hi
      | some c =>
        rw [hc] at hi
        cases hi
        exact he c I2 H2 Q' (List.mem_of_getElem? hc) e2 fun I4 H4 e4 => k _ I4 H4 e4 ⟨c, hc, rfl⟩)
    fun D ys I' H' e2 iD hD h1 hl r => q D I' H' e2 iD hD (by rw [h1, list_of (hl.trans (List.length_map _)) r])
theorem k_red {T : TT} {σ : L2.St} {H : Hp} {R : Bool → Hp → Prop} {b : Bool} (h : ∀ R' : Bool → Hp → Prop, R' b H → T σ H R') (r : R b H) : T σ H R := h R r
section
variable {w : World} {K : PySem.W.Frag} {mg : Str → Option Value} {base : Heap}
theorem op_sub1 : ∀ x ∈ wOne ++ (wTwo ++ [Vbdcar.ascii "list"]), opWord x = sB x := by decide +kernel
def signB : List Nat := [43, 45, 42, 47, 37, 60, 61]
theorem op_sign : ∀ c ∈ signB, valV (sgK sgL) (Sum.inl (c : Int)) = some (.str (opWord [c])) := by decide +kernel
theorem op_sup : ∀ x ∈ Vbdcar.OPS.map (·.1), (x.length = 1 ∧ x.headD 0 ∈ signB) ∨ (x.all lowB = true ∧ x ∈ wOne ++ (wTwo ++ [Vbdcar.ascii "list"])) := by decide +kernel
theorem sg_none {c : Nat} (h : c ∉ signB) : valV (sgK sgL) (Sum.inl (c : Int)) = none := by
  have key : ∀ l : List (Int × Str), (∀ p ∈ l, p.1 ≠ (c : Int)) → valV (sgK l) (Sum.inl (c : Int)) = none := by
    intro l
    induction l with
    | nil => intro _; rfl
    | cons p r ih =>
      intro hp
      have h1 := hp p (List.mem_cons_self ..)
      have h2 := ih fun q hq => hp q (List.mem_cons_of_mem _ hq)
      unfold valV at h2 ⊢
      rw [show sgK (p :: r) = (Sum.inl p.1, V.str p.2) :: sgK r from rfl]
      simp only [List.find?_cons] at h2 ⊢
      have e : (decide ((Sum.inl p.1 : Key) = Sum.inl (c : Int))) = false := decide_eq_false fun z => h1 (Sum.inl.inj z)
      rw [e]
      exact h2
  refine key sgL fun p hp e => h ?_
  have : ∀ q ∈ sgL, q.1.toNat ∈ signB := by decide +kernel
  have hq := this p hp
  rw [e] at hq
  exact hq
theorem opWord_none {b : List Nat} (h : b ∉ Vbdcar.OPS.map (·.1)) : opWord b = Str.ofString "" := by
  unfold opWord
  have := opOf_some b
  rw [show (Vbdcar.OPS.map (·.1)).contains b = false by rw [← Bool.not_eq_true, List.contains_iff_mem]; exact h] at this
  cases hb : Vbdcar.opOf b with
  | none => rfl
  | some x => rw [hb] at this; cases this
abbrev n_operation_of : List Str := ["tree"]
theorem sc_operation_of : FnScope n_operation_of ["tree"] (defScope s_operation_of) := ⟨rfl, rfl, rfl, by decide +kernel, rfl, by decide +kernel, by decide +kernel⟩
theorem d_operation_of (T : Tx w K mg)  : Def w K mg base 1 "operation_of" ["tree"] (Sp1 fun u H Q _ => ∃ n b, TreeAt H u (.word n b) ∧ Q (.str (opWord b)) H) :=
  mkDef1 T f_operation_of rfl rfl sc_operation_of rfl (fun _ _ _ _ _ _ us hl => match us, hl with | [_], _ => rfl) fun u cdv A outer s H Q E hr h =>
  ⟨_, (pss_cons (ps_if (PW.pt (pw_and (pt_cmpR op_eq (pe_callB call_len_seq (by rfl) T.fr_len (by decide +kernel) (pa_cons (pe_fld (pv 0) rfl) pa_nil)) pe_int (nomark _)) (pw_and1 (pt_cmpR (op_inSg T) (pe_ix ix_list (pe_fld (pv 0) rfl) pe_int (fun _ _ => rfl)) (pe_gr T.k_SIGNS) (by rfl))))) (pss_one (ps_ret (pe_itSg T (pe_ix ix_list (pe_fld (pv 0) rfl) pe_int (fun _ _ => rfl))))) pss_nil)
  (pss_cons (ps_if (PW.pt (pw_or (pt_cmpR op_in_seq (pe_fld (pv 0) rfl) (pe_gr T.k_ONE_PART) (by rfl)) (pw_or (pt_cmpR op_in_seq (pe_fld (pv 0) rfl) (pe_gr T.k_TWO_PARTS) (by rfl)) (pw_or1 (pt_cmpR op_eq (pe_fld (pv 0) rfl) pe_str (nomark _)))))) (pss_one (ps_ret (pe_fld (pv 0) rfl))) pss_nil)
  (pss_one (ps_ret pe_str)))), by
  obtain ⟨n, b, hu, q⟩ := h
  cases hu with | @word a dx d _ _ ha hd hb hne =>
  have hm : ((iB b).map V.int).length = b.length := by rw [List.length_map, iB_len]
  by_cases hS : b.length = 1 ∧ b.headD 0 ∈ signB
  · obtain ⟨h1, hc⟩ := hS
    obtain ⟨c, rfl⟩ := List.length_eq_one_iff.mp h1
    have hv := op_sign c hc
    have hd' : SqL K H d ((iB [c]).map V.int) := .inl (.inl hd)
    refine k_sifN (k_red (b := true) (fun R' r => ?_) (iteT ⟨_, rfl, a, _, dx, _, _, rfl, ha, T.c_Tree, T.n_Tree_data, rfl, d, _, _, _, rfl, rfl, hd', atI_nat (j := 0) rfl, _, _, rfl, hv, q⟩))
    refine ⟨_, rfl, a, _, dx, _, _, rfl, ha, T.c_Tree, T.n_Tree_data, rfl, d, _, rfl, .inl hd', rfl, _, rfl, ?_⟩
    rw [dI, hm, decide_eq_true (by rfl)]
    refine iteT ⟨_, rfl, a, _, dx, _, _, rfl, ha, T.c_Tree, T.n_Tree_data, rfl, d, _, _, _, rfl, rfl, hd', atI_nat (j := 0) rfl, _, rfl, rfl, _, rfl, ?_⟩
    rw [hv]
    exact r
  refine k_sifN (k_red (fun R' r => ?_) (iteF ?_))
  · refine ⟨_, rfl, a, _, dx, _, _, rfl, ha, T.c_Tree, T.n_Tree_data, rfl, d, _, rfl, .inl (.inl (.inl hd)), rfl, _, rfl, ?_⟩
    rw [dI, hm]
    by_cases h1 : b.length = 1
    · obtain ⟨c, rfl⟩ := List.length_eq_one_iff.mp h1
      rw [decide_eq_true (by omega)]
      refine iteT ⟨_, rfl, a, _, dx, _, _, rfl, ha, T.c_Tree, T.n_Tree_data, rfl, d, _, _, _, rfl, rfl, .inl (.inl hd), atI_nat (j := 0) rfl, _, rfl, rfl, _, rfl, ?_⟩
      have e0 : valV (sgK sgL) (Sum.inl (c : Int)) = none := sg_none (fun z => hS ⟨rfl, z⟩)
      show R' (valV (sgK sgL) (Sum.inl (c : Int))).isSome H
      rw [e0]
      exact r
    · rw [decide_eq_false (by omega)]
      exact iteF r
  · have fOne : c_ONE_PART.all flatV = true := by rw [vOne]; exact flatWords _
    have fTwo : c_TWO_PARTS.all flatV = true := by rw [vTwo]; exact flatWords _
    have hlit := sLit (lettersB b) "list" (by decide +kernel)
    by_cases hw : lettersB b ∈ wOne ++ (wTwo ++ [Vbdcar.ascii "list"])
    · have hne2 : lettersB b ≠ [] := fun z => absurd hw (by rw [z]; decide +kernel)
      have eb := lettersB_mem rfl hne2
      have q2 : Q (.str (sB (lettersB b))) H := by rw [← op_sub1 _ hw, ← eb]; exact q
      refine k_sifN (k_red (b := true) (fun R' r => ?_) (iteT ⟨_, rfl, a, _, dx, _, _, rfl, ha, T.c_Tree, T.n_Tree_letters, rfl, q2⟩))
      refine ⟨_, rfl, a, _, dx, _, _, rfl, ha, T.c_Tree, T.n_Tree_letters, rfl, _, _, rfl, .inr (T.t_ONE_PART H), rfl, fOne, _, rfl, ?_⟩
      show if inV (.str (sB (lettersB b))) c_ONE_PART = true then _ else _
      rw [vOne, inWords]
      cases h1 : wOne.contains (lettersB b) with
      | true => exact iteT r
      | false =>
        refine iteF ⟨_, rfl, a, _, dx, _, _, rfl, ha, T.c_Tree, T.n_Tree_letters, rfl, _, _, rfl, .inr (T.t_TWO_PARTS H), rfl, fTwo, _, rfl, ?_⟩
        show if inV (.str (sB (lettersB b))) c_TWO_PARTS = true then _ else _
        rw [vTwo, inWords]
        cases h2 : wTwo.contains (lettersB b) with
        | true => exact iteT r
        | false =>
          refine iteF ⟨_, rfl, a, _, dx, _, _, rfl, ha, T.c_Tree, T.n_Tree_letters, rfl, rfl, _, rfl, ?_⟩
          rw [dS, hlit]
          have e3 : (lettersB b == Vbdcar.ascii "list") = true := by
            rcases List.mem_append.mp hw with z | z
            · rw [List.contains_iff_mem.mpr z] at h1; cases h1
            · rcases List.mem_append.mp z with z | z
              · rw [List.contains_iff_mem.mpr z] at h2; cases h2
              · exact beq_iff_eq.mpr (List.mem_singleton.mp z)
          rw [e3]
          exact r
    · have hno : b ∉ Vbdcar.OPS.map (·.1) := fun z => by
        rcases op_sup b z with y | ⟨y, y2⟩
        · exact hS y
        · rw [lettersB, if_pos y] at hw; exact hw y2
      rw [opWord_none hno] at q
      simp only [List.mem_append, List.mem_singleton, not_or] at hw
      refine k_sifN (k_red (b := false) (fun R' r => ?_) (iteF q))
      refine ⟨_, rfl, a, _, dx, _, _, rfl, ha, T.c_Tree, T.n_Tree_letters, rfl, _, _, rfl, .inr (T.t_ONE_PART H), rfl, fOne, _, rfl, ?_⟩
      show if inV (.str (sB (lettersB b))) c_ONE_PART = true then _ else _
      rw [vOne, inWords, show wOne.contains (lettersB b) = false by rw [← Bool.not_eq_true, List.contains_iff_mem]; exact hw.1]
      refine iteF ⟨_, rfl, a, _, dx, _, _, rfl, ha, T.c_Tree, T.n_Tree_letters, rfl, _, _, rfl, .inr (T.t_TWO_PARTS H), rfl, fTwo, _, rfl, ?_⟩
      show if inV (.str (sB (lettersB b))) c_TWO_PARTS = true then _ else _
      rw [vTwo, inWords, show wTwo.contains (lettersB b) = false by rw [← Bool.not_eq_true, List.contains_iff_mem]; exact hw.2.1]
      refine iteF ⟨_, rfl, a, _, dx, _, _, rfl, ha, T.c_Tree, T.n_Tree_letters, rfl, rfl, _, rfl, ?_⟩
      rw [dS, hlit, show (lettersB b == Vbdcar.ascii "list") = false from beq_eq_false_iff_ne.mpr hw.2.2]
      exact r⟩
end
end Bd


end
/-! ## BdTreeP -/
section
namespace Bd
open Vbdcar (Tree Trees Open letByte letBlank)
/-! ## reading trees, in plain words -/
def brkB (c : Nat) : Bool := c == 40 || c == 41
def mayB (c : Nat) : Bool := letBlank c || (decide (33 ≤ c) && decide (c ≤ 126))
def wordB (c : Nat) : Bool := !letBlank c && !brkB c
theorem letByte_word {c : Nat} (h : mayB c = true) : letByte c = wordB c := by
  unfold letByte wordB brkB
  unfold mayB letBlank at h
  unfold letBlank
  by_cases h1 : c = 32
  · subst h1; rfl
  · by_cases h2 : c = 10
    · subst h2; rfl
    · have h3 : (c == 32) = false := by simpa using h1
      have h4 : (c == 10) = false := by simpa using h2
      rw [h3, h4] at h ⊢
      simp only [Bool.or_self, Bool.false_or, Bool.and_eq_true, decide_eq_true_eq] at h
      rw [decide_eq_true h]
      cases h5 : c == 40 <;> cases h6 : c == 41 <;> simp_all
/-- what is wrong with the bytes -/
def chkB : Nat → Nat → List Nat → Option (Nat × Nat)
  | n, d, [] => if 0 < d then some (2, n) else none
  | n, d, c :: r => if mayB c = false then some (1, n) else if c = 40 then (if d = 20 then some (3, n) else chkB (n + 1) (d + 1) r) else if c = 41 then (if d = 0 then some (2, n) else chkB (n + 1) (d - 1) r) else chkB (n + 1) d r
abbrev pushT (o : Open) (done : List Tree) (t : Tree) : Open × List Tree := match o with
  | [] => ([], t :: done)
  | x :: r => ((x.1, t :: x.2) :: r, done)
abbrev closedT (o : Open) (done : List Tree) (w : Option (Nat × List Nat)) : Open × List Tree := match w with
  | some x => pushT o done (.word x.1 x.2.reverse)
  | none => (o, done)
theorem push_len (o : Open) (done : List Tree) (t : Tree) : (pushT o done t).1.length = o.length := by cases o <;> rfl
theorem closed_len (o : Open) (done : List Tree) (w : Option (Nat × List Nat)) : (closedT o done w).1.length = o.length := by
  cases w with
  | none => rfl
  | some x => exact push_len o done _
theorem trees_nil (n : Nat) (o : Open) (done : List Tree) (w : Option (Nat × List Nat)) : Vbdcar.trees n o done w [] = if (closedT o done w).1.isEmpty = true then .ok (closedT o done w).2.reverse else .error ⟨n, 2⟩ := by
  rw [Vbdcar.trees.eq_def]
  dsimp only
  rfl
theorem trees_letter {n c : Nat} {o : Open} {done : List Tree} {w : Option (Nat × List Nat)} {r : List Nat} (h : letByte c = true) : Vbdcar.trees n o done w (c :: r) = Vbdcar.trees (n + 1) o done (some (match w with
        | some x => (x.1, c :: x.2)
        | none => (n, [c]))) r := by
  rw [Vbdcar.trees.eq_def]; dsimp only; rw [if_pos h]
  cases w <;> rfl
def restT (n c : Nat) (z : Open × List Tree) (r : List Nat) : Except Vbdcar.Wrong (List Tree) :=
  if letBlank c = true then Vbdcar.trees (n + 1) z.1 z.2 none r
      else if c = 40 then (if Vbdcar.DEEP ≤ z.1.length then .error ⟨n, 3⟩ else Vbdcar.trees (n + 1) ((n, []) :: z.1) z.2 none r)
      else if c = 41 then (match z.1 with
        | [] => .error ⟨n, 2⟩
        | x :: y => (match y with
          | [] => Vbdcar.trees (n + 1) [] (.node x.1 (Trees.of x.2.reverse) :: z.2) none r
          | v :: q => Vbdcar.trees (n + 1) ((v.1, .node x.1 (Trees.of x.2.reverse) :: v.2) :: q) z.2 none r))
      else .error ⟨n, 1⟩
theorem trees_cons {n c : Nat} {o : Open} {done : List Tree} {w : Option (Nat × List Nat)} {r : List Nat} (h : letByte c = false) : Vbdcar.trees n o done w (c :: r) = restT n c (closedT o done w) r := by
  rw [Vbdcar.trees.eq_def]
  dsimp only
  rw [if_neg (show ¬ letByte c = true by rw [h]; exact Bool.false_ne_true)]
  rfl
theorem trees_other {n c : Nat} {o : Open} {done : List Tree} {w : Option (Nat × List Nat)} {r : List Nat} (h : letByte c = false) : Vbdcar.trees n o done w (c :: r) = Vbdcar.trees n (closedT o done w).1 (closedT o done w).2 none (c :: r) := by
  rw [trees_cons h, trees_cons h]
theorem trees_blank {n c : Nat} {o : Open} {done : List Tree} {r : List Nat} (h : letBlank c = true) : Vbdcar.trees n o done none (c :: r) = Vbdcar.trees (n + 1) o done none r := by
  have h1 : letByte c = false := by
    unfold letBlank at h
    simp only [Bool.or_eq_true, beq_iff_eq] at h
    rcases h with rfl | rfl <;> rfl
  rw [Vbdcar.trees.eq_def]; dsimp only; rw [if_neg (by rw [h1]; exact Bool.false_ne_true), if_pos h]
theorem trees_open {n : Nat} {o : Open} {done : List Tree} {r : List Nat} : Vbdcar.trees n o done none (40 :: r) = if 20 ≤ o.length then .error ⟨n, 3⟩ else Vbdcar.trees (n + 1) ((n, []) :: o) done none r := by
  rw [Vbdcar.trees.eq_def]; dsimp only; rw [if_neg (by decide), if_neg (by decide), if_pos rfl]
  rfl
/-- a bracket is closed -/
def shutT (x : Nat × List Tree) (y : Open) (done : List Tree) : Open × List Tree := pushT y done (.node x.1 (Trees.of x.2.reverse))
theorem trees_shut {n : Nat} {x : Nat × List Tree} {y : Open} {done : List Tree} {r : List Nat} : Vbdcar.trees n (x :: y) done none (41 :: r) = Vbdcar.trees (n + 1) (shutT x y done).1 (shutT x y done).2 none r := by
  rw [Vbdcar.trees.eq_def]; dsimp only; rw [if_neg (by decide), if_neg (by decide), if_neg (by decide), if_pos rfl]
  cases y <;> rfl
theorem trees_shut0 {n : Nat} {done : List Tree} {r : List Nat} : Vbdcar.trees n [] done none (41 :: r) = .error ⟨n, 2⟩ := by
  rw [Vbdcar.trees.eq_def]; dsimp only; rw [if_neg (by decide), if_neg (by decide), if_neg (by decide), if_pos rfl]
theorem trees_bad {n c : Nat} {o : Open} {done : List Tree} {r : List Nat} (h : mayB c = false) : Vbdcar.trees n o done none (c :: r) = .error ⟨n, 1⟩ := by
  unfold mayB at h
  simp only [Bool.or_eq_false_iff] at h
  have h1 : letByte c = false := by
    unfold letByte
    have : decide (33 ≤ c ∧ c ≤ 126) = false := by
      rw [Bool.eq_false_iff]; intro z
      have := of_decide_eq_true z
      rw [decide_eq_true this.1, decide_eq_true this.2] at h
      exact absurd h.2 (by decide)
    rw [this]; rfl
  have h2 : ¬ c = 40 := fun z => by subst z; exact absurd h.2 (by decide)
  have h3 : ¬ c = 41 := fun z => by subst z; exact absurd h.2 (by decide)
  rw [Vbdcar.trees.eq_def]; dsimp only; rw [if_neg (by rw [h1]; exact Bool.false_ne_true), if_neg (by rw [h.1]; exact Bool.false_ne_true), if_neg h2, if_neg h3]
/-- the bytes are wrong just as told -/
theorem trees_chk : ∀ (b : List Nat) (n : Nat) (o : Open) (done : List Tree) (w : Option (Nat × List Nat)), o.length ≤ 20 → match chkB n o.length b with
    | some e => Vbdcar.trees n o done w b = .error ⟨e.2, e.1⟩
    | none => ∃ ts, Vbdcar.trees n o done w b = .ok ts
  | [], n, o, done, w, _ => by
    rw [trees_nil, chkB, ← closed_len o done w]
    cases h : (closedT o done w).1 with
    | nil => simp
    | cons x y => simp
  | c :: r, n, o, done, w, ho => by
    rw [chkB]
    cases hl : letByte c with
    | true =>
      have hm : ¬ mayB c = false := by
        unfold letByte at hl; unfold mayB
        simp only [Bool.and_eq_true, decide_eq_true_eq] at hl
        rw [decide_eq_true hl.1.1, decide_eq_true hl.1.2]; simp
      have h40 : ¬ c = 40 := fun z => by subst z; exact absurd hl (by decide)
      have h41 : ¬ c = 41 := fun z => by subst z; exact absurd hl (by decide)
      rw [if_neg hm, if_neg h40, if_neg h41, trees_letter hl]
      exact trees_chk r (n + 1) o done _ ho
    | false =>
      rw [trees_other hl]
      have el := closed_len o done w
      generalize closedT o done w = z at el ⊢
      obtain ⟨o', done'⟩ := z
      replace el : o'.length = o.length := el
      show match (if mayB c = false then some (1, n) else if c = 40 then (if o.length = 20 then some (3, n) else chkB (n + 1) (o.length + 1) r) else if c = 41 then (if o.length = 0 then some (2, n) else chkB (n + 1) (o.length - 1) r) else chkB (n + 1) o.length r : Option (Nat × Nat)) with | some e => Vbdcar.trees n o' done' none (c :: r) = Except.error ⟨e.2, e.1⟩ | none => ∃ ts, Vbdcar.trees n o' done' none (c :: r) = Except.ok ts
      rw [← el]
      rw [← el] at ho
      cases hm : mayB c with
      | false => rw [if_pos rfl, trees_bad hm]
      | true =>
        rw [if_neg (fun z => nomatch z)]
        by_cases h40 : c = 40
        · subst h40
          rw [if_pos rfl, trees_open]
          by_cases h20 : o'.length = 20
          · rw [if_pos h20, if_pos (by omega)]
          · rw [if_neg h20, if_neg (by omega)]
            exact trees_chk r (n + 1) ((n, []) :: o') done' none (by simp; omega)
        · rw [if_neg h40]
          by_cases h41 : c = 41
          · subst h41
            rw [if_pos rfl]
            cases o' with
            | nil => rw [if_pos (List.length_nil), trees_shut0]
            | cons x y =>
              rw [if_neg (by simp), trees_shut]
              have := trees_chk r (n + 1) (shutT x y done').1 (shutT x y done').2 none (by rw [shutT, push_len]; simp at ho; omega)
              rw [shutT, push_len] at this
              exact this
          · rw [if_neg h41]
            have hb : letBlank c = true := by
              rw [letByte_word hm] at hl
              unfold wordB brkB at hl
              simp only [beq_eq_false_iff_ne.mpr h40, beq_eq_false_iff_ne.mpr h41, Bool.or_self, Bool.not_false, Bool.and_true, Bool.not_eq_false'] at hl
              exact hl
            rw [trees_blank hb]
            exact trees_chk r (n + 1) o' done' none ho
/-- letters of a word that has been begun -/
theorem trees_run : ∀ (u : List Nat) (n m : Nat) (o : Open) (done : List Tree) (acc rest : List Nat), (∀ c ∈ u, letByte c = true) → Vbdcar.trees n o done (some (m, acc)) (u ++ rest) = Vbdcar.trees (n + u.length) o done (some (m, u.reverse ++ acc)) rest
  | [], n, m, o, done, acc, rest, _ => rfl
  | c :: u, n, m, o, done, acc, rest, h => by
    rw [List.cons_append, trees_letter (h c (by simp)), trees_run u (n + 1) m o done (c :: acc) rest fun d hd => h d (by simp [hd])]
    simp only [List.length_cons, List.reverse_cons, List.append_assoc, List.singleton_append]
    congr 1
    omega
theorem trees_word {u rest : List Nat} {n : Nat} {o : Open} {done : List Tree} (hu : u ≠ []) (h : ∀ c ∈ u, letByte c = true) (hr : ∀ c r, rest = c :: r → letByte c = false) :
    Vbdcar.trees n o done none (u ++ rest) = Vbdcar.trees (n + u.length) (pushT o done (.word n u)).1 (pushT o done (.word n u)).2 none rest := by
  cases u with
  | nil => exact absurd rfl hu
  | cons c u =>
    rw [List.cons_append, trees_letter (h c (by simp)), trees_run u (n + 1) n o done [c] rest fun d hd => h d (by simp [hd])]
    have e : closedT o done (some (n, u.reverse ++ [c])) = pushT o done (.word n (c :: u)) := by simp [closedT]
    rw [List.length_cons, show n + 1 + u.length = n + (u.length + 1) by omega]
    cases rest with
    | nil => rw [trees_nil, trees_nil, e]
    | cons d r => rw [trees_other (hr d r rfl), e]
theorem chk_word : ∀ (u : List Nat) (n d : Nat) (rest : List Nat), (∀ c ∈ u, wordB c = true) → chkB n d (u ++ rest) = none → (∀ c ∈ u, letByte c = true) ∧ chkB (n + u.length) d rest = none
  | [], n, d, rest, _, h => ⟨fun c hc => by simp at hc, h⟩
  | c :: u, n, d, rest, hw, h => by
    rw [List.cons_append, chkB] at h
    have hc := hw c (by simp)
    have h40 : ¬ c = 40 := fun z => by subst z; exact absurd hc (by decide)
    have h41 : ¬ c = 41 := fun z => by subst z; exact absurd hc (by decide)
    cases hm : mayB c with
    | false => rw [if_pos hm] at h; cases h
    | true =>
      rw [if_neg (by rw [hm]; exact fun z => nomatch z), if_neg h40, if_neg h41] at h
      obtain ⟨h1, h2⟩ := chk_word u (n + 1) d rest (fun e he => hw e (by simp [he])) h
      refine ⟨fun e he => ?_, by rw [List.length_cons, show n + (u.length + 1) = n + 1 + u.length by omega]; exact h2⟩
      rcases List.mem_cons.mp he with rfl | he
      · rw [letByte_word hm]; exact hc
      · exact h1 e he
/-! ## how deep, how many -/
mutual
def tdeep : Tree → Nat
  | .word _ _ => 0
  | .node _ l => tdeeps l + 1
def tdeeps : Trees → Nat
  | .nil => 0
  | .cons t l => max (tdeep t) (tdeeps l)
end
mutual
def tnum : Tree → Nat
  | .word _ _ => 1
  | .node _ l => tnums l + 1
def tnums : Trees → Nat
  | .nil => 0
  | .cons t l => tnum t + tnums l
end
theorem tlist_of : ∀ l : List Tree, (Trees.of l).list = l
  | [] => rfl
  | t :: r => by rw [Trees.of, Trees.list, tlist_of r]
theorem tdeeps_le : ∀ (l : Trees) (d : Nat), (∀ t ∈ l.list, tdeep t ≤ d) → tdeeps l ≤ d
  | .nil, d, _ => by rw [tdeeps]; omega
  | .cons t l, d, h => by
    rw [Trees.list] at h
    have h1 := h t (by simp)
    have h2 := tdeeps_le l d fun u hu => h u (by simp [hu])
    rw [tdeeps]; omega
theorem tdeeps_mem : ∀ {l : Trees} {t : Tree}, t ∈ l.list → tdeep t ≤ tdeeps l
  | .nil, t, h => by simp [Trees.list] at h
  | .cons u l, t, h => by
    rw [Trees.list] at h
    rw [tdeeps]
    rcases List.mem_cons.mp h with rfl | h
    · omega
    · have := tdeeps_mem h; omega
theorem tnums_of : ∀ l : List Tree, tnums (Trees.of l) = (l.map tnum).sum
  | [] => rfl
  | t :: r => by rw [Trees.of, tnums, tnums_of r, List.map_cons, List.sum_cons]
/-- the open brackets' trees fit in the depth -/
def OkO : Open → Prop
  | [] => True
  | x :: r => (∀ t ∈ x.2, tdeep t + (r.length + 1) ≤ 20) ∧ OkO r
def cntO (o : Open) : Nat := (o.map fun x => (x.2.map tnum).sum + 1).sum
theorem cntO_cons (x : Nat × List Tree) (o : Open) : cntO (x :: o) = (x.2.map tnum).sum + 1 + cntO o := rfl
theorem okPush {o : Open} {done : List Tree} {t : Tree} (h : OkO o) (hd : ∀ t ∈ done, tdeep t ≤ 20) (ht : tdeep t + o.length ≤ 20) : OkO (pushT o done t).1 ∧ ∀ v ∈ (pushT o done t).2, tdeep v ≤ 20 := by
  cases o with
  | nil =>
    refine ⟨True.intro, fun u hu => ?_⟩
    rcases List.mem_cons.mp (show u ∈ t :: done from hu) with e | hu
    · rw [e]; simpa using ht
    · exact hd u hu
  | cons x r =>
    refine ⟨⟨fun u hu => ?_, h.2⟩, hd⟩
    rcases List.mem_cons.mp (show u ∈ t :: x.2 from hu) with e | hu
    · rw [e]; simpa using ht
    · exact h.1 u hu
theorem cntPush (o : Open) (done : List Tree) (t : Tree) : cntO (pushT o done t).1 + ((pushT o done t).2.map tnum).sum = cntO o + (done.map tnum).sum + tnum t := by
  cases o with
  | nil => show cntO [] + (tnum t + (done.map tnum).sum) = _; omega
  | cons x r =>
    show cntO ((x.1, t :: x.2) :: r) + (done.map tnum).sum = cntO (x :: r) + (done.map tnum).sum + tnum t
    rw [cntO_cons, cntO_cons, List.map_cons, List.sum_cons]; omega
theorem trees_fit : ∀ (b : List Nat) (n : Nat) (o : Open) (done ts : List Tree) (w : Option (Nat × List Nat)), o.length ≤ 20 → OkO o → (∀ t ∈ done, tdeep t ≤ 20) → Vbdcar.trees n o done w b = .ok ts →
    (∀ t ∈ ts, tdeep t ≤ 20) ∧ (ts.map tnum).sum ≤ cntO o + (done.map tnum).sum + (if w.isSome = true then 1 else 0) + b.length
  | [], n, o, done, ts, w, ho, h1, h2, h => by
    rw [trees_nil] at h
    have key : (∀ t ∈ (closedT o done w).2, tdeep t ≤ 20) ∧ cntO (closedT o done w).1 + ((closedT o done w).2.map tnum).sum = cntO o + (done.map tnum).sum + (if w.isSome = true then 1 else 0) := by
      cases w with
      | none => exact ⟨h2, by simp [closedT]⟩
      | some x => exact ⟨(okPush (t := .word x.1 x.2.reverse) h1 h2 (by rw [tdeep]; omega)).2, by rw [cntPush o done (.word x.1 x.2.reverse), tnum]; rfl⟩
    generalize closedT o done w = z at h key
    obtain ⟨o', done'⟩ := z
    replace h : (if o'.isEmpty = true then Except.ok done'.reverse else Except.error (⟨n, 2⟩ : Vbdcar.Wrong)) = .ok ts := h
    split at h
    · cases h
      refine ⟨fun t ht => key.1 t (List.mem_reverse.mp ht), ?_⟩
      have := key.2
      rw [List.map_reverse, List.sum_reverse]
      simp only at this
      omega
    · cases h
  | c :: r, n, o, done, ts, w, ho, h1, h2, h => by
    cases hl : letByte c with
    | true =>
      rw [trees_letter hl] at h
      have := trees_fit r (n + 1) o done ts _ ho h1 h2 h
      refine ⟨this.1, ?_⟩
      have h3 := this.2
      simp only [Option.isSome_some, if_true] at h3
      rw [List.length_cons]
      split <;> omega
    | false =>
      rw [trees_other hl] at h
      have key : OkO (closedT o done w).1 ∧ (∀ t ∈ (closedT o done w).2, tdeep t ≤ 20) ∧ cntO (closedT o done w).1 + ((closedT o done w).2.map tnum).sum = cntO o + (done.map tnum).sum + (if w.isSome = true then 1 else 0) := by
        cases w with
        | none => exact ⟨h1, h2, by simp [closedT]⟩
        | some x =>
          have := okPush (t := .word x.1 x.2.reverse) h1 h2 (by rw [tdeep]; omega)
          exact ⟨this.1, this.2, by rw [cntPush o done (.word x.1 x.2.reverse), tnum]; rfl⟩
      have el := closed_len o done w
      generalize closedT o done w = z at h key el
      obtain ⟨o', done'⟩ := z
      replace el : o'.length = o.length := el
      obtain ⟨k1, k2, k3⟩ := key
      simp only at h k1 k2 k3
      rw [← k3, List.length_cons]
      rw [← el] at ho
      cases hm : mayB c with
      | false => rw [trees_bad hm] at h; cases h
      | true =>
        by_cases h40 : c = 40
        · subst h40
          rw [trees_open] at h
          split at h
          · cases h
          · have := trees_fit r (n + 1) ((n, []) :: o') done' ts none (by simp; omega) ⟨fun t ht => by simp at ht, k1⟩ k2 h
            refine ⟨this.1, ?_⟩
            have h3 := this.2
            simp only [cntO_cons, List.map_nil, List.sum_nil, Option.isSome_none, Bool.false_eq_true, if_false] at h3
            omega
        · by_cases h41 : c = 41
          · subst h41
            cases o' with
            | nil => rw [trees_shut0] at h; cases h
            | cons x y =>
              rw [trees_shut] at h
              have dp : tdeep (.node x.1 (Trees.of x.2.reverse)) + y.length ≤ 20 := by
                rw [tdeep]
                have hy : y.length + 1 ≤ 20 := by simpa using ho
                have : tdeeps (Trees.of x.2.reverse) ≤ 20 - (y.length + 1) := tdeeps_le _ _ fun t ht => by
                  rw [tlist_of, List.mem_reverse] at ht
                  have := k1.1 t ht
                  omega
                omega
              have q : OkO (shutT x y done').1 ∧ ∀ t ∈ (shutT x y done').2, tdeep t ≤ 20 := okPush (t := .node x.1 (Trees.of x.2.reverse)) k1.2 k2 dp
              have := trees_fit r (n + 1) (shutT x y done').1 (shutT x y done').2 ts none (by rw [shutT, push_len]; simp at ho; omega) q.1 q.2 h
              refine ⟨this.1, ?_⟩
              have h3 := this.2
              have h4 := cntPush y done' (.node x.1 (Trees.of x.2.reverse))
              rw [tnum, tnums_of, List.map_reverse, List.sum_reverse] at h4
              replace h4 : cntO (shutT x y done').1 + ((shutT x y done').2.map tnum).sum = _ := h4
              simp only [Option.isSome_none, Bool.false_eq_true, if_false] at h3
              rw [cntO_cons]
              omega
          · have hb : letBlank c = true := by
              rw [letByte_word hm] at hl
              unfold wordB brkB at hl
              simp only [beq_eq_false_iff_ne.mpr h40, beq_eq_false_iff_ne.mpr h41, Bool.or_self, Bool.not_false, Bool.and_true, Bool.not_eq_false'] at hl
              exact hl
            rw [trees_blank hb] at h
            have := trees_fit r (n + 1) o' done' ts none ho k1 k2 h
            refine ⟨this.1, ?_⟩
            have h3 := this.2
            simp only [Option.isSome_none, Bool.false_eq_true, if_false] at h3
            omega
end Bd

end
/-! ## BdTreeB -/
section
namespace Bd
open PySem PySem.Spec PyProof.Rows
open L2
section
variable {w : World} {K : PySem.W.Frag} {mg : Str → Option Value} {base : Heap}
theorem k_m1 {r : V → List V → Hp → VK → Prop} {to te : TE} {σ : L2.St} {H : Hp} {Q : VK} (h : to σ H fun x H1 => (∃ a, x = .str a) ∧ te σ H1 fun y H2 => r x [y] H2 Q) : tM1 r to te σ H Q := h
theorem ext_tl {a b : Str} (h : TL.tl a = TL.tl b) : a = b := TL.ext_tl h
theorem joinSigns : ∀ b : List Nat, Txt.join (Str.ofString "") (b.map fun c => (⟨#[c]⟩ : Str)) = sB b := by
  intro b
  refine TL.ext_tl ?_
  rw [TL.join_eq, TL.tl_join]
  have h0 : TL.tl (Str.ofString "") = [] := by decide +kernel
  rw [h0, List.map_map]
  have key : ∀ l : List Nat, TL.joinL [] (l.map (TL.tl ∘ fun c => (⟨#[c]⟩ : Str))) = l := by
    intro l
    induction l with
    | nil => rfl
    | cons c r ih =>
      cases r with
      | nil => rfl
      | cons d r =>
        show [c] ++ ([] ++ TL.joinL [] ((d :: r).map (TL.tl ∘ fun c => (⟨#[c]⟩ : Str)))) = c :: d :: r
        rw [ih]; rfl
  rw [key]
  simp [TL.tl, sB]
abbrev sp_letters : Sp := Sp1 fun u H Q _ => ∃ (a : Addr) (b : List Nat), u = .ref a ∧ IL H a (iB b) ∧ b.length ≤ 4000 ∧ ∀ H', Same H H' → Q (.str (sB (lettersB b))) H'
theorem lowI (c : Nat) : (if decide ((97 : Int) ≤ (c : Nat)) = true then decide (((c : Nat) : Int) ≤ 122) else false) = lowB c := by
  unfold lowB
  by_cases h : 97 ≤ c
  · rw [if_pos (by simp; omega)]
    by_cases h2 : c ≤ 122
    · rw [decide_eq_true (by omega), decide_eq_true ⟨h, h2⟩]
    · rw [decide_eq_false (by omega), decide_eq_false (fun z => h2 z.2)]
  · rw [if_neg (by simp; omega), decide_eq_false (fun z => h z.1)]
theorem alpha_at : ∀ c, lowB c = true → ("abcdefghijklmnopqrstuvwxyz" : Str).cps.toList[c - 97]? = some c := by
  intro c h
  have h' := of_decide_eq_true h
  have key : ∀ i < 26, ("abcdefghijklmnopqrstuvwxyz" : Str).cps.toList[i]? = some (i + 97) := by decide +kernel
  have := key (c - 97) (by omega)
  rw [this]
  congr 1
  omega
abbrev n_letters_of : List Str := ["data", "byte"]
theorem sc_letters_of : FnScope n_letters_of ["data"] (defScope s_letters_of) := ⟨rfl, rfl, rfl, by decide +kernel, rfl, by decide +kernel, by decide +kernel⟩
theorem d_letters_of (T : Tx w K mg)  : Def w K mg base 1 "letters_of" ["data"] (sp_letters) :=
  mkDef1 T f_letters_of rfl rfl sc_letters_of rfl (fun _ _ _ _ _ _ us hl => match us, hl with | [_], _ => rfl) fun u cdv A outer s H Q E hr h =>
  ⟨_, (pss_cons (ps_if (pt_not (pt_val (pe_callB (cr_all rfl) (by rfl) T.fr_all (by decide +kernel) (pa_cons (pe_lc (own := [("byte", 1)]) (g := gName 1) (tt := tYes) rfl sc_letters_of.nd (pi_list (pv 0)) (blkOk_by (N := n_letters_of) (sc := defScope s_letters_of) (by decide +kernel)) (fun _ _ _ _ _ => (pg_name (i := 1) sc_letters_of.nd rfl (Or.inl rfl))) (fun _ _ _ _ _ => pts_nil) (fun _ _ _ _ _ => by exact (pe_chain op_le op_le pe_int (pv 1) pe_int))) pa_nil)))) (pss_one (ps_ret pe_str)) pss_nil)
  (pss_one (ps_ret (pe_join pe_str (pe_lc (own := [("byte", 1)]) (g := gName 1) (tt := tYes) rfl sc_letters_of.nd (pi_list (pv 0)) (blkOk_by (N := n_letters_of) (sc := defScope s_letters_of) (by decide +kernel)) (fun _ _ _ _ _ => (pg_name (i := 1) sc_letters_of.nd rfl (Or.inl rfl))) (fun _ _ _ _ _ => pts_nil) (fun _ _ _ _ _ => by exact (pe_ix ix_str (pe_gs T.k_LETTERS) (pe_op op_sub (pv 1) pe_int) (fun _ _ => rfl)))))))), by
  obtain ⟨a, b, rfl, ha, hb, q⟩ := h
  have hq : SqL K H a (b.map fun c => V.int (c : Nat)) := .inl (.inl (by rw [IL, List.map_map] at ha; exact ha))
  refine k_sifN (k_cb (k_cons (k_lcF (I := H) (cs := b) (g := fun c => V.int (c : Nat)) (f := fun c => V.bl (lowB c)) (val_var rfl) (.refl H) hq (fun _ => rfl) (by omega) (fun c I2 H2 Q' hc e2 k => ?_) fun D I1 H1 e1 iD hD h1 => ?_)))
  · refine ⟨_, rfl, _, _, rfl, rfl, _, rfl, ?_⟩
    have hl := lowI c
    by_cases h : (97 : Int) ≤ (c : Nat)
    · rw [if_pos (decide_eq_true h)] at hl
      rw [decide_eq_true h]
      refine iteT ⟨_, _, rfl, rfl, ?_⟩
      show Q' (V.bl (decide (((c : Nat) : Int) ≤ 122))) H2
      rw [hl]
      exact k I2 H2 (Ext.refl e2.ih)
    · rw [if_neg (by simpa using h)] at hl
      rw [decide_eq_false h]
      refine iteF ?_
      rw [hl]
      exact k I2 H2 (Ext.refl e2.ih)
  refine ⟨_, b.map lowB, rfl, .inl (.inl (e1.ih _ _ (by rw [h1, List.map_map]; rfl))), _, rfl, ?_⟩
  rw [List.all_map]
  show if (!b.all lowB) = true then _ else _
  unfold lettersB at q
  cases hall : b.all lowB with
  | false =>
    rw [hall, if_neg (by simp)] at q
    exact iteT (show Q (.str (Str.ofString "")) H1 from q H1 e1.hh)
  | true =>
    rw [hall, if_pos rfl] at q
    have hlow := List.all_eq_true.mp hall
    have hq1 : SqL K H1 a (b.map fun c => V.int (c : Nat)) := .inl (.inl (e1.hh _ _ (by rw [IL, List.map_map] at ha; exact ha)))
    refine iteF (k_ret (k_m1 (k_c ⟨⟨_, rfl⟩, k_lcF (I := I1) (cs := b) (g := fun c => V.int (c : Nat)) (f := fun c => V.str (⟨#[c]⟩ : Str)) (val_var rfl) e1.ih hq1 (fun _ => rfl) (by omega) (fun c I2 H2 Q' hc e2 k => ?_) fun D2 I2 H2 e2 iD2 hD2 h2 => ?_⟩)))
    · have hc97 := of_decide_eq_true (hlow c hc)
      refine ⟨_, rfl, _, _, rfl, rfl, _, _, c, rfl, rfl, by rw [sizeLine_eq]; decide, ?_, k I2 H2 (Ext.refl e2.ih)⟩
      have := alpha_at c (hlow c hc)
      rw [show ((c : Int) - 97) = ((c - 97 : Nat) : Int) by omega]
      exact atI_nat this
    · refine ⟨_, _, b.map fun c => (⟨#[c]⟩ : Str), rfl, rfl, .inl (.inl (.inl (e2.ih _ _ (by rw [h2, List.map_map]; rfl)))), ?_, ?_⟩
      · simp only [List.map_map, List.length_map]
        have : (b.map ((fun x : Str => x.length) ∘ fun c => (⟨#[c]⟩ : Str))).sum = b.length := by
          clear ha hb q hq hall hlow hq1 h1 h2
          induction b with
          | nil => rfl
          | cons c r ih => rw [List.map_cons, List.sum_cons, ih, List.length_cons, Nat.add_comm]; rfl
        rw [this]
        show b.length + b.length * 0 ≤ _
        omega
      · rw [joinSigns]
        exact q H2 (Same.trans e1.hh e2.hh)⟩
theorem sc_I_Tree : FnScope ["self", "place", "data", "inner"] ["self", "place", "data", "inner"] (defScope s_Tree) := ⟨rfl, rfl, rfl, by decide +kernel, rfl, by decide +kernel, by decide +kernel⟩
theorem m_Tree (T : Tx w K mg)  : MkD w K mg base 2 "Tree" cTree ["self", "place", "data", "inner"] (Sp4 fun u v y z H Q _ => ∃ a dx d n b, u = .ref a ∧ v = .int (n : Nat) ∧ y = .ref d ∧ IL H d (iB b) ∧ b.length ≤ 4000 ∧ H a = some (.ins cTree dx []) ∧ ∀ H', Same (upd H a (.ins cTree dx [("place", .int (n : Nat)), ("data", .ref d), ("inner", z)])) H' → Q .non (upd H' a (.ins cTree dx (treeF n d z (sB (lettersB b)))))) :=
  mkInit T f_I_Tree rfl (T.k.cl 6 _ _ _ rfl).2.1 T.g_Tree sc_I_Tree (fun _ _ _ _ _ _ us hl => match us, hl with | [_, _, _, _], _ => rfl) (fun vs H Q E ⟨u, v, y, z, e, _⟩ => by rw [e] <;> rfl) fun vs cdv A outer s H Q E hr ⟨u, v, y, z, e, h⟩ => by
  subst e
  refine ⟨_, (pss_cons (ps_fld (pv 0) (pv 1) rfl)
  (pss_cons (ps_fld (pv 0) (pv 2) rfl)
  (pss_cons (ps_fld (pv 0) (pv 3) rfl)
  (pss_one (ps_fld (pv 0) (pe_c (d_letters_of T) hr pz (pa_cons (pv 2) pa_nil)) rfl))))), ?_⟩
  obtain ⟨a, dx, d, n, b, rfl, rfl, rfl, hd, hb, ha, q⟩ := h
  have hda : d ≠ a := fun e => by rw [e, IL, ha] at hd; cases hd
  refine ⟨_, rfl, _, rfl, a, _, dx, _, rfl, ha, T.c_Tree, T.n_Tree_place, putL0, _, rfl, _, rfl, a, _, dx, _, rfl, upd_same, T.c_Tree, T.n_Tree_data, putL1, _, rfl, _, rfl, a, _, dx, _, rfl, upd_same, T.c_Tree, T.n_Tree_inner, putL2, ?_⟩
  simp only [upd_upd]
  refine ⟨_, rfl, _, rfl, d, b, rfl, by rw [IL, upd_ne hda]; exact hd, hb, fun H' s1 => ?_⟩
  refine ⟨_, rfl, a, _, dx, _, rfl, s1 _ _ upd_same, T.c_Tree, T.n_Tree_letters, putL3, q H' s1⟩
abbrev n_is_word : List Str := ["tree"]
theorem sc_is_word : FnScope n_is_word ["tree"] (defScope s_is_word) := ⟨rfl, rfl, rfl, by decide +kernel, rfl, by decide +kernel, by decide +kernel⟩
theorem d_is_word (T : Tx w K mg)  : Def w K mg base 1 "is_word" ["tree"] (Sp1 fun u H Q _ => ∃ t, TreeAt H u t ∧ Q (.bl (isW t)) H) :=
  mkDef1 T f_is_word rfl rfl sc_is_word rfl (fun _ _ _ _ _ _ us hl => match us, hl with | [_], _ => rfl) fun u cdv A outer s H Q E hr h =>
  ⟨_, (pss_one (ps_ret (pe_cmpR op_isN (pe_fld (pv 0) rfl) pe_non (nomark _)))), by
  obtain ⟨t, hu, q⟩ := h
  obtain ⟨a, dx, d, iv, rfl, ha, e⟩ := hu.at
  refine ⟨_, rfl, a, _, dx, _, _, rfl, ha, T.c_Tree, T.n_Tree_inner, rfl, rfl, ?_⟩
  rw [e]
  exact q⟩
abbrev n_is_blank : List Str := ["byte"]
theorem sc_is_blank : FnScope n_is_blank ["byte"] (defScope s_is_blank) := ⟨rfl, rfl, rfl, by decide +kernel, rfl, by decide +kernel, by decide +kernel⟩
theorem d_is_blank (T : Tx w K mg)  : Def w K mg base 1 "is_blank" ["byte"] (Sp1 fun u H Q _ => ∃ c : Nat, u = .int (c : Nat) ∧ Q (.bl (Vbdcar.letBlank c)) H) :=
  mkDef1 T f_is_blank rfl rfl sc_is_blank rfl (fun _ _ _ _ _ _ us hl => match us, hl with | [_], _ => rfl) fun u cdv A outer s H Q E hr h =>
  ⟨_, (pss_one (ps_ret (pe_or (pe_cmpR op_eq (pv 0) (pe_gi T.k_LINE_FEED_trees) (nomark _)) (pe_one (pe_cmpR op_eq (pv 0) (pe_gi T.k_BLANK_trees) (nomark _)))))), by
  obtain ⟨c, rfl, q⟩ := h
  refine ⟨_, rfl, rfl, _, rfl, ?_⟩
  rw [dI]
  have e1 : decide (((c : Nat) : Int) = 10) = (c == 10) := by rw [Bool.eq_iff_iff]; simp; omega
  have e2 : decide (((c : Nat) : Int) = 32) = (c == 32) := by rw [Bool.eq_iff_iff]; simp; omega
  unfold Vbdcar.letBlank at q
  rw [e1]
  cases h10 : c == 10 with
  | true => rw [h10, Bool.or_true] at q; exact iteT q
  | false =>
    rw [h10, Bool.or_false] at q
    refine iteF ⟨_, rfl, rfl, ?_⟩
    rw [dI, e2]
    exact q⟩
abbrev n_is_bracket : List Str := ["byte"]
theorem sc_is_bracket : FnScope n_is_bracket ["byte"] (defScope s_is_bracket) := ⟨rfl, rfl, rfl, by decide +kernel, rfl, by decide +kernel, by decide +kernel⟩
theorem d_is_bracket (T : Tx w K mg)  : Def w K mg base 1 "is_bracket" ["byte"] (Sp1 fun u H Q _ => ∃ c : Nat, u = .int (c : Nat) ∧ Q (.bl (brkB c)) H) :=
  mkDef1 T f_is_bracket rfl rfl sc_is_bracket rfl (fun _ _ _ _ _ _ us hl => match us, hl with | [_], _ => rfl) fun u cdv A outer s H Q E hr h =>
  ⟨_, (pss_one (ps_ret (pe_or (pe_cmpR op_eq (pv 0) (pe_gi T.k_OPENING_trees) (nomark _)) (pe_one (pe_cmpR op_eq (pv 0) (pe_gi T.k_CLOSING_trees) (nomark _)))))), by
  obtain ⟨c, rfl, q⟩ := h
  refine ⟨_, rfl, rfl, _, rfl, ?_⟩
  rw [dI]
  have e1 : decide (((c : Nat) : Int) = 40) = (c == 40) := by rw [Bool.eq_iff_iff]; simp; omega
  have e2 : decide (((c : Nat) : Int) = 41) = (c == 41) := by rw [Bool.eq_iff_iff]; simp; omega
  unfold brkB at q
  rw [e1]
  cases h10 : c == 40 with
  | true => rw [h10, Bool.true_or] at q; exact iteT q
  | false =>
    rw [h10, Bool.false_or] at q
    refine iteF ⟨_, rfl, rfl, ?_⟩
    rw [dI, e2]
    exact q⟩
abbrev n_may_stand : List Str := ["byte"]
theorem sc_may_stand : FnScope n_may_stand ["byte"] (defScope s_may_stand) := ⟨rfl, rfl, rfl, by decide +kernel, rfl, by decide +kernel, by decide +kernel⟩
theorem d_may_stand (T : Tx w K mg)  : Def w K mg base 2 "may_stand" ["byte"] (Sp1 fun u H Q _ => ∃ c : Nat, u = .int (c : Nat) ∧ Q (.bl (mayB c)) H) :=
  mkDef1 T f_may_stand rfl rfl sc_may_stand rfl (fun _ _ _ _ _ _ us hl => match us, hl with | [_], _ => rfl) fun u cdv A outer s H Q E hr h =>
  ⟨_, (pss_one (ps_ret (pe_or (pe_c (d_is_blank T) hr pz (pa_cons (pv 0) pa_nil)) (pe_one (pe_chain op_le op_le pe_int (pv 0) pe_int))))), by
  obtain ⟨c, rfl, q⟩ := h
  unfold mayB at q
  refine ⟨_, rfl, _, rfl, c, rfl, _, rfl, ?_⟩
  cases hb : Vbdcar.letBlank c with
  | true => rw [hb, Bool.true_or] at q; exact iteT q
  | false =>
    rw [hb, Bool.false_or] at q
    refine iteF ⟨_, rfl, _, _, rfl, rfl, _, rfl, ?_⟩
    by_cases h : 33 ≤ c
    · rw [decide_eq_true h, Bool.true_and] at q
      rw [decide_eq_true (show (33 : Int) ≤ (c : Nat) by omega)]
      refine iteT ⟨_, _, rfl, rfl, ?_⟩
      have e2 : decide (((c : Nat) : Int) ≤ 126) = decide (c ≤ 126) := by rw [Bool.eq_iff_iff]; simp; omega
      show Q (.bl (decide (((c : Nat) : Int) ≤ 126))) H
      rw [e2]
      exact q
    · rw [decide_eq_false h, Bool.false_and] at q
      rw [decide_eq_false (show ¬ (33 : Int) ≤ (c : Nat) by omega)]
      exact iteF q⟩
end
end Bd


end
/-! ## BdTreeC -/
section
namespace Bd
open PySem PySem.Spec PyProof.Rows
open L2
section
variable {w : World} {K : PySem.W.Frag} {mg : Str → Option Value} {base : Heap}
theorem drop_get {α : Type} {b : List α} {i : Nat} {c : α} (h : b[i]? = some c) : b.drop i = c :: b.drop (i + 1) := by
  obtain ⟨hi, e⟩ := List.getElem?_eq_some_iff.mp h
  rw [← e]; exact List.drop_eq_getElem_cons hi
theorem dN (i j : Nat) : decide (((i : Nat) : Int) = (j : Nat)) = decide (i = j) := by rw [Bool.eq_iff_iff]; simp; omega
theorem dNz (i k : Nat) (z : Int) (h : z = (k : Nat)) : decide (((i : Nat) : Int) = z) = decide (i = k) := by rw [h]; exact dN i k
abbrev sp_check : Sp := Sp1 fun u H Q E => ∃ (a : Addr) (b : List Nat), u = .ref a ∧ IL H a (iB b) ∧ b.length ≤ 4000 ∧ match chkB 0 0 b with
  | some e => ∀ H', Same H H' → errT E H' e.1 e.2
  | none => ∀ H', Same H H' → Q .non H'
abbrev n_check_bytes : List Str := ["data", "depth", "place", "byte"]
theorem sc_check_bytes : FnScope n_check_bytes ["data"] (defScope s_check_bytes) := ⟨rfl, rfl, rfl, by decide +kernel, rfl, by decide +kernel, by decide +kernel⟩
theorem d_check_bytes (T : Tx w K mg)  : Def w K mg base 3 "check_bytes" ["data"] (sp_check) :=
  mkDef1 T f_check_bytes rfl rfl sc_check_bytes rfl (fun _ _ _ _ _ _ us hl => match us, hl with | [_], _ => rfl) fun u cdv A outer s H Q E hr h =>
  ⟨_, (pss_cons (ps_set (i := 1) sc_check_bytes.nd rfl (Or.inl rfl) pe_int)
  (pss_cons (ps_for (passes_of rfl) rfl (pi_enum (by rfl) (T.fr_enumerate) (pa_cons (pv 0) pa_nil)) (pg_tup rfl (pgs_cons (pg_name (i := 2) sc_check_bytes.nd rfl (Or.inl rfl)) (pgs_cons (pg_name (i := 3) sc_check_bytes.nd rfl (Or.inl rfl)) pgs_nil))) (pss_cons (ps_if (pt_not (pt_val (pe_c (d_may_stand T) hr pz (pa_cons (pv 3) pa_nil)))) (pss_one (ps_err (g_TextFault T) rfl tz hr (pa_cons pe_int (pa_cons (pv 2) pa_nil)))) pss_nil)
  (pss_one (ps_if (pt_cmpR op_eq (pv 3) (pe_gi T.k_OPENING_trees) (nomark _)) (pss_cons (ps_if (pt_cmpR op_eq (pv 1) (pe_gi T.k_MOST_OPEN) (nomark _)) (pss_one (ps_err (g_TextFault T) rfl tz hr (pa_cons pe_int (pa_cons (pv 2) pa_nil)))) pss_nil)
  (pss_one (ps_set (i := 1) sc_check_bytes.nd rfl (Or.inl rfl) (pe_op op_add (pv 1) pe_int)))) (pss_one (ps_if (pt_cmpR op_eq (pv 3) (pe_gi T.k_CLOSING_trees) (nomark _)) (pss_cons (ps_if (pt_cmpR op_eq (pv 1) pe_int (nomark _)) (pss_one (ps_err (g_TextFault T) rfl tz hr (pa_cons pe_int (pa_cons (pv 2) pa_nil)))) pss_nil)
  (pss_one (ps_set (i := 1) sc_check_bytes.nd rfl (Or.inl rfl) (pe_op op_sub (pv 1) pe_int)))) pss_nil))))))
  (pss_one (ps_if (pt_cmpR op_gt (pv 1) pe_int (nomark _)) (pss_one (ps_err (g_TextFault T) rfl tz hr (pa_cons pe_int (pa_cons (pe_callB call_len_seq (by rfl) T.fr_len (by decide +kernel) (pa_cons (pv 0) pa_nil)) pa_nil)))) pss_nil)))), by
  obtain ⟨a, b, rfl, ha, hb, q⟩ := h
  have hl : ((iB b).map V.int).length = b.length := by rw [List.length_map, iB_len]
  refine k_sset ⟨_, rfl, a, _, rfl, .inl (.inl ha), ?_⟩
  refine for_it (walk_enum (xs := (iB b).map V.int)) (fun i σ H' => ∃ d o2 o3, Same H H' ∧ d ≤ 20 ∧ chkB 0 0 b = chkB i d (b.drop i) ∧ σ = [some (.ref a), some (.int (d : Nat)), o2, o3]) ⟨0, _, _, .refl H, by decide, rfl, rfl⟩ (fun i σ H' _ ⟨_, _, _, s, _⟩ => .inl (.inl (s _ _ ha))) (fun i x σ H1 H2 hi ⟨d, o2, o3, s1, hd, hck, es⟩ y => ?_) fun σ H' ⟨d, o2, o3, s1, hd, hck, es⟩ => ?_
  · subst es
    obtain ⟨Tp, x1, y1, rfl, hT, rfl, hx1, hy1⟩ := y
    cases hx1
    obtain ⟨c, hc, rfl⟩ := vB_get hy1
    rw [drop_get hc, chkB] at hck
    have s2 := Same.trans s1 (Same.new (o := .tup [.int (i : Nat), .int (c : Nat)]) hT)
    have fault : ∀ (k : Nat), chkB 0 0 b = some (k, i) → errT E (L2.upd H1 Tp (.tup [.int (i : Nat), .int (c : Nat)])) k i := fun k e => by rw [e] at q; exact q _ s2
    refine ⟨Tp, _, rfl, .inl (.inl upd_same), rfl, _, _, rfl, _, _, rfl, rfl, ?_⟩
    refine k_sifN ⟨_, rfl, _, rfl, c, rfl, _, rfl, ?_⟩
    cases hm : mayB c with
    | false =>
      rw [if_pos hm] at hck
      exact iteT ⟨_, rfl, rfl, fault 1 hck⟩
    | true =>
      rw [if_neg (by rw [hm]; exact fun z => nomatch z)] at hck
      refine iteF (k_if ⟨_, rfl, rfl, _, rfl, ?_⟩)
      rw [dI, dNz c 40 40 rfl]
      by_cases h40 : c = 40
      · rw [decide_eq_true h40]
        rw [if_pos h40] at hck
        refine iteT (k_sifN ⟨_, rfl, rfl, _, rfl, ?_⟩)
        rw [dI, dNz d 20 20 rfl]
        by_cases h20 : d = 20
        · rw [decide_eq_true h20]
          rw [if_pos h20] at hck
          exact iteT ⟨_, rfl, rfl, fault 3 hck⟩
        · rw [decide_eq_false h20]
          rw [if_neg h20] at hck
          exact iteF ⟨_, rfl, _, _, rfl, rfl, d + 1, _, _, s2, by omega, hck, rfl⟩
      · rw [decide_eq_false h40]
        rw [if_neg h40] at hck
        refine iteF (k_if ⟨_, rfl, rfl, _, rfl, ?_⟩)
        rw [dI, dNz c 41 41 rfl]
        by_cases h41 : c = 41
        · rw [decide_eq_true h41]
          rw [if_pos h41] at hck
          refine iteT (k_sifN ⟨_, rfl, rfl, _, rfl, ?_⟩)
          rw [dI, dNz d 0 0 rfl]
          by_cases h0 : d = 0
          · rw [decide_eq_true h0]
            rw [if_pos h0] at hck
            exact iteT ⟨_, rfl, rfl, fault 2 hck⟩
          · rw [decide_eq_false h0]
            rw [if_neg h0] at hck
            refine iteF ⟨_, rfl, _, _, rfl, rfl, d - 1, some (.int (i : Nat)), some (.int (c : Nat)), s2, by omega, hck, ?_⟩
            rw [show (((d - 1 : Nat) : Nat) : Int) = (d : Int) - 1 by omega]
            rfl
        · rw [decide_eq_false h41]
          rw [if_neg h41] at hck
          exact iteF ⟨d, _, _, s2, hd, hck, rfl⟩
  · subst es
    rw [hl, List.drop_length, chkB] at hck
    refine ⟨_, rfl, _, _, rfl, rfl, _, rfl, ?_⟩
    by_cases h0 : 0 < d
    · rw [if_pos h0] at hck
      rw [hck] at q
      rw [decide_eq_true (by omega)]
      refine iteT ⟨_, rfl, a, _, rfl, .inl (.inl (.inl (s1 _ _ ha))), rfl, ?_⟩
      rw [hl]
      exact q _ s1
    · rw [if_neg h0] at hck
      rw [hck] at q
      rw [decide_eq_false (by omega)]
      exact iteF (q _ s1)⟩
/-- how long the word is that begins here -/
def wlen (l : List Nat) : Nat := (l.takeWhile wordB).length
abbrev sp_wend : Sp := Sp2 fun u v H Q _ => ∃ (a : Addr) (b : List Nat) (i : Nat), u = .ref a ∧ IL H a (iB b) ∧ b.length ≤ 4000 ∧ v = .int (i : Nat) ∧ i ≤ b.length ∧ Q (.int ((i + wlen (b.drop i) : Nat) : Int)) H
theorem wlen_cons (c : Nat) (r : List Nat) : wlen (c :: r) = if wordB c = true then wlen r + 1 else 0 := by
  unfold wlen
  rw [List.takeWhile_cons]
  split <;> rfl
abbrev n_word_end : List Str := ["data", "start", "end"]
theorem sc_word_end : FnScope n_word_end ["data", "start"] (defScope s_word_end) := ⟨rfl, rfl, rfl, by decide +kernel, rfl, by decide +kernel, by decide +kernel⟩
theorem d_word_end (T : Tx w K mg)  : Def w K mg base 2 "word_end" ["data", "start"] (sp_wend) :=
  mkDef2 T f_word_end rfl rfl sc_word_end rfl (fun _ _ _ _ _ _ us hl => match us, hl with | [_, _], _ => rfl) fun u v cdv A outer s H Q E hr h =>
  ⟨_, (pss_cons (ps_set (i := 2) sc_word_end.nd rfl (Or.inl rfl) (pv 1))
  (pss_cons (ps_while (passes_of rfl) (PW.pt (pw_and (pt_cmpR op_lt (pv 2) (pe_callB call_len_seq (by rfl) T.fr_len (by decide +kernel) (pa_cons (pv 0) pa_nil)) (nomark _)) (pw_and (pt_not (pt_val (pe_c (d_is_blank T) hr pz (pa_cons (pe_ix ix_list (pv 0) (pv 2) (fun _ _ => rfl)) pa_nil)))) (pw_and1 (pt_not (pt_val (pe_c (d_is_bracket T) hr pz (pa_cons (pe_ix ix_list (pv 0) (pv 2) (fun _ _ => rfl)) pa_nil)))))))) (pss_one (ps_set (i := 2) sc_word_end.nd rfl (Or.inl rfl) (pe_op op_add (pv 2) pe_int))))
  (pss_one (ps_ret (pv 2))))), by
  obtain ⟨a, b, i, rfl, ha, hb, rfl, hi, q⟩ := h
  have hl : ((iB b).map V.int).length = b.length := by rw [List.length_map, iB_len]
  have hq : SqL K H a ((iB b).map V.int) := .inl (.inl ha)
  refine k_sset ⟨_, rfl, ?_⟩
  refine ⟨fun m σ H' => H' = H ∧ ∃ j, j ≤ b.length ∧ m = b.length - j ∧ i + wlen (b.drop i) = j + wlen (b.drop j) ∧ σ = [some (.ref a), some (.int (i : Nat)), some (.int (j : Nat))], ⟨_, rfl, i, hi, rfl, rfl, rfl⟩, fun m σ H' ⟨eH, j, hj, em, hw, es⟩ => ?_⟩
  · subst eH es
    by_cases hlt : j < b.length
    · have hc := List.getElem?_eq_getElem hlt
      have hcv := vB_at hc
      have hd := drop_get hc
      rw [hd, wlen_cons] at hw
      refine ⟨_, rfl, _, rfl, a, _, rfl, .inl hq, _, _, rfl, rfl, _, rfl, ?_⟩
      rw [decide_eq_true (by rw [hl]; omega)]
      refine iteT ⟨_, rfl, _, rfl, a, _, _, _, rfl, rfl, hq, atI_nat hcv, _, rfl, _, rfl, _, rfl, ?_⟩
      cases hb1 : Vbdcar.letBlank b[j] with
      | true =>
        have : wordB b[j] = false := by unfold wordB; rw [hb1]; rfl
        rw [this, if_neg (by simp)] at hw
        refine iteF ⟨_, rfl, ?_⟩
        rw [hw] at q
        exact q
      | false =>
        refine iteT ⟨_, rfl, _, rfl, a, _, _, _, rfl, rfl, hq, atI_nat hcv, _, rfl, _, rfl, _, rfl, ?_⟩
        cases hb2 : brkB b[j] with
        | true =>
          have : wordB b[j] = false := by unfold wordB; rw [hb2, Bool.not_true, Bool.and_false]
          rw [this, if_neg (by simp)] at hw
          rw [hw] at q
          exact iteF ⟨_, rfl, q⟩
        | false =>
          have : wordB b[j] = true := by unfold wordB; rw [hb1, hb2]; rfl
          rw [this, if_pos rfl] at hw
          exact iteT ⟨fun σ' H2 => ∃ m', m' < m ∧ (H2 = H' ∧ ∃ j, j ≤ b.length ∧ m' = b.length - j ∧ i + wlen (b.drop i) = j + wlen (b.drop j) ∧ σ' = [some (.ref a), some (.int (i : Nat)), some (.int (j : Nat))]), fun _ _ h => h, _, rfl, _, _, rfl, rfl, b.length - (j + 1), by omega, rfl, j + 1, hlt, rfl, by omega, rfl⟩
    · have ej : j = b.length := by omega
      subst ej
      refine ⟨_, rfl, _, rfl, a, _, rfl, .inl hq, _, _, rfl, rfl, _, rfl, ?_⟩
      rw [decide_eq_false (by rw [hl]; omega)]
      refine iteF ⟨_, rfl, ?_⟩
      rw [hw, List.drop_length] at q
      exact q⟩
end
end Bd


end
/-! ## BdChain -/
section
namespace Bd
open PySem PySem.Spec PyProof.Rows
open L2
/-! ## trees on the way: the lists of the open brackets, the innermost first -/
abbrev TsAt (I : Hp) (xs : List V) (l : List Vbdcar.Tree) : Prop := xs.length = l.length ∧ ∀ (i : Nat) x c, xs[i]? = some x → l[i]? = some c → TreeAt I x c
theorem TsAt.mono {I I' : Hp} {xs : List V} {l : List Vbdcar.Tree} (s : Same I I') (h : TsAt I xs l) : TsAt I' xs l := ⟨h.1, fun i x c a b => (h.2 i x c a b).mono s⟩
theorem TsAt.nil {I : Hp} : TsAt I [] [] := ⟨rfl, fun i x c a => by simp at a⟩
theorem TsAt.snoc {I : Hp} {xs : List V} {l : List Vbdcar.Tree} {v : V} {t : Vbdcar.Tree} (h : TsAt I xs l) (ht : TreeAt I v t) : TsAt I (xs ++ [v]) (l ++ [t]) := by
  refine ⟨by rw [List.length_append, List.length_append, h.1]; rfl, fun i x c a b => ?_⟩
  by_cases hi : i < xs.length
  · rw [List.getElem?_append_left hi] at a
    rw [List.getElem?_append_left (by rw [← h.1]; exact hi)] at b
    exact h.2 i x c a b
  · have hl := (List.getElem?_eq_some_iff.mp a).1
    simp at hl
    have e : i = xs.length := by omega
    have e2 : i = l.length := by rw [← h.1]; exact e
    rw [e, List.getElem?_append_right (Nat.le_refl _)] at a
    rw [e2, List.getElem?_append_right (Nat.le_refl _)] at b
    simp at a b
    subst a b
    exact ht
inductive Chn (I H : Hp) (N : Nat) : List V → List Addr → Vbdcar.Open → List Vbdcar.Tree → Prop where
  | base {L : Addr} {xs ch : List V} {done : List Vbdcar.Tree} (hl : H L = some (.lst (xs ++ ch))) (ht : TsAt I xs done.reverse) (hz : xs.length ≤ N) : Chn I H N ch [L] [] done
  | more {L T dx d : Addr} {Ls : List Addr} {xs ch : List V} {n : Nat} {l done : List Vbdcar.Tree} {o : Vbdcar.Open} (hl : H L = some (.lst (xs ++ ch))) (ht : TsAt I xs l.reverse) (hz : xs.length ≤ N)
      (hT : I T = some (.ins cTree dx (treeF n d (.ref L) (sB [])))) (rest : Chn I H N [.ref T] Ls o done) : Chn I H N ch (L :: Ls) ((n, l) :: o) done
theorem Chn.mono {I I' H H' : Hp} {N N' : Nat} (s : Same I I') (hN : N ≤ N') : ∀ {ch : List V} {Ls : List Addr} {o : Vbdcar.Open} {done : List Vbdcar.Tree}, Chn I H N ch Ls o done → (∀ L ∈ Ls, H' L = H L) → Chn I' H' N' ch Ls o done
  | _, _, _, _, .base hl ht hz, k => .base (by rw [k _ (by simp)]; exact hl) (ht.mono s) (by omega)
  | _, _, _, _, .more hl ht hz hT rest, k => .more (by rw [k _ (by simp)]; exact hl) (ht.mono s) (by omega) (s _ _ hT) (Chn.mono s hN rest fun L hL => k L (by simp [hL]))
theorem Chn.len {I H : Hp} {N : Nat} : ∀ {ch : List V} {Ls : List Addr} {o : Vbdcar.Open} {done : List Vbdcar.Tree}, Chn I H N ch Ls o done → Ls.length = o.length + 1
  | _, _, _, _, .base _ _ _ => rfl
  | _, _, _, _, .more _ _ _ _ rest => by rw [List.length_cons, List.length_cons, rest.len]
theorem Chn.all {I H : Hp} {N : Nat} : ∀ {ch : List V} {Ls : List Addr} {o : Vbdcar.Open} {done : List Vbdcar.Tree}, Chn I H N ch Ls o done → ∀ M ∈ Ls, ∃ ys, H M = some (.lst ys)
  | _, _, _, _, .base hl _ _, M, hM => by
    obtain rfl := List.mem_singleton.mp hM
    exact ⟨_, hl⟩
  | _, _, _, _, .more hl _ _ _ rest, M, hM => by
    rcases List.mem_cons.mp hM with rfl | hM
    · exact ⟨_, hl⟩
    · exact rest.all M hM
/-- the innermost list, as it stands -/
theorem Chn.top {I H : Hp} {N : Nat} {Ls : List Addr} {o : Vbdcar.Open} {done : List Vbdcar.Tree} (h : Chn I H N [] Ls o done) : ∃ L Ls' xs, Ls = L :: Ls' ∧ H L = some (.lst xs) ∧ xs.length ≤ N := by
  cases h with
  | base hl ht hz => exact ⟨_, _, _, rfl, by rw [List.append_nil] at hl; exact hl, hz⟩
  | more hl ht hz hT rest => exact ⟨_, _, _, rfl, by rw [List.append_nil] at hl; exact hl, hz⟩
/-- a tree is put into the innermost list -/
theorem Chn.push {I I' H H' : Hp} {N N' : Nat} {L : Addr} {Ls : List Addr} {o : Vbdcar.Open} {done : List Vbdcar.Tree} {xs : List V} {v : V} (h : Chn I H N [] (L :: Ls) o done) (s : Same I I') (hN : N ≤ N') (hl : H L = some (.lst xs)) (hl' : H' L = some (.lst (xs ++ [v]))) (k : ∀ M ∈ Ls, H' M = H M) : Chn I' H' N' [v] (L :: Ls) o done := by
  cases h with
  | base hl2 ht hz =>
    rw [List.append_nil, hl] at hl2
    cases hl2
    exact .base hl' (ht.mono s) (by omega)
  | more hl2 ht hz hT rest =>
    rw [List.append_nil, hl] at hl2
    cases hl2
    exact .more hl' (ht.mono s) (by omega) (s _ _ hT) (rest.mono s hN k)
/-- the child that stood at the end is a whole tree -/
theorem Chn.take {I H : Hp} {N : Nat} {v : V} {t : Vbdcar.Tree} {Ls : List Addr} {o : Vbdcar.Open} {done : List Vbdcar.Tree} (h : Chn I H N [v] Ls o done) (ht : TreeAt I v t) : Chn I H (N + 1) [] Ls (pushT o done t).1 (pushT o done t).2 := by
  cases h with
  | @base L xs _ _ hl hs hz =>
    refine .base (xs := xs ++ [v]) (by rw [List.append_nil]; exact hl) ?_ (by rw [List.length_append, List.length_singleton]; omega)
    show TsAt I (xs ++ [v]) (t :: done).reverse
    rw [List.reverse_cons]
    exact hs.snoc ht
  | @more L T dx d Ls xs _ n l _ o hl hs hz hT rest =>
    refine .more (xs := xs ++ [v]) (by rw [List.append_nil]; exact hl) ?_ (by rw [List.length_append, List.length_singleton]; omega) hT (rest.mono (Same.refl I) (by omega) fun _ _ => rfl)
    show TsAt I (xs ++ [v]) (t :: l).reverse
    rw [List.reverse_cons]
    exact hs.snoc ht
/-- a bracket is closed -/
theorem Chn.shut {I I' H : Hp} {N : Nat} {x : Nat × List Vbdcar.Tree} {L : Addr} {Ls : List Addr} {y : Vbdcar.Open} {done : List Vbdcar.Tree} (h : Chn I H N [] (L :: Ls) (x :: y) done) (hN : N ≤ 4000) (s : Same I I') (hI : ∀ xs, H L = some (.lst xs) → I' L = some (.lst xs)) : Chn I' H (N + 1) [] Ls (shutT x y done).1 (shutT x y done).2 := by
  cases h with
  | @more _ T dx d _ xs _ n l _ o hl hs hz hT rest =>
    rw [List.append_nil] at hl
    refine (rest.mono s (Nat.le_refl _) fun _ _ => rfl).take (.node (s _ _ hT) (hI _ hl) ?_ (by omega) fun i a c h1 h2 => ?_)
    · rw [tlist_of, hs.1]
    · rw [tlist_of] at h2
      exact (hs.2 i a c h1 h2).mono s
theorem Chn.done {I H : Hp} {N : Nat} {Ls : List Addr} {done : List Vbdcar.Tree} (h : Chn I H N [] Ls [] done) : ∃ L xs, Ls = [L] ∧ H L = some (.lst xs) ∧ TsAt I xs done.reverse ∧ xs.length ≤ N := by
  cases h with
  | base hl ht hz => exact ⟨_, _, rfl, by rw [List.append_nil] at hl; exact hl, ht, hz⟩
theorem cutMid {xs : List V} {n m : Nat} (h : n ≤ m) (hm : m ≤ xs.length) : cutV xs (some (n : Int)) (some (m : Int)) = (xs.drop n).take (m - n) := by
  have e : ∀ k d : Nat, k ≤ xs.length → HT.sIx xs.length d (some (k : Int)) = k := by
    intro k d hk
    unfold HT.sIx
    simp
    split <;> omega
  unfold cutV
  rw [e n 0 (by omega), e m xs.length hm]
theorem letByte_wordB {c : Nat} (h : Vbdcar.letByte c = true) : wordB c = true := by
  have hm : mayB c = true := by
    unfold Vbdcar.letByte at h; unfold mayB
    simp only [Bool.and_eq_true, decide_eq_true_eq] at h
    rw [decide_eq_true h.1.1, decide_eq_true h.1.2]; simp
  rw [← letByte_word hm]; exact h
/-- the word that begins a text, and the rest -/
theorem word_split (l : List Nat) : ∃ u, l = u ++ l.drop (wlen l) ∧ u.length = wlen l ∧ (∀ c ∈ u, wordB c = true) ∧ (∀ c r, l.drop (wlen l) = c :: r → wordB c = false) := by
  refine ⟨l.takeWhile wordB, ?_, rfl, ?_, ?_⟩
  · have h1 := List.takeWhile_append_dropWhile (p := wordB) (l := l)
    have h2 : l.drop (wlen l) = l.dropWhile wordB := by
      have h3 : ∀ a b : List Nat, (a ++ b).drop a.length = b := fun a b => List.drop_left
      have := h3 (l.takeWhile wordB) (l.dropWhile wordB)
      rw [h1] at this
      exact this
    rw [h2]; exact h1.symm
  · intro c hc
    induction l with
    | nil => simp at hc
    | cons a r ih =>
      rw [List.takeWhile_cons] at hc
      split at hc
      · rcases List.mem_cons.mp hc with rfl | hc
        · assumption
        · exact ih hc
      · simp at hc
  · intro c r e
    induction l with
    | nil => simp at e
    | cons a q ih =>
      rw [wlen_cons] at e
      split at e
      · rw [List.drop_succ_cons] at e; exact ih e
      · rename_i hw
        rw [List.drop_zero] at e
        cases e
        simpa using hw
end Bd

end
/-! ## BdTreeD -/
section
namespace Bd
open PySem PySem.Spec PyProof.Rows
open L2
structure TrSt (I H : Hp) (D1 D2 : Addr) (b : List Nat) (ts : List Vbdcar.Tree) (i : Nat) (I' H' : Hp) (Ls : List Addr) (o : Vbdcar.Open) (done : List Vbdcar.Tree) : Prop where
  le : i ≤ b.length
  ext : Ext I H I' H'
  chk : chkB i o.length (b.drop i) = none
  tr : Vbdcar.trees i o done none (b.drop i) = .ok ts
  chn : Chn I' H' i [] Ls o done
  nd : Ls.Nodup
  new : ∀ L ∈ Ls, I' L = none ∧ H L = none
  d2 : D2 ∉ Ls ∧ I' D2 = none ∧ H D2 = none
  rows : H' D2 = some (.lst (Ls.reverse.map V.ref))
  last : Ls.getLast? = some D1
  ho : o.length ≤ 20
/-- the last of the rows -/
theorem rows_last (L : Addr) (Ls : List Addr) : atI ((L :: Ls).reverse.map V.ref) (((((L :: Ls).reverse.map V.ref).length : Nat) : Int) - 1) = some (.ref L) := by
  have hl : ((L :: Ls).reverse.map V.ref).length = Ls.length + 1 := by simp
  rw [hl, show (((Ls.length + 1 : Nat) : Int) - 1) = ((Ls.length : Nat) : Int) by omega]
  refine atI_nat ?_
  rw [List.reverse_cons, List.map_append, List.getElem?_append_right (by simp)]
  simp
theorem Same.made {Hb H3 : Hp} {x dx : Addr} {o0 o1 o2 o3 : HO} (hx : Hb x = none) (hdx : Hb dx = none) (s : Same (upd (upd (upd Hb dx o0) x o1) x o2) H3) : Same Hb (upd H3 x o3) := fun c u e => by
  have c1 : c ≠ x := ne_of_none e hx
  have c2 : c ≠ dx := ne_of_none e hdx
  rw [upd_ne c1]
  exact s c u (by rw [upd_ne c1, upd_ne c1, upd_ne c2]; exact e)
section
variable {w : World} {K : PySem.W.Frag} {mg : Str → Option Value} {base : Heap}
abbrev sp_trees : Sp := Sp1 fun u H Q E => ∃ (I : Hp) (a : Addr) (b : List Nat), Same I H ∧ u = .ref a ∧ IL H a (iB b) ∧ b.length ≤ 4000 ∧ match Vbdcar.trees 0 [] [] none b with
  | .error e => ∀ H', Same H H' → errT E H' e.kind e.place
  | .ok ts => ∀ D xs I' H', Ext I H I' H' → I' D = some (.lst xs) → TsAt I' xs ts → xs.length ≤ 4000 → Q (.ref D) H'
abbrev n_trees_of : List Str := ["data", "found", "rows", "place", "end", "tree"]
theorem sc_trees_of : FnScope n_trees_of ["data"] (defScope s_trees_of) := ⟨rfl, rfl, rfl, by decide +kernel, rfl, by decide +kernel, by decide +kernel⟩
theorem d_trees_of (T : Tx w K mg)  : Def w K mg base 4 "trees_of" ["data"] (sp_trees) :=
  mkDef1 T f_trees_of rfl rfl sc_trees_of rfl (fun _ _ _ _ _ _ us hl => match us, hl with | [_], _ => rfl) fun u cdv A outer s H Q E hr h =>
  ⟨_, (pss_cons (ps_expr (pe_c (d_check_bytes T) hr pz (pa_cons (pv 0) pa_nil)))
  (pss_cons (ps_set (i := 1) sc_trees_of.nd rfl (Or.inl rfl) (pe_lst pa_nil))
  (pss_cons (ps_set (i := 2) sc_trees_of.nd rfl (Or.inl rfl) (pe_lst (pa_cons (pv 1) pa_nil)))
  (pss_cons (ps_set (i := 3) sc_trees_of.nd rfl (Or.inl rfl) pe_int)
  (pss_cons (ps_while (passes_of rfl) (pt_cmpR op_lt (pv 3) (pe_callB call_len_seq (by rfl) T.fr_len (by decide +kernel) (pa_cons (pv 0) pa_nil)) (nomark _)) (pss_cons (ps_set (i := 4) sc_trees_of.nd rfl (Or.inl rfl) (pe_op op_add (pv 3) pe_int))
  (pss_cons (ps_if (pt_cmpR op_eq (pe_ix ix_list (pv 0) (pv 3) (fun _ _ => rfl)) (pe_gi T.k_OPENING_trees) (nomark _)) (pss_cons (ps_set (i := 5) sc_trees_of.nd rfl (Or.inl rfl) (pe_mk (m_Tree T) hr pz (pa_cons (pv 3) (pa_cons (pe_lst pa_nil) (pa_cons (pe_lst pa_nil) pa_nil)))))
  (pss_cons (ps_expr (pe_bm PySem.F.plainAttrs_list PySem.F.slot_list_append PySem.F.type_list_append mt_append (pe_ix ix_list (pv 2) (pe_op op_sub (pe_callB call_len_seq (by rfl) T.fr_len (by decide +kernel) (pa_cons (pv 2) pa_nil)) pe_int) (fun _ _ => rfl)) (pa_cons (pv 5) pa_nil)))
  (pss_one (ps_expr (pe_bm PySem.F.plainAttrs_list PySem.F.slot_list_append PySem.F.type_list_append mt_append (pv 2) (pa_cons (pe_fld (pv 5) rfl) pa_nil)))))) (pss_one (ps_if (pt_cmpR op_eq (pe_ix ix_list (pv 0) (pv 3) (fun _ _ => rfl)) (pe_gi T.k_CLOSING_trees) (nomark _)) (pss_one (ps_expr (pe_bm0 PySem.F.plainAttrs_list PySem.F.slot_list_pop PySem.F.type_list_pop mt_pop (pv 2)))) (pss_one (ps_if (pt_not (pt_val (pe_c (d_is_blank T) hr pz (pa_cons (pe_ix ix_list (pv 0) (pv 3) (fun _ _ => rfl)) pa_nil)))) (pss_cons (ps_set (i := 4) sc_trees_of.nd rfl (Or.inl rfl) (pe_c (d_word_end T) hr pz (pa_cons (pv 0) (pa_cons (pv 3) pa_nil))))
  (pss_one (ps_expr (pe_bm PySem.F.plainAttrs_list PySem.F.slot_list_append PySem.F.type_list_append mt_append (pe_ix ix_list (pv 2) (pe_op op_sub (pe_callB call_len_seq (by rfl) T.fr_len (by decide +kernel) (pa_cons (pv 2) pa_nil)) pe_int) (fun _ _ => rfl)) (pa_cons (pe_mk (m_Tree T) hr pz (pa_cons (pv 3) (pa_cons (pe_slice sl_list (pv 0) (po_some (pv 3)) (po_some (pv 4))) (pa_cons pe_non pa_nil)))) pa_nil))))) pss_nil)))))
  (pss_one (ps_set (i := 3) sc_trees_of.nd rfl (Or.inl rfl) (pv 4))))))
  (pss_one (ps_ret (pv 1)))))))), by
  obtain ⟨I, a, b, sI, rfl, ha, hb, q⟩ := h
  have hl : ((iB b).map V.int).length = b.length := by rw [List.length_map, iB_len]
  have hck := trees_chk b 0 [] [] none (by decide)
  cases hk : chkB 0 0 b with
  | some e =>
    rw [show chkB 0 ([] : Vbdcar.Open).length b = some e from hk] at hck
    replace hck : Vbdcar.trees 0 [] [] none b = .error ⟨e.2, e.1⟩ := hck
    rw [hck] at q
    refine ⟨_, rfl, _, rfl, a, b, rfl, ha, hb, ?_⟩
    rw [hk]
    exact q
  | none =>
  rw [show chkB 0 ([] : Vbdcar.Open).length b = none from hk] at hck
  obtain ⟨ts, ht⟩ := hck
  rw [ht] at q
  refine ⟨_, rfl, _, rfl, a, b, rfl, ha, hb, ?_⟩
  rw [hk]
  intro H1 s1
  refine ⟨by rw [sizeLine_eq]; exact Nat.zero_le _, fun D1 hD1 => ?_⟩
  refine ⟨_, rfl, by rw [sizeLine_eq]; show 1 ≤ _; decide, fun D2 hD2 => ?_⟩
  have n21 : D2 ≠ D1 := fun e => by rw [e, upd_same] at hD2; cases hD2
  have f1 : H D1 = none := s1.free hD1
  have f2 : H D2 = none := s1.free ((Same.new hD1).free hD2)
  have x0 : Ext I H I (L2.upd (L2.upd H1 D1 (.lst [])) D2 (.lst [.ref D1])) := ((Ext.all sI s1).tmp hD1).tmp hD2
  refine ⟨fun m σ H' => ∃ (i : Nat) (I' : Hp) (Ls : List Addr) (o : Vbdcar.Open) (done : List Vbdcar.Tree) (o4 o5 : Option V), m = b.length - i ∧ TrSt I H D1 D2 b ts i I' H' Ls o done ∧ σ = [some (.ref a), some (.ref D1), some (.ref D2), some (.int (i : Nat)), o4, o5], ⟨_, 0, I, [D1], [], [], _, _, rfl, ⟨Nat.zero_le _, x0, hk, ht, .base (xs := []) (by rw [upd_ne (Ne.symm n21)]; exact upd_same) TsAt.nil (Nat.le_refl _), by simp, fun L hL => ?_, ⟨by simpa using n21, sI.free f2, f2⟩, upd_same, rfl, by decide⟩, rfl⟩, ?_⟩
  · obtain rfl : L = D1 := by simpa using hL
    exact ⟨sI.free f1, f1⟩
  rintro m σ H' ⟨i, I', Ls, o, done, o4, o5, em, S, es⟩
  subst es
  have hq : SqL K H' a ((iB b).map V.int) := .inl (.inl (S.ext.hh _ _ ha))
  refine ⟨_, rfl, _, rfl, a, _, rfl, .inl hq, _, _, rfl, rfl, _, rfl, ?_⟩
  by_cases hlt : i < b.length
  · rw [decide_eq_true (by rw [hl]; omega)]
    refine iteT ⟨fun σ' H2 => ∃ m', m' < m ∧ ∃ (i : Nat) (I' : Hp) (Ls : List Addr) (o : Vbdcar.Open) (done : List Vbdcar.Tree) (o4 o5 : Option V), m' = b.length - i ∧ TrSt I H D1 D2 b ts i I' H2 Ls o done ∧ σ' = [some (.ref a), some (.ref D1), some (.ref D2), some (.int (i : Nat)), o4, o5], fun _ _ h => h, ?_⟩
    have hc := List.getElem?_eq_getElem hlt
    generalize hcc : b[i] = c at hc
    have hcv := vB_at hc
    have hd := drop_get hc
    have chk := S.chk
    have tr := S.tr
    rw [hd] at chk tr
    rw [chkB] at chk
    obtain ⟨L, Ls', xs, rfl, hL, hxl⟩ := S.chn.top
    have hLn := S.new L (by simp)
    have nd := List.nodup_cons.mp S.nd
    have nL2 : L ≠ D2 := fun e => S.d2.1 (by rw [e]; simp)
    have hll := S.chn.len
    have ho := S.ho
    refine k_sset ⟨_, rfl, _, _, rfl, rfl, ?_⟩
    refine k_sif ⟨_, rfl, _, rfl, a, _, _, _, rfl, rfl, hq, atI_nat hcv, rfl, _, rfl, ?_⟩
    rw [dI, dNz c 40 40 rfl]
    cases hm : mayB c with
    | false => rw [if_pos hm] at chk; cases chk
    | true =>
    rw [if_neg (by rw [hm]; exact fun z => nomatch z)] at chk
    by_cases h40 : c = 40
    · rw [decide_eq_true h40]
      rw [if_pos h40] at chk
      subst h40
      rw [trees_open] at tr
      by_cases h20 : o.length = 20
      · rw [if_pos h20] at chk; cases chk
      · rw [if_neg h20] at chk
        rw [if_neg (by omega)] at tr
        refine iteT (k_sset ⟨_, rfl, by rw [sizeLine_eq]; exact Nat.zero_le _, fun d hdn => ⟨by rw [sizeLine_eq]; exact Nat.zero_le _, fun li hli => fun x dx hx hdx hne => ⟨_, _, _, _, rfl, x, dx, d, i, [], rfl, rfl, rfl, ?_, by simp, upd_same, fun H3 s3 => ⟨rfl, ?_⟩⟩⟩⟩)
        · have ndl : d ≠ li := ne_of_none upd_same hli
          have hBd : (L2.upd (L2.upd H' d (.lst [])) li (.lst [])) d = some (.lst []) := by rw [upd_ne ndl]; exact upd_same
          have ndx : d ≠ x := ne_of_none hBd hx
          have nddx : d ≠ dx := ne_of_none hBd hdx
          rw [IL, upd_ne ndx, upd_ne nddx]
          exact hBd
        · have ndl : d ≠ li := ne_of_none upd_same hli
          have hBl : (L2.upd (L2.upd H' d (.lst [])) li (.lst [])) li = some (.lst []) := upd_same
          have sMd := Same.made (o3 := .ins cTree dx (treeF i d (.ref li) (sB []))) hx hdx s3
          have eB := (S.ext.tmp (o := .lst []) hdn).tmp (o := .lst []) hli
          have sHB : Same H' (L2.upd (L2.upd H' d (.lst [])) li (.lst [])) := Same.trans (Same.new hdn) (Same.new hli)
          have hli' : H' li = none := (Same.new hdn).free hli
          rw [show lettersB [] = [] from rfl]
          have hx4 : (L2.upd H3 x (.ins cTree dx (treeF i d (.ref li) (sB [])))) x = some (.ins cTree dx (treeF i d (.ref li) (sB []))) := upd_same
          generalize L2.upd H3 x (.ins cTree dx (treeF i d (.ref li) (sB []))) = H4 at sMd hx4 ⊢
          have e4 := eB.trans (Ext.all eB.ih sMd)
          have e5 := e4.frz (eB.hh.free hx) (eB.ih.free hx) hx4
          have sAll : Same H' H4 := Same.trans sHB sMd
          have hL4 := sAll _ _ hL
          have rows4 := sAll _ _ S.rows
          have li4 := sMd _ _ hBl
          have nLx : L ≠ x := ne_of_none (sHB _ _ hL) hx
          have n2x : D2 ≠ x := ne_of_none (sHB _ _ S.rows) hx
          have nlx : li ≠ x := ne_of_none hBl hx
          have nlL : li ≠ L := fun e => by rw [e, hL] at hli'; cases hli'
          have nl2 : li ≠ D2 := fun e => by rw [e, S.rows] at hli'; cases hli'
          have lt1 : xs.length < sizeLine := by rw [sizeLine_eq]; omega
          have lt2 : ((L :: Ls').reverse.map V.ref).length < sizeLine := by rw [List.length_map, List.length_reverse, hll, sizeLine_eq]; omega
          refine ⟨_, rfl, _, rfl, D2, _, rfl, .inl (.inl (.inl rows4)), _, _, rfl, rfl, D2, _, _, _, rfl, rfl, .inl (.inl rows4), rows_last L Ls', .inl ⟨rfl, _, .inl (.inl hL4)⟩, _, rfl, L, _, _, rfl, rfl, hL4, lt1, ?_⟩
          have rows5 : (L2.upd H4 L (.lst (xs ++ [.ref x]))) D2 = some (.lst ((L :: Ls').reverse.map V.ref)) := by rw [upd_ne (Ne.symm nL2)]; exact rows4
          have hx5 : (L2.upd H4 L (.lst (xs ++ [.ref x]))) x = some (.ins cTree dx (treeF i d (.ref li) (sB []))) := by rw [upd_ne (Ne.symm nLx)]; exact hx4
          refine ⟨_, rfl, .inl ⟨rfl, _, .inl (.inl rows5)⟩, _, rfl, x, _, dx, _, _, rfl, hx5, T.c_Tree, T.n_Tree_inner, rfl, D2, _, _, rfl, rfl, rows5, lt2, ?_⟩
          have iL5 : (L2.upd I' x (.ins cTree dx (treeF i d (.ref li) (sB [])))) L = none := by rw [upd_ne nLx]; exact hLn.1
          have i25 : (L2.upd I' x (.ins cTree dx (treeF i d (.ref li) (sB [])))) D2 = none := by rw [upd_ne n2x]; exact S.d2.2.1
          refine ⟨_, rfl, b.length - (i + 1), by omega, i + 1, _, li :: L :: Ls', (i, []) :: o, done, _, _, rfl, ⟨hlt, (e5.mut hLn.2 iL5).mut S.d2.2.2 i25, chk, tr, ?_, ?_, fun M hM => ?_, ⟨?_, i25, S.d2.2.2⟩, ?_, ?_, by simp; omega⟩, rfl⟩
          · refine .more (xs := []) (by rw [upd_ne nl2, upd_ne nlL]; exact li4) TsAt.nil (Nat.zero_le _) upd_same (S.chn.push (Same.new (eB.ih.free hx)) (Nat.le_succ i) hL (by rw [upd_ne nL2]; exact upd_same) fun M hM => ?_)
            have nM2 : M ≠ D2 := fun e => S.d2.1 (by rw [← e]; simp [hM])
            have nML : M ≠ L := fun e => nd.1 (by rw [← e]; exact hM)
            obtain ⟨ys, hM1⟩ := S.chn.all M (by simp [hM])
            rw [upd_ne nM2, upd_ne nML, hM1]
            exact sAll _ _ hM1
          · refine List.nodup_cons.mpr ⟨fun hM => ?_, S.nd⟩
            obtain ⟨ys, hM1⟩ := S.chn.all li hM
            rw [hM1] at hli'; cases hli'
          · rcases List.mem_cons.mp hM with rfl | hM
            · exact ⟨by rw [upd_ne nlx]; exact S.ext.ih.free hli', S.ext.hh.free hli'⟩
            · obtain ⟨ys, hM1⟩ := S.chn.all M hM
              have nMx : M ≠ x := ne_of_none (sHB _ _ hM1) hx
              exact ⟨by rw [upd_ne nMx]; exact (S.new M hM).1, (S.new M hM).2⟩
          · intro hM
            rcases List.mem_cons.mp hM with e | hM
            · exact nl2 e.symm
            · exact S.d2.1 hM
          · rw [upd_same]
            simp
          · rw [List.getLast?_cons_cons]; exact S.last
    · rw [decide_eq_false h40]
      rw [if_neg h40] at chk
      refine iteF (k_if ⟨_, rfl, _, rfl, a, _, _, _, rfl, rfl, hq, atI_nat hcv, rfl, _, rfl, ?_⟩)
      rw [dI, dNz c 41 41 rfl]
      by_cases h41 : c = 41
      · rw [decide_eq_true h41]
        rw [if_pos h41] at chk
        subst h41
        cases o with
        | nil => rw [if_pos (List.length_nil)] at chk; cases chk
        | cons z o2 =>
          rw [if_neg (by simp)] at chk
          rw [trees_shut] at tr
          have hz : ((L :: Ls').reverse.map V.ref)[((L :: Ls').reverse.map V.ref).length - 1]? = some (.ref L) := by
            rw [List.length_map, List.length_reverse, List.reverse_cons, List.map_append, List.getElem?_append_right (by simp)]
            simp
          refine iteT ⟨_, rfl, .inl ⟨rfl, _, .inl (.inl S.rows)⟩, D2, _, _, rfl, rfl, S.rows, hz, ?_⟩
          have e5 := S.ext.frz hLn.2 hLn.1 hL
          have i25 : (L2.upd I' L (.lst xs)) D2 = none := by rw [upd_ne (Ne.symm nL2)]; exact S.d2.2.1
          have hsh := (S.chn.shut (by omega) (Same.new hLn.1) fun ys hy => by rw [hL] at hy; cases hy; exact upd_same)
          have hlen : Ls'.length = o2.length + 1 := by simp at hll; omega
          refine ⟨_, rfl, b.length - (i + 1), by omega, i + 1, _, Ls', (shutT z o2 done).1, (shutT z o2 done).2, _, _, rfl, ⟨hlt, e5.mut S.d2.2.2 i25, ?_, tr, hsh.mono (Same.refl _) (Nat.le_refl _) fun M hM => upd_ne (fun e => S.d2.1 (by rw [← e]; simp [hM])), nd.2, fun M hM => ?_, ⟨fun hM => S.d2.1 (by simp [hM]), i25, S.d2.2.2⟩, ?_, ?_, ?_⟩, rfl⟩
          · rw [shutT, push_len]; exact chk
          · have nML : M ≠ L := fun e => nd.1 (by rw [← e]; exact hM)
            exact ⟨by rw [upd_ne nML]; exact (S.new M (by simp [hM])).1, (S.new M (by simp [hM])).2⟩
          · rw [upd_same, List.reverse_cons, List.map_append]
            simp
          · have := S.last
            cases Ls' with
            | nil => simp at hlen
            | cons M Ms => rw [List.getLast?_cons_cons] at this; exact this
          · rw [shutT, push_len]; simp at ho; omega
      · rw [decide_eq_false h41]
        rw [if_neg h41] at chk
        refine iteF (k_if ⟨_, rfl, _, rfl, a, _, _, _, rfl, rfl, hq, atI_nat hcv, _, rfl, c, rfl, _, rfl, ?_⟩)
        cases hbl : Vbdcar.letBlank c with
        | true =>
          rw [trees_blank hbl] at tr
          exact iteF ⟨_, rfl, b.length - (i + 1), by omega, i + 1, _, L :: Ls', o, done, _, _, rfl, ⟨hlt, S.ext, chk, tr, S.chn.mono (Same.refl _) (Nat.le_succ i) fun _ _ => rfl, S.nd, S.new, S.d2, S.rows, S.last, S.ho⟩, rfl⟩
        | false =>
          have hwc : wordB c = true := by
            unfold wordB brkB
            rw [hbl, beq_eq_false_iff_ne.mpr h40, beq_eq_false_iff_ne.mpr h41]; rfl
          obtain ⟨u, hu, hul, huw, hur⟩ := word_split (b.drop i)
          have hwl : 1 ≤ wlen (b.drop i) := by rw [hd, wlen_cons, if_pos hwc]; omega
          have hwe : i + wlen (b.drop i) ≤ b.length := by
            have : (b.drop i).length = u.length + ((b.drop i).drop (wlen (b.drop i))).length := by
              conv => lhs; rw [hu]
              rw [List.length_append]
            rw [List.length_drop] at this
            omega
          generalize hj : i + wlen (b.drop i) = j at hwe
          have hrest : (b.drop i).drop (wlen (b.drop i)) = b.drop j := by rw [List.drop_drop, ← hj]
          rw [hrest] at hu hur
          have hchk0 := S.chk
          have htr0 := S.tr
          rw [hu] at hchk0 htr0
          obtain ⟨hlet, hchk1⟩ := chk_word u i o.length (b.drop j) huw hchk0
          have hne : u ≠ [] := fun e => by rw [e] at hul; simp at hul; omega
          rw [trees_word hne hlet fun d r e => by
            have := hur d r e
            cases hh : Vbdcar.letByte d with
            | false => rfl
            | true => rw [letByte_wordB hh] at this; cases this] at htr0
          have hij : i + u.length = j := by omega
          rw [hij] at htr0 hchk1
          have hcut : cutV ((iB b).map V.int) (some ((i : Nat) : Int)) (some ((j : Nat) : Int)) = (iB u).map V.int := by
            rw [cutMid (by omega) (by rw [hl]; exact hwe), ← List.map_drop, ← List.map_take, ← List.map_drop, ← List.map_take, hu]
            rw [show j - i = u.length by omega, List.take_left]
          refine iteT (k_sset ⟨_, rfl, _, rfl, _, _, rfl, a, b, i, rfl, S.ext.hh _ _ ha, hb, rfl, S.le, ?_⟩)
          rw [hj]
          refine ⟨_, rfl, _, rfl, D2, _, rfl, .inl (.inl (.inl S.rows)), _, _, rfl, rfl, D2, _, _, _, rfl, rfl, .inl (.inl S.rows), rows_last L Ls', .inl ⟨rfl, _, .inl (.inl hL)⟩, _, rfl, _, rfl, _, rfl, _, rfl, _, rfl, _, rfl, a, _, rfl, hq, fun d hdn => ?_⟩
          rw [hcut] at *
          have hBd : (L2.upd H' d (.lst ((iB u).map V.int))) d = some (.lst ((iB u).map V.int)) := upd_same
          have hu4 : u.length ≤ 4000 := by omega
          refine fun x dx hx hdx hne2 => ⟨_, _, _, _, rfl, x, dx, d, i, u, rfl, rfl, rfl, ?_, hu4, upd_same, fun H3 s3 => ⟨rfl, ?_⟩⟩
          · rw [IL, upd_ne (ne_of_none hBd hx), upd_ne (ne_of_none hBd hdx)]
            exact hBd
          · have sMd := Same.made (o3 := .ins cTree dx (treeF i d .non (sB (lettersB u)))) hx hdx s3
            have eB := S.ext.new (o := .lst ((iB u).map V.int)) hdn
            have sHB : Same H' (L2.upd H' d (.lst ((iB u).map V.int))) := Same.new hdn
            have hx4 : (L2.upd H3 x (.ins cTree dx (treeF i d .non (sB (lettersB u))))) x = some (.ins cTree dx (treeF i d .non (sB (lettersB u)))) := upd_same
            generalize L2.upd H3 x (.ins cTree dx (treeF i d .non (sB (lettersB u)))) = H4 at sMd hx4 ⊢
            have e4 := eB.trans (Ext.all eB.ih sMd)
            have hxI : (L2.upd I' d (.lst ((iB u).map V.int))) x = none := eB.ih.free hx
            have e5 := e4.frz (eB.hh.free hx) hxI hx4
            have sAll : Same H' H4 := Same.trans sHB sMd
            have sI5 : Same I' (L2.upd (L2.upd I' d (.lst ((iB u).map V.int))) x (.ins cTree dx (treeF i d .non (sB (lettersB u))))) := Same.trans (Same.new (S.ext.ih.free hdn)) (Same.new hxI)
            have hL4 := sAll _ _ hL
            have nLx : L ≠ x := ne_of_none (sHB _ _ hL) hx
            have n2x : D2 ≠ x := ne_of_none (sHB _ _ S.rows) hx
            have nLd : L ≠ d := ne_of_none hL hdn
            have n2d : D2 ≠ d := ne_of_none S.rows hdn
            have ndx : d ≠ x := ne_of_none hBd hx
            have iM : ∀ M, M ≠ x → M ≠ d → (L2.upd (L2.upd I' d (.lst ((iB u).map V.int))) x (.ins cTree dx (treeF i d .non (sB (lettersB u))))) M = I' M := fun M h1 h2 => by rw [upd_ne h1, upd_ne h2]
            refine ⟨L, _, _, rfl, rfl, hL4, by rw [sizeLine_eq]; omega, _, rfl, b.length - j, by omega, j, _, L :: Ls', (pushT o done (.word i u)).1, (pushT o done (.word i u)).2, _, _, rfl, ⟨hwe, e5.mut hLn.2 (by rw [iM L nLx nLd]; exact hLn.1), ?_, htr0, ?_, S.nd, fun M hM => ?_, ⟨S.d2.1, by rw [iM D2 n2x n2d]; exact S.d2.2.1, S.d2.2.2⟩, ?_, S.last, ?_⟩, rfl⟩
            · rw [push_len]; exact hchk1
            · refine Chn.mono (Same.refl _) (show i + 1 ≤ j by omega) ((S.chn.push sI5 (Nat.le_refl i) hL upd_same fun M hM => ?_).take (.word upd_same (by rw [IL, upd_ne ndx]; exact upd_same) hu4 hne)) fun _ _ => rfl
              have nML : M ≠ L := fun e => nd.1 (by rw [← e]; exact hM)
              obtain ⟨ys, hM1⟩ := S.chn.all M (by simp [hM])
              rw [upd_ne nML, hM1]
              exact sAll _ _ hM1
            · obtain ⟨ys, hM1⟩ := S.chn.all M hM
              rw [iM M (ne_of_none (sHB _ _ hM1) hx) (ne_of_none hM1 hdn)]
              exact S.new M hM
            · rw [upd_ne (Ne.symm nL2)]
              exact sAll _ _ S.rows
            · rw [push_len]; exact ho
  · have hib : i = b.length := by have := S.le; omega
    rw [decide_eq_false (by rw [hl]; omega)]
    have chk := S.chk
    have tr := S.tr
    rw [hib, List.drop_length] at chk tr
    rw [chkB] at chk
    have ho : o = [] := by
      cases o with
      | nil => rfl
      | cons x y => rw [if_pos (by simp)] at chk; cases chk
    subst ho
    rw [trees_nil] at tr
    replace tr : Except.ok done.reverse = (Except.ok ts : Except Vbdcar.Wrong (List Vbdcar.Tree)) := tr
    cases tr
    obtain ⟨L, xs, rfl, hL, hts, hz⟩ := S.chn.done
    have hlast := S.last
    obtain rfl : L = D1 := by simpa using hlast
    obtain ⟨n1, n2⟩ := S.new L (by simp)
    have hle := S.le
    exact iteF ⟨_, rfl, q L xs _ _ (S.ext.frz n2 n1 hL) upd_same (hts.mono (Same.new n1)) (by omega)⟩⟩
end
end Bd


end
/-! ## BdShowP -/
section
namespace Bd
open Vbdcar (ascii bracket spaced shown shownAll)
abbrev Bts := List Nat
/-- the parts with a blank ahead of each but the first -/
def spc : List Bts → Bts
  | [] => []
  | x :: r => x ++ r.flatMap fun y => 32 :: y
theorem spaced_eq : ∀ l : List Bts, spaced l = spc l
  | [] => rfl
  | [x] => by simp [spaced, spc]
  | x :: y :: r => by
    rw [spaced, spaced_eq (y :: r)]
    · simp [spc]
    · intro z; cases z
theorem spc_snoc (l : List Bts) (y : Bts) : spc (l ++ [y]) = spc l ++ (if l = [] then y else 32 :: y) := by
  cases l with
  | nil => simp [spc]
  | cons x r => simp [spc]
theorem bracket_len (l : List Bts) : (bracket l).length = (spc l).length + 2 := by
  unfold bracket
  rw [spaced_eq]
  simp
theorem flat_le {x : Bts} : ∀ {l : List Bts}, x ∈ l → x.length ≤ (l.flatMap fun y => 32 :: y).length
  | y :: r, h => by
    rw [List.flatMap_cons, List.length_append, List.length_cons]
    rcases List.mem_cons.mp h with rfl | h
    · omega
    · have := flat_le h; omega
theorem spc_mem {l : List Bts} {x : Bts} (h : x ∈ l) : x.length ≤ (spc l).length := by
  cases l with
  | nil => simp at h
  | cons y r =>
    rw [spc, List.length_append]
    rcases List.mem_cons.mp h with rfl | h
    · omega
    · have := flat_le h; omega
theorem spc_take : ∀ (l : List Bts) (i : Nat), (spc (l.take i)).length ≤ (spc l).length := by
  intro l i
  cases l with
  | nil => simp
  | cons x r =>
    cases i with
    | zero => simp [spc]
    | succ i =>
      rw [List.take_succ_cons, spc, spc, List.length_append, List.length_append]
      have : ∀ (r : List Bts) (i : Nat), ((r.take i).flatMap fun y => 32 :: y).length ≤ (r.flatMap fun y => 32 :: y).length := by
        intro r
        induction r with
        | nil => intro i; simp
        | cons y q ih =>
          intro i
          cases i with
          | zero => simp
          | succ i =>
            rw [List.take_succ_cons, List.flatMap_cons, List.flatMap_cons, List.length_append, List.length_append]
            have := ih i
            omega
      have := this r i
      omega
/-- the words ahead of the parts -/
def headR : Exp → List Bts
  | .op o _ => [(Vbdcar.OPS.getD o ([], 0)).1]
  | .call f _ => [f]
  | .let_ x _ _ => [ascii "let", x]
  | .each x _ _ => [ascii "each", x]
  | .keep x _ _ => [ascii "keep", x]
  | .ite _ _ _ => [ascii "if"]
  | .and_ _ _ => [ascii "and"]
  | .or_ _ _ => [ascii "or"]
  | _ => []
theorem shownAll_list : ∀ l : Vbdcar.Exps, shownAll l = l.list.map shown
  | .nil => rfl
  | .cons e l => by rw [shownAll, shownAll_list l]; rfl
theorem shown_eq {e : Exp} (h : leaf e = false) : shown e = bracket (headR e ++ (innerOf e).map shown) := by
  cases e with
  | num _ => cases h
  | var _ => cases h
  | op o l => rw [shown, shownAll_list]; rfl
  | call f l => rw [shown, shownAll_list]; rfl
  | ite c a b => rw [shown]; rfl
  | let_ x a b => rw [shown]; rfl
  | each x a b => rw [shown]; rfl
  | keep x a b => rw [shown]; rfl
  | and_ a b => rw [shown]; rfl
  | or_ a b => rw [shown]; rfl
theorem shown_part {e c : Exp} (h : leaf e = false) (hc : c ∈ innerOf e) : (shown c).length ≤ (shown e).length := by
  rw [shown_eq h, bracket_len]
  have := spc_mem (l := headR e ++ (innerOf e).map shown) (List.mem_append_right _ (List.mem_map_of_mem hc))
  omega
theorem head_part {e : Exp} {x : Bts} (h : leaf e = false) (hc : x ∈ headR e) : x.length ≤ (shown e).length := by
  rw [shown_eq h, bracket_len]
  have := spc_mem (l := headR e ++ (innerOf e).map shown) (List.mem_append_left _ hc)
  omega
end Bd

end
/-! ## BdShow -/
section
namespace Bd
open PySem PySem.Spec PyProof.Rows
open L2
theorem ofS (s : String) : Str.ofString s = sB (Vbdcar.ascii s) := TL.ext_tl (TL.tl_ofString s)
/-- a new list of these bytes -/
abbrev RetB (I H : Hp) (Q : VK) (b : List Nat) : Prop := ∀ a I' H', Ext I H I' H' → IL I' a (iB b) → Q (.ref a) H'
abbrev BsAt (I : Hp) (xs : List V) (l : List Bts) : Prop := xs.length = l.length ∧ ∀ (i : Nat) x b, xs[i]? = some x → l[i]? = some b → ∃ p, x = .ref p ∧ IL I p (iB b)
theorem BsAt.mono {I I' : Hp} {xs : List V} {l : List Bts} (s : Same I I') (h : BsAt I xs l) : BsAt I' xs l := ⟨h.1, fun i x b h1 h2 => let ⟨p, e, q⟩ := h.2 i x b h1 h2; ⟨p, e, s _ _ q⟩⟩
theorem BsAt.append {I : Hp} {xs ys : List V} {l m : List Bts} (h : BsAt I xs l) (g : BsAt I ys m) : BsAt I (xs ++ ys) (l ++ m) := by
  refine ⟨by rw [List.length_append, List.length_append, h.1, g.1], fun i x b h1 h2 => ?_⟩
  by_cases hi : i < xs.length
  · rw [List.getElem?_append_left hi] at h1
    rw [List.getElem?_append_left (by rw [← h.1]; exact hi)] at h2
    exact h.2 i x b h1 h2
  · rw [List.getElem?_append_right (by omega)] at h1
    rw [List.getElem?_append_right (by rw [← h.1]; omega), ← h.1] at h2
    exact g.2 _ x b h1 h2
section
variable {w : World} {K : PySem.W.Frag} {mg : Str → Option Value} {base : Heap}
abbrev n_bytes_of : List Str := ["text", "sign"]
theorem sc_bytes_of : FnScope n_bytes_of ["text"] (defScope s_bytes_of) := ⟨rfl, rfl, rfl, by decide +kernel, rfl, by decide +kernel, by decide +kernel⟩
theorem d_bytes_of (T : Tx w K mg)  : Def w K mg base 1 "bytes_of" ["text"] (Sp1 fun u H Q _ => ∃ (I : Hp) (b : List Nat), Same I H ∧ u = .str (sB b) ∧ b.length ≤ 16000000 ∧ RetB I H Q b) :=
  mkDef1 T f_bytes_of rfl rfl sc_bytes_of rfl (fun _ _ _ _ _ _ us hl => match us, hl with | [_], _ => rfl) fun u cdv A outer s H Q E hr h =>
  ⟨_, (pss_one (ps_ret (pe_lc (own := [("sign", 1)]) (g := gName 1) (tt := tYes) rfl sc_bytes_of.nd (pi_str (pv 0)) (blkOk_by (N := n_bytes_of) (sc := defScope s_bytes_of) (by decide +kernel)) (fun _ _ _ _ _ => (pg_name (i := 1) sc_bytes_of.nd rfl (Or.inl rfl))) (fun _ _ _ _ _ => pts_nil) (fun _ _ _ _ _ => by exact (pe_callB call_ord (by rfl) T.fr_ord (by decide +kernel) (pa_cons (pv 1) pa_nil)))))), by
  obtain ⟨I, b, sI, rfl, hb, q⟩ := h
  have hz : (sB b).cps.size = b.length := by simp [sB]
  refine ⟨_, rfl, _, rfl, ?_⟩
  refine lc_it (walk_str (z := sB b)) (fun D i H' => H' = L2.upd H D (.lst ((iB (b.take i)).map V.int))) (fun D hD => rfl) (fun _ _ _ _ _ => True.intro) (fun D i x H1 H2 hD hi e y => ?_) fun D H1 hD e => ?_
  · obtain ⟨e2, c, hc, rfl⟩ := y
    subst e e2
    have hcb : b[i]? = some c := by
      have : (sB b).cps[i]? = b[i]? := by simp [sB]
      rw [← this]; exact hc
    refine ⟨rfl, _, rfl, _, rfl, by rfl, _, upd_same, ?_, ?_⟩
    · rw [List.length_map, iB_len, List.length_take, sizeLine_eq]; omega
    · rw [upd_upd, List.take_add_one, hcb]
      simp only [iB, Option.toList, List.map_append, List.map_cons, List.map_nil]
      rfl
  · subst e
    rw [hz, List.take_length]
    exact q D _ _ ((Ext.refl sI).new hD) upd_same⟩
abbrev sp_brackets : Sp := Sp1 fun u H Q _ => ∃ (I : Hp) (a : Addr) (xs : List V) (l : List Bts), Same I H ∧ u = .ref a ∧ H a = some (.lst xs) ∧ BsAt I xs l ∧ (Vbdcar.bracket l).length ≤ 16000000 ∧ RetB I H Q (Vbdcar.bracket l)
abbrev n_in_brackets : List Str := ["rows", "shown", "place", "row"]
theorem sc_in_brackets : FnScope n_in_brackets ["rows"] (defScope s_in_brackets) := ⟨rfl, rfl, rfl, by decide +kernel, rfl, by decide +kernel, by decide +kernel⟩
theorem d_in_brackets (T : Tx w K mg)  : Def w K mg base 1 "in_brackets" ["rows"] (sp_brackets) :=
  mkDef1 T f_in_brackets rfl rfl sc_in_brackets rfl (fun _ _ _ _ _ _ us hl => match us, hl with | [_], _ => rfl) fun u cdv A outer s H Q E hr h =>
  ⟨_, (pss_cons (ps_set (i := 1) sc_in_brackets.nd rfl (Or.inl rfl) (pe_lst (pa_cons (pe_gi T.k_OPENING_shown) pa_nil)))
  (pss_cons (ps_for (passes_of rfl) rfl (pi_enum (by rfl) (T.fr_enumerate) (pa_cons (pv 0) pa_nil)) (pg_tup rfl (pgs_cons (pg_name (i := 2) sc_in_brackets.nd rfl (Or.inl rfl)) (pgs_cons (pg_name (i := 3) sc_in_brackets.nd rfl (Or.inl rfl)) pgs_nil))) (pss_cons (ps_if (pt_cmpR op_gt (pv 2) pe_int (nomark _)) (pss_one (ps_expr (pe_bm PySem.F.plainAttrs_list PySem.F.slot_list_append PySem.F.type_list_append mt_append (pv 1) (pa_cons (pe_gi T.k_BLANK_shown) pa_nil)))) pss_nil)
  (pss_one (ps_expr (pe_bm PySem.F.plainAttrs_list PySem.F.slot_list_extend PySem.F.type_list_extend mt_extend (pv 1) (pa_cons (pv 3) pa_nil))))))
  (pss_cons (ps_expr (pe_bm PySem.F.plainAttrs_list PySem.F.slot_list_append PySem.F.type_list_append mt_append (pv 1) (pa_cons (pe_gi T.k_CLOSING_shown) pa_nil)))
  (pss_one (ps_ret (pv 1)))))), by
  obtain ⟨I, a, xs, l, sI, rfl, ha, hx, hz, q⟩ := h
  rw [bracket_len] at hz
  refine k_sset ⟨by rw [sizeLine_eq]; show 1 ≤ _; decide, fun D hD => ?_⟩
  have e0 := (Ext.refl sI).tmp (o := .lst [.int 40]) hD
  have iD := sI.free hD
  refine ⟨_, rfl, a, _, rfl, .inl (.inl (e0.hh _ _ ha)), ?_⟩
  refine for_it (walk_enum (xs := xs)) (fun i σ H' => ∃ o2 o3, Ext I H I H' ∧ IL H' D (iB (40 :: spc (l.take i))) ∧ σ = [some (.ref a), some (.ref D), o2, o3]) ⟨_, _, e0, upd_same, rfl⟩ (fun i σ H' _ ⟨_, _, e, _⟩ => .inl (.inl (e.hh _ _ ha))) (fun i x σ H1 H2 hi ⟨o2, o3, e1, hl, es⟩ y => ?_) fun σ H1 ⟨o2, o3, e1, hl, es⟩ => ?_
  · subst es
    obtain ⟨Tp, x1, y1, rfl, hT, rfl, hx1, hy1⟩ := y
    cases hx1
    obtain ⟨b, hb⟩ := get_of_len hx.1 hy1
    obtain ⟨p, rfl, hp⟩ := hx.2 i y1 b hy1 hb
    have e2 := e1.tmp (o := .tup [.int (i : Nat), .ref p]) hT
    have hl2 : IL (L2.upd H1 Tp (.tup [.int (i : Nat), .ref p])) D (iB (40 :: spc (l.take i))) := by rw [IL, upd_ne (ne_of_none hl hT)]; exact hl
    have hpD : p ≠ D := fun e => by rw [e, IL, iD] at hp; cases hp
    have hp2 : ∀ {o : HO}, (L2.upd (L2.upd H1 Tp (.tup [.int (i : Nat), .ref p])) D o) p = some (.lst ((iB b).map V.int)) := by intro o; rw [upd_ne hpD]; exact e2.ih _ _ hp
    have ht := spc_take l i
    have ht1 := spc_take l (i + 1)
    have htk : l.take (i + 1) = l.take i ++ [b] := by rw [List.take_add_one, hb]; rfl
    have hil : i < l.length := (List.getElem?_eq_some_iff.mp hb).1
    rw [htk, spc_snoc] at ht1 ⊢
    refine ⟨Tp, _, rfl, .inl (.inl upd_same), rfl, _, _, rfl, _, _, rfl, rfl, ?_⟩
    refine k_sifN ⟨_, rfl, _, _, rfl, rfl, _, rfl, ?_⟩
    by_cases h0 : 0 < i
    · have hne : l.take i ≠ [] := fun e => by have := congrArg List.length e; rw [List.length_take, List.length_nil] at this; omega
      rw [decide_eq_true (show (0 : Int) < (i : Nat) by omega)]
      rw [if_neg hne] at ht1 ⊢
      refine iteT ⟨_, rfl, .inl ⟨rfl, _, .inl (.inl hl2)⟩, D, _, _, rfl, rfl, hl2, by rw [List.length_map, iB_len, List.length_cons, sizeLine_eq]; omega, ?_⟩
      have e3 := e2.mut (o := .lst ((iB (40 :: spc (l.take i))).map V.int ++ [.int 32])) hD iD
      refine ⟨_, rfl, .inl ⟨rfl, _, .inl (.inl upd_same)⟩, _, rfl, D, p, _, _, rfl, rfl, upd_same, hp2, ?_, _, _, e3.mut hD iD, ?_, rfl⟩
      · simp only [List.length_append, List.length_map, List.length_cons, List.length_singleton, List.length_nil] at ht1 ⊢
        rw [sizeLine_eq]; omega
      · rw [IL, upd_same]
        simp [iB]
    · have hi0 : i = 0 := by omega
      subst hi0
      rw [decide_eq_false (by decide)]
      refine iteF ⟨_, rfl, .inl ⟨rfl, _, .inl (.inl hl2)⟩, _, rfl, D, p, _, _, rfl, rfl, hl2, e2.ih _ _ hp, ?_, _, _, e2.mut hD iD, ?_, rfl⟩
      · have hb2 := spc_mem (List.mem_of_getElem? hb)
        simp only [List.length_append, List.length_map, List.length_cons]
        rw [sizeLine_eq]
        simp [spc]; omega
      · rw [IL, upd_same]
        simp [iB, spc]
  · subst es
    rw [show xs.length = l.length from hx.1, List.take_length] at hl
    refine ⟨_, rfl, .inl ⟨rfl, _, .inl (.inl hl)⟩, D, _, _, rfl, rfl, hl, by rw [List.length_map, iB_len, List.length_cons, sizeLine_eq]; omega, ?_⟩
    have e3 := e1.mut (o := .lst ((iB (40 :: spc l)).map V.int ++ [.int 41])) hD iD
    refine ⟨_, rfl, q D _ _ (e3.frz hD iD upd_same) ?_⟩
    rw [IL, upd_same]
    unfold Vbdcar.bracket
    rw [spaced_eq]
    simp [iB]⟩
theorem sb_name : ∀ o < 21, sbV sbL (Str.ofString (opName o)) = (if o < 7 then some (((Vbdcar.OPS.getD o ([], 0)).1.headD 0 : Nat) : Int) else none) := by decide +kernel
theorem op_name : ∀ o < 21, (if o < 7 then (Vbdcar.OPS.getD o ([], 0)).1.length = 1 else Str.ofString (opName o) = sB (Vbdcar.OPS.getD o ([], 0)).1) := by decide +kernel
theorem op_small : ∀ o < 21, (Vbdcar.OPS.getD o ([], 0)).1.length ≤ 100 := by decide +kernel
theorem kindLit (e : Exp) (s : String) : decide (Str.ofString (kindOf e) = Str.ofString s) = decide (kindOf e = s) ∨ True := .inr True.intro
abbrev RetBs (I H : Hp) (Q : VK) (l : List Bts) : Prop := ∀ a xs I' H', Ext I H I' H' → I' a = some (.lst xs) → BsAt I' xs l → Q (.ref a) H'
theorem bs1 {I : Hp} {p : Addr} {b : Bts} (h : IL I p (iB b)) : BsAt I [.ref p] [b] := by
  refine ⟨rfl, fun i x c h1 h2 => ?_⟩
  cases i with
  | zero => cases h1; cases h2; exact ⟨p, rfl, h⟩
  | succ i => simp at h1
theorem bs2 {I : Hp} {p p2 : Addr} {b c : Bts} (h : IL I p (iB b)) (h2 : IL I p2 (iB c)) : BsAt I [.ref p, .ref p2] [b, c] := (bs1 h).append (bs1 h2)
theorem ret1 {I H I1 H1 : Hp} {Q : VK} {b : Bts} {p : Addr} (e : Ext I H I1 H1) (hp : IL I1 p (iB b)) (q : RetBs I H Q [b]) : ∀ d, H1 d = none → Q (.ref d) (upd H1 d (.lst [.ref p])) := fun d hd => q d _ _ _ (e.new hd) upd_same ((bs1 hp).mono (Same.new (e.ih.free hd)))
theorem ret2 {I H I1 H1 : Hp} {Q : VK} {b c : Bts} {p p2 : Addr} (e : Ext I H I1 H1) (hp : IL I1 p (iB b)) (hp2 : IL I1 p2 (iB c)) (q : RetBs I H Q [b, c]) : ∀ d, H1 d = none → Q (.ref d) (upd H1 d (.lst [.ref p, .ref p2])) := fun d hd => q d _ _ _ (e.new hd) upd_same ((bs2 hp hp2).mono (Same.new (e.ih.free hd)))
theorem one_le : ∀ v : V, [v].length ≤ sizeLine := fun v => by rw [sizeLine_eq]; show 1 ≤ _; decide
theorem two_le : ∀ v x : V, [v, x].length ≤ sizeLine := fun v x => by rw [sizeLine_eq]; show 2 ≤ _; decide
abbrev n_head_rows : List Str := ["expression", "kind"]
theorem sc_head_rows : FnScope n_head_rows ["expression"] (defScope s_head_rows) := ⟨rfl, rfl, rfl, by decide +kernel, rfl, by decide +kernel, by decide +kernel⟩
theorem d_head_rows (T : Tx w K mg)  : Def w K mg base 2 "head_rows" ["expression"] (Sp1 fun u H Q _ => ∃ (I : Hp) (e : Exp), Same I H ∧ ExpAt I u e ∧ FOk e ∧ leaf e = false ∧ (∀ x ∈ headR e, x.length ≤ 16000000) ∧ RetBs I H Q (headR e)) :=
  mkDef1 T f_head_rows rfl rfl sc_head_rows rfl (fun _ _ _ _ _ _ us hl => match us, hl with | [_], _ => rfl) fun u cdv A outer s H Q E hr h =>
  ⟨_, (pss_cons (ps_set (i := 1) sc_head_rows.nd rfl (Or.inl rfl) (pe_fld (pv 0) rfl))
  (pss_cons (ps_if (pt_cmpR op_eq (pv 1) pe_str (nomark _)) (pss_cons (ps_if (pt_cmpR (op_inSb T) (pe_fld (pv 0) rfl) (pe_gr T.k_SIGN_BYTES) (by rfl)) (pss_one (ps_ret (pe_lst (pa_cons (pe_lst (pa_cons (pe_itSb T (pe_fld (pv 0) rfl)) pa_nil)) pa_nil)))) pss_nil)
  (pss_one (ps_ret (pe_lst (pa_cons (pe_c (d_bytes_of T) hr pz (pa_cons (pe_fld (pv 0) rfl) pa_nil)) pa_nil))))) pss_nil)
  (pss_cons (ps_if (pt_cmpR op_eq (pv 1) pe_str (nomark _)) (pss_one (ps_ret (pe_lst (pa_cons (pe_c (d_bytes_of T) hr pz (pa_cons (pe_fld (pv 0) rfl) pa_nil)) pa_nil)))) pss_nil)
  (pss_cons (ps_if (PW.pt (pw_or (pt_cmpR op_eq (pv 1) pe_str (nomark _)) (pw_or (pt_cmpR op_eq (pv 1) pe_str (nomark _)) (pw_or1 (pt_cmpR op_eq (pv 1) pe_str (nomark _)))))) (pss_one (ps_ret (pe_lst (pa_cons (pe_c (d_bytes_of T) hr pz (pa_cons (pv 1) pa_nil)) (pa_cons (pe_c (d_bytes_of T) hr pz (pa_cons (pe_fld (pv 0) rfl) pa_nil)) pa_nil))))) pss_nil)
  (pss_one (ps_ret (pe_lst (pa_cons (pe_c (d_bytes_of T) hr pz (pa_cons (pv 1) pa_nil)) pa_nil)))))))), by
  obtain ⟨I, e, sI, hu, hf, hlf, hz, q⟩ := h
  obtain ⟨a, dx, li, ys, rfl, ha, _⟩ := hu.at
  have ha := sI _ _ ha
  refine k_sset ⟨_, rfl, a, _, dx, _, _, rfl, ha, T.c_Expression, T.n_Expression_kind, rfl, ?_⟩
  have E0 := Ext.refl sI
  cases e with
  | num _ => cases hlf
  | var _ => cases hlf
  | op o l =>
    have ho : o ≤ 20 := by cases hf with | mk _ h _ _ => exact arity_le (h o l rfl)
    refine k_sifN ⟨_, rfl, rfl, _, rfl, iteS (a := "operation") true (by decide +kernel) (iteT ?_)⟩
    refine k_sifN ⟨_, rfl, a, _, dx, _, _, rfl, ha, T.c_Expression, T.n_Expression_word, rfl, _, rfl, rfl, _, rfl, ?_⟩
    have hs := sb_name o (by omega)
    have hn := op_name o (by omega)
    rw [show wordOf (.op o l) = Str.ofString (opName o) from rfl, hs]
    by_cases h7 : o < 7
    · rw [if_pos h7] at hs hn ⊢
      refine iteT ⟨_, rfl, a, _, dx, _, _, rfl, ha, T.c_Expression, T.n_Expression_word, rfl, _, _, rfl, hs, one_le _, fun p hp => ⟨one_le _, ?_⟩⟩
      obtain ⟨c, hc⟩ := List.length_eq_one_iff.mp hn
      have q : RetBs I H Q [(Vbdcar.OPS.getD o ([], 0)).1] := q
      rw [hc] at q ⊢
      exact ret1 (E0.new hp) (show IL _ p (iB [c]) from upd_same) q
    · rw [if_neg h7] at hs hn ⊢
      refine iteF ⟨_, rfl, a, _, dx, _, _, rfl, ha, T.c_Expression, T.n_Expression_word, rfl, _, rfl, I, (Vbdcar.OPS.getD o ([], 0)).1, sI, congrArg V.str hn, ?_, fun p I1 H1 e1 hp => ⟨one_le _, ret1 e1 hp q⟩⟩
      have := op_small o (by omega)
      omega
  | call f l =>
    refine k_sifN ⟨_, rfl, rfl, _, rfl, iteS (a := "call") false (by decide +kernel) (iteF ?_)⟩
    refine k_sifN ⟨_, rfl, rfl, _, rfl, iteS (a := "call") true (by decide +kernel) (iteT ?_)⟩
    exact ⟨_, rfl, a, _, dx, _, _, rfl, ha, T.c_Expression, T.n_Expression_word, rfl, _, rfl, I, f, sI, rfl, hz f (by simp [headR]), fun p I1 H1 e1 hp => ⟨one_le _, ret1 e1 hp q⟩⟩
  | let_ x e1 e2 =>
    refine k_sifN ⟨_, rfl, rfl, _, rfl, iteS (a := "let") false (by decide +kernel) (iteF ?_)⟩
    refine k_sifN ⟨_, rfl, rfl, _, rfl, iteS (a := "let") false (by decide +kernel) (iteF ?_)⟩
    refine k_sifN ⟨_, rfl, rfl, _, rfl, iteS (a := "let") true (by decide +kernel) (iteT (iteT ?_))⟩
    refine ⟨_, rfl, _, rfl, I, Vbdcar.ascii "let", sI, congrArg V.str (ofS "let"), by decide +kernel, fun p I1 H1 g1 hp => ⟨_, rfl, a, _, dx, _, _, rfl, g1.hh _ _ ha, T.c_Expression, T.n_Expression_word, rfl, _, rfl, I1, x, g1.ih, rfl, hz x (by simp [headR]), fun p2 I2 H2 g2 hp2 => ⟨two_le _ _, ret2 (g1.trans g2) (g2.ii _ _ hp) hp2 q⟩⟩⟩
  | each x e1 e2 =>
    refine k_sifN ⟨_, rfl, rfl, _, rfl, iteS (a := "each") false (by decide +kernel) (iteF ?_)⟩
    refine k_sifN ⟨_, rfl, rfl, _, rfl, iteS (a := "each") false (by decide +kernel) (iteF ?_)⟩
    refine k_sifN ⟨_, rfl, rfl, _, rfl, iteS (a := "each") false (by decide +kernel) (iteF ⟨_, rfl, rfl, _, rfl, iteS (a := "each") true (by decide +kernel) (iteT (iteT ?_))⟩)⟩
    refine ⟨_, rfl, _, rfl, I, Vbdcar.ascii "each", sI, congrArg V.str (ofS "each"), by decide +kernel, fun p I1 H1 g1 hp => ⟨_, rfl, a, _, dx, _, _, rfl, g1.hh _ _ ha, T.c_Expression, T.n_Expression_word, rfl, _, rfl, I1, x, g1.ih, rfl, hz x (by simp [headR]), fun p2 I2 H2 g2 hp2 => ⟨two_le _ _, ret2 (g1.trans g2) (g2.ii _ _ hp) hp2 q⟩⟩⟩
  | keep x e1 e2 =>
    refine k_sifN ⟨_, rfl, rfl, _, rfl, iteS (a := "keep") false (by decide +kernel) (iteF ?_)⟩
    refine k_sifN ⟨_, rfl, rfl, _, rfl, iteS (a := "keep") false (by decide +kernel) (iteF ?_)⟩
    refine k_sifN ⟨_, rfl, rfl, _, rfl, iteS (a := "keep") false (by decide +kernel) (iteF ⟨_, rfl, rfl, _, rfl, iteS (a := "keep") false (by decide +kernel) (iteF ⟨_, rfl, rfl, _, rfl, iteS (a := "keep") true (by decide +kernel) (iteT ?_)⟩)⟩)⟩
    refine ⟨_, rfl, _, rfl, I, Vbdcar.ascii "keep", sI, congrArg V.str (ofS "keep"), by decide +kernel, fun p I1 H1 g1 hp => ⟨_, rfl, a, _, dx, _, _, rfl, g1.hh _ _ ha, T.c_Expression, T.n_Expression_word, rfl, _, rfl, I1, x, g1.ih, rfl, hz x (by simp [headR]), fun p2 I2 H2 g2 hp2 => ⟨two_le _ _, ret2 (g1.trans g2) (g2.ii _ _ hp) hp2 q⟩⟩⟩
  | ite e1 e2 e3 =>
    refine k_sifN ⟨_, rfl, rfl, _, rfl, iteS (a := "if") false (by decide +kernel) (iteF ?_)⟩
    refine k_sifN ⟨_, rfl, rfl, _, rfl, iteS (a := "if") false (by decide +kernel) (iteF ?_)⟩
    refine k_sifN ⟨_, rfl, rfl, _, rfl, iteS (a := "if") false (by decide +kernel) (iteF ⟨_, rfl, rfl, _, rfl, iteS (a := "if") false (by decide +kernel) (iteF ⟨_, rfl, rfl, _, rfl, iteS (a := "if") false (by decide +kernel) (iteF ?_)⟩)⟩)⟩
    exact ⟨_, rfl, _, rfl, I, Vbdcar.ascii "if", sI, congrArg V.str (ofS "if"), by decide +kernel, fun p I1 H1 g1 hp => ⟨one_le _, ret1 g1 hp q⟩⟩
  | and_ e1 e2 =>
    refine k_sifN ⟨_, rfl, rfl, _, rfl, iteS (a := "and") false (by decide +kernel) (iteF ?_)⟩
    refine k_sifN ⟨_, rfl, rfl, _, rfl, iteS (a := "and") false (by decide +kernel) (iteF ?_)⟩
    refine k_sifN ⟨_, rfl, rfl, _, rfl, iteS (a := "and") false (by decide +kernel) (iteF ⟨_, rfl, rfl, _, rfl, iteS (a := "and") false (by decide +kernel) (iteF ⟨_, rfl, rfl, _, rfl, iteS (a := "and") false (by decide +kernel) (iteF ?_)⟩)⟩)⟩
    exact ⟨_, rfl, _, rfl, I, Vbdcar.ascii "and", sI, congrArg V.str (ofS "and"), by decide +kernel, fun p I1 H1 g1 hp => ⟨one_le _, ret1 g1 hp q⟩⟩
  | or_ e1 e2 =>
    refine k_sifN ⟨_, rfl, rfl, _, rfl, iteS (a := "or") false (by decide +kernel) (iteF ?_)⟩
    refine k_sifN ⟨_, rfl, rfl, _, rfl, iteS (a := "or") false (by decide +kernel) (iteF ?_)⟩
    refine k_sifN ⟨_, rfl, rfl, _, rfl, iteS (a := "or") false (by decide +kernel) (iteF ⟨_, rfl, rfl, _, rfl, iteS (a := "or") false (by decide +kernel) (iteF ⟨_, rfl, rfl, _, rfl, iteS (a := "or") false (by decide +kernel) (iteF ?_)⟩)⟩)⟩
    exact ⟨_, rfl, _, rfl, I, Vbdcar.ascii "or", sI, congrArg V.str (ofS "or"), by decide +kernel, fun p I1 H1 g1 hp => ⟨one_le _, ret1 g1 hp q⟩⟩⟩
end
end Bd


end
/-! ## BdShowB -/
section
namespace Bd
open PySem PySem.Spec PyProof.Rows
open L2
def isVar : Exp → Bool
  | .var _ => true
  | _ => false
theorem kindVar (c : Exp) : decide (Str.ofString (kindOf c) = Str.ofString "variable") = isVar c := by
  have key : ∀ s, s ∈ ["number", "if", "let", "each", "keep", "and", "or", "operation", "call"] → decide (Str.ofString s = Str.ofString "variable") = false := by decide +kernel
  cases c with
  | var _ => exact decide_eq_true rfl
  | _ => exact key _ (by simp [kindOf])
theorem leaf_kind (e : Exp) (h1 : isNum e = false) (h2 : isVar e = false) : leaf e = false := by
  cases e with
  | num _ => cases h1
  | var _ => cases h2
  | _ => rfl
theorem log_small {n : Int} (h : n.natAbs ≤ 1000000000) : n.natAbs.log2 < 1920 := log2_small (Nat.lt_of_le_of_lt h (by decide))
theorem pieces {I J : Hp} {ys : List V} {cs : List Exp} (hl : ys.length = cs.length) (r : ∀ (i : Nat) y, ys[i]? = some y → ∃ c p, cs[i]? = some c ∧ y = .ref p ∧ IL J p (iB (Vbdcar.shown c))) : BsAt J ys (cs.map Vbdcar.shown) := by
  refine ⟨by rw [List.length_map]; exact hl, fun i x b h1 h2 => ?_⟩
  obtain ⟨c, p, h3, h4, h5⟩ := r i x h1
  rw [List.getElem?_map, h3] at h2
  cases h2
  exact ⟨p, h4, h5⟩
section
variable {w : World} {K : PySem.W.Frag} {mg : Str → Option Value} {base : Heap}
abbrev sp_bytes (d : Nat) : Sp := Sp1 fun u H Q _ => ∃ (I : Hp) (e : Exp), deep e < d ∧ Same I H ∧ FOk e ∧ ExpAt I u e ∧ (Vbdcar.shown e).length ≤ 16000000 ∧ RetB I H Q (Vbdcar.shown e)
abbrev n_expression_bytes : List Str := ["expression", "other"]
theorem sc_expression_bytes : FnScope n_expression_bytes ["expression"] (defScope s_expression_bytes) := ⟨rfl, rfl, rfl, by decide +kernel, rfl, by decide +kernel, by decide +kernel⟩
theorem e_expression_bytes (T : Tx w K mg) {d : Nat} (h2 : 2 ≤ k) (ih : Def w K mg base k "expression_bytes" ["expression"] (sp_bytes d)) : Def w K mg base (k+1) "expression_bytes" ["expression"] (sp_bytes (d+1)) :=
  mkDef1 T f_expression_bytes rfl rfl sc_expression_bytes rfl (fun _ _ _ _ _ _ us hl => match us, hl with | [_], _ => rfl) fun u cdv A outer s H Q E hr h =>
  ⟨_, (pss_cons (ps_if (pt_cmpR op_eq (pe_fld (pv 0) rfl) pe_str (nomark _)) (pss_one (ps_ret (pe_c (hk := by omega) (d_bytes_of T) hr pz (pa_cons (pe_callTy call_str_int (by rfl) T.fr_str (by decide +kernel) (pa_cons (pe_fld (pv 0) rfl) pa_nil)) pa_nil)))) pss_nil)
  (pss_cons (ps_if (pt_cmpR op_eq (pe_fld (pv 0) rfl) pe_str (nomark _)) (pss_one (ps_ret (pe_c (hk := by omega) (d_bytes_of T) hr pz (pa_cons (pe_fld (pv 0) rfl) pa_nil)))) pss_nil)
  (pss_one (ps_ret (pe_c (hk := by omega) (d_in_brackets T) hr pz (pa_cons (pe_op op_cat (pe_c (hk := by omega) (d_head_rows T) hr pz (pa_cons (pv 0) pa_nil)) (pe_lc (own := [("other", 1)]) (g := gName 1) (tt := tYes) rfl sc_expression_bytes.nd (pi_list (pe_fld (pv 0) rfl)) (blkOk_by (N := n_expression_bytes) (sc := defScope s_expression_bytes) (by decide +kernel)) (fun _ _ _ _ _ => (pg_name (i := 1) sc_expression_bytes.nd rfl (Or.inl rfl))) (fun _ _ _ _ _ => pts_nil) (fun _ _ _ _ _ => by exact (pe_c (hk := by omega) ih hr passL (pa_cons (pv 1) pa_nil))))) pa_nil)))))), by
  obtain ⟨I, e, hd, sI, hf, hu, hz, q⟩ := h
  obtain ⟨a, dx, li, xs, rfl, ha, hl, hn, hxz, hc⟩ := id hu.at
  have haH := sI _ _ ha
  refine k_sifN ⟨_, rfl, a, _, dx, _, _, rfl, haH, T.c_Expression, T.n_Expression_kind, rfl, rfl, _, rfl, ?_⟩
  rw [dS, kindNum]
  cases hnum : isNum e with
  | true =>
    cases e with
    | num n =>
      have hb : n.natAbs ≤ 1000000000 := by cases hf with | mk h _ _ _ => exact h n rfl
      exact iteT ⟨_, rfl, a, _, dx, _, _, rfl, haH, T.c_Expression, T.n_Expression_number, rfl, _, rfl, log_small hb, _, rfl, I, Vbdcar.dec n, sI, congrArg V.str (ofS (toString n)), hz, q⟩
    | _ => cases hnum
  | false =>
    refine iteF (k_sifN ⟨_, rfl, a, _, dx, _, _, rfl, haH, T.c_Expression, T.n_Expression_kind, rfl, rfl, _, rfl, ?_⟩)
    rw [dS, kindVar]
    cases hv : isVar e with
    | true =>
      cases e with
      | var x => exact iteT ⟨_, rfl, a, _, dx, _, _, rfl, haH, T.c_Expression, T.n_Expression_word, rfl, _, rfl, I, x, sI, rfl, hz, q⟩
      | _ => cases hv
    | false =>
      have hlf := leaf_kind e hnum hv
      have sq : (headR e).length ≤ 8 := by cases e <;> simp [headR]
      refine iteF (k_ret (k_call (k_cons (k_op ⟨_, rfl, _, rfl, I, e, sI, hu, hf, hlf, fun x hx => Nat.le_trans (head_part hlf hx) hz, fun a1 xs1 I1 H1 e1 h1 b1 => ?_⟩))))
      refine k_lcR (I := I1) (xs := xs) (val_fld (val_var rfl) (e1.hh _ _ haH) T.c_Expression T.n_Expression_inner rfl) (fun i y J => ∃ c p, (innerOf e)[i]? = some c ∧ y = .ref p ∧ IL J p (iB (Vbdcar.shown c))) e1.ih (.inl (.inl (e1.si _ _ hl))) (fun _ => rfl) (fun i y J J' s h => by obtain ⟨c, p, h1, h2, h3⟩ := h; exact ⟨c, p, h1, h2, s _ _ h3⟩) (by omega) (fun i x I2 H2 Q' hi e2 k => ?_) fun D ys I2 H2 e2 iD hD hy hyl r => ?_
      · obtain ⟨c, hcc⟩ := get_of_len hn hi
        have hm := List.mem_of_getElem? hcc
        have hdc := deep_mem hm
        refine ⟨_, rfl, _, rfl, I2, c, by omega, e2.ih, ?_, (hc i x c hi hcc).mono (Same.trans e1.ii e2.ii), Nat.le_trans (shown_part hlf hm) hz, fun p I4 H4 e4 h4 => k _ I4 H4 e4 ⟨c, p, hcc, rfl, h4⟩⟩
        cases hf with | mk _ _ _ hfc => exact hfc c hm
      · have bp := pieces (I := I) (J := I2) (ys := ys) (cs := innerOf e) (hyl.trans hn) r
        have b1' := b1.mono e2.ii
        have x2 := e1.trans e2
        refine ⟨a1, D, xs1, ys, rfl, rfl, e2.hh _ _ (e1.ih _ _ h1), e2.ih _ _ hy, ?_, fun p hp => ?_⟩
        · have := b1.1
          rw [sizeLine_eq]; omega
        · refine ⟨_, rfl, I2, p, xs1 ++ ys, headR e ++ (innerOf e).map Vbdcar.shown, Same.put x2.ih (x2.ih.free hp), rfl, upd_same, b1'.append bp, by rw [← shown_eq hlf]; exact hz, fun p2 I3 H3 e3 h3 => ?_⟩
          rw [← shown_eq hlf] at h3
          exact q p2 I3 H3 ((x2.tmp hp).trans e3) h3⟩
theorem f0_expression_bytes (T : Tx w K mg) : Def w K mg base 1 "expression_bytes" ["expression"] (fun _ _ _ _ => False) := mkDef T f_expression_bytes rfl rfl sc_expression_bytes (fun _ _ _ _ _ _ us hl => match us, hl with | [_], _ => rfl) (fun _ _ _ _ h => h.elim) fun _ _ _ _ _ _ _ _ _ h => h.elim
theorem d_expression_bytes (T : Tx w K mg) : ∀ d : Nat, Def w K mg base (d + 2) "expression_bytes" ["expression"] (sp_bytes d)
  | 0 => ((f0_expression_bytes T).imp fun _ _ _ _ ⟨_, _, _, _, h, _⟩ => absurd h (Nat.not_lt_zero _)).mono (by decide)
  | d + 1 => e_expression_bytes T (by omega) (d_expression_bytes T d)
abbrev funB (f : Vbdcar.Fun) : List Nat := Vbdcar.bracket [Vbdcar.ascii "fun", f.name, Vbdcar.bracket f.params, Vbdcar.shown f.body]
abbrev sp_fbytes : Sp := Sp1 fun u H Q _ => ∃ (I : Hp) (f : Vbdcar.Fun), Same I H ∧ FunAt I u f ∧ FOk f.body ∧ deep f.body < 21 ∧ f.params.length ≤ 8 ∧ (funB f).length ≤ 16000000 ∧ RetB I H Q (funB f)
abbrev n_function_bytes : List Str := ["function", "parameters", "name"]
theorem sc_function_bytes : FnScope n_function_bytes ["function"] (defScope s_function_bytes) := ⟨rfl, rfl, rfl, by decide +kernel, rfl, by decide +kernel, by decide +kernel⟩
theorem d_function_bytes (T : Tx w K mg)  : Def w K mg base 24 "function_bytes" ["function"] (sp_fbytes) :=
  mkDef1 T f_function_bytes rfl rfl sc_function_bytes rfl (fun _ _ _ _ _ _ us hl => match us, hl with | [_], _ => rfl) fun u cdv A outer s H Q E hr h =>
  ⟨_, (pss_cons (ps_set (i := 1) sc_function_bytes.nd rfl (Or.inl rfl) (pe_c (d_in_brackets T) hr pz (pa_cons (pe_lc (own := [("name", 2)]) (g := gName 2) (tt := tYes) rfl sc_function_bytes.nd (pi_list (pe_fld (pv 0) rfl)) (blkOk_by (N := n_function_bytes) (sc := defScope s_function_bytes) (by decide +kernel)) (fun _ _ _ _ _ => (pg_name (i := 2) sc_function_bytes.nd rfl (Or.inl rfl))) (fun _ _ _ _ _ => pts_nil) (fun _ _ _ _ _ => by exact (pe_c (d_bytes_of T) hr passL (pa_cons (pv 2) pa_nil)))) pa_nil)))
  (pss_one (ps_ret (pe_c (d_in_brackets T) hr pz (pa_cons (pe_lst (pa_cons (pe_c (d_bytes_of T) hr pz (pa_cons pe_str pa_nil)) (pa_cons (pe_c (d_bytes_of T) hr pz (pa_cons (pe_fld (pv 0) rfl) pa_nil)) (pa_cons (pv 1) (pa_cons (pe_c (d_expression_bytes T 21) hr pz (pa_cons (pe_fld (pv 0) rfl) pa_nil)) pa_nil))))) pa_nil))))), by
  obtain ⟨I, f, sI, hu, hf, hd, hp8, hz, q⟩ := h
  obtain ⟨a, dx, li, ub, rfl, ha, hli, hb⟩ := hu.ex
  have haH := sI _ _ ha
  have hz2 := hz
  rw [bracket_len] at hz2
  have m1 := spc_mem (l := [Vbdcar.ascii "fun", f.name, Vbdcar.bracket f.params, Vbdcar.shown f.body]) (x := f.name) (by simp)
  have m2 := spc_mem (l := [Vbdcar.ascii "fun", f.name, Vbdcar.bracket f.params, Vbdcar.shown f.body]) (x := Vbdcar.bracket f.params) (by simp)
  have m3 := spc_mem (l := [Vbdcar.ascii "fun", f.name, Vbdcar.bracket f.params, Vbdcar.shown f.body]) (x := Vbdcar.shown f.body) (by simp)
  refine k_sset (k_call (k_cons (k_lcR (I := I) (xs := f.params.map fun b => V.str (sB b)) (val_fld (val_var rfl) haH T.c_Function T.n_Function_parameters rfl) (fun i y J => ∃ b p, f.params[i]? = some b ∧ y = .ref p ∧ IL J p (iB b)) sI (.inl (.inl (sI _ _ hli))) (fun _ => rfl) (fun i y J J' s h => by obtain ⟨c, p, h1, h2, h3⟩ := h; exact ⟨c, p, h1, h2, s _ _ h3⟩) (by rw [List.length_map]; omega) (fun i x I2 H2 Q' hi e2 k => ?_) fun D ys I2 H2 e2 iD hD hy hyl r => ?_)))
  · rw [List.getElem?_map] at hi
    cases hc : f.params[i]? with
    | none => rw [hc] at hi; cases hi
    | some b =>
      rw [hc] at hi
      cases hi
      have m4 := spc_mem (List.mem_of_getElem? hc)
      rw [bracket_len] at m2
      exact ⟨_, rfl, _, rfl, I2, b, e2.ih, rfl, by omega, fun p I4 H4 e4 h4 => k _ I4 H4 e4 ⟨b, p, hc, rfl, h4⟩⟩
  · have bp : BsAt I2 ys f.params := by
      refine ⟨by rw [hyl, List.length_map], fun i x b h1 h2 => ?_⟩
      obtain ⟨c, p, h3, h4, h5⟩ := r i x h1
      rw [h3] at h2
      cases h2
      exact ⟨p, h4, h5⟩
    refine ⟨_, rfl, I2, D, ys, f.params, e2.ih, rfl, e2.ih _ _ hy, bp, by omega, fun p3 I3 H3 e3 h3 => ?_⟩
    have x3 := e2.trans e3
    refine ⟨_, rfl, I3, Vbdcar.ascii "fun", e3.ih, congrArg V.str (ofS "fun"), by decide +kernel, fun p4 I4 H4 e4 h4 => ?_⟩
    have x4 := x3.trans e4
    refine ⟨_, rfl, a, _, dx, _, _, rfl, x4.hh _ _ haH, T.c_Function, T.n_Function_name, rfl, _, rfl, I4, f.name, e4.ih, rfl, by omega, fun p5 I5 H5 e5 h5 => ?_⟩
    have x5 := x4.trans e5
    refine ⟨_, rfl, _, rfl, a, _, dx, _, _, rfl, x5.hh _ _ haH, T.c_Function, T.n_Function_body, rfl, _, rfl, I5, f.body, hd, e5.ih, hf, hb.mono x5.ii, by omega, fun p6 I6 H6 e6 h6 => ?_⟩
    have x6 := x5.trans e6
    refine ⟨by rw [sizeLine_eq]; show 4 ≤ _; decide, fun p7 hp7 => ?_⟩
    have b7 : BsAt I6 ([.ref p4, .ref p5] ++ [.ref p3, .ref p6]) ([Vbdcar.ascii "fun", f.name] ++ [Vbdcar.bracket f.params, Vbdcar.shown f.body]) := (bs2 (e6.ii _ _ (e5.ii _ _ h4)) (e6.ii _ _ h5)).append (bs2 (e6.ii _ _ (e5.ii _ _ (e4.ii _ _ h3))) h6)
    exact ⟨_, rfl, I6, p7, _, _, Same.put x6.ih (x6.ih.free hp7), rfl, upd_same, b7, hz, fun p8 I8 H8 e8 h8 => q p8 I8 H8 ((x6.tmp hp7).trans e8) h8⟩⟩
abbrev PPar (p : Vbdcar.Prog) : Prop := ∀ f, f ∈ p.funs → f.params.length ≤ 8
abbrev sp_pbytes : Sp := Sp1 fun u H Q _ => ∃ (I : Hp) (p : Vbdcar.Prog), Same I H ∧ ProgAt I u p ∧ PDeep p ∧ PFok p ∧ PPar p ∧ (Vbdcar.shownProg p).length ≤ 16000000 ∧ RetB I H Q (Vbdcar.shownProg p)
theorem flat_take {α : Type} (g : α → List Nat) : ∀ (l : List α) (i : Nat), ((l.take i).flatMap g).length ≤ (l.flatMap g).length
  | [], i => by simp
  | x :: r, 0 => by simp
  | x :: r, i + 1 => by
    rw [List.take_succ_cons, List.flatMap_cons, List.flatMap_cons, List.length_append, List.length_append]
    have := flat_take g r i
    omega
abbrev n_program_bytes : List Str := ["program", "shown", "function"]
theorem sc_program_bytes : FnScope n_program_bytes ["program"] (defScope s_program_bytes) := ⟨rfl, rfl, rfl, by decide +kernel, rfl, by decide +kernel, by decide +kernel⟩
theorem d_program_bytes (T : Tx w K mg)  : Def w K mg base 25 "program_bytes" ["program"] (sp_pbytes) :=
  mkDef1 T f_program_bytes rfl rfl sc_program_bytes rfl (fun _ _ _ _ _ _ us hl => match us, hl with | [_], _ => rfl) fun u cdv A outer s H Q E hr h =>
  ⟨_, (pss_cons (ps_set (i := 1) sc_program_bytes.nd rfl (Or.inl rfl) (pe_lst pa_nil))
  (pss_cons (ps_for (passes_of rfl) rfl (pi_list (pe_fld (pv 0) rfl)) (pg_name (i := 2) sc_program_bytes.nd rfl (Or.inl rfl)) (pss_one (ps_set (i := 1) sc_program_bytes.nd rfl (Or.inl rfl) (pe_op op_cat (pe_op op_cat (pv 1) (pe_c (d_function_bytes T) hr pz (pa_cons (pv 2) pa_nil))) (pe_lst (pa_cons (pe_gi T.k_LINE_FEED_shown) pa_nil))))))
  (pss_one (ps_ret (pe_op op_cat (pe_op op_cat (pv 1) (pe_c (d_expression_bytes T 21) hr pz (pa_cons (pe_fld (pv 0) rfl) pa_nil))) (pe_lst (pa_cons (pe_gi T.k_LINE_FEED_shown) pa_nil))))))), by
  obtain ⟨I, p, sI, hu, ⟨hm, hdf⟩, ⟨om, of⟩, hpar, hz, q⟩ := h
  obtain ⟨a, dx, li, ul, xs, rfl, ha, hli, hxl, hx8, hfs, hmain⟩ := hu.ex
  have hlen : (Vbdcar.shownProg p).length = (p.funs.flatMap Vbdcar.shownFun).length + ((Vbdcar.shown p.main).length + 1) := by
    unfold Vbdcar.shownProg; simp
  rw [hlen] at hz
  refine k_sset ⟨by rw [sizeLine_eq]; exact Nat.zero_le _, fun D0 hD0 => ?_⟩
  have e0 := (Ext.refl sI).new (o := .lst []) hD0
  refine ⟨_, rfl, a, _, dx, _, _, rfl, e0.hh _ _ (sI _ _ ha), T.c_Program, T.n_Program_functions, rfl, li, rfl, ⟨xs, .inl (.inl (e0.hh _ _ (sI _ _ hli)))⟩, ?_⟩
  refine for_list (xs := xs) (fun i σ H' => ∃ I' D o2, Ext I H I' H' ∧ IL I' D (iB ((p.funs.take i).flatMap Vbdcar.shownFun)) ∧ σ = [some (.ref a), some (.ref D), o2]) ⟨_, D0, _, e0, upd_same, rfl⟩ (fun i σ H' _ ⟨I', _, _, e, _⟩ => .inl (.inl (e.si _ _ hli))) (fun i x σ H1 hi ⟨I1, D, o2, e1, hl, es⟩ => ?_) fun σ H1 ⟨I1, D, o2, e1, hl, es⟩ => ?_
  · subst es
    obtain ⟨f, hff⟩ := get_of_len hxl hi
    have hfm := List.mem_of_getElem? hff
    have hfun := hfs i x f hi hff
    have ht := flat_take Vbdcar.shownFun p.funs (i + 1)
    rw [List.take_add_one, hff] at ht
    simp only [Option.toList, List.flatMap_append, List.flatMap_cons, List.flatMap_nil, List.append_nil, List.length_append] at ht
    have hfl : (Vbdcar.shownFun f).length = (funB f).length + 1 := by unfold Vbdcar.shownFun; rw [List.length_append]; rfl
    have s1 : ((p.funs.take i).flatMap Vbdcar.shownFun).length + ((funB f).length + 1) ≤ 16000000 := by rw [← hfl]; omega
    refine ⟨_, rfl, _, rfl, _, rfl, I1, f, e1.ih, hfun.mono e1.ii, of f hfm, hdf f hfm, hpar f hfm, by omega, fun p2 I2 H2 e2 h2 => ?_⟩
    refine ⟨D, p2, _, _, rfl, rfl, e2.si _ _ hl, e2.ih _ _ h2, ?_, fun p3 hp3 => ?_⟩
    · simp only [List.length_map]; rw [sizeLine_eq]; omega
    · have e3 := (e1.trans e2).tmp (o := .lst ((iB ((p.funs.take i).flatMap Vbdcar.shownFun)).map V.int ++ (iB (funB f)).map V.int)) hp3
      refine ⟨one_le _, fun p4 hp4 => ?_⟩
      have e4 := e3.tmp (o := .lst [.int 10]) hp4
      refine ⟨p3, p4, _, _, rfl, rfl, by rw [upd_ne (ne_of_none upd_same hp4)]; exact upd_same, upd_same, ?_, fun p5 hp5 => ?_⟩
      · simp only [List.length_append, List.length_map, List.length_singleton, List.length_cons, List.length_nil]; rw [sizeLine_eq]; omega
      · refine ⟨_, p5, _, e4.new hp5, ?_, rfl⟩
        rw [IL, upd_same, List.take_add_one, hff]
        simp only [Option.toList, List.flatMap_append, List.flatMap_cons, List.flatMap_nil, List.append_nil]
        unfold Vbdcar.shownFun
        simp [iB]
  · subst es
    rw [hxl, List.take_length] at hl
    refine ⟨_, rfl, _, rfl, a, _, dx, _, _, rfl, e1.si _ _ ha, T.c_Program, T.n_Program_last, rfl, _, rfl, I1, p.main, hm, e1.ih, om, hmain.mono e1.ii, by omega, fun p2 I2 H2 e2 h2 => ?_⟩
    refine ⟨D, p2, _, _, rfl, rfl, e2.si _ _ hl, e2.ih _ _ h2, ?_, fun p3 hp3 => ?_⟩
    · simp only [List.length_map]; rw [sizeLine_eq]; omega
    · have e3 := (e1.trans e2).tmp (o := .lst ((iB (p.funs.flatMap Vbdcar.shownFun)).map V.int ++ (iB (Vbdcar.shown p.main)).map V.int)) hp3
      refine ⟨one_le _, fun p4 hp4 => ?_⟩
      have e4 := e3.tmp (o := .lst [.int 10]) hp4
      refine ⟨p3, p4, _, _, rfl, rfl, by rw [upd_ne (ne_of_none upd_same hp4)]; exact upd_same, upd_same, ?_, fun p5 hp5 => ?_⟩
      · simp only [List.length_append, List.length_map, List.length_singleton, List.length_cons, List.length_nil]; rw [sizeLine_eq]; omega
      · refine q p5 _ _ (e4.new hp5) ?_
        rw [IL, upd_same]
        unfold Vbdcar.shownProg
        simp [iB]⟩
end
end Bd


end
/-! ## BdReadP -/
section
namespace Bd
open Vbdcar (Tree Trees Wrong expOf expsOf ascii)
/-! ## numbers -/
theorem isDigI (c : Nat) : isDig (c : Int) = Vbdcar.isDigit c := by
  unfold isDig Vbdcar.isDigit
  rw [Bool.eq_iff_iff]
  simp only [Bool.and_eq_true, decide_eq_true_eq]
  omega
theorem allDigI : ∀ d : List Nat, (iB d).all isDig = d.all Vbdcar.isDigit
  | [] => rfl
  | c :: r => by
    show (isDig (c : Int) && (iB r).all isDig) = (Vbdcar.isDigit c && r.all Vbdcar.isDigit)
    rw [isDigI, allDigI r]
theorem foldDig : ∀ (d : List Nat) (s : Nat), (∀ c ∈ d, Vbdcar.isDigit c = true) → (iB d).foldl (fun n c => n * 10 + c - 48) (s : Int) = ((d.foldl (fun n c => 10 * n + (c - 48)) s : Nat) : Int)
  | [], s, _ => rfl
  | c :: r, s, h => by
    have hc := of_decide_eq_true (h c (by simp))
    show (iB r).foldl (fun n c => n * 10 + c - 48) ((s : Int) * 10 + (c : Int) - 48) = _
    rw [show ((s : Int) * 10 + (c : Int) - 48) = ((10 * s + (c - 48) : Nat) : Int) by omega, foldDig r _ fun e he => h e (by simp [he])]
    rfl
theorem fold_ge : ∀ (d : List Nat) (s : Nat), s ≤ d.foldl (fun n c => 10 * n + (c - 48)) s
  | [], s => Nat.le_refl _
  | c :: r, s => by
    rw [List.foldl_cons]
    have := fold_ge r (10 * s + (c - 48))
    omega
theorem digNum_eq (d : List Nat) : digNum (iB d) = if d = [] ∨ 10 < d.length ∨ d.all Vbdcar.isDigit = false ∨ (d.headD 0 = 48 ∧ 1 < d.length) then none else if 1000000000 < d.foldl (fun n c => 10 * n + (c - 48)) 0 then none else some ((d.foldl (fun n c => 10 * n + (c - 48)) 0 : Nat) : Int) := by
  unfold digNum
  rw [iB_len, allDigI]
  by_cases h0 : d = []
  · subst h0; rfl
  · have hl : ¬ d.length = 0 := fun e => h0 (List.length_eq_zero_iff.mp e)
    rw [if_neg hl]
    by_cases h1 : 10 < d.length
    · rw [if_pos h1, if_pos (.inr (.inl h1))]
    · rw [if_neg h1]
      by_cases h2 : d.all Vbdcar.isDigit = false
      · rw [if_pos h2, if_pos (.inr (.inr (.inl h2)))]
      · rw [if_neg h2]
        have hh : ((iB d).headD 0 = 48) ↔ d.headD 0 = 48 := by
          cases d with
          | nil => exact absurd rfl h0
          | cons c r => show ((c : Int) = 48) ↔ c = 48; omega
        by_cases h3 : d.headD 0 = 48 ∧ 1 < d.length
        · rw [if_pos ⟨hh.mpr h3.1, h3.2⟩, if_pos (.inr (.inr (.inr h3)))]
        · rw [if_neg (fun z => h3 ⟨hh.mp z.1, z.2⟩), if_neg (c := d = [] ∨ 10 < d.length ∨ d.all Vbdcar.isDigit = false ∨ (d.headD 0 = 48 ∧ 1 < d.length)) (by rintro (z | z | z | z); exact h0 z; exact h1 z; exact h2 z; exact h3 z)]
          have hv : digV (iB d) = ((d.foldl (fun n c => 10 * n + (c - 48)) 0 : Nat) : Int) := by
            unfold digV
            have := foldDig d 0 (List.all_eq_true.mp (by simpa using h2))
            exact this
          rw [hv]
          by_cases h4 : 1000000000 < d.foldl (fun n c => 10 * n + (c - 48)) 0
          · rw [if_pos h4, if_pos (by omega)]
          · rw [if_neg h4, if_neg (by omega)]
theorem headD_of {d : List Nat} (h : d ≠ []) (k : Nat) : d.head? = some k ↔ d.headD 0 = k := by
  cases d with
  | nil => exact absurd rfl h
  | cons c r => simp
theorem number_eq {b : List Nat} (hne : b ≠ []) : numOfData (iB b) = Vbdcar.number b := by
  unfold numOfData Vbdcar.number
  have hh : ((iB b).headD 0 = 45) ↔ b.headD 0 = 45 := by
    cases b with
    | nil => exact absurd rfl hne
    | cons c r => show ((c : Int) = 45) ↔ c = 45; omega
  have hb : (b.head? == some 45) = decide (b.headD 0 = 45) := by
    rw [Bool.eq_iff_iff, beq_iff_eq, decide_eq_true_iff]; exact headD_of hne 45
  rw [hb]
  by_cases h45 : b.headD 0 = 45
  · rw [if_neg (fun z => z (hh.mpr h45)), decide_eq_true h45]
    have hd : (iB b).drop 1 = iB (b.drop 1) := by show (List.map _ b).drop 1 = List.map _ (b.drop 1); rw [List.map_drop]
    rw [hd, digNum_eq]
    simp only [if_true]
    generalize b.drop 1 = d
    by_cases h0 : d = []
    · subst h0; rfl
    · by_cases h1 : 10 < d.length
      · rw [if_pos (.inr (.inl h1)), if_pos (.inr (.inr (.inl h1)))]
      · by_cases h2 : d.all Vbdcar.isDigit = false
        · rw [if_pos (.inr (.inr (.inl h2))), if_pos (.inr (.inl h2))]
        · by_cases h3 : d.headD 0 = 48
          · rw [if_pos (c := d.isEmpty = true ∨ _) (.inr (.inr (.inr ⟨(headD_of h0 48).mpr h3, .inr trivial⟩)))]
            by_cases h4 : 1 < d.length
            · rw [if_pos (.inr (.inr (.inr ⟨h3, h4⟩)))]
            · rw [if_neg (by rintro (z | z | z | z); exact h0 z; exact h1 z; exact h2 z; exact h4 z.2)]
              match d, h0, h3, h4 with
              | [c], _, h3, _ =>
                replace h3 : c = 48 := h3
                subst h3
                rfl
              | _ :: _ :: _, _, _, h4 => exact absurd (by simp) h4
          · rw [if_neg (by rintro (z | z | z | z); exact h0 z; exact h1 z; exact h2 z; exact h3 z.1), if_neg (c := d.isEmpty = true ∨ _) (by rintro (z | z | z | z); exact h0 (List.isEmpty_iff.mp z); exact h2 z; exact h1 z; exact h3 ((headD_of h0 48).mp z.1))]
            have hpos : 0 < d.foldl (fun n c => 10 * n + (c - 48)) 0 := by
              cases d with
              | nil => exact absurd rfl h0
              | cons c r =>
                have hc := List.all_eq_true.mp (show (c :: r).all Vbdcar.isDigit = true by simpa using h2) c (by simp)
                have := of_decide_eq_true hc
                have h5 := fold_ge r (10 * 0 + (c - 48))
                rw [List.foldl_cons]
                have h6 : ¬ c = 48 := h3
                omega
            show (match (if 1000000000 < d.foldl (fun n c => 10 * n + (c - 48)) 0 then none else some ((d.foldl (fun n c => 10 * n + (c - 48)) 0 : Nat) : Int)) with | none => none | some n => if n = 0 then none else some (-n)) = _
            by_cases h4 : 1000000000 < d.foldl (fun n c => 10 * n + (c - 48)) 0
            · rw [if_pos h4, if_pos (show Vbdcar.BIG < _ by unfold Vbdcar.BIG; omega)]
            · rw [if_neg h4, if_neg (show ¬ Vbdcar.BIG < _ by unfold Vbdcar.BIG; omega)]
              show (if ((d.foldl (fun n c => 10 * n + (c - 48)) 0 : Nat) : Int) = 0 then none else _) = _
              rw [if_neg (by omega)]
  · rw [if_pos (fun z => h45 (hh.mp z)), decide_eq_false h45, digNum_eq]
    simp only [Bool.false_eq_true, if_false, or_false]
    have iff1 : (b = [] ∨ 10 < b.length ∨ b.all Vbdcar.isDigit = false ∨ (b.headD 0 = 48 ∧ 1 < b.length)) ↔ (b.isEmpty = true ∨ b.all Vbdcar.isDigit = false ∨ 10 < b.length ∨ (b.head? = some 48 ∧ b.length ≠ 1)) := by
      have hl : 0 < b.length := List.length_pos_iff.mpr hne
      rw [List.isEmpty_iff, headD_of hne]
      constructor
      · rintro (z | z | z | ⟨z, y⟩)
        · exact .inl z
        · exact .inr (.inr (.inl z))
        · exact .inr (.inl z)
        · exact .inr (.inr (.inr ⟨z, by omega⟩))
      · rintro (z | z | z | ⟨z, y⟩)
        · exact .inl z
        · exact .inr (.inr (.inl z))
        · exact .inr (.inl z)
        · exact .inr (.inr (.inr ⟨z, by omega⟩))
    by_cases hc : (b = [] ∨ 10 < b.length ∨ b.all Vbdcar.isDigit = false ∨ (b.headD 0 = 48 ∧ 1 < b.length))
    · rw [if_pos hc, if_pos (iff1.mp hc)]
    · rw [if_neg hc, if_neg (fun z => hc (iff1.mpr z))]
      by_cases h4 : 1000000000 < b.foldl (fun n c => 10 * n + (c - 48)) 0
      · rw [if_pos h4, if_pos (show Vbdcar.BIG < _ by unfold Vbdcar.BIG; omega)]
      · rw [if_neg h4, if_neg (show ¬ Vbdcar.BIG < _ by unfold Vbdcar.BIG; omega)]
theorem digNum_le {d : List Nat} {k : Int} (h : digNum (iB d) = some k) : k.natAbs ≤ 1000000000 := by
  rw [digNum_eq] at h
  split at h
  · cases h
  · split at h
    · cases h
    · cases h; omega
theorem number_le {b : List Nat} {k : Int} (h : Vbdcar.number b = some k) : k.natAbs ≤ 1000000000 := by
  by_cases hne : b = []
  · subst hne; rw [show Vbdcar.number [] = none from rfl] at h; cases h
  · rw [← number_eq hne] at h
    unfold numOfData at h
    split at h
    · exact digNum_le h
    · have hd : (iB b).drop 1 = iB (b.drop 1) := by show (List.map _ b).drop 1 = List.map _ (b.drop 1); rw [List.map_drop]
      rw [hd] at h
      cases hn : digNum (iB (b.drop 1)) with
      | none => rw [hn] at h; cases h
      | some n =>
        rw [hn] at h
        have := digNum_le hn
        simp only at h
        split at h
        · cases h
        · cases h; omega
end Bd

end
/-! ## BdReadQ -/
section
namespace Bd
open Vbdcar (Tree Trees Wrong expOf expsOf ascii isFree headOf wordsOf distinct)
/-! ## the reader, in the program's order -/
def parK : List (List Nat) → List Tree → Option (List (List Nat))
  | acc, [] => if acc.length ≤ 4 then some acc else none
  | acc, .word _ b :: r => if (isFree b && !acc.contains b) = true then parK (acc ++ [b]) r else none
  | _, _ => none
theorem parK_eq : ∀ (ps : List Tree) (acc : List (List Nat)), parK acc ps = (wordsOf ps).bind fun l => if (l.all isFree && (distinct l && ((l.all fun x => !acc.contains x) && decide (acc.length + l.length ≤ 4)))) = true then some (acc ++ l) else none
  | [], acc => by
    rw [parK, wordsOf]
    simp only [Option.bind_some, List.all_nil, distinct, Bool.true_and, List.length_nil, Nat.add_zero, decide_eq_true_eq, List.append_nil]
  | .word n b :: r, acc => by
    rw [parK, wordsOf, parK_eq r]
    cases hw : wordsOf r with
    | none => simp
    | some l =>
      simp only [Option.map_some, Option.bind_some, List.all_cons, distinct, List.length_append, List.length_cons, List.length_nil, List.append_assoc, List.singleton_append]
      have e1 : (l.all fun x => !(acc ++ [b]).contains x) = ((l.all fun x => !acc.contains x) && !l.contains b) := by
        rw [Bool.eq_iff_iff]
        simp only [List.all_eq_true, Bool.and_eq_true, Bool.not_eq_true', ← Bool.not_eq_true, List.contains_iff_mem, List.mem_append, List.mem_singleton, not_or]
        constructor
        · intro h
          exact ⟨fun x hx => (h x hx).1, fun hb => (h b hb).2 rfl⟩
        · rintro ⟨h1, h2⟩ x hx
          exact ⟨h1 x hx, fun e => h2 (by rw [← e]; exact hx)⟩
      rw [e1, show acc.length + (0 + 1) + l.length = acc.length + (l.length + 1) by omega]
      rcases Bool.eq_false_or_eq_true (isFree b) with hA | hA <;> rcases Bool.eq_false_or_eq_true (acc.contains b) with hB | hB <;> rcases Bool.eq_false_or_eq_true (l.contains b) with hC | hC <;> rcases Bool.eq_false_or_eq_true (l.all isFree) with hD | hD <;> rcases Bool.eq_false_or_eq_true (distinct l) with hE | hE <;> rcases Bool.eq_false_or_eq_true (l.all fun x => !acc.contains x) with hF | hF <;> simp only [hA, hB, hC, hD, hE, hF, Bool.not_true, Bool.not_false, Bool.and_true, Bool.true_and, Bool.false_and, Bool.and_false, if_true, if_false, Bool.false_eq_true, Bool.and_self]
  | .node n t :: r, acc => by
    rw [parK, wordsOf]
    · rfl
    all_goals intros; simp_all
theorem headOf_word (n : Nat) (b : List Nat) : headOf (.word n b) = none := rfl
theorem headOf_len {n : Nat} {l : Trees} (h : l.list.length ≠ 4) : headOf (.node n l) = none := by
  unfold headOf
  split
  · exfalso
    rename_i e
    cases e
    exact h rfl
  · rfl
abbrev HeadT := List Nat × List (List Nat) × Tree
theorem headOf_four (n : Nat) (w t r b : Tree) : headOf (.node n (.cons w (.cons t (.cons r (.cons b .nil))))) = match w, t, r with
    | .word _ h, .word _ f, .node _ ps => if h = ascii "fun" ∧ isFree f = true then (parK [] ps.list).map (fun l => (f, l, b)) else none
    | _, _, _ => none := by
  cases w with
  | node _ _ => rfl
  | word _ h =>
    cases t with
    | node _ _ => rfl
    | word _ f =>
      cases r with
      | word _ _ => rfl
      | node _ ps =>
        show (if h = ascii "fun" ∧ isFree f = true then (wordsOf ps.list).bind fun l => if (l.all isFree && (distinct l && decide (l.length ≤ 4))) = true then some (f, l, b) else none else none) = _
        by_cases hc : h = ascii "fun" ∧ isFree f = true
        · rw [if_pos hc]
          show _ = (if h = ascii "fun" ∧ isFree f = true then _ else _)
          rw [if_pos hc, parK_eq]
          cases hw : wordsOf ps.list with
          | none => rfl
          | some l =>
            have e1 : (l.all fun x => !([] : List (List Nat)).contains x) = true := by simp
            simp only [Option.bind_some, List.nil_append, List.length_nil, Nat.zero_add, e1, Bool.true_and]
            split <;> rfl
        · rw [if_neg hc]
          show _ = (if h = ascii "fun" ∧ isFree f = true then _ else _)
          rw [if_neg hc]
/-! ## expressions -/
theorem exps_nil (fs : List (List Nat × Nat)) (vs : List (List Nat)) : expsOf fs vs .nil = .ok [] := by rw [expsOf]
theorem exps_cons (fs : List (List Nat × Nat)) (vs : List (List Nat)) (t : Tree) (l : Trees) : expsOf fs vs (.cons t l) = match expOf fs vs t with
    | .error w => .error w
    | .ok e => match expsOf fs vs l with
      | .error w => .error w
      | .ok es => .ok (e :: es) := by
  rw [expsOf]
  cases expOf fs vs t <;> cases expsOf fs vs l <;> rfl
theorem exp_word (fs : List (List Nat × Nat)) (vs : List (List Nat)) (n : Nat) (b : List Nat) : expOf fs vs (.word n b) = match Vbdcar.number b with
    | some k => .ok (.num k)
    | none => if vs.contains b = true then .ok (.var b) else .error ⟨n, 4⟩ := by rw [expOf]; rfl
theorem exp_nil (fs : List (List Nat × Nat)) (vs : List (List Nat)) (n : Nat) : expOf fs vs (.node n .nil) = .error ⟨n, 4⟩ := by rw [expOf]
theorem exp_node (fs : List (List Nat × Nat)) (vs : List (List Nat)) (n m : Nat) (l r : Trees) : expOf fs vs (.node n (.cons (.node m l) r)) = .error ⟨n, 4⟩ := by rw [expOf]
theorem exp_cons (fs : List (List Nat × Nat)) (vs : List (List Nat)) (n m : Nat) (h : List Nat) (r : Trees) : expOf fs vs (.node n (.cons (.word m h) r)) =
      if h = ascii "if" then (match r with
        | .cons a (.cons b (.cons c .nil)) => do return .ite (← expOf fs vs a) (← expOf fs vs b) (← expOf fs vs c)
        | _ => .error ⟨n, 4⟩)
      else if h = ascii "let" then (match r with
        | .cons (.word m x) (.cons a (.cons b .nil)) => if isFree x = false then .error ⟨m, 4⟩ else do return .let_ x (← expOf fs vs a) (← expOf fs (x :: vs) b)
        | _ => .error ⟨n, 4⟩)
      else if h = ascii "each" then (match r with
        | .cons (.word m x) (.cons a (.cons b .nil)) => if isFree x = false then .error ⟨m, 4⟩ else do return .each x (← expOf fs vs a) (← expOf fs (x :: vs) b)
        | _ => .error ⟨n, 4⟩)
      else if h = ascii "keep" then (match r with
        | .cons (.word m x) (.cons a (.cons b .nil)) => if isFree x = false then .error ⟨m, 4⟩ else do return .keep x (← expOf fs vs a) (← expOf fs (x :: vs) b)
        | _ => .error ⟨n, 4⟩)
      else if h = ascii "and" then (match r with
        | .cons a (.cons b .nil) => do return .and_ (← expOf fs vs a) (← expOf fs vs b)
        | _ => .error ⟨n, 4⟩)
      else if h = ascii "or" then (match r with
        | .cons a (.cons b .nil) => do return .or_ (← expOf fs vs a) (← expOf fs vs b)
        | _ => .error ⟨n, 4⟩)
      else match Vbdcar.opOf h with
      | some (o, k) => if (if k = 9 then decide (r.list.length ≤ 8) else r.list.length == k) = true then do return .op o (Vbdcar.Exps.of (← expsOf fs vs r)) else .error ⟨n, 4⟩
      | none => match fs.find? fun x => x.1 == h with
        | some x => if r.list.length = x.2 then do return .call h (Vbdcar.Exps.of (← expsOf fs vs r)) else .error ⟨n, 4⟩
        | none => .error ⟨n, 4⟩ := by
  rw [Vbdcar.expOf.eq_def]
  rfl
def bindE (h x : List Nat) (a b : Exp) : Exp := if h = ascii "let" then .let_ x a b else if h = ascii "each" then .each x a b else .keep x a b
def isBind (h : List Nat) : Prop := h = ascii "let" ∨ h = ascii "each" ∨ h = ascii "keep"
def formN (h : List Nat) : Nat := if h = ascii "if" then 3 else 2
def formE (h : List Nat) (es : List Exp) : Exp := if h = ascii "if" then .ite (es.getD 0 (.num 0)) (es.getD 1 (.num 0)) (es.getD 2 (.num 0)) else if h = ascii "and" then .and_ (es.getD 0 (.num 0)) (es.getD 1 (.num 0)) else .or_ (es.getD 0 (.num 0)) (es.getD 1 (.num 0))
def isForm (h : List Nat) : Prop := h = ascii "if" ∨ h = ascii "and" ∨ h = ascii "or"
variable {fs : List (List Nat × Nat)} {vs : List (List Nat)} {n m : Nat}
theorem exp_bind {h : List Nat} (hh : isBind h) (k : Nat) (x : List Nat) (a b : Tree) : expOf fs vs (.node n (.cons (.word m h) (.cons (.word k x) (.cons a (.cons b .nil))))) = if isFree x = false then .error ⟨k, 4⟩ else match expOf fs vs a with
    | .error w => .error w
    | .ok ea => match expOf fs (x :: vs) b with
      | .error w => .error w
      | .ok eb => .ok (bindE h x ea eb) := by
  rcases hh with rfl | rfl | rfl
  · rw [exp_cons, if_neg (by decide +kernel), if_pos rfl]
    dsimp only
    by_cases hx : isFree x = false
    · rw [if_pos hx, if_pos hx]
    · rw [if_neg hx, if_neg hx]
      have e : ∀ a b, bindE (ascii "let") x a b = .let_ x a b := fun a b => if_pos rfl
      simp only [e]
      cases expOf fs vs a <;> cases expOf fs (x :: vs) b <;> rfl
  · rw [exp_cons, if_neg (by decide +kernel), if_neg (by decide +kernel), if_pos rfl]
    dsimp only
    by_cases hx : isFree x = false
    · rw [if_pos hx, if_pos hx]
    · rw [if_neg hx, if_neg hx]
      have e : ∀ a b, bindE (ascii "each") x a b = .each x a b := fun a b => by unfold bindE; rw [if_neg (by decide +kernel), if_pos rfl]
      simp only [e]
      cases expOf fs vs a <;> cases expOf fs (x :: vs) b <;> rfl
  · rw [exp_cons, if_neg (by decide +kernel), if_neg (by decide +kernel), if_neg (by decide +kernel), if_pos rfl]
    dsimp only
    by_cases hx : isFree x = false
    · rw [if_pos hx, if_pos hx]
    · rw [if_neg hx, if_neg hx]
      have e : ∀ a b, bindE (ascii "keep") x a b = .keep x a b := fun a b => by unfold bindE; rw [if_neg (by decide +kernel), if_neg (by decide +kernel)]
      simp only [e]
      cases expOf fs vs a <;> cases expOf fs (x :: vs) b <;> rfl
/-- a binding whose parts are not a word and two trees -/
theorem exp_bind_bad {h : List Nat} (hh : isBind h) {r : Trees} (hr : ∀ k x a b, r ≠ .cons (.word k x) (.cons a (.cons b .nil))) : expOf fs vs (.node n (.cons (.word m h) r)) = .error ⟨n, 4⟩ := by
  rcases hh with rfl | rfl | rfl
  · rw [exp_cons, if_neg (by decide +kernel), if_pos rfl]
    split
    · exact absurd rfl (hr _ _ _ _)
    · rfl
  · rw [exp_cons, if_neg (by decide +kernel), if_neg (by decide +kernel), if_pos rfl]
    split
    · exact absurd rfl (hr _ _ _ _)
    · rfl
  · rw [exp_cons, if_neg (by decide +kernel), if_neg (by decide +kernel), if_neg (by decide +kernel), if_pos rfl]
    split
    · exact absurd rfl (hr _ _ _ _)
    · rfl
theorem exp_form {h : List Nat} (hh : isForm h) (r : Trees) : expOf fs vs (.node n (.cons (.word m h) r)) = if r.list.length = formN h then (match expsOf fs vs r with
    | .error w => .error w
    | .ok es => .ok (formE h es)) else .error ⟨n, 4⟩ := by
  rcases hh with rfl | rfl | rfl
  · rw [exp_cons, if_pos rfl]
    have e1 : formN (ascii "if") = 3 := if_pos rfl
    have e2 : ∀ es, formE (ascii "if") es = .ite (es.getD 0 (.num 0)) (es.getD 1 (.num 0)) (es.getD 2 (.num 0)) := fun es => if_pos rfl
    rw [e1]
    simp only [e2]
    match r with
    | .nil => rfl
    | .cons a .nil => rfl
    | .cons a (.cons b .nil) => rfl
    | .cons a (.cons b (.cons c .nil)) =>
      rw [exps_cons, exps_cons, exps_cons, exps_nil, if_pos (by rfl)]
      dsimp only
      cases expOf fs vs a <;> cases expOf fs vs b <;> cases expOf fs vs c <;> rfl
    | .cons a (.cons b (.cons c (.cons d l))) =>
      rw [if_neg (by simp [Trees.list])]
  · rw [exp_cons, if_neg (by decide +kernel), if_neg (by decide +kernel), if_neg (by decide +kernel), if_neg (by decide +kernel), if_pos rfl]
    have e1 : formN (ascii "and") = 2 := if_neg (by decide +kernel)
    have e2 : ∀ es, formE (ascii "and") es = .and_ (es.getD 0 (.num 0)) (es.getD 1 (.num 0)) := fun es => by unfold formE; rw [if_neg (by decide +kernel), if_pos rfl]
    rw [e1]
    simp only [e2]
    match r with
    | .nil => rfl
    | .cons a .nil => rfl
    | .cons a (.cons b .nil) =>
      rw [exps_cons, exps_cons, exps_nil, if_pos (by rfl)]
      dsimp only
      cases expOf fs vs a <;> cases expOf fs vs b <;> rfl
    | .cons a (.cons b (.cons c l)) =>
      rw [if_neg (by simp [Trees.list])]
  · rw [exp_cons, if_neg (by decide +kernel), if_neg (by decide +kernel), if_neg (by decide +kernel), if_neg (by decide +kernel), if_neg (by decide +kernel), if_pos rfl]
    have e1 : formN (ascii "or") = 2 := if_neg (by decide +kernel)
    have e2 : ∀ es, formE (ascii "or") es = .or_ (es.getD 0 (.num 0)) (es.getD 1 (.num 0)) := fun es => by unfold formE; rw [if_neg (by decide +kernel), if_neg (by decide +kernel)]
    rw [e1]
    simp only [e2]
    match r with
    | .nil => rfl
    | .cons a .nil => rfl
    | .cons a (.cons b .nil) =>
      rw [exps_cons, exps_cons, exps_nil, if_pos (by rfl)]
      dsimp only
      cases expOf fs vs a <;> cases expOf fs vs b <;> rfl
    | .cons a (.cons b (.cons c l)) =>
      rw [if_neg (by simp [Trees.list])]
theorem exp_op {h : List Nat} (hh : h ∉ wF) {o k : Nat} (ho : Vbdcar.opOf h = some (o, k)) (r : Trees) : expOf fs vs (.node n (.cons (.word m h) r)) = if (if k = 9 then decide (r.list.length ≤ 8) else r.list.length == k) = true then (match expsOf fs vs r with
    | .error w => .error w
    | .ok es => .ok (.op o (Vbdcar.Exps.of es))) else .error ⟨n, 4⟩ := by
  have ne : ∀ s ∈ ["if", "let", "each", "keep", "and", "or"], ¬ h = ascii s := fun s hs e => hh (by rw [e]; exact List.mem_map_of_mem hs)
  rw [exp_cons, if_neg (ne _ (by simp)), if_neg (ne _ (by simp)), if_neg (ne _ (by simp)), if_neg (ne _ (by simp)), if_neg (ne _ (by simp)), if_neg (ne _ (by simp)), ho]
  dsimp only
  generalize (if k = 9 then decide (r.list.length ≤ 8) else r.list.length == k) = c
  cases c
  · rfl
  · cases expsOf fs vs r <;> rfl
theorem exp_call {h : List Nat} (hh : h ∉ wF) (ho : Vbdcar.opOf h = none) (r : Trees) : expOf fs vs (.node n (.cons (.word m h) r)) = match fs.find? fun x => x.1 == h with
    | some x => if r.list.length = x.2 then (match expsOf fs vs r with
      | .error w => .error w
      | .ok es => .ok (.call h (Vbdcar.Exps.of es))) else .error ⟨n, 4⟩
    | none => .error ⟨n, 4⟩ := by
  have ne : ∀ s ∈ ["if", "let", "each", "keep", "and", "or"], ¬ h = ascii s := fun s hs e => hh (by rw [e]; exact List.mem_map_of_mem hs)
  rw [exp_cons, if_neg (ne _ (by simp)), if_neg (ne _ (by simp)), if_neg (ne _ (by simp)), if_neg (ne _ (by simp)), if_neg (ne _ (by simp)), if_neg (ne _ (by simp)), ho]
  cases hf : fs.find? fun x => x.1 == h with
  | none => simp only [hf]
  | some x =>
    simp only [hf]
    split
    · cases expsOf fs vs r <;> rfl
    · rfl
end Bd

end
/-! ## BdReadW -/
section
namespace Bd
open Vbdcar (Tree Trees Wrong expOf expsOf ascii isFree headOf wordsOf distinct)
/-! ## what the reader lets through -/
theorem dec_len {n : Int} (h : n.natAbs ≤ 1000000000) : (Vbdcar.dec n).length ≤ 11 := by
  have key : ∀ k : Nat, k ≤ 1000000000 → (Vbdcar.dec (k : Int)).length ≤ 10 := by
    intro k hk
    have e : Vbdcar.dec (k : Int) = TL.numL k := by
      have h1 := TL.tl_num k
      rw [TL.tl_ofString] at h1
      exact h1
    rw [e]
    exact TL.numL_len (by decide) (Nat.lt_of_le_of_lt hk (by decide))
  cases n with
  | ofNat k => have := key k (by simpa using h); exact Nat.le_succ_of_le this
  | negSucc k =>
    have h1 := key (k + 1) (by simpa using h)
    have e : Vbdcar.dec (Int.negSucc k) = 45 :: Vbdcar.dec ((k + 1 : Nat) : Int) := by
      unfold Vbdcar.dec
      have : toString (Int.negSucc k) = "-" ++ toString (k + 1) := rfl
      have h2 : toString ((k + 1 : Nat) : Int) = toString (k + 1) := rfl
      rw [this, h2, String.toList_append, List.map_append]
      rfl
    rw [e, List.length_cons]
    omega
theorem spc_sum : ∀ l : List Bts, (spc l).length ≤ (l.map fun x => x.length + 1).sum := by
  intro l
  cases l with
  | nil => simp [spc]
  | cons x r =>
    have key : ∀ r : List Bts, (r.flatMap fun y => 32 :: y).length = (r.map fun x => x.length + 1).sum := by
      intro r
      induction r with
      | nil => rfl
      | cons y q ih => rw [List.flatMap_cons, List.length_append, ih, List.map_cons, List.sum_cons, List.length_cons]
    rw [spc, List.length_append, key, List.map_cons, List.sum_cons]
    omega
theorem isFree_len {b : List Nat} (h : isFree b = true) : b.length ≤ 8 ∧ b ≠ [] ∧ b.all lowB = true := by
  unfold isFree Vbdcar.isName at h
  simp only [Bool.and_eq_true, decide_eq_true_eq] at h
  refine ⟨h.1.1.2, fun e => by rw [e] at h; exact absurd h.1.1.1 (by decide), ?_⟩
  exact h.1.2
theorem distinct_nodup : ∀ {l : List (List Nat)}, distinct l = true → l.Nodup
  | [], _ => .nil
  | x :: r, h => by
    rw [distinct, Bool.and_eq_true, Bool.not_eq_true', ← Bool.not_eq_true, List.contains_iff_mem] at h
    exact List.nodup_cons.mpr ⟨h.1, distinct_nodup h.2⟩
theorem opOf_get {h : List Nat} {o k : Nat} (e : Vbdcar.opOf h = some (o, k)) : o < 21 ∧ Vbdcar.OPS.getD o ([], 0) = (h, k) := by
  unfold Vbdcar.opOf at e
  simp only at e
  cases hx : Vbdcar.OPS[Vbdcar.OPS.findIdx fun x => x.1 == h]? with
  | none => rw [hx] at e; cases e
  | some x =>
    rw [hx] at e
    simp only [Option.map_some, Option.some.injEq, Prod.mk.injEq] at e
    obtain ⟨e1, e2⟩ := e
    obtain ⟨hi, hg⟩ := List.getElem?_eq_some_iff.mp hx
    have hp := List.findIdx_getElem (w := hi)
    rw [hg] at hp
    rw [e1] at hx hi
    refine ⟨Nat.lt_of_lt_of_le hi (by decide +kernel), ?_⟩
    rw [List.getD_eq_getElem?_getD, hx]
    show x = (h, k)
    rw [← e2, ← beq_iff_eq.mp hp]
theorem op_arity : ∀ o < 21, ((Vbdcar.OPS.getD o ([], 0)).2 = 9 ∧ o = 8) ∨ ((Vbdcar.OPS.getD o ([], 0)).2 = 1 ∧ One o) ∨ ((Vbdcar.OPS.getD o ([], 0)).2 = 2 ∧ Two o) := by decide +kernel
theorem take_arity {h : List Nat} {o k n : Nat} (e : Vbdcar.opOf h = some (o, k)) (hn : (if k = 9 then decide (n ≤ 8) else n == k) = true) : arity o n := by
  obtain ⟨h1, h2⟩ := opOf_get e
  have h3 := op_arity o h1
  rw [h2] at h3
  rcases h3 with ⟨h3, h4⟩ | ⟨h3, h4⟩ | ⟨h3, h4⟩
  · replace h3 : k = 9 := h3
    rw [if_pos h3] at hn
    exact .inl ⟨h4, of_decide_eq_true hn⟩
  · replace h3 : k = 1 := h3
    rw [if_neg (by omega)] at hn
    exact .inr (.inl ⟨h4, by rw [beq_iff_eq.mp hn, h3]⟩)
  · replace h3 : k = 2 := h3
    rw [if_neg (by omega)] at hn
    exact .inr (.inr ⟨h4, by rw [beq_iff_eq.mp hn, h3]⟩)
structure FsOk (funs : List Vbdcar.Fun) (fs : List (List Nat × Nat)) : Prop where
  eq : fs = funs.map fun f => (f.name, f.params.length)
  ok : ∀ f, f ∈ funs → f.name.length ≤ 8 ∧ f.params.Nodup ∧ f.params.length ≤ 4
def NmOk (vs : List (List Nat)) : Prop := ∀ x, x ∈ vs → x.length ≤ 8
structure Good (funs : List Vbdcar.Fun) (vs : List (List Nat)) (t : Tree) (e : Exp) : Prop where
  we : WE funs vs e
  fok : FOk e
  dp : deep e ≤ tdeep t
  sh : (Vbdcar.shown e).length + 1 ≤ 25 * tnum t
theorem find_fs {funs : List Vbdcar.Fun} {g : List Nat} {x : List Nat × Nat} (h : (funs.map fun f => (f.name, f.params.length)).find? (fun x => x.1 == g) = some x) : ∃ f, funs.find? (fun f => f.name == g) = some f ∧ x = (f.name, f.params.length) := by
  rw [List.find?_map] at h
  cases hf : funs.find? ((fun x => x.1 == g) ∘ fun f => (f.name, f.params.length)) with
  | none => rw [hf] at h; cases h
  | some f =>
    rw [hf] at h
    cases h
    exact ⟨f, hf, rfl⟩
section
variable {funs : List Vbdcar.Fun} {fs : List (List Nat × Nat)} {vs : List (List Nat)}
theorem exps_ok : ∀ {l : Trees} {es : List Exp}, (∀ t ∈ l.list, ∀ e, expOf fs vs t = .ok e → Good funs vs t e) → expsOf fs vs l = .ok es → es.length = l.list.length ∧ (∀ c, c ∈ es → WE funs vs c ∧ FOk c ∧ deep c ≤ tdeeps l) ∧ (es.map fun c => (Vbdcar.shown c).length + 1).sum ≤ 25 * tnums l
  | .nil, es, _, h => by
    rw [exps_nil] at h
    cases h
    exact ⟨rfl, fun c hc => by simp at hc, Nat.zero_le _⟩
  | .cons t l, es, H, h => by
    rw [exps_cons] at h
    cases ht : expOf fs vs t with
    | error w => rw [ht] at h; cases h
    | ok e =>
      rw [ht] at h
      cases hl : expsOf fs vs l with
      | error w => rw [hl] at h; cases h
      | ok es' =>
        rw [hl] at h
        cases h
        obtain ⟨h1, h2, h3⟩ := exps_ok (l := l) (fun u hu => H u (by rw [Trees.list]; simp [hu])) hl
        have g := H t (by rw [Trees.list]; simp) e ht
        refine ⟨by rw [List.length_cons, Trees.list, List.length_cons, h1], fun c hc => ?_, ?_⟩
        · rw [tdeeps]
          rcases List.mem_cons.mp hc with rfl | hc
          · exact ⟨g.we, g.fok, Nat.le_trans g.dp (Nat.le_max_left _ _)⟩
          · obtain ⟨a, b, d⟩ := h2 c hc
            exact ⟨a, b, Nat.le_trans d (Nat.le_max_right _ _)⟩
        · rw [List.map_cons, List.sum_cons, tnums]
          have := g.sh
          omega
theorem deeps_le : ∀ (l : Vbdcar.Exps) (d : Nat), (∀ c, c ∈ l.list → deep c ≤ d) → deeps l ≤ d
  | .nil, d, _ => by rw [deeps]; omega
  | .cons e l, d, h => by
    rw [Vbdcar.Exps.list] at h
    have h1 := h e (by simp)
    have h2 := deeps_le l d fun u hu => h u (by simp [hu])
    rw [deeps]; omega
theorem shown_sum {e : Exp} (h : leaf e = false) : (Vbdcar.shown e).length ≤ ((headR e).map fun x => x.length + 1).sum + ((innerOf e).map fun c => (Vbdcar.shown c).length + 1).sum + 2 := by
  rw [shown_eq h, bracket_len]
  have := spc_sum (headR e ++ (innerOf e).map Vbdcar.shown)
  rw [List.map_append, List.sum_append, List.map_map] at this
  have e1 : ((innerOf e).map ((fun x : Bts => x.length + 1) ∘ Vbdcar.shown)).sum = ((innerOf e).map fun c => (Vbdcar.shown c).length + 1).sum := rfl
  omega
theorem num_good {n : Nat} {b : List Nat} {k : Int} (h : Vbdcar.number b = some k) : Good funs vs (.word n b) (.num k) :=
  ⟨.num, fok_num (number_le h), by rw [deep]; exact Nat.zero_le _, by
    have := dec_len (number_le h)
    rw [Vbdcar.shown, tnum]; omega⟩
theorem getD_mem {es : List Exp} {i : Nat} (h : i < es.length) : es.getD i (.num 0) ∈ es := by
  rw [List.getD_eq_getElem?_getD, List.getElem?_eq_getElem h]
  exact List.getElem_mem h
theorem exp_good (F : FsOk funs fs) : ∀ (N : Nat) (t : Tree) (vs : List (List Nat)) (e : Exp), tnum t < N → NmOk vs → expOf fs vs t = .ok e → Good funs vs t e
  | 0, t, vs, e, h, _, _ => absurd h (Nat.not_lt_zero _)
  | N + 1, .word n b, vs, e, _, hv, h => by
    rw [exp_word] at h
    cases hb : Vbdcar.number b with
    | some k =>
      rw [hb] at h
      cases h
      exact num_good hb
    | none =>
      rw [hb] at h
      simp only at h
      split at h
      · rename_i hc
        cases h
        have hm : b ∈ vs := List.contains_iff_mem.mp hc
        refine ⟨.var hm, .mk (fun m q => by cases q) (fun o l q => by cases q) (by simp [innerOf]) (fun c hc => by simp [innerOf] at hc), by rw [deep]; exact Nat.zero_le _, ?_⟩
        have := hv b hm
        rw [Vbdcar.shown, tnum]
        omega
      · cases h
  | N + 1, .node n .nil, vs, e, _, _, h => by rw [exp_nil] at h; cases h
  | N + 1, .node n (.cons (.node m l) r), vs, e, _, _, h => by rw [exp_node] at h; cases h
  | N + 1, .node n (.cons (.word m hd) r), vs, e, hN, hv, h => by
    have hnum : tnum (.node n (.cons (.word m hd) r)) = tnums r + 2 := by rw [tnum, tnums, tnum]; omega
    have hdp : tdeep (.node n (.cons (.word m hd) r)) = tdeeps r + 1 := by rw [tdeep, tdeeps, tdeep]; omega
    have mem_num : ∀ t, t ∈ r.list → tnum t ≤ tnums r := by
      intro t ht
      have key : ∀ (r : Trees), t ∈ r.list → tnum t ≤ tnums r := by
        intro r
        induction r using Trees.rec (motive_1 := fun _ => True) with
        | word => trivial
        | node => trivial
        | nil => intro h; simp [Trees.list] at h
        | cons u l _ ih =>
          intro h
          rw [Trees.list] at h
          rw [tnums]
          rcases List.mem_cons.mp h with rfl | h
          · omega
          · have := ih h; omega
      exact key r ht
    rw [hnum] at hN
    have sub : ∀ vs, NmOk vs → ∀ t ∈ r.list, ∀ e, expOf fs vs t = .ok e → Good funs vs t e := fun vs hv t ht e he => exp_good F N t vs e (by have := mem_num t ht; omega) hv he
    by_cases hwf : hd ∈ wF
    · have hcase : isBind hd ∨ isForm hd := by
        unfold wF at hwf
        simp only [List.map_cons, List.map_nil, List.mem_cons, List.not_mem_nil, or_false] at hwf
        rcases hwf with h | h | h | h | h | h
        · exact .inr (.inl h)
        · exact .inl (.inl h)
        · exact .inl (.inr (.inl h))
        · exact .inl (.inr (.inr h))
        · exact .inr (.inr (.inl h))
        · exact .inr (.inr (.inr h))
      rcases hcase with hb | hf
      · by_cases hr : ∃ k x a b, r = .cons (.word k x) (.cons a (.cons b .nil))
        · obtain ⟨k, x, a, b, rfl⟩ := hr
          rw [exp_bind hb] at h
          split at h
          · cases h
          · rename_i hfx
            have hfx : isFree x = true := by simpa using hfx
            cases ha : expOf fs vs a with
            | error w => rw [ha] at h; cases h
            | ok ea =>
              rw [ha] at h
              cases hbb : expOf fs (x :: vs) b with
              | error w => rw [hbb] at h; cases h
              | ok eb =>
                rw [hbb] at h
                cases h
                have hx8 := (isFree_len hfx).1
                have ga := sub vs hv a (by simp [Trees.list]) ea ha
                have gb := sub (x :: vs) (fun y hy => by rcases List.mem_cons.mp hy with rfl | hy; exact hx8; exact hv y hy) b (by simp [Trees.list]) eb hbb
                have e1 : tnums (.cons (.word k x) (.cons a (.cons b .nil))) = 1 + (tnum a + (tnum b + 0)) := by rw [tnums, tnum, tnums, tnums, tnums]
                have e2 : tdeeps (.cons (.word k x) (.cons a (.cons b .nil))) = max 0 (max (tdeep a) (max (tdeep b) 0)) := by rw [tdeeps, tdeep, tdeeps, tdeeps, tdeeps]
                have s1 := ga.sh
                have s2 := gb.sh
                have d1 := ga.dp
                have d2 := gb.dp
                have hin : ∀ e, innerOf e = [ea, eb] → leaf e = false → (∀ z ∈ (headR e).map fun x => x.length + 1, z ≤ 9) → (headR e).length ≤ 2 → (∀ n, e ≠ .num n) → (∀ o l, e ≠ .op o l) → WE funs vs e → deep e ≤ max (deep ea) (deep eb) + 1 → Good funs vs (.node n (.cons (.word m hd) (.cons (.word k x) (.cons a (.cons b .nil))))) e := by
                  intro e hi hl hs hs2 hn ho hwe hde
                  refine ⟨hwe, .mk (fun k q => absurd q (hn k)) (fun o l q => absurd q (ho o l)) (by rw [hi]; simp) (fun c hc => ?_), ?_, ?_⟩
                  · rw [hi] at hc
                    simp only [List.mem_cons, List.not_mem_nil, or_false] at hc
                    rcases hc with rfl | rfl
                    · exact ga.fok
                    · exact gb.fok
                  · rw [hdp, e2]; omega
                  · have h5 := shown_sum hl
                    rw [hi] at h5
                    simp only [List.map_cons, List.map_nil, List.sum_cons, List.sum_nil] at h5
                    have h6 : ((headR e).map fun x => x.length + 1).sum ≤ 18 := by
                      cases hh : headR e with
                      | nil => simp
                      | cons p q =>
                        rw [hh] at hs hs2
                        cases q with
                        | nil => have := hs (p.length + 1) (by simp); simp; omega
                        | cons p2 q2 =>
                          cases q2 with
                          | nil => have := hs (p.length + 1) (by simp); have := hs (p2.length + 1) (by simp); simp; omega
                          | cons _ _ => simp at hs2
                    rw [hnum, e1]; omega
                unfold bindE
                have l5 : ∀ s ∈ ["let", "each", "keep"], (ascii s).length ≤ 8 := by decide +kernel
                split
                · refine hin _ rfl rfl (fun z hz => ?_) (by simp [headR]) (fun n q => by cases q) (fun o l q => by cases q) (.let_ ga.we gb.we) (by rw [deep]; omega)
                  simp only [headR, List.map_cons, List.map_nil, List.mem_cons, List.not_mem_nil, or_false] at hz
                  have := l5 "let" (by simp)
                  rcases hz with rfl | rfl <;> omega
                · split
                  · refine hin _ rfl rfl (fun z hz => ?_) (by simp [headR]) (fun n q => by cases q) (fun o l q => by cases q) (.each ga.we gb.we) (by rw [deep]; omega)
                    simp only [headR, List.map_cons, List.map_nil, List.mem_cons, List.not_mem_nil, or_false] at hz
                    have := l5 "each" (by simp)
                    rcases hz with rfl | rfl <;> omega
                  · refine hin _ rfl rfl (fun z hz => ?_) (by simp [headR]) (fun n q => by cases q) (fun o l q => by cases q) (.keep ga.we gb.we) (by rw [deep]; omega)
                    simp only [headR, List.map_cons, List.map_nil, List.mem_cons, List.not_mem_nil, or_false] at hz
                    have := l5 "keep" (by simp)
                    rcases hz with rfl | rfl <;> omega
        · rw [exp_bind_bad hb (fun k x a b q => hr ⟨k, x, a, b, q⟩)] at h
          cases h
      · rw [exp_form hf] at h
        split at h
        · rename_i hlen
          cases hes : expsOf fs vs r with
          | error w => rw [hes] at h; cases h
          | ok es =>
            rw [hes] at h
            cases h
            obtain ⟨h1, h2, h3⟩ := exps_ok (sub vs hv) hes
            rw [hlen] at h1
            have l3 : ∀ s ∈ ["if", "and", "or"], (ascii s).length ≤ 8 := by decide +kernel
            have fin : ∀ e, leaf e = false → innerOf e = es → (headR e).length ≤ 1 → (∀ x ∈ headR e, x.length ≤ 8) → es.length ≤ 8 → (∀ n, e ≠ .num n) → (∀ o l, e ≠ .op o l) → WE funs vs e → deep e ≤ tdeeps r + 1 → Good funs vs (.node n (.cons (.word m hd) r)) e := by
              intro e hl hi hh1 hh2 h8 hn ho hwe hde
              refine ⟨hwe, .mk (fun k q => absurd q (hn k)) (fun o l q => absurd q (ho o l)) (by rw [hi]; exact h8) (fun c hc => ?_), by rw [hdp]; exact hde, ?_⟩
              · rw [hi] at hc; exact (h2 c hc).2.1
              · have h5 := shown_sum hl
                rw [hi] at h5
                have h6 : ((headR e).map fun x => x.length + 1).sum ≤ 9 := by
                  cases hh : headR e with
                  | nil => simp
                  | cons p q =>
                    rw [hh] at hh1 hh2
                    cases q with
                    | nil => have := hh2 p (by simp); simp; omega
                    | cons _ _ => simp at hh1
                rw [hnum]; omega
            unfold formE
            by_cases hif : hd = ascii "if"
            · have hn : es.length = 3 := by rw [h1, formN, if_pos hif]
              obtain ⟨x, y, z, rfl⟩ := len3 hn
              rw [if_pos hif]
              have w0 := h2 x (by simp)
              have w1 := h2 y (by simp)
              have w2 := h2 z (by simp)
              refine fin _ rfl rfl (by simp [headR]) (fun x hx => ?_) (by simp) (fun n q => by cases q) (fun o l q => by cases q) (.ite w0.1 w1.1 w2.1) ?_
              · simp only [headR, List.mem_cons, List.not_mem_nil, or_false] at hx
                rw [hx]; exact l3 "if" (by simp)
              · show deep (.ite x y z) ≤ _
                rw [deep]; omega
            · have hn : es.length = 2 := by rw [h1, formN, if_neg hif]
              obtain ⟨x, y, rfl⟩ := len2 hn
              rw [if_neg hif]
              have w0 := h2 x (by simp)
              have w1 := h2 y (by simp)
              split
              · refine fin _ rfl rfl (by simp [headR]) (fun x hx => ?_) (by simp) (fun n q => by cases q) (fun o l q => by cases q) (.and_ w0.1 w1.1) ?_
                · simp only [headR, List.mem_cons, List.not_mem_nil, or_false] at hx
                  rw [hx]; exact l3 "and" (by simp)
                · show deep (.and_ x y) ≤ _
                  rw [deep]; omega
              · refine fin _ rfl rfl (by simp [headR]) (fun x hx => ?_) (by simp) (fun n q => by cases q) (fun o l q => by cases q) (.or_ w0.1 w1.1) ?_
                · simp only [headR, List.mem_cons, List.not_mem_nil, or_false] at hx
                  rw [hx]; exact l3 "or" (by simp)
                · show deep (.or_ x y) ≤ _
                  rw [deep]; omega
        · cases h
    · cases ho : Vbdcar.opOf hd with
      | some x =>
        obtain ⟨o, k⟩ := x
        rw [exp_op hwf ho] at h
        by_cases htk : (if k = 9 then decide (r.list.length ≤ 8) else r.list.length == k) = true
        · rw [if_pos htk] at h
          cases hes : expsOf fs vs r with
          | error w => rw [hes] at h; cases h
          | ok es =>
            rw [hes] at h
            cases h
            obtain ⟨h1, h2, h3⟩ := exps_ok (sub vs hv) hes
            have har := take_arity ho htk
            rw [← h1] at har
            have h8 : es.length ≤ 8 := by rcases har with ⟨_, h⟩ | ⟨_, h⟩ | ⟨_, h⟩ <;> omega
            have hl : (Vbdcar.Exps.of es).list = es := list_ofs es
            refine ⟨.op (fun c hc => (h2 c (by rw [hl] at hc; exact hc)).1), .mk (fun k q => by cases q) (fun o' l' q => by cases q; rw [hl]; exact har) (by show (Vbdcar.Exps.of es).list.length ≤ 8; rw [hl]; exact h8) (fun c hc => (h2 c (by have hc : c ∈ (Vbdcar.Exps.of es).list := hc; rw [hl] at hc; exact hc)).2.1), ?_, ?_⟩
            · rw [hdp, deep]
              have := deeps_le (Vbdcar.Exps.of es) (tdeeps r) fun c hc => (h2 c (by rw [hl] at hc; exact hc)).2.2
              omega
            · have h5 := shown_sum (e := .op o (Vbdcar.Exps.of es)) rfl
              have hi : innerOf (.op o (Vbdcar.Exps.of es)) = es := hl
              rw [hi] at h5
              have h6 : ∀ o < 21, (Vbdcar.OPS.getD o ([], 0)).1.length ≤ 8 := by decide +kernel
              have h7 := h6 o (opOf_get ho).1
              simp only [headR, List.map_cons, List.map_nil, List.sum_cons, List.sum_nil] at h5
              rw [hnum]; omega
        · rw [if_neg htk] at h; cases h
      | none =>
        rw [exp_call hwf ho, F.eq] at h
        cases hff : (funs.map fun f => (f.name, f.params.length)).find? (fun x => x.1 == hd) with
        | none => rw [hff] at h; cases h
        | some x =>
          rw [hff] at h
          obtain ⟨f, hf1, rfl⟩ := find_fs hff
          simp only at h
          split at h
          · rename_i hlen
            rw [← F.eq] at h
            cases hes : expsOf fs vs r with
            | error w => rw [hes] at h; cases h
            | ok es =>
              rw [hes] at h
              cases h
              obtain ⟨h1, h2, h3⟩ := exps_ok (sub vs hv) hes
              obtain ⟨f8, fnd, f4⟩ := F.ok f (List.mem_of_find?_eq_some hf1)
              have hname : f.name = hd := beq_iff_eq.mp (List.find?_some (p := fun f : Vbdcar.Fun => f.name == hd) hf1)
              have hl : (Vbdcar.Exps.of es).list = es := list_ofs es
              have hpl : f.params.length = es.length := by rw [h1]; exact hlen.symm
              refine ⟨.call hf1 (by rw [hl]; exact hpl) fnd f4 (fun c hc => (h2 c (by rw [hl] at hc; exact hc)).1), .mk (fun k q => by cases q) (fun o' l' q => by cases q) (by show (Vbdcar.Exps.of es).list.length ≤ 8; rw [hl]; omega) (fun c hc => (h2 c (by have hc : c ∈ (Vbdcar.Exps.of es).list := hc; rw [hl] at hc; exact hc)).2.1), ?_, ?_⟩
              · rw [hdp, deep]
                have := deeps_le (Vbdcar.Exps.of es) (tdeeps r) fun c hc => (h2 c (by rw [hl] at hc; exact hc)).2.2
                omega
              · have h5 := shown_sum (e := .call hd (Vbdcar.Exps.of es)) rfl
                have hi : innerOf (.call hd (Vbdcar.Exps.of es)) = es := hl
                rw [hi] at h5
                simp only [headR, List.map_cons, List.map_nil, List.sum_cons, List.sum_nil] at h5
                rw [hname] at f8
                rw [hnum]; omega
          · cases h
end
/-! ## functions and the whole -/
theorem words_num : ∀ {l : List Tree} {r : List (List Nat)}, wordsOf l = some r → True := fun _ => True.intro
theorem head_ok {t : Tree} {x : HeadT} (h : headOf t = some x) : isFree x.1 = true ∧ (∀ b ∈ x.2.1, isFree b = true) ∧ x.2.1.Nodup ∧ x.2.1.length ≤ 4 ∧ tdeep x.2.2 ≤ tdeep t ∧ tnum x.2.2 ≤ tnum t := by
  match t, h with
  | .word _ _, h => cases h
  | .node n l, h =>
    by_cases hl : l.list.length = 4
    · match l, hl with
      | .cons w (.cons u (.cons r (.cons b .nil))), _ =>
        rw [headOf_four] at h
        match w, u, r, h with
        | .word _ hd, .word _ f, .node _ ps, h =>
          simp only at h
          split at h
          · rename_i hc
            rw [parK_eq] at h
            cases hw : wordsOf ps.list with
            | none => rw [hw] at h; cases h
            | some q =>
              rw [hw] at h
              simp only [Option.bind_some, List.nil_append] at h
              split at h
              · rename_i hcc
                cases h
                simp only [Bool.and_eq_true, decide_eq_true_eq, List.length_nil, Nat.zero_add] at hcc
                refine ⟨hc.2, fun b hb => List.all_eq_true.mp hcc.1 b hb, distinct_nodup hcc.2.1, hcc.2.2.2, ?_, ?_⟩
                · show tdeep b ≤ tdeep _
                  rw [tdeep, tdeeps, tdeeps, tdeeps, tdeeps, tdeeps]; omega
                · show tnum b ≤ tnum _
                  rw [tnum, tnums, tnums, tnums, tnums, tnums]; omega
              · cases h
          · cases h
        | .node _ _, _, _, h => cases h
        | .word _ _, .node _ _, _, h => cases h
        | .word _ _, .word _ _, .word _ _, h => cases h
    · rw [headOf_len hl] at h; cases h
theorem heads_ok : ∀ {l : List Tree} {fs0 fs : List (List Nat × Nat)}, Vbdcar.heads fs0 l = .ok fs → fs0.length ≤ 8 → fs.length ≤ 8 ∧ ∃ hs : List HeadT, hs.length = l.length ∧ (∀ (i : Nat) t x, l[i]? = some t → hs[i]? = some x → headOf t = some x) ∧ fs = fs0 ++ hs.map fun x => (x.1, x.2.1.length)
  | [], fs0, fs, h, h8 => by
    rw [Vbdcar.heads] at h
    cases h
    exact ⟨h8, [], rfl, fun i t x e => by simp at e, by simp⟩
  | t :: r, fs0, fs, h, h8 => by
    rw [Vbdcar.heads] at h
    cases hx : headOf t with
    | none => rw [hx] at h; cases h
    | some x =>
      rw [hx] at h
      simp only at h
      split at h
      · cases h
      · rename_i hc
        have h8' : ¬ 8 ≤ fs0.length := fun z => hc (.inr z)
        obtain ⟨a, hs, b, c, d⟩ := heads_ok h (by simp; omega)
        refine ⟨a, x :: hs, by simp [b], fun i u y e1 e2 => ?_, by rw [d]; simp⟩
        cases i with
        | zero => cases e1; cases e2; exact hx
        | succ i => exact c i u y (by simpa using e1) (by simpa using e2)
theorem bodies_nil (fs : List (List Nat × Nat)) : Vbdcar.bodies fs [] = .ok [] := rfl
theorem bodies_cons (fs : List (List Nat × Nat)) (t : Tree) (r : List Tree) {x : HeadT} (h : headOf t = some x) : Vbdcar.bodies fs (t :: r) = match expOf fs (x.2.1 ++ Vbdcar.INPUTS) x.2.2 with
    | .error w => .error w
    | .ok e => match Vbdcar.bodies fs r with
      | .error w => .error w
      | .ok q => .ok (⟨x.1, x.2.1, e⟩ :: q) := by
  rw [Vbdcar.bodies, h]
  dsimp only
  cases expOf fs (x.2.1 ++ Vbdcar.INPUTS) x.2.2 <;> cases Vbdcar.bodies fs r <;> rfl
theorem bodies_ok {fs : List (List Nat × Nat)} : ∀ {l : List Tree} {hs : List HeadT} {funs : List Vbdcar.Fun}, hs.length = l.length → (∀ (i : Nat) t x, l[i]? = some t → hs[i]? = some x → headOf t = some x) → Vbdcar.bodies fs l = .ok funs →
    (funs.map fun f => (f.name, f.params.length)) = (hs.map fun x => (x.1, x.2.1.length)) ∧ ∀ f, f ∈ funs → ∃ t x, t ∈ l ∧ headOf t = some x ∧ f.name = x.1 ∧ f.params = x.2.1 ∧ expOf fs (x.2.1 ++ Vbdcar.INPUTS) x.2.2 = .ok f.body
  | [], hs, funs, hl, _, h => by
    rw [bodies_nil] at h
    cases h
    rw [List.length_eq_zero_iff.mp hl]
    exact ⟨rfl, fun f hf => by simp at hf⟩
  | t :: r, [], funs, hl, _, h => by simp at hl
  | t :: r, x :: hs, funs, hl, hh, h => by
    have hx := hh 0 t x rfl rfl
    rw [bodies_cons fs t r hx] at h
    cases he : expOf fs (x.2.1 ++ Vbdcar.INPUTS) x.2.2 with
    | error w => rw [he] at h; cases h
    | ok e =>
      rw [he] at h
      cases hb : Vbdcar.bodies fs r with
      | error w => rw [hb] at h; cases h
      | ok q =>
        rw [hb] at h
        cases h
        obtain ⟨h1, h2⟩ := bodies_ok (l := r) (hs := hs) (by simpa using hl) (fun i u y e1 e2 => hh (i + 1) u y (by simpa using e1) (by simpa using e2)) hb
        refine ⟨by rw [List.map_cons, List.map_cons, h1], fun f hf => ?_⟩
        rcases List.mem_cons.mp hf with rfl | hf
        · exact ⟨t, x, by simp, hx, rfl, rfl, he⟩
        · obtain ⟨u, y, a, b⟩ := h2 f hf
          exact ⟨u, y, by simp [a], b⟩
theorem inputs_short : NmOk Vbdcar.INPUTS := by
  have : ∀ x ∈ Vbdcar.INPUTS, x.length ≤ 8 := by decide +kernel
  exact this
theorem mem_sum {t : Tree} : ∀ {l : List Tree}, t ∈ l → tnum t ≤ (l.map tnum).sum
  | u :: r, h => by
    rw [List.map_cons, List.sum_cons]
    rcases List.mem_cons.mp h with rfl | h
    · omega
    · have := mem_sum h; omega
theorem flat_bound {α : Type} {g : α → List Nat} {B : Nat} : ∀ (l : List α), (∀ x ∈ l, (g x).length ≤ B) → (l.flatMap g).length ≤ l.length * B
  | [], _ => by simp
  | x :: r, h => by
    rw [List.flatMap_cons, List.length_append, List.length_cons, Nat.add_mul, Nat.one_mul]
    have h1 := h x (by simp)
    have h2 := flat_bound r fun y hy => h y (by simp [hy])
    omega
theorem read_ok {b : List Nat} {p : Vbdcar.Prog} (hb : b.length ≤ 4000) (h : Vbdcar.read b = .ok p) : PWF p ∧ PPar p ∧ (Vbdcar.shownProg p).length ≤ 16000000 := by
  unfold Vbdcar.read at h
  cases ht : Vbdcar.trees 0 [] [] none b with
  | error w => rw [ht] at h; cases h
  | ok ts =>
    rw [ht] at h
    obtain ⟨hd, hn⟩ := trees_fit b 0 [] [] ts none (by decide) True.intro (fun t ht => by simp at ht) ht
    have hn : (ts.map tnum).sum ≤ 4000 := by
      have e0 : cntO [] = 0 := rfl
      rw [e0] at hn
      simp at hn
      omega
    simp only at h
    cases hr : ts.reverse with
    | nil => rw [hr] at h; cases h
    | cons m r =>
      rw [hr] at h
      simp only at h
      have hts : ∀ t, t ∈ r.reverse ∨ t = m → t ∈ ts := fun t ht => by
        rw [← List.mem_reverse, hr]
        rcases ht with ht | rfl
        · exact List.mem_cons_of_mem _ (List.mem_reverse.mp ht)
        · exact List.mem_cons_self ..
      cases hh : Vbdcar.heads [] r.reverse with
      | error w => rw [hh] at h; cases h
      | ok fs =>
        rw [hh] at h
        obtain ⟨h8, hs, hl, hho, hfs⟩ := heads_ok hh (by decide)
        cases hbo : Vbdcar.bodies fs r.reverse with
        | error w => simp only [hbo, bind, Except.bind] at h; cases h
        | ok funs =>
          cases hm : expOf fs Vbdcar.INPUTS m with
          | error w => simp only [hbo, hm, bind, Except.bind] at h; cases h
          | ok me =>
            simp only [hbo, hm, bind, Except.bind, pure, Except.pure] at h
            cases h
            obtain ⟨hmap, hf⟩ := bodies_ok hl hho hbo
            rw [List.nil_append, ← hmap] at hfs
            have F : FsOk funs fs := ⟨hfs, fun f hff => by
              obtain ⟨t, x, _, hx, e1, e2, _⟩ := hf f hff
              obtain ⟨a, _, c, d, _⟩ := head_ok hx
              rw [e1, e2]
              exact ⟨(isFree_len a).1, c, d⟩⟩
            have gm := exp_good F _ m Vbdcar.INPUTS me (Nat.lt_succ_self _) inputs_short hm
            have mdeep := hd m (hts m (.inr rfl))
            have mnum := mem_sum (hts m (.inr rfl))
            have gf : ∀ f, f ∈ funs → ∃ t, Good funs (f.params ++ Vbdcar.INPUTS) t f.body ∧ tdeep t ≤ 20 ∧ tnum t ≤ 4000 ∧ f.params.length ≤ 4 ∧ f.name.length ≤ 8 ∧ ∀ b ∈ f.params, b.length ≤ 8 := fun f hff => by
              obtain ⟨t, x, htm, hx, e1, e2, he⟩ := hf f hff
              obtain ⟨a, bb, c, d, e, g⟩ := head_ok hx
              have h20 := hd t (hts t (.inl htm))
              have hnn := mem_sum (hts t (.inl htm))
              refine ⟨x.2.2, ?_, by omega, by omega, by rw [e2]; exact d, by rw [e1]; exact (isFree_len a).1, by rw [e2]; exact fun b hb => (isFree_len (bb b hb)).1⟩
              rw [e2]
              exact exp_good F _ _ _ _ (Nat.lt_succ_self _) (fun y hy => by
                rcases List.mem_append.mp hy with hy | hy
                · exact (isFree_len (bb y hy)).1
                · exact inputs_short y hy) he
            have hfl : funs.length ≤ 8 := by rw [hfs, List.length_map] at h8; exact h8
            refine ⟨⟨⟨gm.we, gm.fok, by have := gm.dp; show deep me < 21; omega⟩, fun f hff => ?_, hfl⟩, fun f hff => ?_, ?_⟩
            · obtain ⟨t, g, h20, _⟩ := gf f hff
              exact ⟨g.we, g.fok, by have := g.dp; omega⟩
            · obtain ⟨_, _, _, _, h4, _⟩ := gf f hff
              omega
            · have fb : (funs.flatMap Vbdcar.shownFun).length ≤ funs.length * 200000 := flat_bound funs fun f hff => by
                obtain ⟨t, g, _, hn4, h4, hn8, hp8⟩ := gf f hff
                have gs := g.sh
                have e1 : (Vbdcar.shownFun f).length = (funB f).length + 1 := by unfold Vbdcar.shownFun; rw [List.length_append]; rfl
                have e2 := spc_sum [ascii "fun", f.name, Vbdcar.bracket f.params, Vbdcar.shown f.body]
                have e3 : (funB f).length = (spc [ascii "fun", f.name, Vbdcar.bracket f.params, Vbdcar.shown f.body]).length + 2 := bracket_len _
                have e4 := bracket_len f.params
                have e6 : ∀ l : List (List Nat), (∀ b ∈ l, b.length ≤ 8) → (l.map fun x => x.length + 1).sum ≤ l.length * 9 := by
                  intro l
                  induction l with
                  | nil => intro _; simp
                  | cons a q ih =>
                    intro hq
                    have h1 := hq a (by simp)
                    have h2 := ih fun b hb => hq b (by simp [hb])
                    rw [List.map_cons, List.sum_cons, List.length_cons, Nat.add_mul]
                    omega
                have e7 : (spc f.params).length ≤ f.params.length * 9 := Nat.le_trans (spc_sum f.params) (e6 f.params hp8)
                have e8 : (ascii "fun").length = 3 := by decide +kernel
                simp only [List.map_cons, List.map_nil, List.sum_cons, List.sum_nil] at e2
                omega
              have gs := gm.sh
              unfold Vbdcar.shownProg
              rw [List.length_append, List.length_append]
              show (funs.flatMap Vbdcar.shownFun).length + ((Vbdcar.shown me).length + 1) ≤ _
              have : funs.length * 200000 ≤ 8 * 200000 := Nat.mul_le_mul_right _ hfl
              omega
end Bd

end
/-! ## BdPlay -/
section
namespace Bd
open PySem PySem.Spec PyProof.Rows
open L2
section
variable {w : World} {K : PySem.W.Frag} {mg : Str → Option Value} {base : Heap}
/-- the call of bid_of in a match, unpacked into three slots -/
abbrev gm (p q : Vbdcar.Prog) (ps : List Int) (i : Nat) : Vbdcar.Game := Vbdcar.playOn p q ps i {}
abbrev fl2 (g : Vbdcar.Game) : List Int := [(g.failsA : Int), (g.failsB : Int)]
abbrev sp_match : Sp := Sp3 fun u v y H Q _ => ∃ (I : Hp) (p q : Vbdcar.Prog) (a : Addr) (ps : List Int), Same I H ∧ ProgAt I u p ∧ PWF p ∧ ProgAt I v q ∧ PWF q ∧ y = .ref a ∧ IL H a ps ∧ PzOk ps ∧
  ∀ t b1 b2 b3 I' H', Ext I H I' H' → I' t = some (.tup [.ref b1, .ref b2, .ref b3]) → IL I' b1 (Vbdcar.play p q ps).a → IL I' b2 (Vbdcar.play p q ps).b → IL I' b3 (fl2 (Vbdcar.play p q ps)) → Q (.ref t) H'
theorem bid_arg {I H : Hp} {p : Vbdcar.Prog} {u : V} {a b c : Addr} {ps bs fs : List Int} {Q : VK} {E : XK} (sI : Same I H) (hp : ProgAt I u p) (hw : PWF p) (ha : IL H a ps) (hb : IL H b bs) (hc : IL H c fs) (hz : PzOk ps) (h1 : BsOk ps.length bs) (h2 : BsOk ps.length fs) (hl : bs.length < ps.length)
    (q : ∀ t I' H', Ext I H I' H' → I' t = some (.tup (bidT p ps bs fs)) → Q (.ref t) H') : sp_bid_of [u, .ref a, .ref b, .ref c] H Q E :=
  ⟨u, _, _, _, rfl, I, p, a, b, c, ps, bs, fs, sI, hp, hw, rfl, rfl, rfl, ha, hb, hc, hl, by have := hz.1; omega, io_ok hz h1 h2 hl, hand_ne hl, q⟩
theorem k_sasg {te : TE} {g : TG} {u : TS} {D : Ends} {σ : L2.St} {H : Hp} (h : te σ H fun x H1 => g x σ H1 fun σ1 H2 => u D σ1 H2) : tSeq (tAsg te g) u D σ H := h
theorem k_nm {i : Nat} {x : V} {σ : L2.St} {H : Hp} {Q : L2.St → Hp → Prop} (h : Q (σ.set i (some x)) H) : gName i x σ H Q := h
theorem rBid {i0 i1 i2 i3 : Nat} {σ : L2.St} {H : Hp} {u : V} {a b c : Addr} {Q : VK} {E : XK} (h0 : σ[i0]? = some (some u)) (h1 : σ[i1]? = some (some (.ref a))) (h2 : σ[i2]? = some (some (.ref b))) (h3 : σ[i3]? = some (some (.ref c)))
    (q : sp_bid_of [u, .ref a, .ref b, .ref c] H Q E) : tCall sp_bid_of [] E (tCons (tVar i0) (tCons (tVar i1) (tCons (tVar i2) (tCons (tVar i3) tNil)))) σ H Q := ⟨_, h0, _, h1, _, h2, _, h3, q⟩
/-- if cause != 0: failed[n] = failed[n] + 1 -/
theorem k_inc {K : PySem.W.Frag} {i5 ic n : Nat} {D3 : Addr} {c : Int} {l : List Int} {D : Ends} {σ : L2.St} {H : Hp} (h5 : σ[i5]? = some (some (.ref D3))) (hc : σ[ic]? = some (some (.int c))) (hl : IL H D3 l) (hn : n < l.length) (hn2 : n < 100)
    (h : ∀ H', H' = (if c = 0 then H else upd H D3 (.lst ((l.set n (l.getD n 0 + 1)).map V.int))) → D.nx σ H') : tIfS (tTest (tOp rNe (tVar ic) (tC (.int 0)))) (tAsg (tOp (rI0 fun i j => V.int (i + j)) (tOp (rIxL K) (tVar i5) (tC (.int (n : Nat)))) (tC (.int 1))) (gSub (tVar i5) (tC (.int (n : Nat))) rSetL)) tNext D σ H := by
  refine ⟨_, hc, rfl, _, rfl, ?_⟩
  rw [dI]
  by_cases h0 : c = 0
  · rw [decide_eq_true h0]
    exact iteF (h H (by rw [if_pos h0]))
  · rw [decide_eq_false h0]
    have hx : (l.map V.int)[n]? = some (.int (l.getD n 0)) := by rw [List.getElem?_map, List.getElem?_eq_getElem hn, List.getD_eq_getElem?_getD, List.getElem?_eq_getElem hn]; rfl
    refine iteT ⟨_, h5, D3, _, _, _, rfl, rfl, .inl (.inl hl), atI_nat hx, _, _, rfl, rfl, _, h5, D3, _, _, n, rfl, rfl, hl, ?_, h _ ?_⟩
    · unfold ixN
      rw [if_pos (by omega), if_pos (by rw [List.length_map]; omega)]
      rfl
    · rw [if_neg h0, List.map_set]
abbrev n_match : List Str := ["one", "other", "prizes", "bids", "foes", "failed", "prize", "own", "cause", "steps", "card", "reason", "used"]
theorem sc_match : FnScope n_match ["one", "other", "prizes"] (defScope s_match) := ⟨rfl, rfl, rfl, by decide +kernel, rfl, by decide +kernel, by decide +kernel⟩
theorem d_match (T : Tx w K mg)  : Def w K mg base 16 "match" ["one", "other", "prizes"] (sp_match) :=
  mkDef3 T f_match rfl rfl sc_match rfl (fun _ _ _ _ _ _ us hl => match us, hl with | [_, _, _], _ => rfl) fun u v y cdv A outer s H Q E hr h =>
  ⟨_, (pss_cons (ps_set (i := 3) sc_match.nd rfl (Or.inl rfl) (pe_lst pa_nil))
  (pss_cons (ps_set (i := 4) sc_match.nd rfl (Or.inl rfl) (pe_lst pa_nil))
  (pss_cons (ps_set (i := 5) sc_match.nd rfl (Or.inl rfl) (pe_lst (pa_cons pe_int (pa_cons pe_int pa_nil))))
  (pss_cons (ps_for (passes_of rfl) rfl (pi_list (pv 2)) (pg_name (i := 6) sc_match.nd rfl (Or.inl rfl)) (pss_cons (ps_asg (pe_c (d_bid_of T) hr pz (pa_cons (pv 0) (pa_cons (pv 2) (pa_cons (pv 3) (pa_cons (pv 4) pa_nil))))) (pg_tup rfl (pgs_cons (pg_name (i := 7) sc_match.nd rfl (Or.inl rfl)) (pgs_cons (pg_name (i := 8) sc_match.nd rfl (Or.inl rfl)) (pgs_cons (pg_name (i := 9) sc_match.nd rfl (Or.inl rfl)) pgs_nil)))))
  (pss_cons (ps_asg (pe_c (d_bid_of T) hr pz (pa_cons (pv 1) (pa_cons (pv 2) (pa_cons (pv 4) (pa_cons (pv 3) pa_nil))))) (pg_tup rfl (pgs_cons (pg_name (i := 10) sc_match.nd rfl (Or.inl rfl)) (pgs_cons (pg_name (i := 11) sc_match.nd rfl (Or.inl rfl)) (pgs_cons (pg_name (i := 12) sc_match.nd rfl (Or.inl rfl)) pgs_nil)))))
  (pss_cons (ps_expr (pe_bm PySem.F.plainAttrs_list PySem.F.slot_list_append PySem.F.type_list_append mt_append (pv 3) (pa_cons (pv 7) pa_nil)))
  (pss_cons (ps_expr (pe_bm PySem.F.plainAttrs_list PySem.F.slot_list_append PySem.F.type_list_append mt_append (pv 4) (pa_cons (pv 10) pa_nil)))
  (pss_cons (ps_if (pt_cmpR op_ne (pv 8) pe_int (nomark _)) (pss_one (ps_asg (pe_op op_add (pe_ix ix_list (pv 5) pe_int (fun _ _ => rfl)) pe_int) (pg_sub (pv 5) pe_int set_list))) pss_nil)
  (pss_one (ps_if (pt_cmpR op_ne (pv 11) pe_int (nomark _)) (pss_one (ps_asg (pe_op op_add (pe_ix ix_list (pv 5) pe_int (fun _ _ => rfl)) pe_int) (pg_sub (pv 5) pe_int set_list))) pss_nil))))))))
  (pss_one (ps_ret (pe_tup (pa_cons (pv 3) (pa_cons (pv 4) (pa_cons (pv 5) pa_nil)))))))))), by
  obtain ⟨I, p, pq, a, ps, sI, hp, hw, hq, hwq, rfl, ha, hz, q⟩ := h
  refine k_sset ⟨by rw [sizeLine_eq]; exact Nat.zero_le _, fun D1 hD1 => ?_⟩
  refine ⟨by rw [sizeLine_eq]; exact Nat.zero_le _, fun D2 hD2 => ?_⟩
  refine ⟨two_ok, fun D3 hD3 => ?_⟩
  have n21 : D2 ≠ D1 := fun e => by rw [e, upd_same] at hD2; cases hD2
  have n32 : D3 ≠ D2 := fun e => by rw [e, upd_same] at hD3; cases hD3
  have n31 : D3 ≠ D1 := fun e => by rw [e, upd_ne (Ne.symm n21), upd_same] at hD3; cases hD3
  have x1 := (Ext.refl sI).tmp (o := .lst []) hD1
  have x2 := x1.tmp (o := .lst []) hD2
  have x3 := x2.tmp (o := .lst [V.int 0, V.int 0]) hD3
  have h2 : H D2 = none := by rw [upd_ne n21] at hD2; exact hD2
  have h3 : H D3 = none := by rw [upd_ne n32, upd_ne n31] at hD3; exact hD3
  refine ⟨_, rfl, a, rfl, ⟨ps.map V.int, .inl (.inl (x3.hh _ _ ha))⟩, ?_⟩
  refine for_list (xs := ps.map V.int) (fun i σ H' => i ≤ ps.length ∧ ∃ I', Ext I H I' H' ∧ I' D1 = none ∧ I' D2 = none ∧ I' D3 = none ∧ IL H' D1 (gm p pq ps i).a ∧ IL H' D2 (gm p pq ps i).b ∧ IL H' D3 (fl2 (gm p pq ps i)) ∧ ∃ o6 o7 o8 o9 o10 o11 o12, σ = [some u, some v, some (.ref a), some (.ref D1), some (.ref D2), some (.ref D3), o6, o7, o8, o9, o10, o11, o12])
    ⟨Nat.zero_le _, I, x3, sI.free hD1, sI.free h2, sI.free h3, by rw [IL, upd_ne (Ne.symm n31), upd_ne (Ne.symm n21)]; exact upd_same, by rw [IL, upd_ne (Ne.symm n32)]; exact upd_same, upd_same, _, _, _, _, _, _, _, rfl⟩
    (fun i σ H' _ ⟨_, I', e1, _⟩ => .inl (.inl (e1.hh _ _ ha))) (fun i x σ H1 hi ⟨hil, I1, e1, i1, i2, i3, l1, l2, l3, o6, o7, o8, o9, o10, o11, o12, es⟩ => ?_) fun σ H1 ⟨_, I1, e1, i1, i2, i3, l1, l2, l3, o6, o7, o8, o9, o10, o11, o12, es⟩ => ?_
  · subst es
    have hip : i < ps.length := by have := (List.getElem?_eq_some_iff.mp hi).1; rw [List.length_map] at this; exact this
    obtain ⟨g1, g2, g3, g4⟩ := playOn_ok (p := p) (q := pq) hz i hil
    refine k_nm (k_sasg (rBid (a := a) (b := D1) (c := D2) rfl rfl rfl rfl (bid_arg e1.ih (hp.mono e1.ii) hw (e1.hh _ _ ha) l1 l2 hz g3 g4 (by rw [g1]; exact hip) fun t1 I2 H2 e2 ht1 => ?_)))
    refine ⟨t1, _, rfl, .inl (.inl (e2.ih _ _ ht1)), rfl, _, _, rfl, _, _, rfl, _, _, rfl, rfl, ?_⟩
    have e12 := e1.trans e2
    refine k_sasg (rBid (a := a) (b := D2) (c := D1) rfl rfl rfl rfl (bid_arg e12.ih (hq.mono e12.ii) hwq (e12.hh _ _ ha) (e2.hh _ _ l2) (e2.hh _ _ l1) hz g4 g3 (by rw [g2]; exact hip) fun t2 I3 H3 e3 ht2 => ?_))
    refine ⟨t2, _, rfl, .inl (.inl (e3.ih _ _ ht2)), rfl, _, _, rfl, _, _, rfl, _, _, rfl, rfl, ?_⟩
    have e13 := e12.trans e3
    have k1 := e3.hh _ _ (e2.hh _ _ l1)
    have k2 := e3.hh _ _ (e2.hh _ _ l2)
    have k3 := e3.hh _ _ (e2.hh _ _ l3)
    have j1 := e3.noneI (e2.noneI i1 l1) (e2.hh _ _ l1)
    have j2 := e3.noneI (e2.noneI i2 l2) (e2.hh _ _ l2)
    have j3 := e3.noneI (e2.noneI i3 l3) (e2.hh _ _ l3)
    have hb60 : ∀ l : List Int, l.length = i → (l.map V.int).length < sizeLine := fun l hl => by rw [List.length_map, sizeLine_eq]; have := hz.1; omega
    refine ⟨_, rfl, .inl ⟨rfl, _, .inl (.inl k1)⟩, _, rfl, D1, _, _, rfl, rfl, k1, hb60 _ g1, ?_⟩
    have a1 := e13.mut (o := .lst ((gm p pq ps i).a.map V.int ++ [V.int (Vbdcar.bid p ps (gm p pq ps i).a (gm p pq ps i).b).1])) hD1 j1
    refine ⟨_, rfl, .inl ⟨rfl, _, .inl (.inl (by rw [upd_ne n21]; exact k2))⟩, _, rfl, D2, _, _, rfl, rfl, by rw [upd_ne n21]; exact k2, hb60 _ g2, ?_⟩
    have a2 := a1.mut (o := .lst ((gm p pq ps i).b.map V.int ++ [V.int (Vbdcar.bid pq ps (gm p pq ps i).b (gm p pq ps i).a).1])) h2 j2
    have d3a : IL (L2.upd (L2.upd H3 D1 (.lst ((gm p pq ps i).a.map V.int ++ [V.int (Vbdcar.bid p ps (gm p pq ps i).a (gm p pq ps i).b).1]))) D2 (.lst ((gm p pq ps i).b.map V.int ++ [V.int (Vbdcar.bid pq ps (gm p pq ps i).b (gm p pq ps i).a).1]))) D3 (fl2 (gm p pq ps i)) := by
      rw [IL, upd_ne n32, upd_ne n31]; exact k3
    refine k_inc (n := 0) rfl rfl d3a (by show 0 < 2; decide) (by decide) fun H5 h5 => ?_
    obtain ⟨e5, p1, p2, p3⟩ : Ext I H I3 H5 ∧ H5 D1 = some (.lst ((gm p pq ps i).a.map V.int ++ [V.int (Vbdcar.bid p ps (gm p pq ps i).a (gm p pq ps i).b).1])) ∧ H5 D2 = some (.lst ((gm p pq ps i).b.map V.int ++ [V.int (Vbdcar.bid pq ps (gm p pq ps i).b (gm p pq ps i).a).1])) ∧ IL H5 D3 [(((gm p pq ps i).failsA + (if (Vbdcar.bid p ps (gm p pq ps i).a (gm p pq ps i).b).2.1 = 0 then 0 else 1) : Nat) : Int), ((gm p pq ps i).failsB : Int)] := by
      by_cases hc0 : (Vbdcar.bid p ps (gm p pq ps i).a (gm p pq ps i).b).2.1 = 0
      · rw [if_pos (by omega)] at h5
        subst h5
        refine ⟨a2, by rw [upd_ne (Ne.symm n21)]; exact upd_same, upd_same, ?_⟩
        rw [if_pos hc0]
        exact d3a
      · rw [if_neg (by omega)] at h5
        subst h5
        refine ⟨a2.mut h3 j3, by rw [upd_ne (Ne.symm n31), upd_ne (Ne.symm n21)]; exact upd_same, by rw [upd_ne (Ne.symm n32)]; exact upd_same, ?_⟩
        rw [if_neg hc0, IL, upd_same]
        rfl
    refine k_inc (n := 1) rfl rfl p3 (by show 1 < 2; decide) (by decide) fun H6 h6 => ?_
    have lst := playOn_last p pq ps i {}
    have gA : (gm p pq ps (i + 1)).a = (gm p pq ps i).a ++ [(Vbdcar.bid p ps (gm p pq ps i).a (gm p pq ps i).b).1] := by rw [gm, lst]
    have gB : (gm p pq ps (i + 1)).b = (gm p pq ps i).b ++ [(Vbdcar.bid pq ps (gm p pq ps i).b (gm p pq ps i).a).1] := by rw [gm, lst]
    have gF : fl2 (gm p pq ps (i + 1)) = [(((gm p pq ps i).failsA + (if (Vbdcar.bid p ps (gm p pq ps i).a (gm p pq ps i).b).2.1 = 0 then 0 else 1) : Nat) : Int), (((gm p pq ps i).failsB + (if (Vbdcar.bid pq ps (gm p pq ps i).b (gm p pq ps i).a).2.1 = 0 then 0 else 1) : Nat) : Int)] := by rw [fl2, gm, lst]
    have hA : ∀ l : List Int, ∀ x : Int, (l ++ [x]).map V.int = l.map V.int ++ [V.int x] := fun l x => by rw [List.map_append]; rfl
    by_cases hc0 : (Vbdcar.bid pq ps (gm p pq ps i).b (gm p pq ps i).a).2.1 = 0
    · rw [if_pos (by omega)] at h6
      subst h6
      refine ⟨hip, I3, e5, j1, j2, j3, by rw [IL, gA, hA]; exact p1, by rw [IL, gB, hA]; exact p2, by rw [gF, if_pos hc0 (α := Nat)]; exact p3, _, _, _, _, _, _, _, rfl⟩
    · rw [if_neg (by omega)] at h6
      subst h6
      refine ⟨hip, I3, e5.mut h3 j3, j1, j2, j3, by rw [IL, gA, hA, upd_ne (Ne.symm n31)]; exact p1, by rw [IL, gB, hA, upd_ne (Ne.symm n32)]; exact p2, by rw [gF, if_neg hc0 (α := Nat), IL, upd_same]; rfl, _, _, _, _, _, _, _, rfl⟩
  · subst es
    have hpl : (ps.map V.int).length = ps.length := List.length_map _
    rw [hpl] at l1 l2 l3
    have f1 := e1.frz hD1 i1 l1
    have f2 := f1.frz h2 (by rw [upd_ne n21]; exact i2) l2
    have f3 := f2.frz h3 (by rw [upd_ne n32, upd_ne n31]; exact i3) l3
    refine ⟨_, rfl, _, rfl, _, rfl, three_ok, fun tp htp => ?_⟩
    have nt1 : D1 ≠ tp := ne_of_none l1 htp
    have nt2 : D2 ≠ tp := ne_of_none l2 htp
    have nt3 : D3 ≠ tp := ne_of_none l3 htp
    exact q tp D1 D2 D3 _ _ (f3.new htp) upd_same (by rw [IL, upd_ne nt1, upd_ne (Ne.symm n31), upd_ne (Ne.symm n21)]; exact upd_same) (by rw [IL, upd_ne nt2, upd_ne (Ne.symm n32)]; exact upd_same) (by rw [IL, upd_ne nt3]; exact upd_same)⟩

abbrev sp_margin : Sp := Sp3 fun u v y H Q _ => ∃ (I : Hp) (p q : Vbdcar.Prog) (a : Addr) (ps : List Int), Same I H ∧ ProgAt I u p ∧ PWF p ∧ ProgAt I v q ∧ PWF q ∧ y = .ref a ∧ IL H a ps ∧ PzOk ps ∧ ∀ H', Same H H' → Q (.int (Vbdcar.margin ps (Vbdcar.play p q ps))) H'
abbrev n_match_margin : List Str := ["one", "other", "prizes", "bids", "foes", "failed", "me", "foe", "pot"]
theorem sc_match_margin : FnScope n_match_margin ["one", "other", "prizes"] (defScope s_match_margin) := ⟨rfl, rfl, rfl, by decide +kernel, rfl, by decide +kernel, by decide +kernel⟩
theorem d_match_margin (T : Tx w K mg)  : Def w K mg base 17 "match_margin" ["one", "other", "prizes"] (sp_margin) :=
  mkDef3 T f_match_margin rfl rfl sc_match_margin rfl (fun _ _ _ _ _ _ us hl => match us, hl with | [_, _, _], _ => rfl) fun u v y cdv A outer s H Q E hr h =>
  ⟨_, (pss_cons (ps_asg (pe_c (d_match T) hr pz (pa_cons (pv 0) (pa_cons (pv 1) (pa_cons (pv 2) pa_nil)))) (pg_tup rfl (pgs_cons (pg_name (i := 3) sc_match_margin.nd rfl (Or.inl rfl)) (pgs_cons (pg_name (i := 4) sc_match_margin.nd rfl (Or.inl rfl)) (pgs_cons (pg_name (i := 5) sc_match_margin.nd rfl (Or.inl rfl)) pgs_nil)))))
  (pss_cons (ps_asg (pe_c (d_scores T) hr pz (pa_cons (pv 2) (pa_cons (pv 3) (pa_cons (pv 4) pa_nil)))) (pg_tup rfl (pgs_cons (pg_name (i := 6) sc_match_margin.nd rfl (Or.inl rfl)) (pgs_cons (pg_name (i := 7) sc_match_margin.nd rfl (Or.inl rfl)) (pgs_cons (pg_name (i := 8) sc_match_margin.nd rfl (Or.inl rfl)) pgs_nil)))))
  (pss_one (ps_ret (pe_op op_sub (pv 6) (pv 7)))))), by
  obtain ⟨I, p, pq, a, ps, sI, hp, hw, hq, hwq, rfl, ha, hz, q⟩ := h
  refine ⟨_, rfl, _, rfl, _, rfl, _, _, _, rfl, I, p, pq, a, ps, sI, hp, hw, hq, hwq, rfl, ha, hz, fun t b1 b2 b3 I1 H1 e1 ht l1 l2 l3 => ?_⟩
  refine ⟨t, _, rfl, .inl (.inl (e1.ih _ _ ht)), rfl, _, _, rfl, _, _, rfl, _, _, rfl, rfl, ?_⟩
  refine ⟨_, rfl, _, rfl, _, rfl, _, _, _, rfl, I1, a, b1, b2, ps, _, _, e1.ih, rfl, rfl, rfl, e1.hh _ _ ha, e1.ih _ _ l1, e1.ih _ _ l2, fun t2 I2 H2 e2 ht2 => ?_⟩
  refine ⟨t2, _, rfl, .inl (.inl (e2.ih _ _ ht2)), rfl, _, _, rfl, _, _, rfl, _, _, rfl, rfl, ?_⟩
  exact ⟨_, rfl, _, rfl, _, _, rfl, rfl, q H2 (Same.trans e1.hh e2.hh)⟩⟩

/-! ## the best against one -/
abbrev bestStep (p : Vbdcar.Prog) (ps : List Int) (n : Nat) (mine theirs : List Int) (y : Int) : Option (Int × List Int) → Int → Option (Int × List Int) := fun b c =>
  match b with
  | none => some ((Vbdcar.bestFrom p ps n (mine ++ [c]) (theirs ++ [y])).1, c :: (Vbdcar.bestFrom p ps n (mine ++ [c]) (theirs ++ [y])).2)
  | some x => if x.1 < (Vbdcar.bestFrom p ps n (mine ++ [c]) (theirs ++ [y])).1 then some ((Vbdcar.bestFrom p ps n (mine ++ [c]) (theirs ++ [y])).1, c :: (Vbdcar.bestFrom p ps n (mine ++ [c]) (theirs ++ [y])).2) else b
theorem bestFrom_succ (p : Vbdcar.Prog) (ps : List Int) (n : Nat) (mine theirs : List Int) : Vbdcar.bestFrom p ps (n + 1) mine theirs = ((Vbdcar.hand ps.length mine).foldl (bestStep p ps n mine theirs (Vbdcar.bid p ps theirs mine).1) none).getD (0, []) := rfl
theorem best_some {p : Vbdcar.Prog} {ps : List Int} {n : Nat} {mine theirs : List Int} {y : Int} : ∀ (l : List Int) (b : Option (Int × List Int)), l ≠ [] ∨ b ≠ none → l.foldl (bestStep p ps n mine theirs y) b ≠ none
  | [], b, h => h.resolve_left (fun z => z rfl)
  | c :: r, b, _ => by
    rw [List.foldl_cons]
    refine best_some r _ (.inr ?_)
    cases b with
    | none => exact fun z => nomatch z
    | some x => simp only [bestStep]; split <;> exact fun z => nomatch z
def BestAt (I : Hp) (bs : List Int) (bv : V) (o : Option (Int × List Int)) : Prop := match o with
  | none => bv = .non
  | some x => ∃ t l, bv = .ref t ∧ I t = some (.tup [.int x.1, .ref l]) ∧ IL I l (bs ++ x.2)
abbrev sp_best (d : Nat) : Sp := Sp4 fun u v y z H Q _ => ∃ (I : Hp) (p : Vbdcar.Prog) (a b c : Addr) (ps bs fs : List Int) (n : Nat), n < d ∧ Same I H ∧ ProgAt I u p ∧ PWF p ∧ v = .ref a ∧ y = .ref b ∧ z = .ref c ∧ IL H a ps ∧ IL I b bs ∧ IL H c fs ∧ PzOk ps ∧ BsOk ps.length bs ∧ BsOk ps.length fs ∧ bs.length = fs.length ∧ bs.length + n = ps.length ∧
  ∀ t l I' H', Ext I H I' H' → I' t = some (.tup [.int (Vbdcar.bestFrom p ps n bs fs).1, .ref l]) → IL I' l (bs ++ (Vbdcar.bestFrom p ps n bs fs).2) → Q (.ref t) H'
abbrev n_best_from : List Str := ["program", "prizes", "bids", "its", "me", "foe", "pot", "card", "cause", "steps", "best", "own", "found"]
theorem sc_best_from : FnScope n_best_from ["program", "prizes", "bids", "its"] (defScope s_best_from) := ⟨rfl, rfl, rfl, by decide +kernel, rfl, by decide +kernel, by decide +kernel⟩
theorem e_best_from (T : Tx w K mg) {d : Nat} (h14 : 14 ≤ k) (ih : Def w K mg base k "best_from" ["program", "prizes", "bids", "its"] (sp_best d)) : Def w K mg base (k+1) "best_from" ["program", "prizes", "bids", "its"] (sp_best (d+1)) :=
  mkDef4 T f_best_from rfl rfl sc_best_from rfl (fun _ _ _ _ _ _ us hl => match us, hl with | [_, _, _, _], _ => rfl) fun u v y z cdv A outer s H Q E hr h =>
  ⟨_, (pss_cons (ps_if (pt_cmpR op_eq (pe_callB call_len_seq (by rfl) T.fr_len (by decide +kernel) (pa_cons (pv 2) pa_nil)) (pe_callB call_len_seq (by rfl) T.fr_len (by decide +kernel) (pa_cons (pv 1) pa_nil)) (nomark _)) (pss_cons (ps_asg (pe_c (hk := by omega) (d_scores T) hr pz (pa_cons (pv 1) (pa_cons (pv 2) (pa_cons (pv 3) pa_nil)))) (pg_tup rfl (pgs_cons (pg_name (i := 4) sc_best_from.nd rfl (Or.inl rfl)) (pgs_cons (pg_name (i := 5) sc_best_from.nd rfl (Or.inl rfl)) (pgs_cons (pg_name (i := 6) sc_best_from.nd rfl (Or.inl rfl)) pgs_nil)))))
  (pss_one (ps_ret (pe_tup (pa_cons (pe_op op_sub (pv 4) (pv 5)) (pa_cons (pv 2) pa_nil)))))) pss_nil)
  (pss_cons (ps_asg (pe_c (hk := by omega) (d_bid_of T) hr pz (pa_cons (pv 0) (pa_cons (pv 1) (pa_cons (pv 3) (pa_cons (pv 2) pa_nil))))) (pg_tup rfl (pgs_cons (pg_name (i := 7) sc_best_from.nd rfl (Or.inl rfl)) (pgs_cons (pg_name (i := 8) sc_best_from.nd rfl (Or.inl rfl)) (pgs_cons (pg_name (i := 9) sc_best_from.nd rfl (Or.inl rfl)) pgs_nil)))))
  (pss_cons (ps_set (i := 10) sc_best_from.nd rfl (Or.inl rfl) pe_non)
  (pss_cons (ps_for (passes_of rfl) rfl (pi_list (pe_c (hk := by omega) (d_hand T) hr pz (pa_cons (pv 1) (pa_cons (pv 2) pa_nil)))) (pg_name (i := 11) sc_best_from.nd rfl (Or.inl rfl)) (pss_cons (ps_set (i := 12) sc_best_from.nd rfl (Or.inl rfl) (pe_c (hk := by omega) ih hr pz (pa_cons (pv 0) (pa_cons (pv 1) (pa_cons (pe_op op_cat (pv 2) (pe_lst (pa_cons (pv 11) pa_nil))) (pa_cons (pe_op op_cat (pv 3) (pe_lst (pa_cons (pv 7) pa_nil))) pa_nil))))))
  (pss_one (ps_if (PW.pt (pw_or (pt_cmpR op_isN (pv 10) pe_non (nomark _)) (pw_or1 (pt_cmpR op_gt (pe_ix ix_tup (pv 12) pe_int (fun _ _ => rfl)) (pe_ix ix_tup (pv 10) pe_int (fun _ _ => rfl)) (nomark _))))) (pss_one (ps_set (i := 10) sc_best_from.nd rfl (Or.inl rfl) (pv 12))) pss_nil))))
  (pss_one (ps_ret (pv 10))))))), by
  obtain ⟨I, p, a, b, c, ps, bs, fs, n, hn, sI, hp, hw, rfl, rfl, rfl, ha, hb, hc, hz, hbs, hfs, hlf, hln, q⟩ := h
  have hbH := sI _ _ hb
  refine k_sifN ⟨_, rfl, b, _, rfl, .inl (.inl (.inl hbH)), _, rfl, a, _, rfl, .inl (.inl (.inl ha)), rfl, _, rfl, ?_⟩
  rw [dI, List.length_map, List.length_map]
  cases n with
  | zero =>
    rw [decide_eq_true (by omega)]
    refine iteT ?_
    refine ⟨_, rfl, _, rfl, _, rfl, _, _, _, rfl, I, a, b, c, ps, bs, fs, sI, rfl, rfl, rfl, ha, hbH, hc, fun t I1 H1 e1 ht => ?_⟩
    refine ⟨t, _, rfl, .inl (.inl (e1.ih _ _ ht)), rfl, _, _, rfl, _, _, rfl, _, _, rfl, rfl, ?_⟩
    refine ⟨_, rfl, _, rfl, _, _, rfl, rfl, _, rfl, two_ok, fun tp htp => ?_⟩
    refine q tp b _ _ (e1.new htp) upd_same ?_
    have : (Vbdcar.bestFrom p ps 0 bs fs).2 = [] := rfl
    rw [this, List.append_nil]
    exact Same.new (e1.ih.free htp) _ _ (e1.ii _ _ hb)
  | succ n =>
    rw [decide_eq_false (by omega)]
    refine iteF (k_sasg (rBid (a := a) (b := c) (c := b) rfl rfl rfl rfl (bid_arg sI hp hw ha hc hbH hz hfs hbs (by omega) fun t1 I1 H1 e1 ht1 => ?_)))
    refine ⟨t1, _, rfl, .inl (.inl (e1.ih _ _ ht1)), rfl, _, _, rfl, _, _, rfl, _, _, rfl, rfl, ?_⟩
    refine ⟨_, rfl, _, rfl, _, _, rfl, I1, a, b, ps, bs, e1.ih, rfl, rfl, e1.hh _ _ ha, by have := hz.1; omega, e1.hh _ _ hbH, fun hd J G y1 hcards => ?_⟩
    have x1 := e1.trans y1
    refine ⟨hd, rfl, ⟨_, .inl (.inl (y1.ih _ _ hcards))⟩, ?_⟩
    refine for_list (xs := (Vbdcar.hand ps.length bs).map V.int) (fun i σ H' => ∃ I' bv o11 o12, Ext I H I' H' ∧ Same J I' ∧ BestAt I' bs bv (((Vbdcar.hand ps.length bs).take i).foldl (bestStep p ps n bs fs (Vbdcar.bid p ps fs bs).1) none) ∧
        σ = [some u, some (.ref a), some (.ref b), some (.ref c), none, none, none, some (.int (Vbdcar.bid p ps fs bs).1), some (.int (((Vbdcar.bid p ps fs bs).2.1 : Nat) : Int)), some (.int (((Vbdcar.bid p ps fs bs).2.2 : Nat) : Int)), some bv, o11, o12])
      ⟨J, .non, none, none, x1, .refl J, rfl, rfl⟩ (fun i σ H' _ ⟨I', _, _, _, e2, s2, _⟩ => .inl (.inl (e2.ih _ _ (s2 _ _ hcards)))) (fun i x σ H2 hi ⟨I2, bv, o11, o12, e2, s2, hbv, es⟩ => ?_) fun σ H2 ⟨I2, bv, o11, o12, e2, s2, hbv, es⟩ => ?_
    · subst es
      obtain ⟨cd, hcd, rfl⟩ : ∃ cd, (Vbdcar.hand ps.length bs)[i]? = some cd ∧ x = .int cd := by
        rw [List.getElem?_map] at hi
        cases hh : (Vbdcar.hand ps.length bs)[i]? with
        | none => rw [hh] at hi; cases hi
        | some cd => rw [hh] at hi; cases hi; exact ⟨cd, rfl, rfl⟩
      have hcm := hand_mem (List.mem_of_getElem? hcd)
      have hbm := hand_mem (bid_mem (p := p) (ps := ps) (bs := fs) (fs := bs) (by omega))
      have z13 := hz.1
      have one_ok : ∀ v : V, [v].length ≤ sizeLine := fun v => by rw [sizeLine_eq]; show 1 ≤ 16777216; decide
      have htk : (Vbdcar.hand ps.length bs).take (i + 1) = (Vbdcar.hand ps.length bs).take i ++ [cd] := by rw [List.take_add_one, hcd] <;> rfl
      refine ⟨_, rfl, _, rfl, _, rfl, _, rfl, one_ok _, fun L1 hL1 => ?_⟩
      have e3 := e2.tmp (o := .lst [V.int cd]) hL1
      refine ⟨b, L1, bs.map V.int, [V.int cd], rfl, rfl, e3.hh _ _ hbH, upd_same, by rw [List.length_map, sizeLine_eq]; simp; omega, fun L2 hL2 => ?_⟩
      have e4 := e3.new (o := .lst (bs.map V.int ++ [V.int cd])) hL2
      refine ⟨_, rfl, _, rfl, one_ok _, fun L3 hL3 => ?_⟩
      have e5 := e4.tmp (o := .lst [V.int (Vbdcar.bid p ps fs bs).1]) hL3
      refine ⟨c, L3, fs.map V.int, [V.int (Vbdcar.bid p ps fs bs).1], rfl, rfl, e5.hh _ _ hc, upd_same, by rw [List.length_map, sizeLine_eq]; simp; omega, fun L4 hL4 => ?_⟩
      have e6 := e5.tmp (o := .lst (fs.map V.int ++ [V.int (Vbdcar.bid p ps fs bs).1])) hL4
      have m1 : ∀ (l : List Int) (y : Int), l.map V.int ++ [V.int y] = (l ++ [y]).map V.int := fun l y => by rw [List.map_append]; rfl
      refine ⟨_, _, _, _, rfl, _, p, a, L2, L4, ps, bs ++ [cd], fs ++ [(Vbdcar.bid p ps fs bs).1], n, by omega, e6.ih, hp.mono e6.ii, hw, rfl, rfl, rfl, e6.hh _ _ ha, by rw [IL, upd_same, m1], by rw [IL, upd_same, m1], hz, bs_snoc hbs (by omega) ⟨hcm.1, hcm.2.1⟩, bs_snoc hfs (by omega) ⟨hbm.1, hbm.2.1⟩, by simp; omega, by simp; omega, fun t l I7 H7 e7 h7 l7 => ?_⟩
      have e8 := e6.trans e7
      have sI2 : Same I2 I7 := Same.trans (Same.new (e3.ih.free hL2)) e7.ii
      have hf7 : H7 t = some (.tup [.int (Vbdcar.bestFrom p ps n (bs ++ [cd]) (fs ++ [(Vbdcar.bid p ps fs bs).1])).1, .ref l]) := e7.ih _ _ h7
      have new7 : BestAt I7 bs (.ref t) (some ((Vbdcar.bestFrom p ps n (bs ++ [cd]) (fs ++ [(Vbdcar.bid p ps fs bs).1])).1, cd :: (Vbdcar.bestFrom p ps n (bs ++ [cd]) (fs ++ [(Vbdcar.bid p ps fs bs).1])).2)) := ⟨t, l, rfl, h7, by rw [IL] at l7 ⊢; rw [l7, List.append_assoc]; rfl⟩
      cases hfold : ((Vbdcar.hand ps.length bs).take i).foldl (bestStep p ps n bs fs (Vbdcar.bid p ps fs bs).1) none with
      | none =>
        rw [hfold] at hbv
        obtain rfl : bv = .non := hbv
        refine ⟨_, rfl, rfl, _, rfl, iteT (iteT ⟨_, rfl, I7, .ref t, _, _, e8, Same.trans s2 sI2, ?_, rfl⟩)⟩
        rw [htk, List.foldl_append, hfold]
        exact new7
      | some x =>
        rw [hfold] at hbv
        obtain ⟨t0, l0, rfl, k1, k2⟩ := hbv
        have k3 := e8.ih _ _ (sI2 _ _ k1)
        refine ⟨_, rfl, rfl, _, rfl, iteF ⟨_, rfl, t, _, _, _, rfl, rfl, .inl (.inl hf7), atI_nat (j := 0) rfl, _, rfl, t0, _, _, _, rfl, rfl, .inl (.inl k3), atI_nat (j := 0) rfl, _, _, rfl, rfl, _, rfl, ?_⟩⟩
        by_cases hgt : x.1 < (Vbdcar.bestFrom p ps n (bs ++ [cd]) (fs ++ [(Vbdcar.bid p ps fs bs).1])).1
        · rw [decide_eq_true hgt]
          refine iteT ⟨_, rfl, I7, .ref t, _, _, e8, Same.trans s2 sI2, ?_, rfl⟩
          rw [htk, List.foldl_append, hfold]
          show BestAt _ _ _ (if _ then _ else _)
          rw [if_pos hgt]
          exact new7
        · rw [decide_eq_false hgt]
          refine iteF ⟨I7, .ref t0, _, _, e8, Same.trans s2 sI2, ?_, rfl⟩
          rw [htk, List.foldl_append, hfold]
          show BestAt _ _ _ (if _ then _ else _)
          rw [if_neg hgt]
          exact ⟨t0, l0, rfl, sI2 _ _ k1, sI2 _ _ k2⟩
    · subst es
      rw [List.length_map, List.take_length] at hbv
      refine ⟨_, rfl, ?_⟩
      rw [bestFrom_succ] at q
      cases hf : (Vbdcar.hand ps.length bs).foldl (bestStep p ps n bs fs (Vbdcar.bid p ps fs bs).1) none with
      | none => exact absurd hf (best_some _ _ (.inl (hand_ne (by omega))))
      | some x =>
        rw [hf] at hbv q
        obtain ⟨t, l, rfl, h1, h2⟩ := hbv
        exact q t l _ _ e2 h1 h2⟩
theorem f0_best_from (T : Tx w K mg) : Def w K mg base 1 "best_from" ["program", "prizes", "bids", "its"] (fun _ _ _ _ => False) := mkDef T f_best_from rfl rfl sc_best_from (fun _ _ _ _ _ _ us hl => match us, hl with | [_, _, _, _], _ => rfl) (fun _ _ _ _ h => h.elim) fun _ _ _ _ _ _ _ _ _ h => h.elim
theorem d_best_from (T : Tx w K mg) : ∀ d : Nat, Def w K mg base (d + 14) "best_from" ["program", "prizes", "bids", "its"] (sp_best d)
  | 0 => ((f0_best_from T).imp fun _ _ _ _ ⟨_, _, _, _, _, _, _, _, _, _, _, _, _, _, h, _⟩ => absurd h (Nat.not_lt_zero _)).mono (by decide)
  | d + 1 => e_best_from T (by omega) (d_best_from T d)
end
end Bd


end
/-! ## BdRead -/
section
namespace Bd
open PySem PySem.Spec PyProof.Rows
open L2
theorem k_redE {te : TE} {σ : L2.St} {H : Hp} {Q : VK} {v : V} (h : ∀ Q' : VK, Q' v H → te σ H Q') (r : Q v H) : te σ H Q := h Q r
theorem k_redF {te : TE} {σ : L2.St} {H H1 : Hp} {Q : VK} {v : V} (h : ∀ Q' : VK, Q' v H1 → te σ H Q') (r : Q v H1) : te σ H Q := h Q r
/-- a list of words -/
abbrev sL (ks : List (List Nat)) : List V := ks.map fun b => V.str (sB b)
theorem sL_snoc (ks : List (List Nat)) (b : List Nat) : sL (ks ++ [b]) = sL ks ++ [V.str (sB b)] := by rw [sL, List.map_append]; rfl
abbrev Low (ks : List (List Nat)) : Prop := ∀ b, b ∈ ks → b.all lowB = true ∧ b ≠ []
theorem low_in {ks : List (List Nat)} (h : Low ks) (b : List Nat) : ks.contains (lettersB b) = ks.contains b := by
  rw [Bool.eq_iff_iff, List.contains_iff_mem, List.contains_iff_mem]
  constructor
  · intro hm
    have := lettersB_mem (b := b) rfl (h _ hm).2
    rw [← this] at hm
    exact hm
  · intro hm
    have e : lettersB b = b := if_pos (h _ hm).1
    rw [e]; exact hm
theorem low_inputs : Low Vbdcar.INPUTS := by
  have : ∀ b ∈ Vbdcar.INPUTS, b.all lowB = true ∧ b ≠ [] := by decide +kernel
  exact this
theorem free_low {b : List Nat} (h : Vbdcar.isFree b = true) : lettersB b = b := if_pos (isFree_len h).2.2
theorem lettersB_len (b : List Nat) : (lettersB b).length ≤ b.length := by
  unfold lettersB
  split
  · exact Nat.le_refl _
  · exact Nat.zero_le _
/-- a head in the heap -/
structure HeadAt (I : Hp) (u : V) (x : HeadT) : Prop where
  ex : ∃ a dx li ub, u = .ref a ∧ I a = some (.ins cHead dx [("name", .str (sB x.1)), ("parameters", .ref li), ("body", ub)]) ∧ I li = some (.lst (sL x.2.1)) ∧ TreeAt I ub x.2.2
theorem HeadAt.mono {I I' : Hp} {u : V} {x : HeadT} (s : Same I I') (h : HeadAt I u x) : HeadAt I' u x := by
  obtain ⟨a, dx, li, ub, h1, h2, h3, h4⟩ := h.ex
  exact ⟨⟨a, dx, li, ub, h1, s _ _ h2, s _ _ h3, h4.mono s⟩⟩
section
variable {w : World} {K : PySem.W.Frag} {mg : Str → Option Value} {base : Heap}
abbrev errW (E : XK) (H : Hp) (t : Vbdcar.Tree) : Prop := errT E H 4 (t.place : Nat)
abbrev sp_wrong : Sp := Sp1 fun u H Q E => ∃ t, TreeAt H u t ∧ errW E H t
abbrev n_wrong : List Str := ["tree"]
theorem sc_wrong : FnScope n_wrong ["tree"] (defScope s_wrong) := ⟨rfl, rfl, rfl, by decide +kernel, rfl, by decide +kernel, by decide +kernel⟩
theorem d_wrong (T : Tx w K mg)  : Def w K mg base 3 "wrong" ["tree"] (sp_wrong) :=
  mkDef1 T f_wrong rfl rfl sc_wrong rfl (fun _ _ _ _ _ _ us hl => match us, hl with | [_], _ => rfl) fun u cdv A outer s H Q E hr h =>
  ⟨_, (pss_one (ps_err (g_TextFault T) rfl tz hr (pa_cons pe_int (pa_cons (pe_fld (pv 0) rfl) pa_nil)))), by
  obtain ⟨t, hu, q⟩ := h
  obtain ⟨a, dx, d, iv, rfl, ha, e⟩ := hu.at
  exact ⟨_, rfl, a, _, dx, _, _, rfl, ha, T.c_Tree, T.n_Tree_place, rfl, rfl, q⟩⟩
abbrev sp_need : Sp := Sp2 fun u v H Q E => ∃ c t, u = .bl c ∧ TreeAt H v t ∧ (c = true → Q .non H) ∧ (c = false → errW E H t)
abbrev n_need : List Str := ["condition", "tree"]
theorem sc_need : FnScope n_need ["condition", "tree"] (defScope s_need) := ⟨rfl, rfl, rfl, by decide +kernel, rfl, by decide +kernel, by decide +kernel⟩
theorem d_need (T : Tx w K mg)  : Def w K mg base 4 "need" ["condition", "tree"] (sp_need) :=
  mkDef2 T f_need rfl rfl sc_need rfl (fun _ _ _ _ _ _ us hl => match us, hl with | [_, _], _ => rfl) fun u v cdv A outer s H Q E hr h =>
  ⟨_, (pss_one (ps_if (pt_not (pt_val (pv 0))) (pss_one (ps_expr (pe_c (d_wrong T) hr pz (pa_cons (pv 1) pa_nil)))) pss_nil)), by
  obtain ⟨c, t, rfl, hv, q1, q2⟩ := h
  refine ⟨_, rfl, _, rfl, ?_⟩
  cases c with
  | true => exact iteF (q1 rfl)
  | false => exact iteT ⟨_, rfl, _, rfl, t, hv, q2 rfl⟩⟩
theorem k_need {te : TE} {i : Nat} {E : XK} {σ : L2.St} {H H1 : Hp} {Q : VK} {c : Bool} {v : V} {t : Vbdcar.Tree} (h : ∀ Q' : VK, Q' (.bl c) H1 → te σ H Q') (hv : σ[i]? = some (some v)) (ht : TreeAt H1 v t) (q1 : c = true → Q .non H1) (q2 : c = false → errW E H1 t) : tCall sp_need [] E (tCons te (tCons (tVar i) tNil)) σ H Q :=
  h (fun x H2 => tCons (tVar i) tNil σ H2 fun xs H3 => sp_need (x :: xs) H3 Q E) ⟨v, hv, _, _, rfl, c, t, rfl, ht, q1, q2⟩
theorem k_exp {te : TE} {D : Ends} {u : TS} {σ : L2.St} {H : Hp} (h : te σ H fun _ H1 => u D σ H1) : tSeq (tDrop te) u D σ H := h
abbrev RetS (I H : Hp) (Q : VK) (l : List (List Nat)) : Prop := ∀ a I' H', Ext I H I' H' → I' a = some (.lst (sL l)) → Q (.ref a) H'
abbrev sp_rparams : Sp := Sp2 fun u v H Q E => ∃ (I : Hp) (t : Vbdcar.Tree) (n : Nat) (ps : Vbdcar.Trees), Same I H ∧ TreeAt I u t ∧ TreeAt I v (.node n ps) ∧ match parK [] ps.list with
  | some l => RetS I H Q l
  | none => ∀ H', Same H H' → errW E H' t
abbrev n_read_parameters : List Str := ["tree", "row", "parameters", "other"]
theorem sc_read_parameters : FnScope n_read_parameters ["tree", "row"] (defScope s_read_parameters) := ⟨rfl, rfl, rfl, by decide +kernel, rfl, by decide +kernel, by decide +kernel⟩
theorem d_read_parameters (T : Tx w K mg)  : Def w K mg base 5 "read_parameters" ["tree", "row"] (sp_rparams) :=
  mkDef2 T f_read_parameters rfl rfl sc_read_parameters rfl (fun _ _ _ _ _ _ us hl => match us, hl with | [_, _], _ => rfl) fun u v cdv A outer s H Q E hr h =>
  ⟨_, (pss_cons (ps_set (i := 2) sc_read_parameters.nd rfl (Or.inl rfl) (pe_lst pa_nil))
  (pss_cons (ps_for (passes_of rfl) rfl (pi_list (pe_fld (pv 1) rfl)) (pg_name (i := 3) sc_read_parameters.nd rfl (Or.inl rfl)) (pss_cons (ps_expr (pe_c (d_need T) hr pz (pa_cons (pe_and (pe_c (d_is_word T) hr pz (pa_cons (pv 3) pa_nil)) (pe_and (pe_c (d_is_name T) hr pz (pa_cons (pe_fld (pv 3) rfl) pa_nil)) (pe_one (pe_cmpR op_notIn_seq (pe_fld (pv 3) rfl) (pv 2) (by rfl))))) (pa_cons (pv 0) pa_nil))))
  (pss_one (ps_expr (pe_bm PySem.F.plainAttrs_list PySem.F.slot_list_append PySem.F.type_list_append mt_append (pv 2) (pa_cons (pe_fld (pv 3) rfl) pa_nil))))))
  (pss_cons (ps_expr (pe_c (d_need T) hr pz (pa_cons (pe_cmpR op_le (pe_callB call_len_seq (by rfl) T.fr_len (by decide +kernel) (pa_cons (pv 2) pa_nil)) (pe_gi T.k_MOST_PARAMETERS) (nomark _)) (pa_cons (pv 0) pa_nil))))
  (pss_one (ps_ret (pv 2)))))), by
  obtain ⟨I, t, n, ps, sI, hu, hv, q⟩ := h
  cases hv with | @node a dx d li _ _ xs ha hl hn hz hc =>
  refine k_sset ⟨by rw [sizeLine_eq]; exact Nat.zero_le _, fun D hD => ?_⟩
  have iD := sI.free hD
  have e0 := (Ext.refl sI).tmp (o := .lst []) hD
  refine ⟨_, rfl, a, _, dx, _, _, rfl, e0.si _ _ ha, T.c_Tree, T.n_Tree_inner, rfl, li, rfl, ⟨xs, .inl (.inl (e0.si _ _ hl))⟩, ?_⟩
  refine for_list (xs := xs) (fun i σ H' => ∃ acc o3, Ext I H I H' ∧ H' D = some (.lst (sL acc)) ∧ acc.length ≤ i ∧ Low acc ∧ parK [] ps.list = parK acc (ps.list.drop i) ∧ σ = [some u, some (.ref a), some (.ref D), o3]) ⟨[], _, e0, upd_same, Nat.le_refl _, fun b hb => by simp at hb, rfl, rfl⟩ (fun i σ H' _ ⟨_, _, e, _⟩ => .inl (.inl (e.si _ _ hl))) (fun i x σ H1 hi ⟨acc, o3, e1, hD1, hal, hlow, hpk, es⟩ => ?_) fun σ H1 ⟨acc, o3, e1, hD1, hal, hlow, hpk, es⟩ => ?_
  · subst es
    have hix := (List.getElem?_eq_some_iff.mp hi).1
    obtain ⟨c, hcc⟩ := get_of_len hn hi
    have hx := (hc i x c hi hcc)
    have hxH := hx.mono e1.si
    rw [drop_get hcc] at hpk
    have fin : ∀ b, c = .word c.place b → Vbdcar.isFree b = true → acc.contains b = false → parK acc (c :: ps.list.drop (i + 1)) = parK (acc ++ [b]) (ps.list.drop (i + 1)) := fun b e h1 h2 => by
      rw [e, parK, h1, h2]; rfl
    have bad : (∀ b, c = .word c.place b → (Vbdcar.isFree b && !acc.contains b) = false) → parK [] ps.list = none := fun h => by
      rw [hpk]
      cases c with
      | word n b => rw [parK, h b rfl]; rfl
      | node n l =>
        rw [parK]
        · intros; simp_all
        · intros; simp_all
    cases c with
    | node n2 l2 =>
      refine k_exp (k_need (c := false) (fun Q' r => ⟨_, rfl, _, rfl, _, hxH, _, rfl, iteF r⟩) rfl (hu.mono e1.si) (fun z => nomatch z) fun _ => ?_)
      rw [bad (fun b e => by cases e)] at q
      exact q H1 e1.hh
    | word n2 b =>
      obtain ⟨a2, dx2, d2, iv2, rfl, ha2, hw2⟩ := hx.at
      have hbl : b.length ≤ 4000 := by cases hx with | word _ _ h _ => exact h
      have hlb := lettersB_len b
      have ha2H := e1.si _ _ ha2
      have hcall : ∀ (b1 : Bool), isNm (sB (lettersB b)) = b1 → True := fun _ _ => True.intro
      have key : ∀ Q' : VK, Q' (.bl (Vbdcar.isFree b && !acc.contains b)) H1 → tAndV (tCall (Sp1 fun u H Q _ => ∃ t, TreeAt H u t ∧ Q (.bl (isW t)) H) [] E (tCons (tVar 3) tNil)) (tAndV (tCall (Sp1 fun u H Q _ => ∃ s, u = .str s ∧ s.length ≤ 4000 ∧ Q (.bl (isNm s)) H) [] E (tCons (tFld K (tVar 3) "letters") tNil)) (tOp (rIn K true) (tFld K (tVar 3) "letters") (tVar 2))) [some u, some (.ref a), some (.ref D), some (.ref a2)] H1 Q' := fun Q' r => by
        refine ⟨_, rfl, _, rfl, _, hxH, _, rfl, iteT ⟨_, rfl, a2, _, dx2, _, _, rfl, ha2H, T.c_Tree, T.n_Tree_letters, rfl, _, rfl, _, rfl, (show (lettersB b).length ≤ 4000 by omega), _, rfl, ?_⟩⟩
        show if isNm (sB (lettersB b)) = true then _ else _
        rw [free_eq]
        cases hf : Vbdcar.isFree b with
        | false => rw [hf, Bool.false_and] at r; exact iteF r
        | true =>
          rw [hf, Bool.true_and] at r
          refine iteT ⟨_, rfl, a2, _, dx2, _, _, rfl, ha2H, T.c_Tree, T.n_Tree_letters, rfl, _, rfl, D, _, rfl, .inl (.inl (.inl hD1)), rfl, flatWords acc, ?_⟩
          rw [show letT (.word n2 b) = sB (lettersB b) from rfl, inWords, free_low hf]
          exact r
      refine k_exp (k_need (c := Vbdcar.isFree b && !acc.contains b) key rfl (hu.mono e1.si) (fun z => ?_) fun z => ?_)
      · rw [Bool.and_eq_true, Bool.not_eq_true'] at z
        refine ⟨_, rfl, .inl ⟨rfl, _, .inl (.inl hD1)⟩, _, rfl, a2, _, dx2, _, _, rfl, ha2H, T.c_Tree, T.n_Tree_letters, rfl, D, _, _, rfl, rfl, hD1, by rw [List.length_map, sizeLine_eq]; omega, ?_⟩
        refine ⟨acc ++ [b], _, e1.mut hD iD, ?_, by simp; omega, fun x hx => ?_, by rw [hpk]; exact fin b rfl z.1 z.2, rfl⟩
        · rw [upd_same, sL_snoc]
          show some (HO.lst (sL acc ++ [.str (sB (lettersB b))])) = _
          rw [free_low z.1]
        · rcases List.mem_append.mp hx with hx | hx
          · exact hlow x hx
          · rw [List.mem_singleton.mp hx]
            have := isFree_len z.1
            exact ⟨this.2.2, this.2.1⟩
      · rw [bad (fun b' e => by cases e; exact z)] at q
        exact q H1 e1.hh
  · subst es
    rw [hn, List.drop_length, parK] at hpk
    dsimp only
    refine k_exp (k_need (c := decide (acc.length ≤ 4)) (fun Q' r => ⟨_, rfl, D, _, rfl, .inl (.inl (.inl hD1)), _, _, rfl, rfl, ?_⟩) rfl (hu.mono e1.si) (fun z => ?_) fun z => ?_)
    · rw [List.length_map]
      have : decide (((acc.length : Nat) : Int) ≤ 4) = decide (acc.length ≤ 4) := by rw [Bool.eq_iff_iff]; simp; omega
      show Q' (.bl (decide (((acc.length : Nat) : Int) ≤ 4))) H1
      rw [this]; exact r
    · rw [if_pos (of_decide_eq_true z)] at hpk
      rw [hpk] at q
      exact ⟨_, rfl, q D _ H1 (e1.frz hD iD hD1) upd_same⟩
    · rw [if_neg (of_decide_eq_false z)] at hpk
      rw [hpk] at q
      exact q H1 e1.hh⟩
end
end Bd


end
/-! ## BdReadB -/
section
namespace Bd
open PySem PySem.Spec PyProof.Rows
open L2
section
variable {w : World} {K : PySem.W.Frag} {mg : Str → Option Value} {base : Heap}
abbrev sp_rhead : Sp := Sp2 fun u v H Q E => ∃ (I : Hp) (t : Vbdcar.Tree) (na : Addr) (ns : List (List Nat)), Same I H ∧ TreeAt I u t ∧ v = .ref na ∧ H na = some (.lst (sL ns)) ∧ ns.length ≤ 1000 ∧ Low ns ∧ match Vbdcar.headOf t with
  | none => ∀ H', Same H H' → errW E H' t
  | some x => if x.1 ∈ ns ∨ 8 ≤ ns.length then ∀ H', Same H H' → errW E H' t else ∀ r I' H', Ext I H I' H' → HeadAt I' r x → Q r H'
theorem low_free {x : List Nat} {ns : List (List Nat)} (h : Vbdcar.isFree x = true) (hl : Low ns) : Low (ns ++ [x]) := fun b hb => by
  rcases List.mem_append.mp hb with hb | hb
  · exact hl b hb
  · rw [List.mem_singleton.mp hb]
    have := isFree_len h
    exact ⟨this.2.2, this.2.1⟩
abbrev n_read_head : List Str := ["tree", "names", "word", "title", "row", "body", "parameters"]
theorem sc_read_head : FnScope n_read_head ["tree", "names"] (defScope s_read_head) := ⟨rfl, rfl, rfl, by decide +kernel, rfl, by decide +kernel, by decide +kernel⟩
theorem d_read_head (T : Tx w K mg)  : Def w K mg base 6 "read_head" ["tree", "names"] (sp_rhead) :=
  mkDef2 T f_read_head rfl rfl sc_read_head rfl (fun _ _ _ _ _ _ us hl => match us, hl with | [_, _], _ => rfl) fun u v cdv A outer s H Q E hr h =>
  ⟨_, (pss_cons (ps_expr (pe_c (d_need T) hr pz (pa_cons (pe_and (pe_not (pe_c (d_is_word T) hr pz (pa_cons (pv 0) pa_nil))) (pe_one (pe_cmpR op_eq (pe_callB call_len_seq (by rfl) T.fr_len (by decide +kernel) (pa_cons (pe_fld (pv 0) rfl) pa_nil)) pe_int (nomark _)))) (pa_cons (pv 0) pa_nil))))
  (pss_cons (ps_asg (pe_fld (pv 0) rfl) (pg_unl rfl (pgs_cons (pg_name (i := 2) sc_read_head.nd rfl (Or.inl rfl)) (pgs_cons (pg_name (i := 3) sc_read_head.nd rfl (Or.inl rfl)) (pgs_cons (pg_name (i := 4) sc_read_head.nd rfl (Or.inl rfl)) (pgs_cons (pg_name (i := 5) sc_read_head.nd rfl (Or.inl rfl)) pgs_nil))))))
  (pss_cons (ps_expr (pe_c (d_need T) hr pz (pa_cons (pe_and (pe_c (d_is_word T) hr pz (pa_cons (pv 2) pa_nil)) (pe_one (pe_cmpR op_eq (pe_fld (pv 2) rfl) pe_str (nomark _)))) (pa_cons (pv 0) pa_nil))))
  (pss_cons (ps_expr (pe_c (d_need T) hr pz (pa_cons (pe_and (pe_c (d_is_word T) hr pz (pa_cons (pv 3) pa_nil)) (pe_and (pe_c (d_is_name T) hr pz (pa_cons (pe_fld (pv 3) rfl) pa_nil)) (pe_one (pe_not (pe_c (d_is_word T) hr pz (pa_cons (pv 4) pa_nil)))))) (pa_cons (pv 0) pa_nil))))
  (pss_cons (ps_set (i := 6) sc_read_head.nd rfl (Or.inl rfl) (pe_c (d_read_parameters T) hr pz (pa_cons (pv 0) (pa_cons (pv 4) pa_nil))))
  (pss_cons (ps_expr (pe_c (d_need T) hr pz (pa_cons (pe_and (pe_cmpR op_notIn_seq (pe_fld (pv 3) rfl) (pv 1) (by rfl)) (pe_one (pe_cmpR op_lt (pe_callB call_len_seq (by rfl) T.fr_len (by decide +kernel) (pa_cons (pv 1) pa_nil)) (pe_gi T.k_MOST_FUNCTIONS) (nomark _)))) (pa_cons (pv 0) pa_nil))))
  (pss_one (ps_ret (pe_mk (m_Head T) hr pz (pa_cons (pe_fld (pv 3) rfl) (pa_cons (pv 6) (pa_cons (pv 5) pa_nil)))))))))))), by
  obtain ⟨I, t, na, ns, sI, hu, rfl, hna, hnl, hlow, q⟩ := h
  have huH := hu.mono sI
  cases t with
  | word n b =>
    refine k_exp (k_need (c := false) (fun Q' r => ⟨_, rfl, _, rfl, _, huH, _, rfl, _, rfl, iteF r⟩) rfl huH (fun z => nomatch z) fun _ => q H (.refl H))
  | node n l =>
    cases hu with | @node a dx d li _ _ xs ha hl hn hz hc =>
    have haH := sI _ _ ha
    have hlH := sI _ _ hl
    refine k_exp (k_need (c := decide (((xs.length : Nat) : Int) = 4)) (fun Q' r => ⟨_, rfl, _, rfl, _, huH, _, rfl, _, rfl, iteT ⟨_, rfl, a, _, dx, _, _, rfl, haH, T.c_Tree, T.n_Tree_inner, rfl, li, _, rfl, .inl (.inl (.inl hlH)), rfl, by rw [dI]; exact r⟩⟩) rfl huH (fun z => ?_) fun z => ?_)
    · have hx4 : xs.length = 4 := by have := of_decide_eq_true z; omega
      have hl4 : l.list.length = 4 := by omega
      match l, hl4 with
      | .cons wt (.cons ti (.cons rw_ (.cons bd .nil))), _ =>
      match xs, hx4 with
      | [x0, x1, x2, x3], _ =>
      rw [headOf_four] at q
      have t0 := hc 0 x0 wt rfl rfl
      have t1 := hc 1 x1 ti rfl rfl
      have t2 := hc 2 x2 rw_ rfl rfl
      have t3 := hc 3 x3 bd rfl rfl
      refine k_sasg ⟨_, rfl, a, _, dx, _, _, rfl, haH, T.c_Tree, T.n_Tree_inner, rfl, li, _, rfl, .inl (.inl hlH), rfl, _, _, rfl, _, _, rfl, _, _, rfl, _, _, rfl, rfl, ?_⟩
      have w0 := t0.mono sI
      have w1 := t1.mono sI
      have w2 := t2.mono sI
      cases wt with
      | node m0 l0 => exact k_exp (k_need (c := false) (fun Q' r => ⟨_, rfl, _, rfl, _, w0, _, rfl, iteF r⟩) rfl huH (fun z => nomatch z) fun _ => q H (.refl H))
      | word m0 hw =>
      obtain ⟨a0, dx0, d0, iv0, rfl, ha0, _⟩ := w0.at
      have e0 : decide (sB (lettersB hw) = Str.ofString "fun") = decide (hw = Vbdcar.ascii "fun") := by
        rw [sLit _ "fun" (ofS "fun"), Bool.eq_iff_iff, beq_iff_eq, decide_eq_true_iff]
        constructor
        · intro h; exact lettersB_mem h (by decide +kernel)
        · intro h; rw [h]; decide +kernel
      refine k_exp (k_need (c := decide (hw = Vbdcar.ascii "fun")) (fun Q' r => ⟨_, rfl, _, rfl, _, w0, _, rfl, iteT ⟨_, rfl, a0, _, dx0, _, _, rfl, ha0, T.c_Tree, T.n_Tree_letters, rfl, rfl, by rw [dS]; show Q' (.bl (decide (sB (lettersB hw) = Str.ofString "fun"))) H; rw [e0]; exact r⟩⟩) rfl huH (fun zf => ?_) fun zf => ?_)
      · have hfun := of_decide_eq_true zf
        cases ti with
        | node m1 l1 => exact k_exp (k_need (c := false) (fun Q' r => ⟨_, rfl, _, rfl, _, w1, _, rfl, iteF r⟩) rfl huH (fun z => nomatch z) fun _ => q H (.refl H))
        | word m1 f =>
        obtain ⟨a1, dx1, d1, iv1, rfl, ha1, _⟩ := w1.at
        have hfl : f.length ≤ 4000 := by cases w1 with | word _ _ h _ => exact h
        have hlb := lettersB_len f
        refine k_exp (k_need (c := Vbdcar.isFree f && !isW rw_) (fun Q' r => ⟨_, rfl, _, rfl, _, w1, _, rfl, iteT ⟨_, rfl, a1, _, dx1, _, _, rfl, ha1, T.c_Tree, T.n_Tree_letters, rfl, _, rfl, _, rfl, (show (lettersB f).length ≤ 4000 by omega), _, rfl, ?_⟩⟩) rfl huH (fun zt => ?_) fun zt => ?_)
        · show if isNm (sB (lettersB f)) = true then _ else _
          rw [free_eq]
          cases hf : Vbdcar.isFree f with
          | false => rw [hf, Bool.false_and] at r; exact iteF r
          | true =>
            rw [hf, Bool.true_and] at r
            exact iteT ⟨_, rfl, _, rfl, _, w2, _, rfl, r⟩
        · rw [Bool.and_eq_true, Bool.not_eq_true'] at zt
          obtain ⟨hfree, hrow⟩ := zt
          cases rw_ with
          | word _ _ => cases hrow
          | node m2 ps =>
          simp only at q
          rw [if_pos ⟨hfun, hfree⟩] at q
          refine k_sset ⟨_, rfl, _, rfl, _, _, rfl, I, _, m2, ps, sI, .node ha hl hn hz hc, t2, ?_⟩
          cases hpk : parK [] ps.list with
          | none => rw [hpk] at q; exact q
          | some pl =>
            rw [hpk] at q
            replace q : if f ∈ ns ∨ 8 ≤ ns.length then ∀ H', Same H H' → errW E H' (.node n (.cons (.word m0 hw) (.cons (.word m1 f) (.cons (.node m2 ps) (.cons bd .nil))))) else ∀ r I' H', Ext I H I' H' → HeadAt I' r (f, pl, bd) → Q r H' := q
            intro pa I1 H1 e1 hpa
            have huH1 := huH.mono e1.hh
            have ha1' := e1.hh _ _ ha1
            refine k_exp (k_need (c := decide (f ∉ ns ∧ ns.length < 8)) (fun Q' r => ⟨_, rfl, a1, _, dx1, _, _, rfl, ha1', T.c_Tree, T.n_Tree_letters, rfl, _, rfl, na, _, rfl, .inl (.inl (.inl (e1.hh _ _ hna))), rfl, flatWords ns, _, rfl, ?_⟩) rfl huH1 (fun zn => ?_) fun zn => ?_)
            · show if (!inV (.str (sB (lettersB f))) (sL ns)) = true then _ else _
              rw [inWords, low_in hlow]
              cases hm : ns.contains f with
              | true =>
                have : f ∈ ns := List.contains_iff_mem.mp hm
                rw [decide_eq_false (fun z => z.1 this)] at r
                exact iteF r
              | false =>
                have : f ∉ ns := fun z => by rw [List.contains_iff_mem.mpr z] at hm; cases hm
                refine iteT ⟨_, rfl, na, _, rfl, .inl (.inl (.inl (e1.hh _ _ hna))), _, _, rfl, rfl, ?_⟩
                rw [List.length_map]
                have e2 : decide (((ns.length : Nat) : Int) < 8) = decide (f ∉ ns ∧ ns.length < 8) := by
                  rw [Bool.eq_iff_iff]; simp only [decide_eq_true_eq]
                  exact ⟨fun z => ⟨this, by omega⟩, fun z => by omega⟩
                show Q' (.bl (decide (((ns.length : Nat) : Int) < 8))) H1
                rw [e2]; exact r
            · have zn := of_decide_eq_true zn
              rw [if_neg (by rintro (z | z); exact zn.1 z; omega)] at q
              refine ⟨_, rfl, a1, _, dx1, _, _, rfl, ha1', T.c_Tree, T.n_Tree_letters, rfl, _, rfl, _, rfl, fun x dxn hx hdx hne => ⟨x, dxn, _, rfl, rfl, upd_same, rfl, ?_⟩⟩
              rw [upd_upd]
              have s5 : Same I1 (L2.upd I1 x (.ins cHead dxn [("name", .str (sB (lettersB f))), ("parameters", .ref pa), ("body", x3)])) := Same.new (e1.ih.free hx)
              refine q _ _ _ (e1.ins hx hdx hne) ⟨x, dxn, pa, x3, rfl, ?_, s5 _ _ hpa, (t3.mono e1.ii).mono s5⟩
              show (L2.upd I1 x (.ins cHead dxn [("name", .str (sB (lettersB f))), ("parameters", .ref pa), ("body", x3)])) x = _
              rw [upd_same, free_low hfree]
            · have zn := of_decide_eq_false zn
              rw [if_pos (by by_cases hm : f ∈ ns; exact .inl hm; exact .inr (by have : ¬ ns.length < 8 := fun z => zn ⟨hm, z⟩; omega))] at q
              exact q H1 e1.hh
        · have hq : (match (Vbdcar.Tree.word m0 hw, Vbdcar.Tree.word m1 f, rw_) with
              | (.word _ h, .word _ f, .node _ ps) => if h = Vbdcar.ascii "fun" ∧ Vbdcar.isFree f = true then (parK [] ps.list).map (fun l => (f, l, bd)) else none
              | _ => (none : Option HeadT)) = none := by
            cases rw_ with
            | word _ _ => rfl
            | node m2 ps =>
              show (if hw = Vbdcar.ascii "fun" ∧ Vbdcar.isFree f = true then _ else _) = none
              rw [if_neg]
              rintro ⟨_, z⟩
              rw [z] at zt; cases zt
          cases rw_ with
          | word _ _ => exact q H (.refl H)
          | node m2 ps =>
            simp only at q
            rw [if_neg (by rintro ⟨_, z⟩; rw [z] at zt; cases zt)] at q
            exact q H (.refl H)
      · have hfun := of_decide_eq_false zf
        cases ti with
        | node _ _ => exact q H (.refl H)
        | word _ f =>
          cases rw_ with
          | word _ _ => exact q H (.refl H)
          | node m2 ps =>
            simp only at q
            rw [if_neg (by rintro ⟨z, _⟩; exact hfun z)] at q
            exact q H (.refl H)
    · have hx4 : ¬ xs.length = 4 := fun e => by have := of_decide_eq_false z; omega
      rw [headOf_len (by omega)] at q
      exact q H (.refl H)⟩
end
end Bd


end
/-! ## BdReadC -/
section
namespace Bd
open PySem PySem.Spec PyProof.Rows
open L2
abbrev fsOf (hs : List HeadT) : List (List Nat × Nat) := hs.map fun x => (x.1, x.2.1.length)
structure HsAt (I : Hp) (D : Addr) (hs : List HeadT) : Prop where
  ex : ∃ xs, I D = some (.lst xs) ∧ xs.length = hs.length ∧ ∀ (i : Nat) x h, xs[i]? = some x → hs[i]? = some h → HeadAt I x h
theorem HsAt.mono {I I' : Hp} {D : Addr} {hs : List HeadT} (s : Same I I') (h : HsAt I D hs) : HsAt I' D hs := by
  obtain ⟨xs, h1, h2, h3⟩ := h.ex
  exact ⟨xs, s _ _ h1, h2, fun i x h a b => (h3 i x h a b).mono s⟩
theorem any_names (hs : List HeadT) (n : List Nat) : (fsOf hs).any (fun y => y.1 == n) = true ↔ n ∈ hs.map (·.1) := by
  rw [List.any_map, List.any_eq_true, List.mem_map]
  constructor
  · rintro ⟨x, h1, h2⟩; exact ⟨x, h1, beq_iff_eq.mp h2⟩
  · rintro ⟨x, h1, h2⟩; exact ⟨x, h1, beq_iff_eq.mpr h2⟩
theorem heads_step (hs : List HeadT) (t : Vbdcar.Tree) (r : List Vbdcar.Tree) : Vbdcar.heads (fsOf hs) (t :: r) = match Vbdcar.headOf t with
    | none => .error ⟨t.place, 4⟩
    | some x => if x.1 ∈ hs.map (·.1) ∨ 8 ≤ (hs.map (·.1)).length then .error ⟨t.place, 4⟩ else Vbdcar.heads (fsOf (hs ++ [x])) r := by
  rw [Vbdcar.heads]
  cases hx : Vbdcar.headOf t with
  | none => rfl
  | some x =>
    show (if (fsOf hs).any (fun y => y.1 == x.1) = true ∨ 8 ≤ (fsOf hs).length then _ else _) = (if _ then _ else _)
    have e : ((fsOf hs).any (fun y => y.1 == x.1) = true ∨ 8 ≤ (fsOf hs).length) ↔ (x.1 ∈ hs.map (·.1) ∨ 8 ≤ (hs.map (·.1)).length) := by
      rw [any_names, List.length_map, List.length_map]
    by_cases hc : x.1 ∈ hs.map (·.1) ∨ 8 ≤ (hs.map (·.1)).length
    · rw [if_pos hc, if_pos (e.mpr hc)]; rfl
    · rw [if_neg hc, if_neg (fun z => hc (e.mp z))]
      simp [fsOf]
section
variable {w : World} {K : PySem.W.Frag} {mg : Str → Option Value} {base : Heap}
abbrev sp_rheads : Sp := Sp1 fun u H Q E => ∃ (I : Hp) (a : Addr) (xs : List V) (ts : List Vbdcar.Tree), Same I H ∧ u = .ref a ∧ H a = some (.lst xs) ∧ TsAt I xs ts ∧ xs.length ≤ 4000 ∧ match Vbdcar.heads [] ts with
  | .error w => ∀ H', Same H H' → errT E H' w.kind w.place
  | .ok fs => ∀ D I' H' hs, Ext I H I' H' → HsAt I' D hs → hs.length = ts.length → (∀ (i : Nat) t x, ts[i]? = some t → hs[i]? = some x → Vbdcar.headOf t = some x) → fs = fsOf hs → hs.length ≤ 8 → Q (.ref D) H'
abbrev n_read_heads : List Str := ["trees", "heads", "tree", "head"]
theorem sc_read_heads : FnScope n_read_heads ["trees"] (defScope s_read_heads) := ⟨rfl, rfl, rfl, by decide +kernel, rfl, by decide +kernel, by decide +kernel⟩
theorem d_read_heads (T : Tx w K mg)  : Def w K mg base 7 "read_heads" ["trees"] (sp_rheads) :=
  mkDef1 T f_read_heads rfl rfl sc_read_heads rfl (fun _ _ _ _ _ _ us hl => match us, hl with | [_], _ => rfl) fun u cdv A outer s H Q E hr h =>
  ⟨_, (pss_cons (ps_set (i := 1) sc_read_heads.nd rfl (Or.inl rfl) (pe_lst pa_nil))
  (pss_cons (ps_for (passes_of rfl) rfl (pi_list (pv 0)) (pg_name (i := 2) sc_read_heads.nd rfl (Or.inl rfl)) (pss_one (ps_expr (pe_bm PySem.F.plainAttrs_list PySem.F.slot_list_append PySem.F.type_list_append mt_append (pv 1) (pa_cons (pe_c (d_read_head T) hr pz (pa_cons (pv 2) (pa_cons (pe_lc (own := [("head", 3)]) (g := gName 3) (tt := tYes) rfl sc_read_heads.nd (pi_list (pv 1)) (blkOk_by (N := n_read_heads) (sc := defScope s_read_heads) (by decide +kernel)) (fun _ _ _ _ _ => (pg_name (i := 3) sc_read_heads.nd rfl (Or.inl rfl))) (fun _ _ _ _ _ => pts_nil) (fun _ _ _ _ _ => by exact (pe_fldK (K' := K) (pv 3) rfl))) pa_nil))) pa_nil)))))
  (pss_one (ps_ret (pv 1))))), by
  obtain ⟨I, a, xs, ts, sI, rfl, ha, hts, hz, q⟩ := h
  refine k_sset ⟨by rw [sizeLine_eq]; exact Nat.zero_le _, fun D hD => ?_⟩
  let R : Nat → V → Hp → Prop := fun i y J => ∃ t x, ts[i]? = some t ∧ Vbdcar.headOf t = some x ∧ HeadAt J y x
  have mR : ∀ j z J J', Same J J' → R j z J → R j z J' := fun j z J J' s ⟨t, x, h1, h2, h3⟩ => ⟨t, x, h1, h2, h3.mono s⟩
  have sD : Same H (L2.upd H D (.lst [])) := Same.new hD
  refine ⟨_, rfl, a, rfl, ⟨xs, .inl (.inl (sD _ _ ha))⟩, ?_⟩
  refine for_list (xs := xs) (fun i σ H' => ∃ (I' : Hp) (hs : List HeadT) (o2 o3 : Option V), Acc I H D R i I' H' ∧ hs.length = i ∧ hs.length ≤ 8 ∧ (∀ (j : Nat) t x, ts[j]? = some t → hs[j]? = some x → Vbdcar.headOf t = some x) ∧ Vbdcar.heads [] ts = Vbdcar.heads (fsOf hs) (ts.drop i) ∧ σ = [some (.ref a), some (.ref D), o2, o3])
    ⟨I, [], _, _, Acc.start sI hD, rfl, Nat.zero_le _, fun j t x h1 h2 => by simp at h2, rfl, rfl⟩ (fun i σ H' _ ⟨I', _, _, _, A, _⟩ => .inl (.inl (A.ext.hh _ _ ha))) (fun i x σ H1 hi ⟨I1, hs, o2, o3, A, hlen, h8, hho, hhd, es⟩ => ?_) fun σ H1 ⟨I1, hs, o2, o3, A, hlen, h8, hho, hhd, es⟩ => ?_
  · subst es
    obtain ⟨t, ht⟩ := get_of_len hts.1 hi
    have htr := (hts.2 i x t hi ht).mono A.ext.ii
    rw [drop_get ht, heads_step] at hhd
    obtain ⟨ys, hy, hyl, hyr⟩ := A.at_
    have hget : ∀ j y, ys[j]? = some y → ∃ h, hs[j]? = some h ∧ HeadAt I1 y h := fun j y e => by
      obtain ⟨h, hh⟩ := get_of_len (hyl.trans hlen.symm) e
      obtain ⟨t', x', k1, k2, k3⟩ := hyr j y e
      have := hho j t' h k1 hh
      rw [k2] at this
      cases this
      exact ⟨_, hh, k3⟩
    have hlow : Low (hs.map (·.1)) := fun b hb => by
      obtain ⟨h, hm, rfl⟩ := List.mem_map.mp hb
      obtain ⟨j, hj, e⟩ := List.getElem_of_mem hm
      have hjt : j < ts.length := by
        have := (List.getElem?_eq_some_iff.mp ht).1
        omega
      have := hho j ts[j] h (List.getElem?_eq_getElem hjt) (by rw [List.getElem?_eq_getElem hj, e])
      have := isFree_len (head_ok this).1
      exact ⟨this.2.2, this.2.1⟩
    refine ⟨_, rfl, .inl ⟨rfl, ys, .inl (.inl hy)⟩, _, rfl, ?_⟩
    refine k_lcR (I := I1) (xs := ys) (val_var rfl) (fun j y _ => ∃ h, hs[j]? = some h ∧ y = .str (sB h.1)) A.ext.ih (.inl (.inl hy)) (fun _ => rfl) (fun _ _ _ _ _ h => h) (by omega) (fun j y I2 H2 Q' hj e2 k => ?_) fun D2 zs I2 H2 e2 iD hD2 h2 hl2 r2 => ?_
    · obtain ⟨h, hh, hat⟩ := hget j y hj
      obtain ⟨p, dxp, lip, ubp, rfl, g2, _⟩ := hat.ex
      exact ⟨_, rfl, p, _, dxp, _, _, rfl, e2.si _ _ g2, T.c_Head, T.n_Head_name, rfl, k _ I2 H2 (Ext.refl e2.ih) ⟨h, hh, rfl⟩⟩
    · have hzs : zs = sL (hs.map (·.1)) := by
        have := list_of (hl2.trans (hyl.trans hlen.symm)) r2
        rw [this, sL, List.map_map]; rfl
      subst hzs
      have A2 : ∀ {I3 H3 : Hp} {y : V}, Ext I2 H2 I3 H3 → R i y I3 → ∃ ys, H3 D = some (.lst ys) ∧ ys.length = i ∧ Acc I H D R (i + 1) I3 (L2.upd H3 D (.lst (ys ++ [y]))) := fun e3 r3 => A.step (e2.trans e3) mR r3
      refine ⟨_, _, rfl, I2, t, D2, hs.map (·.1), e2.ih, htr.mono e2.ii, rfl, e2.ih _ _ h2, by rw [List.length_map]; omega, hlow, ?_⟩
      cases hx : Vbdcar.headOf t with
      | none =>
        rw [hx] at hhd
        rw [hhd] at q
        exact fun H3 s3 => q H3 (Same.trans A.ext.hh (Same.trans e2.hh s3))
      | some hd =>
        rw [hx] at hhd
        simp only at hhd ⊢
        by_cases hc : hd.1 ∈ hs.map (·.1) ∨ 8 ≤ (hs.map (·.1)).length
        · rw [if_pos hc] at hhd ⊢
          rw [hhd] at q
          exact fun H3 s3 => q H3 (Same.trans A.ext.hh (Same.trans e2.hh s3))
        · rw [if_neg hc] at hhd ⊢
          intro r3 I3 H3 e3 hat
          obtain ⟨zs, k1, k2, A3⟩ := A2 e3 ⟨t, hd, ht, hx, hat⟩
          have hl8 : hs.length < 8 := by
            have : ¬ 8 ≤ (hs.map (·.1)).length := fun z => hc (.inr z)
            rw [List.length_map] at this
            omega
          refine ⟨D, zs, _, rfl, rfl, k1, by rw [sizeLine_eq]; omega, I3, hs ++ [hd], _, _, A3, by simp [hlen], by simp; omega, fun j t' x' h1 h2 => ?_, hhd, rfl⟩
          by_cases hj : j < hs.length
          · rw [List.getElem?_append_left hj] at h2
            exact hho j t' x' h1 h2
          · have hj2 := (List.getElem?_eq_some_iff.mp h2).1
            simp at hj2
            have : j = hs.length := by omega
            subst this
            rw [List.getElem?_append_right (Nat.le_refl _)] at h2
            simp at h2
            subst h2
            rw [hlen, ht] at h1
            cases h1
            exact hx
  · subst es
    rw [hts.1, List.drop_length, Vbdcar.heads] at hhd
    rw [hhd] at q
    obtain ⟨ys, I2, e2, s2, d2, hyl, r⟩ := A.done mR
    refine ⟨_, rfl, q D I2 H1 hs e2 ⟨ys, d2, by rw [hyl, hlen], fun j y h h1 h2 => ?_⟩ (by rw [hlen, hts.1]) hho rfl h8⟩
    obtain ⟨t', x', k1, k2, k3⟩ := r j y h1
    have := hho j t' h k1 h2
    rw [k2] at this
    cases this
    exact k3⟩
def pcount (fs : List (List Nat × Nat)) (n : List Nat) : Int := match fs.find? fun x => x.1 == n with
  | some x => ((x.2 : Nat) : Int)
  | none => -1
abbrev n_parameter_count : List Str := ["heads", "name", "head"]
theorem sc_parameter_count : FnScope n_parameter_count ["heads", "name"] (defScope s_parameter_count) := ⟨rfl, rfl, rfl, by decide +kernel, rfl, by decide +kernel, by decide +kernel⟩
theorem d_parameter_count (T : Tx w K mg)  : Def w K mg base 1 "parameter_count" ["heads", "name"] (Sp2 fun u v H Q _ => ∃ (a : Addr) (hs : List HeadT) (n : List Nat), u = .ref a ∧ HsAt H a hs ∧ v = .str (sB n) ∧ Q (.int (pcount (fsOf hs) n)) H) :=
  mkDef2 T f_parameter_count rfl rfl sc_parameter_count rfl (fun _ _ _ _ _ _ us hl => match us, hl with | [_, _], _ => rfl) fun u v cdv A outer s H Q E hr h =>
  ⟨_, (pss_cons (ps_for (passes_of rfl) rfl (pi_list (pv 0)) (pg_name (i := 2) sc_parameter_count.nd rfl (Or.inl rfl)) (pss_one (ps_if (pt_cmpR op_eq (pe_fld (pv 2) rfl) (pv 1) (nomark _)) (pss_one (ps_ret (pe_callB call_len_seq (by rfl) T.fr_len (by decide +kernel) (pa_cons (pe_fld (pv 2) rfl) pa_nil)))) pss_nil)))
  (pss_one (ps_ret (pe_un un_neg pe_int)))), by
  obtain ⟨a, hs, n, rfl, hu, rfl, q⟩ := h
  obtain ⟨xs, ha, hl, hc⟩ := hu.ex
  refine ⟨_, rfl, a, rfl, ⟨xs, .inl (.inl ha)⟩, ?_⟩
  refine for_list (xs := xs) (fun i σ H' => H' = H ∧ (∃ o, σ = [some (.ref a), some (.str (sB n)), o]) ∧ ∀ (j : Nat) f, j < i → (fsOf hs)[j]? = some f → (f.1 == n) = false) ⟨rfl, ⟨_, rfl⟩, fun j f hj => absurd hj (by omega)⟩
    (fun i σ H' _ ⟨e, _⟩ => by subst e; exact .inl (.inl ha)) (fun i x σ H' hi ⟨e, ⟨o, e2⟩, hb⟩ => ?_) fun σ H' ⟨e, ⟨o, e2⟩, hb⟩ => ?_
  · subst e e2
    obtain ⟨f, hf⟩ := get_of_len hl hi
    obtain ⟨b, dx2, li2, ub, rfl, g2, g3, g4⟩ := (hc i x f hi hf).ex
    have hff : (fsOf hs)[i]? = some (f.1, f.2.1.length) := by rw [List.getElem?_map, hf]; rfl
    refine ⟨_, rfl, b, _, dx2, _, _, rfl, g2, T.c_Head, T.n_Head_name, rfl, _, rfl, rfl, _, rfl, ?_⟩
    rw [dS]
    by_cases hn : f.1 = n
    · rw [decide_eq_true (by rw [hn])]
      refine iteT ⟨_, rfl, b, _, dx2, _, _, rfl, g2, T.c_Head, T.n_Head_parameters, rfl, li2, _, rfl, .inl (.inl (.inl g3)), ?_⟩
      rw [List.length_map]
      unfold pcount at q
      rw [find_at hff (by show (f.1 == n) = true; rw [hn]; exact beq_self_eq_true _) hb] at q
      exact q
    · rw [decide_eq_false (fun z => hn (sB_inj z))]
      refine iteF ⟨rfl, ⟨_, rfl⟩, fun j g hj hg => ?_⟩
      by_cases hji : j < i
      · exact hb j g hji hg
      · obtain rfl : j = i := by omega
        rw [hff] at hg
        cases hg
        exact beq_eq_false_iff_ne.mpr hn
  · subst e e2
    unfold pcount at q
    rw [find_none (fun j f hf => hb j f (by have := (List.getElem?_eq_some_iff.mp hf).1; rw [List.length_map] at this; omega) hf)] at q
    exact ⟨_, rfl, q⟩⟩
end
end Bd


end
/-! ## BdReadD -/
section
namespace Bd
open PySem PySem.Spec PyProof.Rows
open L2
/-- what comes of reading an expression -/
abbrev OutE (I H : Hp) (Q : VK) (E : XK) (r : Except Vbdcar.Wrong Exp) : Prop := match r with
  | .ok e => RetE I H Q e
  | .error w => ∀ H', Same H H' → errT E H' w.kind w.place
abbrev VsOk (ks vs : List (List Nat)) : Prop := ∀ b, vs.contains b = (ks.contains b || Vbdcar.INPUTS.contains b)
theorem OutE.later {I H H1 I1 : Hp} {Q : VK} {E : XK} {r : Except Vbdcar.Wrong Exp} (e : Ext I H I1 H1) (q : OutE I H Q E r) : OutE I1 H1 Q E r := by
  cases r with
  | ok x => exact fun u I' H' e' h' => q u I' H' (e.trans e') h'
  | error w => exact fun H' s => q H' (Same.trans e.hh s)
theorem expAt_new {I H I1 H1 : Hp} {Q : VK} {e : Exp} {x dx li : Addr} {xs : List V} {o : HO} (e1 : Ext I H I1 H1) (hx : H1 x = none) (hd : H1 dx = none) (hne : dx ≠ x) (ho : o = .ins cExpression dx (expF (Str.ofString (kindOf e)) (wordOf e) (numOf e) li)) (hl : I1 li = some (.lst xs)) (hn : xs.length = (innerOf e).length) (hz : xs.length ≤ 8) (hc : PartsAt I1 xs (innerOf e)) (q : RetE I H Q e) : Q (.ref x) (upd (upd H1 dx (.own x)) x o) := by
  subst ho
  have s := Same.new (o := .ins cExpression dx (expF (Str.ofString (kindOf e)) (wordOf e) (numOf e) li)) (e1.ih.free hx)
  exact q _ _ _ (e1.ins hx hd hne) (.mk upd_same (s _ _ hl) hn hz fun i y c h1 h2 => (hc i y c h1 h2).mono s)
section
variable {w : World} {K : PySem.W.Frag} {mg : Str → Option Value} {base : Heap}
abbrev sp_rword : Sp := Sp2 fun u v H Q E => ∃ (I : Hp) (n : Nat) (b : List Nat) (kA : Addr) (ks vs : List (List Nat)), Same I H ∧ TreeAt I u (.word n b) ∧ v = .ref kA ∧ I kA = some (.lst (sL ks)) ∧ Low ks ∧ VsOk ks vs ∧ OutE I H Q E (match Vbdcar.number b with
    | some k => .ok (.num k)
    | none => if vs.contains b = true then .ok (.var b) else .error ⟨n, 4⟩)
abbrev n_read_word : List Str := ["tree", "known", "number"]
theorem sc_read_word : FnScope n_read_word ["tree", "known"] (defScope s_read_word) := ⟨rfl, rfl, rfl, by decide +kernel, rfl, by decide +kernel, by decide +kernel⟩
theorem d_read_word (T : Tx w K mg)  : Def w K mg base 5 "read_word" ["tree", "known"] (sp_rword) :=
  mkDef2 T f_read_word rfl rfl sc_read_word rfl (fun _ _ _ _ _ _ us hl => match us, hl with | [_, _], _ => rfl) fun u v cdv A outer s H Q E hr h =>
  ⟨_, (pss_cons (ps_set (i := 2) sc_read_word.nd rfl (Or.inl rfl) (pe_c (d_number_of T) hr pz (pa_cons (pe_fld (pv 0) rfl) pa_nil)))
  (pss_cons (ps_if (pt_cmpR op_notN (pv 2) pe_non (nomark _)) (pss_one (ps_ret (pe_c (d_number_expression T) hr pz (pa_cons (pv 2) pa_nil)))) pss_nil)
  (pss_cons (ps_expr (pe_c (d_need T) hr pz (pa_cons (pe_or (pe_cmpR op_in_seq (pe_fld (pv 0) rfl) (pe_gr T.k_INPUTS) (by rfl)) (pe_one (pe_cmpR op_in_seq (pe_fld (pv 0) rfl) (pv 1) (by rfl)))) (pa_cons (pv 0) pa_nil))))
  (pss_one (ps_ret (pe_mk (m_Expression T) hr pz (pa_cons pe_str (pa_cons (pe_fld (pv 0) rfl) (pa_cons pe_int (pa_cons (pe_lst pa_nil) pa_nil)))))))))), by
  obtain ⟨I, n, b, kA, ks, vs, sI, hu, rfl, hk, hlow, hvs, q⟩ := h
  cases id hu with | @word a dx d _ _ ha hd hb hne =>
  refine k_sset ⟨_, rfl, a, _, dx, _, _, rfl, sI _ _ ha, T.c_Tree, T.n_Tree_data, rfl, _, rfl, d, iB b, rfl, sI _ _ hd, by rw [iB_len]; exact hb, fun e => hne (List.map_eq_nil_iff.mp e), fun H1 s1 => ?_⟩
  rw [number_eq hne]
  have e1 : Ext I H I H1 := Ext.all sI s1
  have sI1 := e1.ih
  cases hnum : Vbdcar.number b with
  | some k =>
    rw [hnum] at q
    exact k_sifN ⟨_, rfl, rfl, _, rfl, iteT ⟨_, rfl, _, rfl, I, k, sI1, rfl, fun u' I' H' e' h' => q u' I' H' (e1.trans e') h'⟩⟩
  | none =>
    rw [hnum] at q
    replace q : OutE I H Q E (if vs.contains b = true then .ok (.var b) else .error ⟨n, 4⟩) := q
    have haH := sI1 _ _ ha
    refine k_sifN ⟨_, rfl, rfl, _, rfl, iteF ?_⟩
    refine k_exp (k_need (c := vs.contains b) (fun Q' r => ⟨_, rfl, a, _, dx, _, _, rfl, haH, T.c_Tree, T.n_Tree_letters, rfl, _, _, rfl, .inr (T.t_INPUTS H1), rfl, fl_INPUTS, _, rfl, ?_⟩) rfl (hu.mono sI1) (fun z => ?_) fun z => ?_)
    · show if inV (.str (sB (lettersB b))) c_INPUTS = true then _ else _
      rw [vI, inWords, low_in low_inputs]
      rw [hvs] at r
      cases hi : Vbdcar.INPUTS.contains b with
      | true => rw [hi, Bool.or_true] at r; exact iteT r
      | false =>
        rw [hi, Bool.or_false] at r
        refine iteF ⟨_, rfl, a, _, dx, _, _, rfl, haH, T.c_Tree, T.n_Tree_letters, rfl, _, rfl, kA, _, rfl, .inl (.inl (.inl (sI1 _ _ hk))), rfl, flatWords ks, ?_⟩
        show Q' (.bl (inV (.str (sB (lettersB b))) (sL ks))) H1
        rw [inWords, low_in hlow]
        exact r
    · rw [if_pos z] at q
      have hlb : lettersB b = b := by
        rw [hvs, Bool.or_eq_true] at z
        rcases z with z | z
        · exact if_pos (hlow b (List.contains_iff_mem.mp z)).1
        · exact if_pos (low_inputs b (List.contains_iff_mem.mp z)).1
      refine ⟨_, rfl, a, _, dx, _, _, rfl, haH, T.c_Tree, T.n_Tree_letters, rfl, by rw [sizeLine_eq]; exact Nat.zero_le _, fun p hp => fun x dx2 hx hdx hne2 => ⟨x, dx2, _, rfl, rfl, upd_same, rfl, ?_⟩⟩
      rw [upd_upd]
      refine expAt_new (e := .var b) (xs := []) (li := p) (e1.new hp) hx hdx hne2 ?_ upd_same rfl (by decide) (fun i y c h1 h2 => by simp at h1) q
      show HO.ins cExpression dx2 [("kind", .str (Str.ofString "variable")), ("word", .str (sB (lettersB b))), ("number", .int 0), ("inner", .ref p)] = _
      rw [hlb]
      rfl
    · rw [if_neg (by rw [z]; exact Bool.false_ne_true)] at q
      exact q H1 s1⟩
structure RdAt (I : Hp) (v y : V) (ks vs : List (List Nat)) (hs : List HeadT) : Prop where
  kn : ∃ kA, v = .ref kA ∧ I kA = some (.lst (sL ks))
  low : Low ks
  hd : ∃ hA, y = .ref hA ∧ HsAt I hA hs
  lowH : Low (hs.map (·.1))
  vs : VsOk ks vs
  p4 : ∀ h ∈ hs, h.2.1.length ≤ 4
theorem RdAt.mono {I I' : Hp} {v y : V} {ks vs : List (List Nat)} {hs : List HeadT} (s : Same I I') (h : RdAt I v y ks vs hs) : RdAt I' v y ks vs hs := by
  obtain ⟨kA, h1, h2⟩ := h.kn
  obtain ⟨hA, h3, h4⟩ := h.hd
  exact ⟨⟨kA, h1, s _ _ h2⟩, h.low, ⟨hA, h3, h4.mono s⟩, h.lowH, h.vs, h.p4⟩
abbrev sp_rexp (d : Nat) : Sp := Sp3 fun u v y H Q E => ∃ (I : Hp) (t : Vbdcar.Tree) (ks vs : List (List Nat)) (hs : List HeadT), tdeep t < d ∧ ks.length + d ≤ 1000 ∧ Same I H ∧ TreeAt I u t ∧ RdAt I v y ks vs hs ∧ OutE I H Q E (Vbdcar.expOf (fsOf hs) vs t)
abbrev OutEs (I H : Hp) (Q : VK) (E : XK) (r : Except Vbdcar.Wrong (List Exp)) : Prop := match r with
  | .ok es => ∀ D xs I' H', Ext I H I' H' → I' D = some (.lst xs) → xs.length = es.length → PartsAt I' xs es → Q (.ref D) H'
  | .error w => ∀ H', Same H H' → errT E H' w.kind w.place
abbrev sp_rall (d : Nat) : Sp := Sp3 fun u v y H Q E => ∃ (I : Hp) (a : Addr) (xs : List V) (l : Vbdcar.Trees) (ks vs : List (List Nat)) (hs : List HeadT), tdeeps l < d ∧ ks.length + d ≤ 1000 ∧ Same I H ∧ u = .ref a ∧ H a = some (.lst xs) ∧ TsAt I xs l.list ∧ xs.length ≤ 4000 ∧ RdAt I v y ks vs hs ∧ OutEs I H Q E (Vbdcar.expsOf (fsOf hs) vs l)
/-- the first of the trees that is wrong, or all of them -/
theorem exps_each {fs : List (List Nat × Nat)} {vs : List (List Nat)} : ∀ (l : Vbdcar.Trees), (∃ es, Vbdcar.expsOf fs vs l = .ok es ∧ es.length = l.list.length ∧ ∀ (i : Nat) t, l.list[i]? = some t → ∃ e, es[i]? = some e ∧ Vbdcar.expOf fs vs t = .ok e) ∨
    (∃ (i : Nat) (t : Vbdcar.Tree) (w : Vbdcar.Wrong), l.list[i]? = some t ∧ Vbdcar.expOf fs vs t = .error w ∧ Vbdcar.expsOf fs vs l = .error w ∧ ∀ (j : Nat) u, j < i → l.list[j]? = some u → ∃ e, Vbdcar.expOf fs vs u = .ok e)
  | .nil => .inl ⟨[], exps_nil _ _, rfl, fun i t h => by simp [Vbdcar.Trees.list] at h⟩
  | .cons t l => by
    rw [exps_cons]
    cases ht : Vbdcar.expOf fs vs t with
    | error w => exact .inr ⟨0, t, w, rfl, ht, rfl, fun j u hj => absurd hj (Nat.not_lt_zero _)⟩
    | ok e =>
      rcases exps_each (fs := fs) (vs := vs) l with ⟨es, h1, h2, h3⟩ | ⟨i, u, w, h1, h2, h3, h4⟩
      · refine .inl ⟨e :: es, by rw [h1], by rw [List.length_cons, Vbdcar.Trees.list, List.length_cons, h2], fun i u hu => ?_⟩
        cases i with
        | zero => cases hu; exact ⟨e, rfl, ht⟩
        | succ i => exact h3 i u hu
      · refine .inr ⟨i + 1, u, w, h1, h2, by rw [h3], fun j v hj hv => ?_⟩
        cases j with
        | zero => cases hv; exact ⟨e, ht⟩
        | succ j => exact h4 j v (by omega) hv
/-- as k_lcR; at each turn the elements before stand in their relation -/
theorem k_lcP {K : PySem.W.Frag} {ta te : TE} {j : Nat} {vs : List Nat} {σ : L2.St} {I H : Hp} {Q : VK} {a : Addr} {xs : List V} (hv : L2.Val ta σ H (.ref a)) (R : Nat → V → Hp → Prop) (sI : Same I H) (hx : SqL K H a xs)
    (hw : ∀ x, wipe ((wipe σ vs).set j (some x)) vs = wipe σ vs) (hR : ∀ i y J J', Same J J' → R i y J → R i y J') (hz : xs.length ≤ 1000000)
    (he : ∀ i x I2 H2 (Q' : VK), xs[i]? = some x → Ext I H I2 H2 → (∀ n, n < i → ∃ y, R n y I2) → (∀ y I4 H4, Ext I2 H2 I4 H4 → R i y I4 → Q' y H4) → te ((wipe σ vs).set j (some x)) H2 Q')
    (q : ∀ D ys I' H', Ext I H I' H' → I D = none → H D = none → I' D = some (.lst ys) → ys.length = xs.length → (∀ (i : Nat) y, ys[i]? = some y → R i y I') → Q (.ref D) H') :
    tLc (iList K ta) (gName j) tYes te vs σ H Q := hv _ ⟨a, rfl, ⟨xs, hx⟩, fun D hD => by
  have iD : I D = none := sI.free hD
  refine lc_list (xs := xs) (fun i H' => ∃ ys I', H' D = some (.lst ys) ∧ ys.length = i ∧ I' D = none ∧ Ext I H I' H' ∧ ∀ (k : Nat) y, ys[k]? = some y → R k y I') ⟨[], I, upd_same, rfl, iD, (Ext.refl sI).tmp hD, fun k y e => by simp at e⟩
    (fun i H' _ p => by obtain ⟨ys, I', _, _, _, s, _⟩ := p; exact s.hh.seq hx) (fun i x H' hi p => ?_) fun H' p => ?_
  · obtain ⟨ys, I', h1, h2, h3, s, r⟩ := p
    refine ⟨hw x, ?_⟩
    have hlt := (List.getElem?_eq_some_iff.mp hi).1
    refine he i x I' H' _ hi s (fun n hn => ⟨ys[n], r n _ (List.getElem?_eq_getElem (by omega))⟩) fun y I4 H4 s4 r4 => ⟨ys, s4.hh _ _ h1, Nat.lt_of_le_of_lt (show ys.length ≤ 1000000 by omega) (by rw [sizeLine_eq]; decide), ys ++ [y], I4, upd_same, by simp [h2], ?_, ?_, fun k z e => ?_⟩
    · exact s4.noneI h3 h1
    · exact (s.trans s4).mut hD (s4.noneI h3 h1)
    · by_cases hk : k < ys.length
      · rw [List.getElem?_append_left hk] at e
        exact hR _ _ _ _ s4.ii (r k z e)
      · rw [List.getElem?_append_right (by omega)] at e
        have hk0 : k - ys.length = 0 := by
          have := (List.getElem?_eq_some_iff.mp e).1
          simp at this
          omega
        rw [hk0] at e
        have ez : z = y := by simpa using e.symm
        have ek : k = i := by omega
        subst ez ek
        exact r4
  · obtain ⟨ys, I', h1, h2, h3, s, r⟩ := p
    exact q D ys _ H' (s.frz hD h3 h1) iD hD upd_same h2 fun i y e => hR _ _ _ _ (Same.new h3) (r i y e)⟩
abbrev n_read_all : List Str := ["trees", "known", "heads", "tree"]
theorem sc_read_all : FnScope n_read_all ["trees", "known", "heads"] (defScope s_read_all) := ⟨rfl, rfl, rfl, by decide +kernel, rfl, by decide +kernel, by decide +kernel⟩
theorem e_read_all (T : Tx w K mg) {d : Nat} (ih : Def w K mg base k "read_expression" ["tree", "known", "heads"] (sp_rexp d)) : Def w K mg base (k+1) "read_all" ["trees", "known", "heads"] (sp_rall d) :=
  mkDef3 T f_read_all rfl rfl sc_read_all rfl (fun _ _ _ _ _ _ us hl => match us, hl with | [_, _, _], _ => rfl) fun u v y cdv A outer s H Q E hr h =>
  ⟨_, (pss_one (ps_ret (pe_lcX (own := [("tree", 3)]) (g := gName 3) rfl rfl tz (fun _ _ _ _ h => h) rfl sc_read_all.nd (pi_list (pv 0)) (blkOk_by (N := n_read_all) (sc := defScope s_read_all) (by decide +kernel)) (fun _ _ _ _ _ _ => (pg_name (i := 3) sc_read_all.nd rfl (Or.inl rfl))) (fun _ _ _ _ _ _ hE => by exact (pe_c (hk := by omega) ih hr hE (pa_cons (pv 3) (pa_cons (pv 1) (pa_cons (pv 2) pa_nil)))))))), by
  obtain ⟨I, a, xs, l, ks, vs, hs, hd, hkd, sI, rfl, ha, hts, hz, hR, q⟩ := h
  have each := exps_each (fs := fsOf hs) (vs := vs) l
  refine k_ret (k_lcP (I := I) (xs := xs) (val_var rfl) (fun i y J => ∃ t e, l.list[i]? = some t ∧ Vbdcar.expOf (fsOf hs) vs t = .ok e ∧ ExpAt J y e) sI (.inl (.inl ha)) (fun _ => rfl) (fun i y J J' s h => by obtain ⟨t, e, h1, h2, h3⟩ := h; exact ⟨t, e, h1, h2, h3.mono s⟩) (by omega) (fun i x I2 H2 Q' hi e2 pr k => ?_) fun D ys I2 H2 e2 iD hD hy hyl r => ?_)
  · obtain ⟨t, ht⟩ := get_of_len hts.1 hi
    have hdt := tdeeps_mem (List.mem_of_getElem? ht)
    refine ⟨_, rfl, _, rfl, _, rfl, _, _, _, rfl, I2, t, ks, vs, hs, by omega, hkd, e2.ih, (hts.2 i x t hi ht).mono e2.ii, hR.mono e2.ii, ?_⟩
    cases he : Vbdcar.expOf (fsOf hs) vs t with
    | ok e => exact fun u4 I4 H4 e4 h4 => k _ I4 H4 e4 ⟨t, e, ht, he, h4⟩
    | error w =>
      rcases each with ⟨es, h1, h2, h3⟩ | ⟨n, u, w', h1, h2, h3, h4⟩
      · obtain ⟨e, _, he2⟩ := h3 i t ht
        rw [he] at he2; cases he2
      · rw [h3] at q
        have hin : i = n := by
          rcases Nat.lt_trichotomy i n with z | z | z
          · obtain ⟨e, he2⟩ := h4 i t z ht
            rw [he] at he2; cases he2
          · exact z
          · obtain ⟨y, t', e', k1, k2, _⟩ := pr n z
            rw [h1] at k1
            cases k1
            rw [h2] at k2; cases k2
        subst hin
        rw [ht] at h1
        cases h1
        rw [he] at h2
        cases h2
        exact fun H' s => q H' (Same.trans e2.hh s)
  · rcases each with ⟨es, h1, h2, h3⟩ | ⟨n, u, w', h1, h2, h3, h4⟩
    · rw [h1] at q
      refine q D ys I2 H2 e2 hy (by rw [hyl, hts.1, h2]) fun i y c h5 h6 => ?_
      obtain ⟨t, e, k1, k2, k3⟩ := r i y h5
      obtain ⟨e', k4, k5⟩ := h3 i t k1
      rw [h6] at k4
      cases k4
      rw [k2] at k5
      cases k5
      exact k3
    · exfalso
      have hn : n < ys.length := by
        have := (List.getElem?_eq_some_iff.mp h1).1
        rw [hyl, hts.1]; exact this
      obtain ⟨t, e, k1, k2, _⟩ := r n ys[n] (List.getElem?_eq_getElem hn)
      rw [h1] at k1
      cases k1
      rw [h2] at k2; cases k2⟩
end
end Bd


end
/-! ## BdReadE -/
section
namespace Bd
open PySem PySem.Spec PyProof.Rows
open L2
theorem vsOk_cons {ks vs : List (List Nat)} (h : VsOk ks vs) (x : List Nat) : VsOk (ks ++ [x]) (x :: vs) := fun b => by
  have := h b
  rw [List.contains_cons, this, Bool.eq_iff_iff]
  simp only [Bool.or_eq_true, List.contains_iff_mem, List.mem_append, List.mem_singleton, beq_iff_eq]
  constructor
  · rintro (h | h | h)
    · exact .inl (.inr h)
    · exact .inl (.inl h)
    · exact .inr h
  · rintro ((h | h) | h)
    · exact .inr (.inl h)
    · exact .inl h
    · exact .inr (.inr h)
theorem bindE_kind {h : List Nat} (hb : isBind h) (x : List Nat) (a b : Exp) : Str.ofString (kindOf (bindE h x a b)) = sB h ∧ wordOf (bindE h x a b) = sB x ∧ numOf (bindE h x a b) = 0 ∧ innerOf (bindE h x a b) = [a, b] := by
  rcases hb with rfl | rfl | rfl
  · rw [show bindE (Vbdcar.ascii "let") x a b = .let_ x a b from if_pos rfl]
    exact ⟨ofS "let", rfl, rfl, rfl⟩
  · rw [show bindE (Vbdcar.ascii "each") x a b = .each x a b by unfold bindE; rw [if_neg (by decide +kernel), if_pos rfl]]
    exact ⟨ofS "each", rfl, rfl, rfl⟩
  · rw [show bindE (Vbdcar.ascii "keep") x a b = .keep x a b by unfold bindE; rw [if_neg (by decide +kernel), if_neg (by decide +kernel)]]
    exact ⟨ofS "keep", rfl, rfl, rfl⟩
section
variable {w : World} {K : PySem.W.Frag} {mg : Str → Option Value} {base : Heap}
abbrev sp_rbind (d : Nat) : Sp := Sp4 fun u v y z H Q E => ∃ (I : Hp) (n m : Nat) (h : List Nat) (r : Vbdcar.Trees) (ks vs : List (List Nat)) (hs : List HeadT), tdeeps r < d ∧ ks.length + d + 1 ≤ 1000 ∧ Same I H ∧ TreeAt I u (.node n (.cons (.word m h) r)) ∧ v = .str (sB h) ∧ isBind h ∧ r.list.length = 3 ∧ RdAt I y z ks vs hs ∧ OutE I H Q E (Vbdcar.expOf (fsOf hs) vs (.node n (.cons (.word m h) r)))
abbrev n_read_binding : List Str := ["tree", "form", "known", "heads", "title", "first", "second", "inner"]
theorem sc_read_binding : FnScope n_read_binding ["tree", "form", "known", "heads"] (defScope s_read_binding) := ⟨rfl, rfl, rfl, by decide +kernel, rfl, by decide +kernel, by decide +kernel⟩
theorem e_read_binding (T : Tx w K mg) {d : Nat} (h5 : 5 ≤ k) (ih : Def w K mg base k "read_expression" ["tree", "known", "heads"] (sp_rexp d)) : Def w K mg base (k+1) "read_binding" ["tree", "form", "known", "heads"] (sp_rbind d) :=
  mkDef4 T f_read_binding rfl rfl sc_read_binding rfl (fun _ _ _ _ _ _ us hl => match us, hl with | [_, _, _, _], _ => rfl) fun u v y z cdv A outer s H Q E hr h =>
  ⟨_, (pss_cons (ps_asg (pe_slice sl_list (pe_fld (pv 0) rfl) (po_some pe_int) po_none) (pg_unl rfl (pgs_cons (pg_name (i := 4) sc_read_binding.nd rfl (Or.inl rfl)) (pgs_cons (pg_name (i := 5) sc_read_binding.nd rfl (Or.inl rfl)) (pgs_cons (pg_name (i := 6) sc_read_binding.nd rfl (Or.inl rfl)) pgs_nil)))))
  (pss_cons (ps_expr (pe_c (hk := by omega) (d_need T) hr pz (pa_cons (pe_c (hk := by omega) (d_is_word T) hr pz (pa_cons (pv 4) pa_nil)) (pa_cons (pv 0) pa_nil))))
  (pss_cons (ps_expr (pe_c (hk := by omega) (d_need T) hr pz (pa_cons (pe_c (hk := by omega) (d_is_name T) hr pz (pa_cons (pe_fld (pv 4) rfl) pa_nil)) (pa_cons (pv 4) pa_nil))))
  (pss_cons (ps_set (i := 7) sc_read_binding.nd rfl (Or.inl rfl) (pe_lst (pa_cons (pe_c (hk := by omega) ih hr pz (pa_cons (pv 5) (pa_cons (pv 2) (pa_cons (pv 3) pa_nil)))) pa_nil)))
  (pss_cons (ps_expr (pe_bm PySem.F.plainAttrs_list PySem.F.slot_list_append PySem.F.type_list_append mt_append (pv 7) (pa_cons (pe_c (hk := by omega) ih hr pz (pa_cons (pv 6) (pa_cons (pe_op op_cat (pv 2) (pe_lst (pa_cons (pe_fld (pv 4) rfl) pa_nil))) (pa_cons (pv 3) pa_nil)))) pa_nil)))
  (pss_one (ps_ret (pe_mk (hk := by omega) (m_Expression T) hr pz (pa_cons (pv 1) (pa_cons (pe_fld (pv 4) rfl) (pa_cons pe_int (pa_cons (pv 7) pa_nil)))))))))))), by
  obtain ⟨I, n, m, h, r, ks, vs, hs, hd, hkd, sI, hu, rfl, hb, hl3, hR, q⟩ := h
  match r, hl3 with
  | .cons tt (.cons ta (.cons tb .nil)), _ =>
  cases id hu with | @node a dx d0 li _ _ xs ha hl hn hz hc =>
  have hx4 : xs.length = 4 := hn
  match xs, hx4 with
  | [x0, x1, x2, x3], _ =>
  have t1 := hc 1 x1 tt rfl rfl
  have t2 := hc 2 x2 ta rfl rfl
  have t3 := hc 3 x3 tb rfl rfl
  have haH := sI _ _ ha
  refine k_sasg ⟨_, rfl, a, _, dx, _, _, rfl, haH, T.c_Tree, T.n_Tree_inner, rfl, _, rfl, li, _, rfl, .inl (.inl (sI _ _ hl)), fun S hS => ?_⟩
  rw [cut1]
  have e0 := (Ext.refl sI).tmp (o := .lst [x1, x2, x3]) hS
  refine ⟨S, _, rfl, .inl (.inl upd_same), rfl, _, _, rfl, _, _, rfl, _, _, rfl, rfl, ?_⟩
  have huH := hu.mono e0.ih
  have w1 := t1.mono e0.ih
  have dd : tdeep ta ≤ tdeeps (.cons tt (.cons ta (.cons tb .nil))) ∧ tdeep tb ≤ tdeeps (.cons tt (.cons ta (.cons tb .nil))) := by
    rw [tdeeps, tdeeps, tdeeps]; omega
  cases tt with
  | node m1 l1 =>
    rw [exp_bind_bad hb (fun k x a b e => by cases e)] at q
    exact k_exp (k_need (c := false) (fun Q' r => ⟨_, rfl, _, rfl, _, w1, r⟩) rfl huH (fun z => nomatch z) fun _ => q _ e0.hh)
  | word m1 x =>
  rw [exp_bind hb] at q
  obtain ⟨a1, dx1, d1, iv1, rfl, ha1, _⟩ := t1.at
  have hxl : x.length ≤ 4000 := by cases t1 with | word _ _ h _ => exact h
  have hlb := lettersB_len x
  refine k_exp (k_need (c := true) (fun Q' r => ⟨_, rfl, _, rfl, _, w1, r⟩) rfl huH (fun _ => ?_) (fun z => nomatch z))
  refine k_exp (k_need (c := Vbdcar.isFree x) (fun Q' r => ⟨_, rfl, a1, _, dx1, _, _, rfl, e0.ih _ _ ha1, T.c_Tree, T.n_Tree_letters, rfl, _, rfl, _, rfl, (show (lettersB x).length ≤ 4000 by omega), ?_⟩) rfl w1 (fun hf => ?_) fun hf => ?_)
  · show Q' (.bl (isNm (sB (lettersB x)))) _
    rw [free_eq]; exact r
  · rw [if_neg (by rw [hf]; exact fun z => nomatch z)] at q
    refine k_sset ⟨_, rfl, _, rfl, _, rfl, _, _, _, rfl, I, ta, ks, vs, hs, by omega, by omega, e0.ih, t2.mono (Same.refl I), hR, ?_⟩
    cases hea : Vbdcar.expOf (fsOf hs) vs ta with
    | error w =>
      rw [hea] at q
      exact fun H' s => q H' (Same.trans e0.hh s)
    | ok ea =>
      rw [hea] at q
      intro u1 I1 H1 e1 h1
      refine ⟨one_le _, fun D hD => ?_⟩
      have x1' := e0.trans e1
      have x2' := x1'.tmp (o := .lst [u1]) hD
      have iD : I1 D = none := e1.ih.free hD
      have hDH : H D = none := x1'.hh.free hD
      obtain ⟨kA, hkA, hkl⟩ := hR.kn
      subst hkA
      have ha1D := x2'.si _ _ ha1
      refine ⟨_, rfl, .inl ⟨rfl, _, .inl (.inl upd_same)⟩, _, rfl, _, rfl, _, rfl, a1, _, dx1, _, _, rfl, ha1D, T.c_Tree, T.n_Tree_letters, rfl, one_le _, fun P hP => ?_⟩
      have x3' := x2'.tmp (o := .lst [.str (letT (.word m1 x))]) hP
      refine ⟨kA, P, _, _, rfl, rfl, x3'.si _ _ hkl, upd_same, by rw [List.length_map, sizeLine_eq]; simp; omega, fun P2 hP2 => ?_⟩
      have x4' := x3'.new (o := .lst (sL ks ++ [.str (letT (.word m1 x))])) hP2
      have hks : sL ks ++ [.str (letT (.word m1 x))] = sL (ks ++ [x]) := by
        rw [sL_snoc]
        show sL ks ++ [.str (sB (lettersB x))] = _
        rw [free_low hf]
      have s14 : Same I1 (L2.upd I1 P2 (.lst (sL ks ++ [.str (letT (.word m1 x))]))) := Same.new (x3'.ih.free hP2)
      have hDm : (L2.upd (L2.upd (L2.upd H1 D (.lst [u1])) P (.lst [.str (letT (.word m1 x))])) P2 (.lst (sL ks ++ [.str (letT (.word m1 x))]))) D = some (.lst [u1]) := by
        have nDP : D ≠ P := ne_of_none upd_same hP
        have h2 : (L2.upd (L2.upd H1 D (.lst [u1])) P (.lst [.str (letT (.word m1 x))])) D = some (.lst [u1]) := by rw [upd_ne nDP]; exact upd_same
        rw [upd_ne (ne_of_none h2 hP2)]; exact h2
      have iD4 : (L2.upd I1 P2 (.lst (sL ks ++ [.str (letT (.word m1 x))]))) D = none := by
        have h2 : (L2.upd (L2.upd H1 D (.lst [u1])) P (.lst [.str (letT (.word m1 x))])) D = some (.lst [u1]) := by rw [upd_ne (ne_of_none upd_same hP)]; exact upd_same
        rw [upd_ne (ne_of_none h2 hP2)]; exact iD
      have hR4 : RdAt (L2.upd I1 P2 (.lst (sL ks ++ [.str (letT (.word m1 x))]))) (.ref P2) z (ks ++ [x]) (x :: vs) hs :=
        ⟨⟨P2, rfl, by rw [upd_same, hks]⟩, low_free hf hR.low, (hR.mono (Same.trans e1.ii s14)).hd, hR.lowH, vsOk_cons hR.vs x, hR.p4⟩
      refine ⟨_, rfl, _, _, _, rfl, _, tb, ks ++ [x], x :: vs, hs, by omega, by simp; omega, x4'.ih, t3.mono (Same.trans e1.ii s14), hR4, ?_⟩
      cases heb : Vbdcar.expOf (fsOf hs) (x :: vs) tb with
      | error w =>
        simp only [heb] at q
        exact fun H' s => q H' (Same.trans x4'.hh s)
      | ok eb =>
        simp only [heb] at q
        intro u2 I5 H5 e5 h5'
        have hD5 := e5.hh _ _ hDm
        refine ⟨D, _, _, rfl, rfl, hD5, by rw [sizeLine_eq]; show 1 < _; decide, ?_⟩
        have x5 := x4'.trans e5
        have iD5 := e5.noneI iD4 hDm
        have x6 := x5.mut (o := .lst [u1, u2]) hDH iD5
        have ha1' := x6.si _ _ ha1
        refine ⟨_, rfl, _, rfl, a1, _, dx1, _, _, rfl, ha1', T.c_Tree, T.n_Tree_letters, rfl, _, rfl, fun ad dx2 hx hdx hne2 => ⟨ad, dx2, _, rfl, rfl, upd_same, rfl, ?_⟩⟩
        rw [upd_upd]
        obtain ⟨b1, b2, b3, b4⟩ := bindE_kind hb x ea eb
        have x7 := x6.frz hDH iD5 upd_same
        have s7 : Same I1 (L2.upd I5 D (.lst [u1, u2])) := Same.trans s14 (Same.trans e5.ii (Same.new iD5))
        refine expAt_new (e := bindE h x ea eb) (xs := [u1, u2]) (li := D) x7 hx hdx hne2 ?_ upd_same (by rw [b4]; rfl) (by show 2 ≤ 8; decide) (fun i yv c k1 k2 => ?_) q
        · rw [b1, b2, b3]
          show HO.ins cExpression dx2 [("kind", .str (sB h)), ("word", .str (sB (lettersB x))), ("number", .int 0), ("inner", .ref D)] = _
          rw [free_low hf]
        · rw [b4] at k2
          match i, k1, k2 with
          | 0, k1, k2 => cases k1; cases k2; exact h1.mono s7
          | 1, k1, k2 => cases k1; cases k2; exact h5'.mono (Same.new iD5)
          | i + 2, k1, _ => simp at k1
  · rw [if_pos hf] at q
    exact q _ e0.hh⟩
end
end Bd


end
/-! ## BdReadF -/
section
namespace Bd
open PySem PySem.Spec PyProof.Rows
open L2
theorem formParts_bind {h : List Nat} (hb : isBind h) : formParts (sB h) = 3 := by
  rcases hb with rfl | rfl | rfl <;> decide +kernel
theorem formParts_form {h : List Nat} (hb : isForm h) : formParts (sB h) = ((formN h : Nat) : Int) := by
  rcases hb with rfl | rfl | rfl <;> decide +kernel
theorem formE_kind {h : List Nat} (hb : isForm h) {es : List Exp} (hl : es.length = formN h) : Str.ofString (kindOf (formE h es)) = sB h ∧ wordOf (formE h es) = Str.ofString "" ∧ numOf (formE h es) = 0 ∧ innerOf (formE h es) = es := by
  rcases hb with rfl | rfl | rfl
  · obtain ⟨x, y, z, rfl⟩ := len3 (hl.trans (if_pos rfl))
    exact ⟨ofS "if", rfl, rfl, rfl⟩
  · obtain ⟨x, y, rfl⟩ := len2 (hl.trans (if_neg (by decide +kernel)))
    rw [show formE (Vbdcar.ascii "and") [x, y] = .and_ x y by unfold formE; rw [if_neg (by decide +kernel), if_pos rfl]; rfl]
    exact ⟨ofS "and", rfl, rfl, rfl⟩
  · obtain ⟨x, y, rfl⟩ := len2 (hl.trans (if_neg (by decide +kernel)))
    rw [show formE (Vbdcar.ascii "or") [x, y] = .or_ x y by unfold formE; rw [if_neg (by decide +kernel), if_neg (by decide +kernel)]; rfl]
    exact ⟨ofS "or", rfl, rfl, rfl⟩
theorem form_not_bind {h : List Nat} (hb : isForm h) : decide (sB h = Str.ofString "let") = false ∧ decide (sB h = Str.ofString "each") = false ∧ decide (sB h = Str.ofString "keep") = false := by
  rcases hb with rfl | rfl | rfl <;> decide +kernel
theorem exps_len {fs : List (List Nat × Nat)} {vs : List (List Nat)} {l : Vbdcar.Trees} {es : List Exp} (h : Vbdcar.expsOf fs vs l = .ok es) : es.length = l.list.length := by
  rcases exps_each (fs := fs) (vs := vs) l with ⟨es', h1, h2, _⟩ | ⟨_, _, _, _, _, h3, _⟩
  · rw [h] at h1; cases h1; exact h2
  · rw [h] at h3; cases h3
theorem low_wF : Low wF := by
  have : ∀ b ∈ wF, b.all lowB = true ∧ b ≠ [] := by decide +kernel
  exact this
theorem wF_cases {h : List Nat} (hw : h ∈ wF) : isBind h ∨ isForm h := by
  unfold wF at hw
  simp only [List.map_cons, List.map_nil, List.mem_cons, List.not_mem_nil, or_false] at hw
  rcases hw with h | h | h | h | h | h
  · exact .inr (.inl h)
  · exact .inl (.inl h)
  · exact .inl (.inr (.inl h))
  · exact .inl (.inr (.inr h))
  · exact .inr (.inr (.inl h))
  · exact .inr (.inr (.inr h))
theorem op_takes : ∀ o < 21, decide (Str.ofString (opName o) = Str.ofString "list") = ((Vbdcar.OPS.getD o ([], 0)).2 == 9) ∧ inV (.str (Str.ofString (opName o))) c_ONE_PART = ((Vbdcar.OPS.getD o ([], 0)).2 == 1) ∧ decide (Str.ofString (opName o) = Str.ofString "") = false := by decide +kernel
theorem takes_eq {h : List Nat} {o k : Nat} (e : Vbdcar.opOf h = some (o, k)) (n : Nat) : takesB (Str.ofString (opName o)) (n : Nat) = (if k = 9 then decide (n ≤ 8) else n == k) := by
  obtain ⟨h1, h2⟩ := opOf_get e
  obtain ⟨t1, t2, _⟩ := op_takes o h1
  have t3 := op_arity o h1
  rw [h2] at t1 t2 t3
  dsimp only at t1 t2
  unfold takesB
  rw [t1, t2]
  rcases t3 with ⟨h3, _⟩ | ⟨h3, _⟩ | ⟨h3, _⟩
  · replace h3 : k = 9 := h3
    subst h3
    rw [if_pos (by decide), if_pos rfl, Bool.eq_iff_iff]; simp; omega
  · replace h3 : k = 1 := h3
    subst h3
    rw [if_neg (by decide), if_pos (by decide), if_neg (by decide), Bool.eq_iff_iff]; simp; omega
  · replace h3 : k = 2 := h3
    subst h3
    rw [if_neg (by decide), if_neg (by decide), if_neg (by decide), Bool.eq_iff_iff]; simp; omega
section
variable {w : World} {K : PySem.W.Frag} {mg : Str → Option Value} {base : Heap}
abbrev sp_rform (d : Nat) : Sp := Sp4 fun u v y z H Q E => ∃ (I : Hp) (n m : Nat) (h : List Nat) (r : Vbdcar.Trees) (ks vs : List (List Nat)) (hs : List HeadT), tdeeps r < d ∧ ks.length + d + 1 ≤ 1000 ∧ Same I H ∧ TreeAt I u (.node n (.cons (.word m h) r)) ∧ v = .str (sB h) ∧ (isBind h ∨ isForm h) ∧ RdAt I y z ks vs hs ∧ OutE I H Q E (Vbdcar.expOf (fsOf hs) vs (.node n (.cons (.word m h) r)))
theorem ts_tail {I : Hp} {x0 : V} {xr : List V} {t : Vbdcar.Tree} {r : Vbdcar.Trees} (hn : (x0 :: xr).length = (Vbdcar.Trees.cons t r).list.length) (hc : ∀ (i : Nat) x c, (x0 :: xr)[i]? = some x → (Vbdcar.Trees.cons t r).list[i]? = some c → TreeAt I x c) : TsAt I xr r.list :=
  ⟨by rw [Vbdcar.Trees.list, List.length_cons, List.length_cons] at hn; omega, fun i x c h1 h2 => hc (i + 1) x c h1 h2⟩
abbrev n_read_form : List Str := ["tree", "form", "known", "heads", "parts"]
theorem sc_read_form : FnScope n_read_form ["tree", "form", "known", "heads"] (defScope s_read_form) := ⟨rfl, rfl, rfl, by decide +kernel, rfl, by decide +kernel, by decide +kernel⟩
theorem e_read_form (T : Tx w K mg) {d : Nat} (h5 : 5 ≤ k) (ih : Def w K mg base k "read_expression" ["tree", "known", "heads"] (sp_rexp d)) : Def w K mg base (k+2) "read_form" ["tree", "form", "known", "heads"] (sp_rform d) :=
  mkDef4 T f_read_form rfl rfl sc_read_form rfl (fun _ _ _ _ _ _ us hl => match us, hl with | [_, _, _, _], _ => rfl) fun u v y z cdv A outer s H Q E hr h =>
  ⟨_, (pss_cons (ps_set (i := 4) sc_read_form.nd rfl (Or.inl rfl) (pe_slice sl_list (pe_fld (pv 0) rfl) (po_some pe_int) po_none))
  (pss_cons (ps_expr (pe_c (hk := by omega) (d_need T) hr pz (pa_cons (pe_cmpR op_eq (pe_callB call_len_seq (by rfl) T.fr_len (by decide +kernel) (pa_cons (pv 4) pa_nil)) (pe_c (hk := by omega) (d_form_parts T) hr pz (pa_cons (pv 1) pa_nil)) (nomark _)) (pa_cons (pv 0) pa_nil))))
  (pss_cons (ps_if (PW.pt (pw_or (pt_cmpR op_eq (pv 1) pe_str (nomark _)) (pw_or (pt_cmpR op_eq (pv 1) pe_str (nomark _)) (pw_or1 (pt_cmpR op_eq (pv 1) pe_str (nomark _)))))) (pss_one (ps_ret (pe_c (hk := by omega) (e_read_binding T h5 ih) hr pz (pa_cons (pv 0) (pa_cons (pv 1) (pa_cons (pv 2) (pa_cons (pv 3) pa_nil))))))) pss_nil)
  (pss_one (ps_ret (pe_mk (hk := by omega) (m_Expression T) hr pz (pa_cons (pv 1) (pa_cons pe_str (pa_cons pe_int (pa_cons (pe_c (hk := by omega) (e_read_all T ih) hr pz (pa_cons (pv 4) (pa_cons (pv 2) (pa_cons (pv 3) pa_nil)))) pa_nil)))))))))), by
  obtain ⟨I, n, m, h, r, ks, vs, hs, hd, hkd, sI, hu, rfl, hcs, hR, q⟩ := h
  cases id hu with | @node a dx d0 li _ _ xs ha hl hn hz hc =>
  match xs, hn with
  | x0 :: xr, hn =>
  have haH := sI _ _ ha
  have hts := ts_tail hn hc
  refine k_sset ⟨_, rfl, a, _, dx, _, _, rfl, haH, T.c_Tree, T.n_Tree_inner, rfl, _, rfl, li, _, rfl, .inl (.inl (sI _ _ hl)), fun S hS => ?_⟩
  rw [cut1, List.drop_one, List.tail_cons]
  have e0 := (Ext.refl sI).tmp (o := .lst xr) hS
  have huH := hu.mono e0.ih
  refine k_exp (k_need (c := decide (((xr.length : Nat) : Int) = formParts (sB h))) (fun Q' r => ⟨_, rfl, S, _, rfl, .inl (.inl (.inl upd_same)), _, rfl, _, rfl, _, rfl, rfl, by rw [dI]; exact r⟩) rfl huH (fun zc => ?_) fun zc => ?_)
  · have hlen := of_decide_eq_true zc
    rw [hts.1] at hlen
    rcases hcs with hb | hf
    · rw [formParts_bind hb] at hlen
      refine k_sifN (k_red (b := true) (fun R' rr => ?_) (iteT ⟨_, rfl, _, rfl, _, rfl, _, rfl, _, _, _, _, rfl, I, n, m, h, r, ks, vs, hs, hd, hkd, e0.ih, hu, rfl, hb, by omega, hR, q.later e0⟩))
      rcases hb with rfl | rfl | rfl
      · exact ⟨_, rfl, rfl, _, rfl, iteS true (by decide +kernel) (iteT rr)⟩
      · exact ⟨_, rfl, rfl, _, rfl, iteS false (by decide +kernel) (iteF ⟨_, rfl, rfl, _, rfl, iteS true (by decide +kernel) (iteT rr)⟩)⟩
      · refine ⟨_, rfl, rfl, _, rfl, iteS false (by decide +kernel) (iteF ⟨_, rfl, rfl, _, rfl, iteS false (by decide +kernel) (iteF ⟨_, rfl, rfl, _, rfl, ?_⟩)⟩)⟩
        rw [dS, show decide (sB (Vbdcar.ascii "keep") = Str.ofString "keep") = true by decide +kernel]
        exact rr
    · rw [formParts_form hf] at hlen
      have hlen : r.list.length = formN h := by omega
      obtain ⟨n1, n2, n3⟩ := form_not_bind hf
      rw [exp_form hf, if_pos hlen] at q
      refine k_sifN (k_red (b := false) (fun R' rr => ⟨_, rfl, rfl, _, rfl, iteS false n1 (iteF ⟨_, rfl, rfl, _, rfl, iteS false n2 (iteF ⟨_, rfl, rfl, _, rfl, by rw [dS, n3]; exact rr⟩)⟩)⟩) (iteF ?_))
      refine ⟨_, rfl, _, rfl, _, rfl, _, rfl, _, _, _, rfl, I, S, xr, r, ks, vs, hs, hd, by omega, e0.ih, rfl, upd_same, hts, by simp at hz; omega, hR, ?_⟩
      cases hes : Vbdcar.expsOf (fsOf hs) vs r with
      | error w =>
        rw [hes] at q
        exact fun H' s => q H' (Same.trans e0.hh s)
      | ok es =>
        rw [hes] at q
        intro D ys I1 H1 e1 hD hyl hp ad dx2 hx hdx hne2
        refine ⟨ad, dx2, _, rfl, rfl, upd_same, rfl, ?_⟩
        rw [upd_upd]
        have hel := (exps_len hes).trans hlen
        obtain ⟨b1, b2, b3, b4⟩ := formE_kind hf hel
        refine expAt_new (e := formE h es) (xs := ys) (li := D) (e0.trans e1) hx hdx hne2 ?_ hD (by rw [b4]; exact hyl) ?_ (by rw [b4]; exact hp) q
        · rw [b1, b2, b3]
          rfl
        · rw [hyl, hel]; unfold formN; split <;> decide
  · have hlen := of_decide_eq_false zc
    rw [hts.1] at hlen
    rcases hcs with hb | hf
    · rw [formParts_bind hb] at hlen
      rw [exp_bind_bad hb (fun k x a b e => hlen (by rw [e]; rfl))] at q
      exact q _ e0.hh
    · rw [formParts_form hf] at hlen
      rw [exp_form hf, if_neg (by omega)] at q
      exact q _ e0.hh⟩
abbrev sp_rbr (d : Nat) : Sp := Sp3 fun u v y H Q E => ∃ (I : Hp) (n : Nat) (l : Vbdcar.Trees) (ks vs : List (List Nat)) (hs : List HeadT), tdeeps l < d ∧ ks.length + d + 1 ≤ 1000 ∧ Same I H ∧ TreeAt I u (.node n l) ∧ RdAt I v y ks vs hs ∧ OutE I H Q E (Vbdcar.expOf (fsOf hs) vs (.node n l))
theorem pcount_low {hs : List HeadT} (h : Low (hs.map (·.1))) (b : List Nat) : ((decide (lettersB b ≠ []) = true ∧ ∃ x, (fsOf hs).find? (fun x => x.1 == lettersB b) = some x) ↔ ∃ x, (fsOf hs).find? (fun x => x.1 == b) = some x) ∧ (lettersB b ≠ [] → lettersB b = b) := by
  refine ⟨⟨?_, ?_⟩, fun e => (lettersB_mem rfl e).symm⟩
  · rintro ⟨h1, x, h2⟩
    have e := lettersB_mem (b := b) rfl (of_decide_eq_true h1)
    rw [← e] at h2
    exact ⟨x, h2⟩
  · rintro ⟨x, h2⟩
    have hm := List.mem_of_find?_eq_some h2
    have hb : x.1 = b := beq_iff_eq.mp (List.find?_some (p := fun x : List Nat × Nat => x.1 == b) h2)
    obtain ⟨y, hy, rfl⟩ := List.mem_map.mp hm
    have hl := h y.1 (List.mem_map_of_mem hy)
    have hb : y.1 = b := hb
    rw [hb] at hl
    have e : lettersB b = b := if_pos hl.1
    rw [e]
    exact ⟨decide_eq_true hl.2, _, h2⟩
abbrev n_read_bracket : List Str := ["tree", "known", "heads", "head", "parts", "operation"]
theorem sc_read_bracket : FnScope n_read_bracket ["tree", "known", "heads"] (defScope s_read_bracket) := ⟨rfl, rfl, rfl, by decide +kernel, rfl, by decide +kernel, by decide +kernel⟩
theorem e_read_bracket (T : Tx w K mg) {d : Nat} (h5 : 5 ≤ k) (ih : Def w K mg base k "read_expression" ["tree", "known", "heads"] (sp_rexp d)) : Def w K mg base (k+3) "read_bracket" ["tree", "known", "heads"] (sp_rbr d) :=
  mkDef3 T f_read_bracket rfl rfl sc_read_bracket rfl (fun _ _ _ _ _ _ us hl => match us, hl with | [_, _, _], _ => rfl) fun u v y cdv A outer s H Q E hr h =>
  ⟨_, (pss_cons (ps_expr (pe_c (hk := by omega) (d_need T) hr pz (pa_cons (pe_and (pe_cmpR op_gt (pe_callB call_len_seq (by rfl) T.fr_len (by decide +kernel) (pa_cons (pe_fld (pv 0) rfl) pa_nil)) pe_int (nomark _)) (pe_one (pe_c (hk := by omega) (d_is_word T) hr pz (pa_cons (pe_ix ix_list (pe_fld (pv 0) rfl) pe_int (fun _ _ => rfl)) pa_nil)))) (pa_cons (pv 0) pa_nil))))
  (pss_cons (ps_set (i := 3) sc_read_bracket.nd rfl (Or.inl rfl) (pe_ix ix_list (pe_fld (pv 0) rfl) pe_int (fun _ _ => rfl)))
  (pss_cons (ps_set (i := 4) sc_read_bracket.nd rfl (Or.inl rfl) (pe_slice sl_list (pe_fld (pv 0) rfl) (po_some pe_int) po_none))
  (pss_cons (ps_if (pt_cmpR op_in_seq (pe_fld (pv 3) rfl) (pe_gr T.k_FORMS) (by rfl)) (pss_one (ps_ret (pe_c (hk := by omega) (e_read_form T h5 ih) hr pz (pa_cons (pv 0) (pa_cons (pe_fld (pv 3) rfl) (pa_cons (pv 1) (pa_cons (pv 2) pa_nil))))))) pss_nil)
  (pss_cons (ps_set (i := 5) sc_read_bracket.nd rfl (Or.inl rfl) (pe_c (hk := by omega) (d_operation_of T) hr pz (pa_cons (pv 3) pa_nil)))
  (pss_cons (ps_if (pt_cmpR op_ne (pv 5) pe_str (nomark _)) (pss_cons (ps_expr (pe_c (hk := by omega) (d_need T) hr pz (pa_cons (pe_c (hk := by omega) (d_takes T) hr pz (pa_cons (pv 5) (pa_cons (pe_callB call_len_seq (by rfl) T.fr_len (by decide +kernel) (pa_cons (pv 4) pa_nil)) pa_nil))) (pa_cons (pv 0) pa_nil))))
  (pss_one (ps_ret (pe_mk (hk := by omega) (m_Expression T) hr pz (pa_cons pe_str (pa_cons (pv 5) (pa_cons pe_int (pa_cons (pe_c (hk := by omega) (e_read_all T ih) hr pz (pa_cons (pv 4) (pa_cons (pv 1) (pa_cons (pv 2) pa_nil)))) pa_nil)))))))) pss_nil)
  (pss_cons (ps_expr (pe_c (hk := by omega) (d_need T) hr pz (pa_cons (pe_and (pe_cmpR op_ne (pe_fld (pv 3) rfl) pe_str (nomark _)) (pe_one (pe_cmpR op_eq (pe_c (hk := by omega) (d_parameter_count T) hr pz (pa_cons (pv 2) (pa_cons (pe_fld (pv 3) rfl) pa_nil))) (pe_callB call_len_seq (by rfl) T.fr_len (by decide +kernel) (pa_cons (pv 4) pa_nil)) (nomark _)))) (pa_cons (pv 0) pa_nil))))
  (pss_one (ps_ret (pe_mk (hk := by omega) (m_Expression T) hr pz (pa_cons pe_str (pa_cons (pe_fld (pv 3) rfl) (pa_cons pe_int (pa_cons (pe_c (hk := by omega) (e_read_all T ih) hr pz (pa_cons (pv 4) (pa_cons (pv 1) (pa_cons (pv 2) pa_nil)))) pa_nil)))))))))))))), by
  obtain ⟨I, n, l, ks, vs, hs, hd, hkd, sI, hu, hR, q⟩ := h
  cases id hu with | @node a dx d0 li _ _ xs ha hl hn hz hc =>
  have haH := sI _ _ ha
  have hlH := sI _ _ hl
  have huH := hu.mono sI
  match l, xs, hn with
  | .nil, [], _ =>
    rw [exp_nil] at q
    exact k_exp (k_need (c := false) (fun Q' r => ⟨_, rfl, a, _, dx, _, _, rfl, haH, T.c_Tree, T.n_Tree_inner, rfl, li, _, rfl, .inl (.inl (.inl hlH)), _, _, rfl, rfl, _, rfl, iteF r⟩) rfl huH (fun z => nomatch z) fun _ => q H (.refl H))
  | .cons t0 r, x0 :: xr, hn =>
  have t0' := hc 0 x0 t0 rfl rfl
  have w0 := t0'.mono sI
  have hts := ts_tail hn hc
  refine k_exp (k_need (c := isW t0) (fun Q' rr => ⟨_, rfl, a, _, dx, _, _, rfl, haH, T.c_Tree, T.n_Tree_inner, rfl, li, _, rfl, .inl (.inl (.inl hlH)), _, _, rfl, rfl, _, rfl, ?_⟩) rfl huH (fun zw => ?_) fun zw => ?_)
  · rw [decide_eq_true (show (0 : Int) < (((x0 :: xr).length : Nat) : Int) by simp)]
    exact iteT ⟨_, rfl, a, _, dx, _, _, rfl, haH, T.c_Tree, T.n_Tree_inner, rfl, li, _, _, _, rfl, rfl, .inl (.inl hlH), atI_nat (j := 0) rfl, _, rfl, _, w0, rr⟩
  · cases t0 with
    | node _ _ => cases zw
    | word m h =>
    obtain ⟨a1, dx1, d1, iv1, rfl, ha1, _⟩ := t0'.at
    have hdr : tdeeps r < d := by rw [tdeeps, tdeep] at hd; omega
    refine k_sset ⟨_, rfl, a, _, dx, _, _, rfl, haH, T.c_Tree, T.n_Tree_inner, rfl, li, _, _, _, rfl, rfl, .inl (.inl hlH), atI_nat (j := 0) rfl, ?_⟩
    refine k_sset ⟨_, rfl, a, _, dx, _, _, rfl, haH, T.c_Tree, T.n_Tree_inner, rfl, _, rfl, li, _, rfl, .inl (.inl hlH), fun S hS => ?_⟩
    rw [cut1, List.drop_one, List.tail_cons]
    have e0 := (Ext.refl sI).tmp (o := .lst xr) hS
    have huS := hu.mono e0.ih
    have w1 := t0'.mono e0.ih
    have ha1S := e0.ih _ _ ha1
    have hz2 : xr.length ≤ 4000 := by simp at hz; omega
    have fin : ∀ (kd : String) (wd : Str) (mk : List Exp → Exp), (∀ es, Str.ofString (kindOf (mk es)) = Str.ofString kd ∧ wordOf (mk es) = wd ∧ numOf (mk es) = 0 ∧ innerOf (mk es) = es) → xr.length ≤ 8 → OutE I H Q E (match Vbdcar.expsOf (fsOf hs) vs r with | .error w => .error w | .ok es => .ok (mk es)) → sp_rall d [.ref S, v, y] (L2.upd H S (.lst xr)) (fun D H1 => ∀ x dx, H1 x = none → H1 dx = none → dx ≠ x → spI cExpression 4 flExpression [.ref x, .str (Str.ofString kd), .str wd, .int 0, D] (L2.upd (L2.upd H1 dx (.own x)) x (.ins cExpression dx [])) (fun v H2 => v = .non ∧ Q (.ref x) H2) E) E := by
      intro kd wd mk hmk h8 qq
      refine ⟨_, _, _, rfl, I, S, xr, r, ks, vs, hs, hdr, by omega, e0.ih, rfl, upd_same, hts, hz2, hR, ?_⟩
      cases hes : Vbdcar.expsOf (fsOf hs) vs r with
      | error w =>
        rw [hes] at qq
        exact fun H' s => qq H' (Same.trans e0.hh s)
      | ok es =>
        rw [hes] at qq
        intro D ys I1 H1 e1 hD hyl hp ad dx2 hx hdx hne2
        refine ⟨ad, dx2, _, rfl, rfl, upd_same, rfl, ?_⟩
        rw [upd_upd]
        obtain ⟨b1, b2, b3, b4⟩ := hmk es
        refine expAt_new (e := mk es) (xs := ys) (li := D) (e0.trans e1) hx hdx hne2 ?_ hD (by rw [b4]; exact hyl) ?_ (by rw [b4]; exact hp) qq
        · rw [b1, b2, b3]; rfl
        · rw [hyl, exps_len hes, ← hts.1]; exact h8
    have fF : c_FORMS.all flatV = true := fl_FORMS
    by_cases hwf : h ∈ wF
    · have hlb : lettersB h = h := if_pos (low_wF h hwf).1
      refine k_sifN (k_red (b := true) (fun R' rr => ⟨_, rfl, a1, _, dx1, _, _, rfl, ha1S, T.c_Tree, T.n_Tree_letters, rfl, _, _, rfl, .inr (T.t_FORMS _), rfl, fF, _, rfl, ?_⟩) (iteT ⟨_, rfl, _, rfl, a1, _, dx1, _, _, rfl, ha1S, T.c_Tree, T.n_Tree_letters, rfl, _, rfl, _, rfl, _, _, _, _, rfl, I, n, m, h, r, ks, vs, hs, hdr, hkd, e0.ih, hu, ?_, wF_cases hwf, hR, q.later e0⟩))
      · show R' (inV (.str (sB (lettersB h))) c_FORMS) _
        rw [vF, inWords, hlb, List.contains_iff_mem.mpr hwf]
        exact rr
      · show V.str (sB (lettersB h)) = _
        rw [hlb]
    · have hnc : wF.contains (lettersB h) = false := by
        rw [low_in low_wF, ← Bool.not_eq_true, List.contains_iff_mem]; exact hwf
      refine k_sifN (k_red (b := false) (fun R' rr => ⟨_, rfl, a1, _, dx1, _, _, rfl, ha1S, T.c_Tree, T.n_Tree_letters, rfl, _, _, rfl, .inr (T.t_FORMS _), rfl, fF, _, rfl, ?_⟩) (iteF ?_))
      · show R' (inV (.str (sB (lettersB h))) c_FORMS) _
        rw [vF, inWords, hnc]
        exact rr
      · refine k_sset ⟨_, rfl, _, rfl, m, h, w1, ?_⟩
        cases ho : Vbdcar.opOf h with
        | some ok =>
          obtain ⟨o, k⟩ := ok
          have how : opWord h = Str.ofString (opName o) := by unfold opWord; rw [ho]
          rw [how]
          obtain ⟨ho21, hog⟩ := opOf_get ho
          obtain ⟨_, _, hne⟩ := op_takes o ho21
          rw [exp_op hwf ho] at q
          refine k_sifN ⟨_, rfl, rfl, _, rfl, ?_⟩
          rw [dS, hne]
          refine iteT ?_
          refine k_exp (k_need (c := (if k = 9 then decide (r.list.length ≤ 8) else r.list.length == k)) (fun Q' rr => ⟨_, rfl, _, rfl, S, _, rfl, .inl (.inl (.inl upd_same)), _, _, rfl, _, _, rfl, rfl, ?_⟩) rfl huS (fun zc => ?_) fun zc => ?_)
          · rw [takes_eq ho, hts.1]
            exact rr
          · rw [if_pos zc] at q
            have har := take_arity ho zc
            have h8 : xr.length ≤ 8 := by rw [hts.1]; rcases har with ⟨_, h⟩ | ⟨_, h⟩ | ⟨_, h⟩ <;> omega
            refine ⟨_, rfl, _, rfl, _, rfl, _, rfl, fin "operation" _ (fun es => .op o (Vbdcar.Exps.of es)) (fun es => ⟨rfl, rfl, rfl, list_ofs es⟩) h8 q⟩
          · rw [if_neg (by rw [zc]; exact Bool.false_ne_true)] at q
            exact q _ e0.hh
        | none =>
          have how : opWord h = Str.ofString "" := by unfold opWord; rw [ho]
          rw [how]
          rw [exp_call hwf ho] at q
          refine k_sifN ⟨_, rfl, rfl, _, rfl, ?_⟩
          rw [dS, show decide (Str.ofString "" = Str.ofString "") = true by decide +kernel]
          refine iteF ?_
          obtain ⟨hA, hyA, hHs⟩ := hR.hd
          subst hyA
          obtain ⟨p1, p2⟩ := pcount_low hR.lowH h
          have eS : Str.ofString "" = sB [] := by decide +kernel
          have ed : decide (sB (lettersB h) = Str.ofString "") = decide (lettersB h = []) := by
            rw [eS, decide_eq_decide]
            exact ⟨fun z => sB_inj z, fun z => by rw [z]⟩
          refine k_exp (k_need (c := decide (lettersB h ≠ []) && decide (pcount (fsOf hs) (lettersB h) = ((xr.length : Nat) : Int))) (fun Q' rr => ⟨_, rfl, a1, _, dx1, _, _, rfl, ha1S, T.c_Tree, T.n_Tree_letters, rfl, rfl, _, rfl, ?_⟩) rfl huS (fun zc => ?_) fun zc => ?_)
          · rw [dS]
            show if (!decide (sB (lettersB h) = Str.ofString "")) = true then _ else _
            rw [ed]
            by_cases hl0 : lettersB h = []
            · rw [decide_eq_true hl0]
              rw [decide_eq_false (fun z => z hl0), Bool.false_and] at rr
              exact iteF rr
            · rw [decide_eq_false hl0]
              rw [decide_eq_true hl0, Bool.true_and] at rr
              exact iteT ⟨_, rfl, _, rfl, a1, _, dx1, _, _, rfl, ha1S, T.c_Tree, T.n_Tree_letters, rfl, _, _, rfl, hA, hs, lettersB h, rfl, hHs.mono e0.ih, rfl, _, rfl, S, _, rfl, .inl (.inl (.inl upd_same)), rfl, by rw [dI]; exact rr⟩
          · rw [Bool.and_eq_true] at zc
            have hl0 := of_decide_eq_true zc.1
            have hlb := p2 hl0
            have hpc := of_decide_eq_true zc.2
            rw [hlb] at hpc
            unfold pcount at hpc
            cases hf : (fsOf hs).find? (fun x => x.1 == h) with
            | none => rw [hf] at hpc; simp only at hpc; omega
            | some x =>
              rw [hf] at hpc q
              simp only at hpc q
              rw [if_pos (by rw [← hts.1]; omega)] at q
              have hx4 : xr.length ≤ 8 := by
                obtain ⟨y, hy, rfl⟩ := List.mem_map.mp (List.mem_of_find?_eq_some hf)
                have := hR.p4 y hy
                simp only at hpc
                omega
              refine ⟨_, rfl, a1, _, dx1, _, _, rfl, ha1S, T.c_Tree, T.n_Tree_letters, rfl, _, rfl, _, rfl, _, rfl, fin "call" _ (fun es => .call h (Vbdcar.Exps.of es)) (fun es => ⟨rfl, ?_, rfl, list_ofs es⟩) hx4 q⟩
              show sB h = sB (lettersB h)
              rw [hlb]
          · have hbad : OutE I H Q E (.error ⟨n, 4⟩) := by
              cases hf : (fsOf hs).find? (fun x => x.1 == h) with
              | none => rw [hf] at q; exact q
              | some x =>
                rw [hf] at q
                simp only at q
                by_cases hlen : r.list.length = x.2
                · exfalso
                  obtain ⟨q1, q2⟩ := p1.mpr ⟨x, hf⟩
                  have hlb := p2 (of_decide_eq_true q1)
                  rw [q1, Bool.true_and, hlb] at zc
                  refine of_decide_eq_false zc ?_
                  unfold pcount
                  rw [hf]
                  show ((x.2 : Nat) : Int) = _
                  rw [hts.1, hlen]
                · rw [if_neg hlen] at q; exact q
            exact hbad _ e0.hh
  · cases t0 with
    | word _ _ => cases zw
    | node n1 l1 =>
      rw [exp_node] at q
      exact q H (.refl H)⟩
abbrev n_read_expression : List Str := ["tree", "known", "heads"]
theorem sc_read_expression : FnScope n_read_expression ["tree", "known", "heads"] (defScope s_read_expression) := ⟨rfl, rfl, rfl, by decide +kernel, rfl, by decide +kernel, by decide +kernel⟩
theorem e_read_expression (T : Tx w K mg) {d : Nat} (h5 : 5 ≤ k) (ih : Def w K mg base k "read_expression" ["tree", "known", "heads"] (sp_rexp d)) : Def w K mg base (k+4) "read_expression" ["tree", "known", "heads"] (sp_rexp (d+1)) :=
  mkDef3 T f_read_expression rfl rfl sc_read_expression rfl (fun _ _ _ _ _ _ us hl => match us, hl with | [_, _, _], _ => rfl) fun u v y cdv A outer s H Q E hr h =>
  ⟨_, (pss_cons (ps_if (pt_val (pe_c (hk := by omega) (d_is_word T) hr pz (pa_cons (pv 0) pa_nil))) (pss_one (ps_ret (pe_c (hk := by omega) (d_read_word T) hr pz (pa_cons (pv 0) (pa_cons (pv 1) pa_nil))))) pss_nil)
  (pss_one (ps_ret (pe_c (hk := by omega) (e_read_bracket T h5 ih) hr pz (pa_cons (pv 0) (pa_cons (pv 1) (pa_cons (pv 2) pa_nil))))))), by
  obtain ⟨I, t, ks, vs, hs, hd, hkd, sI, hu, hR, q⟩ := h
  refine k_sifN ⟨_, rfl, _, rfl, t, hu.mono sI, _, rfl, ?_⟩
  cases t with
  | word n b =>
    obtain ⟨kA, rfl, hk⟩ := hR.kn
    rw [exp_word] at q
    exact iteT ⟨_, rfl, _, rfl, _, _, rfl, I, n, b, kA, ks, vs, sI, hu, rfl, hk, hR.low, hR.vs, q⟩
  | node n l =>
    exact iteF ⟨_, rfl, _, rfl, _, rfl, _, _, _, rfl, I, n, l, ks, vs, hs, by rw [tdeep] at hd; omega, by omega, sI, hu, hR, q⟩⟩
theorem f0_read_expression (T : Tx w K mg) : Def w K mg base 1 "read_expression" ["tree", "known", "heads"] (fun _ _ _ _ => False) := mkDef T f_read_expression rfl rfl sc_read_expression (fun _ _ _ _ _ _ us hl => match us, hl with | [_, _, _], _ => rfl) (fun _ _ _ _ h => h.elim) fun _ _ _ _ _ _ _ _ _ h => h.elim
theorem d_read_expression (T : Tx w K mg) : ∀ d : Nat, Def w K mg base (4 * d + 5) "read_expression" ["tree", "known", "heads"] (sp_rexp d)
  | 0 => ((f0_read_expression T).imp fun _ _ _ _ ⟨_, _, _, _, _, _, _, _, _, h, _⟩ => absurd h (Nat.not_lt_zero _)).mono (by decide)
  | d + 1 => e_read_expression T (by omega) (d_read_expression T d)
end
end Bd


end
/-! ## BdReadG -/
section
namespace Bd
open PySem PySem.Spec PyProof.Rows
open L2
theorem read_error {b : List Nat} {w : Vbdcar.Wrong} (h : Vbdcar.trees 0 [] [] none b = .error w) : Vbdcar.read b = .error w := by
  unfold Vbdcar.read; rw [h]
theorem read_none {b : List Nat} (h : Vbdcar.trees 0 [] [] none b = .ok []) : Vbdcar.read b = .error ⟨b.length, 4⟩ := by
  unfold Vbdcar.read; rw [h]; rfl
theorem read_some {b : List Nat} {l : List Vbdcar.Tree} {m : Vbdcar.Tree} (h : Vbdcar.trees 0 [] [] none b = .ok (l ++ [m])) : Vbdcar.read b = match Vbdcar.heads [] l with
    | .error w => .error w
    | .ok fs => match Vbdcar.bodies fs l with
      | .error w => .error w
      | .ok funs => match Vbdcar.expOf fs Vbdcar.INPUTS m with
        | .error w => .error w
        | .ok e => .ok ⟨funs, e⟩ := by
  unfold Vbdcar.read
  rw [h]
  have e1 : (l ++ [m]).reverse = m :: l.reverse := by simp
  simp only [e1, List.reverse_reverse]
  cases Vbdcar.heads [] l with
  | error w => rfl
  | ok fs =>
    cases hb : Vbdcar.bodies fs l with
    | error w => simp only [hb, bind, Except.bind]
    | ok funs =>
      cases he : Vbdcar.expOf fs Vbdcar.INPUTS m with
      | error w => simp only [hb, he, bind, Except.bind]
      | ok e => simp only [hb, he, bind, Except.bind, pure, Except.pure]
theorem pwf_deep {p : Vbdcar.Prog} (h : PWF p) : PDeep p ∧ PFok p := ⟨⟨h.main.2.2, fun f hf => (h.funs f hf).2.2⟩, h.main.2.1, fun f hf => (h.funs f hf).2.1⟩
theorem init_last {α : Type} {l : List α} (h : l ≠ []) : ∃ r m, l = r ++ [m] := by
  refine ⟨l.dropLast, l.getLast h, (List.dropLast_concat_getLast h).symm⟩
section
variable {w : World} {K : PySem.W.Frag} {mg : Str → Option Value} {base : Heap}
abbrev sp_rprog : Sp := Sp1 fun u H Q E => ∃ (I : Hp) (a : Addr) (b : List Nat), Same I H ∧ u = .ref a ∧ IL H a (iB b) ∧ b.length ≤ 4000 ∧ match Vbdcar.read b with
  | .error w => ∀ H', Same H H' → errT E H' w.kind w.place
  | .ok p => if 4000 < (Vbdcar.shownProg p).length then ∀ H', Same H H' → errT E H' 5 0 else ∀ r I' H', Ext I H I' H' → ProgAt I' r p → Q r H'
abbrev n_read_program : List Str := ["data", "trees", "heads", "functions", "head", "program"]
theorem sc_read_program : FnScope n_read_program ["data"] (defScope s_read_program) := ⟨rfl, rfl, rfl, by decide +kernel, rfl, by decide +kernel, by decide +kernel⟩
theorem d_read_program (T : Tx w K mg)  : Def w K mg base 90 "read_program" ["data"] (sp_rprog) :=
  mkDef1 T f_read_program rfl rfl sc_read_program rfl (fun _ _ _ _ _ _ us hl => match us, hl with | [_], _ => rfl) fun u cdv A outer s H Q E hr h =>
  ⟨_, (pss_cons (ps_set (i := 1) sc_read_program.nd rfl (Or.inl rfl) (pe_c (d_trees_of T) hr pz (pa_cons (pv 0) pa_nil)))
  (pss_cons (ps_if (pt_cmpR op_eq (pe_callB call_len_seq (by rfl) T.fr_len (by decide +kernel) (pa_cons (pv 1) pa_nil)) pe_int (nomark _)) (pss_one (ps_err (g_TextFault T) rfl tz hr (pa_cons pe_int (pa_cons (pe_callB call_len_seq (by rfl) T.fr_len (by decide +kernel) (pa_cons (pv 0) pa_nil)) pa_nil)))) pss_nil)
  (pss_cons (ps_set (i := 2) sc_read_program.nd rfl (Or.inl rfl) (pe_c (d_read_heads T) hr pz (pa_cons (pe_slice sl_list (pv 1) po_none (po_some (pe_op op_sub (pe_callB call_len_seq (by rfl) T.fr_len (by decide +kernel) (pa_cons (pv 1) pa_nil)) pe_int))) pa_nil)))
  (pss_cons (ps_set (i := 3) sc_read_program.nd rfl (Or.inl rfl) (pe_lst pa_nil))
  (pss_cons (ps_for (passes_of rfl) rfl (pi_list (pv 2)) (pg_name (i := 4) sc_read_program.nd rfl (Or.inl rfl)) (pss_one (ps_expr (pe_bm PySem.F.plainAttrs_list PySem.F.slot_list_append PySem.F.type_list_append mt_append (pv 3) (pa_cons (pe_mk (m_Function T) hr pz (pa_cons (pe_fld (pv 4) rfl) (pa_cons (pe_fld (pv 4) rfl) (pa_cons (pe_c (d_read_expression T 21) hr pz (pa_cons (pe_fld (pv 4) rfl) (pa_cons (pe_fld (pv 4) rfl) (pa_cons (pv 2) pa_nil)))) pa_nil)))) pa_nil)))))
  (pss_cons (ps_set (i := 5) sc_read_program.nd rfl (Or.inl rfl) (pe_mk (m_Program T) hr pz (pa_cons (pv 3) (pa_cons (pe_c (d_read_expression T 21) hr pz (pa_cons (pe_ix ix_list (pv 1) (pe_op op_sub (pe_callB call_len_seq (by rfl) T.fr_len (by decide +kernel) (pa_cons (pv 1) pa_nil)) pe_int) (fun _ _ => rfl)) (pa_cons (pe_lst pa_nil) (pa_cons (pv 2) pa_nil)))) pa_nil))))
  (pss_cons (ps_if (pt_cmpR op_gt (pe_callB call_len_seq (by rfl) T.fr_len (by decide +kernel) (pa_cons (pe_c (d_program_bytes T) hr pz (pa_cons (pv 5) pa_nil)) pa_nil)) (pe_gi T.k_MOST_BYTES) (nomark _)) (pss_one (ps_err (g_TextFault T) rfl tz hr (pa_cons pe_int (pa_cons pe_int pa_nil)))) pss_nil)
  (pss_one (ps_ret (pv 5)))))))))), by
  obtain ⟨I, a, b, sI, rfl, ha, hb, q⟩ := h
  refine k_sset ⟨_, rfl, _, rfl, I, a, b, sI, rfl, ha, hb, ?_⟩
  cases htr : Vbdcar.trees 0 [] [] none b with
  | error w =>
    rw [read_error htr] at q
    exact q
  | ok ts =>
  obtain ⟨hdeep, _⟩ := trees_fit b 0 [] [] ts none (by decide) True.intro (fun t ht => by simp at ht) htr
  intro D xs I1 H1 e1 hD hts hz
  have hDH := e1.ih _ _ hD
  refine k_sifN ⟨_, rfl, D, _, rfl, .inl (.inl (.inl hDH)), rfl, _, rfl, ?_⟩
  rw [dI]
  by_cases hnil : ts = []
  · subst hnil
    rw [read_none htr] at q
    have hx0 : xs.length = 0 := hts.1
    rw [hx0, decide_eq_true (by rfl)]
    refine iteT ⟨_, rfl, a, _, rfl, .inl (.inl (.inl (e1.hh _ _ ha))), rfl, ?_⟩
    rw [List.length_map, iB_len]
    exact q H1 e1.hh
  · obtain ⟨l, m, rfl⟩ := init_last hnil
    have hxl : xs.length = l.length + 1 := by rw [hts.1]; simp
    rw [decide_eq_false (by rw [hxl]; omega)]
    rw [read_some htr] at q
    obtain ⟨xl, xm, rfl⟩ := init_last (l := xs) (fun e => by rw [e] at hxl; simp at hxl)
    have hxl2 : xl.length = l.length := by simp at hxl; exact hxl
    have tsl : TsAt I1 xl l := ⟨hxl2, fun i x c h1 h2 => hts.2 i x c (by rw [List.getElem?_append_left ((List.getElem?_eq_some_iff.mp h1).1)]; exact h1) (by rw [List.getElem?_append_left ((List.getElem?_eq_some_iff.mp h2).1)]; exact h2)⟩
    have tm : TreeAt I1 xm m := hts.2 l.length xm m (by rw [← hxl2]; simp) (by simp)
    refine iteF (k_sset ⟨_, rfl, _, rfl, D, _, rfl, .inl (.inl (.inl hDH)), _, _, rfl, rfl, _, rfl, D, _, rfl, .inl (.inl hDH), fun S hS => ?_⟩)
    have hcut : cutV (xl ++ [xm]) none (some ((((xl ++ [xm]).length : Nat) : Int) - 1)) = xl := by
      rw [show (((xl ++ [xm]).length : Nat) : Int) - 1 = ((xl.length : Nat) : Int) by simp, cutTake (by simp), List.take_left]
    rw [hcut]
    have e2 := e1.tmp (o := .lst xl) hS
    have hlz : xl.length ≤ 4000 := by simp at hz; omega
    refine ⟨_, rfl, I1, S, xl, l, e2.ih, rfl, upd_same, tsl, hlz, ?_⟩
    cases hh : Vbdcar.heads [] l with
    | error w =>
      rw [hh] at q
      exact fun H' s => q H' (Same.trans e2.hh s)
    | ok fs =>
    rw [hh] at q
    intro D2 I3 H3 hs e3 hHs hhl hho hfs h8
    subst hfs
    dsimp only at q
    have x3 := e2.trans e3
    have sI13 : Same I1 I3 := e3.ii
    have hok : ∀ h ∈ hs, Vbdcar.isFree h.1 = true ∧ (∀ b ∈ h.2.1, Vbdcar.isFree b = true) ∧ h.2.1.length ≤ 4 ∧ tdeep h.2.2 ≤ 20 := fun h hm => by
      obtain ⟨j, hj, e⟩ := List.getElem_of_mem hm
      have hjl : j < l.length := by omega
      have h1 := hho j l[j] h (List.getElem?_eq_getElem hjl) (by rw [List.getElem?_eq_getElem hj, e])
      obtain ⟨a1, a2, _, a4, a5, _⟩ := head_ok h1
      have := hdeep l[j] (List.mem_append_left _ (List.getElem_mem hjl))
      exact ⟨a1, a2, a4, by omega⟩
    have lowH : Low (hs.map (·.1)) := fun b hb => by
      obtain ⟨h, hm, rfl⟩ := List.mem_map.mp hb
      have := isFree_len (hok h hm).1
      exact ⟨this.2.2, this.2.1⟩
    have p4 : ∀ h ∈ hs, h.2.1.length ≤ 4 := fun h hm => (hok h hm).2.2.1
    obtain ⟨ys, hD2, hyl, hyr⟩ := hHs.ex
    refine k_sset ⟨by rw [sizeLine_eq]; exact Nat.zero_le _, fun D3 hD3 => ?_⟩
    let R : Nat → V → Hp → Prop := fun i y J => ∃ x e, hs[i]? = some x ∧ Vbdcar.expOf (fsOf hs) (x.2.1 ++ Vbdcar.INPUTS) x.2.2 = .ok e ∧ FunAt J y ⟨x.1, x.2.1, e⟩
    have mR : ∀ j z J J', Same J J' → R j z J → R j z J' := fun j z J J' s ⟨x, e, h1, h2, h3⟩ => ⟨x, e, h1, h2, h3.mono s⟩
    have hD2H : (L2.upd H3 D3 (.lst [])) D2 = some (.lst ys) := Same.new hD3 _ _ (x3.ih _ _ hD2)
    refine ⟨_, rfl, D2, rfl, ⟨ys, .inl (.inl hD2H)⟩, ?_⟩
    refine for_list (xs := ys) (fun i σ H' => ∃ (I' : Hp) (fl : List Vbdcar.Fun) (o4 o5 : Option V), Acc I3 H3 D3 R i I' H' ∧ fl.length = i ∧ (∀ (j : Nat) f, fl[j]? = some f → ∃ x e, hs[j]? = some x ∧ Vbdcar.expOf (fsOf hs) (x.2.1 ++ Vbdcar.INPUTS) x.2.2 = .ok e ∧ f = ⟨x.1, x.2.1, e⟩) ∧ Vbdcar.bodies (fsOf hs) l = (match Vbdcar.bodies (fsOf hs) (l.drop i) with | .error w => .error w | .ok q => .ok (fl ++ q)) ∧ σ = [some (.ref a), some (.ref D), some (.ref D2), some (.ref D3), o4, o5])
      ⟨I3, [], _, _, Acc.start x3.ih hD3, rfl, fun j f h => by simp at h, by rw [List.drop_zero]; cases Vbdcar.bodies (fsOf hs) l <;> rfl, rfl⟩ (fun i σ H' _ ⟨I', _, _, _, A, _⟩ => .inl (.inl (A.ext.si _ _ hD2))) (fun i x σ H4 hi ⟨I4, fl, o4, o5, A, hfl, hfr, hbo, es⟩ => ?_) fun σ H4 ⟨I4, fl, o4, o5, A, hfl, hfr, hbo, es⟩ => ?_
    · subst es
      obtain ⟨hd, hhd⟩ := get_of_len hyl hi
      have hhm := List.mem_of_getElem? hhd
      obtain ⟨k1, k2, k3, k4⟩ := hok hd hhm
      obtain ⟨p, dxp, lip, ubp, rfl, g2, g3, g4⟩ := (hyr i x hd hi hhd).ex
      have g2' := A.ext.si _ _ g2
      obtain ⟨zs, hzs, hzl, _⟩ := A.at_
      have hil : i < l.length := by have := (List.getElem?_eq_some_iff.mp hi).1; omega
      have hti := List.getElem?_eq_getElem hil
      have hho_i := hho i l[i] hd hti hhd
      rw [drop_get hti, bodies_cons _ _ _ hho_i] at hbo
      have hRd : RdAt I4 (.ref lip) (.ref D2) hd.2.1 (hd.2.1 ++ Vbdcar.INPUTS) hs := ⟨⟨lip, rfl, A.ext.ii _ _ g3⟩, fun b hb => by have := isFree_len (k2 b hb); exact ⟨this.2.2, this.2.1⟩, ⟨D2, rfl, hHs.mono A.ext.ii⟩, lowH, fun b => by
        rw [Bool.eq_iff_iff]
        simp only [Bool.or_eq_true, List.contains_iff_mem, List.mem_append], p4⟩
      refine ⟨_, rfl, .inl ⟨rfl, zs, .inl (.inl hzs)⟩, ?_⟩
      refine ⟨_, rfl, p, _, dxp, _, _, rfl, g2', T.c_Head, T.n_Head_name, rfl, _, rfl, p, _, dxp, _, _, rfl, g2', T.c_Head, T.n_Head_parameters, rfl, _, rfl, p, _, dxp, _, _, rfl, g2', T.c_Head, T.n_Head_body, rfl, _, rfl, p, _, dxp, _, _, rfl, g2', T.c_Head, T.n_Head_parameters, rfl, _, rfl, _, _, _, rfl, I4, hd.2.2, hd.2.1, hd.2.1 ++ Vbdcar.INPUTS, hs, by omega, by omega, A.ext.ih, g4.mono A.ext.ii, hRd, ?_⟩
      cases he : Vbdcar.expOf (fsOf hs) (hd.2.1 ++ Vbdcar.INPUTS) hd.2.2 with
      | error w =>
        rw [he] at hbo
        rw [hbo] at q
        exact fun H' s => q H' (Same.trans x3.hh (Same.trans A.ext.hh s))
      | ok e =>
        rw [he] at hbo
        intro u4 I5 H5 e5 h5 ad dx' hx hdx hne
        refine ⟨ad, dx', _, rfl, rfl, upd_same, rfl, ?_⟩
        rw [upd_upd]
        have e6 := e5.ins (o := .ins cFunction dx' [("name", .str (sB hd.1)), ("parameters", .ref lip), ("body", u4)]) hx hdx hne
        have s6 := Same.new (o := HO.ins cFunction dx' [("name", .str (sB hd.1)), ("parameters", .ref lip), ("body", u4)]) (e5.ih.free hx)
        have r6 : R i (.ref ad) (L2.upd I5 ad (HO.ins cFunction dx' [("name", .str (sB hd.1)), ("parameters", .ref lip), ("body", u4)])) := ⟨hd, e, hhd, he, ⟨ad, dx', lip, u4, rfl, upd_same, s6 _ _ (e5.ii _ _ (A.ext.ii _ _ g3)), h5.mono s6⟩⟩
        obtain ⟨ys2, k5, k6, A2⟩ := A.step e6 mR r6
        refine ⟨D3, ys2, _, rfl, rfl, k5, by rw [sizeLine_eq]; omega, _, fl ++ [⟨hd.1, hd.2.1, e⟩], _, _, A2, by simp [hfl], fun j f hf => ?_, ?_, rfl⟩
        · by_cases hj : j < fl.length
          · rw [List.getElem?_append_left hj] at hf
            exact hfr j f hf
          · have hj2 := (List.getElem?_eq_some_iff.mp hf).1
            simp at hj2
            have : j = fl.length := by omega
            subst this
            rw [List.getElem?_append_right (Nat.le_refl _)] at hf
            simp at hf
            subst hf
            exact ⟨hd, e, by rw [hfl]; exact hhd, he, rfl⟩
        · rw [hbo]
          cases Vbdcar.bodies (fsOf hs) (l.drop (i + 1)) with
          | error w => rfl
          | ok q2 => simp
    · subst es
      have hyl2 : ys.length = l.length := hyl.trans hhl
      rw [hyl2, List.drop_length, bodies_nil] at hbo
      replace hbo : Vbdcar.bodies (fsOf hs) l = .ok fl := by rw [hbo]; simp
      rw [hbo] at q
      obtain ⟨fs', I5, e5, s5, d5, hfl2, r5⟩ := A.done mR
      have x5 := x3.trans e5
      have hD5 := x5.hh
      have hDm : H4 D = some (.lst (xl ++ [xm])) := e5.hh _ _ (e3.hh _ _ (e2.ih _ _ hD))
      have hat : atI (xl ++ [xm]) ((((xl ++ [xm]).length : Nat) : Int) - 1) = some xm := by
        rw [show (((xl ++ [xm]).length : Nat) : Int) - 1 = ((xl.length : Nat) : Int) by simp]
        exact atI_nat (by simp)
      dsimp only
      refine k_sset ⟨_, rfl, _, rfl, _, rfl, D, _, rfl, .inl (.inl (.inl hDm)), _, _, rfl, rfl, D, _, _, _, rfl, rfl, .inl (.inl hDm), hat, by rw [sizeLine_eq]; exact Nat.zero_le _, fun N hN => ?_⟩
      have e6 := x5.new (o := .lst []) hN
      have s56 : Same I5 (L2.upd I5 N (.lst [])) := Same.new (x5.ih.free hN)
      have hRd : RdAt (L2.upd I5 N (.lst [])) (.ref N) (.ref D2) [] Vbdcar.INPUTS hs := ⟨⟨N, rfl, upd_same⟩, fun b hb => by simp at hb, ⟨D2, rfl, hHs.mono (Same.trans e5.ii s56)⟩, lowH, fun b => by simp, p4⟩
      refine ⟨_, rfl, _, _, _, rfl, _, m, [], Vbdcar.INPUTS, hs, by have := hdeep m (by simp); omega, by simp, e6.ih, tm.mono (Same.trans e3.ii (Same.trans e5.ii s56)), hRd, ?_⟩
      cases hm : Vbdcar.expOf (fsOf hs) Vbdcar.INPUTS m with
      | error w =>
        rw [hm] at q
        exact fun H' s => q H' (Same.trans e6.hh s)
      | ok me =>
        have hread : Vbdcar.read b = .ok ⟨fl, me⟩ := by rw [read_some htr, hh]; simp only [hbo, hm]
        obtain ⟨hpw, hpar, hsl⟩ := read_ok hb hread
        rw [hm] at q
        replace q : if 4000 < (Vbdcar.shownProg ⟨fl, me⟩).length then ∀ H', Same H H' → errT E H' 5 0 else ∀ r I' H', Ext I H I' H' → ProgAt I' r ⟨fl, me⟩ → Q r H' := q
        intro u7 I7 H7 e7 h7 ad dx' hx hdx hne
        refine ⟨ad, dx', _, rfl, rfl, upd_same, rfl, ?_⟩
        rw [upd_upd]
        have x7 := (e6.trans e7).ins (o := .ins cProgram dx' [("functions", .ref D3), ("last", u7)]) hx hdx hne
        have s7 : Same I7 _ := Same.new (o := .ins cProgram dx' [("functions", .ref D3), ("last", u7)]) (e7.ih.free hx)
        have s57 : Same I5 (L2.upd I7 ad (.ins cProgram dx' [("functions", .ref D3), ("last", u7)])) := Same.trans s56 (Same.trans e7.ii s7)
        have hP : ProgAt (L2.upd I7 ad (.ins cProgram dx' [("functions", .ref D3), ("last", u7)])) (.ref ad) ⟨fl, me⟩ := by
          refine ⟨ad, dx', D3, u7, fs', rfl, upd_same, s57 _ _ d5, ?_, by omega, fun i y f h1 h2 => ?_, h7.mono s7⟩
          · show fs'.length = fl.length
            omega
          · obtain ⟨x', e', k1, k2, k3⟩ := hfr i f h2
            obtain ⟨x'', e'', k4, k5, k6⟩ := r5 i y h1
            rw [k1] at k4
            cases k4
            rw [k2] at k5
            cases k5
            rw [k3]
            exact k6.mono s57
        obtain ⟨hdp, hfk⟩ := pwf_deep hpw
        refine k_sifN ⟨_, rfl, _, rfl, _, ⟨fl, me⟩, x7.ih, hP, hdp, hfk, hpar, hsl, fun p8 I8 H8 e8 h8 => ?_⟩
        refine ⟨p8, _, rfl, .inl (.inl (.inl (e8.ih _ _ h8))), _, _, rfl, rfl, _, rfl, ?_⟩
        rw [List.length_map, iB_len]
        have x8 := x7.trans e8
        by_cases h4 : 4000 < (Vbdcar.shownProg ⟨fl, me⟩).length
        · rw [if_pos h4] at q
          rw [decide_eq_true (by omega)]
          exact iteT ⟨rfl, q H8 x8.hh⟩
        · rw [if_neg h4] at q
          rw [decide_eq_false (by omega)]
          exact iteF ⟨_, rfl, q _ I8 H8 x8 (hP.mono e8.ii)⟩⟩
end
end Bd


end
/-! ## BdHouse -/
section
namespace Bd
open PySem PySem.Spec PyProof.Rows
open L2
theorem pg_tupK {X : Cx} {K' : PySem.W.Frag} {es : List Expr} {k : Nat} {t : TGs} {n : Nat} {pos : Pos} (hc : X.calm = true) (h : PGs X es t)
    (hn : (assignEach es X.env).length = n := by rfl) (hst : (assignEach es X.env).findIdx? (·.1) = none := by rfl) (hK : X.K = K' := by rfl) : PG X (.Tuple es k pos) (gTup K' n t) := by
  subst hK
  exact pg_tup hc h hn hst
/-! ## the house -/
abbrev POk (p : Vbdcar.Prog) : Prop := PWF p ∧ PPar p
def ItemAt (I : Hp) (x : V) : Option Vbdcar.Prog → Prop
  | none => x = .non
  | some p => ProgAt I x p
theorem ItemAt.mono {I I' : Hp} {x : V} {o : Option Vbdcar.Prog} (s : Same I I') (h : ItemAt I x o) : ItemAt I' x o := by
  cases o with
  | none => exact h
  | some p => exact ProgAt.mono s h
structure StOk (s : Vbdcar.State) : Prop where
  len : s.progs.length = 8
  ok : ∀ (i : Nat) p, s.progs[i]? = some (some p) → POk p
  pz : PzOk s.prizes
abbrev houseF (pl pz : Addr) : List (Str × V) := [("places", .ref pl), ("prizes", .ref pz)]
structure HAt (I0 H0 : Hp) (h : Addr) (I H : Hp) (s : Vbdcar.State) : Prop where
  ext : Ext I0 H0 I H
  ex : ∃ dx pl pz xs, H h = some (.ins cHouse dx (houseF pl pz)) ∧ H pl = some (.lst xs) ∧ xs.length = 8 ∧ (∀ (i : Nat) x o, xs[i]? = some x → s.progs[i]? = some o → ItemAt I x o) ∧ IL I pz s.prizes ∧ H0 h = none ∧ H0 pl = none ∧ I h = none ∧ I pl = none
  ok : StOk s
theorem HAt.step {I0 H0 I H I2 H2 : Hp} {h : Addr} {s : Vbdcar.State} (A : HAt I0 H0 h I H s) (e : Ext I H I2 H2) : HAt I0 H0 h I2 H2 s := by
  obtain ⟨dx, pl, pz, xs, h1, h2, h3, h4, h5, h6, h7, h8, h9⟩ := A.ex
  exact ⟨A.ext.trans e, ⟨dx, pl, pz, xs, e.hh _ _ h1, e.hh _ _ h2, h3, fun i x o a b => (h4 i x o a b).mono e.ii, e.ii _ _ h5, h6, h7, e.noneI h8 h1, e.noneI h9 h2⟩, A.ok⟩
/-- a place is written -/
theorem HAt.put {I0 H0 I H : Hp} {h dx pl pz : Addr} {s : Vbdcar.State} {xs : List V} {i : Nat} {x : V} {o : Option Vbdcar.Prog} (A : HAt I0 H0 h I H s) (h1 : H h = some (.ins cHouse dx (houseF pl pz))) (h2 : H pl = some (.lst xs)) (hi : i < 8) (hx : ItemAt I x o) (ho : ∀ p, o = some p → POk p) :
    HAt I0 H0 h I (upd H pl (.lst (xs.set i x))) { s with progs := s.progs.set i o } := by
  obtain ⟨dx', pl', pz', xs', g1, g2, g3, g4, g5, g6, g7, g8, g9⟩ := A.ex
  rw [h1] at g1
  cases g1
  rw [h2] at g2
  cases g2
  have nhp : h ≠ pl := fun e => by rw [e, h2] at h1; cases h1
  refine ⟨A.ext.mut g7 g9, ⟨dx, pl, pz, xs.set i x, by rw [upd_ne nhp]; exact h1, upd_same, by rw [List.length_set]; exact g3, fun j y o' a b => ?_, g5, g6, g7, g8, g9⟩, ⟨by simp [A.ok.len], fun j p hp => ?_, A.ok.pz⟩⟩
  · by_cases hj : j = i
    · subst hj
      have hl := A.ok.len
      rw [List.getElem?_set_self (by omega)] at a b
      cases a; cases b
      exact hx
    · rw [List.getElem?_set_ne (Ne.symm hj)] at a b
      exact g4 j y o' a b
  · by_cases hj : j = i
    · subst hj
      have hl := A.ok.len
      have hp : (s.progs.set j o)[j]? = some (some p) := hp
      rw [List.getElem?_set_self (by omega)] at hp
      exact ho p (Option.some.inj hp)
    · have hp : (s.progs.set i o)[j]? = some (some p) := hp
      rw [List.getElem?_set_ne (Ne.symm hj)] at hp
      exact A.ok.ok j p hp
/-- the prizes are others -/
theorem HAt.pris {I0 H0 I H : Hp} {h dx pl pz q : Addr} {s : Vbdcar.State} {l : List Int} (A : HAt I0 H0 h I H s) (h1 : H h = some (.ins cHouse dx (houseF pl pz))) (hq : IL I q l) (hp : PzOk l) : HAt I0 H0 h I (upd H h (.ins cHouse dx (houseF pl q))) { s with prizes := l } := by
  obtain ⟨dx', pl', pz', xs', g1, g2, g3, g4, g5, g6, g7, g8, g9⟩ := A.ex
  rw [h1] at g1
  cases g1
  have nhp : pl ≠ h := fun e => by rw [e, h1] at g2; cases g2
  exact ⟨A.ext.mut g6 g8, ⟨dx, pl, q, xs', upd_same, by rw [upd_ne nhp]; exact g2, g3, g4, hq, g6, g7, g8, g9⟩, ⟨A.ok.len, A.ok.ok, hp⟩⟩
/-- what a call hands back -/
abbrev RetC (I0 H0 : Hp) (h : Addr) (Q : VK) (s : Vbdcar.State) (l : List Int) : Prop := ∀ a I' H', HAt I0 H0 h I' H' s → IL I' a l → Q (.ref a) H'
abbrev RetI (I H : Hp) (Q : VK) (l : List Int) : Prop := ∀ a I' H', Ext I H I' H' → IL I' a l → Q (.ref a) H'
theorem retI_list {I H I1 H1 : Hp} {Q : VK} {l : List Int} (e : Ext I H I1 H1) (q : RetI I H Q l) : ∀ p, H1 p = none → Q (.ref p) (upd H1 p (.lst (l.map V.int))) := fun p hp => q p _ _ (e.new hp) upd_same
abbrev nones : List V := [.non, .non, .non, .non, .non, .non, .non, .non]
section
variable {w : World} {K : PySem.W.Frag} {mg : Str → Option Value} {base : Heap}
theorem sc_I_House : FnScope ["self"] ["self"] (defScope s_House) := ⟨rfl, rfl, rfl, by decide +kernel, rfl, by decide +kernel, by decide +kernel⟩
theorem m_House (T : Tx w K mg)  : MkD w K mg base 1 "House" cHouse ["self"] (Sp1 fun u H Q _ => ∃ a dx, u = .ref a ∧ H a = some (.ins cHouse dx []) ∧ ∀ L pl pz, H L = none → (L2.upd H L (.lst [.non])) pl = none → (L2.upd (L2.upd (L2.upd H L (.lst [.non])) pl (.lst nones)) a (.ins cHouse dx [("places", .ref pl)])) pz = none → Q .non (L2.upd (L2.upd (L2.upd (L2.upd (L2.upd H L (.lst [.non])) pl (.lst nones)) a (.ins cHouse dx [("places", .ref pl)])) pz (.lst [])) a (.ins cHouse dx (houseF pl pz)))) :=
  mkInit T f_I_House rfl (T.k.cl 5 _ _ _ rfl).2.1 T.g_House sc_I_House (fun _ _ _ _ _ _ us hl => match us, hl with | [_], _ => rfl) (fun vs H Q E ⟨u, e, _⟩ => by rw [e] <;> rfl) fun vs cdv A outer s H Q E hr ⟨u, e, h⟩ => by
  subst e
  refine ⟨_, (pss_cons (ps_fld (pv 0) (pe_op op_rep (pe_lst (pa_cons pe_non pa_nil)) (pe_gi T.k_MOST_PLACES)) rfl)
  (pss_one (ps_fld (pv 0) (pe_lst pa_nil) rfl))), ?_⟩
  obtain ⟨a, dx, rfl, ha, q⟩ := h
  refine ⟨one_le _, fun L hL => ⟨L, 8, [.non], rfl, rfl, upd_same, by decide, by decide, by rw [sizeLine_eq]; decide, fun pl hpl => ?_⟩⟩
  have nL : a ≠ L := ne_of_none ha hL
  have ha1 : (L2.upd H L (.lst [.non])) a = some (.ins cHouse dx []) := by rw [upd_ne nL]; exact ha
  have npl : a ≠ pl := ne_of_none ha1 hpl
  refine ⟨_, rfl, a, _, dx, _, rfl, by rw [upd_ne npl]; exact ha1, T.c_House, T.n_House_places, putL0, by rw [sizeLine_eq]; exact Nat.zero_le _, fun pz hpz => ?_⟩
  have npz : a ≠ pz := ne_of_none upd_same hpz
  have g : (L2.upd (L2.upd (L2.upd (L2.upd H L (.lst [.non])) pl (.lst nones)) a (.ins cHouse dx [("places", .ref pl)])) pz (.lst [])) a = some (.ins cHouse dx [("places", .ref pl)]) := by rw [upd_ne npz]; exact upd_same
  exact ⟨_, rfl, a, _, dx, _, rfl, g, T.c_House, T.n_House_prizes, putL1, q L pl pz hL hpl hpz⟩
def fullTo (s : Vbdcar.State) (i : Nat) : List Int := Vbdcar.ints ((List.range i).filter fun i => (Vbdcar.prog? s i).isSome)
theorem fullTo_succ (s : Vbdcar.State) (i : Nat) : fullTo s (i + 1) = fullTo s i ++ (if (Vbdcar.prog? s i).isSome = true then [(i : Int)] else []) := by
  unfold fullTo Vbdcar.ints
  rw [List.range_succ, List.filter_append, List.map_append]
  congr 1
  rw [List.filter_cons]
  split <;> rfl
theorem fullTo_len (s : Vbdcar.State) (i : Nat) : (fullTo s i).length ≤ i := by
  unfold fullTo Vbdcar.ints
  rw [List.length_map]
  exact Nat.le_trans (List.length_filter_le ..) (by simp)
abbrev sp_full : Sp := Sp1 fun u H Q _ => ∃ (I0 H0 : Hp) (h : Addr) (I : Hp) (s : Vbdcar.State), u = .ref h ∧ HAt I0 H0 h I H s ∧ RetI I H Q (Vbdcar.ints (Vbdcar.loaded s))
abbrev n_full_places : List Str := ["house", "place", "program"]
theorem sc_full_places : FnScope n_full_places ["house"] (defScope s_full_places) := ⟨rfl, rfl, rfl, by decide +kernel, rfl, by decide +kernel, by decide +kernel⟩
theorem d_full_places (T : Tx w K mg)  : Def w K mg base 1 "full_places" ["house"] (sp_full) :=
  mkDef1 T f_full_places rfl rfl sc_full_places rfl (fun _ _ _ _ _ _ us hl => match us, hl with | [_], _ => rfl) fun u cdv A outer s H Q E hr h =>
  ⟨_, (pss_one (ps_ret (pe_lc (own := [("place", 1), ("program", 2)]) (g := gTup K 2 (gCons (gName 1) (gCons (gName 2) (gNil)))) (tt := _) rfl sc_full_places.nd (pi_enum (by rfl) (T.fr_enumerate) (pa_cons (pe_fld (pv 0) rfl) pa_nil)) (blkOk_by (N := n_full_places) (sc := defScope s_full_places) (by decide +kernel)) (fun _ _ _ _ _ => (pg_tupK (K' := K) rfl (pgs_cons (pg_name (i := 1) sc_full_places.nd rfl (Or.inl rfl)) (pgs_cons (pg_name (i := 2) sc_full_places.nd rfl (Or.inl rfl)) pgs_nil)))) (fun _ _ _ _ _ => by exact (pts_one (pt_cmpR op_notN (pv 2) pe_non (nomark _)))) (fun _ _ _ _ _ => by exact (pv 1))))), by
  obtain ⟨I0, H0, h, I, s, rfl, A, q⟩ := h
  obtain ⟨dx, pl, pz, xs, h1, h2, h3, h4, h5, h6, h7, h8, h9⟩ := A.ex
  have sI := A.ext.ih
  refine ⟨_, rfl, h, _, dx, _, _, rfl, h1, T.c_House, T.n_House_places, rfl, pl, _, rfl, .inl (.inl h2), fun D hD => ?_⟩
  refine L2.lc_it (walk_enum (xs := xs)) (fun i H' => Ext I H I H' ∧ IL H' D (fullTo s i)) ⟨(Ext.refl sI).tmp hD, upd_same⟩ (fun i H' _ ⟨e, _⟩ => .inl (.inl (e.hh _ _ h2))) (fun i x H1 H2 hi ⟨e, hl⟩ y => ?_) fun H1 ⟨e, hl⟩ => ?_
  · obtain ⟨Tp, x1, y1, rfl, hT, rfl, hx1, hy1⟩ := y
    cases hx1
    have e2 := e.tmp (o := .tup [.int (i : Nat), y1]) hT
    have hl2 : IL (L2.upd H1 Tp (.tup [.int (i : Nat), y1])) D (fullTo s i) := by rw [IL, upd_ne (ne_of_none hl hT)]; exact hl
    have hi8 : i < s.progs.length := by rw [A.ok.len, ← h3]; exact hi
    have hit := h4 i y1 s.progs[i] hy1 (List.getElem?_eq_getElem hi8)
    have hp : Vbdcar.prog? s i = s.progs[i] := by
      unfold Vbdcar.prog?
      rw [List.getD_eq_getElem?_getD, List.getElem?_eq_getElem hi8]; rfl
    have hfl := fullTo_len s i
    refine ⟨Tp, _, rfl, .inl (.inl upd_same), rfl, _, _, rfl, _, _, rfl, rfl, rfl, _, rfl, rfl, _, rfl, ?_⟩
    rw [fullTo_succ, hp]
    cases ho : s.progs[i] with
    | none =>
      rw [ho] at hit
      obtain rfl : y1 = .non := hit
      refine iteF ⟨e2, ?_⟩
      rw [if_neg (by simp), List.append_nil]
      exact hl2
    | some p =>
      rw [ho] at hit
      obtain ⟨a, _, _, _, _, rfl, _⟩ := ProgAt.ex hit
      refine iteT ⟨_, rfl, _, hl2, by rw [List.length_map, sizeLine_eq]; omega, e2.mut hD (sI.free hD), ?_⟩
      rw [if_pos (by simp), IL, upd_same, List.map_append]
      rfl
  · rw [h3] at hl
    exact q D _ H1 (e.frz hD (sI.free hD) hl) upd_same⟩
end
end Bd


end
/-! ## BdFoldW -/
section
namespace Bd
/-! ## folding keeps what the reader lets through -/
theorem fold_op_cases (o : Nat) (l : Vbdcar.Exps) : (∃ k, Vbdcar.fold (.op o l) = .num k) ∨ Vbdcar.fold (.op o l) = .op o (Vbdcar.foldAll l) := by
  rw [Vbdcar.fold]
  split
  · split
    · split
      · exact .inr rfl
      · exact .inl ⟨_, rfl⟩
    · exact .inr rfl
  · exact .inr rfl
theorem foldAll_l (l : Vbdcar.Exps) : (Vbdcar.foldAll l).list = l.list.map Vbdcar.fold := by rw [foldAll_list, list_ofs]
theorem we_fold {fs fs' : List Vbdcar.Fun} (hfs : ∀ g h, fs.find? (fun h => h.name == g) = some h → ∃ h', fs'.find? (fun h => h.name == g) = some h' ∧ h'.params = h.params) {vs : List (List Nat)} {e : Exp} (h : WE fs vs e) : WE fs' vs (Vbdcar.fold e) := by
  induction h with
  | num => exact .num
  | var h => exact .var h
  | ite _ _ _ h1 h2 h3 =>
    rw [Vbdcar.fold]
    split
    · split
      · exact h3
      · exact h2
    · exact .ite h1 h2 h3
  | let_ _ _ h1 h2 => rw [Vbdcar.fold]; exact .let_ h1 h2
  | each _ _ h1 h2 => rw [Vbdcar.fold]; exact .each h1 h2
  | keep _ _ h1 h2 => rw [Vbdcar.fold]; exact .keep h1 h2
  | and_ _ _ h1 h2 =>
    rw [Vbdcar.fold]
    split
    · split
      · exact .num
      · exact .and_ .num h2
    · exact .and_ h1 h2
  | or_ _ _ h1 h2 =>
    rw [Vbdcar.fold]
    split
    · split
      · exact .or_ .num h2
      · exact .num
    · exact .or_ h1 h2
  | @op vs o l _ ih =>
    rcases fold_op_cases o l with ⟨k, e⟩ | e
    · rw [e]; exact .num
    · rw [e]
      refine .op fun c hc => ?_
      rw [foldAll_l] at hc
      obtain ⟨d, hd, rfl⟩ := List.mem_map.mp hc
      exact ih d hd
  | @call vs g l h hf hp hnd h4 _ ih =>
    rw [Vbdcar.fold]
    obtain ⟨h', hf', hpp⟩ := hfs g h hf
    refine .call hf' (by rw [hpp, foldAll_l, List.length_map]; exact hp) (by rw [hpp]; exact hnd) (by rw [hpp]; exact h4) fun c hc => ?_
    rw [foldAll_l] at hc
    obtain ⟨d, hd, rfl⟩ := List.mem_map.mp hc
    exact ih d hd
theorem find_folded {p : Vbdcar.Prog} (g : List Nat) (h : Vbdcar.Fun) (hf : p.funs.find? (fun h => h.name == g) = some h) : ∃ h', (Vbdcar.folded p).funs.find? (fun h => h.name == g) = some h' ∧ h'.params = h.params := by
  refine ⟨{ h with body := Vbdcar.fold h.body }, ?_, rfl⟩
  show (p.funs.map fun f => { f with body := Vbdcar.fold f.body }).find? _ = _
  rw [List.find?_map]
  have e : ((fun h : Vbdcar.Fun => h.name == g) ∘ fun f : Vbdcar.Fun => { f with body := Vbdcar.fold f.body }) = fun h => h.name == g := rfl
  rw [e, hf]
  rfl
theorem pwf_folded {p : Vbdcar.Prog} (h : PWF p) : PWF (Vbdcar.folded p) := by
  refine ⟨⟨we_fold find_folded h.main.1, fok_fold h.main.2.1, Nat.lt_of_le_of_lt (deep_fold h.main.2.1) h.main.2.2⟩, fun f hf => ?_, by show (p.funs.map _).length ≤ 8; rw [List.length_map]; exact h.few⟩
  obtain ⟨g, hg, rfl⟩ := List.mem_map.mp hf
  obtain ⟨a, b, c⟩ := h.funs g hg
  exact ⟨we_fold find_folded a, fok_fold b, Nat.lt_of_le_of_lt (deep_fold b) c⟩
theorem ppar_folded {p : Vbdcar.Prog} (h : PPar p) : PPar (Vbdcar.folded p) := fun f hf => by
  obtain ⟨g, hg, rfl⟩ := List.mem_map.mp hf
  exact h g hg
end Bd

end
/-! ## BdStepP -/
section
namespace Bd
open Vbdcar (State Call step guarded prog? prog inr)
/-! ## calls, in the program's order -/
def callNo : Call → Nat
  | .load _ _ => 0
  | .show_ _ => 1
  | .size _ => 2
  | .prizes _ => 3
  | .bid _ _ _ => 4
  | .play _ _ => 5
  | .best _ => 6
  | .league => 7
  | .fold _ _ => 8
  | .drop _ => 9
  | .full => 10
def wholeOf : Call → List Int
  | .load i _ => [i]
  | .show_ i => [i]
  | .size i => [i]
  | .prizes _ => []
  | .bid i _ _ => [i]
  | .play i j => [i, j]
  | .best i => [i]
  | .league => []
  | .fold i j => [i, j]
  | .drop i => [i]
  | .full => []
def rowsOf : Call → List (List Int)
  | .load _ t => [t]
  | .prizes l => [l]
  | .bid _ a b => [a, b]
  | _ => []
def withinB (lo hi : Int) (l : List Int) : Bool := l.all fun n => decide (lo ≤ n) && decide (n ≤ hi)
def listsB (n : Nat) (rows : List (List Int)) : Bool :=
  if n = 0 then (decide ((rows.getD 0 []).length ≤ 4000) && withinB 0 255 (rows.getD 0 []))
  else if n = 3 then ((decide (1 ≤ (rows.getD 0 []).length) && decide ((rows.getD 0 []).length ≤ 13)) && withinB 1 1000000000 (rows.getD 0 []))
  else if n = 4 then (withinB 0 13 (rows.getD 0 []) && withinB 0 13 (rows.getD 1 []))
  else true
def neededL (n : Nat) (whole : List Int) : List Int := if n = 0 then [] else if n = 8 then whole.take 1 else whole
def cardsB (l : List Int) (count : Nat) : Bool := withinB 1 count l && Vbdcar.unlike l
def bidsB (rows : List (List Int)) (count : Nat) : Bool := decide ((rows.getD 0 []).length = (rows.getD 1 []).length) && (decide ((rows.getD 0 []).length < count) && (cardsB (rows.getD 0 []) count && cardsB (rows.getD 1 []) count))
def noneAt (s : State) (i : Int) : Bool := (prog? s i.toNat).isNone
def refP (s : State) (n : Nat) (whole : List Int) (rows : List (List Int)) : Int :=
  if (withinB 0 7 whole && listsB n rows) = false then -1
  else if (neededL n whole).any (noneAt s) = true then -2
  else if s.prizes.length = 0 ∧ (n = 4 ∨ n = 5 ∨ n = 6 ∨ n = 7) then -3
  else if n = 4 ∧ bidsB rows s.prizes.length = false then -4
  else if n = 6 ∧ 5 < s.prizes.length then -5
  else 0
abbrev wAllP (p : Vbdcar.Prog) : Nat := (p.funs.map fun f => Vbdcar.weight f.body).foldl (fun a b => a + b) (Vbdcar.weight p.main)
/-- an accepted call: the state behind it, and what is told behind the 0 -/
def workP (s : State) : Call → State × List Int
  | .load i t => match Vbdcar.read (t.map Int.toNat) with
    | .error w => (s, [(w.kind : Int), (w.place : Int)])
    | .ok p => if 4000 < (Vbdcar.shownProg p).length then (s, [5, 0]) else ({ s with progs := s.progs.set i.toNat (some p) }, [0])
  | .show_ i => (s, Vbdcar.ints (Vbdcar.shownProg (prog s i)))
  | .size i => (s, [((prog s i).funs.length : Int), ((wAllP (prog s i) : Nat) : Int)])
  | .prizes l => ({ s with prizes := l }, [])
  | .bid i a b => (s, [(Vbdcar.bid (prog s i) s.prizes a b).1, ((Vbdcar.bid (prog s i) s.prizes a b).2.1 : Int), ((Vbdcar.bid (prog s i) s.prizes a b).2.2 : Int)])
  | .play i j => (s, [(Vbdcar.final s.prizes (Vbdcar.play (prog s i) (prog s j) s.prizes)).me, (Vbdcar.final s.prizes (Vbdcar.play (prog s i) (prog s j) s.prizes)).foe, (Vbdcar.final s.prizes (Vbdcar.play (prog s i) (prog s j) s.prizes)).pot,
      ((Vbdcar.play (prog s i) (prog s j) s.prizes).failsA : Int), ((Vbdcar.play (prog s i) (prog s j) s.prizes).failsB : Int)] ++ ((Vbdcar.play (prog s i) (prog s j) s.prizes).a ++ (Vbdcar.play (prog s i) (prog s j) s.prizes).b))
  | .best i => (s, (Vbdcar.best (prog s i) s.prizes).1 :: (Vbdcar.best (prog s i) s.prizes).2)
  | .league => (s, (Vbdcar.loaded s).flatMap fun (i : Nat) => [(i : Int), (Vbdcar.standing s i).1, (Vbdcar.standing s i).2])
  | .fold i j => ({ s with progs := s.progs.set j.toNat (some (Vbdcar.folded (prog s i))) }, [((wAllP (Vbdcar.folded (prog s i)) : Nat) : Int)])
  | .drop i => ({ s with progs := s.progs.set i.toNat none }, [])
  | .full => (s, Vbdcar.ints (Vbdcar.loaded s))
theorem slot1 (i : Int) : withinB 0 7 [i] = Vbdcar.isSlot i := by simp [withinB, Vbdcar.isSlot, inr]
theorem slot2 (i j : Int) : withinB 0 7 [i, j] = (Vbdcar.isSlot i && Vbdcar.isSlot j) := by simp [withinB, Vbdcar.isSlot, inr]
theorem slot0 : withinB 0 7 [] = true := rfl
theorem within_inr (lo hi : Int) (l : List Int) : withinB lo hi l = l.all fun n => inr n lo hi := rfl
theorem guard_eq (s : State) (l : List (Int × Bool)) (k : Unit → State × List Int) : guarded s l k = match l.find? fun x => x.2 with
  | some x => (s, [x.1])
  | none => k () := rfl
theorem within_eq (lo hi : Int) (l : List Int) : (l.all fun n => inr n lo hi) = withinB lo hi l := rfl
theorem pz_empty (s : State) : s.prizes.isEmpty = decide (s.prizes.length = 0) := by cases s.prizes <;> rfl
theorem step_eq (s : State) (c : Call) : step s c = if refP s (callNo c) (wholeOf c) (rowsOf c) = 0 then ((workP s c).1, 0 :: (workP s c).2) else (s, [refP s (callNo c) (wholeOf c) (rowsOf c)]) := by
  cases c with
  | load i t =>
    have hr : refP s 0 [i] [t] = if (Vbdcar.isSlot i && (decide (t.length ≤ 4000) && withinB 0 255 t)) = false then -1 else 0 := by
      unfold refP
      rw [slot1]
      simp [listsB, neededL]
    show step s (.load i t) = if refP s 0 [i] [t] = 0 then _ else (s, [refP s 0 [i] [t]])
    rw [hr]
    simp only [step, guard_eq, within_eq]
    cases h : (Vbdcar.isSlot i && (decide (t.length ≤ 4000) && withinB 0 255 t)) with
    | false => simp
    | true =>
      simp only [workP, List.find?_cons, List.find?_nil, Bool.not_true]
      cases Vbdcar.read (t.map Int.toNat) with
      | error w => rfl
      | ok p =>
        dsimp only
        split <;> rfl
  | show_ i =>
    have hr : refP s 1 [i] [] = if Vbdcar.isSlot i = false then -1 else if noneAt s i = true then -2 else 0 := by
      unfold refP
      rw [slot1]
      simp [listsB, neededL]
    show step s (.show_ i) = if refP s 1 [i] [] = 0 then _ else (s, [refP s 1 [i] []])
    rw [hr]
    simp only [step, guard_eq, Vbdcar.noProg]
    cases h : Vbdcar.isSlot i <;> cases h2 : (prog? s i.toNat).isNone <;> simp [noneAt, h2, workP]
  | size i =>
    have hr : refP s 2 [i] [] = if Vbdcar.isSlot i = false then -1 else if noneAt s i = true then -2 else 0 := by
      unfold refP
      rw [slot1]
      simp [listsB, neededL]
    show step s (.size i) = if refP s 2 [i] [] = 0 then _ else (s, [refP s 2 [i] []])
    rw [hr]
    simp only [step, guard_eq, Vbdcar.noProg]
    cases h : Vbdcar.isSlot i <;> cases h2 : (prog? s i.toNat).isNone <;> simp [noneAt, h2, workP]
  | prizes l =>
    have hr : refP s 3 [] [l] = if ((decide (1 ≤ l.length) && decide (l.length ≤ 13)) && withinB 1 1000000000 l) = false then -1 else 0 := by
      unfold refP
      rw [slot0]
      simp [listsB, neededL]
    show step s (.prizes l) = if refP s 3 [] [l] = 0 then _ else (s, [refP s 3 [] [l]])
    rw [hr]
    simp only [step, guard_eq, within_eq]
    have e1 : decide (1 ≤ l.length ∧ l.length ≤ 13) = (decide (1 ≤ l.length) && decide (l.length ≤ 13)) := by rw [Bool.eq_iff_iff]; simp
    rw [e1]
    cases h : ((decide (1 ≤ l.length) && decide (l.length ≤ 13)) && withinB 1 1000000000 l) <;> simp [workP]
  | bid i a b =>
    have hr : refP s 4 [i] [a, b] = if (Vbdcar.isSlot i && (withinB 0 13 a && withinB 0 13 b)) = false then -1 else if noneAt s i = true then -2 else if s.prizes.length = 0 then -3 else if bidsB [a, b] s.prizes.length = false then -4 else 0 := by
      unfold refP
      rw [slot1]
      simp [listsB, neededL]
    show step s (.bid i a b) = if refP s 4 [i] [a, b] = 0 then _ else (s, [refP s 4 [i] [a, b]])
    rw [hr]
    have e1 : withinB 0 13 (a ++ b) = (withinB 0 13 a && withinB 0 13 b) := List.all_append
    have e2 : (a.length == b.length && (Vbdcar.bidsOk s.prizes.length a && Vbdcar.bidsOk s.prizes.length b)) = bidsB [a, b] s.prizes.length := by
      unfold Vbdcar.bidsOk bidsB cardsB
      rw [within_eq, within_eq, Bool.eq_iff_iff]
      simp only [Bool.and_eq_true, beq_iff_eq, decide_eq_true_eq, List.getD_cons_zero, List.getD_cons_succ]
      constructor
      · rintro ⟨h1, ⟨h2, h3, h4⟩, h5, h6, h7⟩; exact ⟨h1, h2, ⟨h4, h3⟩, h7, h6⟩
      · rintro ⟨h1, h2, ⟨h3, h4⟩, h5, h6⟩; exact ⟨h1, ⟨h2, h4, h3⟩, by omega, h6, h5⟩
    simp only [step, guard_eq, within_eq, Vbdcar.noProg, Vbdcar.noPrizes, pz_empty, e1, e2]
    generalize bidsB [a, b] s.prizes.length = F
    generalize (withinB 0 13 a && withinB 0 13 b) = G
    cases Vbdcar.isSlot i <;> cases G <;> cases h2 : (prog? s i.toNat).isNone <;> by_cases h3 : s.prizes.length = 0 <;> cases F <;> simp [noneAt, workP, h2, h3]
  | play i j =>
    have hr : refP s 5 [i, j] [] = if (Vbdcar.isSlot i && Vbdcar.isSlot j) = false then -1 else if (noneAt s i || noneAt s j) = true then -2 else if s.prizes.length = 0 then -3 else 0 := by
      unfold refP
      rw [slot2]
      simp [listsB, neededL]
    show step s (.play i j) = if refP s 5 [i, j] [] = 0 then _ else (s, [refP s 5 [i, j] []])
    rw [hr]
    simp only [step, guard_eq, Vbdcar.noProg, Vbdcar.noPrizes, pz_empty]
    cases Vbdcar.isSlot i <;> cases Vbdcar.isSlot j <;> cases h2 : (prog? s i.toNat).isNone <;> cases h4 : (prog? s j.toNat).isNone <;> by_cases h3 : s.prizes.length = 0 <;> simp [noneAt, workP, h2, h3, h4]
  | best i =>
    have hr : refP s 6 [i] [] = if Vbdcar.isSlot i = false then -1 else if noneAt s i = true then -2 else if s.prizes.length = 0 then -3 else if 5 < s.prizes.length then -5 else 0 := by
      unfold refP
      rw [slot1]
      simp [listsB, neededL]
    show step s (.best i) = if refP s 6 [i] [] = 0 then _ else (s, [refP s 6 [i] []])
    rw [hr]
    simp only [step, guard_eq, Vbdcar.noProg, Vbdcar.noPrizes, pz_empty]
    cases Vbdcar.isSlot i <;> cases h2 : (prog? s i.toNat).isNone <;> by_cases h3 : s.prizes.length = 0 <;> by_cases h5 : 5 < s.prizes.length <;> simp [noneAt, workP, h2, h3, h5]
  | league =>
    have hr : refP s 7 [] [] = if s.prizes.length = 0 then -3 else 0 := by
      unfold refP
      rw [slot0]
      simp [listsB, neededL]
    show step s .league = if refP s 7 [] [] = 0 then _ else (s, [refP s 7 [] []])
    rw [hr]
    simp only [step, guard_eq, Vbdcar.noPrizes, pz_empty]
    by_cases h3 : s.prizes.length = 0 <;> simp [workP, h3]
  | fold i j =>
    have hr : refP s 8 [i, j] [] = if (Vbdcar.isSlot i && Vbdcar.isSlot j) = false then -1 else if noneAt s i = true then -2 else 0 := by
      unfold refP
      rw [slot2]
      simp [listsB, neededL]
    show step s (.fold i j) = if refP s 8 [i, j] [] = 0 then _ else (s, [refP s 8 [i, j] []])
    rw [hr]
    simp only [step, guard_eq, Vbdcar.noProg]
    cases Vbdcar.isSlot i <;> cases Vbdcar.isSlot j <;> cases h2 : (prog? s i.toNat).isNone <;> simp [noneAt, workP, h2]
  | drop i =>
    have hr : refP s 9 [i] [] = if Vbdcar.isSlot i = false then -1 else if noneAt s i = true then -2 else 0 := by
      unfold refP
      rw [slot1]
      simp [listsB, neededL]
    show step s (.drop i) = if refP s 9 [i] [] = 0 then _ else (s, [refP s 9 [i] []])
    rw [hr]
    simp only [step, guard_eq, Vbdcar.noProg]
    cases h : Vbdcar.isSlot i <;> cases h2 : (prog? s i.toNat).isNone <;> simp [noneAt, h2, workP]
  | full =>
    have hr : refP s 10 [] [] = 0 := by
      unfold refP
      rw [slot0]
      simp [listsB, neededL]
    show step s .full = if refP s 10 [] [] = 0 then _ else (s, [refP s 10 [] []])
    rw [hr]
    rfl
end Bd

end
/-! ## BdCalls -/
section
namespace Bd
open PySem PySem.Spec PyProof.Rows
open L2
theorem pok_folded {p : Vbdcar.Prog} (h : POk p) : POk (Vbdcar.folded p) := ⟨pwf_folded h.1, ppar_folded h.2⟩
theorem ix8 {i : Nat} {xs : List V} (hl : xs.length = 8) (hi : i < 8) : ixN xs.length ((i : Nat) : Int) = some i := by
  unfold ixN
  rw [hl, if_pos (by omega), if_pos (by omega)]
  rfl
section
variable {w : World} {K : PySem.W.Frag} {mg : Str → Option Value} {base : Heap}
abbrev sp_load : Sp := Sp3 fun u v y H Q _ => ∃ (I0 H0 : Hp) (h : Addr) (I : Hp) (s : Vbdcar.State) (i : Nat) (a : Addr) (b : List Nat), u = .ref h ∧ HAt I0 H0 h I H s ∧ v = .int (i : Nat) ∧ i < 8 ∧ y = .ref a ∧ IL H a (iB b) ∧ b.length ≤ 4000 ∧ match Vbdcar.read b with
  | .error w => RetC I0 H0 h Q s [(w.kind : Int), (w.place : Int)]
  | .ok p => if 4000 < (Vbdcar.shownProg p).length then RetC I0 H0 h Q s [5, 0] else RetC I0 H0 h Q { s with progs := s.progs.set i (some p) } [0]
abbrev n_call_load : List Str := ["house", "place", "data", "program", "fault"]
theorem sc_call_load : FnScope n_call_load ["house", "place", "data"] (defScope s_call_load) := ⟨rfl, rfl, rfl, by decide +kernel, rfl, by decide +kernel, by decide +kernel⟩
theorem d_call_load (T : Tx w K mg)  : Def w K mg base 91 "call_load" ["house", "place", "data"] (sp_load) :=
  mkDef3 T f_call_load rfl rfl sc_call_load rfl (fun _ _ _ _ _ _ us hl => match us, hl with | [_, _, _], _ => rfl) fun u v y cdv A outer s H Q E hr h =>
  ⟨_, (pss_cons (ps_try_as (i := 4) rfl rfl sc_call_load.nd rfl rfl ⟨rfl, by decide, .inl T.g_TextFault⟩ tz (fun W pn xe tk _ => (pss_one (ps_set (i := 3) sc_call_load.nd rfl (Or.inl rfl) (pe_cS (d_read_program T) hr tk (pa_cons (pv 2) pa_nil))))) (fun a oe cls d pn hz hf => (pss_one (ps_ret (pe_lst (pa_cons (pe_xf (T.x_TextFault).xf ((T.x_TextFault).no _ (by simp)) hz hf (pv 4)) (pa_cons (pe_xf (T.x_TextFault).xf ((T.x_TextFault).no _ (by simp)) hz hf (pv 4)) pa_nil)))))))
  (pss_cons (ps_asg (pv 3) (pg_sub (pe_fld (pv 0) rfl) (pv 1) set_list))
  (pss_one (ps_ret (pe_lst (pa_cons pe_int pa_nil)))))), by
  obtain ⟨I0, H0, h, I, s, i, a, b, rfl, A, rfl, hi, rfl, ha, hb, q⟩ := h
  have sI := A.ext.ih
  refine ⟨_, rfl, _, rfl, I, a, b, sI, rfl, ha, hb, ?_⟩
  have fault : ∀ (k p : Int), RetC I0 H0 h Q s [k, p] → ∀ H', Same H H' → ∀ d, H' d = none → ∀ (x : V), x = x → Q x H' → True := fun _ _ _ _ _ _ _ _ _ _ => True.intro
  cases hr : Vbdcar.read b with
  | error w =>
    rw [hr] at q
    exact fun H1 s1 d hd => ⟨true, T.x_TextFault.te, fun _ ea hea => ⟨_, rfl, rfl, rfl, d, _, _, rfl, upd_same, rfl, _, rfl, rfl, rfl, d, _, _, rfl, upd_same, rfl, two_le _ _, fun p hp => q p _ _ (A.step (((Ext.all sI s1).tmp hd).new hp)) upd_same⟩, fun z => nomatch z⟩
  | ok p =>
    rw [hr] at q
    dsimp only at q ⊢
    by_cases h4 : 4000 < (Vbdcar.shownProg p).length
    · rw [if_pos h4] at q ⊢
      exact fun H1 s1 d hd => ⟨true, T.x_TextFault.te, fun _ ea hea => ⟨_, rfl, rfl, rfl, d, _, _, rfl, upd_same, rfl, _, rfl, rfl, rfl, d, _, _, rfl, upd_same, rfl, two_le _ _, fun p hp => q p _ _ (A.step (((Ext.all sI s1).tmp hd).new hp)) upd_same⟩, fun z => nomatch z⟩
    · rw [if_neg h4] at q ⊢
      intro r I1 H1 e1 hp
      have A1 := A.step e1
      obtain ⟨dx, pl, pz, xs, h1, h2, h3, _⟩ := A1.ex
      obtain ⟨hpw, hpar, _⟩ := read_ok hb hr
      refine ⟨_, rfl, _, rfl, h, _, dx, _, _, rfl, h1, T.c_House, T.n_House_places, rfl, _, rfl, pl, _, _, i, rfl, rfl, h2, ix8 h3 hi, one_le _, fun a2 ha2 => ?_⟩
      have A2 := A1.put h1 h2 hi (o := some p) hp (fun p' e => by cases e; exact ⟨hpw, hpar⟩)
      exact q a2 _ _ (A2.step ((Ext.refl A2.ext.ih).new ha2)) upd_same⟩
abbrev n_call_size : List Str := ["program"]
theorem sc_call_size : FnScope n_call_size ["program"] (defScope s_call_size) := ⟨rfl, rfl, rfl, by decide +kernel, rfl, by decide +kernel, by decide +kernel⟩
theorem d_call_size (T : Tx w K mg)  : Def w K mg base 24 "call_size" ["program"] (Sp1 fun u H Q _ => ∃ (I : Hp) (p : Vbdcar.Prog), Same I H ∧ ProgAt I u p ∧ PDeep p ∧ RetI I H Q [(p.funs.length : Int), ((wAll p : Nat) : Int)]) :=
  mkDef1 T f_call_size rfl rfl sc_call_size rfl (fun _ _ _ _ _ _ us hl => match us, hl with | [_], _ => rfl) fun u cdv A outer s H Q E hr h =>
  ⟨_, (pss_one (ps_ret (pe_lst (pa_cons (pe_callB call_len_seq (by rfl) T.fr_len (by decide +kernel) (pa_cons (pe_fld (pv 0) rfl) pa_nil)) (pa_cons (pe_c (d_count_all T) hr pz (pa_cons (pv 0) pa_nil)) pa_nil))))), by
  obtain ⟨I, p, sI, hu, hd, q⟩ := h
  obtain ⟨a, dx, li, ul, xs, rfl, h2, h3, h4, _⟩ := id hu.ex
  refine ⟨_, rfl, a, _, dx, _, _, rfl, sI _ _ h2, T.c_Program, T.n_Program_functions, rfl, li, _, rfl, .inl (.inl (.inl (sI _ _ h3))), _, rfl, _, rfl, p, hu.mono sI, hd, fun H' s' => ⟨two_le _ _, fun d hdn => ?_⟩⟩
  rw [h4]
  exact retI_list (Ext.all sI s') q d hdn⟩
abbrev n_call_prizes : List Str := ["house", "row"]
theorem sc_call_prizes : FnScope n_call_prizes ["house", "row"] (defScope s_call_prizes) := ⟨rfl, rfl, rfl, by decide +kernel, rfl, by decide +kernel, by decide +kernel⟩
theorem d_call_prizes (T : Tx w K mg)  : Def w K mg base 1 "call_prizes" ["house", "row"] (Sp2 fun u v H Q _ => ∃ (I0 H0 : Hp) (h : Addr) (I : Hp) (s : Vbdcar.State) (a : Addr) (l : List Int), u = .ref h ∧ HAt I0 H0 h I H s ∧ v = .ref a ∧ IL H a l ∧ PzOk l ∧ RetC I0 H0 h Q { s with prizes := l } []) :=
  mkDef2 T f_call_prizes rfl rfl sc_call_prizes rfl (fun _ _ _ _ _ _ us hl => match us, hl with | [_, _], _ => rfl) fun u v cdv A outer s H Q E hr h =>
  ⟨_, (pss_cons (ps_fld (pv 0) (pe_callTy call_list_of (by rfl) T.fr_list (by decide +kernel) (pa_cons (pv 1) pa_nil)) rfl)
  (pss_one (ps_ret (pe_lst pa_nil)))), by
  obtain ⟨I0, H0, h, I, s, a, l, rfl, A, rfl, ha, hz, q⟩ := h
  refine ⟨_, rfl, a, _, rfl, .inl (.inl (.inl ha)), fun c hc => ?_⟩
  have A1 := A.step ((Ext.refl A.ext.ih).new (o := .lst (l.map V.int)) hc)
  obtain ⟨dx, pl, pz, xs, h1, h2, h3, _⟩ := A1.ex
  refine ⟨_, rfl, h, _, dx, _, rfl, h1, T.c_House, T.n_House_prizes, (by show 2 < 1000; decide), by rw [sizeLine_eq]; exact Nat.zero_le _, fun d hd => ?_⟩
  have A2 := A1.pris h1 (q := c) (l := l) upd_same hz
  exact q d _ _ (A2.step ((Ext.refl A2.ext.ih).new hd)) upd_same⟩
abbrev n_call_drop : List Str := ["house", "place"]
theorem sc_call_drop : FnScope n_call_drop ["house", "place"] (defScope s_call_drop) := ⟨rfl, rfl, rfl, by decide +kernel, rfl, by decide +kernel, by decide +kernel⟩
theorem d_call_drop (T : Tx w K mg)  : Def w K mg base 1 "call_drop" ["house", "place"] (Sp2 fun u v H Q _ => ∃ (I0 H0 : Hp) (h : Addr) (I : Hp) (s : Vbdcar.State) (i : Nat), u = .ref h ∧ HAt I0 H0 h I H s ∧ v = .int (i : Nat) ∧ i < 8 ∧ RetC I0 H0 h Q { s with progs := s.progs.set i none } []) :=
  mkDef2 T f_call_drop rfl rfl sc_call_drop rfl (fun _ _ _ _ _ _ us hl => match us, hl with | [_, _], _ => rfl) fun u v cdv A outer s H Q E hr h =>
  ⟨_, (pss_cons (ps_asg pe_non (pg_sub (pe_fld (pv 0) rfl) (pv 1) set_list))
  (pss_one (ps_ret (pe_lst pa_nil)))), by
  obtain ⟨I0, H0, h, I, s, i, rfl, A, rfl, hi, q⟩ := h
  obtain ⟨dx, pl, pz, xs, h1, h2, h3, _⟩ := A.ex
  refine ⟨_, rfl, h, _, dx, _, _, rfl, h1, T.c_House, T.n_House_places, rfl, _, rfl, pl, _, _, i, rfl, rfl, h2, ix8 h3 hi, by rw [sizeLine_eq]; exact Nat.zero_le _, fun a2 ha2 => ?_⟩
  have A2 := A.put h1 h2 hi (x := .non) (o := none) rfl (fun p' e => by cases e)
  exact q a2 _ _ (A2.step ((Ext.refl A2.ext.ih).new ha2)) upd_same⟩
abbrev n_points_for : List Str := ["margin"]
theorem sc_points_for : FnScope n_points_for ["margin"] (defScope s_points_for) := ⟨rfl, rfl, rfl, by decide +kernel, rfl, by decide +kernel, by decide +kernel⟩
theorem d_points_for (T : Tx w K mg)  : Def w K mg base 1 "points_for" ["margin"] (Sp1 fun u H Q _ => ∃ m, u = .int m ∧ Q (.int (Vbdcar.points m)) H) :=
  mkDef1 T f_points_for rfl rfl sc_points_for rfl (fun _ _ _ _ _ _ us hl => match us, hl with | [_], _ => rfl) fun u cdv A outer s H Q E hr h =>
  ⟨_, (pss_cons (ps_if (pt_cmpR op_gt (pv 0) pe_int (nomark _)) (pss_one (ps_ret pe_int)) pss_nil)
  (pss_cons (ps_if (pt_cmpR op_eq (pv 0) pe_int (nomark _)) (pss_one (ps_ret pe_int)) pss_nil)
  (pss_one (ps_ret pe_int)))), by
  obtain ⟨m, rfl, q⟩ := h
  unfold Vbdcar.points at q
  refine k_sifN ⟨_, rfl, _, _, rfl, rfl, _, rfl, ?_⟩
  by_cases h0 : 0 < m
  · rw [decide_eq_true h0]
    rw [if_pos h0] at q
    exact iteT q
  · rw [decide_eq_false h0]
    rw [if_neg h0] at q
    refine iteF (k_sifN ⟨_, rfl, rfl, _, rfl, ?_⟩)
    rw [dI]
    by_cases h1 : m = 0
    · rw [decide_eq_true h1]
      rw [if_pos h1] at q
      exact iteT q
    · rw [decide_eq_false h1]
      rw [if_neg h1] at q
      exact iteF q⟩
end
end Bd


end
/-! ## BdCallsB -/
section
namespace Bd
open PySem PySem.Spec PyProof.Rows
open L2
theorem prog_some {s : Vbdcar.State} {i : Nat} (h : (Vbdcar.prog? s i).isSome = true) : ∃ p, s.progs[i]? = some (some p) ∧ Vbdcar.prog s (i : Int) = p ∧ i < s.progs.length := by
  unfold Vbdcar.prog? at h
  rw [List.getD_eq_getElem?_getD] at h
  cases hx : s.progs[i]? with
  | none => rw [hx] at h; cases h
  | some o =>
    rw [hx] at h
    cases o with
    | none => cases h
    | some p =>
      refine ⟨p, rfl, ?_, (List.getElem?_eq_some_iff.mp hx).1⟩
      unfold Vbdcar.prog Vbdcar.prog?
      rw [Int.toNat_natCast, List.getD_eq_getElem?_getD, hx]
      rfl
theorem HAt.prog {I0 H0 I H : Hp} {h : Addr} {s : Vbdcar.State} (A : HAt I0 H0 h I H s) {i : Nat} (hi : (Vbdcar.prog? s i).isSome = true) : ∃ dx pl pz xs x, H h = some (.ins cHouse dx (houseF pl pz)) ∧ H pl = some (.lst xs) ∧ IL I pz s.prizes ∧ xs[i]? = some x ∧ ProgAt I x (Vbdcar.prog s (i : Int)) ∧ POk (Vbdcar.prog s (i : Int)) := by
  obtain ⟨dx, pl, pz, xs, h1, h2, h3, h4, h5, _⟩ := A.ex
  obtain ⟨p, k1, k2, k3⟩ := prog_some hi
  have hx : i < xs.length := by rw [h3, ← A.ok.len]; exact k3
  have := h4 i xs[i] (some p) (List.getElem?_eq_getElem hx) k1
  rw [k2]
  exact ⟨dx, pl, pz, xs, xs[i], h1, h2, h5, List.getElem?_eq_getElem hx, this, A.ok.ok i p k1⟩
section
variable {w : World} {K : PySem.W.Frag} {mg : Str → Option Value} {base : Heap}
abbrev n_call_bid : List Str := ["house", "program", "bids", "foes", "card", "cause", "steps"]
theorem sc_call_bid : FnScope n_call_bid ["house", "program", "bids", "foes"] (defScope s_call_bid) := ⟨rfl, rfl, rfl, by decide +kernel, rfl, by decide +kernel, by decide +kernel⟩
theorem d_call_bid (T : Tx w K mg)  : Def w K mg base 15 "call_bid" ["house", "program", "bids", "foes"] (Sp4 fun u v y z H Q _ => ∃ (I0 H0 : Hp) (h : Addr) (I : Hp) (s : Vbdcar.State) (p : Vbdcar.Prog) (b c : Addr) (bs fs : List Int), u = .ref h ∧ HAt I0 H0 h I H s ∧ ProgAt I v p ∧ PWF p ∧ y = .ref b ∧ z = .ref c ∧ IL H b bs ∧ IL H c fs ∧ BsOk s.prizes.length bs ∧ BsOk s.prizes.length fs ∧ bs.length < s.prizes.length ∧ RetC I0 H0 h Q s [(Vbdcar.bid p s.prizes bs fs).1, ((Vbdcar.bid p s.prizes bs fs).2.1 : Int), ((Vbdcar.bid p s.prizes bs fs).2.2 : Int)]) :=
  mkDef4 T f_call_bid rfl rfl sc_call_bid rfl (fun _ _ _ _ _ _ us hl => match us, hl with | [_, _, _, _], _ => rfl) fun u v y z cdv A outer s H Q E hr h =>
  ⟨_, (pss_cons (ps_asg (pe_c (d_bid_of T) hr pz (pa_cons (pv 1) (pa_cons (pe_fld (pv 0) rfl) (pa_cons (pv 2) (pa_cons (pv 3) pa_nil))))) (pg_tup rfl (pgs_cons (pg_name (i := 4) sc_call_bid.nd rfl (Or.inl rfl)) (pgs_cons (pg_name (i := 5) sc_call_bid.nd rfl (Or.inl rfl)) (pgs_cons (pg_name (i := 6) sc_call_bid.nd rfl (Or.inl rfl)) pgs_nil)))))
  (pss_one (ps_ret (pe_lst (pa_cons (pv 4) (pa_cons (pv 5) (pa_cons (pv 6) pa_nil))))))), by
  obtain ⟨I0, H0, h, I, s, p, b, c, bs, fs, rfl, A, hp, hw, rfl, rfl, hb, hc, h1, h2, hl, q⟩ := h
  obtain ⟨dx, pl, pz, xs, g1, g2, g3, g4, g5, _⟩ := A.ex
  have sI := A.ext.ih
  refine k_sasg ⟨_, rfl, _, rfl, h, _, dx, _, _, rfl, g1, T.c_House, T.n_House_prizes, rfl, _, rfl, _, rfl, _, _, _, _, rfl, I, p, pz, b, c, s.prizes, bs, fs, sI, hp, hw, rfl, rfl, rfl, sI _ _ g5, hb, hc, hl, (by have := A.ok.pz.1; omega), io_ok A.ok.pz h1 h2 hl, hand_ne hl, fun t I1 H1 e1 ht => ?_⟩
  refine ⟨t, _, rfl, .inl (.inl (e1.ih _ _ ht)), rfl, _, _, rfl, _, _, rfl, _, _, rfl, rfl, ?_⟩
  exact ⟨_, rfl, _, rfl, _, rfl, three_ok, fun a ha => q a _ _ (A.step (e1.new ha)) upd_same⟩⟩
abbrev n_call_play : List Str := ["house", "one", "other", "bids", "foes", "failed", "me", "foe", "pot"]
theorem sc_call_play : FnScope n_call_play ["house", "one", "other"] (defScope s_call_play) := ⟨rfl, rfl, rfl, by decide +kernel, rfl, by decide +kernel, by decide +kernel⟩
theorem d_call_play (T : Tx w K mg)  : Def w K mg base 17 "call_play" ["house", "one", "other"] (Sp3 fun u v y H Q _ => ∃ (I0 H0 : Hp) (h : Addr) (I : Hp) (s : Vbdcar.State) (p r : Vbdcar.Prog), u = .ref h ∧ HAt I0 H0 h I H s ∧ ProgAt I v p ∧ PWF p ∧ ProgAt I y r ∧ PWF r ∧ RetC I0 H0 h Q s ([(Vbdcar.final s.prizes (Vbdcar.play p r s.prizes)).me, (Vbdcar.final s.prizes (Vbdcar.play p r s.prizes)).foe, (Vbdcar.final s.prizes (Vbdcar.play p r s.prizes)).pot, ((Vbdcar.play p r s.prizes).failsA : Int), ((Vbdcar.play p r s.prizes).failsB : Int)] ++ ((Vbdcar.play p r s.prizes).a ++ (Vbdcar.play p r s.prizes).b))) :=
  mkDef3 T f_call_play rfl rfl sc_call_play rfl (fun _ _ _ _ _ _ us hl => match us, hl with | [_, _, _], _ => rfl) fun u v y cdv A outer s H Q E hr h =>
  ⟨_, (pss_cons (ps_asg (pe_c (d_match T) hr pz (pa_cons (pv 1) (pa_cons (pv 2) (pa_cons (pe_fld (pv 0) rfl) pa_nil)))) (pg_tup rfl (pgs_cons (pg_name (i := 3) sc_call_play.nd rfl (Or.inl rfl)) (pgs_cons (pg_name (i := 4) sc_call_play.nd rfl (Or.inl rfl)) (pgs_cons (pg_name (i := 5) sc_call_play.nd rfl (Or.inl rfl)) pgs_nil)))))
  (pss_cons (ps_asg (pe_c (d_scores T) hr pz (pa_cons (pe_fld (pv 0) rfl) (pa_cons (pv 3) (pa_cons (pv 4) pa_nil)))) (pg_tup rfl (pgs_cons (pg_name (i := 6) sc_call_play.nd rfl (Or.inl rfl)) (pgs_cons (pg_name (i := 7) sc_call_play.nd rfl (Or.inl rfl)) (pgs_cons (pg_name (i := 8) sc_call_play.nd rfl (Or.inl rfl)) pgs_nil)))))
  (pss_one (ps_ret (pe_op op_cat (pe_op op_cat (pe_op op_cat (pe_lst (pa_cons (pv 6) (pa_cons (pv 7) (pa_cons (pv 8) pa_nil)))) (pv 5)) (pv 3)) (pv 4)))))), by
  obtain ⟨I0, H0, h, I, s, p, r, rfl, A, hp, hw, hr', hwr, q⟩ := h
  obtain ⟨dx, pl, pz, xs, g1, g2, g3, g4, g5, _⟩ := A.ex
  have sI := A.ext.ih
  obtain ⟨l1, l2, _, _⟩ := playOn_ok (p := p) (q := r) A.ok.pz s.prizes.length (Nat.le_refl _)
  have hz := A.ok.pz.1
  refine k_sasg ⟨_, rfl, _, rfl, _, rfl, h, _, dx, _, _, rfl, g1, T.c_House, T.n_House_prizes, rfl, _, _, _, rfl, I, p, r, pz, s.prizes, sI, hp, hw, hr', hwr, rfl, sI _ _ g5, A.ok.pz, fun t b1 b2 b3 I1 H1 e1 ht k1 k2 k3 => ?_⟩
  refine ⟨t, _, rfl, .inl (.inl (e1.ih _ _ ht)), rfl, _, _, rfl, _, _, rfl, _, _, rfl, rfl, ?_⟩
  refine k_sasg ⟨_, rfl, h, _, dx, _, _, rfl, e1.hh _ _ g1, T.c_House, T.n_House_prizes, rfl, _, rfl, _, rfl, _, _, _, rfl, I1, pz, b1, b2, s.prizes, _, _, e1.ih, rfl, rfl, rfl, e1.si _ _ g5, e1.ih _ _ k1, e1.ih _ _ k2, fun t2 I2 H2 e2 ht2 => ?_⟩
  refine ⟨t2, _, rfl, .inl (.inl (e2.ih _ _ ht2)), rfl, _, _, rfl, _, _, rfl, _, _, rfl, rfl, ?_⟩
  refine ⟨_, rfl, _, rfl, _, rfl, three_ok, fun a1 ha1 => ?_⟩
  have x2 := (e1.trans e2).tmp (o := .lst [.int (Vbdcar.scoreOf {} s.prizes (Vbdcar.play p r s.prizes).a (Vbdcar.play p r s.prizes).b).me, .int (Vbdcar.scoreOf {} s.prizes (Vbdcar.play p r s.prizes).a (Vbdcar.play p r s.prizes).b).foe, .int (Vbdcar.scoreOf {} s.prizes (Vbdcar.play p r s.prizes).a (Vbdcar.play p r s.prizes).b).pot]) ha1
  have m1 := x2.ih _ _ (e2.ii _ _ k1)
  have m2 := x2.ih _ _ (e2.ii _ _ k2)
  have m3 := x2.ih _ _ (e2.ii _ _ k3)
  refine ⟨_, rfl, a1, b3, _, _, rfl, rfl, upd_same, m3, by rw [sizeLine_eq]; show 3 + 2 ≤ _; decide, fun a2 ha2 => ?_⟩
  have x3 := x2.tmp (o := .lst ([.int (Vbdcar.scoreOf {} s.prizes (Vbdcar.play p r s.prizes).a (Vbdcar.play p r s.prizes).b).me, .int (Vbdcar.scoreOf {} s.prizes (Vbdcar.play p r s.prizes).a (Vbdcar.play p r s.prizes).b).foe, .int (Vbdcar.scoreOf {} s.prizes (Vbdcar.play p r s.prizes).a (Vbdcar.play p r s.prizes).b).pot] ++ (fl2 (Vbdcar.play p r s.prizes)).map V.int)) ha2
  refine ⟨_, rfl, a2, b1, _, _, rfl, rfl, upd_same, x3.ih _ _ (e2.ii _ _ k1), ?_, fun a3 ha3 => ?_⟩
  · show 5 + ((Vbdcar.play p r s.prizes).a.map V.int).length ≤ _
    rw [List.length_map, show (Vbdcar.play p r s.prizes).a.length = s.prizes.length from l1, sizeLine_eq]; omega
  have x4 := x3.tmp (o := .lst ([.int (Vbdcar.scoreOf {} s.prizes (Vbdcar.play p r s.prizes).a (Vbdcar.play p r s.prizes).b).me, .int (Vbdcar.scoreOf {} s.prizes (Vbdcar.play p r s.prizes).a (Vbdcar.play p r s.prizes).b).foe, .int (Vbdcar.scoreOf {} s.prizes (Vbdcar.play p r s.prizes).a (Vbdcar.play p r s.prizes).b).pot] ++ (fl2 (Vbdcar.play p r s.prizes)).map V.int ++ (Vbdcar.play p r s.prizes).a.map V.int)) ha3
  refine ⟨_, rfl, a3, b2, _, _, rfl, rfl, upd_same, x4.ih _ _ (e2.ii _ _ k2), ?_, fun a4 ha4 => ?_⟩
  · rw [List.length_append]
    show 5 + ((Vbdcar.play p r s.prizes).a.map V.int).length + ((Vbdcar.play p r s.prizes).b.map V.int).length ≤ _
    rw [List.length_map, List.length_map, show (Vbdcar.play p r s.prizes).a.length = s.prizes.length from l1, show (Vbdcar.play p r s.prizes).b.length = s.prizes.length from l2, sizeLine_eq]; omega
  refine q a4 _ _ (A.step (x4.new ha4)) ?_
  rw [IL, upd_same, List.map_append, List.map_append, List.append_assoc]
  rfl⟩
abbrev n_call_best : List Str := ["house", "program", "margin", "cards"]
theorem sc_call_best : FnScope n_call_best ["house", "program"] (defScope s_call_best) := ⟨rfl, rfl, rfl, by decide +kernel, rfl, by decide +kernel, by decide +kernel⟩
theorem d_call_best (T : Tx w K mg)  : Def w K mg base 21 "call_best" ["house", "program"] (Sp2 fun u v H Q _ => ∃ (I0 H0 : Hp) (h : Addr) (I : Hp) (s : Vbdcar.State) (p : Vbdcar.Prog), u = .ref h ∧ HAt I0 H0 h I H s ∧ ProgAt I v p ∧ PWF p ∧ s.prizes.length ≤ 5 ∧ RetC I0 H0 h Q s ((Vbdcar.best p s.prizes).1 :: (Vbdcar.best p s.prizes).2)) :=
  mkDef2 T f_call_best rfl rfl sc_call_best rfl (fun _ _ _ _ _ _ us hl => match us, hl with | [_, _], _ => rfl) fun u v cdv A outer s H Q E hr h =>
  ⟨_, (pss_cons (ps_asg (pe_c (d_best_from T 6) hr pz (pa_cons (pv 1) (pa_cons (pe_fld (pv 0) rfl) (pa_cons (pe_lst pa_nil) (pa_cons (pe_lst pa_nil) pa_nil))))) (pg_tup rfl (pgs_cons (pg_name (i := 2) sc_call_best.nd rfl (Or.inl rfl)) (pgs_cons (pg_name (i := 3) sc_call_best.nd rfl (Or.inl rfl)) pgs_nil))))
  (pss_one (ps_ret (pe_op op_cat (pe_lst (pa_cons (pv 2) pa_nil)) (pv 3))))), by
  obtain ⟨I0, H0, h, I, s, p, rfl, A, hp, hw, h5, q⟩ := h
  obtain ⟨dx, pl, pz, xs, g1, g2, g3, g4, g5, _⟩ := A.ex
  have sI := A.ext.ih
  refine k_sasg ⟨_, rfl, _, rfl, h, _, dx, _, _, rfl, g1, T.c_House, T.n_House_prizes, rfl, by rw [sizeLine_eq]; exact Nat.zero_le _, fun b hb => ⟨by rw [sizeLine_eq]; exact Nat.zero_le _, fun c hc => ?_⟩⟩
  have e1 := ((Ext.refl sI).new (o := .lst []) hb).new (o := .lst []) hc
  have nbc : b ≠ c := ne_of_none upd_same hc
  have hbI : (L2.upd (L2.upd I b (.lst [])) c (.lst [])) b = some (.lst []) := by rw [upd_ne nbc]; exact upd_same
  refine ⟨_, _, _, _, rfl, _, p, pz, b, c, s.prizes, [], [], s.prizes.length, by omega, e1.ih, hp.mono e1.ii, hw, rfl, rfl, rfl, e1.si _ _ g5, hbI, upd_same, A.ok.pz, ⟨by decide, fun x hx => by simp at hx⟩, ⟨by decide, fun x hx => by simp at hx⟩, rfl, by simp, fun t l I2 H2 e2 ht hl => ?_⟩
  refine ⟨t, _, rfl, .inl (.inl (e2.ih _ _ ht)), rfl, _, _, rfl, _, _, rfl, rfl, ?_⟩
  refine ⟨_, rfl, one_le _, fun a1 ha1 => ?_⟩
  have x2 := (e1.trans e2).tmp (o := .lst [.int (Vbdcar.bestFrom p s.prizes s.prizes.length [] []).1]) ha1
  have hlen : (Vbdcar.bestFrom p s.prizes s.prizes.length [] []).2.length ≤ 100 := by
    have key : ∀ (n : Nat) (bs fs : List Int), (Vbdcar.bestFrom p s.prizes n bs fs).2.length ≤ n := by
      intro n
      induction n with
      | zero => intro bs fs; exact Nat.le_refl _
      | succ n ih =>
        intro bs fs
        rw [bestFrom_succ]
        have fold : ∀ (L : List Int) (o : Option (Int × List Int)), (∀ x, o = some x → x.2.length ≤ n + 1) → ∀ x, L.foldl (bestStep p s.prizes n bs fs (Vbdcar.bid p s.prizes fs bs).1) o = some x → x.2.length ≤ n + 1 := by
          intro L
          induction L with
          | nil => intro o ho x hx; exact ho x hx
          | cons c r ihL =>
            intro o ho x hx
            rw [List.foldl_cons] at hx
            refine ihL _ (fun y hy => ?_) x hx
            have hi := ih (bs ++ [c]) (fs ++ [(Vbdcar.bid p s.prizes fs bs).1])
            cases o with
            | none =>
              simp only [bestStep, Option.some.injEq] at hy
              rw [← hy]; simp; exact hi
            | some z =>
              simp only [bestStep] at hy
              split at hy
              · simp only [Option.some.injEq] at hy
                rw [← hy]; simp; exact hi
              · exact ho y hy
        cases hf : (Vbdcar.hand s.prizes.length bs).foldl (bestStep p s.prizes n bs fs (Vbdcar.bid p s.prizes fs bs).1) none with
        | none => exact Nat.zero_le _
        | some x => exact fold _ none (fun x hx => by cases hx) x hf
    have := key s.prizes.length [] []
    omega
  refine ⟨_, rfl, a1, l, _, _, rfl, rfl, upd_same, x2.ih _ _ hl, ?_, fun a2 ha2 => ?_⟩
  · rw [List.nil_append, List.length_map, sizeLine_eq]; simp; omega
  · refine q a2 _ _ (A.step (x2.new ha2)) ?_
    rw [IL, upd_same, List.nil_append]
    rfl⟩
abbrev n_call_fold : List Str := ["house", "place", "target", "program"]
theorem sc_call_fold : FnScope n_call_fold ["house", "place", "target"] (defScope s_call_fold) := ⟨rfl, rfl, rfl, by decide +kernel, rfl, by decide +kernel, by decide +kernel⟩
theorem d_call_fold (T : Tx w K mg)  : Def w K mg base 33 "call_fold" ["house", "place", "target"] (Sp3 fun u v y H Q _ => ∃ (I0 H0 : Hp) (h : Addr) (I : Hp) (s : Vbdcar.State) (i j : Nat), u = .ref h ∧ HAt I0 H0 h I H s ∧ v = .int (i : Nat) ∧ y = .int (j : Nat) ∧ (Vbdcar.prog? s i).isSome = true ∧ j < 8 ∧ RetC I0 H0 h Q { s with progs := s.progs.set j (some (Vbdcar.folded (Vbdcar.prog s (i : Int)))) } [((wAll (Vbdcar.folded (Vbdcar.prog s (i : Int))) : Nat) : Int)]) :=
  mkDef3 T f_call_fold rfl rfl sc_call_fold rfl (fun _ _ _ _ _ _ us hl => match us, hl with | [_, _, _], _ => rfl) fun u v y cdv A outer s H Q E hr h =>
  ⟨_, (pss_cons (ps_set (i := 3) sc_call_fold.nd rfl (Or.inl rfl) (pe_c (d_folded_program T) hr pz (pa_cons (pe_ix ix_list (pe_fld (pv 0) rfl) (pv 1) (fun _ _ => rfl)) pa_nil)))
  (pss_cons (ps_asg (pv 3) (pg_sub (pe_fld (pv 0) rfl) (pv 2) set_list))
  (pss_one (ps_ret (pe_lst (pa_cons (pe_c (d_count_all T) hr pz (pa_cons (pv 3) pa_nil)) pa_nil)))))), by
  obtain ⟨I0, H0, h, I, s, i, j, rfl, A, rfl, rfl, hi, hj, q⟩ := h
  obtain ⟨dx, pl, pz, xs, x, g1, g2, g3, g4, g5, g6⟩ := A.prog hi
  have sI := A.ext.ih
  obtain ⟨hdp, hfk⟩ := pwf_deep g6.1
  refine k_sset ⟨_, rfl, h, _, dx, _, _, rfl, g1, T.c_House, T.n_House_places, rfl, _, rfl, pl, _, _, _, rfl, rfl, .inl (.inl g2), atI_nat g4, _, rfl, I, _, sI, g5, hdp, hfk, fun u' I1 H1 e1 hu' => ?_⟩
  have A1 := A.step e1
  have hok := pok_folded g6
  obtain ⟨dx1, pl1, pz1, xs1, k1, k2, k3, _⟩ := A1.ex
  have A2 := A1.put k1 k2 hj (o := some (Vbdcar.folded (Vbdcar.prog s (i : Int)))) hu' (fun p' e => by cases e; exact hok)
  refine ⟨_, rfl, _, rfl, h, _, dx1, _, _, rfl, k1, T.c_House, T.n_House_places, rfl, _, rfl, pl1, _, _, j, rfl, rfl, k2, ix8 k3 hj, ?_⟩
  refine ⟨_, rfl, _, rfl, _, hu'.mono A2.ext.ih, (pwf_deep hok.1).1, fun H' s' => ⟨one_le _, fun d hdn => ?_⟩⟩
  have e3 : Ext I1 (L2.upd H1 pl1 (.lst (xs1.set j u'))) I1 H' := Ext.all A2.ext.ih s'
  exact q d _ _ (A2.step (e3.new hdn)) upd_same⟩
end
end Bd


end
/-! ## BdCallsC -/
section
namespace Bd
open PySem PySem.Spec PyProof.Rows
open L2
abbrev mgn (s : Vbdcar.State) (i j : Nat) : Int := Vbdcar.margin s.prizes (Vbdcar.play (Vbdcar.prog s (i : Int)) (Vbdcar.prog s (j : Int)) s.prizes)
/-- points and margins after these others -/
def stand (s : Vbdcar.State) (i : Nat) (l : List Nat) : Int × Int := ((l.filter fun j => j != i).map (mgn s i)).foldl (fun a m => (a.1 + Vbdcar.points m, a.2 + m)) (0, 0)
theorem stand_all (s : Vbdcar.State) (i : Nat) : Vbdcar.standing s i = stand s i (Vbdcar.loaded s) := rfl
theorem stand_snoc (s : Vbdcar.State) (i : Nat) (l : List Nat) (j : Nat) : stand s i (l ++ [j]) = if j = i then stand s i l else ((stand s i l).1 + Vbdcar.points (mgn s i j), (stand s i l).2 + mgn s i j) := by
  unfold stand
  rw [List.filter_append, List.map_append, List.foldl_append]
  by_cases h : j = i
  · rw [if_pos h]; simp [h]
  · rw [if_neg h]; simp [h]
theorem take_snoc {α : Type} {l : List α} {i : Nat} {x : α} (h : l[i]? = some x) : l.take (i + 1) = l.take i ++ [x] := by rw [List.take_add_one, h]; rfl
theorem ints_get {l : List Nat} {i : Nat} {x : V} (h : ((Vbdcar.ints l).map V.int)[i]? = some x) : ∃ j : Nat, l[i]? = some j ∧ x = .int (j : Int) := by
  unfold Vbdcar.ints at h
  rw [List.getElem?_map, List.getElem?_map] at h
  cases hj : l[i]? with
  | none => rw [hj] at h; cases h
  | some j => rw [hj] at h; cases h; exact ⟨j, rfl, rfl⟩
theorem loaded_mem {s : Vbdcar.State} {j : Nat} (h : j ∈ Vbdcar.loaded s) : j < 8 ∧ (Vbdcar.prog? s j).isSome = true := by
  unfold Vbdcar.loaded at h
  rw [List.mem_filter, List.mem_range] at h
  exact h
theorem loaded_len (s : Vbdcar.State) : (Vbdcar.loaded s).length ≤ 8 := by
  unfold Vbdcar.loaded
  exact Nat.le_trans (List.length_filter_le ..) (by simp)
theorem ints_len (l : List Nat) : ((Vbdcar.ints l).map V.int).length = l.length := by simp [Vbdcar.ints]
section
variable {w : World} {K : PySem.W.Frag} {mg : Str → Option Value} {base : Heap}
abbrev n_league_row : List Str := ["house", "place", "points", "margins", "other", "margin"]
theorem sc_league_row : FnScope n_league_row ["house", "place"] (defScope s_league_row) := ⟨rfl, rfl, rfl, by decide +kernel, rfl, by decide +kernel, by decide +kernel⟩
theorem d_league_row (T : Tx w K mg)  : Def w K mg base 18 "league_row" ["house", "place"] (Sp2 fun u v H Q _ => ∃ (I0 H0 : Hp) (h : Addr) (I : Hp) (s : Vbdcar.State) (i : Nat), u = .ref h ∧ HAt I0 H0 h I H s ∧ v = .int (i : Nat) ∧ (Vbdcar.prog? s i).isSome = true ∧ RetI I H Q [(i : Int), (Vbdcar.standing s i).1, (Vbdcar.standing s i).2]) :=
  mkDef2 T f_league_row rfl rfl sc_league_row rfl (fun _ _ _ _ _ _ us hl => match us, hl with | [_, _], _ => rfl) fun u v cdv A outer s H Q E hr h =>
  ⟨_, (pss_cons (ps_set (i := 2) sc_league_row.nd rfl (Or.inl rfl) pe_int)
  (pss_cons (ps_set (i := 3) sc_league_row.nd rfl (Or.inl rfl) pe_int)
  (pss_cons (ps_for (passes_of rfl) rfl (pi_list (pe_c (d_full_places T) hr pz (pa_cons (pv 0) pa_nil))) (pg_name (i := 4) sc_league_row.nd rfl (Or.inl rfl)) (pss_one (ps_if (pt_cmpR op_ne (pv 4) (pv 1) (nomark _)) (pss_cons (ps_set (i := 5) sc_league_row.nd rfl (Or.inl rfl) (pe_c (d_match_margin T) hr pz (pa_cons (pe_ix ix_list (pe_fld (pv 0) rfl) (pv 1) (fun _ _ => rfl)) (pa_cons (pe_ix ix_list (pe_fld (pv 0) rfl) (pv 4) (fun _ _ => rfl)) (pa_cons (pe_fld (pv 0) rfl) pa_nil)))))
  (pss_cons (ps_set (i := 2) sc_league_row.nd rfl (Or.inl rfl) (pe_op op_add (pv 2) (pe_c (d_points_for T) hr pz (pa_cons (pv 5) pa_nil))))
  (pss_one (ps_set (i := 3) sc_league_row.nd rfl (Or.inl rfl) (pe_op op_add (pv 3) (pv 5)))))) pss_nil)))
  (pss_one (ps_ret (pe_lst (pa_cons (pv 1) (pa_cons (pv 2) (pa_cons (pv 3) pa_nil))))))))), by
  obtain ⟨I0, H0, h, I, s, i, rfl, A, rfl, hi, q⟩ := h
  refine ⟨_, rfl, _, rfl, I0, H0, h, I, s, rfl, A, fun a I1 H1 e1 ha => ⟨a, rfl, ⟨_, .inl (.inl (e1.ih _ _ ha))⟩, ?_⟩⟩
  have A1 := A.step e1
  refine for_list (xs := (Vbdcar.ints (Vbdcar.loaded s)).map V.int) (fun n σ H' => ∃ o4 o5, Ext I1 H1 I1 H' ∧ σ = [some (.ref h), some (.int (i : Nat)), some (.int (stand s i ((Vbdcar.loaded s).take n)).1), some (.int (stand s i ((Vbdcar.loaded s).take n)).2), o4, o5])
    ⟨_, _, Ext.refl A1.ext.ih, rfl⟩ (fun n σ H' _ ⟨_, _, e2, _⟩ => .inl (.inl (e2.ih _ _ ha))) (fun n x σ H2 hn ⟨o4, o5, e2, es⟩ => ?_) fun σ H2 ⟨o4, o5, e2, es⟩ => ?_
  · subst es
    obtain ⟨j, hj, rfl⟩ := ints_get hn
    have hm := loaded_mem (List.mem_of_getElem? hj)
    have A2 := A1.step e2
    refine ⟨_, rfl, _, rfl, rfl, _, rfl, ?_⟩
    rw [dI, take_snoc hj, stand_snoc]
    by_cases hji : j = i
    · rw [if_pos hji, decide_eq_true (by omega)]
      exact ⟨_, _, e2, rfl⟩
    · rw [if_neg hji, decide_eq_false (by omega)]
      obtain ⟨dx, pl, pz, xs, x, g1, g2, g3, g4, g5, g6⟩ := A2.prog hi
      obtain ⟨dx', pl', pz', xs', x', g1', g2', g3', g4', g5', g6'⟩ := A2.prog hm.2
      rw [g1] at g1'
      cases g1'
      rw [g2] at g2'
      cases g2'
      refine ⟨_, rfl, h, _, dx, _, _, rfl, g1, T.c_House, T.n_House_places, rfl, _, rfl, pl, _, _, _, rfl, rfl, .inl (.inl g2), atI_nat g4,
        _, rfl, h, _, dx, _, _, rfl, g1, T.c_House, T.n_House_places, rfl, _, rfl, pl, _, _, _, rfl, rfl, .inl (.inl g2), atI_nat g4',
        _, rfl, h, _, dx, _, _, rfl, g1, T.c_House, T.n_House_prizes, rfl, _, _, _, rfl, I1, _, _, pz, s.prizes, e2.ih, g5, g6.1, g5', g6'.1, rfl, e2.ih _ _ g3, A.ok.pz, fun H3 s3 => ?_⟩
      refine ⟨_, rfl, _, rfl, _, rfl, mgn s i j, rfl, _, _, rfl, rfl, _, rfl, _, rfl, _, _, rfl, rfl, _, _, e2.trans (Ext.all e2.ih s3), rfl⟩
  · subst es
    rw [ints_len, List.take_length, ← stand_all]
    exact ⟨_, rfl, _, rfl, _, rfl, three_ok, fun d hd => retI_list (e1.trans e2) q d hd⟩⟩
abbrev n_call_league : List Str := ["house", "told", "place"]
theorem sc_call_league : FnScope n_call_league ["house"] (defScope s_call_league) := ⟨rfl, rfl, rfl, by decide +kernel, rfl, by decide +kernel, by decide +kernel⟩
theorem d_call_league (T : Tx w K mg)  : Def w K mg base 19 "call_league" ["house"] (Sp1 fun u H Q _ => ∃ (I0 H0 : Hp) (h : Addr) (I : Hp) (s : Vbdcar.State), u = .ref h ∧ HAt I0 H0 h I H s ∧ RetI I H Q ((Vbdcar.loaded s).flatMap fun (i : Nat) => [(i : Int), (Vbdcar.standing s i).1, (Vbdcar.standing s i).2])) :=
  mkDef1 T f_call_league rfl rfl sc_call_league rfl (fun _ _ _ _ _ _ us hl => match us, hl with | [_], _ => rfl) fun u cdv A outer s H Q E hr h =>
  ⟨_, (pss_cons (ps_set (i := 1) sc_call_league.nd rfl (Or.inl rfl) (pe_lst pa_nil))
  (pss_cons (ps_for (passes_of rfl) rfl (pi_list (pe_c (d_full_places T) hr pz (pa_cons (pv 0) pa_nil))) (pg_name (i := 2) sc_call_league.nd rfl (Or.inl rfl)) (pss_one (ps_set (i := 1) sc_call_league.nd rfl (Or.inl rfl) (pe_op op_cat (pv 1) (pe_c (d_league_row T) hr pz (pa_cons (pv 0) (pa_cons (pv 2) pa_nil)))))))
  (pss_one (ps_ret (pv 1))))), by
  obtain ⟨I0, H0, h, I, s, rfl, A, q⟩ := h
  refine k_sset ⟨by rw [sizeLine_eq]; exact Nat.zero_le _, fun D0 hD0 => ?_⟩
  have e0 := (Ext.refl A.ext.ih).new (o := .lst []) hD0
  refine ⟨_, rfl, _, rfl, I0, H0, h, _, s, rfl, A.step e0, fun a I1 H1 e1 ha => ⟨a, rfl, ⟨_, .inl (.inl (e1.ih _ _ ha))⟩, ?_⟩⟩
  have hlen : ∀ n, n ≤ 8 → ((Vbdcar.loaded s).take n).length ≤ 8 := fun n _ => by rw [List.length_take]; have := loaded_len s; omega
  have flen : ∀ l : List Nat, (l.flatMap fun (i : Nat) => [(i : Int), (Vbdcar.standing s i).1, (Vbdcar.standing s i).2]).length = 3 * l.length := by
    intro l
    induction l with
    | nil => rfl
    | cons x r ih => rw [List.flatMap_cons, List.length_append, ih]; simp; omega
  refine for_list (xs := (Vbdcar.ints (Vbdcar.loaded s)).map V.int) (fun n σ H' => ∃ I' D o2, Ext I H I' H' ∧ IL I' a (Vbdcar.ints (Vbdcar.loaded s)) ∧ IL I' D (((Vbdcar.loaded s).take n).flatMap fun (i : Nat) => [(i : Int), (Vbdcar.standing s i).1, (Vbdcar.standing s i).2]) ∧ σ = [some (.ref h), some (.ref D), o2])
    ⟨I1, D0, _, e0.trans e1, ha, e1.ii _ _ upd_same, rfl⟩ (fun n σ H' _ ⟨_, _, _, e2, ha2, _⟩ => .inl (.inl (e2.ih _ _ ha2))) (fun n x σ H2 hn ⟨I2, D, o2, e2, ha2, hl, es⟩ => ?_) fun σ H2 ⟨I2, D, o2, e2, ha2, hl, es⟩ => ?_
  · subst es
    obtain ⟨j, hj, rfl⟩ := ints_get hn
    have hm := loaded_mem (List.mem_of_getElem? hj)
    have hn8 : n < (Vbdcar.loaded s).length := (List.getElem?_eq_some_iff.mp hj).1
    have := loaded_len s
    refine ⟨_, rfl, _, rfl, _, rfl, _, _, rfl, I0, H0, h, I2, s, j, rfl, A.step e2, rfl, hm.2, fun b I3 H3 e3 hb => ?_⟩
    have e23 := e2.trans e3
    refine ⟨D, b, _, _, rfl, rfl, e3.si _ _ hl, e3.ih _ _ hb, ?_, fun p3 hp3 => ?_⟩
    · rw [List.length_map, List.length_map, flen, List.length_take, sizeLine_eq]; simp; omega
    · refine ⟨_, p3, _, e23.new hp3, (Same.new (e23.ih.free hp3) _ _ (e3.ii _ _ ha2)), ?_, rfl⟩
      rw [IL, upd_same, take_snoc hj, List.flatMap_append, List.map_append]
      rfl
  · subst es
    rw [ints_len, List.take_length] at hl
    exact ⟨_, rfl, q D _ _ e2 hl⟩⟩
end
end Bd


end
/-! ## BdWorkC -/
section
namespace Bd
open PySem PySem.Spec PyProof.Rows
open L2
/-! ## what no refusal says -/
theorem ref0 {s : Vbdcar.State} {n : Nat} {w : List Int} {r : List (List Int)} (h : refP s n w r = 0) :
    withinB 0 7 w = true ∧ listsB n r = true ∧ (neededL n w).any (noneAt s) = false ∧ ¬ (n = 4 ∧ bidsB r s.prizes.length = false) ∧ ¬ (n = 6 ∧ 5 < s.prizes.length) := by
  unfold refP at h
  split at h
  · exact absurd h (by decide)
  · rename_i h1
    split at h
    · exact absurd h (by decide)
    · rename_i h2
      split at h
      · exact absurd h (by decide)
      · split at h
        · exact absurd h (by decide)
        · rename_i h4
          split at h
          · exact absurd h (by decide)
          · rename_i h5
            have h1' : (withinB 0 7 w && listsB n r) = true := by cases hx : (withinB 0 7 w && listsB n r) with
              | true => rfl
              | false => exact absurd hx h1
            rw [Bool.and_eq_true] at h1'
            exact ⟨h1'.1, h1'.2, by cases hx : (neededL n w).any (noneAt s) with
              | false => rfl
              | true => exact absurd hx h2, h4, h5⟩
theorem within_mem {lo hi : Int} {l : List Int} (h : withinB lo hi l = true) : ∀ x, x ∈ l → lo ≤ x ∧ x ≤ hi := by
  intro x hx
  have := List.all_eq_true.mp h x hx
  rw [Bool.and_eq_true, decide_eq_true_eq, decide_eq_true_eq] at this
  exact this
theorem slot_nat {w : List Int} (h : withinB 0 7 w = true) {x : Int} (hx : x ∈ w) : ∃ k : Nat, x = (k : Int) ∧ k < 8 := by
  have := within_mem h x hx
  exact ⟨x.toNat, by omega, by omega⟩
theorem some_at {s : Vbdcar.State} {l : List Int} (h : l.any (noneAt s) = false) {k : Nat} (hk : (k : Int) ∈ l) : (Vbdcar.prog? s k).isSome = true := by
  have := List.any_eq_false.mp h _ hk
  unfold noneAt at this
  rw [Int.toNat_natCast] at this
  cases hx : Vbdcar.prog? s k with
  | none => rw [hx] at this; exact absurd rfl this
  | some p => rfl
theorem bytes_back {t : List Int} (h : withinB 0 255 t = true) : iB (t.map Int.toNat) = t := by
  have hm := within_mem h
  unfold iB
  rw [List.map_map]
  have : ∀ l : List Int, (∀ x, x ∈ l → 0 ≤ x ∧ x ≤ 255) → l.map ((fun n : Nat => (n : Int)) ∘ Int.toNat) = l := by
    intro l
    induction l with
    | nil => intro _; rfl
    | cons a r ih =>
      intro hl
      have ha := hl a (List.mem_cons_self ..)
      rw [List.map_cons, ih fun x hx => hl x (List.mem_cons_of_mem _ hx)]
      congr 1
      show ((a.toNat : Nat) : Int) = a
      omega
  exact this t hm
theorem bs_of {l : List Int} {n : Nat} (h : cardsB l n = true) (hl : l.length < n) (hn : n ≤ 13) : BsOk n l := by
  unfold cardsB at h
  rw [Bool.and_eq_true] at h
  exact ⟨by omega, within_mem h.1⟩
def RowsAt (H : Hp) (xs : List V) (rs : List (List Int)) : Prop := xs.length = rs.length ∧ ∀ (i : Nat) x r, xs[i]? = some x → rs[i]? = some r → ∃ a, x = .ref a ∧ IL H a r
theorem RowsAt.at {H : Hp} {xs : List V} {rs : List (List Int)} (R : RowsAt H xs rs) {i : Nat} {r : List Int} (h : rs[i]? = some r) : ∃ a, xs[i]? = some (.ref a) ∧ IL H a r := by
  have hi : i < xs.length := by rw [R.1]; exact (List.getElem?_eq_some_iff.mp h).1
  obtain ⟨a, e, hl⟩ := R.2 i xs[i] r (List.getElem?_eq_getElem hi) h
  exact ⟨a, by rw [List.getElem?_eq_getElem hi, e], hl⟩
theorem RowsAt.mono {H H' : Hp} {xs : List V} {rs : List (List Int)} (s : Same H H') (R : RowsAt H xs rs) : RowsAt H' xs rs := ⟨R.1, fun i x r h1 h2 => let ⟨a, e, hl⟩ := R.2 i x r h1 h2; ⟨a, e, s _ _ hl⟩⟩
theorem retC_I {I0 H0 I H : Hp} {h : Addr} {s : Vbdcar.State} {Q : VK} {l : List Int} (A : HAt I0 H0 h I H s) (q : RetC I0 H0 h Q s l) : RetI I H Q l := fun a I' H' e ha => q a I' H' (A.step e) ha
section
variable {w : World} {K : PySem.W.Frag} {mg : Str → Option Value} {base : Heap}
abbrev sp_work : Sp := Sp4 fun u v y z H Q _ => ∃ (I0 H0 : Hp) (h : Addr) (I : Hp) (s : Vbdcar.State) (c : Vbdcar.Call) (wa ra : Addr) (rs : List V), u = .ref h ∧ HAt I0 H0 h I H s ∧ v = .int (callNo c : Nat) ∧ y = .ref wa ∧ IL H wa (wholeOf c) ∧ z = .ref ra ∧ H ra = some (.lst rs) ∧ RowsAt H rs (rowsOf c) ∧ refP s (callNo c) (wholeOf c) (rowsOf c) = 0 ∧ (workP s c).2.length ≤ 16000000 ∧ RetC I0 H0 h Q (workP s c).1 (workP s c).2
abbrev n_work : List Str := ["house", "call", "whole", "rows"]
theorem sc_work : FnScope n_work ["house", "call", "whole", "rows"] (defScope s_work) := ⟨rfl, rfl, rfl, by decide +kernel, rfl, by decide +kernel, by decide +kernel⟩
theorem d_work (T : Tx w K mg)  : Def w K mg base 92 "work" ["house", "call", "whole", "rows"] (sp_work) :=
  mkDef4 T f_work rfl rfl sc_work rfl (fun _ _ _ _ _ _ us hl => match us, hl with | [_, _, _, _], _ => rfl) fun u v y z cdv A outer s H Q E hr h =>
  ⟨_, (pss_cons (ps_if (pt_cmpR op_eq (pv 1) pe_int (nomark _)) (pss_one (ps_ret (pe_c (d_call_load T) hr pz (pa_cons (pv 0) (pa_cons (pe_ix ix_list (pv 2) pe_int (fun _ _ => rfl)) (pa_cons (pe_ix ix_list (pv 3) pe_int (fun _ _ => rfl)) pa_nil)))))) pss_nil)
  (pss_cons (ps_if (pt_cmpR op_eq (pv 1) pe_int (nomark _)) (pss_one (ps_ret (pe_c (d_program_bytes T) hr pz (pa_cons (pe_ix ix_list (pe_fld (pv 0) rfl) (pe_ix ix_list (pv 2) pe_int (fun _ _ => rfl)) (fun _ _ => rfl)) pa_nil)))) pss_nil)
  (pss_cons (ps_if (pt_cmpR op_eq (pv 1) pe_int (nomark _)) (pss_one (ps_ret (pe_c (d_call_size T) hr pz (pa_cons (pe_ix ix_list (pe_fld (pv 0) rfl) (pe_ix ix_list (pv 2) pe_int (fun _ _ => rfl)) (fun _ _ => rfl)) pa_nil)))) pss_nil)
  (pss_cons (ps_if (pt_cmpR op_eq (pv 1) pe_int (nomark _)) (pss_one (ps_ret (pe_c (d_call_prizes T) hr pz (pa_cons (pv 0) (pa_cons (pe_ix ix_list (pv 3) pe_int (fun _ _ => rfl)) pa_nil))))) pss_nil)
  (pss_cons (ps_if (pt_cmpR op_eq (pv 1) pe_int (nomark _)) (pss_one (ps_ret (pe_c (d_call_bid T) hr pz (pa_cons (pv 0) (pa_cons (pe_ix ix_list (pe_fld (pv 0) rfl) (pe_ix ix_list (pv 2) pe_int (fun _ _ => rfl)) (fun _ _ => rfl)) (pa_cons (pe_ix ix_list (pv 3) pe_int (fun _ _ => rfl)) (pa_cons (pe_ix ix_list (pv 3) pe_int (fun _ _ => rfl)) pa_nil))))))) pss_nil)
  (pss_cons (ps_if (pt_cmpR op_eq (pv 1) pe_int (nomark _)) (pss_one (ps_ret (pe_c (d_call_play T) hr pz (pa_cons (pv 0) (pa_cons (pe_ix ix_list (pe_fld (pv 0) rfl) (pe_ix ix_list (pv 2) pe_int (fun _ _ => rfl)) (fun _ _ => rfl)) (pa_cons (pe_ix ix_list (pe_fld (pv 0) rfl) (pe_ix ix_list (pv 2) pe_int (fun _ _ => rfl)) (fun _ _ => rfl)) pa_nil)))))) pss_nil)
  (pss_cons (ps_if (pt_cmpR op_eq (pv 1) pe_int (nomark _)) (pss_one (ps_ret (pe_c (d_call_best T) hr pz (pa_cons (pv 0) (pa_cons (pe_ix ix_list (pe_fld (pv 0) rfl) (pe_ix ix_list (pv 2) pe_int (fun _ _ => rfl)) (fun _ _ => rfl)) pa_nil))))) pss_nil)
  (pss_cons (ps_if (pt_cmpR op_eq (pv 1) pe_int (nomark _)) (pss_one (ps_ret (pe_c (d_call_league T) hr pz (pa_cons (pv 0) pa_nil)))) pss_nil)
  (pss_cons (ps_if (pt_cmpR op_eq (pv 1) pe_int (nomark _)) (pss_one (ps_ret (pe_c (d_call_fold T) hr pz (pa_cons (pv 0) (pa_cons (pe_ix ix_list (pv 2) pe_int (fun _ _ => rfl)) (pa_cons (pe_ix ix_list (pv 2) pe_int (fun _ _ => rfl)) pa_nil)))))) pss_nil)
  (pss_cons (ps_if (pt_cmpR op_eq (pv 1) pe_int (nomark _)) (pss_one (ps_ret (pe_c (d_call_drop T) hr pz (pa_cons (pv 0) (pa_cons (pe_ix ix_list (pv 2) pe_int (fun _ _ => rfl)) pa_nil))))) pss_nil)
  (pss_one (ps_ret (pe_c (d_full_places T) hr pz (pa_cons (pv 0) pa_nil)))))))))))))), by
  obtain ⟨I0, H0, h, I, s, c, wa, ra, rs, rfl, A, hv, rfl, hw, rfl, hra, hrs, h0, hlen, q⟩ := h
  obtain ⟨r1, r2, r3, r4, r5⟩ := ref0 h0
  obtain ⟨dx, pl, pz, xs, g1, g2, g3, g4, g5, _⟩ := A.ex
  have sI := A.ext.ih
  cases c with
  | load i t =>
    have hv : v = .int 0 := hv
    subst hv
    refine k_sifN ⟨_, rfl, rfl, _, rfl, ?_⟩
    rw [dI, decide_eq_true (by decide)]
    refine iteT ?_
    obtain ⟨k, rfl, hk⟩ := slot_nat r1 (x := i) (by simp [wholeOf])
    have r2 : (decide (t.length ≤ 4000) && withinB 0 255 t) = true := r2
    rw [Bool.and_eq_true, decide_eq_true_eq] at r2
    obtain ⟨a0, k0, l0⟩ := hrs.at (i := 0) (r := t) rfl
    have q : RetC I0 H0 h Q (workP s (.load (k : Int) t)).1 (workP s (.load (k : Int) t)).2 := q
    refine ⟨_, rfl, _, rfl, wa, _, _, _, rfl, rfl, .inl (.inl hw), atI_nat (j := 0) rfl, _, rfl, ra, _, _, _, rfl, rfl, .inl (.inl hra), atI_nat (j := 0) k0, _, _, _, rfl, I0, H0, h, I, s, k, a0, t.map Int.toNat, rfl, A, rfl, hk, rfl, (by rw [bytes_back r2.2]; exact l0), by rw [List.length_map]; exact r2.1, ?_⟩
    unfold workP at q
    dsimp only at q
    cases hr : Vbdcar.read (t.map Int.toNat) with
    | error w =>
      rw [hr] at q
      exact q
    | ok p =>
      rw [hr] at q
      dsimp only at q ⊢
      split
      · rename_i h4; rw [if_pos h4] at q; exact q
      · rename_i h4; rw [if_neg h4] at q; exact q
  | show_ i =>
    have hv : v = .int 1 := hv
    subst hv
    iterate 1 (refine k_sifN ⟨_, rfl, rfl, _, rfl, ?_⟩; rw [dI, decide_eq_false (by decide)]; refine iteF ?_)
    refine k_sifN ⟨_, rfl, rfl, _, rfl, ?_⟩
    rw [dI, decide_eq_true (by decide)]
    refine iteT ?_
    obtain ⟨k, rfl, hk⟩ := slot_nat r1 (x := i) (by simp [wholeOf])
    obtain ⟨dx, pl, pz, xs, x, g1, g2, g3, g4, g5, g6⟩ := A.prog (i := k) (some_at r3 (by simp [neededL, wholeOf, callNo]))
    obtain ⟨hdp, hfk⟩ := pwf_deep g6.1
    refine ⟨_, rfl, h, _, dx, _, _, rfl, g1, T.c_House, T.n_House_places, rfl, _, rfl, wa, _, _, _, rfl, rfl, .inl (.inl hw), atI_nat (j := 0) rfl, pl, _, _, _, rfl, rfl, .inl (.inl g2), atI_nat g4, _, rfl, I, _, sI, g5, hdp, hfk, g6.2, ?_, retC_I A q⟩
    have : (workP s (.show_ (k : Int))).2.length = (Vbdcar.shownProg (Vbdcar.prog s (k : Int))).length := by simp [workP, Vbdcar.ints]
    omega
  | size i =>
    have hv : v = .int 2 := hv
    subst hv
    iterate 2 (refine k_sifN ⟨_, rfl, rfl, _, rfl, ?_⟩; rw [dI, decide_eq_false (by decide)]; refine iteF ?_)
    refine k_sifN ⟨_, rfl, rfl, _, rfl, ?_⟩
    rw [dI, decide_eq_true (by decide)]
    refine iteT ?_
    obtain ⟨k, rfl, hk⟩ := slot_nat r1 (x := i) (by simp [wholeOf])
    obtain ⟨dx, pl, pz, xs, x, g1, g2, g3, g4, g5, g6⟩ := A.prog (i := k) (some_at r3 (by simp [neededL, wholeOf, callNo]))
    obtain ⟨hdp, hfk⟩ := pwf_deep g6.1
    exact ⟨_, rfl, h, _, dx, _, _, rfl, g1, T.c_House, T.n_House_places, rfl, _, rfl, wa, _, _, _, rfl, rfl, .inl (.inl hw), atI_nat (j := 0) rfl, pl, _, _, _, rfl, rfl, .inl (.inl g2), atI_nat g4, _, rfl, I, _, sI, g5, hdp, retC_I A q⟩
  | prizes l =>
    have hv : v = .int 3 := hv
    subst hv
    iterate 3 (refine k_sifN ⟨_, rfl, rfl, _, rfl, ?_⟩; rw [dI, decide_eq_false (by decide)]; refine iteF ?_)
    refine k_sifN ⟨_, rfl, rfl, _, rfl, ?_⟩
    rw [dI, decide_eq_true (by decide)]
    refine iteT ?_
    obtain ⟨a0, k0, l0⟩ := hrs.at (i := 0) (r := l) rfl
    have r2 : ((decide (1 ≤ l.length) && decide (l.length ≤ 13)) && withinB 1 1000000000 l) = true := r2
    rw [Bool.and_eq_true, Bool.and_eq_true, decide_eq_true_eq, decide_eq_true_eq] at r2
    exact ⟨_, rfl, _, rfl, ra, _, _, _, rfl, rfl, .inl (.inl hra), atI_nat (j := 0) k0, _, _, rfl, I0, H0, h, I, s, a0, l, rfl, A, rfl, l0, ⟨r2.1.2, within_mem r2.2⟩, q⟩
  | bid i a b =>
    have hv : v = .int 4 := hv
    subst hv
    iterate 4 (refine k_sifN ⟨_, rfl, rfl, _, rfl, ?_⟩; rw [dI, decide_eq_false (by decide)]; refine iteF ?_)
    refine k_sifN ⟨_, rfl, rfl, _, rfl, ?_⟩
    rw [dI, decide_eq_true (by decide)]
    refine iteT ?_
    obtain ⟨k, rfl, hk⟩ := slot_nat r1 (x := i) (by simp [wholeOf])
    obtain ⟨dx, pl, pz, xs, x, g1, g2, g3, g4, g5, g6⟩ := A.prog (i := k) (some_at r3 (by simp [neededL, wholeOf, callNo]))
    obtain ⟨a0, k0, l0⟩ := hrs.at (i := 0) (r := a) rfl
    obtain ⟨a1, k1, l1⟩ := hrs.at (i := 1) (r := b) rfl
    have r4 : bidsB [a, b] s.prizes.length = true := by
      cases hx : bidsB [a, b] s.prizes.length with
      | true => rfl
      | false => exact absurd ⟨rfl, hx⟩ r4
    have r4 : (decide (a.length = b.length) && (decide (a.length < s.prizes.length) && (cardsB a s.prizes.length && cardsB b s.prizes.length))) = true := r4
    rw [Bool.and_eq_true, Bool.and_eq_true, Bool.and_eq_true, decide_eq_true_eq, decide_eq_true_eq] at r4
    obtain ⟨e1, e2, e3, e4⟩ := r4
    have hz := A.ok.pz.1
    exact ⟨_, rfl, _, rfl, h, _, dx, _, _, rfl, g1, T.c_House, T.n_House_places, rfl, _, rfl, wa, _, _, _, rfl, rfl, .inl (.inl hw), atI_nat (j := 0) rfl, pl, _, _, _, rfl, rfl, .inl (.inl g2), atI_nat g4,
      _, rfl, ra, _, _, _, rfl, rfl, .inl (.inl hra), atI_nat (j := 0) k0, _, rfl, ra, _, _, _, rfl, rfl, .inl (.inl hra), atI_nat (j := 1) k1, _, _, _, _, rfl, I0, H0, h, I, s, _, a0, a1, a, b, rfl, A, g5, g6.1, rfl, rfl, l0, l1, bs_of e3 e2 hz, bs_of e4 (by omega) hz, e2, q⟩
  | play i j =>
    have hv : v = .int 5 := hv
    subst hv
    iterate 5 (refine k_sifN ⟨_, rfl, rfl, _, rfl, ?_⟩; rw [dI, decide_eq_false (by decide)]; refine iteF ?_)
    refine k_sifN ⟨_, rfl, rfl, _, rfl, ?_⟩
    rw [dI, decide_eq_true (by decide)]
    refine iteT ?_
    obtain ⟨k, rfl, hk⟩ := slot_nat r1 (x := i) (by simp [wholeOf])
    obtain ⟨m, rfl, hm⟩ := slot_nat r1 (x := j) (by simp [wholeOf])
    obtain ⟨dx, pl, pz, xs, x, g1, g2, g3, g4, g5, g6⟩ := A.prog (i := k) (some_at r3 (by simp [neededL, wholeOf, callNo]))
    obtain ⟨dx', pl', pz', xs', x', g1', g2', g3', g4', g5', g6'⟩ := A.prog (i := m) (some_at r3 (by simp [neededL, wholeOf, callNo]))
    rw [g1] at g1'
    cases g1'
    rw [g2] at g2'
    cases g2'
    exact ⟨_, rfl, _, rfl, h, _, dx, _, _, rfl, g1, T.c_House, T.n_House_places, rfl, _, rfl, wa, _, _, _, rfl, rfl, .inl (.inl hw), atI_nat (j := 0) rfl, pl, _, _, _, rfl, rfl, .inl (.inl g2), atI_nat g4,
      _, rfl, h, _, dx, _, _, rfl, g1, T.c_House, T.n_House_places, rfl, _, rfl, wa, _, _, _, rfl, rfl, .inl (.inl hw), atI_nat (j := 1) rfl, pl, _, _, _, rfl, rfl, .inl (.inl g2), atI_nat g4', _, _, _, rfl, I0, H0, h, I, s, _, _, rfl, A, g5, g6.1, g5', g6'.1, q⟩
  | best i =>
    have hv : v = .int 6 := hv
    subst hv
    iterate 6 (refine k_sifN ⟨_, rfl, rfl, _, rfl, ?_⟩; rw [dI, decide_eq_false (by decide)]; refine iteF ?_)
    refine k_sifN ⟨_, rfl, rfl, _, rfl, ?_⟩
    rw [dI, decide_eq_true (by decide)]
    refine iteT ?_
    obtain ⟨k, rfl, hk⟩ := slot_nat r1 (x := i) (by simp [wholeOf])
    obtain ⟨dx, pl, pz, xs, x, g1, g2, g3, g4, g5, g6⟩ := A.prog (i := k) (some_at r3 (by simp [neededL, wholeOf, callNo]))
    have r5 : s.prizes.length ≤ 5 := by
      by_cases hx : 5 < s.prizes.length
      · exact absurd ⟨rfl, hx⟩ r5
      · omega
    exact ⟨_, rfl, _, rfl, h, _, dx, _, _, rfl, g1, T.c_House, T.n_House_places, rfl, _, rfl, wa, _, _, _, rfl, rfl, .inl (.inl hw), atI_nat (j := 0) rfl, pl, _, _, _, rfl, rfl, .inl (.inl g2), atI_nat g4, _, _, rfl, I0, H0, h, I, s, _, rfl, A, g5, g6.1, r5, q⟩
  | league =>
    have hv : v = .int 7 := hv
    subst hv
    iterate 7 (refine k_sifN ⟨_, rfl, rfl, _, rfl, ?_⟩; rw [dI, decide_eq_false (by decide)]; refine iteF ?_)
    refine k_sifN ⟨_, rfl, rfl, _, rfl, ?_⟩
    rw [dI, decide_eq_true (by decide)]
    refine iteT ?_
    exact ⟨_, rfl, _, rfl, I0, H0, h, I, s, rfl, A, retC_I A q⟩
  | fold i j =>
    have hv : v = .int 8 := hv
    subst hv
    iterate 8 (refine k_sifN ⟨_, rfl, rfl, _, rfl, ?_⟩; rw [dI, decide_eq_false (by decide)]; refine iteF ?_)
    refine k_sifN ⟨_, rfl, rfl, _, rfl, ?_⟩
    rw [dI, decide_eq_true (by decide)]
    refine iteT ?_
    obtain ⟨k, rfl, hk⟩ := slot_nat r1 (x := i) (by simp [wholeOf])
    obtain ⟨m, rfl, hm⟩ := slot_nat r1 (x := j) (by simp [wholeOf])
    have hs : (Vbdcar.prog? s k).isSome = true := some_at r3 (by simp [neededL, wholeOf, callNo])
    exact ⟨_, rfl, _, rfl, wa, _, _, _, rfl, rfl, .inl (.inl hw), atI_nat (j := 0) rfl, _, rfl, wa, _, _, _, rfl, rfl, .inl (.inl hw), atI_nat (j := 1) rfl, _, _, _, rfl, I0, H0, h, I, s, k, m, rfl, A, rfl, rfl, hs, hm, q⟩
  | drop i =>
    have hv : v = .int 9 := hv
    subst hv
    iterate 9 (refine k_sifN ⟨_, rfl, rfl, _, rfl, ?_⟩; rw [dI, decide_eq_false (by decide)]; refine iteF ?_)
    refine k_sifN ⟨_, rfl, rfl, _, rfl, ?_⟩
    rw [dI, decide_eq_true (by decide)]
    refine iteT ?_
    obtain ⟨k, rfl, hk⟩ := slot_nat r1 (x := i) (by simp [wholeOf])
    exact ⟨_, rfl, _, rfl, wa, _, _, _, rfl, rfl, .inl (.inl hw), atI_nat (j := 0) rfl, _, _, rfl, I0, H0, h, I, s, k, rfl, A, rfl, hk, q⟩
  | full =>
    have hv : v = .int 10 := hv
    subst hv
    iterate 10 (refine k_sifN ⟨_, rfl, rfl, _, rfl, ?_⟩; rw [dI, decide_eq_false (by decide)]; refine iteF ?_)
    exact ⟨_, rfl, _, rfl, I0, H0, h, I, s, rfl, A, retC_I A q⟩⟩
end
end Bd


end
/-! ## BdSetL -/
section
namespace Bd
open PySem PySem.Spec PyProof.Rows
open L2
/-! ## len(set(x)), x a list of ints -/
/-- the items without those that have been met -/
abbrev metOf (ns : List Int) : List Int := firstMet (fun i => ns.getD i 0) ns.length
def tLenSet (K : PySem.W.Frag) (ta : TE) : TE := fun σ H Q => ta σ H fun x H1 => ∃ (l : Addr) (ns : List Int), x = .ref l ∧ SqL K H1 l (ns.map V.int) ∧ ns.length ≤ 4000 ∧ Q (.int ((metOf ns).length : Nat)) H1
section
variable {X : Cx}
theorem pe_lenset (T : Tx X.w X.K X.mg) {a : Expr} {ta : TE} {p p2 q pos : Pos} (ha : PE X a ta) (hc : X.calm = true := by rfl) (hg : Gl X "len" := by rfl) (hg2 : Gl X "set" := by rfl)
    (na : starEach [a] X.env = (false, eval a X.env) :: starEach [] X.env := by rfl) : PE X (.Call (.Name "len" p) [.Call (.Name "set" p2) [a] [] q] [] pos) (tLenSet X.K ta) := by
  refine ⟨fun pins s σ H Q I h => ?_⟩
  refine Call_ (ld_blt I hg T.fr_len boot_len ?_)
  refine PyProof.Rows.callWith_builtin1 (PyProof.Rows.args_cons ?_ rfl) rfl rfl
  refine Call_ (ld_blt I hg2 T.fr_set boot_set ?_)
  refine PyProof.Rows.callWith_type1 (PyProof.Rows.args_cons (thn (ha.run pins s σ H _ I h) fun v s1 ⟨x, H1, I1, r1, q1⟩ => PyProof.Rows.args_nil ?_) na) na rfl
  obtain ⟨l, ns, rfl, hq, hl, q1⟩ := q1
  cases r1
  obtain ⟨its, r, pl, hz⟩ := I1.list hq
  have hlen : its.toArray.size = ns.length := by rw [List.size_toArray, ← r.length, List.length_map]
  refine call_set_list (I1.ok.hd hc) pl.isList (by simpa using RZ.intsAre_vals r) (by rw [hlen]; unfold scanBound; omega) fun h' tk hS hk => ?_
  refine PyProof.Rows.args_nil ?_
  rw [hlen] at hS
  obtain ⟨o, es, ep, t, ho, hex, hd, _, _, _, hf, hn⟩ := hS
  have hle := firstMet_length_le (fun i => ns.getD i 0) ns.length
  have I2 : Inv X pins σ H1 { s1 with heap := h', toks := tk } := I1.kept fun b o e => hk b o (Heap.lt_size e) e
  exact call_len_set ho hex hd hf (by rw [hn] <;> omega) ⟨.int ((metOf ns).length : Nat), H1, I2.tok _, ⟨_, by rw [hn]⟩, q1⟩
end
theorem met_mem (ns : List Int) (i : Nat) (k : Int) : (firstMet (fun i => ns.getD i 0) i).any (· == k) = ((List.range i).map fun i => ns.getD i 0).any (· == k) := firstMet_any _ i k
theorem take_range (ns : List Int) : ∀ i, i ≤ ns.length → (List.range i).map (fun i => ns.getD i 0) = ns.take i
  | 0, _ => rfl
  | i + 1, h => by
    rw [List.range_succ, List.map_append, take_range ns i (by omega), List.take_add_one, List.getElem?_eq_getElem (show i < ns.length by omega)]
    simp [List.getD_eq_getElem?_getD, show i < ns.length from h]
/-- as long as the list itself just if nothing stands twice -/
theorem met_len (ns : List Int) : ∀ i, i ≤ ns.length → ((firstMet (fun i => ns.getD i 0) i).length = i ↔ (ns.take i).Nodup)
  | 0, _ => by simp [firstMet_zero]
  | i + 1, h => by
    have ih := met_len ns i (by omega)
    have hle := firstMet_length_le (fun i => ns.getD i 0) i
    have hm := met_mem ns i (ns.getD i 0)
    rw [take_range ns i (by omega)] at hm
    have ht : ns.take (i + 1) = ns.take i ++ [ns.getD i 0] := by rw [List.take_add_one, List.getElem?_eq_getElem (show i < ns.length by omega)]; simp [List.getD_eq_getElem?_getD, show i < ns.length from h]
    have hn : (ns.take i ++ [ns.getD i 0]).Nodup ↔ (ns.take i).Nodup ∧ ns.getD i 0 ∉ ns.take i := by
      rw [List.nodup_append]
      constructor
      · rintro ⟨a, _, b⟩
        exact ⟨a, fun z => b _ z _ (List.mem_singleton.mpr rfl) rfl⟩
      · rintro ⟨a, b⟩
        exact ⟨a, by simp, fun x hx y hy e => b (by rw [List.mem_singleton] at hy; rw [← hy, ← e]; exact hx)⟩
    have hx : ((ns.take i).any (· == ns.getD i 0) = true) ↔ ns.getD i 0 ∈ ns.take i := by
      rw [List.any_eq_true]
      exact ⟨fun ⟨x, a, b⟩ => by rw [← beq_iff_eq.mp b]; exact a, fun z => ⟨_, z, beq_self_eq_true _⟩⟩
    rw [ht, hn, firstMet_succ]
    unfold step_dedup
    rw [hm]
    by_cases hc : (ns.take i).any (· == ns.getD i 0) = true
    · rw [if_pos hc]
      exact ⟨fun z => absurd z (by omega), fun z => absurd (hx.mp hc) z.2⟩
    · rw [if_neg hc]
      simp only [List.length_append, List.length_singleton]
      exact ⟨fun z => ⟨ih.mp (by omega), fun y => hc (hx.mpr y)⟩, fun z => by have := ih.mpr z.1; omega⟩
theorem unlike_nodup : ∀ l : List Int, Vbdcar.unlike l = decide l.Nodup
  | [] => by simp [Vbdcar.unlike]
  | a :: r => by
    rw [Vbdcar.unlike, unlike_nodup r, Bool.eq_iff_iff]
    simp [List.nodup_cons]
theorem met_unlike (ns : List Int) : decide ((((metOf ns).length : Nat) : Int) = (ns.length : Nat)) = Vbdcar.unlike ns := by
  rw [unlike_nodup]
  have := met_len ns ns.length (Nat.le_refl _)
  rw [List.take_length] at this
  rw [decide_eq_decide, ← this]
  exact Int.ofNat_inj
end Bd

end
/-! ## BdCheck -/
section
namespace Bd
open PySem PySem.Spec PyProof.Rows
open L2
section
variable {w : World} {K : PySem.W.Frag} {mg : Str → Option Value} {base : Heap}
abbrev sp_within : Sp := Sp3 fun u v y H Q _ => ∃ (a : Addr) (l : List Int) (lo hi : Int), u = .ref a ∧ v = .int lo ∧ y = .int hi ∧ IL H a l ∧ l.length ≤ 4010 ∧ ∀ H', Same H H' → Q (.bl (withinB lo hi l)) H'
abbrev n_are_within : List Str := ["row", "least", "greatest", "number"]
theorem sc_are_within : FnScope n_are_within ["row", "least", "greatest"] (defScope s_are_within) := ⟨rfl, rfl, rfl, by decide +kernel, rfl, by decide +kernel, by decide +kernel⟩
theorem d_are_within (T : Tx w K mg)  : Def w K mg base 1 "are_within" ["row", "least", "greatest"] (sp_within) :=
  mkDef3 T f_are_within rfl rfl sc_are_within rfl (fun _ _ _ _ _ _ us hl => match us, hl with | [_, _, _], _ => rfl) fun u v y cdv A outer s H Q E hr h =>
  ⟨_, (pss_one (ps_ret (pe_callB (cr_all rfl) (by rfl) T.fr_all (by decide +kernel) (pa_cons (pe_lc (own := [("number", 3)]) (g := gName 3) (tt := tYes) rfl sc_are_within.nd (pi_list (pv 0)) (blkOk_by (N := n_are_within) (sc := defScope s_are_within) (by decide +kernel)) (fun _ _ _ _ _ => (pg_name (i := 3) sc_are_within.nd rfl (Or.inl rfl))) (fun _ _ _ _ _ => pts_nil) (fun _ _ _ _ _ => by exact (pe_chain op_le op_le (pv 1) (pv 3) (pv 2)))) pa_nil)))), by
  obtain ⟨a, l, lo, hi, rfl, rfl, rfl, ha, hl4, q⟩ := h
  have hm : (l.map V.int).length = l.length := List.length_map _
  refine k_ret (k_cb (k_cons (k_lcR (I := H) (xs := l.map V.int) (val_var rfl) (fun i y _ => ∃ c, l[i]? = some c ∧ y = .bl (decide (lo ≤ c) && decide (c ≤ hi))) (.refl H) (.inl (.inl ha)) (fun _ => rfl) (fun _ _ _ _ _ h => h) (by omega) (fun i x I2 H2 Q' hx e2 k => ?_) fun D ys I' H' e2 iD hD h1 hl r => ?_)))
  · rw [List.getElem?_map] at hx
    cases hc : l[i]? with
    | none => rw [hc] at hx; cases hx
    | some c =>
      rw [hc] at hx
      cases hx
      refine ⟨_, rfl, _, rfl, _, _, rfl, rfl, _, rfl, ?_⟩
      have kk := k (.bl (decide (lo ≤ c) && decide (c ≤ hi))) I2 H2 (Ext.refl e2.ih) ⟨c, hc, rfl⟩
      by_cases h1 : lo ≤ c
      · rw [decide_eq_true h1]
        rw [decide_eq_true h1] at kk
        exact iteT ⟨_, rfl, _, _, rfl, rfl, kk⟩
      · rw [decide_eq_false h1]
        rw [decide_eq_false h1] at kk
        exact iteF kk
  · have hy := list_of (hl.trans hm) r
    subst hy
    exact ⟨_, l.map fun c => decide (lo ≤ c) && decide (c ≤ hi), rfl, .inl (.inl (e2.ih _ _ (by rw [h1, List.map_map]; rfl))), by rw [List.all_map]; exact q H' e2.hh⟩⟩
abbrev sp_lists : Sp := Sp2 fun u v H Q _ => ∃ (c : Vbdcar.Call) (ra : Addr) (rs : List V), u = .int (callNo c : Nat) ∧ v = .ref ra ∧ H ra = some (.lst rs) ∧ RowsAt H rs (rowsOf c) ∧ (∀ r, r ∈ rowsOf c → r.length ≤ 4010) ∧ ∀ H', Same H H' → Q (.bl (listsB (callNo c) (rowsOf c))) H'
theorem lists3 (c : Vbdcar.Call) (n : Nat) (hn : callNo c = n) (h0 : n ≠ 0) (h3 : n ≠ 3) (h4 : n ≠ 4) : listsB (callNo c) (rowsOf c) = true := by
  rw [hn, listsB, if_neg h0, if_neg h3, if_neg h4]
abbrev n_lists_fit : List Str := ["call", "rows"]
theorem sc_lists_fit : FnScope n_lists_fit ["call", "rows"] (defScope s_lists_fit) := ⟨rfl, rfl, rfl, by decide +kernel, rfl, by decide +kernel, by decide +kernel⟩
theorem d_lists_fit (T : Tx w K mg)  : Def w K mg base 2 "lists_fit" ["call", "rows"] (sp_lists) :=
  mkDef2 T f_lists_fit rfl rfl sc_lists_fit rfl (fun _ _ _ _ _ _ us hl => match us, hl with | [_, _], _ => rfl) fun u v cdv A outer s H Q E hr h =>
  ⟨_, (pss_cons (ps_if (pt_cmpR op_eq (pv 0) (pe_gi T.k_LOAD) (nomark _)) (pss_one (ps_ret (pe_and (pe_cmpR op_le (pe_callB call_len_seq (by rfl) T.fr_len (by decide +kernel) (pa_cons (pe_ix ix_list (pv 1) pe_int (fun _ _ => rfl)) pa_nil)) pe_int (nomark _)) (pe_one (pe_c (d_are_within T) hr pz (pa_cons (pe_ix ix_list (pv 1) pe_int (fun _ _ => rfl)) (pa_cons pe_int (pa_cons pe_int pa_nil)))))))) pss_nil)
  (pss_cons (ps_if (pt_cmpR op_eq (pv 0) (pe_gi T.k_PRIZES) (nomark _)) (pss_one (ps_ret (pe_and (pe_chain op_le op_le pe_int (pe_callB call_len_seq (by rfl) T.fr_len (by decide +kernel) (pa_cons (pe_ix ix_list (pv 1) pe_int (fun _ _ => rfl)) pa_nil)) pe_int) (pe_one (pe_c (d_are_within T) hr pz (pa_cons (pe_ix ix_list (pv 1) pe_int (fun _ _ => rfl)) (pa_cons pe_int (pa_cons pe_int pa_nil)))))))) pss_nil)
  (pss_cons (ps_if (pt_cmpR op_eq (pv 0) (pe_gi T.k_BID) (nomark _)) (pss_one (ps_ret (pe_and (pe_c (d_are_within T) hr pz (pa_cons (pe_ix ix_list (pv 1) pe_int (fun _ _ => rfl)) (pa_cons pe_int (pa_cons pe_int pa_nil)))) (pe_one (pe_c (d_are_within T) hr pz (pa_cons (pe_ix ix_list (pv 1) pe_int (fun _ _ => rfl)) (pa_cons pe_int (pa_cons pe_int pa_nil)))))))) pss_nil)
  (pss_one (ps_ret pe_bl))))), by
  obtain ⟨c, ra, rs, rfl, rfl, hra, hrs, hl, q⟩ := h
  refine k_sifN ⟨_, rfl, rfl, _, rfl, ?_⟩
  rw [dI]
  by_cases h0 : callNo c = 0
  · rw [decide_eq_true (by rw [h0]; rfl)]
    refine iteT ?_
    cases c with
    | load i t =>
      obtain ⟨a0, k0, l0⟩ := hrs.at (i := 0) (r := t) rfl
      have hm : (t.map V.int).length = t.length := List.length_map _
      have ht := hl t (by simp [rowsOf])
      have q : ∀ H', Same H H' → Q (.bl (decide (t.length ≤ 4000) && withinB 0 255 t)) H' := q
      refine ⟨_, rfl, ra, _, _, _, rfl, rfl, .inl (.inl hra), atI_nat (j := 0) k0, a0, _, rfl, .inl (.inl (.inl l0)), _, _, rfl, rfl, _, rfl, ?_⟩
      rw [hm]
      by_cases h4 : t.length ≤ 4000
      · rw [decide_eq_true (by omega)]
        rw [decide_eq_true h4] at q
        exact iteT ⟨_, rfl, ra, _, _, _, rfl, rfl, .inl (.inl hra), atI_nat (j := 0) k0, _, _, _, rfl, a0, t, 0, 255, rfl, rfl, rfl, l0, ht, q⟩
      · rw [decide_eq_false (by omega)]
        rw [decide_eq_false h4] at q
        exact iteF (q H (.refl H))
    | _ => exact absurd h0 (by simp [callNo])
  rw [decide_eq_false (by omega)]
  refine iteF (k_sifN ⟨_, rfl, rfl, _, rfl, ?_⟩)
  rw [dI]
  by_cases h3 : callNo c = 3
  · rw [decide_eq_true (by rw [h3]; rfl)]
    refine iteT ?_
    cases c with
    | prizes t =>
      obtain ⟨a0, k0, l0⟩ := hrs.at (i := 0) (r := t) rfl
      have hm : (t.map V.int).length = t.length := List.length_map _
      have ht := hl t (by simp [rowsOf])
      have q : ∀ H', Same H H' → Q (.bl ((decide (1 ≤ t.length) && decide (t.length ≤ 13)) && withinB 1 1000000000 t)) H' := q
      refine ⟨_, rfl, ra, _, _, _, rfl, rfl, .inl (.inl hra), atI_nat (j := 0) k0, a0, _, rfl, .inl (.inl (.inl l0)), _, _, rfl, rfl, _, rfl, ?_⟩
      rw [hm]
      by_cases h1 : 1 ≤ t.length
      · rw [decide_eq_true (by omega)]
        rw [decide_eq_true h1] at q
        refine iteT ⟨_, _, rfl, rfl, _, rfl, ?_⟩
        by_cases h13 : t.length ≤ 13
        · rw [decide_eq_true (by omega)]
          rw [decide_eq_true h13] at q
          exact iteT ⟨_, rfl, ra, _, _, _, rfl, rfl, .inl (.inl hra), atI_nat (j := 0) k0, _, _, _, rfl, a0, t, 1, 1000000000, rfl, rfl, rfl, l0, ht, q⟩
        · rw [decide_eq_false (by omega)]
          rw [decide_eq_false h13] at q
          exact iteF (q H (.refl H))
      · rw [decide_eq_false (by omega)]
        rw [decide_eq_false h1] at q
        exact iteF ⟨_, rfl, iteF (q H (.refl H))⟩
    | _ => exact absurd h3 (by simp [callNo])
  rw [decide_eq_false (by omega)]
  refine iteF (k_sifN ⟨_, rfl, rfl, _, rfl, ?_⟩)
  rw [dI]
  by_cases h4 : callNo c = 4
  · rw [decide_eq_true (by rw [h4]; rfl)]
    refine iteT ?_
    cases c with
    | bid i a b =>
      obtain ⟨a0, k0, l0⟩ := hrs.at (i := 0) (r := a) rfl
      obtain ⟨a1, k1, l1⟩ := hrs.at (i := 1) (r := b) rfl
      have hta := hl a (by simp [rowsOf])
      have htb := hl b (by simp [rowsOf])
      have q : ∀ H', Same H H' → Q (.bl (withinB 0 13 a && withinB 0 13 b)) H' := q
      refine ⟨_, rfl, ra, _, _, _, rfl, rfl, .inl (.inl hra), atI_nat (j := 0) k0, _, _, _, rfl, a0, a, 0, 13, rfl, rfl, rfl, l0, hta, fun H1 s1 => ⟨_, rfl, ?_⟩⟩
      cases hw : withinB 0 13 a with
      | true =>
        rw [hw] at q
        exact iteT ⟨_, rfl, ra, _, _, _, rfl, rfl, .inl (.inl (s1 _ _ hra)), atI_nat (j := 1) k1, _, _, _, rfl, a1, b, 0, 13, rfl, rfl, rfl, s1 _ _ l1, htb, fun H2 s2 => q H2 (s1.trans s2)⟩
      | false =>
        rw [hw] at q
        exact iteF (q H1 s1)
    | _ => exact absurd h4 (by simp [callNo])
  rw [decide_eq_false (by omega)]
  have := q H (.refl H)
  rw [lists3 c _ rfl h0 h3 h4] at this
  exact iteF this⟩
abbrev n_needed_places : List Str := ["call", "whole"]
theorem sc_needed_places : FnScope n_needed_places ["call", "whole"] (defScope s_needed_places) := ⟨rfl, rfl, rfl, by decide +kernel, rfl, by decide +kernel, by decide +kernel⟩
theorem d_needed_places (T : Tx w K mg)  : Def w K mg base 1 "needed_places" ["call", "whole"] (Sp2 fun u v H Q _ => ∃ (I : Hp) (n : Nat) (a : Addr) (l : List Int), Same I H ∧ u = .int (n : Nat) ∧ v = .ref a ∧ IL H a l ∧ l.length ≤ 2 ∧ ∀ b I' H', Ext I H I' H' → IL H' b (neededL n l) → Q (.ref b) H') :=
  mkDef2 T f_needed_places rfl rfl sc_needed_places rfl (fun _ _ _ _ _ _ us hl => match us, hl with | [_, _], _ => rfl) fun u v cdv A outer s H Q E hr h =>
  ⟨_, (pss_cons (ps_if (pt_cmpR op_eq (pv 0) (pe_gi T.k_LOAD) (nomark _)) (pss_one (ps_ret (pe_lst pa_nil))) pss_nil)
  (pss_cons (ps_if (pt_cmpR op_eq (pv 0) (pe_gi T.k_FOLD) (nomark _)) (pss_one (ps_ret (pe_slice sl_list (pv 1) po_none (po_some pe_int)))) pss_nil)
  (pss_one (ps_ret (pv 1))))), by
  obtain ⟨I, n, a, l, sI, rfl, rfl, ha, hl, q⟩ := h
  refine k_sifN ⟨_, rfl, rfl, _, rfl, ?_⟩
  rw [dI]
  by_cases h0 : n = 0
  · rw [decide_eq_true (by omega)]
    have hx : neededL n l = [] := by rw [neededL, if_pos h0]
    rw [hx] at q
    exact iteT ⟨by rw [sizeLine_eq]; exact Nat.zero_le _, fun p hp => q p _ _ ((Ext.refl sI).tmp hp) upd_same⟩
  rw [decide_eq_false (by omega)]
  refine iteF (k_sifN ⟨_, rfl, rfl, _, rfl, ?_⟩)
  rw [dI]
  by_cases h8 : n = 8
  · rw [decide_eq_true (by omega)]
    have hx : neededL n l = l.take 1 := by rw [neededL, if_neg h0, if_pos h8]
    rw [hx] at q
    refine iteT ⟨_, rfl, _, rfl, a, _, rfl, .inl (.inl ha), fun p hp => q p _ _ ((Ext.refl sI).tmp hp) ?_⟩
    rw [IL, upd_same]
    have : ∀ l : List Int, cutV (l.map V.int) none (some 1) = (l.take 1).map V.int := fun l => by
      cases l with
      | nil => rfl
      | cons a r => exact cutTake (xs := (a :: r).map V.int) (n := 1) (by simp)
    exact congrArg (fun z => some (HO.lst z)) (this l)
  rw [decide_eq_false (by omega)]
  have hx : neededL n l = l := by rw [neededL, if_neg h0, if_neg h8]
  rw [hx] at q
  exact iteF ⟨_, rfl, q a _ _ (Ext.refl sI) ha⟩⟩
abbrev sp_cards : Sp := Sp2 fun u v H Q _ => ∃ (a : Addr) (l : List Int) (n : Nat), u = .ref a ∧ v = .int (n : Nat) ∧ IL H a l ∧ l.length ≤ 13 ∧ ∀ H', Same H H' → Q (.bl (cardsB l n)) H'
abbrev n_are_cards : List Str := ["bids", "count"]
theorem sc_are_cards : FnScope n_are_cards ["bids", "count"] (defScope s_are_cards) := ⟨rfl, rfl, rfl, by decide +kernel, rfl, by decide +kernel, by decide +kernel⟩
theorem d_are_cards (T : Tx w K mg)  : Def w K mg base 2 "are_cards" ["bids", "count"] (sp_cards) :=
  mkDef2 T f_are_cards rfl rfl sc_are_cards rfl (fun _ _ _ _ _ _ us hl => match us, hl with | [_, _], _ => rfl) fun u v cdv A outer s H Q E hr h =>
  ⟨_, (pss_one (ps_ret (pe_and (pe_c (d_are_within T) hr pz (pa_cons (pv 0) (pa_cons pe_int (pa_cons (pv 1) pa_nil)))) (pe_one (pe_cmpR op_eq (pe_lenset T (pv 0)) (pe_callB call_len_seq (by rfl) T.fr_len (by decide +kernel) (pa_cons (pv 0) pa_nil)) (nomark _)))))), by
  obtain ⟨a, l, n, rfl, rfl, ha, hl, q⟩ := h
  refine ⟨_, rfl, _, rfl, _, _, _, rfl, a, l, 1, n, rfl, rfl, rfl, ha, by omega, fun H1 s1 => ⟨_, rfl, ?_⟩⟩
  have q1 := q H1 s1
  unfold cardsB at q1
  have ha1 := s1 _ _ ha
  cases hw : withinB 1 n l with
  | true =>
    rw [hw] at q1
    refine iteT ⟨_, rfl, a, l, rfl, .inl (.inl ha1), by omega, _, rfl, a, _, rfl, .inl (.inl (.inl ha1)), rfl, ?_⟩
    rw [dI, List.length_map, met_unlike]
    exact q1
  | false =>
    rw [hw] at q1
    exact iteF q1⟩
abbrev sp_bids : Sp := Sp2 fun u v H Q _ => ∃ (ra : Addr) (rs : List V) (a b : List Int) (n : Nat), u = .ref ra ∧ v = .int (n : Nat) ∧ H ra = some (.lst rs) ∧ RowsAt H rs [a, b] ∧ n ≤ 13 ∧ ∀ H', Same H H' → Q (.bl (bidsB [a, b] n)) H'
abbrev n_bids_fit : List Str := ["rows", "count", "bids", "foes"]
theorem sc_bids_fit : FnScope n_bids_fit ["rows", "count"] (defScope s_bids_fit) := ⟨rfl, rfl, rfl, by decide +kernel, rfl, by decide +kernel, by decide +kernel⟩
theorem d_bids_fit (T : Tx w K mg)  : Def w K mg base 3 "bids_fit" ["rows", "count"] (sp_bids) :=
  mkDef2 T f_bids_fit rfl rfl sc_bids_fit rfl (fun _ _ _ _ _ _ us hl => match us, hl with | [_, _], _ => rfl) fun u v cdv A outer s H Q E hr h =>
  ⟨_, (pss_cons (ps_asg (pv 0) (pg_unl rfl (pgs_cons (pg_name (i := 2) sc_bids_fit.nd rfl (Or.inl rfl)) (pgs_cons (pg_name (i := 3) sc_bids_fit.nd rfl (Or.inl rfl)) pgs_nil))))
  (pss_one (ps_ret (pe_and (pe_cmpR op_eq (pe_callB call_len_seq (by rfl) T.fr_len (by decide +kernel) (pa_cons (pv 2) pa_nil)) (pe_callB call_len_seq (by rfl) T.fr_len (by decide +kernel) (pa_cons (pv 3) pa_nil)) (nomark _)) (pe_and (pe_cmpR op_lt (pe_callB call_len_seq (by rfl) T.fr_len (by decide +kernel) (pa_cons (pv 2) pa_nil)) (pv 1) (nomark _)) (pe_and (pe_c (d_are_cards T) hr pz (pa_cons (pv 2) (pa_cons (pv 1) pa_nil))) (pe_one (pe_c (d_are_cards T) hr pz (pa_cons (pv 3) (pa_cons (pv 1) pa_nil)))))))))), by
  obtain ⟨ra, rs, a, b, n, rfl, rfl, hra, hrs, hn, q⟩ := h
  obtain ⟨a0, k0, l0⟩ := hrs.at (i := 0) (r := a) rfl
  obtain ⟨a1, k1, l1⟩ := hrs.at (i := 1) (r := b) rfl
  have hrl : rs = [.ref a0, .ref a1] := by
    have hl : rs.length = 2 := hrs.1
    match rs, hl, k0, k1 with
    | [x, y], _, k0, k1 => cases k0; cases k1; rfl
  subst hrl
  have q : ∀ H', Same H H' → Q (.bl (decide (a.length = b.length) && (decide (a.length < n) && (cardsB a n && cardsB b n)))) H' := q
  have hma : (a.map V.int).length = a.length := List.length_map _
  have hmb : (b.map V.int).length = b.length := List.length_map _
  refine ⟨_, rfl, ra, _, rfl, .inl (.inl hra), rfl, _, _, rfl, _, _, rfl, rfl, ?_⟩
  refine ⟨_, rfl, a0, _, rfl, .inl (.inl (.inl l0)), _, rfl, a1, _, rfl, .inl (.inl (.inl l1)), rfl, _, rfl, ?_⟩
  rw [dI, hma, hmb]
  by_cases h1 : a.length = b.length
  · rw [decide_eq_true (by omega)]
    rw [decide_eq_true h1] at q
    refine iteT ⟨_, rfl, a0, _, rfl, .inl (.inl (.inl l0)), _, rfl, _, _, rfl, rfl, _, rfl, ?_⟩
    rw [hma]
    by_cases h2 : a.length < n
    · rw [decide_eq_true (by omega)]
      rw [decide_eq_true h2] at q
      refine iteT ⟨_, rfl, _, rfl, _, _, rfl, a0, a, n, rfl, rfl, l0, by omega, fun H1 s1 => ⟨_, rfl, ?_⟩⟩
      cases hc : cardsB a n with
      | true =>
        rw [hc] at q
        exact iteT ⟨_, rfl, _, rfl, _, _, rfl, a1, b, n, rfl, rfl, s1 _ _ l1, by omega, fun H2 s2 => q H2 (s1.trans s2)⟩
      | false =>
        rw [hc] at q
        exact iteF (q H1 s1)
    · rw [decide_eq_false (by omega)]
      rw [decide_eq_false h2] at q
      exact iteF (q H (.refl H))
  · rw [decide_eq_false (by omega)]
    rw [decide_eq_false h1] at q
    exact iteF (q H (.refl H))⟩
end
end Bd


end
/-! ## BdRefuse -/
section
namespace Bd
open PySem PySem.Spec PyProof.Rows
open L2
theorem needed_in {n : Nat} {l : List Int} {x : Int} (h : x ∈ neededL n l) : x ∈ l := by
  unfold neededL at h
  split at h
  · simp at h
  · split at h
    · exact List.mem_of_mem_take h
    · exact h
theorem needed_len (n : Nat) (l : List Int) : (neededL n l).length ≤ l.length := by
  unfold neededL
  split
  · exact Nat.zero_le _
  · split
    · rw [List.length_take]; omega
    · exact Nat.le_refl _
theorem whole_len (c : Vbdcar.Call) : (wholeOf c).length ≤ 2 := by cases c <;> simp [wholeOf]
theorem HAt.none_at {I0 H0 I H : Hp} {h : Addr} {s : Vbdcar.State} (A : HAt I0 H0 h I H s) {dx pl pz : Addr} {xs : List V} {k : Nat} (hk : k < 8) (h1 : H h = some (.ins cHouse dx (houseF pl pz))) (h2 : H pl = some (.lst xs)) : ∃ x, xs[k]? = some x ∧ decide (x = V.non) = noneAt s (k : Int) := by
  obtain ⟨dx', pl', pz', xs', g1, g2, g3, g4, _⟩ := A.ex
  rw [h1] at g1
  cases g1
  rw [h2] at g2
  cases g2
  have hl := A.ok.len
  have hp : k < s.progs.length := by omega
  have := g4 k xs[k] s.progs[k] (List.getElem?_eq_getElem (by omega)) (List.getElem?_eq_getElem hp)
  refine ⟨xs[k], List.getElem?_eq_getElem (by omega), ?_⟩
  have e : noneAt s (k : Int) = (s.progs[k]).isNone := by
    unfold noneAt Vbdcar.prog?
    rw [Int.toNat_natCast, List.getD_eq_getElem?_getD, List.getElem?_eq_getElem hp]
    rfl
  rw [e]
  cases ho : s.progs[k] with
  | none =>
    rw [ho] at this
    exact decide_eq_true this
  | some p =>
    rw [ho] at this
    obtain ⟨a, _, _, _, _, ea, _⟩ := ProgAt.ex this
    rw [ea]
    rfl
theorem k_lcC {K : PySem.W.Frag} {ta te : TE} {j : Nat} {vs : List Nat} {σ : L2.St} {H : Hp} {Q : VK} {xs : List V} (P : Addr → Hp → Hp → Prop) (R : Nat → V → Hp → Prop) (hv : ∀ R' : VK, (∀ b I1 H1, P b I1 H1 → R' (.ref b) H1) → ta σ H R')
    (hw : ∀ x, wipe ((wipe σ vs).set j (some x)) vs = wipe σ vs) (hR : ∀ i y J J', Same J J' → R i y J → R i y J') (hz : xs.length ≤ 1000000) (hb : ∀ b I1 H1, P b I1 H1 → Same I1 H1 ∧ SqL K H1 b xs)
    (he : ∀ b I1 H1, P b I1 H1 → ∀ i x I2 H2 (Q' : VK), xs[i]? = some x → Ext I1 H1 I2 H2 → (∀ y I4 H4, Ext I2 H2 I4 H4 → R i y I4 → Q' y H4) → te ((wipe σ vs).set j (some x)) H2 Q')
    (q : ∀ b I1 H1, P b I1 H1 → ∀ D ys I' H', Ext I1 H1 I' H' → I1 D = none → H1 D = none → I' D = some (.lst ys) → ys.length = xs.length → (∀ (i : Nat) y, ys[i]? = some y → R i y I') → Q (.ref D) H') :
    tLc (iList K ta) (gName j) tYes te vs σ H Q := hv _ fun b I1 H1 p => ⟨b, rfl, ⟨xs, (hb b I1 H1 p).2⟩, lc_rel R (hb b I1 H1 p).1 (hb b I1 H1 p).2 hw hR hz (he b I1 H1 p) (q b I1 H1 p)⟩
section
variable {w : World} {K : PySem.W.Frag} {mg : Str → Option Value} {base : Heap}
abbrev CallAt (H : Hp) (c : Vbdcar.Call) (v y z : V) : Prop := ∃ (wa ra : Addr) (rs : List V), v = .int (callNo c : Nat) ∧ y = .ref wa ∧ IL H wa (wholeOf c) ∧ z = .ref ra ∧ H ra = some (.lst rs) ∧ RowsAt H rs (rowsOf c) ∧ ∀ r, r ∈ rowsOf c → r.length ≤ 4010
abbrev sp_refusal : Sp := Sp4 fun u v y z H Q _ => ∃ (I0 H0 : Hp) (h : Addr) (I : Hp) (s : Vbdcar.State) (c : Vbdcar.Call), u = .ref h ∧ HAt I0 H0 h I H s ∧ CallAt H c v y z ∧ ∀ H', Ext I H I H' → Q (.int (refP s (callNo c) (wholeOf c) (rowsOf c))) H'
abbrev n_refusal : List Str := ["house", "call", "whole", "rows", "count", "place"]
theorem sc_refusal : FnScope n_refusal ["house", "call", "whole", "rows"] (defScope s_refusal) := ⟨rfl, rfl, rfl, by decide +kernel, rfl, by decide +kernel, by decide +kernel⟩
theorem d_refusal (T : Tx w K mg)  : Def w K mg base 4 "refusal" ["house", "call", "whole", "rows"] (sp_refusal) :=
  mkDef4 T f_refusal rfl rfl sc_refusal rfl (fun _ _ _ _ _ _ us hl => match us, hl with | [_, _, _, _], _ => rfl) fun u v y z cdv A outer s H Q E hr h =>
  ⟨_, (pss_cons (ps_if (PW.pt (pw_or (pt_not (pt_val (pe_c (d_are_within T) hr pz (pa_cons (pv 2) (pa_cons pe_int (pa_cons pe_int pa_nil)))))) (pw_or1 (pt_not (pt_val (pe_c (d_lists_fit T) hr pz (pa_cons (pv 1) (pa_cons (pv 3) pa_nil)))))))) (pss_one (ps_ret (pe_un un_neg pe_int))) pss_nil)
  (pss_cons (ps_if (pt_val (pe_callB (cr_any rfl) (by rfl) T.fr_any (by decide +kernel) (pa_cons (pe_lc (own := [("place", 5)]) (g := gName 5) (tt := tYes) rfl sc_refusal.nd (pi_list (pe_c (d_needed_places T) hr pz (pa_cons (pv 1) (pa_cons (pv 2) pa_nil)))) (blkOk_by (N := n_refusal) (sc := defScope s_refusal) (by decide +kernel)) (fun _ _ _ _ _ => (pg_name (i := 5) sc_refusal.nd rfl (Or.inl rfl))) (fun _ _ _ _ _ => pts_nil) (fun _ _ _ _ _ => by exact (pe_cmpR op_isN (pe_ix (ixK (K' := K) rIxL ix_list) (pe_fldK (K' := K) (pv 0) rfl) (pv 5) (fun _ _ => rfl)) pe_non (nomark _)))) pa_nil))) (pss_one (ps_ret (pe_un un_neg pe_int))) pss_nil)
  (pss_cons (ps_set (i := 4) sc_refusal.nd rfl (Or.inl rfl) (pe_callB call_len_seq (by rfl) T.fr_len (by decide +kernel) (pa_cons (pe_fld (pv 0) rfl) pa_nil)))
  (pss_cons (ps_if (PW.pt (pw_and (pt_cmpR op_eq (pv 4) pe_int (nomark _)) (pw_and1 (PW.pt (pw_or (pt_cmpR op_eq (pv 1) (pe_gi T.k_BID) (nomark _)) (pw_or (pt_cmpR op_eq (pv 1) (pe_gi T.k_PLAY) (nomark _)) (pw_or (pt_cmpR op_eq (pv 1) (pe_gi T.k_BEST) (nomark _)) (pw_or1 (pt_cmpR op_eq (pv 1) (pe_gi T.k_LEAGUE) (nomark _)))))))))) (pss_one (ps_ret (pe_un un_neg pe_int))) pss_nil)
  (pss_cons (ps_if (PW.pt (pw_and (pt_cmpR op_eq (pv 1) (pe_gi T.k_BID) (nomark _)) (pw_and1 (pt_not (pt_val (pe_c (d_bids_fit T) hr pz (pa_cons (pv 3) (pa_cons (pv 4) pa_nil)))))))) (pss_one (ps_ret (pe_un un_neg pe_int))) pss_nil)
  (pss_cons (ps_if (PW.pt (pw_and (pt_cmpR op_eq (pv 1) (pe_gi T.k_BEST) (nomark _)) (pw_and1 (pt_cmpR op_gt (pv 4) pe_int (nomark _))))) (pss_one (ps_ret (pe_un un_neg pe_int))) pss_nil)
  (pss_one (ps_ret pe_int)))))))), by
  obtain ⟨I0, H0, h, I, s, c, rfl, A, ⟨wa, ra, rs, rfl, rfl, hw, rfl, hra, hrs, hl⟩, q⟩ := h
  have sI := A.ext.ih
  have wl := whole_len c
  have hz := A.ok.pz.1
  refine k_sifN ⟨_, rfl, _, _, _, rfl, wa, _, 0, 7, rfl, rfl, rfl, hw, by omega, fun H1 s1 => ⟨_, rfl, ?_⟩⟩
  unfold refP at q
  cases hW : withinB 0 7 (wholeOf c) with
  | false =>
    rw [hW] at q
    exact iteT (iteT ⟨_, rfl, q H1 (Ext.all sI s1)⟩)
  | true =>
  rw [hW] at q
  refine iteF ⟨_, rfl, _, rfl, _, _, rfl, c, ra, rs, rfl, rfl, s1 _ _ hra, hrs.mono s1, hl, fun H2 s2 => ⟨_, rfl, ?_⟩⟩
  have s12 := s1.trans s2
  cases hL : listsB (callNo c) (rowsOf c) with
  | false =>
    rw [hL] at q
    exact iteT ⟨_, rfl, q H2 (Ext.all sI s12)⟩
  | true =>
  rw [hL, if_neg (by decide)] at q
  have e2 := Ext.all sI s12
  have A2 := A.step e2
  have hnl := needed_len (callNo c) (wholeOf c)
  have hml : ((neededL (callNo c) (wholeOf c)).map V.int).length = (neededL (callNo c) (wholeOf c)).length := List.length_map _
  refine iteF (k_sifN (k_cb (k_cons (k_lcC (xs := (neededL (callNo c) (wholeOf c)).map V.int) (fun b I3 H3 => Ext I H2 I3 H3 ∧ IL H3 b (neededL (callNo c) (wholeOf c))) (fun i y _ => ∃ x, (neededL (callNo c) (wholeOf c))[i]? = some x ∧ y = .bl (noneAt s x))
    (fun R' hR' => ⟨_, rfl, _, rfl, _, _, rfl, I, callNo c, wa, wholeOf c, e2.ih, rfl, rfl, s12 _ _ hw, wl, fun b I3 H3 e3 hb => hR' b I3 H3 ⟨e3, hb⟩⟩) (fun _ => rfl) (fun _ _ _ _ _ h => h) (by omega) (fun b I3 H3 p => ⟨p.1.ih, .inl (.inl p.2)⟩) (fun b I3 H3 ⟨e3, hb⟩ i x I4 H4 Q' hx e4 k => ?_) fun b I3 H3 ⟨e3, hb⟩ D ys I4 H4 e4 iD hD h1 hyl r => ?_))))
  · rw [List.getElem?_map] at hx
    cases hc : (neededL (callNo c) (wholeOf c))[i]? with
    | none => rw [hc] at hx; cases hx
    | some n =>
      rw [hc] at hx
      cases hx
      obtain ⟨m, rfl, hm⟩ := slot_nat hW (needed_in (List.mem_of_getElem? hc))
      have A4 := (A2.step e3).step e4
      obtain ⟨dx, pl, pz, xs, g1, g2, g3, g4, g5, _⟩ := A4.ex
      obtain ⟨x, hx1, hx2⟩ := A4.none_at hm g1 g2
      refine ⟨_, rfl, h, _, dx, _, _, rfl, g1, T.c_House, T.n_House_places, rfl, _, rfl, pl, _, _, _, rfl, rfl, .inl (.inl g2), atI_nat hx1, rfl, ?_⟩
      rw [hx2]
      exact k _ I4 H4 (Ext.refl e4.ih) ⟨_, hc, rfl⟩
  have hy := list_of (hyl.trans hml) r
  subst hy
  have e24 := e2.trans (e3.trans e4)
  refine ⟨_, (neededL (callNo c) (wholeOf c)).map (noneAt s), rfl, .inl (.inl (e4.ih _ _ (by rw [h1, List.map_map]; rfl))), _, rfl, ?_⟩
  have hanyeq : ((neededL (callNo c) (wholeOf c)).map (noneAt s)).any id = (neededL (callNo c) (wholeOf c)).any (noneAt s) := by rw [List.any_map]; rfl
  rw [hanyeq]
  have q : ∀ H', Same H4 H' → _ := fun H' s' => q H' (Ext.all sI (e24.hh.trans s'))
  cases hA : (neededL (callNo c) (wholeOf c)).any (noneAt s) with
  | true =>
    rw [hA, if_pos rfl] at q
    exact iteT ⟨_, rfl, q H4 (.refl H4)⟩
  | false =>
  rw [hA, if_neg (by decide)] at q
  have A4 := A.step e24
  obtain ⟨dx, pl, pz, xs, g1, g2, g3, g4, g5, _⟩ := A4.ex
  have hp := A4.ext.ih _ _ g5
  refine iteF (k_sset ⟨_, rfl, h, _, dx, _, _, rfl, g1, T.c_House, T.n_House_prizes, rfl, pz, _, rfl, .inl (.inl (.inl hp)), ?_⟩)
  rw [List.length_map]
  refine k_sifN (k_red (b := decide (s.prizes.length = 0) && (decide (callNo c = 4) || (decide (callNo c = 5) || (decide (callNo c = 6) || decide (callNo c = 7))))) (fun R' rr => ⟨_, rfl, rfl, _, rfl, ?_⟩) ?_)
  · rw [dI]
    by_cases h0 : s.prizes.length = 0
    · rw [decide_eq_true (by omega)]
      rw [decide_eq_true h0] at rr
      refine iteT ⟨_, rfl, rfl, _, rfl, ?_⟩
      rw [dI]
      by_cases h4 : callNo c = 4
      · rw [decide_eq_true (by omega)]
        rw [decide_eq_true h4] at rr
        exact iteT rr
      rw [decide_eq_false (by omega)]
      rw [decide_eq_false h4] at rr
      refine iteF ⟨_, rfl, rfl, _, rfl, ?_⟩
      rw [dI]
      by_cases h5 : callNo c = 5
      · rw [decide_eq_true (by omega)]
        rw [decide_eq_true h5] at rr
        exact iteT rr
      rw [decide_eq_false (by omega)]
      rw [decide_eq_false h5] at rr
      refine iteF ⟨_, rfl, rfl, _, rfl, ?_⟩
      rw [dI]
      by_cases h6 : callNo c = 6
      · rw [decide_eq_true (by omega)]
        rw [decide_eq_true h6] at rr
        exact iteT rr
      rw [decide_eq_false (by omega)]
      rw [decide_eq_false h6] at rr
      refine iteF ⟨_, rfl, rfl, _, rfl, ?_⟩
      rw [dI]
      by_cases h7 : callNo c = 7
      · rw [decide_eq_true (by omega)]
        rw [decide_eq_true h7] at rr
        exact rr
      rw [decide_eq_false (by omega)]
      rw [decide_eq_false h7] at rr
      exact rr
    · rw [decide_eq_false (by omega)]
      rw [decide_eq_false h0] at rr
      exact iteF rr
  by_cases t3 : s.prizes.length = 0 ∧ (callNo c = 4 ∨ callNo c = 5 ∨ callNo c = 6 ∨ callNo c = 7)
  · rw [if_pos t3] at q
    rw [show (decide (s.prizes.length = 0) && (decide (callNo c = 4) || (decide (callNo c = 5) || (decide (callNo c = 6) || decide (callNo c = 7))))) = true by simpa using t3]
    exact iteT ⟨_, rfl, q H4 (.refl H4)⟩
  rw [if_neg t3] at q
  rw [show (decide (s.prizes.length = 0) && (decide (callNo c = 4) || (decide (callNo c = 5) || (decide (callNo c = 6) || decide (callNo c = 7))))) = false by
    rw [← Bool.not_eq_true]; simpa using t3]
  refine iteF ?_
  have rest : ∀ (D : Ends) (σ : L2.St) H5, Same H4 H5 → σ[1]? = some (some (.int (callNo c : Nat))) → σ[4]? = some (some (.int (s.prizes.length : Nat))) → D.rt = Q → (∀ H', Same H4 H' → Q (.int (if callNo c = 6 ∧ 5 < s.prizes.length then -5 else 0)) H') →
      tSeq (tIfS (tAnd (tTest (tOp rEq (tVar 1) (tC (.int 6)))) (tTest (tOp (rI0 fun i j => V.bl (decide (j < i))) (tVar 4) (tC (.int 5))))) (tRet (tUn (rU fun i => V.int (-i)) (tC (.int 5)))) tNext) (tRet (tC (.int 0))) D σ H5 := by
    intro D σ H5 s5 v1 v4 hrt q
    refine k_sifN ⟨_, v1, rfl, _, rfl, ?_⟩
    rw [dI]
    by_cases h6 : callNo c = 6
    · rw [decide_eq_true (by omega)]
      refine iteT ⟨_, v4, _, _, rfl, rfl, _, rfl, ?_⟩
      by_cases h5 : 5 < s.prizes.length
      · rw [decide_eq_true (by omega)]
        rw [if_pos ⟨h6, h5⟩] at q
        refine iteT ⟨_, rfl, ?_⟩
        show D.rt _ _
        rw [hrt]; exact q H5 s5
      · rw [decide_eq_false (by omega)]
        rw [if_neg (fun z => h5 z.2)] at q
        refine iteF ?_
        show D.rt _ _
        rw [hrt]; exact q H5 s5
    · rw [decide_eq_false (by omega)]
      rw [if_neg (fun z => h6 z.1)] at q
      refine iteF (iteF ?_)
      show D.rt _ _
      rw [hrt]; exact q H5 s5
  have s4 := e24.hh
  refine k_sifN ⟨_, rfl, rfl, _, rfl, ?_⟩
  rw [dI]
  by_cases h4 : callNo c = 4
  · rw [decide_eq_true (by omega)]
    cases c with
    | bid i a b =>
      refine iteT ⟨_, rfl, _, rfl, _, _, rfl, ra, rs, a, b, s.prizes.length, rfl, rfl, s4 _ _ hra, hrs.mono s4, hz, fun H5 s5 => ⟨_, rfl, ?_⟩⟩
      cases hB : bidsB [a, b] s.prizes.length with
      | false =>
        rw [if_pos ⟨rfl, hB⟩] at q
        exact iteT ⟨_, rfl, q H5 s5⟩
      | true =>
        rw [if_neg (fun z => Bool.noConfusion (hB.symm.trans z.2))] at q
        exact iteF (rest _ _ H5 s5 rfl rfl rfl q)
    | _ => exact absurd h4 (by simp [callNo])
  · rw [decide_eq_false (by omega)]
    rw [if_neg (fun z => h4 z.1)] at q
    exact iteF (iteF (rest _ _ H4 (.refl H4) rfl rfl rfl q))⟩
end
end Bd


end
/-! ## BdAns -/
section
namespace Bd
open PySem PySem.Spec PyProof.Rows
open L2
/-- a new start of what is kept: all that lies beside the house -/
theorem HAt.fresh {I0 H0 I H : Hp} {h : Addr} {s : Vbdcar.State} (A : HAt I0 H0 h I H s) : ∃ pl, H0 h = none ∧ H0 pl = none ∧ HAt I (hide H h pl) h I H s := by
  obtain ⟨dx, pl, pz, xs, h1, h2, h3, h4, h5, h6, h7, h8, h9⟩ := A.ex
  refine ⟨pl, h6, h7, hide_ext A.ext.ih h8 h9, ⟨dx, pl, pz, xs, h1, h2, h3, h4, h5, ?_, ?_, h8, h9⟩, A.ok⟩
  · unfold hide; rw [if_pos (.inl rfl)]
  · unfold hide; rw [if_pos (.inr rfl)]
theorem HAt.back {I0 H0 I H I' H' : Hp} {h pl : Addr} {s s' : Vbdcar.State} (A : HAt I0 H0 h I H s) (h6 : H0 h = none) (h7 : H0 pl = none) (B : HAt I (hide H h pl) h I' H' s') : HAt I0 H0 h I' H' s' := by
  obtain ⟨dx, pl', pz, xs, g1, g2, g3, g4, g5, g6, g7, g8, g9⟩ := B.ex
  refine ⟨rebase A.ext h6 h7 B.ext, ⟨dx, pl', pz, xs, g1, g2, g3, g4, g5, h6, ?_, g8, g9⟩, B.ok⟩
  cases hx : H0 pl' with
  | none => rfl
  | some o =>
    have k1 := A.ext.hh _ _ hx
    unfold hide at g7
    rw [if_neg, k1] at g7
    · cases g7
    · rintro (rfl | rfl)
      · rw [h6] at hx; cases hx
      · rw [h7] at hx; cases hx
theorem CallAt.mono {H H' : Hp} {c : Vbdcar.Call} {v y z : V} (s : Same H H') (C : CallAt H c v y z) : CallAt H' c v y z := by
  obtain ⟨wa, ra, rs, h1, h2, h3, h4, h5, h6, h7⟩ := C
  exact ⟨wa, ra, rs, h1, h2, s _ _ h3, h4, s _ _ h5, h6.mono s, h7⟩
section
variable {w : World} {K : PySem.W.Frag} {mg : Str → Option Value} {base : Heap}
abbrev sp_answer : Sp := Sp4 fun u v y z H Q _ => ∃ (I0 H0 : Hp) (h : Addr) (I : Hp) (s : Vbdcar.State) (c : Vbdcar.Call), u = .ref h ∧ HAt I0 H0 h I H s ∧ CallAt H c v y z ∧ (Vbdcar.step s c).2.length ≤ 16000000 ∧ RetC I0 H0 h Q (Vbdcar.step s c).1 (Vbdcar.step s c).2
abbrev n_answer_to : List Str := ["house", "call", "whole", "rows", "code"]
theorem sc_answer_to : FnScope n_answer_to ["house", "call", "whole", "rows"] (defScope s_answer_to) := ⟨rfl, rfl, rfl, by decide +kernel, rfl, by decide +kernel, by decide +kernel⟩
theorem d_answer_to (T : Tx w K mg)  : Def w K mg base 93 "answer_to" ["house", "call", "whole", "rows"] (sp_answer) :=
  mkDef4 T f_answer_to rfl rfl sc_answer_to rfl (fun _ _ _ _ _ _ us hl => match us, hl with | [_, _, _, _], _ => rfl) fun u v y z cdv A outer s H Q E hr h =>
  ⟨_, (pss_cons (ps_set (i := 4) sc_answer_to.nd rfl (Or.inl rfl) (pe_c (d_refusal T) hr pz (pa_cons (pv 0) (pa_cons (pv 1) (pa_cons (pv 2) (pa_cons (pv 3) pa_nil))))))
  (pss_cons (ps_if (pt_cmpR op_ne (pv 4) pe_int (nomark _)) (pss_one (ps_ret (pe_lst (pa_cons (pv 4) pa_nil)))) pss_nil)
  (pss_one (ps_ret (pe_op op_cat (pe_lst (pa_cons pe_int pa_nil)) (pe_c (d_work T) hr pz (pa_cons (pv 0) (pa_cons (pv 1) (pa_cons (pv 2) (pa_cons (pv 3) pa_nil)))))))))), by
  obtain ⟨I0, H0, h, I, s, c, rfl, A, C, hlen, q⟩ := h
  rw [step_eq] at hlen q
  refine k_sset ⟨_, rfl, _, rfl, _, rfl, _, rfl, _, _, _, _, rfl, I0, H0, h, I, s, c, rfl, A, C, fun H1 e1 => ?_⟩
  have A1 := A.step e1
  refine k_sifN ⟨_, rfl, rfl, _, rfl, ?_⟩
  rw [dI]
  by_cases h0 : refP s (callNo c) (wholeOf c) (rowsOf c) = 0
  · rw [decide_eq_true h0]
    rw [if_pos h0] at hlen q
    refine iteF ⟨one_le _, fun p hp => ?_⟩
    have e2 := (Ext.refl A1.ext.ih).new (o := .lst [.int 0]) hp
    have A2 := A1.step e2
    obtain ⟨pl, k1, k2, B⟩ := A2.fresh
    obtain ⟨wa, ra, rs, c1, c2, c3, c4, c5, c6, c7⟩ := C.mono (e1.hh.trans e2.hh)
    refine ⟨_, rfl, _, rfl, _, rfl, _, rfl, _, _, _, _, rfl, _, _, h, _, s, c, wa, ra, rs, rfl, B, c1, c2, c3, c4, c5, c6, h0, ?_, fun a I3 H3 A3 ha => ?_⟩
    · have : ((0 : Int) :: (workP s c).2).length ≤ 16000000 := hlen
      rw [List.length_cons] at this; omega
    · have hp3 : IL I3 p [0] := A3.ext.ii _ _ upd_same
      have hlen : ((0 : Int) :: (workP s c).2).length ≤ 16000000 := hlen
      refine ⟨p, a, _, _, rfl, rfl, A3.ext.ih _ _ hp3, A3.ext.ih _ _ ha, ?_, fun d hd => ?_⟩
      · rw [List.length_cons] at hlen
        rw [List.length_map, List.length_map, sizeLine_eq]; simp; omega
      · exact q d _ _ ((A2.back k1 k2 A3).step ((Ext.refl A3.ext.ih).new hd)) upd_same
  · rw [decide_eq_false h0]
    rw [if_neg h0] at q
    exact iteT ⟨_, rfl, one_le _, fun p hp => q p _ _ (A1.step ((Ext.refl A1.ext.ih).new hp)) upd_same⟩⟩
end
end Bd


end
/-! ## BdRows -/
section
namespace Bd
open PySem PySem.Spec PyProof.Rows
open L2
/-! ## rows, by places -/
theorem rows_step {l : List Int} {e k : Nat} {xs : List (List Int)} {t : List Int} (h : PyFlat.rows (k + 1) (l.drop e) = some (xs, t)) :
    ∃ (m : Nat) (xs' : List (List Int)), l[e]? = some ((m : Nat) : Int) ∧ e + 1 + m ≤ l.length ∧ xs = (l.drop (e + 1)).take m :: xs' ∧ PyFlat.rows k (l.drop (e + 1 + m)) = some (xs', t) := by
  have hd : l.drop e = match l[e]? with | none => [] | some n => n :: l.drop (e + 1) := by
    cases hx : l[e]? with
    | none => exact List.drop_eq_nil_of_le (List.getElem?_eq_none_iff.mp hx)
    | some n =>
      obtain ⟨hlt, rfl⟩ := List.getElem?_eq_some_iff.mp hx
      exact List.drop_eq_getElem_cons hlt
  rw [hd] at h
  cases hx : l[e]? with
  | none => rw [hx] at h; cases h
  | some n =>
    rw [hx] at h
    have hlt := (List.getElem?_eq_some_iff.mp hx).1
    unfold PyFlat.rows PyFlat.row at h
    dsimp only at h
    by_cases hn : 0 ≤ n ∧ n.toNat ≤ (l.drop (e + 1)).length
    · rw [if_pos hn] at h
      dsimp only at h
      rw [List.drop_drop] at h
      cases hr : PyFlat.rows k (l.drop (e + 1 + n.toNat)) with
      | none => rw [hr] at h; cases h
      | some q =>
        obtain ⟨ys, u⟩ := q
        rw [hr] at h
        cases h
        refine ⟨n.toNat, ys, by congr 1; omega, ?_, rfl, hr⟩
        rw [List.length_drop] at hn
        omega
    · rw [if_neg hn] at h
      cases h
theorem RowsAt.snoc {I : Hp} {rs : List V} {xs : List (List Int)} {a : Addr} {x : List Int} (R : RowsAt I rs xs) (h : IL I a x) : RowsAt I (rs ++ [.ref a]) (xs ++ [x]) := by
  refine ⟨by rw [List.length_append, List.length_append, R.1]; rfl, fun i y r h1 h2 => ?_⟩
  by_cases hi : i < rs.length
  · rw [List.getElem?_append_left hi] at h1
    rw [List.getElem?_append_left (by rw [← R.1]; exact hi)] at h2
    exact R.2 i y r h1 h2
  · rw [List.getElem?_append_right (by omega)] at h1
    rw [List.getElem?_append_right (by rw [← R.1]; omega), ← R.1] at h2
    cases hj : i - rs.length with
    | zero =>
      rw [hj] at h1 h2
      cases h1; cases h2
      exact ⟨a, rfl, h⟩
    | succ j => rw [hj] at h1; cases h1
section
variable {w : World} {K : PySem.W.Frag} {mg : Str → Option Value} {base : Heap}
abbrev sp_rows (K : PySem.W.Frag) : Sp := Sp3 fun u v y H Q _ => ∃ (I : Hp) (ca : Addr) (l : List Int) (st k : Nat) (xs : List (List Int)) (t : List Int), Same I H ∧ u = .ref ca ∧ SqL K H ca (l.map V.int) ∧ v = .int (st : Nat) ∧ st ≤ l.length ∧ y = .int (k : Nat) ∧ k ≤ 2 ∧ PyFlat.rows k (l.drop st) = some (xs, t) ∧
  ∀ tp ra rs (e : Nat) I' H', Ext I H I' H' → I' tp = some (.tup [.ref ra, .int (e : Nat)]) → I' ra = some (.lst rs) → RowsAt I' rs xs → e ≤ l.length → l.drop e = t → Q (.ref tp) H'
abbrev n_read_rows : List Str := ["calls", "start", "many", "rows", "place", "number", "end"]
theorem sc_read_rows : FnScope n_read_rows ["calls", "start", "many"] (defScope s_read_rows) := ⟨rfl, rfl, rfl, by decide +kernel, rfl, by decide +kernel, by decide +kernel⟩
theorem d_read_rows (T : Tx w K mg)  : Def w K mg base 1 "read_rows" ["calls", "start", "many"] (sp_rows K) :=
  mkDef3 T f_read_rows rfl rfl sc_read_rows rfl (fun _ _ _ _ _ _ us hl => match us, hl with | [_, _, _], _ => rfl) fun u v y cdv A outer s H Q E hr h =>
  ⟨_, (pss_cons (ps_set (i := 3) sc_read_rows.nd rfl (Or.inl rfl) (pe_lst pa_nil))
  (pss_cons (ps_set (i := 4) sc_read_rows.nd rfl (Or.inl rfl) (pv 1))
  (pss_cons (ps_for (passes_of rfl) rfl (pi_range1 (by rfl) (T.fr_range) (pa_cons (pv 2) pa_nil)) (pg_name (i := 5) sc_read_rows.nd rfl (Or.inl rfl)) (pss_cons (ps_set (i := 6) sc_read_rows.nd rfl (Or.inl rfl) (pe_op op_add (pe_op op_add (pv 4) pe_int) (pe_ix ix_list (pv 0) (pv 4) (fun _ _ => rfl))))
  (pss_cons (ps_expr (pe_bm PySem.F.plainAttrs_list PySem.F.slot_list_append PySem.F.type_list_append mt_append (pv 3) (pa_cons (pe_slice sl_list (pv 0) (po_some (pe_op op_add (pv 4) pe_int)) (po_some (pv 6))) pa_nil)))
  (pss_one (ps_set (i := 4) sc_read_rows.nd rfl (Or.inl rfl) (pv 6))))))
  (pss_one (ps_ret (pe_tup (pa_cons (pv 3) (pa_cons (pv 4) pa_nil)))))))), by
  obtain ⟨I, ca, l, st, k, xs, t, sI, rfl, hl, rfl, hst, rfl, hk, hr, q⟩ := h
  refine k_sset ⟨by rw [sizeLine_eq]; exact Nat.zero_le _, fun D hD => ?_⟩
  have e0 := (Ext.refl sI).tmp (o := .lst []) hD
  refine ⟨_, rfl, ?_⟩
  refine ⟨_, rfl, (k : Int), rfl, by omega, by omega, ?_⟩
  rw [Int.toNat_natCast]
  refine for_it (walk_range (lo := 0) (n := k)) (fun i σ H' => ∃ I' rs e o5 o6, Ext I H I' H' ∧ I' D = none ∧ H' D = some (.lst rs) ∧ RowsAt I' rs (xs.take i) ∧ i ≤ k ∧ e ≤ l.length ∧ PyFlat.rows (k - i) (l.drop e) = some (xs.drop i, t) ∧ σ = [some (.ref ca), some (.int (st : Nat)), some (.int (k : Nat)), some (.ref D), some (.int (e : Nat)), o5, o6])
    ⟨I, [], st, _, _, e0, sI.free hD, upd_same, ⟨rfl, fun i x r h1 h2 => by simp at h1⟩, Nat.zero_le _, hst, hr, rfl⟩ (fun _ _ _ _ _ => True.intro) (fun i x σ H1 H2 hi ⟨I1, rs, e, o5, o6, e1, iD, hD1, R, hik, hel, hrr, es⟩ y => ?_) fun σ H1 ⟨I1, rs, e, o5, o6, e1, iD, hD1, R, hik, hel, hrr, es⟩ => ?_
  · obtain ⟨rfl, rfl⟩ := y
    subst es
    obtain ⟨d, hd⟩ : ∃ d, k - i = d + 1 := ⟨k - i - 1, by omega⟩
    rw [hd] at hrr
    obtain ⟨m, xs', hm, hle, hxs, hr2⟩ := rows_step hrr
    have hmm : (l.map V.int)[e]? = some (.int (m : Nat)) := by rw [List.getElem?_map, hm]; rfl
    have hxi : xs[i]? = some ((l.drop (e + 1)).take m) := by
      have : (xs.drop i)[0]? = some ((l.drop (e + 1)).take m) := by rw [hxs]; rfl
      rw [List.getElem?_drop] at this
      exact this
    have hxd : xs.drop (i + 1) = xs' := by rw [← List.drop_drop, hxs]; rfl
    have hl1 := e1.hh.seq hl
    refine ⟨_, rfl, _, _, rfl, rfl, _, rfl, _, rfl, ca, _, _, _, rfl, rfl, hl1, atI_nat hmm, _, _, rfl, rfl, ?_⟩
    refine ⟨_, rfl, .inl ⟨rfl, _, .inl (.inl hD1)⟩, _, rfl, _, rfl, _, _, rfl, rfl, _, rfl, _, rfl, _, rfl, ca, _, rfl, hl1, fun S hS => ?_⟩
    have nDS : D ≠ S := ne_of_none hD1 hS
    have hcut : cutV (l.map V.int) (some (((e : Nat) : Int) + 1)) (some (((e : Nat) : Int) + 1 + (m : Nat))) = ((l.drop (e + 1)).take m).map V.int := by
      have := cutMid (xs := l.map V.int) (n := e + 1) (m := e + 1 + m) (by omega) (by rw [List.length_map]; exact hle)
      rw [show e + 1 + m - (e + 1) = m by omega, ← List.map_drop, ← List.map_take] at this
      exact this
    rw [hcut]
    have hD2 : (L2.upd H2 S (.lst (((l.drop (e + 1)).take m).map V.int))) D = some (.lst rs) := by rw [upd_ne nDS]; exact hD1
    have e2 := e1.new (o := .lst (((l.drop (e + 1)).take m).map V.int)) hS
    have iD2 : (L2.upd I1 S (.lst (((l.drop (e + 1)).take m).map V.int))) D = none := by rw [upd_ne nDS]; exact iD
    have hrl : rs.length ≤ 2 := by rw [R.1, List.length_take]; omega
    refine ⟨D, _, _, rfl, rfl, hD2, by rw [sizeLine_eq]; omega, _, rfl, ?_⟩
    refine ⟨_, rs ++ [.ref S], e + 1 + m, some (.int (0 + (i : Int))), some (.int (((e : Nat) : Int) + 1 + (m : Nat))), e2.mut hD iD2, iD2, upd_same, ?_, by omega, hle, by rw [show k - (i + 1) = d by omega, hxd]; exact hr2, ?_⟩
    · rw [take_snoc hxi]
      exact (R.mono (Same.new (e1.ih.free hS) (o := .lst (((l.drop (e + 1)).take m).map V.int)))).snoc upd_same
    · simp only [Int.natCast_add]
      rfl
  · subst es
    rw [Nat.sub_self] at hrr
    have hrr : some (([] : List (List Int)), l.drop e) = some (xs.drop k, t) := hrr
    have e5 : xs.drop k = [] := by injection hrr with h; injection h with h1 h2; exact h1.symm
    have e6 : l.drop e = t := by injection hrr with h; injection h with h1 h2
    have hxk : xs.take k = xs := List.take_of_length_le (List.drop_eq_nil_iff.mp e5)
    rw [hxk] at R
    have e7 := e1.frz hD iD hD1
    refine ⟨_, rfl, _, rfl, two_ok, fun tp htp => ?_⟩
    have ntD : D ≠ tp := ne_of_none hD1 htp
    have hRI : Same I1 (L2.upd I1 D (.lst rs)) := Same.new iD
    have hI2 : Same (L2.upd I1 D (.lst rs)) (L2.upd (L2.upd I1 D (.lst rs)) tp (.tup [.ref D, .int (e : Nat)])) := Same.new (e7.ih.free htp)
    exact q tp D rs e _ _ (e7.new htp) upd_same (hI2 _ _ upd_same) (R.mono (hRI.trans hI2)) hel e6⟩
end
end Bd


end
/-! ## BdLawP -/
section
namespace Bd
open PySem PySem.Spec
open L2
/-! ## the flat list of calls, place by place -/
theorem rows_len : ∀ (k : Nat) (l : List Int) (xs : List (List Int)) (t : List Int), PyFlat.rows k l = some (xs, t) → xs.length = k
  | 0, l, xs, t, h => by cases h; rfl
  | k + 1, l, xs, t, h => by
    unfold PyFlat.rows at h
    cases hr : PyFlat.row l with
    | none => rw [hr] at h; cases h
    | some q =>
      obtain ⟨y, s⟩ := q
      rw [hr] at h
      dsimp only at h
      cases h2 : PyFlat.rows k s with
      | none => rw [h2] at h; cases h
      | some q2 =>
        obtain ⟨ys, u⟩ := q2
        rw [h2] at h
        cases h
        rw [List.length_cons, rows_len k s ys t h2]
theorem calls_step {shape : Int → Option (Nat × Nat)} {l : List Int} {e m : Nat} {cs : List (List (List Int))} (h : PyFlat.calls shape m (l.drop e) = some cs) (he : e < l.length) :
    ∃ (m' : Nat) (p : Int) (n k : Nat) (xs : List (List Int)) (t : List Int) (cs' : List (List (List Int))), m = m' + 1 ∧ l[e]? = some p ∧ shape p = some (n, k) ∧ e + 1 + n ≤ l.length ∧ PyFlat.rows k (l.drop (e + 1 + n)) = some (xs, t) ∧ xs.length = k ∧ cs = ((p :: (l.drop (e + 1)).take n) :: xs) :: cs' ∧ PyFlat.calls shape m' t = some cs' := by
  rw [List.drop_eq_getElem_cons he] at h
  cases m with
  | zero => cases h
  | succ m =>
    unfold PyFlat.calls at h
    cases hc : PyFlat.call shape (l[e] :: l.drop (e + 1)) with
    | none => rw [hc] at h; cases h
    | some q =>
      obtain ⟨c, t⟩ := q
      rw [hc] at h
      dsimp only at h
      cases hcs : PyFlat.calls shape m t with
      | none => rw [hcs] at h; cases h
      | some cs' =>
        rw [hcs] at h
        cases h
        unfold PyFlat.call at hc
        dsimp only at hc
        cases hs : shape l[e] with
        | none => rw [hs] at hc; cases hc
        | some nk =>
          obtain ⟨n, k⟩ := nk
          rw [hs] at hc
          dsimp only at hc
          split at hc
          · cases hc
          · rename_i hn
            rw [List.drop_drop] at hc
            cases hr : PyFlat.rows k (l.drop (e + 1 + n)) with
            | none => rw [hr] at hc; cases hc
            | some q2 =>
              obtain ⟨xs, t2⟩ := q2
              rw [hr] at hc
              cases hc
              rw [List.length_drop] at hn
              exact ⟨m, l[e], n, k, xs, t, cs', rfl, List.getElem?_eq_getElem he, hs, by omega, hr, rows_len _ _ _ _ hr, rfl, hcs⟩
theorem two_of {α : Type} {l : List α} (h : l.length = 2) : ∃ a b, l = [a, b] := by
  match l, h with
  | [a, b], _ => exact ⟨a, b, rfl⟩
theorem one_of {α : Type} {l : List α} (h : l.length = 1) : ∃ a, l = [a] := by
  match l, h with
  | [a], _ => exact ⟨a, rfl⟩
theorem zero_of {α : Type} {l : List α} (h : l.length = 0) : l = [] := List.eq_nil_of_length_eq_zero h
/-- a call of the shape, within what is asked, is one of the document's -/
theorem call_of {p : Int} {w : List Int} {xs : List (List Int)} {n k : Nat} (h : PyVbdcar.shape p = some (n, k)) (hw : w.length = n) (hx : xs.length = k) (ha : VbdcarNeutral.asked1 (PyVbdcar.whole ((p :: w) :: xs)) = true) :
    ∃ d, VbdcarNeutral.callOf (PyVbdcar.whole ((p :: w) :: xs)) = some d ∧ p = ((callNo d : Nat) : Int) ∧ wholeOf d = w ∧ rowsOf d = xs ∧ (∀ r, r ∈ rowsOf d → r.length ≤ 4010) ∧ c_WHOLE[callNo d]? = some (.int (n : Nat)) ∧ c_LISTS[callNo d]? = some (.int (k : Nat)) ∧ k ≤ 2 := by
  unfold PyVbdcar.shape at h
  by_cases h0 : p = 0
  · subst h0
    cases (show some (1, 1) = some (n, k) from h)
    obtain ⟨i, rfl⟩ := one_of hw
    obtain ⟨r, rfl⟩ := one_of hx
    refine ⟨.load i r, rfl, rfl, rfl, rfl, fun y hy => ?_, rfl, rfl, by decide⟩
    have ha : (VbdcarNeutral.whole60 i && (decide (r.length ≤ 4010) && (r.all (fun (z : Int) => VbdcarNeutral.whole60 z)))) = true := ha
    rw [Bool.and_eq_true, Bool.and_eq_true, decide_eq_true_eq] at ha
    cases List.mem_singleton.mp hy
    exact ha.2.1
  rw [if_neg h0] at h
  by_cases h1 : p = 1
  · subst h1
    cases (show some (1, 0) = some (n, k) from h)
    obtain ⟨i, rfl⟩ := one_of hw
    cases zero_of hx
    exact ⟨.show_ i, rfl, rfl, rfl, rfl, fun y hy => absurd (show y ∈ ([] : List (List Int)) from hy) List.not_mem_nil, rfl, rfl, by decide⟩
  rw [if_neg h1] at h
  by_cases h2 : p = 2
  · subst h2
    cases (show some (1, 0) = some (n, k) from h)
    obtain ⟨i, rfl⟩ := one_of hw
    cases zero_of hx
    exact ⟨.size i, rfl, rfl, rfl, rfl, fun y hy => absurd (show y ∈ ([] : List (List Int)) from hy) List.not_mem_nil, rfl, rfl, by decide⟩
  rw [if_neg h2] at h
  by_cases h3 : p = 3
  · subst h3
    cases (show some (0, 1) = some (n, k) from h)
    cases zero_of hw
    obtain ⟨r, rfl⟩ := one_of hx
    refine ⟨.prizes r, rfl, rfl, rfl, rfl, fun y hy => ?_, rfl, rfl, by decide⟩
    have ha : (decide (r.length ≤ 4010) && (r.all (fun (z : Int) => VbdcarNeutral.whole60 z))) = true := ha
    rw [Bool.and_eq_true, decide_eq_true_eq] at ha
    cases List.mem_singleton.mp hy
    exact ha.1
  rw [if_neg h3] at h
  by_cases h4 : p = 4
  · subst h4
    cases (show some (1, 2) = some (n, k) from h)
    obtain ⟨i, rfl⟩ := one_of hw
    obtain ⟨a, b, rfl⟩ := two_of hx
    refine ⟨.bid i a b, rfl, rfl, rfl, rfl, fun y hy => ?_, rfl, rfl, by decide⟩
    have ha : (VbdcarNeutral.whole60 i && (decide (a.length ≤ 4010) && (decide (b.length ≤ 4010) && (a.all (fun (z : Int) => VbdcarNeutral.whole60 z) && (b.all (fun (z : Int) => VbdcarNeutral.whole60 z)))))) = true := ha
    rw [Bool.and_eq_true, Bool.and_eq_true, Bool.and_eq_true, decide_eq_true_eq, decide_eq_true_eq] at ha
    have hy : y ∈ [a, b] := hy
    rw [List.mem_cons, List.mem_singleton] at hy
    rcases hy with rfl | rfl
    · exact ha.2.1
    · exact ha.2.2.1
  rw [if_neg h4] at h
  by_cases h5 : p = 5
  · subst h5
    cases (show some (2, 0) = some (n, k) from h)
    obtain ⟨i, j, rfl⟩ := two_of hw
    cases zero_of hx
    exact ⟨.play i j, rfl, rfl, rfl, rfl, fun y hy => absurd (show y ∈ ([] : List (List Int)) from hy) List.not_mem_nil, rfl, rfl, by decide⟩
  rw [if_neg h5] at h
  by_cases h6 : p = 6
  · subst h6
    cases (show some (1, 0) = some (n, k) from h)
    obtain ⟨i, rfl⟩ := one_of hw
    cases zero_of hx
    exact ⟨.best i, rfl, rfl, rfl, rfl, fun y hy => absurd (show y ∈ ([] : List (List Int)) from hy) List.not_mem_nil, rfl, rfl, by decide⟩
  rw [if_neg h6] at h
  by_cases h7 : p = 7
  · subst h7
    cases (show some (0, 0) = some (n, k) from h)
    cases zero_of hw
    cases zero_of hx
    exact ⟨.league, rfl, rfl, rfl, rfl, fun y hy => absurd (show y ∈ ([] : List (List Int)) from hy) List.not_mem_nil, rfl, rfl, by decide⟩
  rw [if_neg h7] at h
  by_cases h8 : p = 8
  · subst h8
    cases (show some (2, 0) = some (n, k) from h)
    obtain ⟨i, j, rfl⟩ := two_of hw
    cases zero_of hx
    exact ⟨.fold i j, rfl, rfl, rfl, rfl, fun y hy => absurd (show y ∈ ([] : List (List Int)) from hy) List.not_mem_nil, rfl, rfl, by decide⟩
  rw [if_neg h8] at h
  by_cases h9 : p = 9
  · subst h9
    cases (show some (1, 0) = some (n, k) from h)
    obtain ⟨i, rfl⟩ := one_of hw
    cases zero_of hx
    exact ⟨.drop i, rfl, rfl, rfl, rfl, fun y hy => absurd (show y ∈ ([] : List (List Int)) from hy) List.not_mem_nil, rfl, rfl, by decide⟩
  rw [if_neg h9] at h
  by_cases h10 : p = 10
  · subst h10
    cases (show some (0, 0) = some (n, k) from h)
    cases zero_of hw
    cases zero_of hx
    exact ⟨.full, rfl, rfl, rfl, rfl, fun y hy => absurd (show y ∈ ([] : List (List Int)) from hy) List.not_mem_nil, rfl, rfl, by decide⟩
  rw [if_neg h10] at h
  cases h
/-- what is asked, for the loop -/
theorem asked_all {l : List Int} (h : PyVbdcar.answers_asked l = true) : ∃ raw, PyFlat.calls PyVbdcar.shape l.length l = some raw ∧ (∀ c, c ∈ raw → VbdcarNeutral.asked1 (PyVbdcar.whole c) = true) ∧
    PyVbdcar.answers l = PyFlat.told (PyFlat.played VbdcarNeutral.step VbdcarNeutral.start (raw.map PyVbdcar.whole)) ∧ (PyVbdcar.answers l).length ≤ 10000000 := by
  unfold PyVbdcar.answers_asked at h
  cases hc : PyFlat.calls PyVbdcar.shape l.length l with
  | none => rw [hc] at h; cases h
  | some raw =>
    rw [hc] at h
    dsimp only at h
    rw [Bool.and_eq_true, Bool.and_eq_true, Bool.and_eq_true, Bool.and_eq_true] at h
    obtain ⟨⟨_, ha⟩, hs⟩ := h
    unfold VbdcarNeutral.asked at ha
    rw [Bool.and_eq_true, List.all_map, List.all_eq_true] at ha
    refine ⟨raw, rfl, fun c hm => ha.1 c hm, ?_, of_decide_eq_true hs⟩
    unfold PyVbdcar.answers PyVbdcar.calls
    rw [hc]
end Bd

end
/-! ## BdTop -/
section
namespace Bd
open PySem PySem.Spec PyProof.Rows
open L2
/-- an own list beside the house is changed -/
theorem HAt.own' {I0 G I H : Hp} {h D : Addr} {s : Vbdcar.State} (A : HAt I0 G h I H s) (iD : I D = none) (hne : ∀ b, G b = none → H b ≠ none → b ≠ D) (o' : HO) : ∃ G', HAt I G' h I (upd H D o') s ∧ I D = none ∧ G' D = some o' := by
  obtain ⟨dx, pl, pz, xs, h1, h2, h3, h4, h5, h6, h7, h8, h9⟩ := A.ex
  have nh : h ≠ D := hne h h6 (by rw [h1]; exact fun z => nomatch z)
  have np : pl ≠ D := hne pl h7 (by rw [h2]; exact fun z => nomatch z)
  refine ⟨upd (hide H h pl) D o', ⟨⟨fun b x hb => ?_, .refl I, fun b x hb => ?_, fun b h n => absurd h n⟩, ⟨dx, pl, pz, xs, by rw [upd_ne nh]; exact h1, by rw [upd_ne np]; exact h2, h3, h4, h5, by rw [upd_ne nh]; unfold hide; rw [if_pos (.inl rfl)], by rw [upd_ne np]; unfold hide; rw [if_pos (.inr rfl)], h8, h9⟩, A.ok⟩, iD, upd_same⟩
  · by_cases e : b = D
    · subst e
      rw [upd_same] at hb ⊢
      exact hb
    · rw [upd_ne e] at hb ⊢
      unfold hide at hb
      split at hb
      · cases hb
      · exact hb
  · have e : b ≠ D := fun e => by rw [e, iD] at hb; cases hb
    rw [upd_ne e]
    exact A.ext.ih _ _ hb
theorem HAt.own {I0 G I H : Hp} {h D : Addr} {s : Vbdcar.State} {o : HO} (A : HAt I0 G h I H s) (i0 : I0 D = none) (g : G D = some o) (o' : HO) : ∃ G', HAt I G' h I (upd H D o') s ∧ I D = none ∧ G' D = some o' :=
  A.own' (A.ext.noneI i0 g) (fun b hb _ e => by rw [e, g] at hb; cases hb) o'
theorem HAt.own0 {I0 G I H : Hp} {h D : Addr} {s : Vbdcar.State} (A : HAt I0 G h I H s) (g : H D = none) (o' : HO) : ∃ G', HAt I G' h I (upd H D o') s ∧ I D = none ∧ G' D = some o' :=
  A.own' (A.ext.ih.free g) (fun b _ hb e => hb (by rw [e]; exact g)) o'
theorem told_cons (a : List Int) (r : List (List Int)) : PyFlat.told (a :: r) = (a.length : Int) :: (a ++ PyFlat.told r) := by
  unfold PyFlat.told
  rw [List.flatMap_cons]
  rfl
theorem played_cons {s : Vbdcar.State} {c : List (List Int)} {d : Vbdcar.Call} {r : List (List (List Int))} (h : VbdcarNeutral.callOf c = some d) : PyFlat.played VbdcarNeutral.step s (c :: r) = (Vbdcar.step s d).2 :: PyFlat.played VbdcarNeutral.step (Vbdcar.step s d).1 r := by
  have e : VbdcarNeutral.step s c = Vbdcar.step s d := by unfold VbdcarNeutral.step; rw [h]
  show (VbdcarNeutral.step s c).2 :: PyFlat.played VbdcarNeutral.step (VbdcarNeutral.step s c).1 r = _
  rw [e]
theorem start_ok : StOk VbdcarNeutral.start := by
  refine ⟨rfl, fun i p h => ?_, by decide, fun x hx => absurd (show x ∈ ([] : List Int) from hx) List.not_mem_nil⟩
  have h : (List.replicate 8 (none : Option Vbdcar.Prog))[i]? = some (some p) := h
  rw [List.getElem?_replicate] at h
  split at h <;> cases h
theorem nones_at {I : Hp} : ∀ (i : Nat) (x : V) (o : Option Vbdcar.Prog), nones[i]? = some x → VbdcarNeutral.start.progs[i]? = some o → ItemAt I x o := by
  intro i x o h1 h2
  have h1 : (List.replicate 8 V.non)[i]? = some x := h1
  have h2 : (List.replicate 8 (none : Option Vbdcar.Prog))[i]? = some o := h2
  rw [List.getElem?_replicate] at h1 h2
  split at h1
  · rename_i hi
    rw [if_pos hi] at h2
    cases h1; cases h2
    rfl
  · cases h1
/-- behind so many calls that are still to be read -/
def AnsW (K : PySem.W.Frag) (ca : Addr) (l : List Int) (x D : Addr) (m : Nat) (σ : L2.St) (H : Hp) : Prop := ∃ (I0 G I : Hp) (s : Vbdcar.State) (res : List Int) (e : Nat) (cs : List (List (List Int))) (o4 o5 o6 o7 o8 : Option V),
  HAt I0 G x I H s ∧ I0 D = none ∧ G D = some (.lst (res.map V.int)) ∧ SqL K I0 ca (l.map V.int) ∧ e ≤ l.length ∧ PyFlat.calls PyVbdcar.shape m (l.drop e) = some cs ∧ (∀ c, c ∈ cs → VbdcarNeutral.asked1 (PyVbdcar.whole c) = true) ∧
  res ++ PyFlat.told (PyFlat.played VbdcarNeutral.step s (cs.map PyVbdcar.whole)) = PyVbdcar.answers l ∧ σ = [some (.ref ca), some (.ref x), some (.ref D), some (.int (e : Nat)), o4, o5, o6, o7, o8]
namespace Fin
/-- as Def, how it is called told for every state -/
structure Def (w : World) (K : PySem.W.Frag) (mg : Str → Option Value) (base : Heap) (k : Nat) (x : Str) (ps : List Str) (sp : Sp) : Prop where
  ex : ∃ f fd, mg x = some (.ref f) ∧ (∃ oc od osl, K.lookup f = some ⟨oc, od, .func fd, osl⟩) ∧ (∀ (s : Shared) (us : List Value), us.length = ps.length → BindsTo s fd ⟨us, []⟩ (ps.zip us)) ∧ FnOk R.prog w K mg base (L2.CX R.prog w) k f fd ps sp
theorem mkDef1 {w : World} {K : PySem.W.Frag} {mg : Str → Option Value} {base : Heap} {k : Nat} {x : Str} {ps N : List Str} {st : Stmt} {a c : Addr} {p : V → Hp → VK → XK → Prop} (T : Tx w K mg) (i : Nat) (hi : fnL[i]? = some ⟨x, x, st, a, c⟩) (hg : glL[i]? = some (x, a)) (S : FnScope N ps (defScope st)) (hp : ps.length = 1) (hb : BindE x st ps)
    (body : ∀ u, Body w K mg base k x st a N [u] (p u)) : Def w K mg base (k + 1) x ps (Sp1 p) := by
  obtain ⟨fd, F⟩ := T.k.fn i _ hi
  refine ⟨a, fd, T.glo i hg, ?_, ?_, F.ok S (fun vs H Q E ⟨u, e, _⟩ => by rw [e, hp] <;> rfl) fun cdv A outer s H vs Q E hr ⟨u, e, h⟩ => by subst e; exact body u cdv A outer s H Q E hr h⟩
  · obtain ⟨oc, od, _, _, _, _, _, _, _, osl, _, lk, _⟩ := F.ex
    exact ⟨oc, od, osl, lk⟩
  obtain ⟨oc, od, dV, kV, doc, pm, an, cdv, ct, osl, e, lk, hcd, hD, hK⟩ := F.ex
  rcases hD with ⟨_, rfl⟩ | ⟨z, _⟩
  · subst e
    exact fun s us hu => .of_eq (hb kV doc pm an cdv ct us hu)
  · exact absurd rfl z
section
variable {w : World} {K : PySem.W.Frag} {mg : Str → Option Value} {base : Heap}
abbrev sp_answers (K : PySem.W.Frag) : Sp := Sp1 fun u H Q _ => ∃ (ca : Addr) (l : List Int), u = .ref ca ∧ SqL K H ca (l.map V.int) ∧ PyVbdcar.answers_asked l = true ∧ ∀ d H', H' d = some (.lst ((PyVbdcar.answers l).map V.int)) → Q (.ref d) H'
abbrev n_answers : List Str := ["calls", "house", "result", "place", "call", "begin", "behind", "rows", "answer"]
theorem sc_answers : FnScope n_answers ["calls"] (defScope s_answers) := ⟨rfl, rfl, rfl, by decide +kernel, rfl, by decide +kernel, by decide +kernel⟩
theorem d_answers (T : Tx w K mg)  : Def w K mg base 94 "answers" ["calls"] (sp_answers K) :=
  mkDef1 T f_answers rfl rfl sc_answers rfl (fun _ _ _ _ _ _ us hl => match us, hl with | [_], _ => rfl) fun u cdv A outer s H Q E hr h =>
  ⟨_, (pss_cons (ps_set (i := 1) sc_answers.nd rfl (Or.inl rfl) (pe_mk0 (m_House T) hr pz))
  (pss_cons (ps_set (i := 2) sc_answers.nd rfl (Or.inl rfl) (pe_lst pa_nil))
  (pss_cons (ps_set (i := 3) sc_answers.nd rfl (Or.inl rfl) pe_int)
  (pss_cons (ps_while (passes_of rfl) (pt_cmpR op_lt (pv 3) (pe_callB call_len_seq (by rfl) T.fr_len (by decide +kernel) (pa_cons (pv 0) pa_nil)) (nomark _)) (pss_cons (ps_set (i := 4) sc_answers.nd rfl (Or.inl rfl) (pe_ix ix_list (pv 0) (pv 3) (fun _ _ => rfl)))
  (pss_cons (ps_set (i := 5) sc_answers.nd rfl (Or.inl rfl) (pe_op op_add (pv 3) pe_int))
  (pss_cons (ps_set (i := 6) sc_answers.nd rfl (Or.inl rfl) (pe_op op_add (pv 5) (pe_ix ix_tup (pe_gr T.k_WHOLE) (pv 4) (fun _ _ => rfl))))
  (pss_cons (ps_asg (pe_c (d_read_rows T) hr pz (pa_cons (pv 0) (pa_cons (pv 6) (pa_cons (pe_ix ix_tup (pe_gr T.k_LISTS) (pv 4) (fun _ _ => rfl)) pa_nil)))) (pg_tup rfl (pgs_cons (pg_name (i := 7) sc_answers.nd rfl (Or.inl rfl)) (pgs_cons (pg_name (i := 3) sc_answers.nd rfl (Or.inl rfl)) pgs_nil))))
  (pss_cons (ps_set (i := 8) sc_answers.nd rfl (Or.inl rfl) (pe_c (d_answer_to T) hr pz (pa_cons (pv 1) (pa_cons (pv 4) (pa_cons (pe_slice sl_list (pv 0) (po_some (pv 5)) (po_some (pv 6))) (pa_cons (pv 7) pa_nil))))))
  (pss_cons (ps_expr (pe_bm PySem.F.plainAttrs_list PySem.F.slot_list_append PySem.F.type_list_append mt_append (pv 2) (pa_cons (pe_callB call_len_seq (by rfl) T.fr_len (by decide +kernel) (pa_cons (pv 8) pa_nil)) pa_nil)))
  (pss_one (ps_expr (pe_bm PySem.F.plainAttrs_list PySem.F.slot_list_extend PySem.F.type_list_extend mt_extend (pv 2) (pa_cons (pv 8) pa_nil)))))))))))
  (pss_one (ps_ret (pv 2))))))), by
  obtain ⟨ca, l, rfl, hl, hasked, q⟩ := h
  obtain ⟨raw, hraw, hask, hans, h7⟩ := asked_all hasked
  refine k_sset (fun x dx hx hdx hne => ⟨_, rfl, x, dx, rfl, upd_same, fun L pl pz hL hpl hpz => ?_⟩)
  have e0 := ((Ext.refl (Same.refl H)).tmp (o := .own x) hdx)
  have hx0 : (L2.upd H dx (.own x)) x = none := by rw [upd_ne (Ne.symm hne)]; exact hx
  have e1 := e0.tmp (o := .ins cHouse dx []) hx0
  have e2 := e1.tmp (o := .lst [.non]) hL
  have e3 := e2.tmp (o := .lst nones) hpl
  have e4 := e3.mut (o := .ins cHouse dx [("places", .ref pl)]) hx hx
  have e5 := e4.new (o := .lst []) hpz
  have nxpz : x ≠ pz := ne_of_none upd_same hpz
  have nxL : x ≠ L := ne_of_none upd_same hL
  have nxpl : x ≠ pl := by
    intro e
    rw [← e, upd_ne nxL, upd_same] at hpl
    cases hpl
  have nplz : pl ≠ pz := by
    intro e
    rw [← e, upd_ne (Ne.symm nxpl), upd_same] at hpz
    cases hpz
  have hIx : (L2.upd H pz (.lst [])) x = none := by rw [upd_ne nxpz]; exact hx
  have e6 := e5.mut (o := .ins cHouse dx (houseF pl pz)) hx hIx
  have hHpl : H pl = none := by
    cases hh : H pl with
    | none => rfl
    | some o => rw [e2.hh _ _ hh] at hpl; cases hpl
  have A0 : HAt H H x (L2.upd H pz (.lst [])) _ VbdcarNeutral.start := ⟨e6, ⟨dx, pl, pz, nones, upd_same, by rw [upd_ne (Ne.symm nxpl), upd_ne nplz, upd_ne (Ne.symm nxpl)]; exact upd_same, rfl, nones_at, upd_same, hx, hHpl, hIx, by rw [upd_ne nplz]; exact hHpl⟩, start_ok⟩
  refine ⟨rfl, k_sset ⟨by rw [sizeLine_eq]; exact Nat.zero_le _, fun D hD => ?_⟩⟩
  obtain ⟨G1, A1, iD, g1⟩ := A0.own0 hD (.lst [])
  refine ⟨AnsW K ca l x D, ⟨l.length, _, G1, _, _, [], 0, raw, none, none, none, none, none, A1, iD, g1, e6.ii.seq hl, Nat.zero_le _, hraw, hask, hans.symm, rfl⟩, fun m σ H1 ⟨I0, G, I, s, res, e, cs, o4, o5, o6, o7, o8, A, i0, g, hl0, he, hcs, hak, heq, es⟩ => ?_⟩
  subst es
  have hlI := A.ext.ii.seq hl0
  have hlH := A.ext.ih.seq hlI
  have hDH := A.ext.hh _ _ g
  have hmap : (l.map V.int).length = l.length := List.length_map _
  refine ⟨_, rfl, _, rfl, ca, _, rfl, .inl hlH, _, _, rfl, rfl, _, rfl, ?_⟩
  rw [hmap]
  by_cases hlt : e < l.length
  · rw [decide_eq_true (by omega)]
    refine iteT ⟨fun σ' H' => ∃ m', m' < m ∧ AnsW K ca l x D m' σ' H', fun σ' H' h => h, ?_⟩
    obtain ⟨m', p, n, k, xs, t, cs', rfl, hp, hsh, hle, hrows, hxl, rfl, hcs'⟩ := calls_step hcs hlt
    have hwl : ((l.drop (e + 1)).take n).length = n := by rw [List.length_take, List.length_drop]; omega
    obtain ⟨d, hd1, rfl, hd3, hd4, hd5, hW, hL, hk2⟩ := call_of hsh hwl hxl (hak _ (List.mem_cons_self ..))
    have hpp : (l.map V.int)[e]? = some (.int ((callNo d : Nat) : Int)) := by rw [List.getElem?_map, hp]; rfl
    rw [List.map_cons, played_cons hd1, told_cons] at heq
    have hlen : res.length + (1 + (Vbdcar.step s d).2.length) ≤ 10000000 := by
      have := congrArg List.length heq
      rw [List.length_append, List.length_cons, List.length_append] at this
      omega
    refine k_sset ⟨_, rfl, _, rfl, ca, _, _, _, rfl, rfl, hlH, atI_nat hpp, ?_⟩
    refine k_sset ⟨_, rfl, _, _, rfl, rfl, ?_⟩
    refine k_sset ⟨_, rfl, _, rfl, _, _, _, _, rfl, rfl, T.t_WHOLE _, atI_nat hW, _, _, rfl, rfl, ?_⟩
    refine k_sasg ⟨_, rfl, _, rfl, _, rfl, _, _, _, _, rfl, rfl, T.t_LISTS _, atI_nat hL, _, _, _, rfl, I, ca, l, e + 1 + n, k, xs, t, A.ext.ih, rfl, hlH, rfl, hle, rfl, hk2, hrows, fun tp ra rs e' I2 H2 ex htp hra R he' hte => ?_⟩
    refine ⟨tp, _, rfl, .inl (.inl (ex.ih _ _ htp)), rfl, _, _, rfl, _, _, rfl, rfl, ?_⟩
    have A2 := A.step ex
    refine k_sset ⟨_, rfl, _, rfl, _, rfl, _, rfl, _, rfl, _, rfl, _, rfl, ca, _, rfl, ex.hh.seq hlH, fun S hS => ?_⟩
    have hcut : cutV (l.map V.int) (some (((e : Nat) : Int) + 1)) (some (((e : Nat) : Int) + 1 + (n : Nat))) = ((l.drop (e + 1)).take n).map V.int := by
      have := cutMid (xs := l.map V.int) (n := e + 1) (m := e + 1 + n) (by omega) (by rw [List.length_map]; exact hle)
      rw [show e + 1 + n - (e + 1) = n by omega, ← List.map_drop, ← List.map_take] at this
      exact this
    rw [hcut]
    have ey := (Ext.refl A2.ext.ih).new (o := .lst (((l.drop (e + 1)).take n).map V.int)) hS
    have A3 := A2.step ey
    refine ⟨_, rfl, _, _, _, _, rfl, I0, G, x, _, s, d, rfl, A3, ⟨S, ra, rs, rfl, rfl, (by rw [hd3]; exact upd_same), rfl, ey.hh _ _ (ex.ih _ _ hra), (by rw [hd4]; exact R.mono (ex.ih.trans ey.hh)), hd5⟩, by omega, fun a I4 H4 A4 ha => ?_⟩
    have haH := A4.ext.ih _ _ ha
    have hDa := A4.ext.hh _ _ g
    refine ⟨_, rfl, .inl ⟨rfl, _, .inl (.inl hDa)⟩, _, rfl, a, _, rfl, .inl (.inl (.inl haH)), D, _, _, rfl, rfl, hDa, by rw [List.length_map, sizeLine_eq]; omega, ?_⟩
    obtain ⟨G5, A5, i5, g5⟩ := A4.own i0 g (.lst (res.map V.int ++ [V.int ((((Vbdcar.step s d).2.map V.int).length : Nat) : Int)]))
    have hDb := A5.ext.hh _ _ g5
    refine ⟨_, rfl, .inl ⟨rfl, _, .inl (.inl hDb)⟩, _, rfl, D, a, _, _, rfl, rfl, hDb, A5.ext.ih _ _ ha, ?_, ?_⟩
    · rw [List.length_append, List.length_map, List.length_map, sizeLine_eq]; simp; omega
    obtain ⟨G6, A6, i6, g6⟩ := A5.own i5 g5 (.lst (res.map V.int ++ [V.int ((((Vbdcar.step s d).2.map V.int).length : Nat) : Int)] ++ (Vbdcar.step s d).2.map V.int))
    refine ⟨m', Nat.lt_succ_self _, _, G6, _, _, res ++ ((Vbdcar.step s d).2.length : Int) :: (Vbdcar.step s d).2, e', cs', some (.int (callNo d : Nat)), some (.int (((e : Nat) : Int) + 1)), some (.int (((e : Nat) : Int) + 1 + (n : Nat))), some (.ref ra), some (.ref a), A6, i6, ?_, ?_, he', by rw [hte]; exact hcs', fun c hc => hak c (List.mem_cons_of_mem _ hc), ?_, rfl⟩
    · rw [g6, List.length_map, List.map_append, List.map_cons, List.append_assoc]
      rfl
    · exact A4.ext.ii.seq hl0
    · rw [← heq, List.append_assoc, List.cons_append]
  · rw [decide_eq_false (by omega)]
    have hdrop : l.drop e = [] := List.drop_eq_nil_of_le (by omega)
    rw [hdrop] at hcs
    have hcs0 : cs = [] := by
      cases m <;> (unfold PyFlat.calls at hcs; cases hcs; rfl)
    subst hcs0
    have heq : res ++ [] = PyVbdcar.answers l := heq
    rw [List.append_nil] at heq
    subst heq
    exact iteF ⟨_, rfl, q D H1 hDH⟩⟩
end
end Fin
end Bd


end
/-! ## BdEnd -/
namespace Bd
open PySem PySem.Spec PyProof.Rows L2
theorem glB_cons {x : Str} {v : GV} {r : List (Str × GV)} {e : DictEntry} {es : List DictEntry} (h1 : (match e.key with | .str y _ => decide (x = y) | _ => false) = true) (h2 : gvB v e.val = true) (h3 : glB r es = true) : glB ((x, v) :: r) (e :: es) = true := by
  show ((match e.key with | .str y _ => decide (x = y) | _ => false) && (gvB v e.val && glB r es)) = true
  rw [h1, h2, h3]
  rfl
theorem sb_glB : ∀ {l : List (Str × Int)} {es : List DictEntry}, es.map (fun e => (match e.key with | .str x _ => x | _ => "?", match e.val with | .int i _ => i | _ => -1)) = l → (∀ q, q ∈ l → q.1 ≠ "?" ∧ q.2 ≠ -1) → glB (l.map fun q => (q.1, GV.int q.2)) es = true
  | _, [], h, _ => by subst h; rfl
  | _, e :: es, h, hn => by
    subst h
    rw [List.map_cons] at hn ⊢
    have h0 := hn _ (List.mem_cons_self ..)
    have ih := sb_glB (l := es.map _) (es := es) rfl fun q hq => hn q (List.mem_cons_of_mem _ hq)
    cases hk : e.key with
    | str x t =>
      cases hv : e.val with
      | int i t2 =>
        exact glB_cons (by rw [hk]; exact decide_eq_true rfl) (by rw [hv]; exact decide_eq_true rfl) ih
      | _ => rw [hv] at h0; exact absurd rfl h0.2
    | _ => rw [hk] at h0; exact absurd rfl h0.1
theorem sb_ne : ∀ q, q ∈ sbL → q.1 ≠ "?" ∧ q.2 ≠ -1 := by
  have : (sbL.all fun q => decide (q.1 ≠ "?" ∧ q.2 ≠ -1)) = true := by decide +kernel
  intro q hq
  exact of_decide_eq_true (List.all_eq_true.mp this q hq)
theorem sb_look : (sbL.all fun q => decide (look (sbL.map fun q => (q.1, GV.int q.2)) q.1 = some (.int q.2))) = true := by decide +kernel
theorem sb_free {x : Str} (h : ∀ n, (x, n) ∉ sbL) : look (sbL.map fun q => (q.1, GV.int q.2)) x = none := by
  unfold look
  rw [Option.map_eq_none_iff, List.find?_eq_none]
  intro q hq e
  rw [List.mem_map] at hq
  obtain ⟨q0, hq0, rfl⟩ := hq
  have e : q0.1 = x := of_decide_eq_true e
  exact h q0.2 (by rw [← e]; exact hq0)
theorem tx_of {g : Addr → Option Obj} {w : World} (h : obB g = valB w) : TxK w (He.frG g adL) := by
  have h1 : chkT g (He.frG g adL) = true := congrArg (fun z : AlB => z.1.1) h
  have h2 : (fnL.map fun d => fnX (g d.at_)) = fnL.map Fd.val := congrArg (fun z : AlB => z.1.2) h
  have h3 : He.dicW (He.frG g adL) aSIGN_BYTES = some (He.keysIn w.params (sbL.map (·.1))) := congrArg (fun z : AlB => z.2) h
  generalize hK : He.frG g adL = K at h1 h3
  unfold chkT at h1
  obtain ⟨c0, h1⟩ := He.ba h1
  obtain ⟨c1, h1⟩ := He.ba h1
  obtain ⟨c2, h1⟩ := He.ba h1
  obtain ⟨c3, h1⟩ := He.ba h1
  obtain ⟨c4, h1⟩ := He.ba h1
  obtain ⟨c5, c6⟩ := He.ba h1
  have main : ∃ c d es n sl, K.lookup mainGlobals = some ⟨c, d, .dict es n, sl⟩ ∧ glB gL es.toList = true := by
    split at c0
    · rename_i c d es n sl hq
      exact ⟨_, _, _, _, _, hq, c0⟩
    · cases c0
  obtain ⟨mc, md, mes, mn, msl, m1, m2⟩ := main
  unfold sbB at c5
  have sbt : ∃ c d es n sl, K.lookup aSIGN_BYTES = some ⟨c, d, .dict es n, sl⟩ ∧ glB (sbL.map fun q => (q.1, GV.int q.2)) es.toList = true := by
    split at c5
    · rename_i c d es n sl hq
      exact ⟨c, d, es, n, sl, hq, sb_glB (of_decide_eq_true (He.ba c5).1) sb_ne⟩
    · cases c5
  obtain ⟨sc, sd, ses, sn, ssl, s1, s2⟩ := sbt
  refine ⟨fun i x a e => ?_, fun i x e => ?_, fun i x n e => ?_, ?_, fun i d e => ?_, fun i C f l e => cl_at (all_at c2 e), fun i C f l e => ex_at (all_at c3 e), fun i a vs e H => tp_at (all_at c4 e) H, He.dicW_ok h3, fun i x n e => ?_, fun x hx => ns_none s1 s2 (sb_free hx), ?_⟩
  · obtain ⟨u, k1, k2⟩ := ns_some m1 m2 (x := x) (v := .ref a) (of_decide_eq_true (all_at glo_look e))
    rw [k1, gv_ref k2]
  · exact ns_none m1 m2 (of_decide_eq_true (all_at fre_look e))
  · obtain ⟨u, k1, k2⟩ := ns_some m1 m2 (x := x) (v := .int n) (of_decide_eq_true (all_at int_look e))
    obtain ⟨t, rfl⟩ := gv_int k2
    exact ⟨t, k1⟩
  · obtain ⟨u, k1, k2⟩ := ns_some m1 m2 let_look
    obtain ⟨t, rfl⟩ := gv_str k2
    exact ⟨t, k1⟩
  · have e2 : (fnL.map fun d => fnX (g d.at_))[i]? = (fnL.map Fd.val)[i]? := by rw [h2]
    rw [List.getElem?_map, List.getElem?_map, e] at e2
    have := fun_at (Option.some.inj e2) (all_at c1 e) (all_at fn_in e)
    rw [hK] at this
    exact this
  · obtain ⟨u, k1, k2⟩ := ns_some s1 s2 (x := x) (v := .int n) (of_decide_eq_true (all_at sb_look e))
    obtain ⟨t, rfl⟩ := gv_int k2
    exact ⟨t, k1⟩
  · unfold sgB at c6
    split at c6
    · rename_i c es n sl hq
      obtain ⟨z1, z⟩ := He.ba c6
      obtain ⟨z2, z⟩ := He.ba z
      obtain ⟨z3, z4⟩ := He.ba z
      have e1 : c = "dict" := of_decide_eq_true z1
      have e2 : sl = #[] := Array.isEmpty_iff.mp z2
      subst e1 e2
      exact ⟨es, n, hq, (by cases hy : (aSIGNS == sysModules) with | false => rfl | true => rw [hy] at z3; cases z3), z4⟩
    · cases c6
/-! ## the end: the head's facts stand over whatever the call finds -/
def hookB : PySem.W.Hook := { α := AlB, obs := fun s => obB s.heap.get?, val := valB, says := fun w h => ∃ K : PySem.W.Frag, K.In h ∧ TxK w K, of := fun _ _ e => ⟨_, He.frG_in, tx_of e⟩, keeps := fun _ _ _ z kp => z.imp fun _ y => ⟨y.1.keeps kp, y.2⟩ }
theorem run_all (w : World) : RunB w := PySem.W.byRow2 "special-get-raises" run_f run_t w
theorem ob_hook (s : PySem.W.SharedT) : obB (HandSHeadRun.getT s) = hookB.obs s.abs := congrArg obB (funext fun a => HandSHeadRun.getT_eq s a)
/-- what the one asked def must keep, over any head's facts: the facts' own part of the heap may be another at each world -/
theorem walk_own {r : PySem.W.OpenSpec} {k : Nat} {q : Program} {ls : List Str} {XP : (Str → Option Value) → Heap → Prop} {YP : World → Heap → Prop} {d : PySem.DefRec} {ps : List Str} (hwell : r.wellSaid = true) (hlen : r.args.length = ps.length) (hr : Room k callerA)
    (F : ∀ (w : World) (mg : Str → Option Value) (fa : Addr) (h : Heap), YP w h → h.Ns mainGlobals mg → mg d.name = some (.ref fa) → ∃ (K : PySem.W.Frag) (fd : FuncData) (sp : Sp), K.In h ∧ (∀ (s : Shared) (us : List Value), us.length = ps.length → BindsTo s fd ⟨us, []⟩ (ps.zip us)) ∧
      (∀ B : Heap, K.In B → B.Ns mainGlobals mg → FnOk r.prog w K mg B (L2.CX r.prog w) k fa fd ps sp) ∧
      ∀ (H : Hp) (xs : List V) (a : PySem.W.Codec.denoteAll r.args), OnlyF H → PySem.W.Codec.withinAll r.args a = true → PySem.W.Codec.app r.args r.asked a = true → DwAll K H xs (PySem.W.Codec.encAll r.args a) → sp xs H (fun v H' => Dw K H' v (r.ret.enc (PySem.W.Codec.app r.args r.f a))) fun _ _ _ => False) :
    PySem.W.WalkOS q ls XP YP r d [] fun f vs => PySem.call f vs := fun w s0 s1 mg mb G Y fa o pm cd doc dV kV ho hd hcd hD hmg hg args us as hpre hlay hrd hwl hlo => by
  obtain ⟨a, e1, e2⟩ := PySem.W.os_pre_some hpre
  obtain ⟨rfl, hwi⟩ := PySem.W.Codec.encAll_of_decAll r.args args a e1
  obtain ⟨K, fd, sp, KX, hb, hF, hsp⟩ := F w mg fa _ Y G.T.g hmg
  have z := spec_call (R := []) (cl := classAt s0.heap) (d0 := r.ret.enc (PySem.W.Codec.app r.args r.f a)) KX G.T.g G.T.b G.T.builtins G.T.nolimit hg hwl (pl_encAll _ _) (layable_weight hlay) hr hF hb (by rw [encAll_len, hlen]) (fun H xs hO hS => hsp H xs a hO hwi e2 hS) (fun _ _ _ ⟨_, _, _, _, _, _, _, _, _, _, _, _, f⟩ => f)
  refine PySem.W.enter_call (codeAny_mono z fun t s' ⟨u, as', e, q1, q2, q3, q4⟩ => ?_)
  subst e
  exact ⟨.inl ⟨u, _, as', rfl, fun _ => rfl, q1, (PySem.W.OpenSpec.post_iff hwell hwi _ _).mpr rfl, fun n => by cases n⟩, q2, q3, q4⟩
end Bd
open PySem PySem.W PySem.Calls PyProof.Rows
set_option maxRecDepth 100000 in
set_option maxHeartbeats 0 in
theorem PySem.Challenge.cw_bidplay_s01_answers_holds : PySem.Challenge.rw_bidplay_s01_answers.Holds := by
  refine HandSHeadRun.head_spec (q := Bd.qv) (H := Bd.hookB) (ob := fun s => Bd.obB (HandSHeadRun.getT s)) (M := 8000) (loose := Bd.names) Bd.ob_hook ?e ?f Bd.run_all (by rfl) (by rfl) (by rfl) os_shapes Bd.said ?ok ?bare ?wit ?call
  case e => kernel_rfl
  case f => intro s; kernel_rfl
  case ok => exact Bd.view_ok
  case bare => exact ⟨rfl, rfl, rfl, rfl, rfl, by decide +kernel⟩
  case wit => exact ⟨[.list [.int 10]], by decide +kernel, by decide +kernel⟩
  case call =>
    refine Bd.walk_own (k := 94) (ps := ["calls"]) Bd.said rfl ⟨rfl, by decide, by decide⟩ fun w mg fa h Y G hmg => ?_
    obtain ⟨K, KX, T⟩ := Y
    have T2 : Bd.Tx w K mg := ⟨T, h, KX, G⟩
    obtain ⟨f, fd, e1, ⟨oc, od, osl, lk⟩, hb, _⟩ := (Bd.Fin.d_answers (base := h) T2).ex
    have ef : fa = f := by
      have z := hmg.symm.trans e1
      injection z with z
      injection z
    subst ef
    refine ⟨K, fd, Bd.Fin.sp_answers K, KX, hb, fun B hB hN => ?_, fun H xs a hO hwi hask hx => ?_⟩
    · obtain ⟨f2, fd2, e2, ⟨oc2, od2, osl2, lk2⟩, _, F⟩ := (Bd.Fin.d_answers (base := B) T2).ex
      have ef : f2 = fa := by
        have z := e2.symm.trans e1
        injection z with z
        injection z
      subst ef
      have ed : fd2 = fd := by
        have z := lk2.symm.trans lk
        injection z with z
        injection z with _ _ z _
        injection z
      subst ed
      exact F
    · cases hx with
      | cons h1 h2 =>
        cases h2
        cases h1 with
        | lst hs ha =>
          have e := L2.ints_dw a.1 _ ha
          subst e
          exact ⟨_, rfl, _, a.1, rfl, hs, hask, fun D H' hD => .lst (L2.SqL.of hD) (L2.dw_ints _)⟩

