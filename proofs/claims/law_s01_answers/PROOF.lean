import PyProof.Rows.All
import Wide.All
import OpenK.AllK
import Wide.FinOn
import PyProof.EqAt
import PyProof.EqKinds
import PyProof.TupleCall
import KE.KStateDown
import Open.SpecLaws
import KE.OsGo
import HandS.ForSpec
import HandS.Comp
import HandS.Iter
import HandS.More
import HandS.ExcInit
import HandS.ExcField
import HandS.Small
import HandS.Deep
import HandS.TupAny
import HandS.Sort
import HandS.SortInts
import HandS.Set
import HandS.Strs
import HandS.SetFor
import HandS.Zip
import HandS.Flow
import HandS.Defaults
import HandS.Head0
import HandS.Head1
import HandS.Head2
import HandS.HeadEnd
import HandS.HeadHook1
import HandS.HeadHook2
import PySem.Challenge.RW_partpacks_s01_answers
set_option Elab.async false
set_option linter.all false
set_option maxRecDepth 100000
set_option maxHeartbeats 4000000
namespace PP
open PySem PySem.Spec PyProof.Rows L2
/-! ### the text by places -/
def top (i : Nat) : Stmt := PySem.Challenge.pw_partpacks_s01_answers.main.body.getD i (.Pass ⟨0, 0, 0, 0⟩)
abbrev s_sizes_of : Stmt := top 3
abbrev s_loads_of : Stmt := top 4
abbrev s_cost_of : Stmt := top 5
abbrev s_total_of : Stmt := top 6
abbrev s_reached_of : Stmt := top 7
abbrev s_plans_of : Stmt := top 8
abbrev s_best_plan : Stmt := top 9
abbrev s_entered_before : Stmt := top 10
abbrev s_is_letter : Stmt := top 42
abbrev s_is_digit : Stmt := top 43
abbrev s_behind_gap : Stmt := top 44
abbrev s_behind_name : Stmt := top 45
abbrev s_behind_digits : Stmt := top 46
abbrev s_refuse : Stmt := top 47
abbrev s_number_of : Stmt := top 48
abbrev s_token_at : Stmt := top 49
abbrev s_tokens_of : Stmt := top 50
abbrev s_token : Stmt := top 76
abbrev s_is_next : Stmt := top 77
abbrev s_go_on : Stmt := top 78
abbrev s_take : Stmt := top 79
abbrev s_check_name : Stmt := top 80
abbrev s_take_number : Stmt := top 81
abbrev s_take_new : Stmt := top 82
abbrev s_take_known : Stmt := top 83
abbrev s_setting_names : Stmt := top 84
abbrev s_part_names : Stmt := top 85
abbrev s_take_word : Stmt := top 86
abbrev s_take_setting : Stmt := top 87
abbrev s_take_piece : Stmt := top 88
abbrev s_take_make : Stmt := top 89
abbrev s_take_call : Stmt := top 90
abbrev s_take_say : Stmt := top 91
abbrev s_take_when : Stmt := top 92
abbrev s_take_row : Stmt := top 93
abbrev s_take_rows : Stmt := top 94
abbrev s_take_part : Stmt := top 95
abbrev s_take_entry : Stmt := top 96
abbrev s_take_start : Stmt := top 97
abbrev s_program_of : Stmt := top 98
abbrev s_assignment_count : Stmt := top 104
abbrev s_words_of : Stmt := top 105
abbrev s_made_name : Stmt := top 106
abbrev s_enter : Stmt := top 107
abbrev s_enter_named : Stmt := top 108
abbrev s_do_rows : Stmt := top 109
abbrev s_run_of : Stmt := top 110
abbrev s_runs_of : Stmt := top 111
abbrev s_check : Stmt := top 128
abbrev s_load : Stmt := top 129
abbrev s_plan_told : Stmt := top 130
abbrev s_packs : Stmt := top 131
abbrev s_check_part : Stmt := top 132
abbrev s_check_cost : Stmt := top 133
abbrev s_run_told : Stmt := top 134
abbrev s_cost : Stmt := top 135
abbrev s_run_cost : Stmt := top 136
abbrev s_before : Stmt := top 137
abbrev s_best : Stmt := top 138
abbrev s_move : Stmt := top 139
abbrev s_there : Stmt := top 140
abbrev s_answered : Stmt := top 141
abbrev s_answer : Stmt := top 142
abbrev s_answers : Stmt := top 143
abbrev s_Fault_init : Stmt := inClass (top 40) 0
abbrev s_Token_init : Stmt := inClass (top 41) 0
abbrev s_Setting_init : Stmt := inClass (top 72) 0
abbrev s_Part_init : Stmt := inClass (top 73) 0
abbrev s_Program_init : Stmt := inClass (top 74) 0
abbrev s_Reader_init : Stmt := inClass (top 75) 0
abbrev s_Run_init : Stmt := inClass (top 103) 0
abbrev s_Refused_init : Stmt := inClass (top 126) 0
abbrev s_Desk_init : Stmt := inClass (top 127) 0
def fnT_0 : List He.DefD := [  ⟨("sizes_of", none), "sizes_of", "sizes_of", defArgs s_sizes_of, defBody s_sizes_of, defScope s_sizes_of, [], []⟩,   ⟨("loads_of", none), "loads_of", "loads_of", defArgs s_loads_of, defBody s_loads_of, defScope s_loads_of, [], []⟩,   ⟨("cost_of", none), "cost_of", "cost_of", defArgs s_cost_of, defBody s_cost_of, defScope s_cost_of, [], []⟩,   ⟨("total_of", none), "total_of", "total_of", defArgs s_total_of, defBody s_total_of, defScope s_total_of, [], []⟩,   ⟨("reached_of", none), "reached_of", "reached_of", defArgs s_reached_of, defBody s_reached_of, defScope s_reached_of, [], []⟩,   ⟨("plans_of", none), "plans_of", "plans_of", defArgs s_plans_of, defBody s_plans_of, defScope s_plans_of, [], []⟩,   ⟨("best_plan", none), "best_plan", "best_plan", defArgs s_best_plan, defBody s_best_plan, defScope s_best_plan, [], []⟩,   ⟨("entered_before", none), "entered_before", "entered_before", defArgs s_entered_before, defBody s_entered_before, defScope s_entered_before, [], []⟩,   ⟨("is_letter", none), "is_letter", "is_letter", defArgs s_is_letter, defBody s_is_letter, defScope s_is_letter, [], []⟩,   ⟨("is_digit", none), "is_digit", "is_digit", defArgs s_is_digit, defBody s_is_digit, defScope s_is_digit, [], []⟩,   ⟨("behind_gap", none), "behind_gap", "behind_gap", defArgs s_behind_gap, defBody s_behind_gap, defScope s_behind_gap, [], []⟩,   ⟨("behind_name", none), "behind_name", "behind_name", defArgs s_behind_name, defBody s_behind_name, defScope s_behind_name, [], []⟩,   ⟨("behind_digits", none), "behind_digits", "behind_digits", defArgs s_behind_digits, defBody s_behind_digits, defScope s_behind_digits, [], []⟩,   ⟨("refuse", none), "refuse", "refuse", defArgs s_refuse, defBody s_refuse, defScope s_refuse, [], []⟩,   ⟨("number_of", none), "number_of", "number_of", defArgs s_number_of, defBody s_number_of, defScope s_number_of, [], []⟩,   ⟨("token_at", none), "token_at", "token_at", defArgs s_token_at, defBody s_token_at, defScope s_token_at, [], []⟩,   ⟨("tokens_of", none), "tokens_of", "tokens_of", defArgs s_tokens_of, defBody s_tokens_of, defScope s_tokens_of, [], []⟩,   ⟨("token", none), "token", "token", defArgs s_token, defBody s_token, defScope s_token, [], []⟩,   ⟨("is_next", none), "is_next", "is_next", defArgs s_is_next, defBody s_is_next, defScope s_is_next, [], []⟩,   ⟨("go_on", none), "go_on", "go_on", defArgs s_go_on, defBody s_go_on, defScope s_go_on, [], []⟩]
def fnT_1 : List He.DefD := [  ⟨("take", none), "take", "take", defArgs s_take, defBody s_take, defScope s_take, [], []⟩,   ⟨("check_name", none), "check_name", "check_name", defArgs s_check_name, defBody s_check_name, defScope s_check_name, [], []⟩,   ⟨("take_number", none), "take_number", "take_number", defArgs s_take_number, defBody s_take_number, defScope s_take_number, [], []⟩,   ⟨("take_new", none), "take_new", "take_new", defArgs s_take_new, defBody s_take_new, defScope s_take_new, [], []⟩,   ⟨("take_known", none), "take_known", "take_known", defArgs s_take_known, defBody s_take_known, defScope s_take_known, [], []⟩,   ⟨("setting_names", none), "setting_names", "setting_names", defArgs s_setting_names, defBody s_setting_names, defScope s_setting_names, [], []⟩,   ⟨("part_names", none), "part_names", "part_names", defArgs s_part_names, defBody s_part_names, defScope s_part_names, [], []⟩,   ⟨("take_word", none), "take_word", "take_word", defArgs s_take_word, defBody s_take_word, defScope s_take_word, [], []⟩,   ⟨("take_setting", none), "take_setting", "take_setting", defArgs s_take_setting, defBody s_take_setting, defScope s_take_setting, [], []⟩,   ⟨("take_piece", none), "take_piece", "take_piece", defArgs s_take_piece, defBody s_take_piece, defScope s_take_piece, [], []⟩,   ⟨("take_make", none), "take_make", "take_make", defArgs s_take_make, defBody s_take_make, defScope s_take_make, [], []⟩,   ⟨("take_call", none), "take_call", "take_call", defArgs s_take_call, defBody s_take_call, defScope s_take_call, [], []⟩,   ⟨("take_say", none), "take_say", "take_say", defArgs s_take_say, defBody s_take_say, defScope s_take_say, [], []⟩,   ⟨("take_when", none), "take_when", "take_when", defArgs s_take_when, defBody s_take_when, defScope s_take_when, [], []⟩,   ⟨("take_row", none), "take_row", "take_row", defArgs s_take_row, defBody s_take_row, defScope s_take_row, [], []⟩,   ⟨("take_rows", none), "take_rows", "take_rows", defArgs s_take_rows, defBody s_take_rows, defScope s_take_rows, [], []⟩,   ⟨("take_part", none), "take_part", "take_part", defArgs s_take_part, defBody s_take_part, defScope s_take_part, [], []⟩,   ⟨("take_entry", none), "take_entry", "take_entry", defArgs s_take_entry, defBody s_take_entry, defScope s_take_entry, [], []⟩,   ⟨("take_start", none), "take_start", "take_start", defArgs s_take_start, defBody s_take_start, defScope s_take_start, [], []⟩,   ⟨("program_of", none), "program_of", "program_of", defArgs s_program_of, defBody s_program_of, defScope s_program_of, [], []⟩]
def fnT_2 : List He.DefD := [  ⟨("assignment_count", none), "assignment_count", "assignment_count", defArgs s_assignment_count, defBody s_assignment_count, defScope s_assignment_count, [], []⟩,   ⟨("words_of", none), "words_of", "words_of", defArgs s_words_of, defBody s_words_of, defScope s_words_of, [], []⟩,   ⟨("made_name", none), "made_name", "made_name", defArgs s_made_name, defBody s_made_name, defScope s_made_name, [], []⟩,   ⟨("enter", none), "enter", "enter", defArgs s_enter, defBody s_enter, defScope s_enter, [], []⟩,   ⟨("enter_named", none), "enter_named", "enter_named", defArgs s_enter_named, defBody s_enter_named, defScope s_enter_named, [], []⟩,   ⟨("do_rows", none), "do_rows", "do_rows", defArgs s_do_rows, defBody s_do_rows, defScope s_do_rows, [], []⟩,   ⟨("run_of", none), "run_of", "run_of", defArgs s_run_of, defBody s_run_of, defScope s_run_of, [], []⟩,   ⟨("runs_of", none), "runs_of", "runs_of", defArgs s_runs_of, defBody s_runs_of, defScope s_runs_of, [], []⟩,   ⟨("check", none), "check", "check", defArgs s_check, defBody s_check, defScope s_check, [], []⟩,   ⟨("load", none), "load", "load", defArgs s_load, defBody s_load, defScope s_load, [], []⟩,   ⟨("plan_told", none), "plan_told", "plan_told", defArgs s_plan_told, defBody s_plan_told, defScope s_plan_told, [], []⟩,   ⟨("packs", none), "packs", "packs", defArgs s_packs, defBody s_packs, defScope s_packs, [], []⟩,   ⟨("check_part", none), "check_part", "check_part", defArgs s_check_part, defBody s_check_part, defScope s_check_part, [], []⟩,   ⟨("check_cost", none), "check_cost", "check_cost", defArgs s_check_cost, defBody s_check_cost, defScope s_check_cost, [], []⟩,   ⟨("run_told", none), "run_told", "run_told", defArgs s_run_told, defBody s_run_told, defScope s_run_told, [], []⟩,   ⟨("cost", none), "cost", "cost", defArgs s_cost, defBody s_cost, defScope s_cost, [], []⟩,   ⟨("run_cost", none), "run_cost", "run_cost", defArgs s_run_cost, defBody s_run_cost, defScope s_run_cost, [], []⟩,   ⟨("before", none), "before", "before", defArgs s_before, defBody s_before, defScope s_before, [], []⟩,   ⟨("best", none), "best", "best", defArgs s_best, defBody s_best, defScope s_best, [], []⟩,   ⟨("move", none), "move", "move", defArgs s_move, defBody s_move, defScope s_move, [], []⟩]
def fnT_3 : List He.DefD := [  ⟨("there", none), "there", "there", defArgs s_there, defBody s_there, defScope s_there, [], []⟩,   ⟨("answered", none), "answered", "answered", defArgs s_answered, defBody s_answered, defScope s_answered, [], []⟩,   ⟨("answer", none), "answer", "answer", defArgs s_answer, defBody s_answer, defScope s_answer, [], []⟩,   ⟨("answers", none), "answers", "answers", defArgs s_answers, defBody s_answers, defScope s_answers, [], []⟩,   ⟨("Fault", some "__init__"), "__init__", "Fault.__init__", defArgs s_Fault_init, defBody s_Fault_init, defScope s_Fault_init, [], []⟩,   ⟨("Token", some "__init__"), "__init__", "Token.__init__", defArgs s_Token_init, defBody s_Token_init, defScope s_Token_init, [], []⟩,   ⟨("Setting", some "__init__"), "__init__", "Setting.__init__", defArgs s_Setting_init, defBody s_Setting_init, defScope s_Setting_init, [], []⟩,   ⟨("Part", some "__init__"), "__init__", "Part.__init__", defArgs s_Part_init, defBody s_Part_init, defScope s_Part_init, [], []⟩,   ⟨("Program", some "__init__"), "__init__", "Program.__init__", defArgs s_Program_init, defBody s_Program_init, defScope s_Program_init, [], []⟩,   ⟨("Reader", some "__init__"), "__init__", "Reader.__init__", defArgs s_Reader_init, defBody s_Reader_init, defScope s_Reader_init, [], []⟩,   ⟨("Run", some "__init__"), "__init__", "Run.__init__", defArgs s_Run_init, defBody s_Run_init, defScope s_Run_init, [], []⟩,   ⟨("Refused", some "__init__"), "__init__", "Refused.__init__", defArgs s_Refused_init, defBody s_Refused_init, defScope s_Refused_init, [], []⟩,   ⟨("Desk", some "__init__"), "__init__", "Desk.__init__", defArgs s_Desk_init, defBody s_Desk_init, defScope s_Desk_init, [], []⟩]
def fnT : List He.DefD := fnT_0 ++ fnT_1 ++ fnT_2 ++ fnT_3
def globs_0 : List Str := ["sizes_of", "loads_of", "cost_of", "total_of", "reached_of", "plans_of", "best_plan", "entered_before", "is_letter", "is_digit", "behind_gap", "behind_name", "behind_digits", "refuse", "number_of", "token_at", "tokens_of", "token", "is_next", "go_on"]
def globs_1 : List Str := ["take", "check_name", "take_number", "take_new", "take_known", "setting_names", "part_names", "take_word", "take_setting", "take_piece", "take_make", "take_call", "take_say", "take_when", "take_row", "take_rows", "take_part", "take_entry", "take_start", "program_of"]
def globs_2 : List Str := ["assignment_count", "words_of", "made_name", "enter", "enter_named", "do_rows", "run_of", "runs_of", "check", "load", "plan_told", "packs", "check_part", "check_cost", "run_told", "cost", "run_cost", "before", "best", "move"]
def globs_3 : List Str := ["there", "answered", "answer", "answers", "Fault", "Token", "Setting", "Part", "Program", "Reader", "Ends", "Run", "Refused", "Desk", "BLANKS", "SIGNS", "SET", "PART", "SIZE", "START"]
def globs_4 : List Str := ["SAY", "CALL", "MAKE", "WHEN", "IS", "WORDS", "WHOLES", "LISTS"]
def globs : List Str := globs_0 ++ globs_1 ++ globs_2 ++ globs_3 ++ globs_4
def frees : List Str := ["zip", "sum", "range", "len", "sorted", "set", "list", "tuple", "max"]
def clss : List Str := ["Token", "Setting", "Part", "Program", "Reader", "Run", "Desk"]
def noats_0 : List (Str × Str) := [("Fault", "code"), ("Fault", "place"), ("Token", "kind"), ("Token", "what"), ("Token", "place"), ("Setting", "name"), ("Setting", "words"), ("Part", "name"), ("Part", "size"), ("Part", "rows"), ("Program", "settings"), ("Program", "parts"), ("Program", "entries"), ("Reader", "tokens"), ("Reader", "at"), ("Reader", "called"), ("Run", "program"), ("Run", "entry"), ("Run", "assignment"), ("Run", "words")]
def noats_1 : List (Str × Str) := [("Run", "done"), ("Run", "within"), ("Run", "entered"), ("Refused", "number"), ("Desk", "program"), ("Desk", "runs"), ("Desk", "plan")]
def noats : List (Str × Str) := noats_0 ++ noats_1
def intsT_0 : List (Str × Int) := [("PACKS", 4), ("UNREACHED", 3), ("LINE_END", 10), ("REMARK", 35), ("PLUS", 43), ("COMMA", 44), ("COLON", 58), ("ENDS", 59), ("OPENS", 123), ("CLOSES", 125), ("NAME", 1), ("WORD", 2), ("NUMBER", 3), ("SIGN", 4), ("END", 5), ("MOST_NAME", 16), ("MOST_NUMBER", 1000000000), ("NO_TOKEN", 2), ("TOO_LONG", 1), ("NOT_ALLOWED", 3)]
def intsT_1 : List (Str × Int) := [("TOO_MANY_reading", 4), ("NAMED", 5), ("ENTERED", 6), ("NOT_WITHIN", 7), ("UNKNOWN", 8), ("NO_PART_reading", 9), ("MOST_BYTES", 4096), ("MOST_SETTINGS", 3), ("MOST_WORDS", 4), ("MOST_PARTS", 10), ("MOST_PIECES", 3), ("MOST_ENTRIES", 4), ("MOST_WITHIN_reading", 3), ("MOST_SIZE", 99), ("SAYS", 1), ("CALLS", 2), ("MAKES", 3), ("ASKS", 4), ("MOST_ROWS", 100), ("MOST_WITHIN_runs", 9)]
def intsT_2 : List (Str × Int) := [("NO_PROGRAM", -1), ("NO_ENTRY", -2), ("NO_ASSIGNMENT", -3), ("NO_PART_packs", -4), ("NO_COST", -5), ("NO_PACK", -6), ("TOO_MANY_packs", -7), ("MOST_COST", 1000), ("MOST_RUNS", 32), ("MOST_REACHED", 6), ("WITH_NONE", -1)]
def intsT : List (Str × Int) := intsT_0 ++ intsT_1 ++ intsT_2
def excs : List Str := ["Fault", "Ends", "Refused"]
def tupsT : List (Str × List He.Dv) := [("BLANKS", [.int 32, .int 9, .int 10]), ("SIGNS", [.int 43, .int 44, .int 58, .int 59, .int 123, .int 125]), ("SET", [.int 115, .int 101, .int 116]), ("PART", [.int 112, .int 97, .int 114, .int 116]), ("SIZE", [.int 115, .int 105, .int 122, .int 101]), ("START", [.int 115, .int 116, .int 97, .int 114, .int 116]), ("SAY", [.int 115, .int 97, .int 121]), ("CALL", [.int 99, .int 97, .int 108, .int 108]), ("MAKE", [.int 109, .int 97, .int 107, .int 101]), ("WHEN", [.int 119, .int 104, .int 101, .int 110]), ("IS", [.int 105, .int 115]), ("WORDS", [.glo "SET", .glo "PART", .glo "SIZE", .glo "START", .glo "SAY", .glo "CALL", .glo "MAKE", .glo "WHEN", .glo "IS"]), ("WHOLES", [.int 0, .int 0, .int 1, .int 2, .int 1, .int 2, .int 2, .int 3]), ("LISTS", [.int 1, .int 1, .int 0, .int 0, .int 0, .int 0, .int 0, .int 0])]
def loose0 : List PySem.Str := ["PACKS", "UNREACHED", "sizes_of", "loads_of", "cost_of", "total_of", "reached_of", "plans_of", "best_plan", "entered_before", "BLANKS", "LINE_END", "REMARK", "PLUS", "COMMA", "COLON", "ENDS", "OPENS", "CLOSES", "SIGNS"]
def loose1 : List PySem.Str := ["SET", "PART", "SIZE", "START", "SAY", "CALL", "MAKE", "WHEN", "IS", "WORDS", "NAME", "WORD", "NUMBER", "SIGN", "END", "MOST_NAME", "MOST_NUMBER", "NO_TOKEN", "Fault", "Token"]
def loose2 : List PySem.Str := ["is_letter", "is_digit", "behind_gap", "behind_name", "behind_digits", "refuse", "number_of", "token_at", "tokens_of", "TOO_LONG", "NOT_ALLOWED", "TOO_MANY_reading", "NAMED", "ENTERED", "NOT_WITHIN", "UNKNOWN", "NO_PART_reading", "MOST_BYTES", "MOST_SETTINGS", "MOST_WORDS"]
def loose3 : List PySem.Str := ["MOST_PARTS", "MOST_PIECES", "MOST_ENTRIES", "MOST_WITHIN_reading", "MOST_SIZE", "SAYS", "CALLS", "MAKES", "ASKS", "Setting", "Part", "Program", "Reader", "token", "is_next", "go_on", "take", "check_name", "take_number", "take_new"]
def loose4 : List PySem.Str := ["take_known", "setting_names", "part_names", "take_word", "take_setting", "take_piece", "take_make", "take_call", "take_say", "take_when", "take_row", "take_rows", "take_part", "take_entry", "take_start", "program_of", "MOST_ROWS", "MOST_WITHIN_runs", "Ends", "Run"]
def loose5 : List PySem.Str := ["assignment_count", "words_of", "made_name", "enter", "enter_named", "do_rows", "run_of", "runs_of", "NO_PROGRAM", "NO_ENTRY", "NO_ASSIGNMENT", "NO_PART_packs", "NO_COST", "NO_PACK", "TOO_MANY_packs", "MOST_COST", "MOST_RUNS", "MOST_REACHED", "WITH_NONE", "WHOLES"]
def loose6 : List PySem.Str := ["LISTS", "Refused", "Desk", "check", "load", "plan_told", "packs", "check_part", "check_cost", "run_told", "cost", "run_cost", "before", "best", "move", "there", "answered", "answer"]
def looseT : List PySem.Str := loose0 ++ loose1 ++ loose2 ++ loose3 ++ loose4 ++ loose5 ++ loose6
def facts : List He.Fa := globs.map He.Fa.glo ++ (frees.map He.Fa.free ++ (clss.map He.Fa.cls ++ (noats.map (fun q => He.Fa.noat q.1 q.2) ++ (intsT.map (fun q => He.Fa.int q.1 q.2) ++ (clss.map He.Fa.mkr ++ ([He.Fa.exc "Ends"] ++ (excs.map (fun x => He.Fa.exm x x true) ++ excs.map He.Fa.keep)))))))
/-! ### an own error with an __init__ of its own, by a look -/
def oexB (K : PySem.W.Frag) (C : Addr) : Bool := match K.lookup C with
  | some ⟨.type "type", _, .cls cd, sl⟩ => (match cd.mro, sl.toList with
    | .ref C' :: bm, [_, _, _, _, some (.builtin n), _] => C' == C && (n == "ValueError.__new__" && (!cd.hasDel && (cd.hasDict && PySem.HandSPX.refsVE bm)))
    | _, _ => false)
  | _ => false
theorem oexB_ok {K : PySem.W.Frag} {C : Addr} (q : oexB K C = true) : ∃ nm q N bs bm sn sub ab col dd k0 k1 k2 k3 k5, K.lookup C = some (excClassObj nm q C N bs bm true sn sub ab col dd k0 k1 k2 k3 k5 "ValueError.__new__") ∧ PySem.HandSPX.refsVE bm = true := by
  unfold oexB at q
  split at q
  · rename_i dd cd sl ho
    split at q
    · rename_i C' bm k0 k1 k2 k3 n k5 hm hs
      simp only [Bool.and_eq_true, beq_iff_eq, Bool.not_eq_true'] at q
      obtain ⟨rfl, rfl, hdel, hdict, hr⟩ := q
      obtain ⟨nm, bs, mro, ns, qn, hd, sn, sub, ab, col, del⟩ := cd
      dsimp only at hm hdel hdict
      subst hm hdel hdict
      have hsl : sl = #[k0, k1, k2, k3, some (.builtin "ValueError.__new__"), k5] := by
        obtain ⟨l⟩ := sl
        simp only at hs
        rw [hs]
      subst hsl
      exact ⟨nm, qn, ns, bs, bm, sn, sub, ab, col, dd, k0, k1, k2, k3, k5, ho, hr⟩
    · cases q
  · cases q
def oneE (K : PySem.W.Frag) (x : Str) : Bool := oexB K (He.ga K x) && (xfB K (He.ga K x) && (He.eqO (PySem.W.findIn K (.ref (He.ga K x)) "__setattr__") (some (some (.builtin "object.__setattr__"))) && (decide (PySem.W.subIn K (.ref (He.ga K x)) (.type "BaseException") = some true) && (decide (PySem.W.typeIn K (.ref (He.ga K x)) = some (.type "type")) &&
  (PySem.W.keepIn K (.ref (He.ga K x)) && (He.eqO (PySem.W.findIn K (.ref (He.ga K x)) "__init__") (some (some (.ref (He.ma K (He.ga K x) "__init__")))) && decide (PySem.W.typeIn K (.ref (He.ma K (He.ga K x) "__init__")) = some (.type "function"))))))))
/-- what the written part says of such a class -/
structure OwnE (K : PySem.W.Frag) (x : Str) : Prop where
  o : OexC K (He.ga K x)
  f : XfC K (He.ga K x)
  i : PySem.W.findIn K (.ref (He.ga K x)) "__init__" = some (some (.ref (He.ma K (He.ga K x) "__init__")))
  t : PySem.W.typeIn K (.ref (He.ma K (He.ga K x) "__init__")) = some (.type "function")
theorem oneE_ok {K : PySem.W.Frag} {x : Str} (h : oneE K x = true) : OwnE K x := by
  obtain ⟨h1, h⟩ := He.ba h
  obtain ⟨h2, h⟩ := He.ba h
  obtain ⟨h3, h⟩ := He.ba h
  obtain ⟨h4, h⟩ := He.ba h
  obtain ⟨h5, h⟩ := He.ba h
  obtain ⟨h6, h⟩ := He.ba h
  obtain ⟨h7, h8⟩ := He.ba h
  exact ⟨⟨oexB_ok h1, He.eqO_ok h3, of_decide_eq_true h4, of_decide_eq_true h5, h6⟩, xfB_ok h2, He.eqO_ok h7, of_decide_eq_true h8⟩
def exB (K : PySem.W.Frag) : Bool := (tupsT.all fun p => He.tupB K p.1 p.2) && (oneE K "Fault" && oneE K "Refused")
abbrev AlP : Type := He.AlD × Bool
def obsP (n : Nat) (g : Addr → Option Obj) : AlP := (He.obsDG n facts fnT g, exB (He.frG g (He.asD g n)))
def hookP (n : Nat) : PySem.W.Hook where
  α := AlP
  obs := fun s => obsP n s.heap.get?
  val := fun _ => (He.valD fnT, true)
  says := fun _ h => ∃ K : PySem.W.Frag, K.In h ∧ He.SaysD facts fnT K ∧ exB K = true
  of := fun _ _ e => ⟨_, He.frG_in, congrArg (fun z : AlP => z.1) e, congrArg (fun z : AlP => z.2) e⟩
  keeps := fun _ _ _ ⟨K, hK, c⟩ k => ⟨K, PySem.W.Frag.In.keeps hK k, c⟩
theorem obsP_eq {n : Nat} {g : Addr → Option Obj} {s : Shared} (h : ∀ a, g a = s.heap.get? a) : obsP n g = (hookP n).obs s := by
  have e : g = s.heap.get? := funext h
  rw [e] <;> rfl
/-! ### what the top has written -/
structure Txt (K : PySem.W.Frag) (mg : Str → Option Value) : Prop where
  d : He.SaysD facts fnT K
  x : exB K = true
  h : ∃ h : Heap, K.In h ∧ h.Ns mainGlobals mg
/-- a module's name stands for a value -/
def MgV (mg : Str → Option Value) (x : Str) (v : V) : Prop := ∃ u, mg x = some u ∧ RelV v u
/-- a def of the module -/
structure Df (K : PySem.W.Frag) (mg : Str → Option Value) (x : Str) (st : Stmt) (ps : List Str) : Prop where
  g : mg x = some (.ref (He.ga K x))
  f : ∃ fd, FunD K x x (defArgs st) (defBody st) (defScope st) [] [] (He.ga K x) fd ∧ Binds K fd ps []
/-- a class's __init__ -/
structure Di (K : PySem.W.Frag) (C : Str) (st : Stmt) (ps : List Str) : Prop where
  f : ∃ fd qual, FunD K "__init__" qual (defArgs st) (defBody st) (defScope st) [] [] (He.ma K (He.ga K C) "__init__") fd ∧ Binds K fd ps []
section
variable {K : PySem.W.Frag} {mg : Str → Option Value}
theorem facts_of (T : Txt K mg) {f : He.Fa} (h : f ∈ facts) : f.ok K = true := by
  have c1 := (He.ba (show ((facts.all fun f => f.ok K) && fnT.all fun d => d.ok K) = true from congrArg (fun z : He.AlD => z.1) T.d)).1
  exact List.all_eq_true.mp c1 f h
theorem Txt.g (T : Txt K mg) (x : Str) (h : globs.contains x = true := by decide +kernel) : mg x = some (.ref (He.ga K x)) := by
  obtain ⟨hp, X, G⟩ := T.h
  exact He.glo_ok X G (facts_of T (List.mem_append_left _ (List.mem_map_of_mem (List.contains_iff_mem.mp h))))
theorem Txt.free (T : Txt K mg) (x : Str) (h : frees.contains x = true := by decide +kernel) : mg x = none := by
  obtain ⟨hp, X, G⟩ := T.h
  exact He.free_ok X G (facts_of T (List.mem_append_right _ (List.mem_append_left _ (List.mem_map_of_mem (List.contains_iff_mem.mp h)))))
theorem Txt.cls (T : Txt K mg) (x : Str) (h : clss.contains x = true := by decide +kernel) : Cls K (He.ga K x) :=
  He.cls_ok (facts_of T (List.mem_append_right _ (List.mem_append_right _ (List.mem_append_left _ (List.mem_map_of_mem (List.contains_iff_mem.mp h))))))
theorem Txt.noat (T : Txt K mg) (x f : Str) (h : noats.contains (x, f) = true := by decide +kernel) : NoAttr K (He.ga K x) f :=
  He.noat_ok (facts_of T (List.mem_append_right _ (List.mem_append_right _ (List.mem_append_right _ (List.mem_append_left _ (List.mem_map_of_mem (f := fun q : Str × Str => He.Fa.noat q.1 q.2) (List.contains_iff_mem.mp h)))))))
theorem Txt.int (T : Txt K mg) (x : Str) (i : Int) (h : intsT.contains (x, i) = true := by decide +kernel) : MgV mg x (.int i) := by
  obtain ⟨hp, X, G⟩ := T.h
  obtain ⟨t, e⟩ := He.int_ok X G (facts_of T (List.mem_append_right _ (List.mem_append_right _ (List.mem_append_right _ (List.mem_append_right _ (List.mem_append_left _ (List.mem_map_of_mem (f := fun q : Str × Int => He.Fa.int q.1 q.2) (List.contains_iff_mem.mp h))))))))
  exact ⟨_, e, t, rfl⟩
theorem Txt.mkr (T : Txt K mg) (x : Str) (h : clss.contains x = true := by decide +kernel) : Mk K (He.ga K x) (He.ma K (He.ga K x) "__init__") :=
  He.mkr_ok (facts_of T (List.mem_append_right _ (List.mem_append_right _ (List.mem_append_right _ (List.mem_append_right _ (List.mem_append_right _ (List.mem_append_left _ (List.mem_map_of_mem (List.contains_iff_mem.mp h)))))))))
theorem Txt.exc (T : Txt K mg) : PySem.W.excIn K (He.ga K "Ends") He.veBase "ValueError.__new__" = true ∧ PySem.W.keepIn K (.ref (He.ga K "Ends")) = true ∧ PySem.W.subIn K (.ref (He.ga K "Ends")) (.type "BaseException") = some true ∧
    PySem.W.typeIn K (.ref (He.ga K "Ends")) = some (.type "type") :=
  He.exc_ok (facts_of T (List.mem_append_right _ (List.mem_append_right _ (List.mem_append_right _ (List.mem_append_right _ (List.mem_append_right _ (List.mem_append_right _ (List.mem_append_left _ (List.mem_cons_self)))))))))
theorem Txt.exm (T : Txt K mg) (x : Str) (h : excs.contains x = true := by decide +kernel) : PySem.W.exmOne K (.ref (He.ga K x)) (.ref (He.ga K x)) = some true :=
  He.exm_ok (facts_of T (List.mem_append_right _ (List.mem_append_right _ (List.mem_append_right _ (List.mem_append_right _ (List.mem_append_right _ (List.mem_append_right _ (List.mem_append_right _ (List.mem_append_left _ (List.mem_map_of_mem (f := fun x : Str => He.Fa.exm x x true) (List.contains_iff_mem.mp h)))))))))))
theorem Txt.tup (T : Txt K mg) (x : Str) (vs : List He.Dv) (h : (x, vs) ∈ tupsT) (H : Hp) : SqT K H (He.ga K x) (vs.map (He.Dv.v K)) :=
  He.tupB_ok (List.all_eq_true.mp (He.ba T.x).1 (x, vs) h) H
theorem Txt.fault (T : Txt K mg) : OwnE K "Fault" := oneE_ok (He.ba (He.ba T.x).2).1
theorem Txt.refused (T : Txt K mg) : OwnE K "Refused" := oneE_ok (He.ba (He.ba T.x).2).2
theorem Txt.df (T : Txt K mg) {st : Stmt} {ps : List Str} (i : Nat) (x : Str) (h : fnT[i]? = some ⟨(x, none), x, x, defArgs st, defBody st, defScope st, [], []⟩)
    (hb : ∀ (kV doc pm : Value) (an : Option Addr) (cdv ct : Value) (us : List Value), us.length = ps.length → bindArgs (PySem.W.fnOf x x (defArgs st) (defBody st) (defScope st) .none kV doc pm an cdv ct) ⟨us, []⟩ = pure (ps.zip us))
    (hg : globs.contains x = true := by decide +kernel) : Df K mg x st ps := by
  obtain ⟨fd, F⟩ := T.d.def_ i h
  exact ⟨T.g x hg, fd, F, FunD.bindsN F hb⟩
theorem Txt.di (T : Txt K mg) {st : Stmt} {ps : List Str} {qual : Str} (i : Nat) (C : Str) (h : fnT[i]? = some ⟨(C, some "__init__"), "__init__", qual, defArgs st, defBody st, defScope st, [], []⟩)
    (hb : ∀ (kV doc pm : Value) (an : Option Addr) (cdv ct : Value) (us : List Value), us.length = ps.length → bindArgs (PySem.W.fnOf "__init__" qual (defArgs st) (defBody st) (defScope st) .none kV doc pm an cdv ct) ⟨us, []⟩ = pure (ps.zip us)) : Di K C st ps := by
  obtain ⟨fd, F⟩ := T.d.def_ i h
  exact ⟨fd, qual, F, FunD.bindsN F hb⟩
theorem Txt.d_sizes_of (T : Txt K mg) : Df K mg "sizes_of" s_sizes_of ["program", "plan"] := T.df 0 "sizes_of" rfl fun _ _ _ _ _ _ us hl => match us, hl with | [_, _], _ => rfl
theorem Txt.d_loads_of (T : Txt K mg) : Df K mg "loads_of" s_loads_of ["run", "plan"] := T.df 1 "loads_of" rfl fun _ _ _ _ _ _ us hl => match us, hl with | [_, _], _ => rfl
theorem Txt.d_cost_of (T : Txt K mg) : Df K mg "cost_of" s_cost_of ["run", "plan", "sizes", "more"] := T.df 2 "cost_of" rfl fun _ _ _ _ _ _ us hl => match us, hl with | [_, _, _, _], _ => rfl
theorem Txt.d_total_of (T : Txt K mg) : Df K mg "total_of" s_total_of ["program", "runs", "plan", "more"] := T.df 3 "total_of" rfl fun _ _ _ _ _ _ us hl => match us, hl with | [_, _, _, _], _ => rfl
theorem Txt.d_reached_of (T : Txt K mg) : Df K mg "reached_of" s_reached_of ["runs"] := T.df 4 "reached_of" rfl fun _ _ _ _ _ _ us hl => match us, hl with | [_], _ => rfl
theorem Txt.d_plans_of (T : Txt K mg) : Df K mg "plans_of" s_plans_of ["program", "reached"] := T.df 5 "plans_of" rfl fun _ _ _ _ _ _ us hl => match us, hl with | [_, _], _ => rfl
theorem Txt.d_best_plan (T : Txt K mg) : Df K mg "best_plan" s_best_plan ["program", "runs", "more", "first"] := T.df 6 "best_plan" rfl fun _ _ _ _ _ _ us hl => match us, hl with | [_, _, _, _], _ => rfl
theorem Txt.d_entered_before (T : Txt K mg) : Df K mg "entered_before" s_entered_before ["runs", "part"] := T.df 7 "entered_before" rfl fun _ _ _ _ _ _ us hl => match us, hl with | [_, _], _ => rfl
theorem Txt.d_is_letter (T : Txt K mg) : Df K mg "is_letter" s_is_letter ["byte"] := T.df 8 "is_letter" rfl fun _ _ _ _ _ _ us hl => match us, hl with | [_], _ => rfl
theorem Txt.d_is_digit (T : Txt K mg) : Df K mg "is_digit" s_is_digit ["byte"] := T.df 9 "is_digit" rfl fun _ _ _ _ _ _ us hl => match us, hl with | [_], _ => rfl
theorem Txt.d_behind_gap (T : Txt K mg) : Df K mg "behind_gap" s_behind_gap ["text", "at"] := T.df 10 "behind_gap" rfl fun _ _ _ _ _ _ us hl => match us, hl with | [_, _], _ => rfl
theorem Txt.d_behind_name (T : Txt K mg) : Df K mg "behind_name" s_behind_name ["text", "at"] := T.df 11 "behind_name" rfl fun _ _ _ _ _ _ us hl => match us, hl with | [_, _], _ => rfl
theorem Txt.d_behind_digits (T : Txt K mg) : Df K mg "behind_digits" s_behind_digits ["text", "at"] := T.df 12 "behind_digits" rfl fun _ _ _ _ _ _ us hl => match us, hl with | [_, _], _ => rfl
theorem Txt.d_refuse (T : Txt K mg) : Df K mg "refuse" s_refuse ["is_wrong", "code", "place"] := T.df 13 "refuse" rfl fun _ _ _ _ _ _ us hl => match us, hl with | [_, _, _], _ => rfl
theorem Txt.d_number_of (T : Txt K mg) : Df K mg "number_of" s_number_of ["digits", "place"] := T.df 14 "number_of" rfl fun _ _ _ _ _ _ us hl => match us, hl with | [_, _], _ => rfl
theorem Txt.d_token_at (T : Txt K mg) : Df K mg "token_at" s_token_at ["text", "at"] := T.df 15 "token_at" rfl fun _ _ _ _ _ _ us hl => match us, hl with | [_, _], _ => rfl
theorem Txt.d_tokens_of (T : Txt K mg) : Df K mg "tokens_of" s_tokens_of ["text"] := T.df 16 "tokens_of" rfl fun _ _ _ _ _ _ us hl => match us, hl with | [_], _ => rfl
theorem Txt.d_token (T : Txt K mg) : Df K mg "token" s_token ["reader"] := T.df 17 "token" rfl fun _ _ _ _ _ _ us hl => match us, hl with | [_], _ => rfl
theorem Txt.d_is_next (T : Txt K mg) : Df K mg "is_next" s_is_next ["reader", "kind", "what"] := T.df 18 "is_next" rfl fun _ _ _ _ _ _ us hl => match us, hl with | [_, _, _], _ => rfl
theorem Txt.d_go_on (T : Txt K mg) : Df K mg "go_on" s_go_on ["reader"] := T.df 19 "go_on" rfl fun _ _ _ _ _ _ us hl => match us, hl with | [_], _ => rfl
theorem Txt.d_take (T : Txt K mg) : Df K mg "take" s_take ["reader", "kind", "what"] := T.df 20 "take" rfl fun _ _ _ _ _ _ us hl => match us, hl with | [_, _, _], _ => rfl
theorem Txt.d_check_name (T : Txt K mg) : Df K mg "check_name" s_check_name ["reader"] := T.df 21 "check_name" rfl fun _ _ _ _ _ _ us hl => match us, hl with | [_], _ => rfl
theorem Txt.d_take_number (T : Txt K mg) : Df K mg "take_number" s_take_number ["reader"] := T.df 22 "take_number" rfl fun _ _ _ _ _ _ us hl => match us, hl with | [_], _ => rfl
theorem Txt.d_take_new (T : Txt K mg) : Df K mg "take_new" s_take_new ["reader", "known", "most", "code"] := T.df 23 "take_new" rfl fun _ _ _ _ _ _ us hl => match us, hl with | [_, _, _, _], _ => rfl
theorem Txt.d_take_known (T : Txt K mg) : Df K mg "take_known" s_take_known ["reader", "known"] := T.df 24 "take_known" rfl fun _ _ _ _ _ _ us hl => match us, hl with | [_, _], _ => rfl
theorem Txt.d_setting_names (T : Txt K mg) : Df K mg "setting_names" s_setting_names ["program"] := T.df 25 "setting_names" rfl fun _ _ _ _ _ _ us hl => match us, hl with | [_], _ => rfl
theorem Txt.d_part_names (T : Txt K mg) : Df K mg "part_names" s_part_names ["program"] := T.df 26 "part_names" rfl fun _ _ _ _ _ _ us hl => match us, hl with | [_], _ => rfl
theorem Txt.d_take_word (T : Txt K mg) : Df K mg "take_word" s_take_word ["reader", "rows", "most", "word"] := T.df 27 "take_word" rfl fun _ _ _ _ _ _ us hl => match us, hl with | [_, _, _, _], _ => rfl
theorem Txt.d_take_setting (T : Txt K mg) : Df K mg "take_setting" s_take_setting ["reader", "program"] := T.df 28 "take_setting" rfl fun _ _ _ _ _ _ us hl => match us, hl with | [_, _], _ => rfl
theorem Txt.d_take_piece (T : Txt K mg) : Df K mg "take_piece" s_take_piece ["reader", "pieces"] := T.df 29 "take_piece" rfl fun _ _ _ _ _ _ us hl => match us, hl with | [_, _], _ => rfl
theorem Txt.d_take_make (T : Txt K mg) : Df K mg "take_make" s_take_make ["reader"] := T.df 30 "take_make" rfl fun _ _ _ _ _ _ us hl => match us, hl with | [_], _ => rfl
theorem Txt.d_take_call (T : Txt K mg) : Df K mg "take_call" s_take_call ["reader"] := T.df 31 "take_call" rfl fun _ _ _ _ _ _ us hl => match us, hl with | [_], _ => rfl
theorem Txt.d_take_say (T : Txt K mg) : Df K mg "take_say" s_take_say ["reader"] := T.df 32 "take_say" rfl fun _ _ _ _ _ _ us hl => match us, hl with | [_], _ => rfl
theorem Txt.d_take_when (T : Txt K mg) : Df K mg "take_when" s_take_when ["reader", "program", "within"] := T.df 33 "take_when" rfl fun _ _ _ _ _ _ us hl => match us, hl with | [_, _, _], _ => rfl
theorem Txt.d_take_row (T : Txt K mg) : Df K mg "take_row" s_take_row ["reader", "program", "within"] := T.df 34 "take_row" rfl fun _ _ _ _ _ _ us hl => match us, hl with | [_, _, _], _ => rfl
theorem Txt.d_take_rows (T : Txt K mg) : Df K mg "take_rows" s_take_rows ["reader", "program", "within"] := T.df 35 "take_rows" rfl fun _ _ _ _ _ _ us hl => match us, hl with | [_, _, _], _ => rfl
theorem Txt.d_take_part (T : Txt K mg) : Df K mg "take_part" s_take_part ["reader", "program"] := T.df 36 "take_part" rfl fun _ _ _ _ _ _ us hl => match us, hl with | [_, _], _ => rfl
theorem Txt.d_take_entry (T : Txt K mg) : Df K mg "take_entry" s_take_entry ["reader", "program"] := T.df 37 "take_entry" rfl fun _ _ _ _ _ _ us hl => match us, hl with | [_, _], _ => rfl
theorem Txt.d_take_start (T : Txt K mg) : Df K mg "take_start" s_take_start ["reader", "program"] := T.df 38 "take_start" rfl fun _ _ _ _ _ _ us hl => match us, hl with | [_, _], _ => rfl
theorem Txt.d_program_of (T : Txt K mg) : Df K mg "program_of" s_program_of ["text"] := T.df 39 "program_of" rfl fun _ _ _ _ _ _ us hl => match us, hl with | [_], _ => rfl
theorem Txt.d_assignment_count (T : Txt K mg) : Df K mg "assignment_count" s_assignment_count ["program"] := T.df 40 "assignment_count" rfl fun _ _ _ _ _ _ us hl => match us, hl with | [_], _ => rfl
theorem Txt.d_words_of (T : Txt K mg) : Df K mg "words_of" s_words_of ["program", "assignment"] := T.df 41 "words_of" rfl fun _ _ _ _ _ _ us hl => match us, hl with | [_, _], _ => rfl
theorem Txt.d_made_name (T : Txt K mg) : Df K mg "made_name" s_made_name ["run", "pieces"] := T.df 42 "made_name" rfl fun _ _ _ _ _ _ us hl => match us, hl with | [_, _], _ => rfl
theorem Txt.d_enter (T : Txt K mg) : Df K mg "enter" s_enter ["run", "part"] := T.df 43 "enter" rfl fun _ _ _ _ _ _ us hl => match us, hl with | [_, _], _ => rfl
theorem Txt.d_enter_named (T : Txt K mg) : Df K mg "enter_named" s_enter_named ["run", "name"] := T.df 44 "enter_named" rfl fun _ _ _ _ _ _ us hl => match us, hl with | [_, _], _ => rfl
theorem Txt.d_do_rows (T : Txt K mg) : Df K mg "do_rows" s_do_rows ["run", "rows"] := T.df 45 "do_rows" rfl fun _ _ _ _ _ _ us hl => match us, hl with | [_, _], _ => rfl
theorem Txt.d_run_of (T : Txt K mg) : Df K mg "run_of" s_run_of ["program", "entry", "assignment"] := T.df 46 "run_of" rfl fun _ _ _ _ _ _ us hl => match us, hl with | [_, _, _], _ => rfl
theorem Txt.d_runs_of (T : Txt K mg) : Df K mg "runs_of" s_runs_of ["program"] := T.df 47 "runs_of" rfl fun _ _ _ _ _ _ us hl => match us, hl with | [_], _ => rfl
theorem Txt.d_check (T : Txt K mg) : Df K mg "check" s_check ["is_right", "number"] := T.df 48 "check" rfl fun _ _ _ _ _ _ us hl => match us, hl with | [_, _], _ => rfl
theorem Txt.d_load (T : Txt K mg) : Df K mg "load" s_load ["desk", "text"] := T.df 49 "load" rfl fun _ _ _ _ _ _ us hl => match us, hl with | [_, _], _ => rfl
theorem Txt.d_plan_told (T : Txt K mg) : Df K mg "plan_told" s_plan_told ["desk"] := T.df 50 "plan_told" rfl fun _ _ _ _ _ _ us hl => match us, hl with | [_], _ => rfl
theorem Txt.d_packs (T : Txt K mg) : Df K mg "packs" s_packs ["desk", "plan"] := T.df 51 "packs" rfl fun _ _ _ _ _ _ us hl => match us, hl with | [_, _], _ => rfl
theorem Txt.d_check_part (T : Txt K mg) : Df K mg "check_part" s_check_part ["desk", "part"] := T.df 52 "check_part" rfl fun _ _ _ _ _ _ us hl => match us, hl with | [_, _], _ => rfl
theorem Txt.d_check_cost (T : Txt K mg) : Df K mg "check_cost" s_check_cost ["number"] := T.df 53 "check_cost" rfl fun _ _ _ _ _ _ us hl => match us, hl with | [_], _ => rfl
theorem Txt.d_run_told (T : Txt K mg) : Df K mg "run_told" s_run_told ["desk", "entry", "assignment"] := T.df 54 "run_told" rfl fun _ _ _ _ _ _ us hl => match us, hl with | [_, _, _], _ => rfl
theorem Txt.d_cost (T : Txt K mg) : Df K mg "cost" s_cost ["desk", "more"] := T.df 55 "cost" rfl fun _ _ _ _ _ _ us hl => match us, hl with | [_, _], _ => rfl
theorem Txt.d_run_cost (T : Txt K mg) : Df K mg "run_cost" s_run_cost ["desk", "entry", "assignment"] := T.df 56 "run_cost" rfl fun _ _ _ _ _ _ us hl => match us, hl with | [_, _, _], _ => rfl
theorem Txt.d_before (T : Txt K mg) : Df K mg "before" s_before ["desk", "part"] := T.df 57 "before" rfl fun _ _ _ _ _ _ us hl => match us, hl with | [_, _], _ => rfl
theorem Txt.d_best (T : Txt K mg) : Df K mg "best" s_best ["desk", "more", "first"] := T.df 58 "best" rfl fun _ _ _ _ _ _ us hl => match us, hl with | [_, _, _], _ => rfl
theorem Txt.d_move (T : Txt K mg) : Df K mg "move" s_move ["desk", "part", "pack"] := T.df 59 "move" rfl fun _ _ _ _ _ _ us hl => match us, hl with | [_, _, _], _ => rfl
theorem Txt.d_there (T : Txt K mg) : Df K mg "there" s_there ["desk", "entry", "assignment", "part"] := T.df 60 "there" rfl fun _ _ _ _ _ _ us hl => match us, hl with | [_, _, _, _], _ => rfl
theorem Txt.d_answered (T : Txt K mg) : Df K mg "answered" s_answered ["desk", "kind", "wholes", "lists"] := T.df 61 "answered" rfl fun _ _ _ _ _ _ us hl => match us, hl with | [_, _, _, _], _ => rfl
theorem Txt.d_answer (T : Txt K mg) : Df K mg "answer" s_answer ["desk", "kind", "wholes", "lists"] := T.df 62 "answer" rfl fun _ _ _ _ _ _ us hl => match us, hl with | [_, _, _, _], _ => rfl
theorem Txt.d_answers (T : Txt K mg) : Df K mg "answers" s_answers ["calls"] := T.df 63 "answers" rfl fun _ _ _ _ _ _ us hl => match us, hl with | [_], _ => rfl
theorem Txt.i_Fault (T : Txt K mg) : Di K "Fault" s_Fault_init ["self", "code", "place"] := T.di 64 "Fault" rfl fun _ _ _ _ _ _ us hl => match us, hl with | [_, _, _], _ => rfl
theorem Txt.i_Token (T : Txt K mg) : Di K "Token" s_Token_init ["self", "kind", "what", "place"] := T.di 65 "Token" rfl fun _ _ _ _ _ _ us hl => match us, hl with | [_, _, _, _], _ => rfl
theorem Txt.i_Setting (T : Txt K mg) : Di K "Setting" s_Setting_init ["self", "name"] := T.di 66 "Setting" rfl fun _ _ _ _ _ _ us hl => match us, hl with | [_, _], _ => rfl
theorem Txt.i_Part (T : Txt K mg) : Di K "Part" s_Part_init ["self", "name", "size"] := T.di 67 "Part" rfl fun _ _ _ _ _ _ us hl => match us, hl with | [_, _, _], _ => rfl
theorem Txt.i_Program (T : Txt K mg) : Di K "Program" s_Program_init ["self"] := T.di 68 "Program" rfl fun _ _ _ _ _ _ us hl => match us, hl with | [_], _ => rfl
theorem Txt.i_Reader (T : Txt K mg) : Di K "Reader" s_Reader_init ["self", "tokens"] := T.di 69 "Reader" rfl fun _ _ _ _ _ _ us hl => match us, hl with | [_, _], _ => rfl
theorem Txt.i_Run (T : Txt K mg) : Di K "Run" s_Run_init ["self", "program", "entry", "assignment"] := T.di 70 "Run" rfl fun _ _ _ _ _ _ us hl => match us, hl with | [_, _, _, _], _ => rfl
theorem Txt.i_Refused (T : Txt K mg) : Di K "Refused" s_Refused_init ["self", "number"] := T.di 71 "Refused" rfl fun _ _ _ _ _ _ us hl => match us, hl with | [_, _], _ => rfl
theorem Txt.i_Desk (T : Txt K mg) : Di K "Desk" s_Desk_init ["self"] := T.di 72 "Desk" rfl fun _ _ _ _ _ _ us hl => match us, hl with | [_], _ => rfl
end
end PP

set_option Elab.async false
set_option linter.all false
set_option maxRecDepth 100000
set_option maxHeartbeats 4000000
namespace PP
open PySem PySem.Spec PyProof.Rows L2
/-! ### heaps: all but some addresses -/
/-- the heap without the addresses of M -/
def off (M : List Addr) (H : Hp) : Hp := fun b => if b ∈ M then none else H b
theorem off_some {M : List Addr} {H : Hp} {b : Addr} {o : HO} (h : off M H b = some o) : b ∉ M ∧ H b = some o := by
  unfold off at h
  split at h
  · cases h
  · exact ⟨by assumption, h⟩
theorem off_get {M : List Addr} {H : Hp} {b : Addr} {o : HO} (hb : b ∉ M) (h : H b = some o) : off M H b = some o := by
  unfold off
  rw [if_neg hb]
  exact h
theorem off_same {M : List Addr} {H : Hp} : Same (off M H) H := fun b o h => (off_some h).2
/-- what is off M stays -/
def Keep (M : List Addr) (H H' : Hp) : Prop := ∀ b o, b ∉ M → H b = some o → H' b = some o
theorem Keep.refl (M : List Addr) (H : Hp) : Keep M H H := fun _ _ _ h => h
theorem Keep.trans {M : List Addr} {H H1 H2 : Hp} (a : Keep M H H1) (b : Keep M H1 H2) : Keep M H H2 := fun c o hc h => b c o hc (a c o hc h)
theorem Keep.mono {M M' : List Addr} {H H' : Hp} (a : Keep M H H') (h : ∀ b ∈ M, b ∈ M') : Keep M' H H' := fun c o hc e => a c o (fun z => hc (h c z)) e
theorem Keep.of_same {M : List Addr} {H H' : Hp} (a : Same H H') : Keep M H H' := fun c o _ e => a c o e
theorem Keep.same {H H' : Hp} (a : Keep [] H H') : Same H H' := fun c o e => a c o (by simp) e
theorem Keep.off {M M' : List Addr} {H H' : Hp} (a : Keep M H H') (h : ∀ b ∈ M, b ∈ M') : Same (PP.off M' H) (PP.off M' H') := fun b o e => by
  obtain ⟨hb, e⟩ := off_some e
  exact off_get hb (a b o (fun z => hb (h b z)) e)
/-- new things at M are not in the way -/
theorem Keep.fresh {M N : List Addr} {H H' : Hp} (a : Keep (M ++ N) H H') (h : ∀ b ∈ N, H b = none) : Keep M H H' := fun c o hc e => a c o (fun z => by
  rcases List.mem_append.mp z with z | z
  · exact hc z
  · rw [h c z] at e
    cases e) e
theorem same_upd {H : Hp} {p : Addr} {o : HO} (h : H p = none) : Same H (upd H p o) := fun b u e => by
  rw [upd_ne (ne_of_none e h)]
  exact e
theorem keep_upd {H : Hp} {p : Addr} {o : HO} : Keep [p] H (upd H p o) := fun b u hb e => by
  rw [upd_ne (by simpa using hb)]
  exact e
theorem keep_updM {M : List Addr} {H : Hp} {p : Addr} {o : HO} (hp : p ∈ M) : Keep M H (upd H p o) := fun b u hb e => by
  rw [upd_ne (fun z => hb (by rw [z]; exact hp))]
  exact e
/-! ### defs and their promises -/
section
variable (P : Program) (w : World) (K : PySem.W.Frag) (mg : Str → Option Value) (base : Heap)
/-- the def x of the module keeps the promise sp -/
def Ok (k : Nat) (x : Str) (ps : List Str) (sp : Sp) : Prop := ∃ fd, mg x = some (.ref (He.ga K x)) ∧ PySem.W.keepIn K (.ref (He.ga K x)) = true ∧ Binds K fd ps [] ∧ FnOk P w K mg base (L2.CX P w) k (He.ga K x) fd ps sp
/-- the class x's __init__ keeps the promise sp -/
def OkI (k : Nat) (x : Str) (ps : List Str) (sp : Sp) : Prop := ∃ fd, Binds K fd ps [] ∧ FnOk P w K mg base (L2.CX P w) k (He.ma K (He.ga K x) "__init__") fd ps sp
end
section
variable {P : Program} {w : World} {K : PySem.W.Frag} {mg : Str → Option Value} {base : Heap}
theorem ok_mk {x : Str} {st : Stmt} {N ps : List Str} {k : Nat} {sp : Sp} (D : Df K mg x st ps) (S : FnScope N ps (defScope st)) (len : ∀ vs H Q E, sp vs H Q E → vs.length = ps.length)
    (hbody : ∀ (cdv : Value) (A : Around) (outer : List Env) (s : Shared) (H : Hp) (vs : List V) (Q : VK) (E : XK), Room k (A.deeper (envOfC x (defScope st) s.heap.objs.size (He.ga K x) cdv)) → sp vs H Q E →
      ∃ t, PSs (cxOf (L2.CX P w) P w K mg base N x (defScope st) (He.ga K x) cdv A outer s H E) (defBody st) t ∧ t { nx := fun _ H' => Q .non H', rt := Q } (start N vs) H) : Ok P w K mg base (k + 1) x ps sp := by
  obtain ⟨fd, F, b⟩ := D.f
  exact ⟨fd, D.g, F.kp, b, F.ok S len hbody⟩
theorem okI_mk {x : Str} {st : Stmt} {N ps : List Str} {k : Nat} {sp : Sp} (D : Di K x st ps) (S : FnScope N ps (defScope st)) (len : ∀ vs H Q E, sp vs H Q E → vs.length = ps.length)
    (hbody : ∀ (qual : Str) (cdv : Value) (A : Around) (outer : List Env) (s : Shared) (H : Hp) (vs : List V) (Q : VK) (E : XK), Room k (A.deeper (envOfC qual (defScope st) s.heap.objs.size (He.ma K (He.ga K x) "__init__") cdv)) → sp vs H Q E →
      ∃ t, PSs (cxOf (L2.CX P w) P w K mg base N qual (defScope st) (He.ma K (He.ga K x) "__init__") cdv A outer s H E) (defBody st) t ∧ t { nx := fun _ H' => Q .non H', rt := Q } (start N vs) H) : OkI P w K mg base (k + 1) x ps sp := by
  obtain ⟨fd, qual, F, b⟩ := D.f
  exact ⟨fd, b, F.ok S len (hbody qual)⟩
end
theorem Txt.gV {K : PySem.W.Frag} {mg : Str → Option Value} (T : Txt K mg) (x : Str) (h : globs.contains x = true := by decide +kernel) : MgV mg x (.ref (He.ga K x)) := ⟨_, T.g x h, rfl⟩
theorem Txt.t_BLANKS {K : PySem.W.Frag} {mg : Str → Option Value} (T : Txt K mg) (H : Hp) : SqT K H (He.ga K "BLANKS") [.int 32, .int 9, .int 10] := T.tup "BLANKS" [.int 32, .int 9, .int 10] (List.mem_of_getElem? (i := 0) rfl) H
theorem Txt.t_SIGNS {K : PySem.W.Frag} {mg : Str → Option Value} (T : Txt K mg) (H : Hp) : SqT K H (He.ga K "SIGNS") [.int 43, .int 44, .int 58, .int 59, .int 123, .int 125] := T.tup "SIGNS" [.int 43, .int 44, .int 58, .int 59, .int 123, .int 125] (List.mem_of_getElem? (i := 1) rfl) H
theorem Txt.t_SET {K : PySem.W.Frag} {mg : Str → Option Value} (T : Txt K mg) (H : Hp) : SqT K H (He.ga K "SET") [.int 115, .int 101, .int 116] := T.tup "SET" [.int 115, .int 101, .int 116] (List.mem_of_getElem? (i := 2) rfl) H
theorem Txt.t_PART {K : PySem.W.Frag} {mg : Str → Option Value} (T : Txt K mg) (H : Hp) : SqT K H (He.ga K "PART") [.int 112, .int 97, .int 114, .int 116] := T.tup "PART" [.int 112, .int 97, .int 114, .int 116] (List.mem_of_getElem? (i := 3) rfl) H
theorem Txt.t_SIZE {K : PySem.W.Frag} {mg : Str → Option Value} (T : Txt K mg) (H : Hp) : SqT K H (He.ga K "SIZE") [.int 115, .int 105, .int 122, .int 101] := T.tup "SIZE" [.int 115, .int 105, .int 122, .int 101] (List.mem_of_getElem? (i := 4) rfl) H
theorem Txt.t_START {K : PySem.W.Frag} {mg : Str → Option Value} (T : Txt K mg) (H : Hp) : SqT K H (He.ga K "START") [.int 115, .int 116, .int 97, .int 114, .int 116] := T.tup "START" [.int 115, .int 116, .int 97, .int 114, .int 116] (List.mem_of_getElem? (i := 5) rfl) H
theorem Txt.t_SAY {K : PySem.W.Frag} {mg : Str → Option Value} (T : Txt K mg) (H : Hp) : SqT K H (He.ga K "SAY") [.int 115, .int 97, .int 121] := T.tup "SAY" [.int 115, .int 97, .int 121] (List.mem_of_getElem? (i := 6) rfl) H
theorem Txt.t_CALL {K : PySem.W.Frag} {mg : Str → Option Value} (T : Txt K mg) (H : Hp) : SqT K H (He.ga K "CALL") [.int 99, .int 97, .int 108, .int 108] := T.tup "CALL" [.int 99, .int 97, .int 108, .int 108] (List.mem_of_getElem? (i := 7) rfl) H
theorem Txt.t_MAKE {K : PySem.W.Frag} {mg : Str → Option Value} (T : Txt K mg) (H : Hp) : SqT K H (He.ga K "MAKE") [.int 109, .int 97, .int 107, .int 101] := T.tup "MAKE" [.int 109, .int 97, .int 107, .int 101] (List.mem_of_getElem? (i := 8) rfl) H
theorem Txt.t_WHEN {K : PySem.W.Frag} {mg : Str → Option Value} (T : Txt K mg) (H : Hp) : SqT K H (He.ga K "WHEN") [.int 119, .int 104, .int 101, .int 110] := T.tup "WHEN" [.int 119, .int 104, .int 101, .int 110] (List.mem_of_getElem? (i := 9) rfl) H
theorem Txt.t_IS {K : PySem.W.Frag} {mg : Str → Option Value} (T : Txt K mg) (H : Hp) : SqT K H (He.ga K "IS") [.int 105, .int 115] := T.tup "IS" [.int 105, .int 115] (List.mem_of_getElem? (i := 10) rfl) H
theorem Txt.t_WORDS {K : PySem.W.Frag} {mg : Str → Option Value} (T : Txt K mg) (H : Hp) : SqT K H (He.ga K "WORDS") [.ref (He.ga K "SET"), .ref (He.ga K "PART"), .ref (He.ga K "SIZE"), .ref (He.ga K "START"), .ref (He.ga K "SAY"), .ref (He.ga K "CALL"), .ref (He.ga K "MAKE"), .ref (He.ga K "WHEN"), .ref (He.ga K "IS")] := T.tup "WORDS" [.glo "SET", .glo "PART", .glo "SIZE", .glo "START", .glo "SAY", .glo "CALL", .glo "MAKE", .glo "WHEN", .glo "IS"] (List.mem_of_getElem? (i := 11) rfl) H
theorem Txt.t_WHOLES {K : PySem.W.Frag} {mg : Str → Option Value} (T : Txt K mg) (H : Hp) : SqT K H (He.ga K "WHOLES") [.int 0, .int 0, .int 1, .int 2, .int 1, .int 2, .int 2, .int 3] := T.tup "WHOLES" [.int 0, .int 0, .int 1, .int 2, .int 1, .int 2, .int 2, .int 3] (List.mem_of_getElem? (i := 12) rfl) H
theorem Txt.t_LISTS {K : PySem.W.Frag} {mg : Str → Option Value} (T : Txt K mg) (H : Hp) : SqT K H (He.ga K "LISTS") [.int 1, .int 1, .int 0, .int 0, .int 0, .int 0, .int 0, .int 0] := T.tup "LISTS" [.int 1, .int 1, .int 0, .int 0, .int 0, .int 0, .int 0, .int 0] (List.mem_of_getElem? (i := 13) rfl) H
section
variable {X : Cx}
/-- a module's name as a value -/
theorem pe_gl {x : Str} {v : V} {pos : Pos} (h : MgV X.mg x v) (hg : Gl X x := by rfl) (hd : (x == ("__debug__" : Str)) = false := by decide) : PE X (.Name x pos) (tC v) := by
  obtain ⟨u, e, r⟩ := h
  exact pe_glob hg e r hd
/-- what a raise lets out in a def's own body -/
theorem outE {P : Program} {w : World} {K : PySem.W.Frag} {mg : Str → Option Value} {base : Heap} {N : List Str} {qual : Str} {scope : Scope} {f : Addr} {cd : Value} {A : Around} {outer : List Env} {s : Shared} {H : Hp} {E : XK} :
    Passes (L2.CX P w) (cxOf (L2.CX P w) P w K mg base N qual scope f cd A outer s H E) E := passes_call (takes_of rfl rfl rfl rfl) fun _ _ _ _ h => h
/-- a call of a def that lets out nothing -/
theorem pe_c {k : Nat} {x : Str} {ps : List Str} {sp : Sp} {e : Expr} {es : List Expr} {t : TA} {p pos : Pos} (G : Ok X.prog X.w X.K X.mg X.base k x ps sp) (hr : Room k X.A) (ha : PA X (e :: es) t) (hg : Gl X x := by rfl)
    (hdb : (x == ("__debug__" : Str)) = false := by decide) (he : starEach (e :: es) X.env = (false, eval e X.env) :: starEach es X.env := by rfl) (hpl : (backTo pos (starEach es X.env)).any (·.1) = false := by rfl) :
    PE X (.Call (.Name x p) (e :: es) [] pos) (tCall sp [] E0 t) := by
  obtain ⟨fd, hm, hk, hb, F⟩ := G
  exact pe_call F hr hg hm hk hb .nil passL ha hdb he hpl
/-- a call of a def whose errors this body lets out -/
theorem pe_cX {k : Nat} {x : Str} {ps : List Str} {sp : Sp} {e : Expr} {es : List Expr} {t : TA} {p pos : Pos} {E : XK} (G : Ok X.prog X.w X.K X.mg X.base k x ps sp) (hr : Room k X.A) (hx : Passes (L2.CX X.prog X.w) X E) (ha : PA X (e :: es) t) (hg : Gl X x := by rfl)
    (hdb : (x == ("__debug__" : Str)) = false := by decide) (he : starEach (e :: es) X.env = (false, eval e X.env) :: starEach es X.env := by rfl) (hpl : (backTo pos (starEach es X.env)).any (·.1) = false := by rfl) :
    PE X (.Call (.Name x p) (e :: es) [] pos) (tCall sp [] E t) := by
  obtain ⟨fd, hm, hk, hb, F⟩ := G
  exact pe_call F hr hg hm hk hb .nil hx ha hdb he hpl
/-- the same within a try -/
theorem pe_cS {k : Nat} {x : Str} {ps : List Str} {sp : Sp} {e : Expr} {es : List Expr} {t : TA} {p pos : Pos} {W : WX} (G : Ok X.prog X.w X.K X.mg X.base k x ps sp) (hr : Room k X.A) (tk : Takes X W) (ha : PA X (e :: es) t) (hg : Gl X x := by rfl)
    (hdb : (x == ("__debug__" : Str)) = false := by decide) (he : starEach (e :: es) X.env = (false, eval e X.env) :: starEach es X.env := by rfl) (hpl : (backTo pos (starEach es X.env)).any (·.1) = false := by rfl) :
    PE X (.Call (.Name x p) (e :: es) [] pos) (tCallS sp (WE W) t) := by
  obtain ⟨fd, hm, hk, hb, F⟩ := G
  exact pe_callS F hr hg hm hk hb (fun σ => passAt tk σ) ha hdb he hpl
/-- a new instance -/
theorem pe_mkI {k : Nat} {x : Str} {ps : List Str} {sp : Sp} {e : Expr} {es : List Expr} {t : TA} {p pos : Pos} (M : Mk X.K (He.ga X.K x) (He.ma X.K (He.ga X.K x) "__init__")) (G : OkI X.prog X.w X.K X.mg X.base k x ps sp) (hr : Room (k + 1) X.A) (hm : X.mg x = some (.ref (He.ga X.K x))) (ha : PA X (e :: es) t) (hg : Gl X x := by rfl)
    (hdb : (x == ("__debug__" : Str)) = false := by decide) (he : starEach (e :: es) X.env = (false, eval e X.env) :: starEach es X.env := by rfl) (hpl : (backTo pos (starEach es X.env)).any (·.1) = false := by rfl) :
    PE X (.Call (.Name x p) (e :: es) [] pos) (tMake (He.ga X.K x) sp [] E0 t) := by
  obtain ⟨fd, hb, F⟩ := G
  exact pe_make M F hr hg hm hb .nil passL ha hdb he hpl
theorem pe_mkI0 {k : Nat} {x : Str} {ps : List Str} {sp : Sp} {p pos : Pos} (M : Mk X.K (He.ga X.K x) (He.ma X.K (He.ga X.K x) "__init__")) (G : OkI X.prog X.w X.K X.mg X.base k x ps sp) (hr : Room (k + 1) X.A) (hm : X.mg x = some (.ref (He.ga X.K x))) (hg : Gl X x := by rfl)
    (hdb : (x == ("__debug__" : Str)) = false := by decide) :
    PE X (.Call (.Name x p) [] [] pos) (tMake (He.ga X.K x) sp [] E0 tNil) := by
  obtain ⟨fd, hb, F⟩ := G
  exact pe_make0 M F hr hg hm hb .nil passL hdb
/-- raise C(e, ..), C an own error with an __init__ -/
theorem ps_raiseI {k : Nat} {x : Str} {ps : List Str} {sp : Sp} {e : Expr} {es : List Expr} {t : TA} {p pos pos2 : Pos} {W : WX} (hc : X.calm = true) (O : OwnE X.K x) (G : OkI X.prog X.w X.K X.mg X.base k x ps sp) (hr : Room (k + 1) X.A) (hm : X.mg x = some (.ref (He.ga X.K x))) (tk : Takes X W) (ha : PA X (e :: es) t) (hg : Gl X x := by rfl)
    (hdb : (x == ("__debug__" : Str)) = false := by decide) (he : starEach (e :: es) X.env = (false, eval e X.env) :: starEach es X.env := by rfl) (hpl : (backTo pos (starEach es X.env)).any (·.1) = false := by rfl) :
    PS X (.Raise (some (.Call (.Name x p) (e :: es) [] pos)) none pos2) (fun _ σ H => tMkO (He.ga X.K x) sp [] t σ H fun cls d H' => W cls d σ H') := by
  obtain ⟨fd, hb, F⟩ := G
  exact ps_raise hc tk (pmk_oex O.o O.i O.t F hr hb .nil passL hg hm ha hdb he hpl)
/-- C(), C an own error without an __init__ -/
theorem pmk_own0 {C : Addr} {bmB : List Value} {B newId initId : String} {x : Str} {p pos : Pos} (F : ExcBaseFacts B newId initId bmB) (q : PySem.W.excIn X.K C bmB newId = true) (gC : X.mg x = some (.ref C))
    (kC : PySem.W.keepIn X.K (.ref C) = true) (r : Raises X (.ref C)) (hg : Gl X x) (hdb : (x == ("__debug__" : Str)) = false := by decide) :
    PMk X (.Call (.Name x p) [] [] pos) (fun σ H Q => Q (.ref C) none H) := by
  intro pins s σ H Q I h
  refine wpAny_Call_Name_kw (ld_glob I hg gC ?_ hdb)
  refine PySem.W.callWith_K0 I.kIn kC ?_
  show wpAny _ _ (call (.ref C) []) _ _ _
  obtain ⟨bm, N, nm, qn, bs, hdct, sn, sub, ab, col, dd, k0, k1, k2, k3, k5, mN, hC, hN, hni, T⟩ := exc_obj I.kIn q
  refine wpAny_call_exc_subT F T hC hN hni (fun h' e hm => ?_) (by show 0 ≤ sizeLine; exact Nat.zero_le _)
  exact mk_of I hm r h (I.hok.gone hm.new)
end
/-! ### fields -/
theorem lk_here {k : Str} {v : V} {r : List (Str × V)} : List.lookup k ((k, v) :: r) = some v := by
  have e : (k == k) = true := beq_self_eq_true k
  simp only [List.lookup, e]
theorem lk_past {k g : Str} {v : V} {r : List (Str × V)} (h : (k == g) = false) : List.lookup k ((g, v) :: r) = List.lookup k r := by
  simp only [List.lookup, h]
theorem put_here {f : Str} {v x : V} {r : List (Str × V)} : putF f v ((f, x) :: r) = (f, v) :: r := if_pos rfl
theorem put_past {f g : Str} {v x : V} {r : List (Str × V)} (h : ¬ g = f) : putF f v ((g, x) :: r) = (g, x) :: putF f v r := if_neg h
/-- o.f, o in a slot -/
theorem rd_fld {K : PySem.W.Frag} {i : Nat} {f : Str} {σ : L2.St} {H : Hp} {Q : VK} {a C dx : Addr} {fs : List (Str × V)} {v : V} (h : σ[i]? = some (some (.ref a))) (ha : H a = some (.ins C dx fs)) (c : Cls K C) (n : NoAttr K C f) (l : fs.lookup f = some v) (q : Q v H) :
    tFld K (tVar i) f σ H Q := ⟨_, h, a, C, dx, fs, v, rfl, ha, c, n, l, q⟩
/-- o.f of any o -/
theorem rd_fldOf {K : PySem.W.Frag} {f : Str} {x : V} {H : Hp} {Q : VK} {a C dx : Addr} {fs : List (Str × V)} {v : V} (h : x = .ref a) (ha : H a = some (.ins C dx fs)) (c : Cls K C) (n : NoAttr K C f) (l : fs.lookup f = some v) (q : Q v H) :
    ∃ a C dx fs v, x = .ref a ∧ H a = some (.ins C dx fs) ∧ Cls K C ∧ NoAttr K C f ∧ fs.lookup f = some v ∧ Q v H := ⟨a, C, dx, fs, v, h, ha, c, n, l, q⟩
theorem if_true_of {c : Bool} {A B : Prop} (hc : c = true) (h : A) : if c = true then A else B := by
  rw [if_pos hc]
  exact h
theorem if_false_of {c : Bool} {A B : Prop} (hc : c = false) (h : B) : if c = true then A else B := by
  rw [hc, if_neg Bool.false_ne_true]
  exact h
theorem if_both {c : Bool} {A B : Prop} (h1 : c = true → A) (h2 : c = false → B) : if c = true then A else B := by
  cases c
  · exact if_false_of rfl (h2 rfl)
  · exact if_true_of rfl (h1 rfl)
/-- tests whose answers are known -/
theorem or_val {t u : TT} {σ : L2.St} {H : Hp} {Q : Bool → Hp → Prop} {c1 c2 : Bool} (h1 : ∀ Q : Bool → Hp → Prop, Q c1 H → t σ H Q) (h2 : ∀ Q : Bool → Hp → Prop, Q c2 H → u σ H Q) (q : Q (c1 || c2) H) : tOr t u σ H Q := h1 _ (if_both (fun e => by
  rw [e, Bool.true_or] at q
  exact q) fun e => h2 _ (by
  rw [e, Bool.false_or] at q
  exact q))
theorem and_val {t u : TT} {σ : L2.St} {H : Hp} {Q : Bool → Hp → Prop} {c1 c2 : Bool} (h1 : ∀ Q : Bool → Hp → Prop, Q c1 H → t σ H Q) (h2 : c1 = true → ∀ Q : Bool → Hp → Prop, Q c2 H → u σ H Q) (q : Q (c1 && c2) H) : tAnd t u σ H Q := h1 _ (if_both (fun e => h2 e _ (by
  rw [e, Bool.true_and] at q
  exact q)) fun e => by
  rw [e, Bool.false_and] at q
  exact q)
/-- values -/
theorem orV_val {t u : TE} {σ : L2.St} {H : Hp} {Q : VK} {c1 c2 : Bool} (h1 : ∀ Q : VK, Q (.bl c1) H → t σ H Q) (h2 : c1 = false → ∀ Q : VK, Q (.bl c2) H → u σ H Q) (q : Q (.bl (c1 || c2)) H) : tOrV t u σ H Q := h1 _ ⟨_, rfl, if_both (fun e => by
  rw [e, Bool.true_or] at q
  exact q) fun e => h2 e _ (by
  rw [e, Bool.false_or] at q
  exact q)⟩
theorem andV_val {t u : TE} {σ : L2.St} {H : Hp} {Q : VK} {c1 c2 : Bool} (h1 : ∀ Q : VK, Q (.bl c1) H → t σ H Q) (h2 : c1 = true → ∀ Q : VK, Q (.bl c2) H → u σ H Q) (q : Q (.bl (c1 && c2)) H) : tAndV t u σ H Q := h1 _ ⟨_, rfl, if_both (fun e => h2 e _ (by
  rw [e, Bool.true_and] at q
  exact q)) fun e => by
  rw [e, Bool.false_and] at q
  exact q⟩
/-- x in a written row of ints -/
theorem inV_ints {n : Int} : ∀ {ns : List Int}, inV (.int n) (ns.map V.int) = ns.any fun k => k == n
  | [] => rfl
  | k :: r => by
    show ((k == n) || inV (.int n) (r.map V.int)) = _
    rw [inV_ints (ns := r)]
    rfl
end PP

set_option Elab.async false
set_option linter.all false
set_option maxRecDepth 100000
set_option maxHeartbeats 4000000
namespace PP
open PySem PySem.Spec PyProof.Rows L2
open VakepBase (Bytes Fault PTok Toks PName RESERVED)
/-! ### what stands in the heap -/
def nm (b : Bytes) : List V := b.map fun c => V.int (c.toNat : Int)
def tokF (k w p : V) : List (Str × V) := [("kind", k), ("what", w), ("place", p)]
theorem tokF_kind {k w p : V} : (tokF k w p).lookup ("kind" : Str) = some k := lk_here
theorem tokF_what {k w p : V} : (tokF k w p).lookup ("what" : Str) = some w := (lk_past (by decide +kernel)).trans lk_here
theorem tokF_place {k w p : V} : (tokF k w p).lookup ("place" : Str) = some p := (lk_past (by decide +kernel)).trans ((lk_past (by decide +kernel)).trans lk_here)
theorem tokF_new {k w p : V} : putF "place" p (putF "what" w (putF "kind" k [])) = tokF k w p := by
  rw [show putF "kind" k [] = [(("kind" : Str), k)] from rfl, put_past (by decide +kernel), put_past (by decide +kernel), show putF "what" w [] = [(("what" : Str), w)] from rfl, put_past (by decide +kernel)]
  rfl
/-! ### an error with its code and place -/
def faultF (c p : V) : List (Str × V) := [("place", p), ("code", c)]
theorem faultF_code {c p : V} : (faultF c p).lookup ("code" : Str) = some c := (lk_past (by decide +kernel)).trans lk_here
theorem faultF_place {c p : V} : (faultF c p).lookup ("place" : Str) = some p := lk_here
/-- the way out of a def that lets out a Fault, all off M as it was -/
def FaultE (K : PySem.W.Frag) (M : List Addr) (H : Hp) (E : XK) (f : Fault) : Prop :=
  ∀ (d : Addr) (H' : Hp), Keep M H H' → H' d = some (.xd (faultF (.int (f.code : Nat)) (.int (f.place : Nat)))) → E (.ref (He.ga K "Fault")) (some d) H'
theorem FaultE.mono {K : PySem.W.Frag} {M M' : List Addr} {H H1 : Hp} {E : XK} {f : Fault} (h : FaultE K M' H E f) (k : Keep M' H H1) (hm : ∀ b ∈ M, b ∈ M') : FaultE K M H1 E f := fun d H' kp e => h d H' (k.trans (kp.mono hm)) e
/-! ### promises -/
def spTokI (K : PySem.W.Frag) : Sp := fun vs H Q _ => ∃ (p dx : Addr) (k w pl : V), vs = [.ref p, k, w, pl] ∧ H p = some (.ins (He.ga K "Token") dx []) ∧ Q .non (upd H p (.ins (He.ga K "Token") dx (tokF k w pl)))
def spFaultI (K : PySem.W.Frag) : Sp := fun vs H Q _ => ∃ (a : Addr) (x y : V), vs = [.ref a, x, y] ∧ H a = some (exo a (He.ga K "Fault") none) ∧
  ∀ dx, H dx = none → dx ≠ a → Q .non (upd (upd (upd H dx (exd dx [("code", x)])) a (exo a (He.ga K "Fault") (some dx))) dx (exd dx (faultF x y)))
def spRefuse (K : PySem.W.Frag) : Sp := fun vs H Q E => ∃ (c : Bool) (f : Fault), vs = [.bl c, .int (f.code : Nat), .int (f.place : Nat)] ∧ (c = true → FaultE K [] H E f) ∧ (c = false → Q .non H)
section
variable {P : Program} {w : World} {K : PySem.W.Frag} {mg : Str → Option Value} {base : Heap}

def N_Token_init : List Str := ["self", "kind", "what", "place"]
theorem sc_Token_init : FnScope N_Token_init ["self", "kind", "what", "place"] (defScope s_Token_init) := ⟨rfl, rfl, rfl, by decide +kernel, rfl, by decide +kernel, by decide +kernel⟩
theorem ok_Token_init (T : Txt K mg) : OkI P w K mg base 1 "Token" ["self", "kind", "what", "place"] (spTokI K) := by
  refine okI_mk T.i_Token sc_Token_init (fun vs H Q E h => ?_) (fun qual cdv A outer s H vs Q E hr h => ⟨_, (pss_cons (ps_fld (pv 0) (pv 1) rfl) (pss_cons (ps_fld (pv 0) (pv 2) rfl) (pss_one (ps_fld (pv 0) (pv 3) rfl)))), ?_⟩)
  · obtain ⟨p, dx, k, w, pl, rfl, _⟩ := h
    rfl
  · obtain ⟨p, dx, k, w, pl, rfl, hp, q⟩ := h
    refine ⟨_, rfl, _, rfl, p, _, dx, [], rfl, hp, T.cls "Token", T.noat "Token" "kind", (by show 0 < 1000; decide), ?_⟩
    refine ⟨_, rfl, _, rfl, p, _, dx, _, rfl, upd_same, T.cls "Token", T.noat "Token" "what", (by show 1 < 1000; decide), ?_⟩
    refine ⟨_, rfl, _, rfl, p, _, dx, _, rfl, upd_same, T.cls "Token", T.noat "Token" "place", (by show 2 < 1000; decide), ?_⟩
    rw [upd_upd, upd_upd, tokF_new]
    exact q
def N_Fault_init : List Str := ["self", "code", "place"]
theorem sc_Fault_init : FnScope N_Fault_init ["self", "code", "place"] (defScope s_Fault_init) := ⟨rfl, rfl, rfl, by decide +kernel, rfl, by decide +kernel, by decide +kernel⟩
theorem ok_Fault_init (T : Txt K mg) : OkI P w K mg base 1 "Fault" ["self", "code", "place"] (spFaultI K) := by
  refine okI_mk T.i_Fault sc_Fault_init (fun vs H Q E h => ?_) (fun qual cdv A outer s H vs Q E hr h => ⟨_, (pss_cons (ps_ost (pv 0) (pv 1)) (pss_one (ps_ost (pv 0) (pv 2)))), ?_⟩)
  · obtain ⟨a, x, y, rfl, _⟩ := h
    rfl
  · obtain ⟨a, x, y, rfl, ha, q⟩ := h
    refine ⟨_, rfl, _, rfl, a, _, rfl, T.fault.o, T.noat "Fault" "code", .inl ⟨ha, fun dx hn ne => ?_⟩⟩
    refine ⟨_, rfl, _, rfl, a, _, rfl, T.fault.o, T.noat "Fault" "place", .inr ⟨dx, _, upd_same, (upd_ne ne).trans upd_same, (by show 1 ≤ 900; decide), ?_⟩⟩
    exact q dx hn ne
def N_refuse : List Str := ["is_wrong", "code", "place"]
theorem sc_refuse : FnScope N_refuse ["is_wrong", "code", "place"] (defScope s_refuse) := ⟨rfl, rfl, rfl, by decide +kernel, rfl, by decide +kernel, by decide +kernel⟩
theorem ok_refuse (T : Txt K mg) : Ok P w K mg base 3 "refuse" ["is_wrong", "code", "place"] (spRefuse K) := by
  have G_Fault_init : OkI P w K mg base 1 "Fault" ["self", "code", "place"] (spFaultI K) := ok_Fault_init T
  refine ok_mk T.d_refuse sc_refuse (fun vs H Q E h => ?_) (fun cdv A outer s H vs Q E hr h => ?_)
  · obtain ⟨c, f, rfl, _⟩ := h
    rfl
  · have hr_Fault : Room (1 + 1) _ := hr
    refine ⟨_, (pss_one (ps_if (pt_val (pv 0)) (pss_one (ps_raiseI rfl T.fault G_Fault_init hr_Fault (T.g "Fault") (takes_of rfl rfl rfl rfl) (pa_cons (pv 1) (pa_cons (pv 2) pa_nil)))) pss_nil)), ?_⟩
    obtain ⟨c, f, rfl, h1, h2⟩ := h
    refine ⟨_, rfl, c, rfl, if_both (fun e => ?_) fun e => h2 e⟩
    refine ⟨_, rfl, _, rfl, (by show 2 ≤ 1000; decide), fun a ha => ⟨a, _, _, rfl, upd_same, fun dx hn ne => ⟨rfl, dx, _, ?_, upd_same, ?_, ?_⟩⟩⟩
    · rw [upd_ne (Ne.symm ne)]
      exact upd_same
    · rw [upd_ne ne] at hn
      exact hn
    · rw [upd_ne ne] at hn
      refine h1 e dx _ (Keep.of_same fun b o hb => ?_) upd_same
      have b1 : b ≠ a := ne_of_none hb ha
      have b2 : b ≠ dx := ne_of_none hb hn
      rw [upd_ne b2, del_ne b1, upd_ne b2, upd_ne b1, upd_ne b2, upd_ne b1]
      exact hb
end
end PP

set_option Elab.async false
set_option linter.all false
set_option maxRecDepth 100000
set_option maxHeartbeats 4000000
namespace PP
open PySem PySem.Spec PyProof.Rows L2
open VakepBase (Bytes Fault PTok Toks PName RESERVED isLetter isDigit isBlank)
/-! ### plain: gaps -/
def gap : Bool → Bytes → Nat
  | _, [] => 0
  | r, c :: l => if (r || (isBlank c || c == 35)) = true then gap (if (c == 35) = true then true else if (c == 10) = true then false else r) l + 1 else 0
theorem gap_le : ∀ (r : Bool) (l : Bytes), gap r l ≤ l.length
  | _, [] => Nat.le_refl _
  | r, c :: l => by
    unfold gap
    split
    · have := gap_le (if (c == 35) = true then true else if (c == 10) = true then false else r) l
      simpa using this
    · exact Nat.zero_le _
/-! ### a text's bytes as values -/
theorem nm_len (b : Bytes) : (nm b).length = b.length := by simp [nm]
theorem nm_at {b : Bytes} {i : Nat} {c : UInt8} (h : b[i]? = some c) : (nm b)[i]? = some (.int (c.toNat : Nat)) := by simp [nm, h]
theorem drop_at {α : Type} {l : List α} {i : Nat} (h : i < l.length) : l.drop i = l[i] :: l.drop (i + 1) := List.drop_eq_getElem_cons h
/-! ### promises -/
def spLetter : Sp := fun vs H Q _ => ∃ c : UInt8, vs = [.int (c.toNat : Nat)] ∧ Q (.bl (isLetter c)) H
def spDigit : Sp := fun vs H Q _ => ∃ c : UInt8, vs = [.int (c.toNat : Nat)] ∧ Q (.bl (isDigit c)) H
def spGap (K : PySem.W.Frag) : Sp := fun vs H Q _ => ∃ (a : Addr) (b : Bytes) (i : Nat), vs = [.ref a, .int (i : Nat)] ∧ SqL K H a (nm b) ∧ i ≤ b.length ∧ Q (.int ((i + gap false (b.drop i) : Nat) : Int)) H
def spBName (K : PySem.W.Frag) : Sp := fun vs H Q _ => ∃ (a : Addr) (b : Bytes) (i : Nat), vs = [.ref a, .int (i : Nat)] ∧ SqL K H a (nm b) ∧ i ≤ b.length ∧ Q (.int ((i + ((b.drop i).takeWhile fun c => isLetter c || isDigit c).length : Nat) : Int)) H
def spBDigits (K : PySem.W.Frag) : Sp := fun vs H Q _ => ∃ (a : Addr) (b : Bytes) (i : Nat), vs = [.ref a, .int (i : Nat)] ∧ SqL K H a (nm b) ∧ i ≤ b.length ∧ Q (.int ((i + ((b.drop i).takeWhile isDigit).length : Nat) : Int)) H
/-- 0 ≤ lo <= x <= hi of ints -/
theorem rd_chain {lo hi x : Int} {H : Hp} {Q : VK} {i : Nat} {σ : L2.St} (h : σ[i]? = some (some (.int x))) (q : Q (.bl (decide (lo ≤ x) && decide (x ≤ hi))) H) :
    tChain (rI0 fun i j => .bl (decide (i ≤ j))) (rI0 fun i j => .bl (decide (i ≤ j))) (tC (.int lo)) (tVar i) (tC (.int hi)) σ H Q := by
  refine ⟨_, h, _, _, rfl, rfl, _, rfl, if_both (fun e => ⟨_, _, rfl, rfl, ?_⟩) fun e => ?_⟩
  · rw [e, Bool.true_and] at q
    exact q
  · rw [e, Bool.false_and] at q
    exact q
section
variable {P : Program} {w : World} {K : PySem.W.Frag} {mg : Str → Option Value} {base : Heap}
def N_is_letter : List Str := ["byte"]
theorem sc_is_letter : FnScope N_is_letter ["byte"] (defScope s_is_letter) := ⟨rfl, rfl, rfl, by decide +kernel, rfl, by decide +kernel, by decide +kernel⟩
theorem ok_is_letter (T : Txt K mg) : Ok P w K mg base 1 "is_letter" ["byte"] spLetter := by
  refine ok_mk T.d_is_letter sc_is_letter (fun vs H Q E h => ?_) (fun cdv A outer s H vs Q E hr h => ⟨_, (pss_one (ps_ret (pe_or (pe_chain op_le op_le pe_int (pv 0) pe_int) (pe_one (pe_chain op_le op_le pe_int (pv 0) pe_int))))), ?_⟩)
  · obtain ⟨c, rfl, _⟩ := h
    rfl
  · obtain ⟨c, rfl, q⟩ := h
    refine rd_chain rfl ⟨_, rfl, if_both (fun e => ?_) fun e => rd_chain rfl ?_⟩
    · have e2 : isLetter c = true := by
        simp only [Bool.and_eq_true, decide_eq_true_eq] at e
        simp only [isLetter, Bool.or_eq_true, decide_eq_true_eq]
        omega
      rw [e2] at q
      exact q
    · have e2 : isLetter c = (decide ((97 : Int) ≤ (c.toNat : Nat)) && decide (((c.toNat : Nat) : Int) ≤ 122)) := by
        rw [Bool.eq_iff_iff]
        have e3 : ¬ ((65 : Int) ≤ (c.toNat : Nat) ∧ ((c.toNat : Nat) : Int) ≤ 90) := by
          intro z
          rw [decide_eq_true z.1, decide_eq_true z.2] at e
          cases e
        simp only [isLetter, Bool.or_eq_true, Bool.and_eq_true, decide_eq_true_eq]
        omega
      rw [e2] at q
      exact q
def N_is_digit : List Str := ["byte"]
theorem sc_is_digit : FnScope N_is_digit ["byte"] (defScope s_is_digit) := ⟨rfl, rfl, rfl, by decide +kernel, rfl, by decide +kernel, by decide +kernel⟩
theorem ok_is_digit (T : Txt K mg) : Ok P w K mg base 1 "is_digit" ["byte"] spDigit := by
  refine ok_mk T.d_is_digit sc_is_digit (fun vs H Q E h => ?_) (fun cdv A outer s H vs Q E hr h => ⟨_, (pss_one (ps_ret (pe_chain op_le op_le pe_int (pv 0) pe_int))), ?_⟩)
  · obtain ⟨c, rfl, _⟩ := h
    rfl
  · obtain ⟨c, rfl, q⟩ := h
    refine rd_chain rfl ?_
    have e2 : isDigit c = (decide ((48 : Int) ≤ (c.toNat : Nat)) && decide (((c.toNat : Nat) : Int) ≤ 57)) := by
      rw [Bool.eq_iff_iff]
      simp only [isDigit, Bool.and_eq_true, decide_eq_true_eq]
      omega
    rw [e2] at q
    exact q
def N_behind_digits : List Str := ["text", "at"]
theorem sc_behind_digits : FnScope N_behind_digits ["text", "at"] (defScope s_behind_digits) := ⟨rfl, rfl, rfl, by decide +kernel, rfl, by decide +kernel, by decide +kernel⟩
theorem ok_behind_digits (T : Txt K mg) : Ok P w K mg base 2 "behind_digits" ["text", "at"] (spBDigits K) := by
  have G_is_digit : Ok P w K mg base 1 "is_digit" ["byte"] spDigit := ok_is_digit T
  refine ok_mk T.d_behind_digits sc_behind_digits (fun vs H Q E h => ?_) (fun cdv A outer s H vs Q E hr h => ?_)
  · obtain ⟨a, b, i, rfl, _⟩ := h
    rfl
  · have hr_is_digit : Room 1 _ := hr
    refine ⟨_, (pss_cons (ps_while (passes_of rfl) (PW.pt (pw_and (pt_cmpR op_lt (pv 1) (pe_callB call_len (by rfl) (T.free "len") PySem.boot_len (pa_cons (pv 0) pa_nil)) (nomark _)) (pw_and1 (pt_val (pe_c G_is_digit hr_is_digit (pa_cons (pe_ix ix_list (pv 0) (pv 1) (fun _ _ => rfl)) pa_nil)))))) (pss_one (ps_set (i := 1) sc_behind_digits.nd rfl (Or.inl rfl) (pe_op op_add (pv 1) pe_int)))) (pss_one (ps_ret (pv 1)))), ?_⟩
    obtain ⟨a, b, i, rfl, hS, hi, q⟩ := h
    let W : Nat → L2.St → Hp → Prop := fun m σ H' => H' = H ∧ ∃ j : Nat, σ = [some (.ref a), some (.int (j : Nat))] ∧ j ≤ b.length ∧ m = b.length - j ∧ j + ((b.drop j).takeWhile isDigit).length = i + ((b.drop i).takeWhile isDigit).length
    refine ⟨W, ⟨_, rfl, i, rfl, hi, rfl, rfl⟩, ?_⟩
    rintro m σ _ ⟨rfl, j, rfl, hj, rfl, e⟩
    refine ⟨_, rfl, _, rfl, _, b.length, rfl, .inl ⟨_, hS, (nm_len b).symm⟩, _, _, rfl, rfl, _, rfl, if_both (fun c => ?_) fun c => ?_⟩
    · have hlt : j < b.length := by simpa using c
      have hd := drop_at hlt
      refine ⟨_, rfl, _, rfl, a, _, _, _, rfl, rfl, hS, atI_nat (nm_at (List.getElem?_eq_getElem hlt)), b[j], rfl, _, rfl, if_both (fun c2 => ?_) fun c2 => ?_⟩
      · refine ⟨fun σ' H' => ∃ m', m' < b.length - j ∧ W m' σ' H', fun _ _ h => h, _, rfl, _, _, rfl, rfl, b.length - (j + 1), by omega, rfl, j + 1, rfl, hlt, rfl, ?_⟩
        rw [← e, hd, List.takeWhile_cons, c2, if_pos rfl, List.length_cons]
        omega
      · refine ⟨_, rfl, ?_⟩
        rw [← e, hd, List.takeWhile_cons, c2] at q
        exact q
    · refine ⟨_, rfl, ?_⟩
      have hge : b.length ≤ j := by simpa using c
      rw [← e, List.drop_eq_nil_of_le hge] at q
      exact q
end
end PP

set_option Elab.async false
set_option linter.all false
set_option maxRecDepth 100000
set_option maxHeartbeats 4000000
namespace PP
open PySem PySem.Spec PyProof.Rows L2
open VakepBase (Bytes Fault PTok Toks PName RESERVED isLetter isDigit isBlank decimal numberOf NUMBER)
/-! ### an answer of the specification: an error leaves, a value goes on -/
def Res {α : Type} (K : PySem.W.Frag) (M : List Addr) (H : Hp) (E : XK) (r : Except Fault α) (ok : α → Prop) : Prop := match r with
  | .ok x => ok x
  | .error f => FaultE K M H E f
def numRes (l : Bytes) (i : Nat) : Except Fault Nat := match numberOf l with
  | none => .error ⟨2, i⟩
  | some n => .ok n
def spNumber (K : PySem.W.Frag) : Sp := fun vs H Q E => ∃ (a : Addr) (l : Bytes) (i : Nat), vs = [.ref a, .int (i : Nat)] ∧ SqL K H a (nm l) ∧ l ≠ [] ∧ (∀ c ∈ l, isDigit c = true) ∧
  Res K [] H E (numRes l i) (fun n => Q (.int (n : Nat)) H)
theorem dig_val {c : UInt8} (h : isDigit c = true) : 48 ≤ c.toNat ∧ c.toNat ≤ 57 := by simpa [isDigit] using h
theorem foldl_more {α β : Type} {f : β → α → β} {l : List α} {i : Nat} {x : α} {b : β} (h : l[i]? = some x) : (l.take (i + 1)).foldl f b = f ((l.take i).foldl f b) x := by
  rw [List.take_add_one, h, Option.toList_some, List.foldl_append]
  rfl
section
variable {P : Program} {w : World} {K : PySem.W.Frag} {mg : Str → Option Value} {base : Heap}
def N_behind_name : List Str := ["text", "at"]
theorem sc_behind_name : FnScope N_behind_name ["text", "at"] (defScope s_behind_name) := ⟨rfl, rfl, rfl, by decide +kernel, rfl, by decide +kernel, by decide +kernel⟩
theorem ok_behind_name (T : Txt K mg) : Ok P w K mg base 2 "behind_name" ["text", "at"] (spBName K) := by
  have G_is_digit : Ok P w K mg base 1 "is_digit" ["byte"] spDigit := ok_is_digit T
  have G_is_letter : Ok P w K mg base 1 "is_letter" ["byte"] spLetter := ok_is_letter T
  refine ok_mk T.d_behind_name sc_behind_name (fun vs H Q E h => ?_) (fun cdv A outer s H vs Q E hr h => ?_)
  · obtain ⟨a, b, i, rfl, _⟩ := h
    rfl
  · have hr_is_digit : Room 1 _ := hr
    have hr_is_letter : Room 1 _ := hr
    refine ⟨_, (pss_cons (ps_while (passes_of rfl) (PW.pt (pw_and (pt_cmpR op_lt (pv 1) (pe_callB call_len (by rfl) (T.free "len") PySem.boot_len (pa_cons (pv 0) pa_nil)) (nomark _)) (pw_and1 (PW.pt (pw_or (pt_val (pe_c G_is_letter hr_is_letter (pa_cons (pe_ix ix_list (pv 0) (pv 1) (fun _ _ => rfl)) pa_nil))) (pw_or1 (pt_val (pe_c G_is_digit hr_is_digit (pa_cons (pe_ix ix_list (pv 0) (pv 1) (fun _ _ => rfl)) pa_nil))))))))) (pss_one (ps_set (i := 1) sc_behind_name.nd rfl (Or.inl rfl) (pe_op op_add (pv 1) pe_int)))) (pss_one (ps_ret (pv 1)))), ?_⟩
    obtain ⟨a, b, i, rfl, hS, hi, q⟩ := h
    let W : Nat → L2.St → Hp → Prop := fun m σ H' => H' = H ∧ ∃ j : Nat, σ = [some (.ref a), some (.int (j : Nat))] ∧ j ≤ b.length ∧ m = b.length - j ∧ j + ((b.drop j).takeWhile fun c => isLetter c || isDigit c).length = i + ((b.drop i).takeWhile fun c => isLetter c || isDigit c).length
    refine ⟨W, ⟨_, rfl, i, rfl, hi, rfl, rfl⟩, ?_⟩
    rintro m σ H' ⟨rfl, j, rfl, hj, rfl, e⟩
    have go : ∀ (hlt : j < b.length), (isLetter b[j] || isDigit b[j]) = true → ∃ m', m' < b.length - j ∧ W m' [some (.ref a), some (.int ((j : Int) + 1))] H' := fun hlt c2 => by
      refine ⟨b.length - (j + 1), by omega, rfl, j + 1, rfl, hlt, rfl, ?_⟩
      rw [← e, drop_at hlt, List.takeWhile_cons, c2, if_pos rfl, List.length_cons]
      omega
    refine ⟨_, rfl, _, rfl, _, b.length, rfl, .inl ⟨_, hS, (nm_len b).symm⟩, _, _, rfl, rfl, _, rfl, if_both (fun c => ?_) fun c => ?_⟩
    · have hlt : j < b.length := by simpa using c
      have hd := drop_at hlt
      refine ⟨_, rfl, _, rfl, a, _, _, _, rfl, rfl, hS, atI_nat (nm_at (List.getElem?_eq_getElem hlt)), b[j], rfl, _, rfl, if_both (fun c2 => ?_) fun c2 => ?_⟩
      · exact if_true_of rfl ⟨fun σ' H' => ∃ m', m' < b.length - j ∧ W m' σ' H', fun _ _ h => h, _, rfl, _, _, rfl, rfl, go hlt (by rw [c2, Bool.true_or])⟩
      · refine ⟨_, rfl, _, rfl, a, _, _, _, rfl, rfl, hS, atI_nat (nm_at (List.getElem?_eq_getElem hlt)), b[j], rfl, _, rfl, if_both (fun c3 => ?_) fun c3 => ?_⟩
        · exact ⟨fun σ' H' => ∃ m', m' < b.length - j ∧ W m' σ' H', fun _ _ h => h, _, rfl, _, _, rfl, rfl, go hlt (by rw [c3, Bool.or_true])⟩
        · refine ⟨_, rfl, ?_⟩
          rw [← e, hd, List.takeWhile_cons, c2, c3] at q
          exact q
    · refine if_false_of rfl ⟨_, rfl, ?_⟩
      have hge : b.length ≤ j := by simpa using c
      rw [← e, List.drop_eq_nil_of_le hge] at q
      exact q
def N_behind_gap : List Str := ["text", "at", "is_remark"]
theorem sc_behind_gap : FnScope N_behind_gap ["text", "at"] (defScope s_behind_gap) := ⟨rfl, rfl, rfl, by decide +kernel, rfl, by decide +kernel, by decide +kernel⟩
theorem ok_behind_gap (T : Txt K mg) : Ok P w K mg base 1 "behind_gap" ["text", "at"] (spGap K) := by
  refine ok_mk T.d_behind_gap sc_behind_gap (fun vs H Q E h => ?_) (fun cdv A outer s H vs Q E hr h => ?_)
  · obtain ⟨a, b, i, rfl, _⟩ := h
    rfl
  · refine ⟨_, (pss_cons (ps_set (i := 2) sc_behind_gap.nd rfl (Or.inl rfl) pe_bl) (pss_cons (ps_while (passes_of rfl) (PW.pt (pw_and (pt_cmpR op_lt (pv 1) (pe_callB call_len (by rfl) (T.free "len") PySem.boot_len (pa_cons (pv 0) pa_nil)) (nomark _)) (pw_and1 (PW.pt (pw_or (pt_val (pv 2)) (pw_or (pt_cmpR op_in_seq (pe_ix ix_list (pv 0) (pv 1) (fun _ _ => rfl)) (pe_gl (T.gV "BLANKS")) (by rfl)) (pw_or1 (pt_cmpR op_eq (pe_ix ix_list (pv 0) (pv 1) (fun _ _ => rfl)) (pe_gl (T.int "REMARK" 35)) (nomark _))))))))) (pss_cons (ps_if (pt_cmpR op_eq (pe_ix ix_list (pv 0) (pv 1) (fun _ _ => rfl)) (pe_gl (T.int "REMARK" 35)) (nomark _)) (pss_one (ps_set (i := 2) sc_behind_gap.nd rfl (Or.inl rfl) pe_bl)) (pss_one (ps_if (pt_cmpR op_eq (pe_ix ix_list (pv 0) (pv 1) (fun _ _ => rfl)) (pe_gl (T.int "LINE_END" 10)) (nomark _)) (pss_one (ps_set (i := 2) sc_behind_gap.nd rfl (Or.inl rfl) pe_bl)) pss_nil))) (pss_one (ps_set (i := 1) sc_behind_gap.nd rfl (Or.inl rfl) (pe_op op_add (pv 1) pe_int))))) (pss_one (ps_ret (pv 1))))), ?_⟩
    obtain ⟨a, b, i, rfl, hS, hi, q⟩ := h
    let W : Nat → L2.St → Hp → Prop := fun m σ H' => H' = H ∧ ∃ (j : Nat) (r : Bool), σ = [some (.ref a), some (.int (j : Nat)), some (.bl r)] ∧ j ≤ b.length ∧ m = b.length - j ∧ j + gap r (b.drop j) = i + gap false (b.drop i)
    have hBl : SqT K H (He.ga K "BLANKS") [.int 32, .int 9, .int 10] := T.t_BLANKS H
    refine ⟨W, ⟨_, rfl, i, false, rfl, hi, rfl, rfl⟩, ?_⟩
    rintro m σ H' ⟨rfl, j, r, rfl, hj, rfl, e⟩
    refine ⟨_, rfl, _, rfl, _, b.length, rfl, .inl ⟨_, hS, (nm_len b).symm⟩, _, _, rfl, rfl, _, rfl, if_both (fun c => ?_) fun c => ?_⟩
    · have hlt : j < b.length := by simpa using c
      have hd := drop_at hlt
      have rdx : ∀ Q : V → Hp → Prop, Q (.int (b[j].toNat : Nat)) H' → tOp (rIxL K) (tVar 0) (tVar 1) [some (.ref a), some (.int (j : Nat)), some (.bl r)] H' Q := fun Q q => ⟨_, rfl, _, rfl, a, _, _, _, rfl, rfl, hS, atI_nat (nm_at (List.getElem?_eq_getElem hlt)), q⟩
      have e35 : decide (V.int (b[j].toNat : Nat) = V.int 35) = (b[j] == 35) := by
        rw [Bool.eq_iff_iff, decide_eq_true_eq, beq_iff_eq, ← UInt8.toNat_inj]
        show _ ↔ _ = 35
        rw [V.int.injEq]
        omega
      have e10 : decide (V.int (b[j].toNat : Nat) = V.int 10) = (b[j] == 10) := by
        rw [Bool.eq_iff_iff, decide_eq_true_eq, beq_iff_eq, ← UInt8.toNat_inj]
        show _ ↔ _ = 10
        rw [V.int.injEq]
        omega
      have eB : inV (.int (b[j].toNat : Nat)) [.int 32, .int 9, .int 10] = isBlank b[j] := by
        rw [show ([.int 32, .int 9, .int 10] : List V) = [(32 : Int), 9, 10].map V.int from rfl, inV_ints, Bool.eq_iff_iff]
        simp only [isBlank, List.any_cons, List.any_nil, Bool.or_false, Bool.or_eq_true, beq_iff_eq, ← UInt8.toNat_inj]
        show (_ ∨ _ ∨ _) ↔ (_ = 32 ∨ _ = 9 ∨ _ = 10)
        omega
      refine or_val (c1 := r) (fun Q q => ⟨_, rfl, r, rfl, q⟩) (fun Q q => or_val (c1 := isBlank b[j]) (c2 := b[j] == 35) (fun Q q => rdx _ ⟨_, _, rfl, .inr hBl, rfl, rfl, _, rfl, by rw [← eB] at q; exact q⟩) (fun Q q => rdx _ ⟨rfl, _, rfl, by rw [← e35] at q; exact q⟩) q) (if_both (fun c2 => ?_) fun c2 => ?_)
      · refine ⟨fun σ' H' => ∃ m', m' < b.length - j ∧ W m' σ' H', fun _ _ h => h, ?_⟩
        have go : ∀ r2, r2 = (if (b[j] == 35) = true then true else if (b[j] == 10) = true then false else r) → ∃ m', m' < b.length - j ∧ W m' [some (.ref a), some (.int ((j : Int) + 1)), some (.bl r2)] H' := fun r2 er => by
          refine ⟨b.length - (j + 1), by omega, rfl, j + 1, r2, rfl, hlt, rfl, ?_⟩
          rw [← e, hd, gap, if_pos c2, er]
          omega
        refine rdx _ ⟨rfl, _, rfl, if_both (fun c3 => ?_) fun c3 => rdx _ ⟨rfl, _, rfl, if_both (fun c4 => ?_) fun c4 => ?_⟩⟩
        · rw [e35] at c3
          exact ⟨_, rfl, _, _, rfl, rfl, go true (by rw [if_pos c3])⟩
        · rw [e35] at c3
          rw [e10] at c4
          exact ⟨_, rfl, _, _, rfl, rfl, go false (by rw [if_neg (by rw [c3]; exact Bool.false_ne_true), if_pos c4])⟩
        · rw [e35] at c3
          rw [e10] at c4
          exact ⟨_, rfl, _, _, rfl, rfl, go r (by rw [if_neg (by rw [c3]; exact Bool.false_ne_true), if_neg (by rw [c4]; exact Bool.false_ne_true)])⟩
      · refine ⟨_, rfl, ?_⟩
        rw [← e, hd, gap, if_neg (by rw [c2]; exact Bool.false_ne_true)] at q
        exact q
    · refine if_false_of rfl ⟨_, rfl, ?_⟩
      have hge : b.length ≤ j := by simpa using c
      rw [← e, List.drop_eq_nil_of_le hge] at q
      cases r <;> exact q
end
end PP

set_option Elab.async false
set_option linter.all false
set_option maxRecDepth 100000
set_option maxHeartbeats 4000000
namespace PP
open PySem PySem.Spec PyProof.Rows L2
open VakepBase (Bytes Fault PTok Toks PName RESERVED isLetter isDigit isBlank decimal numberOf NUMBER)
theorem _root_.L2.Room.u65 {k : Nat} {A : Around} (r : Room k A) : A.units + 65 < cLine := by have := r.un; omega
/-! ### names as data -/
def nmD (b : Bytes) : PyData := .tuple (b.map fun c => .int (c.toNat : Int))
theorem dp_ints {K : PySem.W.Frag} {H : Hp} : ∀ b : Bytes, DpAll K H (nm b) (b.map fun c => .int (c.toNat : Int))
  | [] => .nil
  | c :: r => .cons (.int _) (dp_ints r)
theorem dp_nm {K : PySem.W.Frag} {H : Hp} {q : Addr} {b : Bytes} (h : SqT K H q (nm b)) : Dp K H (.ref q) (nmD b) := .tup h (dp_ints b)
theorem lay_ints : ∀ b : Bytes, PyData.canLayAll0 (b.map fun c => PyData.int (c.toNat : Int)) = true
  | [] => rfl
  | c :: r => by
    show (PyData.canLay0 (.int _) && PyData.canLayAll0 (r.map fun c => PyData.int (c.toNat : Int))) = true
    rw [lay_ints r]
    rfl
theorem dep_ints : ∀ b : Bytes, PyData.depthAll (b.map fun c => PyData.int (c.toNat : Int)) ≤ 1
  | [] => by decide
  | c :: r => by
    have := dep_ints r
    simp only [List.map_cons, PyData.depthAll, PyData.depth]
    omega
theorem shaped_nm (b : Bytes) : SeqAt.shaped (nmD b) = true := by
  have h1 := lay_ints b
  have h2 := dep_ints b
  unfold SeqAt.shaped nmD
  have e1 : (PyData.tuple (b.map fun c => PyData.int (c.toNat : Int))).canLay0 = true := by
    simp only [PyData.canLay0]
    exact h1
  have e2 : (PyData.tuple (b.map fun c => PyData.int (c.toNat : Int))).depth ≤ 64 := by
    simp only [PyData.depth]
    omega
  rw [e1, decide_eq_true e2]
  rfl
theorem eqv_ints : ∀ a b : Bytes, PyData.eqvAll (a.map fun c => PyData.int (c.toNat : Int)) (b.map fun c => PyData.int (c.toNat : Int)) = (a == b)
  | [], [] => rfl
  | [], _ :: _ => rfl
  | _ :: _, [] => rfl
  | x :: a, y :: b => by
    have h := eqv_ints a b
    show (PyData.eqv (.int (x.toNat : Int)) (.int (y.toNat : Int)) && PyData.eqvAll (a.map fun c => PyData.int (c.toNat : Int)) (b.map fun c => PyData.int (c.toNat : Int))) = (x == y && a == b)
    rw [h]
    have e : PyData.eqv (.int (x.toNat : Int)) (.int (y.toNat : Int)) = (x == y) := by
      rw [Bool.eq_iff_iff]
      simp only [PyData.eqv, beq_iff_eq, ← UInt8.toNat_inj]
      omega
    rw [e]
theorem eqv_nm (a b : Bytes) : PyData.eqv (nmD a) (nmD b) = (a == b) := by
  show PyData.eqv (.tuple _) (.tuple _) = _
  simp only [PyData.eqv]
  exact eqv_ints a b
theorem any_nm (l : List Bytes) (b : Bytes) : (l.map nmD).any (fun z => PyData.eqv z (nmD b)) = l.contains b := by
  rw [List.any_map, List.contains_eq_any_beq]
  congr 1
  funext x
  show PyData.eqv (nmD x) (nmD b) = (b == x)
  rw [eqv_nm, BEq.comm]
theorem dp_all {K : PySem.W.Frag} {H : Hp} : ∀ {qs : List Addr} {bs : List Bytes}, Paired (fun q b => SqT K H q (nm b)) qs bs → DpAll K H (qs.map V.ref) (bs.map nmD)
  | _, _, .nil => .nil
  | _, _, .cons h r => .cons (dp_nm h) (dp_all r)
theorem lay_nms : ∀ bs : List Bytes, PyData.canLayAll0 (bs.map nmD) = true
  | [] => rfl
  | b :: r => by
    show (PyData.canLay0 (nmD b) && PyData.canLayAll0 (r.map nmD)) = true
    rw [lay_nms r, SeqAt.canLay_of_shaped (shaped_nm b)]
    rfl
theorem dep_nms : ∀ bs : List Bytes, PyData.depthAll (bs.map nmD) ≤ 2
  | [] => by decide
  | b :: r => by
    have h := dep_nms r
    have h2 := dep_ints b
    have h3 : (nmD b).depth ≤ 2 := by
      unfold nmD
      simp only [PyData.depth]
      omega
    simp only [List.map_cons, PyData.depthAll]
    omega
theorem shaped_nms (bs : List Bytes) : SeqAt.shaped (.list (bs.map nmD)) = true := by
  have h2 := dep_nms bs
  unfold SeqAt.shaped
  have e1 : (PyData.list (bs.map nmD)).canLay0 = true := by
    simp only [PyData.canLay0]
    exact lay_nms bs
  have e2 : (PyData.list (bs.map nmD)).depth ≤ 64 := by
    simp only [PyData.depth]
    omega
  rw [e1, decide_eq_true e2]
  rfl
/-- x in a tuple of names -/
def rInNT (K : PySem.W.Frag) : R2 := fun x y H Q => ∃ (q t : Addr) (b : Bytes) (qs : List Addr) (bs : List Bytes), x = .ref q ∧ y = .ref t ∧ SqT K H q (nm b) ∧ SqT K H t (qs.map V.ref) ∧ Paired (fun q b => SqT K H q (nm b)) qs bs ∧ Q (.bl (bs.contains b)) H
theorem op_inNT {X : Cx} (hu : X.A.units + 65 < cLine) : OpR X (compareOp .In) (rInNT X.K) := by
  intro pins s σ H x y v u Q I rx ry h
  obtain ⟨q, t, b, qs, bs, rfl, rfl, h1, h2, h3, hq⟩ := h
  obtain ⟨as, r1⟩ := Dp.reads I (nmD b) _ v (dp_nm h1) rx
  obtain ⟨cs, r2⟩ := Dp.reads I (.tuple (bs.map nmD)) _ u (.tup h2 (dp_all h3)) ry
  exact SeqAt.in_tuple_reads r2 r1 (lay_nms bs) (SeqAt.canLay_of_shaped (shaped_nm b)) (room_in_shaped (shaped_nm b) hu) ⟨.bl _, H, I, rfl, by rw [any_nm]; exact hq⟩
/-- x in a list of names, x not in it, its place -/
def rInNL (K : PySem.W.Frag) (neg : Bool) : R2 := fun x y H Q => ∃ (q t : Addr) (b : Bytes) (qs : List Addr) (bs : List Bytes), x = .ref q ∧ y = .ref t ∧ SqT K H q (nm b) ∧ SqL K H t (qs.map V.ref) ∧ Paired (fun q b => SqT K H q (nm b)) qs bs ∧ Q (.bl (if neg then !bs.contains b else bs.contains b)) H
theorem op_inNL {X : Cx} (hu : X.A.units + 65 < cLine) : OpR X (compareOp .In) (rInNL X.K false) := by
  intro pins s σ H x y v u Q I rx ry h
  obtain ⟨q, t, b, qs, bs, rfl, rfl, h1, h2, h3, hq⟩ := h
  exact op_inD hu pins s σ H _ _ v u Q I rx ry ⟨nmD b, bs.map nmD, dp_nm h1, .lst h2 (dp_all h3), shaped_nm b, shaped_nms bs, by rw [any_nm]; exact hq⟩
theorem op_notInNL {X : Cx} (hu : X.A.units + 65 < cLine) : OpR X (compareOp .NotIn) (rInNL X.K true) := by
  intro pins s σ H x y v u Q I rx ry h
  obtain ⟨q, t, b, qs, bs, rfl, rfl, h1, h2, h3, hq⟩ := h
  exact op_notInD hu pins s σ H _ _ v u Q I rx ry ⟨nmD b, bs.map nmD, dp_nm h1, .lst h2 (dp_all h3), shaped_nm b, shaped_nms bs, by rw [any_nm]; exact hq⟩
/-- x == y, two names -/
def rEqN (K : PySem.W.Frag) : R2 := fun x y H Q => ∃ (q t : Addr) (a b : Bytes), x = .ref q ∧ y = .ref t ∧ SqT K H q (nm a) ∧ SqT K H t (nm b) ∧ Q (.bl (a == b)) H
/-- x == y, two ints or two names -/
def rEqA (K : PySem.W.Frag) : R2 := fun x y H Q => (scal x y = true ∧ Q (.bl (decide (x = y))) H) ∨ rEqN K x y H Q
theorem op_eqA {X : Cx} (hu : X.A.units + 64 < cLine) : OpR X (compareOp .Eq) (rEqA X.K) := by
  intro pins s σ H x y v u Q I rx ry h
  rcases h with h | ⟨q, t, a, b, rfl, rfl, h1, h2, hq⟩
  · exact op_eq pins s σ H _ _ v u Q I rx ry h
  · exact op_eqD hu pins s σ H _ _ v u Q I rx ry ⟨nmD a, nmD b, dp_nm h1, dp_nm h2, shaped_nm a, shaped_nm b, by rw [eqv_nm]; exact hq⟩
def rIndexN (K : PySem.W.Frag) : V → List V → Hp → VK → Prop := fun x xs H Q => ∃ (q t : Addr) (b : Bytes) (qs : List Addr) (bs : List Bytes) (j : Nat), x = .ref t ∧ xs = [.ref q] ∧ SqT K H q (nm b) ∧ SqL K H t (qs.map V.ref) ∧ Paired (fun q b => SqT K H q (nm b)) qs bs ∧ bs.findIdx? (fun y => y == b) = some j ∧ Q (.int (j : Nat)) H
theorem mt_indexN {X : Cx} (hu : X.A.units + 65 < cLine) : MtR X "list.index" (rIndexN X.K) := by
  intro pins s σ H x xs v us Q I rx rxs h
  obtain ⟨q, t, b, qs, bs, j, rfl, rfl, h1, h2, h3, hj, hq⟩ := h
  obtain ⟨hlt, hp, hno⟩ := List.findIdx?_eq_some_iff_getElem.mp hj
  refine mt_indexD hu pins s σ H _ _ v us Q I rx rxs ⟨t, _, nmD b, bs.map nmD, j, nmD bs[j], rfl, rfl, .lst h2 (dp_all h3), dp_nm h1, shaped_nms bs, shaped_nm b, ?_, ?_, fun m z' hm hz => ?_, hq⟩
  · rw [List.getElem?_map, List.getElem?_eq_getElem hlt]
    rfl
  · rw [eqv_nm]
    exact hp
  · have hml : m < bs.length := Nat.lt_trans hm hlt
    rw [List.getElem?_map, List.getElem?_eq_getElem hml] at hz
    have hz : nmD bs[m] = z' := Option.some.inj hz
    rw [← hz, eqv_nm]
    have := hno m hm
    simpa using this
end PP

set_option Elab.async false
set_option linter.all false
set_option maxRecDepth 100000
set_option maxHeartbeats 4000000
namespace PP
open PySem PySem.Spec PyProof.Rows L2
open VakepBase (Bytes Fault PTok Toks PName RESERVED isLetter isDigit isBlank decimal numberOf NUMBER SIGNS)
theorem num_none {l : Bytes} {i : Nat} (h : l = [] ∨ 10 < l.length ∨ (1 < l.length ∧ l.head? = some 48) ∨ NUMBER < decimal l) : numRes l i = .error ⟨2, i⟩ := by
  have e : numberOf l = none := by unfold numberOf; rw [if_pos h]
  unfold numRes
  rw [e]
theorem num_some {l : Bytes} {i : Nat} (h : ¬ (l = [] ∨ 10 < l.length ∨ (1 < l.length ∧ l.head? = some 48) ∨ NUMBER < decimal l)) : numRes l i = .ok (decimal l) := by
  have e : numberOf l = some (decimal l) := by unfold numberOf; rw [if_neg h]
  unfold numRes
  rw [e]
theorem take_tw {α : Type} (p : α → Bool) : ∀ l : List α, l.take (l.takeWhile p).length = l.takeWhile p
  | [] => rfl
  | c :: r => by
    rw [List.takeWhile_cons]
    split
    · rw [List.length_cons, List.take_succ_cons, take_tw p r]
    · rfl
theorem tw_le {α : Type} (p : α → Bool) : ∀ l : List α, (l.takeWhile p).length ≤ l.length
  | [] => Nat.le_refl _
  | c :: r => by
    rw [List.takeWhile_cons]
    split
    · have := tw_le p r
      simpa using this
    · exact Nat.zero_le _
theorem mem_tw {α : Type} {p : α → Bool} {c : α} : ∀ {l : List α}, c ∈ l.takeWhile p → p c = true
  | [], h => by simp at h
  | x :: r, h => by
    rw [List.takeWhile_cons] at h
    split at h
    · rcases List.mem_cons.mp h with rfl | h
      · assumption
      · exact mem_tw h
    · simp at h
theorem cut_nat {xs : List V} {i k : Nat} (h : i + k ≤ xs.length) : cutV xs (some (i : Int)) (some ((i + k : Nat) : Int)) = (xs.drop i).take k := by
  unfold cutV
  have e1 : HT.sIx xs.length 0 (some (i : Int)) = i := by rw [HT.sIx_nat]; omega
  have e2 : HT.sIx xs.length xs.length (some ((i + k : Nat) : Int)) = i + k := by rw [HT.sIx_nat]; omega
  rw [e1, e2, show i + k - i = k by omega]
theorem nm_cut {b : Bytes} {i k : Nat} (h : i + k ≤ b.length) : cutV (nm b) (some (i : Int)) (some ((i + k : Nat) : Int)) = nm ((b.drop i).take k) := by
  rw [cut_nat (by rw [nm_len]; exact h)]
  simp [nm, List.map_take, List.map_drop]
theorem signs_iff (c : UInt8) : inV (.int (c.toNat : Nat)) [.int 43, .int 44, .int 58, .int 59, .int 123, .int 125] = SIGNS.contains c := by
  rw [show ([.int 43, .int 44, .int 58, .int 59, .int 123, .int 125] : List V) = [(43 : Int), 44, 58, 59, 123, 125].map V.int from rfl, inV_ints, Bool.eq_iff_iff]
  simp only [SIGNS, List.any_cons, List.any_nil, Bool.or_false, Bool.or_eq_true, beq_iff_eq, List.contains_iff_mem, List.mem_cons, List.not_mem_nil, or_false, ← UInt8.toNat_inj]
  show _ ↔ (_ = 43 ∨ _ = 44 ∨ _ = 58 ∨ _ = 59 ∨ _ = 123 ∨ _ = 125)
  omega
theorem sign_no {c : UInt8} (h : SIGNS.contains c = true) : isLetter c = false ∧ isDigit c = false := by
  simp only [SIGNS, List.contains_iff_mem, List.mem_cons, List.not_mem_nil, or_false] at h
  rcases h with rfl | rfl | rfl | rfl | rfl | rfl <;> decide
theorem letter_no {c : UInt8} (h : isLetter c = true) : SIGNS.contains c = false := by
  cases e : SIGNS.contains c with
  | false => rfl
  | true => rw [(sign_no e).1] at h; cases h
/-! ### a token in the heap -/
def kindOf : VakepBase.Tok → Int
  | .name b => if RESERVED.contains b = true then 2 else 1
  | .num _ => 3
  | .sign _ => 4
  | .last => 5
def WhatAt (H : Hp) : VakepBase.Tok → V → Prop
  | .name b, v => ∃ q, v = .ref q ∧ H q = some (.tup (nm b))
  | .num n, v => v = .int (n : Nat)
  | .sign c, v => v = .int (c : Nat)
  | .last, _ => True
def TokAt (K : PySem.W.Frag) (H : Hp) (a : Addr) (t : PTok) : Prop := ∃ (dx : Addr) (w : V), H a = some (.ins (He.ga K "Token") dx (tokF (.int (kindOf t.tok)) w (.int (t.place : Nat)))) ∧ WhatAt H t.tok w
theorem WhatAt.mono {H H' : Hp} (s : Same H H') : ∀ {t : VakepBase.Tok} {v : V}, WhatAt H t v → WhatAt H' t v
  | .name _, _, ⟨q, e, h⟩ => ⟨q, e, s _ _ h⟩
  | .num _, _, h => h
  | .sign _, _, h => h
  | .last, _, h => h
theorem TokAt.mono {K : PySem.W.Frag} {H H' : Hp} {a : Addr} {t : PTok} (s : Same H H') (h : TokAt K H a t) : TokAt K H' a t := by
  obtain ⟨dx, w, h1, h2⟩ := h
  exact ⟨dx, w, s _ _ h1, h2.mono s⟩
theorem pimp {α β : Type} {F G : α → β → Prop} {l : List α} {m : List β} (h : Paired F l m) (f : ∀ a b, F a b → G a b) : Paired G l m := L2.Paired.mapP h f
def tokRes (l : Bytes) (i : Nat) : Except Fault (VakepBase.Tok × Nat) := match VakepBase.token l with
  | none => .error ⟨2, i⟩
  | some x => .ok x
def spTokenAt (K : PySem.W.Frag) : Sp := fun vs H Q E => ∃ (a : Addr) (b : Bytes) (i : Nat), vs = [.ref a, .int (i : Nat)] ∧ SqL K H a (nm b) ∧ i < b.length ∧
  Res K [] H E (tokRes (b.drop i) i) (fun x => ∀ (H' : Hp) (p ta : Addr), Same H H' → H' p = some (.tup [.ref ta, .int ((i + x.2 : Nat) : Int)]) → TokAt K H' ta ⟨i, x.1⟩ → Q (.ref p) H')
section
variable {P : Program} {w : World} {K : PySem.W.Frag} {mg : Str → Option Value} {base : Heap}
def N_number_of : List Str := ["digits", "place", "number", "byte"]
theorem sc_number_of : FnScope N_number_of ["digits", "place"] (defScope s_number_of) := ⟨rfl, rfl, rfl, by decide +kernel, rfl, by decide +kernel, by decide +kernel⟩
theorem ok_number_of (T : Txt K mg) : Ok P w K mg base 4 "number_of" ["digits", "place"] (spNumber K) := by
  have G_refuse : Ok P w K mg base 3 "refuse" ["is_wrong", "code", "place"] (spRefuse K) := ok_refuse T
  refine ok_mk T.d_number_of sc_number_of (fun vs H Q E h => ?_) (fun cdv A outer s H vs Q E hr h => ?_)
  · obtain ⟨a, b, i, rfl, _⟩ := h
    rfl
  · have hr_refuse : Room 3 _ := hr
    refine ⟨_, (pss_cons (ps_expr (pe_cX G_refuse hr_refuse outE (pa_cons (pe_and (pe_cmpR op_eq (pe_ix ix_list (pv 0) pe_int (fun _ _ => rfl)) pe_int (nomark _)) (pe_one (pe_cmpR op_gt (pe_callB call_len (by rfl) (T.free "len") PySem.boot_len (pa_cons (pv 0) pa_nil)) pe_int (nomark _)))) (pa_cons (pe_gl (T.int "NO_TOKEN" 2)) (pa_cons (pv 1) pa_nil))))) (pss_cons (ps_expr (pe_cX G_refuse hr_refuse outE (pa_cons (pe_cmpR op_gt (pe_callB call_len (by rfl) (T.free "len") PySem.boot_len (pa_cons (pv 0) pa_nil)) pe_int (nomark _)) (pa_cons (pe_gl (T.int "NO_TOKEN" 2)) (pa_cons (pv 1) pa_nil))))) (pss_cons (ps_set (i := 2) sc_number_of.nd rfl (Or.inl rfl) pe_int) (pss_cons (ps_for (passes_of rfl) rfl (pi_list (pv 0)) (pg_name (i := 3) sc_number_of.nd rfl (Or.inl rfl)) (pss_one (ps_set (i := 2) sc_number_of.nd rfl (Or.inl rfl) (pe_op op_sub (pe_op op_add (pe_op op_mul pe_int (pv 2)) (pv 3)) pe_int)))) (pss_cons (ps_expr (pe_cX G_refuse hr_refuse outE (pa_cons (pe_cmpR op_gt (pv 2) (pe_gl (T.int "MOST_NUMBER" 1000000000)) (nomark _)) (pa_cons (pe_gl (T.int "NO_TOKEN" 2)) (pa_cons (pv 1) pa_nil))))) (pss_one (ps_ret (pv 2)))))))), ?_⟩
    obtain ⟨a, l, i, rfl, hS, hne, hd, hR⟩ := h
    obtain ⟨c0, r0, rfl⟩ : ∃ c r, l = c :: r := List.exists_cons_of_ne_nil hne
    have len_rd : ∀ (σ : L2.St) (Q : V → Hp → Prop), σ[0]? = some (some (.ref a)) → Q (.int ((c0 :: r0).length : Nat)) H → tCB (fun xs H Q => ∃ x n, xs = [x] ∧ LenV K x H n ∧ Q (.int n) H) (tCons (tVar 0) tNil) σ H Q := fun σ Q h q => ⟨_, h, _, _, rfl, .inl ⟨_, hS, (nm_len _).symm⟩, q⟩
    have e48 : decide (V.int (c0.toNat : Nat) = V.int 48) = decide (c0 = 48) := by
      rw [Bool.eq_iff_iff, decide_eq_true_eq, decide_eq_true_eq, ← UInt8.toNat_inj]
      show _ ↔ _ = 48
      rw [V.int.injEq]
      omega
    refine andV_val (c1 := decide (c0 = 48)) (c2 := decide (1 < (c0 :: r0).length)) (fun Q q => ⟨_, rfl, a, _, _, _, rfl, rfl, hS, atI_nat (j := 0) (nm_at (b := c0 :: r0) rfl), rfl, by rw [← e48] at q; exact q⟩) (fun _ Q q => len_rd _ _ rfl ⟨_, _, rfl, rfl, ?_⟩) ⟨_, rfl, _, ⟨2, i⟩, rfl, fun e => ?_, fun e => ?_⟩
    · have e3 : decide ((1 : Int) < ((c0 :: r0).length : Nat)) = decide (1 < (c0 :: r0).length) := by
        rw [Bool.eq_iff_iff, decide_eq_true_eq, decide_eq_true_eq]
        omega
      rw [← e3] at q
      exact q
    · simp only [Bool.and_eq_true, decide_eq_true_eq] at e
      rw [num_none (.inr (.inr (.inl ⟨e.2, by rw [e.1] <;> rfl⟩)))] at hR
      exact hR
    · have n1 : ¬ (1 < (c0 :: r0).length ∧ (c0 :: r0).head? = some 48) := by
        rintro ⟨z1, z2⟩
        have z2 : c0 = 48 := Option.some.inj z2
        rw [decide_eq_true z1, decide_eq_true z2] at e
        cases e
      refine ⟨_, rfl, _, _, rfl, .inl ⟨_, hS, (nm_len _).symm⟩, _, _, rfl, rfl, _, rfl, _, ⟨2, i⟩, rfl, fun e => ?_, fun e => ?_⟩
      · have e2 : 10 < (c0 :: r0).length := by
          have := of_decide_eq_true e
          omega
        rw [num_none (.inr (.inl e2))] at hR
        exact hR
      · have n2 : ¬ 10 < (c0 :: r0).length := by
          have := of_decide_eq_false e
          omega
        refine ⟨_, rfl, a, rfl, ⟨_, hS⟩, for_list (K := K) (a := a) (xs := nm (c0 :: r0)) (fun k σ H' => H' = H ∧ ∃ v : Option V, σ = [some (.ref a), some (.int (i : Nat)), some (.int ((decimal ((c0 :: r0).take k) : Nat) : Int)), v]) ⟨rfl, none, rfl⟩ (fun k σ H' _ ⟨h, _⟩ => by rw [h]; exact hS) ?_ ?_⟩
        · rintro k x σ H' hk ⟨rfl, v, rfl⟩
          obtain ⟨c, hc, rfl⟩ : ∃ c, (c0 :: r0)[k]? = some c ∧ x = .int (c.toNat : Nat) := by
            simp only [nm, List.getElem?_map, Option.map_eq_some_iff] at hk
            obtain ⟨c, h1, h2⟩ := hk
            exact ⟨c, h1, h2.symm⟩
          have hv := dig_val (hd c (List.mem_of_getElem? hc))
          refine ⟨_, rfl, _, _, rfl, rfl, .inl ⟨by decide, by decide⟩, _, rfl, _, _, rfl, rfl, _, _, rfl, rfl, rfl, some (.int (c.toNat : Nat)), ?_⟩
          have e4 : (10 : Int) * ((decimal ((c0 :: r0).take k) : Nat) : Int) + (c.toNat : Nat) - 48 = ((decimal ((c0 :: r0).take (k + 1)) : Nat) : Int) := by
            unfold decimal
            rw [foldl_more hc]
            omega
          show [some (V.ref a), some (V.int (i : Nat)), some (V.int ((10 : Int) * ((decimal ((c0 :: r0).take k) : Nat) : Int) + (c.toNat : Nat) - 48)), some (V.int (c.toNat : Nat))] = _
          rw [e4]
        · rintro σ H' ⟨rfl, v, rfl⟩
          rw [nm_len, List.take_length]
          refine ⟨_, rfl, _, _, rfl, rfl, _, rfl, _, ⟨2, i⟩, rfl, fun e => ?_, fun e => ?_⟩
          · have e2 : NUMBER < decimal (c0 :: r0) := by
              have := of_decide_eq_true e
              unfold NUMBER
              omega
            rw [num_none (.inr (.inr (.inr e2)))] at hR
            exact hR
          · have e2 : ¬ NUMBER < decimal (c0 :: r0) := by
              have := of_decide_eq_false e
              unfold NUMBER
              omega
            rw [num_some (by rintro (z | z | z | z); cases z; exact n2 z; exact n1 z; exact e2 z)] at hR
            exact ⟨_, rfl, hR⟩
end
end PP

set_option Elab.async false
set_option linter.all false
set_option maxRecDepth 100000
set_option maxHeartbeats 4000000
namespace PP
open PySem PySem.Spec PyProof.Rows L2
open VakepBase (Bytes Fault PTok Toks PName RESERVED isLetter isDigit isBlank decimal numberOf NUMBER SIGNS word)
/-! ### new things -/
theorem new2 {H : Hp} {x dx : Addr} {o1 o2 : HO} (hx : H x = none) (hd : H dx = none) : Same H (upd (upd H dx o1) x o2) := fun b o e => by
  rw [upd_ne (ne_of_none e hx), upd_ne (ne_of_none e hd)]
  exact e
theorem new3 {H : Hp} {x dx p : Addr} {o1 o2 o3 : HO} (hx : H x = none) (hd : H dx = none) (hp : upd (upd H dx o1) x o2 p = none) :
    Same H (upd (upd (upd H dx o1) x o2) p o3) ∧ upd (upd (upd H dx o1) x o2) p o3 x = some o2 ∧ upd (upd (upd H dx o1) x o2) p o3 p = some o3 := by
  have ne : x ≠ p := ne_of_none upd_same hp
  exact ⟨(new2 hx hd).trans (same_upd hp), (upd_ne ne).trans upd_same, upd_same⟩
def wqs (K : PySem.W.Frag) : List Addr := [He.ga K "SET", He.ga K "PART", He.ga K "SIZE", He.ga K "START", He.ga K "SAY", He.ga K "CALL", He.ga K "MAKE", He.ga K "WHEN", He.ga K "IS"]
theorem words_res {K : PySem.W.Frag} {mg : Str → Option Value} (T : Txt K mg) (H : Hp) : Paired (fun q b => SqT K H q (nm b)) (wqs K) RESERVED := by
  have e : ∀ (q : Addr) (b : Bytes) (l : List V), SqT K H q l → l = nm b → SqT K H q (nm b) := fun q b l h e => e ▸ h
  refine .cons (e _ (word "set") _ (T.t_SET H) (by decide +kernel)) (.cons (e _ (word "part") _ (T.t_PART H) (by decide +kernel)) (.cons (e _ (word "size") _ (T.t_SIZE H) (by decide +kernel)) (.cons (e _ (word "start") _ (T.t_START H) (by decide +kernel)) (.cons (e _ (word "say") _ (T.t_SAY H) (by decide +kernel)) (.cons (e _ (word "call") _ (T.t_CALL H) (by decide +kernel)) (.cons (e _ (word "make") _ (T.t_MAKE H) (by decide +kernel)) (.cons (e _ (word "when") _ (T.t_WHEN H) (by decide +kernel)) (.cons (e _ (word "is") _ (T.t_IS H) (by decide +kernel)) .nil))))))))
theorem tok_sign {c : UInt8} {r : Bytes} (i : Nat) (h : SIGNS.contains c = true) : tokRes (c :: r) i = .ok (.sign c.toNat, 1) := by
  obtain ⟨h1, h2⟩ := sign_no h
  unfold tokRes VakepBase.token
  simp only [h1, h2, h, Bool.false_eq_true, if_false, if_true]
theorem tok_long {c : UInt8} {r : Bytes} (i : Nat) (h : isLetter c = true) (h2 : 16 < ((c :: r).takeWhile fun c => isLetter c || isDigit c).length) : tokRes (c :: r) i = .error ⟨2, i⟩ := by
  unfold tokRes VakepBase.token
  simp only [h, if_true]
  rw [if_pos (show VakepBase.NAME < _ from h2)]
theorem tok_name {c : UInt8} {r : Bytes} (i : Nat) (h : isLetter c = true) (h2 : ¬ 16 < ((c :: r).takeWhile fun c => isLetter c || isDigit c).length) :
    tokRes (c :: r) i = .ok (.name ((c :: r).takeWhile fun c => isLetter c || isDigit c), ((c :: r).takeWhile fun c => isLetter c || isDigit c).length) := by
  unfold tokRes VakepBase.token
  simp only [h, if_true]
  rw [if_neg (show ¬ VakepBase.NAME < _ from h2)]
theorem tok_none {c : UInt8} {r : Bytes} (i : Nat) (h : SIGNS.contains c = false) (h1 : isLetter c = false) (h2 : isDigit c = false) : tokRes (c :: r) i = .error ⟨2, i⟩ := by
  unfold tokRes VakepBase.token
  simp only [h, h1, h2, Bool.false_eq_true, if_false]
theorem tok_num {c : UInt8} {r : Bytes} (i : Nat) (h1 : isLetter c = false) (h2 : isDigit c = true) :
    tokRes (c :: r) i = (numRes ((c :: r).takeWhile isDigit) i).map fun n => (.num n, ((c :: r).takeWhile isDigit).length) := by
  unfold tokRes VakepBase.token numRes
  simp only [h1, h2, Bool.false_eq_true, if_false, if_true]
  cases numberOf ((c :: r).takeWhile isDigit) <;> rfl
section
variable {P : Program} {w : World} {K : PySem.W.Frag} {mg : Str → Option Value} {base : Heap}
def N_token_at : List Str := ["text", "at", "byte", "end", "name"]
theorem sc_token_at : FnScope N_token_at ["text", "at"] (defScope s_token_at) := ⟨rfl, rfl, rfl, by decide +kernel, rfl, by decide +kernel, by decide +kernel⟩
theorem ok_token_at (T : Txt K mg) : Ok P w K mg base 5 "token_at" ["text", "at"] (spTokenAt K) := by
  have G_refuse : Ok P w K mg base 3 "refuse" ["is_wrong", "code", "place"] (spRefuse K) := ok_refuse T
  have G_number_of : Ok P w K mg base 4 "number_of" ["digits", "place"] (spNumber K) := ok_number_of T
  have G_behind_name : Ok P w K mg base 2 "behind_name" ["text", "at"] (spBName K) := ok_behind_name T
  have G_behind_digits : Ok P w K mg base 2 "behind_digits" ["text", "at"] (spBDigits K) := ok_behind_digits T
  have G_is_digit : Ok P w K mg base 1 "is_digit" ["byte"] spDigit := ok_is_digit T
  have G_is_letter : Ok P w K mg base 1 "is_letter" ["byte"] spLetter := ok_is_letter T
  have G_Token_init : OkI P w K mg base 1 "Token" ["self", "kind", "what", "place"] (spTokI K) := ok_Token_init T
  refine ok_mk T.d_token_at sc_token_at (fun vs H Q E h => ?_) (fun cdv A outer s H vs Q E hr h => ?_)
  · obtain ⟨a, b, i, rfl, _⟩ := h
    rfl
  · have hr_refuse : Room 3 _ := hr.mono (by decide)
    have hr_number_of : Room 4 _ := hr
    have hr_behind_name : Room 2 _ := hr.mono (by decide)
    have hr_behind_digits : Room 2 _ := hr.mono (by decide)
    have hr_is_digit : Room 1 _ := hr.mono (by decide)
    have hr_is_letter : Room 1 _ := hr.mono (by decide)
    have hr_Token : Room (1 + 1) _ := hr.mono (by decide)
    refine ⟨_, (pss_cons (ps_set (i := 2) sc_token_at.nd rfl (Or.inl rfl) (pe_ix ix_list (pv 0) (pv 1) (fun _ _ => rfl))) (pss_cons (ps_if (pt_cmpR op_in_seq (pv 2) (pe_gl (T.gV "SIGNS")) (by rfl)) (pss_one (ps_ret (pe_tup (pa_cons (pe_mkI (T.mkr "Token") G_Token_init hr_Token (T.g "Token") (pa_cons (pe_gl (T.int "SIGN" 4)) (pa_cons (pv 2) (pa_cons (pv 1) pa_nil)))) (pa_cons (pe_op op_add (pv 1) pe_int) pa_nil))))) pss_nil) (pss_cons (ps_if (pt_val (pe_c G_is_letter hr_is_letter (pa_cons (pv 2) pa_nil))) (pss_cons (ps_set (i := 3) sc_token_at.nd rfl (Or.inl rfl) (pe_c G_behind_name hr_behind_name (pa_cons (pv 0) (pa_cons (pv 1) pa_nil)))) (pss_cons (ps_set (i := 4) sc_token_at.nd rfl (Or.inl rfl) (pe_callTy call_tuple_of (by rfl) (T.free "tuple") (by decide +kernel) (pa_cons (pe_slice sl_list (pv 0) (po_some (pv 1)) (po_some (pv 3))) pa_nil))) (pss_cons (ps_expr (pe_cX G_refuse hr_refuse outE (pa_cons (pe_cmpR op_gt (pe_callB call_len (by rfl) (T.free "len") PySem.boot_len (pa_cons (pv 4) pa_nil)) (pe_gl (T.int "MOST_NAME" 16)) (nomark _)) (pa_cons (pe_gl (T.int "NO_TOKEN" 2)) (pa_cons (pv 1) pa_nil))))) (pss_cons (ps_if (pt_cmpR (op_inNT hr.u65) (pv 4) (pe_gl (T.gV "WORDS")) (by rfl)) (pss_one (ps_ret (pe_tup (pa_cons (pe_mkI (T.mkr "Token") G_Token_init hr_Token (T.g "Token") (pa_cons (pe_gl (T.int "WORD" 2)) (pa_cons (pv 4) (pa_cons (pv 1) pa_nil)))) (pa_cons (pv 3) pa_nil))))) pss_nil) (pss_one (ps_ret (pe_tup (pa_cons (pe_mkI (T.mkr "Token") G_Token_init hr_Token (T.g "Token") (pa_cons (pe_gl (T.int "NAME" 1)) (pa_cons (pv 4) (pa_cons (pv 1) pa_nil)))) (pa_cons (pv 3) pa_nil))))))))) pss_nil) (pss_cons (ps_expr (pe_cX G_refuse hr_refuse outE (pa_cons (pe_not (pe_c G_is_digit hr_is_digit (pa_cons (pv 2) pa_nil))) (pa_cons (pe_gl (T.int "NO_TOKEN" 2)) (pa_cons (pv 1) pa_nil))))) (pss_cons (ps_set (i := 3) sc_token_at.nd rfl (Or.inl rfl) (pe_c G_behind_digits hr_behind_digits (pa_cons (pv 0) (pa_cons (pv 1) pa_nil)))) (pss_one (ps_ret (pe_tup (pa_cons (pe_mkI (T.mkr "Token") G_Token_init hr_Token (T.g "Token") (pa_cons (pe_gl (T.int "NUMBER" 3)) (pa_cons (pe_cX G_number_of hr_number_of outE (pa_cons (pe_slice sl_list (pv 0) (po_some (pv 1)) (po_some (pv 3))) (pa_cons (pv 1) pa_nil))) (pa_cons (pv 1) pa_nil)))) (pa_cons (pv 3) pa_nil)))))))))), ?_⟩
    obtain ⟨a, b, i, rfl, hS, hi, hR⟩ := h
    have hd := drop_at hi
    rw [hd] at hR
    have hb := nm_at (List.getElem?_eq_getElem hi)
    generalize hc : b[i] = c at hd hR hb
    refine ⟨_, rfl, _, rfl, a, _, _, _, rfl, rfl, hS, atI_nat hb, ?_⟩
    refine ⟨_, rfl, _, _, rfl, .inr (T.t_SIGNS H), rfl, rfl, _, rfl, if_both (fun e => ?_) fun e => ?_⟩
    · replace e : SIGNS.contains c = true := (signs_iff c).symm.trans e
      rw [tok_sign i e] at hR
      refine ⟨_, rfl, _, rfl, fun x dx nx ndx ne => ⟨x, dx, _, _, _, rfl, upd_same, rfl, ?_⟩⟩
      rw [upd_upd]
      refine ⟨_, rfl, _, _, rfl, rfl, (by show 2 ≤ sizeLine; decide), fun p hp => ?_⟩
      obtain ⟨n1, n2, n3⟩ := new3 (o3 := .tup [.ref x, .int ((i : Int) + 1)]) nx ndx hp
      exact hR _ p x n1 n3 ⟨dx, _, n2, rfl⟩
    · replace e : SIGNS.contains c = false := (signs_iff c).symm.trans e
      refine ⟨_, rfl, c, rfl, _, rfl, if_both (fun e1 => ?_) fun e1 => ?_⟩
      · -- a name
        refine ⟨_, rfl, _, rfl, a, b, i, rfl, hS, Nat.le_of_lt hi, ?_⟩
        rw [hd]
        generalize hw : ((c :: b.drop (i + 1)).takeWhile fun c => isLetter c || isDigit c) = wd at *
        have hle : i + wd.length ≤ b.length := by
          have h1 := tw_le (fun c => isLetter c || isDigit c) (b.drop i)
          rw [hd, hw, List.length_cons, List.length_drop] at h1
          omega
        have hcut : cutV (nm b) (some (i : Int)) (some ((i + wd.length : Nat) : Int)) = nm wd := by
          rw [nm_cut hle, hd]
          congr 1
          have h2 := take_tw (fun c => isLetter c || isDigit c) (c :: b.drop (i + 1))
          rw [hw] at h2
          exact h2
        refine ⟨_, rfl, _, rfl, _, rfl, _, rfl, _, rfl, a, _, rfl, hS, fun p1 np1 => ⟨p1, _, rfl, .inl ⟨.inl (.inl upd_same), fun q nq => ?_⟩⟩⟩
        have s1 : Same H (upd (upd H p1 (.lst (nm wd))) q (.tup (nm wd))) := (same_upd np1).trans (same_upd (by rw [hcut] at nq; exact nq))
        have nq2 := nq
        rw [hcut] at nq2 ⊢
        generalize hH1 : upd (upd H p1 (.lst (nm wd))) q (.tup (nm wd)) = H1 at s1 ⊢
        have hq1 : H1 q = some (.tup (nm wd)) := by rw [← hH1]; exact upd_same
        -- refuse(len(name) > MOST_NAME, ..)
        refine ⟨_, rfl, _, wd.length, rfl, .inr ⟨_, .inl (.inl hq1), (nm_len _).symm⟩, _, _, rfl, rfl, _, rfl, _, ⟨2, i⟩, rfl, fun e2 => ?_, fun e2 => ?_⟩
        · have l : 16 < wd.length := by
            have := of_decide_eq_true e2
            omega
          rw [tok_long i e1 (by rw [hw]; exact l)] at hR
          exact hR.mono (Keep.of_same s1) fun _ h => h
        · have l : ¬ 16 < wd.length := by
            have := of_decide_eq_false e2
            omega
          rw [tok_name i e1 (by rw [hw]; exact l), hw] at hR
          have fin : ∀ (kd : Int) (x dx p : Addr), kd = kindOf (.name wd) → H1 x = none → H1 dx = none → upd (upd H1 dx (.own x)) x (.ins (He.ga K "Token") dx (tokF (.int kd) (.ref q) (.int (i : Nat)))) p = none →
              Q (.ref p) (upd (upd (upd H1 dx (.own x)) x (.ins (He.ga K "Token") dx (tokF (.int kd) (.ref q) (.int (i : Nat))))) p (.tup [.ref x, .int ((i + wd.length : Nat) : Int)])) := fun kd x dx p ek nx ndx hp => by
            obtain ⟨n1, n2, n3⟩ := new3 (o3 := .tup [.ref x, .int ((i + wd.length : Nat) : Int)]) nx ndx hp
            exact hR _ p x (s1.trans n1) n3 ⟨dx, _, by rw [← ek]; exact n2, q, rfl, n1 _ _ hq1⟩
          refine ⟨_, rfl, q, _, wd, wqs K, _, rfl, rfl, .inl (.inl hq1), T.t_WORDS H1, words_res T H1, _, rfl, if_both (fun e3 => ?_) fun e3 => ?_⟩
          · refine ⟨_, rfl, _, rfl, fun x dx nx ndx ne => ⟨x, dx, _, _, _, rfl, upd_same, rfl, ?_⟩⟩
            rw [upd_upd]
            refine ⟨_, rfl, (by show 2 ≤ sizeLine; decide), fun p hp => fin 2 x dx p (show (2 : Int) = (if RESERVED.contains wd = true then 2 else 1) from (if_pos e3).symm) nx ndx hp⟩
          · refine ⟨_, rfl, _, rfl, fun x dx nx ndx ne => ⟨x, dx, _, _, _, rfl, upd_same, rfl, ?_⟩⟩
            rw [upd_upd]
            refine ⟨_, rfl, (by show 2 ≤ sizeLine; decide), fun p hp => fin 1 x dx p (show (1 : Int) = (if RESERVED.contains wd = true then 2 else 1) from (if_neg (by rw [e3]; exact Bool.false_ne_true)).symm) nx ndx hp⟩
      · refine ⟨_, rfl, c, rfl, _, rfl, _, rfl, _, ⟨2, i⟩, rfl, fun e2 => ?_, fun e2 => ?_⟩
        · have e2 : isDigit c = false := by simpa using e2
          rw [tok_none i e e1 e2] at hR
          exact hR
        · have e2 : isDigit c = true := by simpa using e2
          rw [tok_num i e1 e2] at hR
          refine ⟨_, rfl, _, rfl, a, b, i, rfl, hS, Nat.le_of_lt hi, ?_⟩
          rw [hd]
          generalize hw : ((c :: b.drop (i + 1)).takeWhile isDigit) = wd at *
          have hle : i + wd.length ≤ b.length := by
            have h1 := tw_le isDigit (b.drop i)
            rw [hd, hw, List.length_cons, List.length_drop] at h1
            omega
          have hcut : cutV (nm b) (some (i : Int)) (some ((i + wd.length : Nat) : Int)) = nm wd := by
            rw [nm_cut hle, hd]
            congr 1
            have h2 := take_tw isDigit (c :: b.drop (i + 1))
            rw [hw] at h2
            exact h2
          refine ⟨_, rfl, _, rfl, _, rfl, _, rfl, _, rfl, a, _, rfl, hS, fun p1 np1 => ⟨_, rfl, p1, wd, i, rfl, .inl (.inl (by rw [hcut]; exact upd_same)), ?_, ?_, ?_⟩⟩
          · rw [← hw, List.takeWhile_cons, if_pos e2]
            exact List.cons_ne_nil _ _
          · intro c' hc'
            rw [← hw] at hc'
            exact mem_tw hc'
          · have s1 : Same H (upd H p1 (.lst (cutV (nm b) (some (i : Int)) (some ((i + wd.length : Nat) : Int))))) := same_upd np1
            cases hn : numRes wd i with
            | error f =>
              rw [hn] at hR
              exact hR.mono (Keep.of_same s1) fun _ h => h
            | ok n =>
              rw [hn] at hR
              refine ⟨_, rfl, fun x dx nx ndx ne => ⟨x, dx, _, _, _, rfl, upd_same, rfl, ?_⟩⟩
              rw [upd_upd]
              refine ⟨_, rfl, (by show 2 ≤ sizeLine; decide), fun p hp => ?_⟩
              obtain ⟨n1, n2, n3⟩ := new3 (o3 := .tup [.ref x, .int ((i + wd.length : Nat) : Int)]) nx ndx hp
              exact hR _ p x (s1.trans n1) n3 ⟨dx, _, n2, rfl⟩
end
end PP

set_option Elab.async false
set_option linter.all false
set_option maxRecDepth 100000
set_option maxHeartbeats 4000000
namespace PP
open PySem PySem.Spec PyProof.Rows L2
open VakepBase (Bytes Fault PTok Toks PName RESERVED isLetter isDigit isBlank decimal numberOf NUMBER SIGNS word lex)
/-! ### plain: the lexer by gaps and tokens -/
theorem lex_nil (n i : Nat) : lex n i [] = .ok [⟨i, .last⟩] := by cases n <;> rfl
theorem lex_blank {n i : Nat} {c : UInt8} {r : Bytes} (h : isBlank c = true) : lex (n + 1) i (c :: r) = lex n (i + 1) r := by
  show (if isBlank c = true then _ else _) = _
  rw [if_pos h]
theorem lex_rem {n i : Nat} {c : UInt8} {r : Bytes} (h : isBlank c = false) (h2 : (c == 35) = true) : lex (n + 1) i (c :: r) = lex n (i + 1 + (r.takeWhile (· != 10)).length) (r.dropWhile (· != 10)) := by
  show (if isBlank c = true then _ else if (c == 35) = true then _ else _) = _
  rw [if_neg (by rw [h]; exact Bool.false_ne_true), if_pos h2]
theorem lex_tokS {n i : Nat} {c : UInt8} {r : Bytes} (h : isBlank c = false) (h2 : (c == 35) = false) : lex (n + 1) i (c :: r) = (tokRes (c :: r) i).bind fun x => (lex n (i + x.2) ((c :: r).drop x.2)).map fun l => ⟨i, x.1⟩ :: l := by
  show (if isBlank c = true then _ else if (c == 35) = true then _ else _) = _
  rw [if_neg (by rw [h]; exact Bool.false_ne_true), if_neg (by rw [h2]; exact Bool.false_ne_true)]
  unfold tokRes
  cases VakepBase.token (c :: r) <;> rfl
theorem tok_len {c : UInt8} {r : Bytes} {i : Nat} {x : VakepBase.Tok × Nat} (h : tokRes (c :: r) i = .ok x) : 1 ≤ x.2 ∧ x.2 ≤ (c :: r).length ∧ x.1 ≠ .last := by
  have tw1 : ∀ p : UInt8 → Bool, p c = true → 1 ≤ ((c :: r).takeWhile p).length := fun p hp => by
    rw [List.takeWhile_cons, if_pos hp, List.length_cons]
    omega
  cases e1 : isLetter c with
  | true =>
    by_cases l : 16 < ((c :: r).takeWhile fun c => isLetter c || isDigit c).length
    · rw [tok_long i e1 l] at h
      cases h
    · rw [tok_name i e1 l] at h
      cases h
      exact ⟨tw1 _ (by rw [e1]; rfl), tw_le _ _, fun z => by cases z⟩
  | false =>
    cases e2 : isDigit c with
    | true =>
      rw [tok_num i e1 e2] at h
      cases hn : numRes ((c :: r).takeWhile isDigit) i with
      | error f => rw [hn] at h; cases h
      | ok n =>
        rw [hn] at h
        cases h
        exact ⟨tw1 _ e2, tw_le _ _, fun z => by cases z⟩
    | false =>
      cases e : SIGNS.contains c with
      | true =>
        rw [tok_sign i e] at h
        cases h
        exact ⟨Nat.le_refl _, by rw [List.length_cons]; omega, fun z => by cases z⟩
      | false =>
        rw [tok_none i e e1 e2] at h
        cases h
theorem dw_le {α : Type} (p : α → Bool) : ∀ l : List α, (l.dropWhile p).length ≤ l.length
  | [] => Nat.le_refl _
  | c :: r => by
    rw [List.dropWhile_cons]
    split
    · have := dw_le p r
      rw [List.length_cons]
      omega
    · exact Nat.le_refl _
theorem lex_fuel : ∀ (n m i : Nat) (l : Bytes), l.length < n → l.length < m → lex n i l = lex m i l
  | 0, _, _, _, h, _ => absurd h (Nat.not_lt_zero _)
  | _, 0, _, _, _, h => absurd h (Nat.not_lt_zero _)
  | n + 1, m + 1, i, [], _, _ => rfl
  | n + 1, m + 1, i, c :: r, h1, h2 => by
    rw [List.length_cons] at h1 h2
    cases e : isBlank c with
    | true => rw [lex_blank e, lex_blank e, lex_fuel n m _ r (by omega) (by omega)]
    | false =>
      cases e2 : c == 35 with
      | true =>
        have := dw_le (· != 10) r
        rw [lex_rem e e2, lex_rem e e2, lex_fuel n m _ _ (by omega) (by omega)]
      | false =>
        rw [lex_tokS e e2, lex_tokS e e2]
        cases ht : tokRes (c :: r) i with
        | error f => rfl
        | ok x =>
          obtain ⟨l1, l2, _⟩ := tok_len ht
          have hl : ((c :: r).drop x.2).length < n := by rw [List.length_drop, List.length_cons] at *; omega
          have hl2 : ((c :: r).drop x.2).length < m := by rw [List.length_drop, List.length_cons] at *; omega
          show (lex n _ _).map _ = (lex m _ _).map _
          rw [lex_fuel n m _ _ hl hl2]
/-- from an offset on, with fuel enough -/
def lexS (i : Nat) (l : Bytes) : Except Fault Toks := lex (l.length + 1) i l
theorem lexS_eq {n i : Nat} {l : Bytes} (h : l.length < n) : lex n i l = lexS i l := lex_fuel _ _ _ _ h (Nat.lt_succ_self _)
theorem gap_true : ∀ l : Bytes, gap true l = (l.takeWhile (· != 10)).length + gap false (l.dropWhile (· != 10))
  | [] => rfl
  | c :: r => by
    by_cases h : c = 10
    · subst h
      rw [List.takeWhile_cons, List.dropWhile_cons]
      show gap true (10 :: r) = 0 + gap false (10 :: r)
      rw [gap, gap]
      simp only [show ((10 : UInt8) == 35) = false by decide, show ((10 : UInt8) == 10) = true by decide, show isBlank 10 = true by decide, Bool.or_true, Bool.true_or, if_true, Bool.false_eq_true, if_false]
      omega
    · have h10 : (c != 10) = true := by simpa [bne_iff_ne] using h
      rw [List.takeWhile_cons, List.dropWhile_cons, if_pos h10, if_pos h10, List.length_cons, gap, if_pos (by rfl)]
      have e : (if (c == 35) = true then true else if (c == 10) = true then false else true) = true := by
        split
        · rfl
        · rw [if_neg (by simpa using h)]
      rw [e, gap_true r]
      omega
theorem blank_no35 {c : UInt8} (h : isBlank c = true) : (c == 35) = false := by
  cases e : c == 35 with
  | false => rfl
  | true =>
    rw [beq_iff_eq] at e
    subst e
    revert h
    decide
theorem gap_blank {c : UInt8} {r : Bytes} (h : isBlank c = true) : gap false (c :: r) = gap false r + 1 := by
  rw [gap, if_pos (by rw [h]; rfl), blank_no35 h]
  have e : (if (false = true) then true else if (c == 10) = true then false else false) = false := by
    rw [if_neg Bool.false_ne_true]
    split <;> rfl
  rw [e]
theorem gap_rem {c : UInt8} {r : Bytes} (h : (c == 35) = true) : gap false (c :: r) = gap true r + 1 := by
  rw [gap, if_pos (by rw [h, Bool.or_true]; rfl), if_pos h]
theorem gap_none {c : UInt8} {r : Bytes} (h : isBlank c = false) (h2 : (c == 35) = false) : gap false (c :: r) = 0 := by
  rw [gap, if_neg (by rw [h, h2]; exact Bool.false_ne_true)]
theorem dw_drop {α : Type} (p : α → Bool) : ∀ l : List α, l.dropWhile p = l.drop (l.takeWhile p).length
  | [] => rfl
  | c :: r => by
    rw [List.dropWhile_cons, List.takeWhile_cons]
    split
    · rw [List.length_cons, List.drop_succ_cons, dw_drop p r]
    · rfl
theorem lex_gap : ∀ (n i : Nat) (l : Bytes), l.length < n → lexS i l = lexS (i + gap false l) (l.drop (gap false l)) ∧ gap false (l.drop (gap false l)) = 0
  | 0, _, _, h => absurd h (Nat.not_lt_zero _)
  | n + 1, i, [], _ => ⟨rfl, rfl⟩
  | n + 1, i, c :: r, h => by
    rw [List.length_cons] at h
    cases e : isBlank c with
    | true =>
      obtain ⟨h1, h2⟩ := lex_gap n (i + 1) r (by omega)
      rw [gap_blank e, List.drop_succ_cons]
      refine ⟨?_, h2⟩
      show lex ((c :: r).length + 1) i (c :: r) = _
      rw [lex_blank e, lexS_eq (by rw [List.length_cons]; omega), h1, show i + (gap false r + 1) = i + 1 + gap false r by omega]
    | false =>
      cases e2 : c == 35 with
      | true =>
        have hl := dw_le (· != 10) r
        obtain ⟨h1, h2⟩ := lex_gap n (i + 1 + (r.takeWhile (· != 10)).length) (r.dropWhile (· != 10)) (by omega)
        rw [gap_rem e2, gap_true, List.drop_succ_cons, show r.drop ((r.takeWhile (· != 10)).length + gap false (r.dropWhile (· != 10))) = (r.dropWhile (· != 10)).drop (gap false (r.dropWhile (· != 10))) by rw [← List.drop_drop, ← dw_drop]]
        refine ⟨?_, h2⟩
        show lex ((c :: r).length + 1) i (c :: r) = _
        rw [lex_rem e e2, lexS_eq (by rw [List.length_cons]; omega), h1]
        congr 1
        omega
      | false =>
        rw [gap_none e e2]
        exact ⟨rfl, by rw [List.drop_zero]; exact gap_none e e2⟩
theorem lex_tok {i : Nat} {c : UInt8} {r : Bytes} (h : gap false (c :: r) = 0) : lexS i (c :: r) = (tokRes (c :: r) i).bind fun x => (lexS (i + x.2) ((c :: r).drop x.2)).map fun l => ⟨i, x.1⟩ :: l := by
  cases e : isBlank c with
  | true => rw [gap_blank e] at h; cases h
  | false =>
    cases e2 : c == 35 with
    | true => rw [gap_rem e2] at h; cases h
    | false =>
      show lex ((c :: r).length + 1) i (c :: r) = _
      rw [lex_tokS e e2]
      cases ht : tokRes (c :: r) i with
      | error f => rfl
      | ok x =>
        obtain ⟨l1, l2, _⟩ := tok_len ht
        show (lex _ _ _).map _ = (lexS _ _).map _
        rw [lexS_eq (by rw [List.length_drop]; omega)]
def spTokensOf (K : PySem.W.Frag) : Sp := fun vs H Q E => ∃ (a : Addr) (b : Bytes), vs = [.ref a] ∧ SqL K H a (nm b) ∧ b.length ≤ 4096 ∧
  Res K [] H E (lex (b.length + 1) 0 b) (fun toks => ∀ (H' : Hp) (tl : Addr) (as : List Addr), Same H H' → H tl = none → H' tl = some (.lst (as.map V.ref)) → Paired (TokAt K H') as toks → Q (.ref tl) H')
theorem psnoc {α β : Type} {F : α → β → Prop} : ∀ {l : List α} {m : List β} {a : α} {b : β}, Paired F l m → F a b → Paired F (l ++ [a]) (m ++ [b])
  | _, _, _, _, .nil, h => .cons h .nil
  | _, _, _, _, .cons r t, h => .cons r (psnoc t h)
theorem map_map {α β γ : Type} (r : Except Fault α) (f : α → β) (g : β → γ) : (r.map f).map g = r.map fun x => g (f x) := by cases r <;> rfl
section
variable {P : Program} {w : World} {K : PySem.W.Frag} {mg : Str → Option Value} {base : Heap}
def N_tokens_of : List Str := ["text", "found", "at", "token"]
theorem sc_tokens_of : FnScope N_tokens_of ["text"] (defScope s_tokens_of) := ⟨rfl, rfl, rfl, by decide +kernel, rfl, by decide +kernel, by decide +kernel⟩
theorem ok_tokens_of (T : Txt K mg) : Ok P w K mg base 6 "tokens_of" ["text"] (spTokensOf K) := by
  have G_behind_gap : Ok P w K mg base 1 "behind_gap" ["text", "at"] (spGap K) := ok_behind_gap T
  have G_token_at : Ok P w K mg base 5 "token_at" ["text", "at"] (spTokenAt K) := ok_token_at T
  have G_Token_init : OkI P w K mg base 1 "Token" ["self", "kind", "what", "place"] (spTokI K) := ok_Token_init T
  refine ok_mk T.d_tokens_of sc_tokens_of (fun vs H Q E h => ?_) (fun cdv A outer s H vs Q E hr h => ?_)
  · obtain ⟨a, b, rfl, _⟩ := h
    rfl
  · have hr_behind_gap : Room 1 _ := hr.mono (by decide)
    have hr_token_at : Room 5 _ := hr
    have hr_Token : Room (1 + 1) _ := hr.mono (by decide)
    refine ⟨_, (pss_cons (ps_set (i := 1) sc_tokens_of.nd rfl (Or.inl rfl) (pe_lst pa_nil)) (pss_cons (ps_set (i := 2) sc_tokens_of.nd rfl (Or.inl rfl) (pe_c G_behind_gap hr_behind_gap (pa_cons (pv 0) (pa_cons pe_int pa_nil)))) (pss_cons (ps_while (passes_of rfl) (pt_cmpR op_lt (pv 2) (pe_callB call_len (by rfl) (T.free "len") PySem.boot_len (pa_cons (pv 0) pa_nil)) (nomark _)) (pss_cons (ps_asg (pe_cX G_token_at hr_token_at outE (pa_cons (pv 0) (pa_cons (pv 2) pa_nil))) (pg_tup (by rfl) (pgs_cons (pg_name (i := 3) sc_tokens_of.nd rfl (Or.inl rfl)) (pgs_cons (pg_name (i := 2) sc_tokens_of.nd rfl (Or.inl rfl)) pgs_nil)))) (pss_cons (ps_expr (pe_bm PySem.F.plainAttrs_list PySem.F.slot_list_append PySem.F.type_list_append mt_append (pv 1) (pa_cons (pv 3) pa_nil))) (pss_one (ps_set (i := 2) sc_tokens_of.nd rfl (Or.inl rfl) (pe_c G_behind_gap hr_behind_gap (pa_cons (pv 0) (pa_cons (pv 2) pa_nil)))))))) (pss_cons (ps_expr (pe_bm PySem.F.plainAttrs_list PySem.F.slot_list_append PySem.F.type_list_append mt_append (pv 1) (pa_cons (pe_mkI (T.mkr "Token") G_Token_init hr_Token (T.g "Token") (pa_cons (pe_gl (T.int "END" 5)) (pa_cons (pe_tup pa_nil) (pa_cons (pe_callB call_len (by rfl) (T.free "len") PySem.boot_len (pa_cons (pv 0) pa_nil)) pa_nil)))) pa_nil))) (pss_one (ps_ret (pv 1))))))), ?_⟩
    obtain ⟨a, b, rfl, hS, hb, hR⟩ := h
    refine ⟨Nat.zero_le _, fun fl nfl => ⟨_, rfl, a, b, 0, rfl, (same_upd nfl).seq hS, Nat.zero_le _, ?_⟩⟩
    obtain ⟨g1, g2⟩ := lex_gap _ 0 b (Nat.lt_succ_self _)
    rw [List.drop_zero]
    let W : Nat → L2.St → Hp → Prop := fun m σ H' => ∃ (j : Nat) (as : List Addr) (ts : Toks) (tv : Option V), σ = [some (.ref a), some (.ref fl), some (.int (j : Nat)), tv] ∧ j ≤ b.length ∧ m = b.length - j ∧ Same H H' ∧ H' fl = some (.lst (as.map V.ref)) ∧
      Paired (TokAt K H') as ts ∧ as.length ≤ j ∧ gap false (b.drop j) = 0 ∧ lexS 0 b = (lexS j (b.drop j)).map fun l => ts ++ l
    refine ⟨W, ⟨_, gap false b, [], [], none, by rw [Nat.zero_add]; rfl, gap_le _ _, rfl, same_upd nfl, upd_same, .nil, Nat.zero_le _, g2, ?_⟩, ?_⟩
    · rw [g1, Nat.zero_add]
      cases lexS (gap false b) (b.drop (gap false b)) <;> rfl
    · rintro m σ H' ⟨j, as, ts, tv, rfl, hj, rfl, s1, hfl, hts, has, hg, hlex⟩
      refine ⟨_, rfl, _, rfl, _, b.length, rfl, .inl ⟨_, s1.seq hS, (nm_len b).symm⟩, _, _, rfl, rfl, _, rfl, if_both (fun c => ?_) fun c => ?_⟩
      · have hlt : j < b.length := by simpa using c
        have hd := drop_at hlt
        refine ⟨fun σ' H' => ∃ m', m' < b.length - j ∧ W m' σ' H', fun _ _ h => h, _, rfl, _, rfl, a, b, j, rfl, s1.seq hS, hlt, ?_⟩
        rw [hd] at hg hlex ⊢
        rw [lex_tok hg] at hlex
        rw [show lex (b.length + 1) 0 b = lexS 0 b from rfl, hlex] at hR
        cases ht : tokRes (b[j] :: b.drop (j + 1)) j with
        | error f =>
          rw [ht] at hR
          exact FaultE.mono (M := []) hR (Keep.of_same s1) fun _ h => h
        | ok x =>
          obtain ⟨l1, l2, _⟩ := tok_len ht
          rw [ht] at hlex
          have l2 : j + x.2 ≤ b.length := by
            rw [← hd, List.length_drop] at l2
            omega
          intro H2 p ta s2 hp hta
          refine ⟨p, _, rfl, .inl (.inl hp), rfl, _, _, rfl, _, _, rfl, rfl, ?_⟩
          have hfl2 := s2 _ _ hfl
          refine ⟨_, rfl, .inl ⟨rfl, _, SqL.of hfl2⟩, _, rfl, fl, _, _, rfl, rfl, hfl2, ?_, ?_⟩
          · rw [List.length_map]
            refine Nat.lt_of_le_of_lt (Nat.le_trans has (Nat.le_trans hj hb)) (by decide)
          · have s3 : Same H (upd H2 fl (.lst (as.map V.ref ++ [.ref ta]))) := fun c o e => by
              rw [upd_ne (ne_of_none e nfl)]
              exact s2 _ _ (s1 _ _ e)
            have s4 : ∀ {c t}, TokAt K H2 c t → TokAt K (upd H2 fl (.lst (as.map V.ref ++ [.ref ta]))) c t := fun {c t} h => by
              obtain ⟨dx, w, h1, h2⟩ := h
              have n1 : c ≠ fl := ne_of h1 hfl2 (fun z => by cases z)
              refine ⟨dx, w, by rw [upd_ne n1]; exact h1, ?_⟩
              obtain ⟨pl, tk⟩ := t
              cases tk with
              | name n =>
                obtain ⟨q, e, h3⟩ := h2
                exact ⟨q, e, by rw [upd_ne (ne_of h3 hfl2 (fun z => by cases z))]; exact h3⟩
              | num n => exact h2
              | sign n => exact h2
              | last => exact h2
            refine ⟨_, rfl, _, rfl, a, b, j + x.2, rfl, s3.seq hS, l2, ?_⟩
            obtain ⟨g3, g4⟩ := lex_gap _ (j + x.2) (b.drop (j + x.2)) (Nat.lt_succ_self _)
            have gl := gap_le false (b.drop (j + x.2))
            rw [List.length_drop] at gl
            have ed : (b.drop (j + x.2)).drop (gap false (b.drop (j + x.2))) = b.drop (j + x.2 + gap false (b.drop (j + x.2))) := by rw [List.drop_drop]
            rw [ed] at g3 g4
            refine ⟨b.length - (j + x.2 + gap false (b.drop (j + x.2))), by omega, j + x.2 + gap false (b.drop (j + x.2)), as ++ [ta], ts ++ [⟨j, x.1⟩], some (.ref ta), rfl, by omega, rfl, s3, ?_, ?_, ?_, g4, ?_⟩
            · rw [List.map_append]
              exact upd_same
            · exact psnoc (pimp hts fun c t h => s4 (h.mono s2)) (s4 hta)
            · rw [List.length_append]
              show as.length + 1 ≤ _
              omega
            · rw [hlex]
              show ((lexS (j + x.2) ((b[j] :: b.drop (j + 1)).drop x.2)).map _).map _ = _
              rw [← hd, List.drop_drop, map_map, ← g3]
              congr 1
              funext l
              simp
      · have hge : b.length ≤ j := by simpa using c
        have ej : j = b.length := by omega
        rw [List.drop_eq_nil_of_le hge] at hlex
        rw [show lex (b.length + 1) 0 b = lexS 0 b from rfl, hlex, show lexS j [] = .ok [⟨j, .last⟩] from rfl] at hR
        have hR : ∀ (H' : Hp) (tl : Addr) (as : List Addr), Same H H' → H tl = none → H' tl = some (.lst (as.map V.ref)) → Paired (TokAt K H') as (ts ++ [⟨j, .last⟩]) → Q (.ref tl) H' := hR
        refine ⟨_, rfl, .inl ⟨rfl, _, SqL.of hfl⟩, Nat.zero_le _, fun p0 np0 => ?_⟩
        have s2 : Same H' (upd H' p0 (.tup [])) := same_upd np0
        refine ⟨_, rfl, _, b.length, rfl, .inl ⟨_, (s1.trans s2).seq hS, (nm_len b).symm⟩, fun x dx nx ndx ne => ⟨x, dx, _, _, _, rfl, upd_same, rfl, ?_⟩⟩
        rw [upd_upd]
        have s3 := s2.trans (new2 (o1 := .own x) (o2 := .ins (He.ga K "Token") dx (tokF (.int 5) (.ref p0) (.int (b.length : Nat)))) nx ndx)
        have hx : upd (upd (upd H' p0 (.tup [])) dx (.own x)) x (.ins (He.ga K "Token") dx (tokF (.int 5) (.ref p0) (.int (b.length : Nat)))) x = some (.ins (He.ga K "Token") dx (tokF (.int 5) (.ref p0) (.int (b.length : Nat)))) := upd_same
        generalize upd (upd (upd H' p0 (.tup [])) dx (.own x)) x (.ins (He.ga K "Token") dx (tokF (.int 5) (.ref p0) (.int (b.length : Nat)))) = H2 at s3 hx ⊢
        have hfl2 := s3 _ _ hfl
        refine ⟨fl, _, _, rfl, rfl, hfl2, ?_, ?_⟩
        · rw [List.length_map]
          refine Nat.lt_of_le_of_lt (Nat.le_trans has (Nat.le_trans hj hb)) (by decide)
        · have s4 : ∀ {c t}, TokAt K H2 c t → TokAt K (upd H2 fl (.lst (as.map V.ref ++ [.ref x]))) c t := fun {c t} h => by
            obtain ⟨dx, w, h1, h2⟩ := h
            have n1 : c ≠ fl := ne_of h1 hfl2 (fun z => by cases z)
            refine ⟨dx, w, by rw [upd_ne n1]; exact h1, ?_⟩
            obtain ⟨pl, tk⟩ := t
            cases tk with
            | name n =>
              obtain ⟨q, e, h3⟩ := h2
              exact ⟨q, e, by rw [upd_ne (ne_of h3 hfl2 (fun z => by cases z))]; exact h3⟩
            | num n => exact h2
            | sign n => exact h2
            | last => exact h2
          refine ⟨_, rfl, hR _ fl (as ++ [x]) (fun c o e => ?_) nfl (by rw [List.map_append]; exact upd_same) (psnoc (pimp hts fun c t h => s4 (h.mono s3)) (s4 ⟨dx, _, by rw [ej]; exact hx, trivial⟩))⟩
          rw [upd_ne (ne_of_none e nfl)]
          exact s3 _ _ (s1 _ _ e)
end
end PP

set_option Elab.async false
set_option linter.all false
set_option maxRecDepth 100000
set_option maxHeartbeats 4000000
namespace PP
open PySem PySem.Spec PyProof.Rows L2
open VakepBase (Bytes Fault PTok Toks PName RESERVED word next taken wrong here takeName)
/-! ### the reader -/
def rdF (t i c : V) : List (Str × V) := [("tokens", t), ("at", i), ("called", c)]
theorem rdF_tokens {t i c : V} : (rdF t i c).lookup ("tokens" : Str) = some t := lk_here
theorem rdF_at {t i c : V} : (rdF t i c).lookup ("at" : Str) = some i := (lk_past (by decide +kernel)).trans lk_here
theorem rdF_called {t i c : V} : (rdF t i c).lookup ("called" : Str) = some c := (lk_past (by decide +kernel)).trans ((lk_past (by decide +kernel)).trans lk_here)
theorem rdF_put {t i c y : V} : putF "at" y (rdF t i c) = rdF t y c := (put_past (by decide +kernel)).trans (congrArg _ put_here)
def EndsLast : Toks → Prop
  | [] => False
  | t :: r => (t.tok = .last ∧ r = []) ∨ (t.tok ≠ .last ∧ EndsLast r)
/-- a reader at R over the list TL of the tokens at as; CL: the names behind call -/
structure Rc where
  R : Addr
  TL : Addr
  CL : Addr
  as : List Addr
  toks : Toks
def CalledAt (H : Hp) : List V → List PName → Prop := Paired fun v p => ∃ t q, v = .ref t ∧ H t = some (.tup [.ref q, .int (p.place : Nat)]) ∧ H q = some (.tup (nm p.name))
theorem CalledAt.mono {H H' : Hp} {vs : List V} {ps : List PName} (s : Same H H') (h : CalledAt H vs ps) : CalledAt H' vs ps := pimp h fun _ _ ⟨t, q, e, h1, h2⟩ => ⟨t, q, e, s _ _ h1, s _ _ h2⟩
/-- the reader stands at l; ps: what it has called; U: all that may change -/
structure At (K : PySem.W.Frag) (c : Rc) (U : List Addr) (H : Hp) (l : Toks) (ps : List PName) : Prop where
  rd : ∃ (dx : Addr) (i : Nat), H c.R = some (.ins (He.ga K "Reader") dx (rdF (.ref c.TL) (.int (i : Nat)) (.ref c.CL))) ∧ c.toks.drop i = l
  tl : off U H c.TL = some (.lst (c.as.map V.ref))
  tk : Paired (TokAt K (off U H)) c.as c.toks
  cl : ∃ vs, H c.CL = some (.lst vs) ∧ CalledAt (off U H) vs ps
  el : EndsLast l
  uR : c.R ∈ U
  uC : c.CL ∈ U
  lv : ∀ u ∈ U, H u ≠ none
  bd : ps.length + l.length ≤ 5000
theorem off_of_same {U : List Addr} {H H' : Hp} (s : Same H H') : Same (off U H) (off U H') := fun b o e => by
  obtain ⟨hb, e⟩ := off_some e
  exact off_get hb (s _ _ e)
theorem live_same {U : List Addr} {H H' : Hp} (h : ∀ u ∈ U, H u ≠ none) (s : Same H H') : ∀ u ∈ U, H' u ≠ none := fun u hu z => by
  cases e : H u with
  | none => exact h u hu e
  | some o => rw [s _ _ e] at z; cases z
theorem new_off {U : List Addr} {H : Hp} {p : Addr} (h : ∀ u ∈ U, H u ≠ none) (np : H p = none) : p ∉ U := fun hp => h p hp np
section
variable {K : PySem.W.Frag} {c : Rc} {U : List Addr} {H H' : Hp} {l : Toks} {ps : List PName}
theorem At.same (h : At K c U H l ps) (s : Same H H') : At K c U H' l ps := by
  obtain ⟨dx, i, h1, h2⟩ := h.rd
  obtain ⟨vs, h3, h4⟩ := h.cl
  exact ⟨⟨dx, i, s _ _ h1, h2⟩, off_of_same s _ _ h.tl, pimp h.tk fun _ _ t => t.mono (off_of_same s), ⟨vs, s _ _ h3, h4.mono (off_of_same s)⟩, h.el, h.uR, h.uC, live_same h.lv s, h.bd⟩
/-- other things of U are written -/
theorem At.keep {M : List Addr} (h : At K c U H l ps) (k : Keep M H H') (hM : ∀ m ∈ M, m ∈ U) (hl : ∀ m ∈ M, H' m ≠ none) (hR : c.R ∉ M) (hC : c.CL ∉ M) : At K c U H' l ps := by
  obtain ⟨dx, i, h1, h2⟩ := h.rd
  obtain ⟨vs, h3, h4⟩ := h.cl
  have s := k.off hM
  refine ⟨⟨dx, i, k _ _ hR h1, h2⟩, s _ _ h.tl, pimp h.tk fun _ _ t => t.mono s, ⟨vs, k _ _ hC h3, h4.mono s⟩, h.el, h.uR, h.uC, fun u hu => ?_, h.bd⟩
  by_cases hm : u ∈ M
  · exact hl u hm
  · intro z
    cases e : H u with
    | none => exact h.lv u hu e
    | some o => rw [k _ _ hm e] at z; cases z
theorem At.rc (h : At K c U H l ps) : c.R ≠ c.CL := by
  obtain ⟨dx, i, h1, _⟩ := h.rd
  obtain ⟨vs, h3, _⟩ := h.cl
  exact ne_of h1 h3 (fun z => by cases z)
/-- one token further -/
theorem At.go {t : PTok} {r : Toks} {dx : Addr} {i : Nat} (h : At K c U H (t :: r) ps) (ht : t.tok ≠ .last) (h2 : c.toks.drop i = t :: r) : At K c U (upd H c.R (.ins (He.ga K "Reader") dx (rdF (.ref c.TL) (.int ((i + 1 : Nat) : Int)) (.ref c.CL)))) r ps := by
  obtain ⟨vs, h3, h4⟩ := h.cl
  have s : Same (off U H) (off U (upd H c.R (.ins (He.ga K "Reader") dx (rdF (.ref c.TL) (.int ((i + 1 : Nat) : Int)) (.ref c.CL))))) := (keep_updM (M := U) h.uR).off fun _ h => h
  have e : c.toks.drop (i + 1) = r := by
    have := congrArg (List.drop 1) h2
    rw [List.drop_drop] at this
    exact this
  refine ⟨⟨dx, i + 1, upd_same, e⟩, s _ _ h.tl, pimp h.tk fun _ _ t => t.mono s, ⟨vs, by rw [upd_ne h.rc.symm]; exact h3, h4.mono s⟩, ?_, h.uR, h.uC, fun u hu => ?_, ?_⟩
  · rcases h.el with ⟨z, _⟩ | ⟨_, z⟩
    · exact absurd z ht
    · exact z
  · by_cases z : u = c.R
    · rw [z, upd_same]
      exact fun z => by cases z
    · rw [upd_ne z]
      exact h.lv u hu
  · have := h.bd
    rw [List.length_cons] at this
    omega
theorem drop_get {α : Type} {l : List α} {i : Nat} {t : α} {r : List α} (h : l.drop i = t :: r) : l[i]? = some t := by
  have := congrArg (fun x : List α => x[0]?) h
  simpa using this
theorem Paired_get {α β : Type} {F : α → β → Prop} : ∀ {l : List α} {m : List β} {i : Nat} {b : β}, Paired F l m → m[i]? = some b → ∃ a, l[i]? = some a ∧ F a b
  | _, _, _, _, .nil, e => by simp at e
  | _, _, 0, _, .cons h _, e => by
    simp at e
    subst e
    exact ⟨_, rfl, h⟩
  | _, _, i + 1, _, .cons _ t, e => by
    obtain ⟨a, h1, h2⟩ := Paired_get (i := i) t (by simpa using e)
    exact ⟨a, by simpa using h1, h2⟩
end
/-- a sign, a word: what the program hands over, and the token -/
def WhatIs (K : PySem.W.Frag) (H : Hp) (kind : Int) (what : V) (tok : VakepBase.Tok) : Prop :=
  (∃ n : Nat, kind = 4 ∧ what = .int (n : Nat) ∧ tok = .sign n) ∨ ∃ (q : Addr) (b : Bytes), kind = 2 ∧ what = .ref q ∧ SqT K H q (nm b) ∧ tok = .name b ∧ RESERVED.contains b = true
theorem SqT.same {K : PySem.W.Frag} {H H' : Hp} {q : Addr} {xs : List V} (s : Same H H') (h : SqT K H q xs) : SqT K H' q xs := by
  rcases h with (h | ⟨o, h⟩) | h
  · exact .inl (.inl (s _ _ h))
  · exact .inl (.inr ⟨o, s _ _ h⟩)
  · exact .inr h
/-! ### promises -/
def spToken (K : PySem.W.Frag) : Sp := fun vs H Q _ => ∃ (c : Rc) (U : List Addr) (l : Toks) (ps : List PName), vs = [.ref c.R] ∧ At K c U H l ps ∧ ∀ a t r, l = t :: r → TokAt K (off U H) a t → Q (.ref a) H
def spIsNext (K : PySem.W.Frag) : Sp := fun vs H Q _ => ∃ (c : Rc) (U : List Addr) (l : Toks) (ps : List PName) (kind : Int) (what : V) (tok : VakepBase.Tok), vs = [.ref c.R, .int kind, what] ∧ At K c U H l ps ∧ WhatIs K H kind what tok ∧ Q (.bl (next tok l)) H
def spGoOn (K : PySem.W.Frag) : Sp := fun vs H Q _ => ∃ (c : Rc) (U : List Addr) (t : PTok) (r : Toks) (ps : List PName), vs = [.ref c.R] ∧ At K c U H (t :: r) ps ∧ t.tok ≠ .last ∧ ∀ H', At K c U H' r ps → Keep [c.R] H H' → Q .non H'
def spTake (K : PySem.W.Frag) : Sp := fun vs H Q E => ∃ (c : Rc) (U : List Addr) (l : Toks) (ps : List PName) (kind : Int) (what : V) (tok : VakepBase.Tok), vs = [.ref c.R, .int kind, what] ∧ At K c U H l ps ∧ WhatIs K H kind what tok ∧
  Res K [c.R] H E (taken tok l) fun r => ∀ H', At K c U H' r ps → Keep [c.R] H H' → Q .non H'
def spCheckName (K : PySem.W.Frag) : Sp := fun vs H Q E => ∃ (c : Rc) (U : List Addr) (l : Toks) (ps : List PName), vs = [.ref c.R] ∧ At K c U H l ps ∧ Res K [] H E (takeName l) fun _ => Q .non H
def spTakeNumber (K : PySem.W.Frag) : Sp := fun vs H Q E => ∃ (c : Rc) (U : List Addr) (l : Toks) (ps : List PName), vs = [.ref c.R] ∧ At K c U H l ps ∧
  Res K [c.R] H E (Vakepa.takeNat Vakepa.SIZE l) fun x => ∀ H', At K c U H' x.2 ps → Keep [c.R] H H' → Q (.int (x.1 : Nat)) H'
theorem at_head {K : PySem.W.Frag} {c : Rc} {U : List Addr} {H : Hp} {l : Toks} {ps : List PName} (h : At K c U H l ps) : ∃ t r, l = t :: r := by
  have e := h.el
  cases l with
  | nil => exact e.elim
  | cons t r => exact ⟨t, r, rfl⟩
theorem takeName_name {p : Nat} {b : Bytes} {r : Toks} (h : RESERVED.contains b = false) : takeName (⟨p, .name b⟩ :: r) = .ok (⟨p, b⟩, r) := by
  show (if RESERVED.contains b = true then _ else _) = _
  rw [if_neg (by rw [h]; exact Bool.false_ne_true)]
theorem takeName_no {t : PTok} {r : Toks} (h : kindOf t.tok ≠ 1) : takeName (t :: r) = .error ⟨3, t.place⟩ := by
  obtain ⟨p, tk⟩ := t
  cases tk with
  | name b =>
    show (if RESERVED.contains b = true then _ else _) = _
    by_cases e : RESERVED.contains b = true
    · rw [if_pos e]
      rfl
    · exact absurd (show kindOf (.name b) = 1 from if_neg e) h
  | num _ => rfl
  | sign _ => rfl
  | last => rfl
theorem kind1 {t : PTok} (h : kindOf t.tok = 1) : ∃ p b, t = ⟨p, .name b⟩ ∧ RESERVED.contains b = false := by
  obtain ⟨p, tk⟩ := t
  cases tk with
  | name b =>
    refine ⟨p, b, rfl, ?_⟩
    cases e : RESERVED.contains b with
    | false => rfl
    | true =>
      have h : (if RESERVED.contains b = true then (2 : Int) else 1) = 1 := h
      rw [if_pos e] at h
      cases h
  | num _ => cases h
  | sign _ => cases h
  | last => cases h
theorem kind3 {t : PTok} (h : kindOf t.tok = 3) : ∃ p n, t = ⟨p, .num n⟩ := by
  obtain ⟨p, tk⟩ := t
  cases tk with
  | name b =>
    have h : (if RESERVED.contains b = true then (2 : Int) else 1) = 3 := h
    split at h <;> cases h
  | num n => exact ⟨p, n, rfl⟩
  | sign _ => cases h
  | last => cases h
theorem kind5 {t : PTok} (h : kindOf t.tok = 5) : t.tok = .last := by
  obtain ⟨p, tk⟩ := t
  cases tk with
  | name b =>
    have h : (if RESERVED.contains b = true then (2 : Int) else 1) = 5 := h
    split at h <;> cases h
  | num n => cases h
  | sign _ => cases h
  | last => rfl
theorem next_cons (t : PTok) (r : Toks) (k : VakepBase.Tok) : next k (t :: r) = VakepBase.tokEq t.tok k := rfl
section
variable {P : Program} {w : World} {K : PySem.W.Frag} {mg : Str → Option Value} {base : Heap}
def N_token : List Str := ["reader"]
theorem sc_token : FnScope N_token ["reader"] (defScope s_token) := ⟨rfl, rfl, rfl, by decide +kernel, rfl, by decide +kernel, by decide +kernel⟩
theorem ok_token (T : Txt K mg) : Ok P w K mg base 1 "token" ["reader"] (spToken K) := by
  refine ok_mk T.d_token sc_token (fun vs H Q E h => ?_) (fun cdv A outer s H vs Q E hr h => ⟨_, (pss_one (ps_ret (pe_ix ix_list (pe_fld (pv 0) rfl) (pe_fld (pv 0) rfl) (fun _ _ => rfl)))), ?_⟩)
  · obtain ⟨c, U, l, ps, rfl, _⟩ := h
    rfl
  · obtain ⟨c, U, l, ps, rfl, h, q⟩ := h
    obtain ⟨dx, i, h1, h2⟩ := h.rd
    obtain ⟨t, r, rfl⟩ := at_head h
    obtain ⟨a, ha, hta⟩ := Paired_get h.tk (drop_get h2)
    refine ⟨_, rfl, _, _, dx, _, _, rfl, h1, T.cls "Reader", T.noat "Reader" "tokens", rdF_tokens, _, rfl, _, _, dx, _, _, rfl, h1, T.cls "Reader", T.noat "Reader" "at", rdF_at, _, _, _, _, rfl, rfl, SqL.of (off_some h.tl).2, atI_nat (by rw [List.getElem?_map, ha]; rfl), ?_⟩
    exact q a t r rfl hta
def N_is_next : List Str := ["reader", "kind", "what", "own"]
theorem sc_is_next : FnScope N_is_next ["reader", "kind", "what"] (defScope s_is_next) := ⟨rfl, rfl, rfl, by decide +kernel, rfl, by decide +kernel, by decide +kernel⟩
theorem ok_is_next (T : Txt K mg) : Ok P w K mg base 2 "is_next" ["reader", "kind", "what"] (spIsNext K) := by
  have G_token : Ok P w K mg base 1 "token" ["reader"] (spToken K) := ok_token T
  refine ok_mk T.d_is_next sc_is_next (fun vs H Q E h => ?_) (fun cdv A outer s H vs Q E hr h => ?_)
  · obtain ⟨c, U, l, ps, kind, what, tok, rfl, _⟩ := h
    rfl
  · have hr_token : Room 1 _ := hr
    refine ⟨_, (pss_cons (ps_set (i := 3) sc_is_next.nd rfl (Or.inl rfl) (pe_c G_token hr_token (pa_cons (pv 0) pa_nil))) (pss_one (ps_ret (pe_and (pe_cmpR op_eq (pe_fld (pv 3) rfl) (pv 1) (nomark _)) (pe_one (pe_cmpR (op_eqA hr.units) (pe_fld (pv 3) rfl) (pv 2) (nomark _))))))), ?_⟩
    obtain ⟨c, U, l, ps, kind, what, tok, rfl, h, hw, q⟩ := h
    refine ⟨_, rfl, c, U, l, ps, rfl, h, fun a t r el ⟨dx, v, h1, h2⟩ => ?_⟩
    subst el
    have h1 := (off_some h1).2
    refine ⟨_, rfl, a, _, dx, _, _, rfl, h1, T.cls "Token", T.noat "Token" "kind", tokF_kind, _, rfl, rfl, _, rfl, if_both (fun e => ?_) fun e => ?_⟩
    · have e : kindOf t.tok = kind := V.int.inj (of_decide_eq_true e)
      refine ⟨_, rfl, a, _, dx, _, _, rfl, h1, T.cls "Token", T.noat "Token" "what", tokF_what, _, rfl, ?_⟩
      rw [next_cons] at q
      obtain ⟨p, tk⟩ := t
      rcases hw with ⟨n, rfl, rfl, rfl⟩ | ⟨qq, b, rfl, rfl, hq, rfl, hb⟩
      · cases tk with
        | sign m =>
          obtain rfl : v = .int (m : Nat) := h2
          refine .inl ⟨rfl, ?_⟩
          have e3 : decide (V.int (m : Nat) = V.int (n : Nat)) = (m == n) := by
            rw [Bool.eq_iff_iff, decide_eq_true_eq, beq_iff_eq, V.int.injEq]
            omega
          rw [e3]
          exact q
        | name b =>
          have e : (if RESERVED.contains b = true then (2 : Int) else 1) = 4 := e
          split at e <;> cases e
        | num _ => cases e
        | last => cases e
      · cases tk with
        | sign m => cases e
        | num _ => cases e
        | last => cases e
        | name b2 =>
          obtain ⟨q2, rfl, h3⟩ := h2
          exact .inr ⟨q2, qq, b2, b, rfl, rfl, .inl (.inl (off_some h3).2), hq, q⟩
    · have e : ¬ V.int (kindOf t.tok) = V.int kind := of_decide_eq_false e
      have e2 : next tok (t :: r) = false := by
        rw [next_cons]
        obtain ⟨p, tk⟩ := t
        rcases hw with ⟨n, rfl, rfl, rfl⟩ | ⟨qq, b, rfl, rfl, hq, rfl, hb⟩
        · cases tk with
          | sign m => exact absurd rfl e
          | _ => rfl
        · cases tk with
          | name b2 =>
            show (b2 == b) = false
            cases z : b2 == b with
            | false => rfl
            | true =>
              rw [beq_iff_eq] at z
              subst z
              exact absurd (congrArg V.int (show kindOf (.name b2) = 2 from if_pos hb)) e
          | _ => rfl
      rw [e2] at q
      exact q
def N_go_on : List Str := ["reader"]
theorem sc_go_on : FnScope N_go_on ["reader"] (defScope s_go_on) := ⟨rfl, rfl, rfl, by decide +kernel, rfl, by decide +kernel, by decide +kernel⟩
theorem ok_go_on (T : Txt K mg) : Ok P w K mg base 1 "go_on" ["reader"] (spGoOn K) := by
  refine ok_mk T.d_go_on sc_go_on (fun vs H Q E h => ?_) (fun cdv A outer s H vs Q E hr h => ⟨_, (pss_one (ps_fld (pv 0) (pe_op op_add (pe_fld (pv 0) rfl) pe_int) rfl)), ?_⟩)
  · obtain ⟨c, U, t, r, ps, rfl, _⟩ := h
    rfl
  · obtain ⟨c, U, t, r, ps, rfl, h, ht, q⟩ := h
    obtain ⟨dx, i, h1, h2⟩ := h.rd
    refine ⟨_, rfl, _, _, dx, _, _, rfl, h1, T.cls "Reader", T.noat "Reader" "at", rdF_at, _, _, rfl, rfl, _, rfl, _, _, dx, _, rfl, h1, T.cls "Reader", T.noat "Reader" "at", (by show 3 < 1000; decide), ?_⟩
    rw [rdF_put]
    exact q _ (h.go ht h2) keep_upd
def N_take : List Str := ["reader", "kind", "what"]
theorem sc_take : FnScope N_take ["reader", "kind", "what"] (defScope s_take) := ⟨rfl, rfl, rfl, by decide +kernel, rfl, by decide +kernel, by decide +kernel⟩
theorem ok_take (T : Txt K mg) : Ok P w K mg base 4 "take" ["reader", "kind", "what"] (spTake K) := by
  have G_token : Ok P w K mg base 1 "token" ["reader"] (spToken K) := ok_token T
  have G_is_next : Ok P w K mg base 2 "is_next" ["reader", "kind", "what"] (spIsNext K) := ok_is_next T
  have G_go_on : Ok P w K mg base 1 "go_on" ["reader"] (spGoOn K) := ok_go_on T
  have G_refuse : Ok P w K mg base 3 "refuse" ["is_wrong", "code", "place"] (spRefuse K) := ok_refuse T
  refine ok_mk T.d_take sc_take (fun vs H Q E h => ?_) (fun cdv A outer s H vs Q E hr h => ?_)
  · obtain ⟨c, U, l, ps, kind, what, tok, rfl, _⟩ := h
    rfl
  · have hr_token : Room 1 _ := hr.mono (by decide)
    have hr_is_next : Room 2 _ := hr.mono (by decide)
    have hr_go_on : Room 1 _ := hr.mono (by decide)
    have hr_refuse : Room 3 _ := hr
    refine ⟨_, (pss_cons (ps_expr (pe_cX G_refuse hr_refuse outE (pa_cons (pe_not (pe_c G_is_next hr_is_next (pa_cons (pv 0) (pa_cons (pv 1) (pa_cons (pv 2) pa_nil))))) (pa_cons (pe_gl (T.int "NOT_ALLOWED" 3)) (pa_cons (pe_fld (pe_c G_token hr_token (pa_cons (pv 0) pa_nil)) rfl) pa_nil))))) (pss_one (ps_expr (pe_c G_go_on hr_go_on (pa_cons (pv 0) pa_nil))))), ?_⟩
    obtain ⟨c, U, l, ps, kind, what, tok, rfl, h, hw, hR⟩ := h
    obtain ⟨t, r, rfl⟩ := at_head h
    refine ⟨_, rfl, _, rfl, _, rfl, c, U, _, ps, kind, what, tok, rfl, h, hw, _, rfl, _, rfl, c, U, _, ps, rfl, h, fun a t' r' el ⟨dx, v, h1, h2⟩ => ?_⟩
    cases el
    have h1 := (off_some h1).2
    refine ⟨a, _, dx, _, _, rfl, h1, T.cls "Token", T.noat "Token" "place", tokF_place, _, ⟨3, t.place⟩, rfl, fun e => ?_, fun e => ?_⟩
    · have e : next tok (t :: r) = false := by simpa using e
      have e2 : taken tok (t :: r) = .error ⟨3, t.place⟩ := by
        unfold taken
        rw [if_neg (by rw [e]; exact Bool.false_ne_true)]
        rfl
      rw [e2] at hR
      exact FaultE.mono (M := []) hR (Keep.refl _ _) (fun b hb => by simp at hb)
    · have e : next tok (t :: r) = true := by simpa using e
      have e2 : taken tok (t :: r) = .ok r := by
        unfold taken
        rw [if_pos e]
        rfl
      rw [e2] at hR
      refine ⟨_, rfl, c, U, t, r, ps, rfl, h, fun z => ?_, hR⟩
      rw [next_cons, z] at e
      rcases hw with ⟨n, rfl, rfl, rfl⟩ | ⟨qq, b, rfl, rfl, hq, rfl, hb⟩ <;> cases e
def N_check_name : List Str := ["reader"]
theorem sc_check_name : FnScope N_check_name ["reader"] (defScope s_check_name) := ⟨rfl, rfl, rfl, by decide +kernel, rfl, by decide +kernel, by decide +kernel⟩
theorem ok_check_name (T : Txt K mg) : Ok P w K mg base 4 "check_name" ["reader"] (spCheckName K) := by
  have G_token : Ok P w K mg base 1 "token" ["reader"] (spToken K) := ok_token T
  have G_refuse : Ok P w K mg base 3 "refuse" ["is_wrong", "code", "place"] (spRefuse K) := ok_refuse T
  refine ok_mk T.d_check_name sc_check_name (fun vs H Q E h => ?_) (fun cdv A outer s H vs Q E hr h => ?_)
  · obtain ⟨c, U, l, ps, rfl, _⟩ := h
    rfl
  · have hr_token : Room 1 _ := hr.mono (by decide)
    have hr_refuse : Room 3 _ := hr
    refine ⟨_, (pss_one (ps_expr (pe_cX G_refuse hr_refuse outE (pa_cons (pe_cmpR op_ne (pe_fld (pe_c G_token hr_token (pa_cons (pv 0) pa_nil)) rfl) (pe_gl (T.int "NAME" 1)) (nomark _)) (pa_cons (pe_gl (T.int "NOT_ALLOWED" 3)) (pa_cons (pe_fld (pe_c G_token hr_token (pa_cons (pv 0) pa_nil)) rfl) pa_nil)))))), ?_⟩
    obtain ⟨c, U, l, ps, rfl, h, hR⟩ := h
    refine ⟨_, rfl, c, U, l, ps, rfl, h, fun a t r el ⟨dx, v, h1, h2⟩ => ?_⟩
    subst el
    have h1 := (off_some h1).2
    refine ⟨a, _, dx, _, _, rfl, h1, T.cls "Token", T.noat "Token" "kind", tokF_kind, rfl, _, rfl, c, U, _, ps, rfl, h, fun a t' r' el ⟨dx, v, h1, h2⟩ => ?_⟩
    cases el
    have h1 := (off_some h1).2
    refine ⟨a, _, dx, _, _, rfl, h1, T.cls "Token", T.noat "Token" "place", tokF_place, _, ⟨3, t.place⟩, rfl, fun e => ?_, fun e => ?_⟩
    · have e : kindOf t.tok ≠ 1 := by simpa using e
      rw [takeName_no e] at hR
      exact hR
    · have e : kindOf t.tok = 1 := by simpa using e
      obtain ⟨p, b, rfl, hb⟩ := kind1 e
      rw [takeName_name hb] at hR
      exact hR
def N_take_number : List Str := ["reader", "own"]
theorem sc_take_number : FnScope N_take_number ["reader"] (defScope s_take_number) := ⟨rfl, rfl, rfl, by decide +kernel, rfl, by decide +kernel, by decide +kernel⟩
theorem ok_take_number (T : Txt K mg) : Ok P w K mg base 4 "take_number" ["reader"] (spTakeNumber K) := by
  have G_token : Ok P w K mg base 1 "token" ["reader"] (spToken K) := ok_token T
  have G_go_on : Ok P w K mg base 1 "go_on" ["reader"] (spGoOn K) := ok_go_on T
  have G_refuse : Ok P w K mg base 3 "refuse" ["is_wrong", "code", "place"] (spRefuse K) := ok_refuse T
  refine ok_mk T.d_take_number sc_take_number (fun vs H Q E h => ?_) (fun cdv A outer s H vs Q E hr h => ?_)
  · obtain ⟨c, U, l, ps, rfl, _⟩ := h
    rfl
  · have hr_token : Room 1 _ := hr.mono (by decide)
    have hr_go_on : Room 1 _ := hr.mono (by decide)
    have hr_refuse : Room 3 _ := hr
    refine ⟨_, (pss_cons (ps_set (i := 1) sc_take_number.nd rfl (Or.inl rfl) (pe_c G_token hr_token (pa_cons (pv 0) pa_nil))) (pss_cons (ps_expr (pe_cX G_refuse hr_refuse outE (pa_cons (pe_cmpR op_ne (pe_fld (pv 1) rfl) (pe_gl (T.int "NUMBER" 3)) (nomark _)) (pa_cons (pe_gl (T.int "NOT_ALLOWED" 3)) (pa_cons (pe_fld (pv 1) rfl) pa_nil))))) (pss_cons (ps_expr (pe_cX G_refuse hr_refuse outE (pa_cons (pe_not (pe_chain op_le op_le pe_int (pe_fld (pv 1) rfl) (pe_gl (T.int "MOST_SIZE" 99)))) (pa_cons (pe_gl (T.int "NOT_WITHIN" 7)) (pa_cons (pe_fld (pv 1) rfl) pa_nil))))) (pss_cons (ps_expr (pe_c G_go_on hr_go_on (pa_cons (pv 0) pa_nil))) (pss_one (ps_ret (pe_fld (pv 1) rfl))))))), ?_⟩
    obtain ⟨c, U, l, ps, rfl, h, hR⟩ := h
    refine ⟨_, rfl, c, U, l, ps, rfl, h, fun a t r el ⟨dx, v, h1, h2⟩ => ?_⟩
    subst el
    have h1 := (off_some h1).2
    refine ⟨_, rfl, a, _, dx, _, _, rfl, h1, T.cls "Token", T.noat "Token" "kind", tokF_kind, rfl, _, rfl, a, _, dx, _, _, rfl, h1, T.cls "Token", T.noat "Token" "place", tokF_place, _, ⟨3, t.place⟩, rfl, fun e => ?_, fun e => ?_⟩
    · have e : kindOf t.tok ≠ 3 := by simpa using e
      have e2 : Vakepa.takeNat Vakepa.SIZE (t :: r) = .error ⟨3, t.place⟩ := by
        obtain ⟨p, tk⟩ := t
        cases tk with
        | num n => exact absurd rfl e
        | _ => rfl
      rw [e2] at hR
      exact FaultE.mono (M := []) hR (Keep.refl _ _) (fun b hb => by simp at hb)
    · have e : kindOf t.tok = 3 := by simpa using e
      obtain ⟨p, n, rfl⟩ := kind3 e
      obtain rfl : v = .int (n : Nat) := h2
      have e1 : ∀ (σ : L2.St) (Q : VK), σ[1]? = some (some (.ref a)) → Q (.bl (decide ((1 : Int) ≤ (n : Nat)) && decide (((n : Nat) : Int) ≤ 99))) H → tChain (rI0 fun i j => .bl (decide (i ≤ j))) (rI0 fun i j => .bl (decide (i ≤ j))) (tC (.int 1)) (tFld K (tVar 1) "what") (tC (.int 99)) σ H Q := fun σ Q h q => by
        refine ⟨_, h, a, _, dx, _, _, rfl, h1, T.cls "Token", T.noat "Token" "what", tokF_what, _, _, rfl, rfl, _, rfl, if_both (fun e => ⟨_, _, rfl, rfl, ?_⟩) fun e => ?_⟩
        · rw [e, Bool.true_and] at q
          exact q
        · rw [e, Bool.false_and] at q
          exact q
      refine e1 _ (fun v H1 => _) rfl ⟨_, rfl, _, rfl, a, _, dx, _, _, rfl, h1, T.cls "Token", T.noat "Token" "place", tokF_place, _, ⟨7, p⟩, rfl, fun e => ?_, fun e => ?_⟩
      · have e2 : Vakepa.takeNat Vakepa.SIZE (⟨p, .num n⟩ :: r) = .error ⟨7, p⟩ := by
          show (if n < 1 ∨ Vakepa.SIZE < n then _ else _) = _
          rw [if_pos]
          have e : ((n : Nat) : Int) < 1 ∨ 99 < ((n : Nat) : Int) := by simpa using e
          unfold Vakepa.SIZE
          omega
        rw [e2] at hR
        exact FaultE.mono (M := []) hR (Keep.refl _ _) (fun b hb => by simp at hb)
      · have e2 : Vakepa.takeNat Vakepa.SIZE (⟨p, .num n⟩ :: r) = .ok (n, r) := by
          show (if n < 1 ∨ Vakepa.SIZE < n then _ else _) = _
          rw [if_neg]
          have e : ((1 : Int) ≤ (n : Nat) ∧ ((n : Nat) : Int) ≤ 99) := by simpa using e
          unfold Vakepa.SIZE
          omega
        rw [e2] at hR
        refine ⟨_, rfl, c, U, ⟨p, .num n⟩, r, ps, rfl, h, (fun z => by cases z), fun H' h' k => ?_⟩
        refine ⟨_, rfl, a, _, dx, _, _, rfl, k _ _ ?_ h1, T.cls "Token", T.noat "Token" "what", tokF_what, hR H' h' k⟩
        obtain ⟨dx2, i, h3, _⟩ := h.rd
        simp only [List.mem_singleton]
        exact ne_of h1 h3 (fun z => by
          injection z with z1 z2 z3
          cases z3)
end
end PP

set_option Elab.async false
set_option linter.all false
set_option maxRecDepth 100000
set_option maxHeartbeats 4000000
namespace PP
open PySem PySem.Spec PyProof.Rows L2
open VakepBase (Bytes Fault PTok Toks PName RESERVED word next taken wrong here takeName)
/-! ### settings, parts, the program -/
def setF (n w : V) : List (Str × V) := [("name", n), ("words", w)]
def partF (n s r : V) : List (Str × V) := [("name", n), ("size", s), ("rows", r)]
def pgF (s p e : V) : List (Str × V) := [("settings", s), ("parts", p), ("entries", e)]
theorem setF_name {n w : V} : (setF n w).lookup ("name" : Str) = some n := lk_here
theorem setF_words {n w : V} : (setF n w).lookup ("words" : Str) = some w := (lk_past (by decide +kernel)).trans lk_here
theorem partF_name {n s r : V} : (partF n s r).lookup ("name" : Str) = some n := lk_here
theorem partF_size {n s r : V} : (partF n s r).lookup ("size" : Str) = some s := (lk_past (by decide +kernel)).trans lk_here
theorem partF_rows {n s r : V} : (partF n s r).lookup ("rows" : Str) = some r := (lk_past (by decide +kernel)).trans ((lk_past (by decide +kernel)).trans lk_here)
theorem partF_put {n s r y : V} : putF "rows" y (partF n s r) = partF n s y := (put_past (by decide +kernel)).trans (congrArg _ ((put_past (by decide +kernel)).trans (congrArg _ put_here)))
theorem pgF_settings {s p e : V} : (pgF s p e).lookup ("settings" : Str) = some s := lk_here
theorem pgF_parts {s p e : V} : (pgF s p e).lookup ("parts" : Str) = some p := (lk_past (by decide +kernel)).trans lk_here
theorem pgF_entries {s p e : V} : (pgF s p e).lookup ("entries" : Str) = some e := (lk_past (by decide +kernel)).trans ((lk_past (by decide +kernel)).trans lk_here)
def NamesAt (H : Hp) : List Addr → List Bytes → Prop := Paired fun q b => H q = some (.tup (nm b))
theorem NamesAt.mono {H H' : Hp} {qs : List Addr} {bs : List Bytes} (s : Same H H') (h : NamesAt H qs bs) : NamesAt H' qs bs := pimp h fun _ _ e => s _ _ e
theorem NamesAt.sq {K : PySem.W.Frag} {H : Hp} {qs : List Addr} {bs : List Bytes} (h : NamesAt H qs bs) : Paired (fun q b => SqT K H q (nm b)) qs bs := pimp h fun _ _ e => .inl (.inl e)
/-- instances of the class C whose first field is their name -/
def NamedAt (K : PySem.W.Frag) (C : Str) (H : Hp) : List Addr → List Bytes → Prop := Paired fun a b => ∃ dx q fs, H a = some (.ins (He.ga K C) dx (("name", .ref q) :: fs)) ∧ H q = some (.tup (nm b))
theorem named_split {K : PySem.W.Frag} {C : Str} {H : Hp} : ∀ {as : List Addr} {bs : List Bytes}, NamedAt K C H as bs → ∃ qs, Paired (fun a q => ∃ dx fs, H a = some (.ins (He.ga K C) dx (("name", .ref q) :: fs))) as qs ∧ NamesAt H qs bs
  | _, _, .nil => ⟨[], .nil, .nil⟩
  | _, _, .cons ⟨dx, q, fs, h1, h2⟩ r => by
    obtain ⟨qs, h3, h4⟩ := named_split r
    exact ⟨q :: qs, .cons ⟨dx, fs, h1⟩ h3, .cons h2 h4⟩
theorem plen {α β : Type} {F : α → β → Prop} : ∀ {l : List α} {m : List β}, Paired F l m → l.length = m.length
  | _, _, .nil => rfl
  | _, _, .cons _ t => by rw [List.length_cons, List.length_cons, plen t]
theorem pget {α β : Type} {F : α → β → Prop} : ∀ {l : List α} {m : List β} {i : Nat} {a : α}, Paired F l m → l[i]? = some a → ∃ b, m[i]? = some b ∧ F a b
  | _, _, _, _, .nil, e => by simp at e
  | _, _, 0, _, .cons h _, e => by
    simp at e
    subst e
    exact ⟨_, rfl, h⟩
  | _, _, i + 1, _, .cons _ t, e => by
    obtain ⟨a, h1, h2⟩ := pget (i := i) t (by simpa using e)
    exact ⟨a, by simpa using h1, h2⟩
theorem take_more {α : Type} {l : List α} {i : Nat} {x : α} (h : l[i]? = some x) : l.take (i + 1) = l.take i ++ [x] := by
  rw [List.take_add_one, h, Option.toList_some]
theorem map_get {α : Type} {f : α → V} {l : List α} {i : Nat} {x : V} (h : (l.map f)[i]? = some x) : ∃ a, l[i]? = some a ∧ x = f a := by
  rw [List.getElem?_map, Option.map_eq_some_iff] at h
  obtain ⟨a, h1, h2⟩ := h
  exact ⟨a, h1, h2.symm⟩
/-- the names of a program's settings (parts): a new list -/
def spNames (K : PySem.W.Frag) (C : Str) (pick : V → V → V → List (Str × V)) : Sp := fun vs H Q _ => ∃ (g dx l : Addr) (x y : V) (as : List Addr) (bs : List Bytes), vs = [.ref g] ∧ H g = some (.ins (He.ga K "Program") dx (pick (.ref l) x y)) ∧ H l = some (.lst (as.map V.ref)) ∧
  NamedAt K C H as bs ∧ as.length ≤ 1000 ∧ ∀ (H' : Hp) (p : Addr) (qs : List Addr), Same H H' → H p = none → H' p = some (.lst (qs.map V.ref)) → NamesAt H' qs bs → Q (.ref p) H'
def spSetNames (K : PySem.W.Frag) : Sp := spNames K "Setting" fun l x y => pgF l x y
def spPartNames (K : PySem.W.Frag) : Sp := spNames K "Part" fun l x y => pgF x l y
def newName (most : Option Nat) (code : Nat) (bs : List Bytes) (l : Toks) : Except Fault (PName × Toks) := (takeName l).bind fun x => if (most.any fun m => decide (m ≤ bs.length)) = true then .error ⟨4, x.1.place⟩ else if bs.contains x.1.name = true then .error ⟨code, x.1.place⟩ else .ok x
def mostV : Option Nat → V
  | none => .non
  | some m => .int (m : Nat)
def spTakeNew (K : PySem.W.Frag) : Sp := fun vs H Q E => ∃ (c : Rc) (U : List Addr) (l : Toks) (ps : List PName) (kl : Addr) (qs : List Addr) (bs : List Bytes) (most : Option Nat) (code : Nat), vs = [.ref c.R, .ref kl, mostV most, .int (code : Nat)] ∧ At K c U H l ps ∧
  kl ≠ c.R ∧ H kl = some (.lst (qs.map V.ref)) ∧ NamesAt H qs bs ∧ Res K [c.R] H E (newName most code bs l) fun x => ∀ (H' : Hp) (q : Addr), At K c U H' x.2 ps → Keep [c.R] H H' → off U H' q = some (.tup (nm x.1.name)) → Q (.ref q) H'
def knownName (bs : List Bytes) (l : Toks) : Except Fault (Nat × Toks) := (takeName l).bind fun x => match bs.findIdx? fun y => y == x.1.name with
  | none => .error ⟨8, x.1.place⟩
  | some k => .ok (k, x.2)
def spTakeKnown (K : PySem.W.Frag) : Sp := fun vs H Q E => ∃ (c : Rc) (U : List Addr) (l : Toks) (ps : List PName) (kl : Addr) (qs : List Addr) (bs : List Bytes), vs = [.ref c.R, .ref kl] ∧ At K c U H l ps ∧
  kl ≠ c.R ∧ H kl = some (.lst (qs.map V.ref)) ∧ NamesAt H qs bs ∧ Res K [c.R] H E (knownName bs l) fun x => ∀ (H' : Hp), At K c U H' x.2 ps → Keep [c.R] H H' → Q (.int (x.1 : Nat)) H'
def takeWordN (n most : Nat) (b : Bytes) (l : Toks) : Except Fault Toks := if most ≤ n then .error ⟨4, here l⟩ else taken (.name b) l
def spTakeWord (K : PySem.W.Frag) : Sp := fun vs H Q E => ∃ (c : Rc) (U : List Addr) (l : Toks) (ps : List PName) (kl : Addr) (xs : List V) (most : Nat) (q : Addr) (b : Bytes), vs = [.ref c.R, .ref kl, .int (most : Nat), .ref q] ∧ At K c U H l ps ∧
  H kl = some (.lst xs) ∧ SqT K H q (nm b) ∧ RESERVED.contains b = true ∧ Res K [c.R] H E (takeWordN xs.length most b l) fun r => ∀ H', At K c U H' r ps → Keep [c.R] H H' → Q .non H'
theorem tup_keepR {K : PySem.W.Frag} {c : Rc} {U : List Addr} {H H' : Hp} {l : Toks} {ps : List PName} {q : Addr} {xs : List V} (h : At K c U H l ps) (k : Keep [c.R] H H') (e : H q = some (.tup xs)) : H' q = some (.tup xs) := by
  obtain ⟨dx2, i, h3, _⟩ := h.rd
  refine k _ _ ?_ e
  simp only [List.mem_singleton]
  exact ne_of e h3 (fun z => by cases z)
section
variable {P : Program} {w : World} {K : PySem.W.Frag} {mg : Str → Option Value} {base : Heap}
def N_setting_names : List Str := ["program", "setting"]
theorem sc_setting_names : FnScope N_setting_names ["program"] (defScope s_setting_names) := ⟨rfl, rfl, rfl, by decide +kernel, rfl, by decide +kernel, by decide +kernel⟩
theorem ok_setting_names (T : Txt K mg) : Ok P w K mg base 1 "setting_names" ["program"] (spSetNames K) := by
  refine ok_mk T.d_setting_names sc_setting_names (fun vs H Q E h => ?_) (fun cdv A outer s H vs Q E hr h => ⟨_, (pss_one (ps_ret (pe_lc (own := [("setting", 1)]) (g := gName 1) (te := tFld K (tVar 1) "name") (by rfl) sc_setting_names.nd (pi_list (pe_fld (pv 0) rfl)) (blkOk_by (own := [("setting", 1)]) (N := N_setting_names) (sc := defScope s_setting_names) (by decide +kernel)) (by exact fun _ _ _ _ _ => (pg_name (i := 1) sc_setting_names.nd rfl (Or.inl rfl))) (fun _ _ _ _ _ => pts_nil) (by exact fun _ _ _ _ _ => (pe_fld (pv 1) rfl))))), ?_⟩)
  · obtain ⟨g, dx, l, x, y, as, bs, rfl, _⟩ := h
    rfl
  · obtain ⟨g, dx, l, x, y, as, bs, rfl, hg, hl, hn, hz, q⟩ := h
    obtain ⟨qs, n1, n2⟩ := named_split hn
    refine ⟨_, rfl, g, _, dx, _, _, rfl, hg, T.cls "Program", T.noat "Program" "settings", pgF_settings, l, rfl, ⟨_, SqL.of hl⟩, fun D hD => ?_⟩
    refine lc_list (K := K) (a := l) (xs := as.map V.ref) (fun i H' => Same H H' ∧ H' D = some (.lst ((qs.take i).map V.ref))) ⟨same_upd hD, upd_same⟩ (fun i H' _ ⟨s, _⟩ => s.seq (SqL.of hl)) (fun i x H' hx ⟨s, e⟩ => ?_) fun H' ⟨s, e⟩ => ?_
    · obtain ⟨a, ha, rfl⟩ := map_get hx
      obtain ⟨qn, hq, dx2, fs, h3⟩ := pget n1 ha
      refine ⟨rfl, _, rfl, a, _, dx2, _, _, rfl, s _ _ h3, T.cls "Setting", T.noat "Setting" "name", lk_here, _, e, ?_, ?_, ?_⟩
      · have := (List.getElem?_eq_some_iff.mp ha).1
        rw [List.length_map, List.length_take]
        exact Nat.lt_of_le_of_lt (Nat.min_le_left _ _) (Nat.lt_of_lt_of_le (Nat.lt_of_lt_of_le this hz) (by decide))
      · exact fun c o e => by
          rw [upd_ne (ne_of_none e hD)]
          exact s _ _ e
      · rw [upd_same, take_more hq, List.map_append]
        rfl
    · rw [List.length_map, plen n1, List.take_length] at e
      exact q H' D qs s hD e (n2.mono s)
def N_part_names : List Str := ["program", "part"]
theorem sc_part_names : FnScope N_part_names ["program"] (defScope s_part_names) := ⟨rfl, rfl, rfl, by decide +kernel, rfl, by decide +kernel, by decide +kernel⟩
theorem ok_part_names (T : Txt K mg) : Ok P w K mg base 1 "part_names" ["program"] (spPartNames K) := by
  refine ok_mk T.d_part_names sc_part_names (fun vs H Q E h => ?_) (fun cdv A outer s H vs Q E hr h => ⟨_, (pss_one (ps_ret (pe_lc (own := [("part", 1)]) (g := gName 1) (te := tFld K (tVar 1) "name") (by rfl) sc_part_names.nd (pi_list (pe_fld (pv 0) rfl)) (blkOk_by (own := [("part", 1)]) (N := N_part_names) (sc := defScope s_part_names) (by decide +kernel)) (by exact fun _ _ _ _ _ => (pg_name (i := 1) sc_part_names.nd rfl (Or.inl rfl))) (fun _ _ _ _ _ => pts_nil) (by exact fun _ _ _ _ _ => (pe_fld (pv 1) rfl))))), ?_⟩)
  · obtain ⟨g, dx, l, x, y, as, bs, rfl, _⟩ := h
    rfl
  · obtain ⟨g, dx, l, x, y, as, bs, rfl, hg, hl, hn, hz, q⟩ := h
    obtain ⟨qs, n1, n2⟩ := named_split hn
    refine ⟨_, rfl, g, _, dx, _, _, rfl, hg, T.cls "Program", T.noat "Program" "parts", pgF_parts, l, rfl, ⟨_, SqL.of hl⟩, fun D hD => ?_⟩
    refine lc_list (K := K) (a := l) (xs := as.map V.ref) (fun i H' => Same H H' ∧ H' D = some (.lst ((qs.take i).map V.ref))) ⟨same_upd hD, upd_same⟩ (fun i H' _ ⟨s, _⟩ => s.seq (SqL.of hl)) (fun i x H' hx ⟨s, e⟩ => ?_) fun H' ⟨s, e⟩ => ?_
    · obtain ⟨a, ha, rfl⟩ := map_get hx
      obtain ⟨qn, hq, dx2, fs, h3⟩ := pget n1 ha
      refine ⟨rfl, _, rfl, a, _, dx2, _, _, rfl, s _ _ h3, T.cls "Part", T.noat "Part" "name", lk_here, _, e, ?_, ?_, ?_⟩
      · have := (List.getElem?_eq_some_iff.mp ha).1
        rw [List.length_map, List.length_take]
        exact Nat.lt_of_le_of_lt (Nat.min_le_left _ _) (Nat.lt_of_lt_of_le (Nat.lt_of_lt_of_le this hz) (by decide))
      · exact fun c o e => by
          rw [upd_ne (ne_of_none e hD)]
          exact s _ _ e
      · rw [upd_same, take_more hq, List.map_append]
        rfl
    · rw [List.length_map, plen n1, List.take_length] at e
      exact q H' D qs s hD e (n2.mono s)
end
end PP

set_option Elab.async false
set_option linter.all false
set_option maxRecDepth 100000
set_option maxHeartbeats 4000000
namespace PP
open PySem PySem.Spec PyProof.Rows L2
open VakepBase (Bytes Fault PTok Toks PName RESERVED word next taken wrong here takeName)
theorem res_ok {α : Type} {K : PySem.W.Frag} {M : List Addr} {H : Hp} {E : XK} {x : α} {ok : α → Prop} (h : ok x) : Res K M H E (.ok x) ok := h
theorem res_err {α : Type} {K : PySem.W.Frag} {M : List Addr} {H : Hp} {E : XK} {f : Fault} {ok : α → Prop} (h : FaultE K M H E f) : Res K M H E (.error f) ok := h
theorem names_keepR {K : PySem.W.Frag} {c : Rc} {U : List Addr} {H H' : Hp} {l : Toks} {ps : List PName} {qs : List Addr} {bs : List Bytes} (h : At K c U H l ps) (k : Keep [c.R] H H') (e : NamesAt H qs bs) : NamesAt H' qs bs := pimp e fun _ _ e => tup_keepR h k e
section
variable {P : Program} {w : World} {K : PySem.W.Frag} {mg : Str → Option Value} {base : Heap}
def N_take_new : List Str := ["reader", "known", "most", "code", "own"]
theorem sc_take_new : FnScope N_take_new ["reader", "known", "most", "code"] (defScope s_take_new) := ⟨rfl, rfl, rfl, by decide +kernel, rfl, by decide +kernel, by decide +kernel⟩
theorem ok_take_new (T : Txt K mg) : Ok P w K mg base 5 "take_new" ["reader", "known", "most", "code"] (spTakeNew K) := by
  have G_token : Ok P w K mg base 1 "token" ["reader"] (spToken K) := ok_token T
  have G_go_on : Ok P w K mg base 1 "go_on" ["reader"] (spGoOn K) := ok_go_on T
  have G_refuse : Ok P w K mg base 3 "refuse" ["is_wrong", "code", "place"] (spRefuse K) := ok_refuse T
  have G_check_name : Ok P w K mg base 4 "check_name" ["reader"] (spCheckName K) := ok_check_name T
  refine ok_mk T.d_take_new sc_take_new (fun vs H Q E h => ?_) (fun cdv A outer s H vs Q E hr h => ?_)
  · obtain ⟨c, U, l, ps, kl, qs, bs, most, code, rfl, _⟩ := h
    rfl
  · have hr_token : Room 1 _ := hr.mono (by decide)
    have hr_go_on : Room 1 _ := hr.mono (by decide)
    have hr_refuse : Room 3 _ := hr.mono (by decide)
    have hr_check_name : Room 4 _ := hr
    refine ⟨_, (pss_cons (ps_set (i := 4) sc_take_new.nd rfl (Or.inl rfl) (pe_c G_token hr_token (pa_cons (pv 0) pa_nil))) (pss_cons (ps_expr (pe_cX G_check_name hr_check_name outE (pa_cons (pv 0) pa_nil))) (pss_cons (ps_expr (pe_cX G_refuse hr_refuse outE (pa_cons (pe_and (pe_cmpR op_notN (pv 2) pe_non (nomark _)) (pe_one (pe_cmpR op_ge (pe_callB call_len (by rfl) (T.free "len") PySem.boot_len (pa_cons (pv 1) pa_nil)) (pv 2) (nomark _)))) (pa_cons (pe_gl (T.int "TOO_MANY_reading" 4)) (pa_cons (pe_fld (pv 4) rfl) pa_nil))))) (pss_cons (ps_expr (pe_cX G_refuse hr_refuse outE (pa_cons (pe_cmpR (op_inNL hr.u65) (pe_fld (pv 4) rfl) (pv 1) (by rfl)) (pa_cons (pv 3) (pa_cons (pe_fld (pv 4) rfl) pa_nil))))) (pss_cons (ps_expr (pe_c G_go_on hr_go_on (pa_cons (pv 0) pa_nil))) (pss_one (ps_ret (pe_fld (pv 4) rfl)))))))), ?_⟩
    obtain ⟨c, U, l, ps, kl, qs, bs, most, code, rfl, h, hkR, hk, hn, hR⟩ := h
    refine ⟨_, rfl, c, U, l, ps, rfl, h, fun a t r el ⟨dx, v, h1, h2⟩ => ?_⟩
    subst el
    have h1 := (off_some h1).2
    have k0 : ∀ b ∈ ([] : List Addr), b ∈ [c.R] := fun b hb => by simp at hb
    refine ⟨_, rfl, c, U, _, ps, rfl, h, ?_⟩
    by_cases e1 : kindOf t.tok = 1
    · obtain ⟨p, b, rfl, hb⟩ := kind1 e1
      rw [takeName_name hb]
      obtain ⟨q, rfl, hq⟩ := h2
      unfold newName at hR
      rw [takeName_name hb] at hR
      have hR : Res K [c.R] H E (if (most.any fun m => decide (m ≤ bs.length)) = true then .error ⟨4, p⟩ else if bs.contains b = true then .error ⟨code, p⟩ else .ok ((⟨p, b⟩ : PName), r)) _ := hR
      have hlen : qs.length = bs.length := plen hn
      refine res_ok ?_
      dsimp only
      refine andV_val (c1 := most.isSome) (c2 := most.any fun m => decide (m ≤ bs.length)) (fun Q q => ?_) (fun z Q q => ?_) ?_
      rotate_right
      refine ⟨_, rfl, a, _, dx, _, _, rfl, h1, T.cls "Token", T.noat "Token" "place", tokF_place, _, ⟨4, p⟩, rfl, fun e => ?_, fun e => ?_⟩
      rotate_left 2
      · refine ⟨_, rfl, rfl, ?_⟩
        cases most with
        | none => exact q
        | some m => exact q
      · cases most with
        | none => cases z
        | some m =>
          refine ⟨_, rfl, _, _, rfl, .inl ⟨_, SqL.of hk, rfl⟩, _, rfl, _, _, rfl, rfl, ?_⟩
          rw [List.length_map, hlen]
          have e3 : decide (((m : Nat) : Int) ≤ (bs.length : Nat)) = decide (m ≤ bs.length) := by
            rw [Bool.eq_iff_iff, decide_eq_true_eq, decide_eq_true_eq]
            omega
          show Q (.bl (decide (((m : Nat) : Int) ≤ (bs.length : Nat)))) H
          rw [e3]
          exact q
      · have e2 : (most.any fun m => decide (m ≤ bs.length)) = true := (Bool.and_eq_true_iff.mp e).2
        rw [if_pos e2] at hR
        exact FaultE.mono (M := []) hR (Keep.refl _ _) k0
      · have e2 : ¬ (most.any fun m => decide (m ≤ bs.length)) = true := by
          intro z
          cases most with
          | none => cases z
          | some m => rw [z] at e; cases e
        rw [if_neg e2] at hR
        refine ⟨_, rfl, a, _, dx, _, _, rfl, h1, T.cls "Token", T.noat "Token" "what", tokF_what, _, rfl, q, kl, b, qs, bs, rfl, rfl, .inl (.inl (off_some hq).2), SqL.of hk, hn.sq, _, rfl, _, rfl, a, _, dx, _, _, rfl, h1, T.cls "Token", T.noat "Token" "place", tokF_place, _, ⟨code, p⟩, rfl, fun e => ?_, fun e => ?_⟩
        · have e : bs.contains b = true := e
          rw [if_pos e] at hR
          exact FaultE.mono (M := []) hR (Keep.refl _ _) k0
        · have e : bs.contains b = false := e
          rw [if_neg (by rw [e]; exact Bool.false_ne_true)] at hR
          refine ⟨_, rfl, c, U, ⟨p, .name b⟩, r, ps, rfl, h, (fun z => by cases z), fun H' h' k => ?_⟩
          refine ⟨_, rfl, a, _, dx, _, _, rfl, k _ _ ?_ h1, T.cls "Token", T.noat "Token" "what", tokF_what, hR H' q h' k ?_⟩
          · obtain ⟨dx2, i, h3, _⟩ := h.rd
            simp only [List.mem_singleton]
            exact ne_of h1 h3 (fun z => by
              injection z with z1 z2 z3
              cases z3)
          · exact k.off (M' := U) (fun b hb => by rw [List.mem_singleton.mp hb]; exact h.uR) _ _ hq
    · rw [takeName_no e1]
      unfold newName at hR
      rw [takeName_no e1] at hR
      exact FaultE.mono (M := []) hR (Keep.refl _ _) k0
def N_take_known : List Str := ["reader", "known", "own"]
theorem sc_take_known : FnScope N_take_known ["reader", "known"] (defScope s_take_known) := ⟨rfl, rfl, rfl, by decide +kernel, rfl, by decide +kernel, by decide +kernel⟩
theorem ok_take_known (T : Txt K mg) : Ok P w K mg base 5 "take_known" ["reader", "known"] (spTakeKnown K) := by
  have G_token : Ok P w K mg base 1 "token" ["reader"] (spToken K) := ok_token T
  have G_go_on : Ok P w K mg base 1 "go_on" ["reader"] (spGoOn K) := ok_go_on T
  have G_refuse : Ok P w K mg base 3 "refuse" ["is_wrong", "code", "place"] (spRefuse K) := ok_refuse T
  have G_check_name : Ok P w K mg base 4 "check_name" ["reader"] (spCheckName K) := ok_check_name T
  refine ok_mk T.d_take_known sc_take_known (fun vs H Q E h => ?_) (fun cdv A outer s H vs Q E hr h => ?_)
  · obtain ⟨c, U, l, ps, kl, qs, bs, rfl, _⟩ := h
    rfl
  · have hr_token : Room 1 _ := hr.mono (by decide)
    have hr_go_on : Room 1 _ := hr.mono (by decide)
    have hr_refuse : Room 3 _ := hr.mono (by decide)
    have hr_check_name : Room 4 _ := hr
    refine ⟨_, (pss_cons (ps_set (i := 2) sc_take_known.nd rfl (Or.inl rfl) (pe_c G_token hr_token (pa_cons (pv 0) pa_nil))) (pss_cons (ps_expr (pe_cX G_check_name hr_check_name outE (pa_cons (pv 0) pa_nil))) (pss_cons (ps_expr (pe_cX G_refuse hr_refuse outE (pa_cons (pe_cmpR (op_notInNL hr.u65) (pe_fld (pv 2) rfl) (pv 1) (by rfl)) (pa_cons (pe_gl (T.int "UNKNOWN" 8)) (pa_cons (pe_fld (pv 2) rfl) pa_nil))))) (pss_cons (ps_expr (pe_c G_go_on hr_go_on (pa_cons (pv 0) pa_nil))) (pss_one (ps_ret (pe_bm PySem.F.plainAttrs_list PySem.F.slot_list_index PySem.F.type_list_index (mt_indexN hr.u65) (pv 1) (pa_cons (pe_fld (pv 2) rfl) pa_nil)))))))), ?_⟩
    obtain ⟨c, U, l, ps, kl, qs, bs, rfl, h, hkR, hk, hn, hR⟩ := h
    refine ⟨_, rfl, c, U, l, ps, rfl, h, fun a t r el ⟨dx, v, h1, h2⟩ => ?_⟩
    subst el
    have h1 := (off_some h1).2
    have k0 : ∀ b ∈ ([] : List Addr), b ∈ [c.R] := fun b hb => by simp at hb
    refine ⟨_, rfl, c, U, _, ps, rfl, h, ?_⟩
    unfold knownName at hR
    by_cases e1 : kindOf t.tok = 1
    · obtain ⟨p, b, rfl, hb⟩ := kind1 e1
      rw [takeName_name hb]
      obtain ⟨q, rfl, hq⟩ := h2
      rw [takeName_name hb] at hR
      have hq := (off_some hq).2
      refine ⟨_, rfl, a, _, dx, _, _, rfl, h1, T.cls "Token", T.noat "Token" "what", tokF_what, _, rfl, q, kl, b, qs, bs, rfl, rfl, .inl (.inl hq), SqL.of hk, hn.sq, _, rfl, a, _, dx, _, _, rfl, h1, T.cls "Token", T.noat "Token" "place", tokF_place, _, ⟨8, p⟩, rfl, fun e => ?_, fun e => ?_⟩
      · have e : bs.contains b = false := by simpa using e
        have e2 : bs.findIdx? (fun y => y == b) = none := by
          rw [List.findIdx?_eq_none_iff]
          intro x hx
          cases z : x == b with
          | false => rfl
          | true =>
            rw [beq_iff_eq] at z
            subst z
            have := List.contains_iff_mem.mpr hx
            rw [e] at this
            cases this
        have hR : Res K [c.R] H E (match bs.findIdx? fun y => y == b with | none => .error ⟨8, p⟩ | some k => .ok (k, r)) _ := hR
        rw [e2] at hR
        exact FaultE.mono (M := []) hR (Keep.refl _ _) k0
      · have e : bs.contains b = true := by simpa using e
        have hR : Res K [c.R] H E (match bs.findIdx? fun y => y == b with | none => .error ⟨8, p⟩ | some k => .ok (k, r)) _ := hR
        cases e2 : bs.findIdx? (fun y => y == b) with
        | none =>
          rw [List.findIdx?_eq_none_iff] at e2
          have := e2 b (List.contains_iff_mem.mp e)
          simp at this
        | some j =>
          rw [e2] at hR
          refine ⟨_, rfl, c, U, ⟨p, .name b⟩, r, ps, rfl, h, (fun z => by cases z), fun H' h' k => ?_⟩
          have hk' := k _ _ (by simpa using hkR) hk
          refine ⟨_, rfl, .inl ⟨rfl, _, SqL.of hk'⟩, _, rfl, a, _, dx, _, _, rfl, k _ _ ?_ h1, T.cls "Token", T.noat "Token" "what", tokF_what, q, kl, b, qs, bs, j, rfl, rfl, .inl (.inl (tup_keepR h k hq)), SqL.of hk', (names_keepR h k hn).sq, e2, hR H' h' k⟩
          obtain ⟨dx2, i, h3, _⟩ := h.rd
          simp only [List.mem_singleton]
          exact ne_of h1 h3 (fun z => by
            injection z with z1 z2 z3
            cases z3)
    · rw [takeName_no e1]
      rw [takeName_no e1] at hR
      exact FaultE.mono (M := []) hR (Keep.refl _ _) k0
def N_take_word : List Str := ["reader", "rows", "most", "word"]
theorem sc_take_word : FnScope N_take_word ["reader", "rows", "most", "word"] (defScope s_take_word) := ⟨rfl, rfl, rfl, by decide +kernel, rfl, by decide +kernel, by decide +kernel⟩
theorem ok_take_word (T : Txt K mg) : Ok P w K mg base 5 "take_word" ["reader", "rows", "most", "word"] (spTakeWord K) := by
  have G_token : Ok P w K mg base 1 "token" ["reader"] (spToken K) := ok_token T
  have G_refuse : Ok P w K mg base 3 "refuse" ["is_wrong", "code", "place"] (spRefuse K) := ok_refuse T
  have G_take : Ok P w K mg base 4 "take" ["reader", "kind", "what"] (spTake K) := ok_take T
  refine ok_mk T.d_take_word sc_take_word (fun vs H Q E h => ?_) (fun cdv A outer s H vs Q E hr h => ?_)
  · obtain ⟨c, U, l, ps, kl, xs, most, q, b, rfl, _⟩ := h
    rfl
  · have hr_token : Room 1 _ := hr.mono (by decide)
    have hr_refuse : Room 3 _ := hr.mono (by decide)
    have hr_take : Room 4 _ := hr
    refine ⟨_, (pss_cons (ps_expr (pe_cX G_refuse hr_refuse outE (pa_cons (pe_cmpR op_ge (pe_callB call_len (by rfl) (T.free "len") PySem.boot_len (pa_cons (pv 1) pa_nil)) (pv 2) (nomark _)) (pa_cons (pe_gl (T.int "TOO_MANY_reading" 4)) (pa_cons (pe_fld (pe_c G_token hr_token (pa_cons (pv 0) pa_nil)) rfl) pa_nil))))) (pss_one (ps_expr (pe_cX G_take hr_take outE (pa_cons (pv 0) (pa_cons (pe_gl (T.int "WORD" 2)) (pa_cons (pv 3) pa_nil))))))), ?_⟩
    obtain ⟨c, U, l, ps, kl, xs, most, q, b, rfl, h, hk, hq, hb, hR⟩ := h
    refine ⟨_, rfl, _, _, rfl, .inl ⟨_, SqL.of hk, rfl⟩, _, rfl, _, _, rfl, rfl, _, rfl, c, U, l, ps, rfl, h, fun a t r el ⟨dx, v, h1, h2⟩ => ?_⟩
    subst el
    have h1 := (off_some h1).2
    unfold takeWordN at hR
    refine ⟨a, _, dx, _, _, rfl, h1, T.cls "Token", T.noat "Token" "place", tokF_place, _, ⟨4, t.place⟩, rfl, fun e => ?_, fun e => ?_⟩
    · have e2 : most ≤ xs.length := by
        have := of_decide_eq_true e
        omega
      rw [if_pos e2] at hR
      exact FaultE.mono (M := []) hR (Keep.refl _ _) (fun b hb => by simp at hb)
    · have e2 : ¬ most ≤ xs.length := by
        have := of_decide_eq_false e
        omega
      rw [if_neg e2] at hR
      exact ⟨_, rfl, _, rfl, c, U, _, ps, 2, _, .name b, rfl, h, .inr ⟨q, b, rfl, rfl, hq, rfl, hb⟩, hR⟩
end
end PP

set_option Elab.async false
set_option linter.all false
set_option maxRecDepth 100000
set_option maxHeartbeats 4000000
namespace PP
open PySem PySem.Spec PyProof.Rows L2
open VakepBase (Bytes Fault PTok Toks PName RESERVED word next taken wrong here takeName takeSign)
/-! ### plain: pieces -/
def onePiece (m : Nat) (l : Toks) : Except Fault (PName × Toks) := (takeName l).bind fun x => if Vakepa.PIECES ≤ m then .error ⟨4, x.1.place⟩ else .ok x
def takeNamesP : Nat → List Bytes → Toks → Except Fault (List Bytes × Toks)
  | 0, _, l => wrong l
  | n + 1, bs, l => (onePiece bs.length l).bind fun x => if next (.sign 43) x.2 = true then takeNamesP n (bs ++ [x.1.name]) (x.2.drop 1) else (takeSign 59 x.2).map fun m => (bs ++ [x.1.name], m)
theorem takePieces_eq (ss : List Vakepa.Setting) : ∀ (n : Nat) (bs : List Bytes) (l : Toks), Vakepa.takePieces ss n (bs.map (Vakepa.pieceOf ss)) l = (takeNamesP n bs l).map fun x => (x.1.map (Vakepa.pieceOf ss), x.2)
  | 0, _, _ => rfl
  | n + 1, bs, l => by
    unfold Vakepa.takePieces takeNamesP onePiece
    cases takeName l with
    | error f => rfl
    | ok x =>
      show (if Vakepa.PIECES ≤ (bs.map (Vakepa.pieceOf ss)).length then _ else _) = ((if Vakepa.PIECES ≤ bs.length then .error ⟨4, x.1.place⟩ else .ok x : Except Fault (PName × Toks)).bind _).map _
      rw [List.length_map]
      by_cases h : Vakepa.PIECES ≤ bs.length
      · rw [if_pos h, if_pos h]
        rfl
      · rw [if_neg h, if_neg h]
        show (if next (.sign 43) x.2 = true then _ else _) = (if next (.sign 43) x.2 = true then _ else _ : Except Fault _).map _
        by_cases h2 : next (.sign 43) x.2 = true
        · rw [if_pos h2, if_pos h2, ← takePieces_eq ss n, List.map_append]
          rfl
        · rw [if_neg h2, if_neg h2, map_map]
          simp only [List.map_append, List.map_cons, List.map_nil]
/-- what hangs on tuples alone -/
def TupKeep (H H' : Hp) : Prop := ∀ b xs, H b = some (.tup xs) → H' b = some (.tup xs)
theorem TupKeep.trans {H H1 H2 : Hp} (a : TupKeep H H1) (b : TupKeep H1 H2) : TupKeep H H2 := fun c xs e => b c xs (a c xs e)
theorem TupKeep.of_same {H H' : Hp} (s : Same H H') : TupKeep H H' := fun c xs e => s _ _ e
theorem TupKeep.upd {H : Hp} {p : Addr} {o u : HO} (h : H p = some o) (n : ∀ xs, o ≠ .tup xs) : TupKeep H (upd H p u) := fun b xs e => by
  rw [upd_ne (ne_of e h (fun z => n xs z.symm))]
  exact e
theorem TupKeep.keep {M : List Addr} {H H' : Hp} (k : Keep M H H') (h : ∀ m ∈ M, ∀ xs, H m ≠ some (.tup xs)) : TupKeep H H' := fun b xs e => k _ _ (fun z => h b z xs e) e
theorem NamesAt.tk {H H' : Hp} {qs : List Addr} {bs : List Bytes} (s : TupKeep H H') (h : NamesAt H qs bs) : NamesAt H' qs bs := pimp h fun _ _ e => s _ _ e
/-- a new thing that may change -/
theorem At.ext {K : PySem.W.Frag} {c : Rc} {U : List Addr} {H : Hp} {l : Toks} {ps : List PName} {p : Addr} {o : HO} (h : At K c U H l ps) (np : H p = none) : At K c (p :: U) (upd H p o) l ps := by
  have s : Same H (upd H p o) := same_upd np
  have s2 : Same (off U H) (off (p :: U) (upd H p o)) := fun b u e => by
    obtain ⟨hb, e⟩ := off_some e
    refine off_get ?_ (s _ _ e)
    intro z
    rcases List.mem_cons.mp z with z | z
    · rw [z, np] at e; cases e
    · exact hb z
  obtain ⟨dx, i, h1, h2⟩ := h.rd
  obtain ⟨vs, h3, h4⟩ := h.cl
  refine ⟨⟨dx, i, s _ _ h1, h2⟩, s2 _ _ h.tl, pimp h.tk fun _ _ t => t.mono s2, ⟨vs, s _ _ h3, h4.mono s2⟩, h.el, List.mem_cons_of_mem _ h.uR, List.mem_cons_of_mem _ h.uC, fun u hu => ?_, h.bd⟩
  rcases List.mem_cons.mp hu with z | z
  · rw [z, upd_same]
    exact fun z => by cases z
  · exact live_same h.lv s u z
theorem off_cons {p : Addr} {U : List Addr} {H : Hp} : Same (off (p :: U) H) (off U H) := fun b o e => by
  obtain ⟨hb, e⟩ := off_some e
  exact off_get (fun z => hb (List.mem_cons_of_mem _ z)) e
theorem At.cut {K : PySem.W.Frag} {c : Rc} {U : List Addr} {H : Hp} {l : Toks} {ps : List PName} {p : Addr} (h : At K c (p :: U) H l ps) (hR : c.R ∈ U) (hC : c.CL ∈ U) : At K c U H l ps := by
  obtain ⟨vs, h3, h4⟩ := h.cl
  exact ⟨h.rd, off_cons _ _ h.tl, pimp h.tk fun _ _ t => t.mono off_cons, ⟨vs, h3, h4.mono off_cons⟩, h.el, hR, hC, fun u hu => h.lv u (List.mem_cons_of_mem _ hu), h.bd⟩
theorem at_nR {K : PySem.W.Frag} {c : Rc} {U : List Addr} {H : Hp} {l : Toks} {ps : List PName} (h : At K c U H l ps) {p : Addr} (np : H p = none) : p ≠ c.R ∧ p ≠ c.CL := by
  obtain ⟨dx, i, h1, h2⟩ := h.rd
  obtain ⟨vs, h3, h4⟩ := h.cl
  exact ⟨(ne_of_none h1 np).symm, (ne_of_none h3 np).symm⟩
theorem tkR {K : PySem.W.Frag} {c : Rc} {U : List Addr} {H H' : Hp} {l : Toks} {ps : List PName} (h : At K c U H l ps) (k : Keep [c.R, c.CL] H H') : TupKeep H H' := TupKeep.keep k fun m hm xs e => by
  obtain ⟨dx, i, h1, h2⟩ := h.rd
  obtain ⟨vs, h3, h4⟩ := h.cl
  simp only [List.mem_cons, List.not_mem_nil, or_false] at hm
  rcases hm with rfl | rfl
  · rw [h1] at e; cases e
  · rw [h3] at e; cases e
theorem k12 {a b : Addr} : ∀ x ∈ [a], x ∈ [a, b] := fun x h => by
  rw [List.mem_singleton] at h
  rw [h]
  exact List.mem_cons_self
/-- the next token is this one, and not the last -/
theorem next_tok {k : VakepBase.Tok} {l : Toks} (h : next k l = true) (hk : k ≠ .last) : ∃ t r, l = t :: r ∧ t.tok ≠ .last := by
  cases l with
  | nil => cases h
  | cons t r =>
    refine ⟨t, r, rfl, fun z => ?_⟩
    rw [next_cons, z] at h
    cases k with
    | last => exact hk rfl
    | _ => cases h
/-! ### promises -/
def spTakePiece (K : PySem.W.Frag) : Sp := fun vs H Q E => ∃ (c : Rc) (U : List Addr) (l : Toks) (ps : List PName) (pl : Addr) (qs : List Addr) (bs : List Bytes), vs = [.ref c.R, .ref pl] ∧ At K c U H l ps ∧ pl ∈ U ∧ pl ≠ c.R ∧ pl ≠ c.CL ∧
  H pl = some (.lst (qs.map V.ref)) ∧ qs.length = bs.length ∧ Res K [c.R, pl] H E (onePiece bs.length l) fun x => ∀ (H' : Hp) (q : Addr), At K c U H' x.2 ps → Keep [c.R, pl] H H' → H' pl = some (.lst ((qs ++ [q]).map V.ref)) → H' q = some (.tup (nm x.1.name)) → Q .non H'
def spTakeMake (K : PySem.W.Frag) : Sp := fun vs H Q E => ∃ (c : Rc) (U : List Addr) (t : PTok) (r : Toks) (ps : List PName) (n : Nat), vs = [.ref c.R] ∧ At K c U H (t :: r) ps ∧ t.tok ≠ .last ∧ r.length < n ∧
  Res K [c.R] H E (takeNamesP n [] r) fun x => ∀ (H' : Hp) (a ta : Addr) (qs : List Addr), At K c U H' x.2 ps → Keep [c.R] H H' → H' a = some (.tup [.int 3, .ref ta]) → H' ta = some (.tup (qs.map V.ref)) → NamesAt H' qs x.1 → Q (.ref a) H'
def spTakeCall (K : PySem.W.Frag) : Sp := fun vs H Q E => ∃ (c : Rc) (U : List Addr) (t : PTok) (r : Toks) (ps : List PName), vs = [.ref c.R] ∧ At K c U H (t :: r) ps ∧ t.tok ≠ .last ∧
  Res K [c.R, c.CL] H E ((takeName r).bind fun p => (takeSign 59 p.2).map fun m => (p.1, m)) fun x => ∀ (H' : Hp) (a q : Addr), At K c U H' x.2 (ps ++ [x.1]) → Keep [c.R, c.CL] H H' → H' a = some (.tup [.int 2, .ref q]) → H' q = some (.tup (nm x.1.name)) → Q (.ref a) H'
def spTakeSay (K : PySem.W.Frag) : Sp := fun vs H Q E => ∃ (c : Rc) (U : List Addr) (t : PTok) (r : Toks) (ps : List PName), vs = [.ref c.R] ∧ At K c U H (t :: r) ps ∧ t.tok ≠ .last ∧
  Res K [c.R] H E ((Vakepa.takeNat Vakepa.SIZE r).bind fun k => (takeSign 59 k.2).map fun m => (k.1, m)) fun x => ∀ (H' : Hp) (a : Addr), At K c U H' x.2 ps → Keep [c.R] H H' → H' a = some (.tup [.int 1, .int (x.1 : Nat)]) → Q (.ref a) H'
theorem res_fault {α : Type} {K : PySem.W.Frag} {M M' : List Addr} {H H1 : Hp} {E : XK} {r : Except Fault α} {ok : α → Prop} {f : Fault} (h : Res K M H E r ok) (e : r = .error f) (k : Keep M H H1) (hm : ∀ b ∈ M', b ∈ M) : FaultE K M' H1 E f := by
  rw [e] at h
  exact FaultE.mono (M := M') (M' := M) h k hm
theorem res_val {α : Type} {K : PySem.W.Frag} {M : List Addr} {H : Hp} {E : XK} {r : Except Fault α} {ok : α → Prop} {x : α} (h : Res K M H E r ok) (e : r = .ok x) : ok x := by
  rw [e] at h
  exact h
section
variable {P : Program} {w : World} {K : PySem.W.Frag} {mg : Str → Option Value} {base : Heap}
def N_take_say : List Str := ["reader", "number"]
theorem sc_take_say : FnScope N_take_say ["reader"] (defScope s_take_say) := ⟨rfl, rfl, rfl, by decide +kernel, rfl, by decide +kernel, by decide +kernel⟩
theorem ok_take_say (T : Txt K mg) : Ok P w K mg base 5 "take_say" ["reader"] (spTakeSay K) := by
  have G_go_on : Ok P w K mg base 1 "go_on" ["reader"] (spGoOn K) := ok_go_on T
  have G_take_number : Ok P w K mg base 4 "take_number" ["reader"] (spTakeNumber K) := ok_take_number T
  have G_take : Ok P w K mg base 4 "take" ["reader", "kind", "what"] (spTake K) := ok_take T
  refine ok_mk T.d_take_say sc_take_say (fun vs H Q E h => ?_) (fun cdv A outer s H vs Q E hr h => ?_)
  · obtain ⟨c, U, t, r, ps, rfl, _⟩ := h
    rfl
  · have hr_go_on : Room 1 _ := hr.mono (by decide)
    have hr_take_number : Room 4 _ := hr
    have hr_take : Room 4 _ := hr
    refine ⟨_, (pss_cons (ps_expr (pe_c G_go_on hr_go_on (pa_cons (pv 0) pa_nil))) (pss_cons (ps_set (i := 1) sc_take_say.nd rfl (Or.inl rfl) (pe_cX G_take_number hr_take_number outE (pa_cons (pv 0) pa_nil))) (pss_cons (ps_expr (pe_cX G_take hr_take outE (pa_cons (pv 0) (pa_cons (pe_gl (T.int "SIGN" 4)) (pa_cons (pe_gl (T.int "ENDS" 59)) pa_nil))))) (pss_one (ps_ret (pe_tup (pa_cons (pe_gl (T.int "SAYS" 1)) (pa_cons (pv 1) pa_nil)))))))), ?_⟩
    obtain ⟨c, U, t, r, ps, rfl, h, ht, hR⟩ := h
    refine ⟨_, rfl, c, U, t, r, ps, rfl, h, ht, fun H1 a1 k1 => ?_⟩
    refine ⟨_, rfl, c, U, r, ps, rfl, a1, ?_⟩
    cases e1 : Vakepa.takeNat Vakepa.SIZE r with
    | error f =>
      rw [e1] at hR
      exact res_fault hR rfl k1 (fun _ h => h)
    | ok x =>
      rw [e1] at hR
      refine fun H2 a2 k2 => ⟨_, rfl, c, U, x.2, ps, 4, _, .sign 59, rfl, a2, .inl ⟨59, rfl, rfl, rfl⟩, ?_⟩
      cases e2 : taken (.sign 59) x.2 with
      | error f =>
        have e3 : takeSign 59 x.2 = .error f := e2
        have hR : Res K [c.R] H E ((takeSign 59 x.2).map fun m => (x.1, m)) _ := hR
        rw [e3] at hR
        exact res_fault hR rfl (k1.trans k2) (fun _ h => h)
      | ok m =>
        have e3 : takeSign 59 x.2 = .ok m := e2
        have hR : Res K [c.R] H E ((takeSign 59 x.2).map fun m => (x.1, m)) _ := hR
        rw [e3] at hR
        refine fun H3 a3 k3 => ⟨_, rfl, (by show 2 ≤ sizeLine; decide), fun p np => ?_⟩
        exact hR _ p (a3.same (same_upd np)) (((k1.trans k2).trans k3).trans (Keep.of_same (same_upd np))) upd_same
def N_take_call : List Str := ["reader", "name"]
theorem sc_take_call : FnScope N_take_call ["reader"] (defScope s_take_call) := ⟨rfl, rfl, rfl, by decide +kernel, rfl, by decide +kernel, by decide +kernel⟩
theorem ok_take_call (T : Txt K mg) : Ok P w K mg base 5 "take_call" ["reader"] (spTakeCall K) := by
  have G_go_on : Ok P w K mg base 1 "go_on" ["reader"] (spGoOn K) := ok_go_on T
  have G_token : Ok P w K mg base 1 "token" ["reader"] (spToken K) := ok_token T
  have G_check_name : Ok P w K mg base 4 "check_name" ["reader"] (spCheckName K) := ok_check_name T
  have G_take : Ok P w K mg base 4 "take" ["reader", "kind", "what"] (spTake K) := ok_take T
  refine ok_mk T.d_take_call sc_take_call (fun vs H Q E h => ?_) (fun cdv A outer s H vs Q E hr h => ?_)
  · obtain ⟨c, U, t, r, ps, rfl, _⟩ := h
    rfl
  · have hr_go_on : Room 1 _ := hr.mono (by decide)
    have hr_token : Room 1 _ := hr.mono (by decide)
    have hr_check_name : Room 4 _ := hr
    have hr_take : Room 4 _ := hr
    refine ⟨_, (pss_cons (ps_expr (pe_c G_go_on hr_go_on (pa_cons (pv 0) pa_nil))) (pss_cons (ps_expr (pe_cX G_check_name hr_check_name outE (pa_cons (pv 0) pa_nil))) (pss_cons (ps_set (i := 1) sc_take_call.nd rfl (Or.inl rfl) (pe_fld (pe_c G_token hr_token (pa_cons (pv 0) pa_nil)) rfl)) (pss_cons (ps_expr (pe_bm PySem.F.plainAttrs_list PySem.F.slot_list_append PySem.F.type_list_append mt_append (pe_fld (pv 0) rfl) (pa_cons (pe_tup (pa_cons (pv 1) (pa_cons (pe_fld (pe_c G_token hr_token (pa_cons (pv 0) pa_nil)) rfl) pa_nil))) pa_nil))) (pss_cons (ps_expr (pe_c G_go_on hr_go_on (pa_cons (pv 0) pa_nil))) (pss_cons (ps_expr (pe_cX G_take hr_take outE (pa_cons (pv 0) (pa_cons (pe_gl (T.int "SIGN" 4)) (pa_cons (pe_gl (T.int "ENDS" 59)) pa_nil))))) (pss_one (ps_ret (pe_tup (pa_cons (pe_gl (T.int "CALLS" 2)) (pa_cons (pv 1) pa_nil))))))))))), ?_⟩
    obtain ⟨c, U, t, r, ps, rfl, h, ht, hR⟩ := h
    refine ⟨_, rfl, c, U, t, r, ps, rfl, h, ht, fun H1 a1 k1 => ?_⟩
    have k1' : Keep [c.R, c.CL] H H1 := k1.mono k12
    refine ⟨_, rfl, c, U, r, ps, rfl, a1, ?_⟩
    obtain ⟨t2, r2, rfl⟩ := at_head a1
    by_cases e1 : kindOf t2.tok = 1
    · obtain ⟨p, b, rfl, hb⟩ := kind1 e1
      rw [takeName_name hb] at hR ⊢
      have hR : Res K [c.R, c.CL] H E ((takeSign 59 r2).map fun m => ((⟨p, b⟩ : PName), m)) _ := hR
      refine res_ok ?_
      refine ⟨_, rfl, c, U, _, ps, rfl, a1, fun a t' r' el ⟨dx, v, h1, h2⟩ => ?_⟩
      cases el
      obtain ⟨q, rfl, hq⟩ := h2
      have h1' := (off_some h1).2
      have hq' := (off_some hq).2
      refine ⟨a, _, dx, _, _, rfl, h1', T.cls "Token", T.noat "Token" "what", tokF_what, ?_⟩
      -- reader.called.append(..)
      obtain ⟨dR, i, hRd, hdrop⟩ := a1.rd
      obtain ⟨cvs, hcl, hca⟩ := a1.cl
      refine ⟨_, rfl, _, _, dR, _, _, rfl, hRd, T.cls "Reader", T.noat "Reader" "called", rdF_called, .inl ⟨rfl, _, SqL.of hcl⟩, _, rfl, _, rfl, c, U, _, ps, rfl, a1, fun a' t' r' el ⟨dx', v', h1'', h2'⟩ => ?_⟩
      cases el
      refine ⟨a', _, dx', _, _, rfl, (off_some h1'').2, T.cls "Token", T.noat "Token" "place", tokF_place, (by show 2 ≤ sizeLine; decide), fun tp ntp => ?_⟩
      have s1 : Same H1 (upd H1 tp (.tup [.ref q, .int (p : Nat)])) := same_upd ntp
      have hcl2 := s1 _ _ hcl
      have bd := a1.bd
      have hlen : cvs.length = ps.length := plen hca
      refine ⟨c.CL, cvs, _, rfl, rfl, hcl2, ?_, ?_⟩
      · rw [hlen]
        rw [List.length_cons] at bd
        exact Nat.lt_of_le_of_lt (show ps.length ≤ 5000 by omega) (by decide)
      · -- the heap behind the append
        have hH2 : ∃ H2, H2 = upd (upd H1 tp (.tup [.ref q, .int (p : Nat)])) c.CL (.lst (cvs ++ [.ref tp])) := ⟨_, rfl⟩
        obtain ⟨H2, eH2⟩ := hH2
        have k2 : Keep [c.CL] H1 H2 := by
          rw [eH2]
          exact (Keep.of_same s1).trans keep_upd
        have cl2 : H2 c.CL = some (.lst (cvs ++ [.ref tp])) := by rw [eH2]; exact upd_same
        have tpH2 : H2 tp = some (.tup [.ref q, .int (p : Nat)]) := by
          rw [eH2, upd_ne (ne_of upd_same hcl2 (fun z => by cases z))]
          exact upd_same
        have tpU : tp ∉ U := new_off a1.lv ntp
        have a2 : At K c U H2 (⟨p, .name b⟩ :: r2) (ps ++ [⟨p, b⟩]) := by
          have s2 : Same (off U H1) (off U H2) := k2.off (fun b hb => by rw [List.mem_singleton.mp hb]; exact a1.uC)
          refine ⟨⟨dR, i, k2 _ _ (by simpa using a1.rc) hRd, hdrop⟩, s2 _ _ a1.tl, pimp a1.tk fun _ _ t => t.mono s2, ⟨_, cl2, psnoc (hca.mono s2) ⟨tp, q, rfl, off_get tpU tpH2, s2 _ _ hq⟩⟩, a1.el, a1.uR, a1.uC, fun u hu => ?_, ?_⟩
          · by_cases z : u = c.CL
            · rw [z, cl2]
              exact fun z => by cases z
            · intro z2
              cases e : H1 u with
              | none => exact a1.lv u hu e
              | some o => rw [k2 _ _ (by simpa using z) e] at z2; cases z2
          · have bd0 := h.bd
            rw [List.length_append]
            rw [List.length_cons] at bd0
            show ps.length + 1 + (({ place := p, tok := VakepBase.Tok.name b } : PTok) :: r2).length ≤ 5000
            omega
        have hqc : q ≠ c.CL := ne_of hq' hcl (fun z => by cases z)
        have hq2 : H2 q = some (.tup (nm b)) := k2 _ _ (by simpa using hqc) hq'
        rw [← eH2]
        refine ⟨_, rfl, c, U, _, r2, _, rfl, a2, (fun z => by cases z), fun H3 a3 k3 => ⟨_, rfl, c, U, r2, _, 4, _, .sign 59, rfl, a3, .inl ⟨59, rfl, rfl, rfl⟩, ?_⟩⟩
        have kk : Keep [c.R, c.CL] H H3 := (k1'.trans (k2.mono (fun b hb => by rw [List.mem_singleton.mp hb]; simp))).trans (k3.mono k12)
        cases e2 : taken (.sign 59) r2 with
        | error f =>
          have e3 : takeSign 59 r2 = .error f := e2
          rw [e3] at hR
          exact res_fault hR rfl kk k12
        | ok m =>
          have e3 : takeSign 59 r2 = .ok m := e2
          rw [e3] at hR
          refine fun H4 a4 k4 => ⟨_, rfl, (by show 2 ≤ sizeLine; decide), fun p2 np2 => ?_⟩
          exact hR _ p2 q (a4.same (same_upd np2)) ((kk.trans (k4.mono k12)).trans (Keep.of_same (same_upd np2))) upd_same (same_upd np2 _ _ (tup_keepR a3 k4 (tup_keepR a2 k3 hq2)))
    · rw [takeName_no e1] at hR ⊢
      exact res_fault (M := [c.R, c.CL]) hR rfl k1' (fun b hb => by simp at hb)
end
end PP

set_option Elab.async false
set_option linter.all false
set_option maxRecDepth 100000
set_option maxHeartbeats 4000000
namespace PP
open PySem PySem.Spec PyProof.Rows L2
open VakepBase (Bytes Fault PTok Toks PName RESERVED word next taken wrong here takeName takeSign)
section
variable {P : Program} {w : World} {K : PySem.W.Frag} {mg : Str → Option Value} {base : Heap}
def N_take_piece : List Str := ["reader", "pieces"]
theorem sc_take_piece : FnScope N_take_piece ["reader", "pieces"] (defScope s_take_piece) := ⟨rfl, rfl, rfl, by decide +kernel, rfl, by decide +kernel, by decide +kernel⟩
theorem ok_take_piece (T : Txt K mg) : Ok P w K mg base 5 "take_piece" ["reader", "pieces"] (spTakePiece K) := by
  have G_go_on : Ok P w K mg base 1 "go_on" ["reader"] (spGoOn K) := ok_go_on T
  have G_token : Ok P w K mg base 1 "token" ["reader"] (spToken K) := ok_token T
  have G_check_name : Ok P w K mg base 4 "check_name" ["reader"] (spCheckName K) := ok_check_name T
  have G_refuse : Ok P w K mg base 3 "refuse" ["is_wrong", "code", "place"] (spRefuse K) := ok_refuse T
  refine ok_mk T.d_take_piece sc_take_piece (fun vs H Q E h => ?_) (fun cdv A outer s H vs Q E hr h => ?_)
  · obtain ⟨c, U, l, ps, pl, qs, bs, rfl, _⟩ := h
    rfl
  · have hr_go_on : Room 1 _ := hr.mono (by decide)
    have hr_token : Room 1 _ := hr.mono (by decide)
    have hr_check_name : Room 4 _ := hr
    have hr_refuse : Room 3 _ := hr.mono (by decide)
    refine ⟨_, (pss_cons (ps_expr (pe_cX G_check_name hr_check_name outE (pa_cons (pv 0) pa_nil))) (pss_cons (ps_expr (pe_cX G_refuse hr_refuse outE (pa_cons (pe_cmpR op_ge (pe_callB call_len (by rfl) (T.free "len") PySem.boot_len (pa_cons (pv 1) pa_nil)) (pe_gl (T.int "MOST_PIECES" 3)) (nomark _)) (pa_cons (pe_gl (T.int "TOO_MANY_reading" 4)) (pa_cons (pe_fld (pe_c G_token hr_token (pa_cons (pv 0) pa_nil)) rfl) pa_nil))))) (pss_cons (ps_expr (pe_bm PySem.F.plainAttrs_list PySem.F.slot_list_append PySem.F.type_list_append mt_append (pv 1) (pa_cons (pe_fld (pe_c G_token hr_token (pa_cons (pv 0) pa_nil)) rfl) pa_nil))) (pss_one (ps_expr (pe_c G_go_on hr_go_on (pa_cons (pv 0) pa_nil))))))), ?_⟩
    obtain ⟨c, U, l, ps, pl, qs, bs, rfl, h, hpU, hpR, hpC, hpl, hlen, hR⟩ := h
    have k0 : ∀ b ∈ ([] : List Addr), b ∈ [c.R, pl] := fun b hb => by simp at hb
    refine ⟨_, rfl, c, U, l, ps, rfl, h, ?_⟩
    obtain ⟨t, r, rfl⟩ := at_head h
    unfold onePiece at hR
    by_cases e1 : kindOf t.tok = 1
    · obtain ⟨p, b, rfl, hb⟩ := kind1 e1
      rw [takeName_name hb] at hR ⊢
      have hR : Res K [c.R, pl] H E (if Vakepa.PIECES ≤ bs.length then .error ⟨4, p⟩ else .ok ((⟨p, b⟩ : PName), r)) _ := hR
      refine res_ok ?_
      refine ⟨_, rfl, _, _, rfl, .inl ⟨_, SqL.of hpl, rfl⟩, _, _, rfl, rfl, _, rfl, c, U, _, ps, rfl, h, fun a t' r' el ⟨dx, v, h1, h2⟩ => ?_⟩
      cases el
      obtain ⟨q, rfl, hq⟩ := h2
      have h1' := (off_some h1).2
      have hq' := (off_some hq).2
      refine ⟨a, _, dx, _, _, rfl, h1', T.cls "Token", T.noat "Token" "place", tokF_place, _, ⟨4, p⟩, rfl, fun e => ?_, fun e => ?_⟩
      · have e2 : Vakepa.PIECES ≤ bs.length := by
          have := of_decide_eq_true e
          rw [List.length_map] at this
          unfold Vakepa.PIECES
          omega
        rw [if_pos e2] at hR
        exact FaultE.mono (M := []) hR (Keep.refl _ _) k0
      · have e2 : ¬ Vakepa.PIECES ≤ bs.length := by
          have := of_decide_eq_false e
          rw [List.length_map] at this
          unfold Vakepa.PIECES
          omega
        rw [if_neg e2] at hR
        refine ⟨_, rfl, .inl ⟨rfl, _, SqL.of hpl⟩, _, rfl, c, U, _, ps, rfl, h, fun a' t' r' el ⟨dx', v', h1'', h2'⟩ => ?_⟩
        cases el
        obtain ⟨q', rfl, hq2⟩ := h2'
        have hq2' := (off_some hq2).2
        refine ⟨a', _, dx', _, _, rfl, (off_some h1'').2, T.cls "Token", T.noat "Token" "what", tokF_what, pl, _, _, rfl, rfl, hpl, ?_, ?_⟩
        · rw [List.length_map, hlen]
          unfold Vakepa.PIECES at e2
          exact Nat.lt_of_lt_of_le (Nat.not_le.mp e2) (by decide)
        · have k1 : Keep [pl] H (upd H pl (.lst (qs.map V.ref ++ [.ref q']))) := keep_upd
          have a1 : At K c U (upd H pl (.lst (qs.map V.ref ++ [.ref q']))) (⟨p, .name b⟩ :: r) ps := h.keep k1 (fun m hm => by rw [List.mem_singleton.mp hm]; exact hpU) (fun m hm => by
            rw [List.mem_singleton.mp hm, upd_same]
            exact fun z => by cases z) (by simpa using hpR.symm) (by simpa using hpC.symm)
          refine ⟨_, rfl, c, U, _, r, ps, rfl, a1, (fun z => by cases z), fun H2 a2 k2 => ?_⟩
          refine hR H2 q' a2 ((k1.mono (fun b hb => by rw [List.mem_singleton.mp hb]; simp)).trans (k2.mono k12)) ?_ ?_
          · refine k2 _ _ (by simpa using hpR) ?_
            rw [upd_same, List.map_append]
            rfl
          · refine tup_keepR a1 k2 ?_
            rw [upd_ne (ne_of hq2' hpl (fun z => by cases z))]
            exact hq2'
    · rw [takeName_no e1] at hR ⊢
      exact res_fault (M := [c.R, pl]) hR rfl (Keep.refl _ _) k0
def N_take_make : List Str := ["reader", "pieces"]
theorem sc_take_make : FnScope N_take_make ["reader"] (defScope s_take_make) := ⟨rfl, rfl, rfl, by decide +kernel, rfl, by decide +kernel, by decide +kernel⟩
theorem ok_take_make (T : Txt K mg) : Ok P w K mg base 6 "take_make" ["reader"] (spTakeMake K) := by
  have G_go_on : Ok P w K mg base 1 "go_on" ["reader"] (spGoOn K) := ok_go_on T
  have G_is_next : Ok P w K mg base 2 "is_next" ["reader", "kind", "what"] (spIsNext K) := ok_is_next T
  have G_take : Ok P w K mg base 4 "take" ["reader", "kind", "what"] (spTake K) := ok_take T
  have G_take_piece : Ok P w K mg base 5 "take_piece" ["reader", "pieces"] (spTakePiece K) := ok_take_piece T
  refine ok_mk T.d_take_make sc_take_make (fun vs H Q E h => ?_) (fun cdv A outer s H vs Q E hr h => ?_)
  · obtain ⟨c, U, t, r, ps, n, rfl, _⟩ := h
    rfl
  · have hr_go_on : Room 1 _ := hr.mono (by decide)
    have hr_is_next : Room 2 _ := hr.mono (by decide)
    have hr_take : Room 4 _ := hr.mono (by decide)
    have hr_take_piece : Room 5 _ := hr
    refine ⟨_, (pss_cons (ps_expr (pe_c G_go_on hr_go_on (pa_cons (pv 0) pa_nil))) (pss_cons (ps_set (i := 1) sc_take_make.nd rfl (Or.inl rfl) (pe_lst pa_nil)) (pss_cons (ps_expr (pe_cX G_take_piece hr_take_piece outE (pa_cons (pv 0) (pa_cons (pv 1) pa_nil)))) (pss_cons (ps_while (passes_of rfl) (pt_val (pe_c G_is_next hr_is_next (pa_cons (pv 0) (pa_cons (pe_gl (T.int "SIGN" 4)) (pa_cons (pe_gl (T.int "PLUS" 43)) pa_nil))))) (pss_cons (ps_expr (pe_c G_go_on hr_go_on (pa_cons (pv 0) pa_nil))) (pss_one (ps_expr (pe_cX G_take_piece hr_take_piece outE (pa_cons (pv 0) (pa_cons (pv 1) pa_nil))))))) (pss_cons (ps_expr (pe_cX G_take hr_take outE (pa_cons (pv 0) (pa_cons (pe_gl (T.int "SIGN" 4)) (pa_cons (pe_gl (T.int "ENDS" 59)) pa_nil))))) (pss_one (ps_ret (pe_tup (pa_cons (pe_gl (T.int "MAKES" 3)) (pa_cons (pe_callTy call_tuple_of (by rfl) (T.free "tuple") (by decide +kernel) (pa_cons (pv 1) pa_nil)) pa_nil)))))))))), ?_⟩
    obtain ⟨c, U, t, r, ps, n, rfl, h, ht, hn, hR⟩ := h
    refine ⟨_, rfl, c, U, t, r, ps, rfl, h, ht, fun H1 a1 k1 => ?_⟩
    refine ⟨Nat.zero_le _, fun pl npl => ?_⟩
    have b1 : At K c (pl :: U) (upd H1 pl (.lst [])) r ps := a1.ext npl
    obtain ⟨nR, nC⟩ := at_nR a1 npl
    have npl0 : H pl = none := by
      cases e : H pl with
      | none => rfl
      | some o =>
        have := k1 _ _ (by simpa using nR) e
        rw [npl] at this
        cases this
    have kk1 : Keep [c.R, pl] H (upd H1 pl (.lst [])) := (k1.mono k12).trans (keep_updM (by simp))
    have drop : ∀ {H' : Hp}, Keep [c.R, pl] H H' → Keep [c.R] H H' := fun k => Keep.fresh (M := [c.R]) (N := [pl]) k (fun b hb => by rw [List.mem_singleton.mp hb]; exact npl0)
    obtain ⟨n, rfl⟩ : ∃ m, n = m + 1 := ⟨n - 1, by omega⟩
    refine ⟨_, rfl, _, rfl, c, pl :: U, r, ps, pl, [], [], rfl, b1, List.mem_cons_self, nR, nC, upd_same, rfl, ?_⟩
    have hR0 : Res K [c.R] H E ((onePiece 0 r).bind fun x => if next (.sign 43) x.2 = true then takeNamesP n ([] ++ [x.1.name]) (x.2.drop 1) else (takeSign 59 x.2).map fun m => ([] ++ [x.1.name], m)) _ := hR
    have el : ∀ {l : Toks} {x : PName × Toks} {m : Nat}, onePiece m l = .ok x → x.2.length < l.length := fun {l x m} e => by
      unfold onePiece at e
      cases l with
      | nil => cases e
      | cons t r =>
        by_cases e1 : kindOf t.tok = 1
        · obtain ⟨p, b, rfl, hb⟩ := kind1 e1
          rw [takeName_name hb] at e
          have e : (if Vakepa.PIECES ≤ m then (.error ⟨4, p⟩ : Except Fault (PName × Toks)) else .ok (⟨p, b⟩, r)) = .ok x := e
          split at e
          · cases e
          · cases e
            show r.length < _
            rw [List.length_cons]
            omega
        · rw [takeName_no e1] at e
          cases e
    cases e1 : onePiece 0 r with
    | error f =>
      rw [e1] at hR0
      exact FaultE.mono (M := [c.R, pl]) (M' := [c.R, pl]) (fun d H' k e => hR0 d H' (drop k) e) kk1 fun _ h => h
    | ok x =>
      rw [e1] at hR0
      refine fun H2 q b2 k2 hl2 hq2 => ?_
      have kk2 : Keep [c.R, pl] H H2 := kk1.trans k2
      let W : Nat → L2.St → Hp → Prop := fun m σ H' => ∃ (l : Toks) (qs : List Addr) (bs : List Bytes), σ = [some (.ref c.R), some (.ref pl)] ∧ At K c (pl :: U) H' l ps ∧ Keep [c.R, pl] H H' ∧ H' pl = some (.lst (qs.map V.ref)) ∧ NamesAt H' qs bs ∧ bs ≠ [] ∧ l.length < m ∧
        Res K [c.R] H E (if next (.sign 43) l = true then takeNamesP m bs (l.drop 1) else (takeSign 59 l).map fun r => (bs, r)) fun x => ∀ (H' : Hp) (a ta : Addr) (qs : List Addr), At K c U H' x.2 ps → Keep [c.R] H H' → H' a = some (.tup [.int 3, .ref ta]) → H' ta = some (.tup (qs.map V.ref)) → NamesAt H' qs x.1 → Q (.ref a) H'
      refine ⟨W, ⟨n, x.2, [q], [x.1.name], rfl, b2, kk2, hl2, .cons hq2 .nil, List.cons_ne_nil _ _, by have := el e1; omega, hR0⟩, ?_⟩
      rintro m σ H3 ⟨l, qs, bs, rfl, b3, kk3, hl3, hq3, hne, hlt, hR3⟩
      refine ⟨_, rfl, c, pl :: U, l, ps, 4, _, .sign 43, rfl, b3, .inl ⟨43, rfl, rfl, rfl⟩, _, rfl, if_both (fun e => ?_) fun e => ?_⟩
      · rw [if_pos e] at hR3
        obtain ⟨t, r, rfl, htl⟩ := next_tok e (fun z => by cases z)
        obtain ⟨m, rfl⟩ : ∃ k, m = k + 1 := ⟨m - 1, by omega⟩
        refine ⟨fun σ' H' => ∃ m', m' < m + 1 ∧ W m' σ' H', fun _ _ h => h, _, rfl, c, pl :: U, t, r, ps, rfl, b3, htl, fun H4 b4 k4 => ?_⟩
        have hl4 : H4 pl = some (.lst (qs.map V.ref)) := k4 _ _ (by simpa using nR) hl3
        have kk4 : Keep [c.R, pl] H H4 := kk3.trans (k4.mono k12)
        refine ⟨_, rfl, _, rfl, c, pl :: U, r, ps, pl, qs, bs, rfl, b4, List.mem_cons_self, nR, nC, hl4, plen hq3, ?_⟩
        have hR4 : Res K [c.R] H E ((onePiece bs.length r).bind fun x => if next (.sign 43) x.2 = true then takeNamesP m (bs ++ [x.1.name]) (x.2.drop 1) else (takeSign 59 x.2).map fun m => (bs ++ [x.1.name], m)) _ := hR3
        cases e4 : onePiece bs.length r with
        | error f =>
          rw [e4] at hR4
          exact FaultE.mono (M := [c.R, pl]) (M' := [c.R, pl]) (fun d H' k e => hR4 d H' (drop k) e) kk4 fun _ h => h
        | ok x =>
          rw [e4] at hR4
          refine fun H5 q5 b5 k5 hl5 hq5 => ⟨m, Nat.lt_succ_self _, x.2, qs ++ [q5], bs ++ [x.1.name], rfl, b5, kk4.trans k5, hl5, psnoc (pimp hq3 fun c b e => ?_) hq5, by simp, ?_, hR4⟩
          · have n1 : c ≠ pl := ne_of e hl3 (fun z => by cases z)
            have e4 : H4 c = some (.tup (nm b)) := tup_keepR b3 k4 e
            obtain ⟨dx, i, h3, _⟩ := b4.rd
            have n2 := ne_of e4 h3 (fun z => by cases z)
            exact k5 _ _ (by simp only [List.mem_cons, List.not_mem_nil, or_false, not_or]; exact ⟨n2, n1⟩) e4
          · have := el e4
            rw [List.length_cons] at hlt
            omega
      · rw [if_neg (by rw [e]; exact Bool.false_ne_true)] at hR3
        refine ⟨_, rfl, c, pl :: U, l, ps, 4, _, .sign 59, rfl, b3, .inl ⟨59, rfl, rfl, rfl⟩, ?_⟩
        cases e2 : taken (.sign 59) l with
        | error f =>
          have e3 : takeSign 59 l = .error f := e2
          rw [e3] at hR3
          exact FaultE.mono (M := [c.R]) (M' := [c.R, pl]) (fun d H' k e => hR3 d H' (drop k) e) kk3 (by simp)
        | ok m =>
          have e3 : takeSign 59 l = .ok m := e2
          rw [e3] at hR3
          refine fun H4 b4 k4 => ?_
          have hl4 : H4 pl = some (.lst (qs.map V.ref)) := k4 _ _ (by simpa using nR) hl3
          refine ⟨_, rfl, pl, _, rfl, .inl ⟨SqL.of hl4, fun ta nta => ⟨(by show 2 ≤ sizeLine; decide), fun a na => ?_⟩⟩⟩
          have s1 : Same H4 (upd H4 ta (.tup (qs.map V.ref))) := same_upd nta
          have s2 : Same (upd H4 ta (.tup (qs.map V.ref))) (upd (upd H4 ta (.tup (qs.map V.ref))) a (.tup [.int 3, .ref ta])) := same_upd na
          refine hR3 _ a ta qs (((b4.same s1).same s2).cut a1.uR a1.uC) (drop ((kk3.trans (k4.mono k12)).trans (Keep.of_same (s1.trans s2)))) upd_same (s2 _ _ upd_same) (pimp hq3 fun c b e => s2 _ _ (s1 _ _ (tup_keepR b3 k4 e)))
end
end PP

set_option Elab.async false
set_option linter.all false
set_option maxRecDepth 100000
set_option maxHeartbeats 4000000
namespace PP
open PySem PySem.Spec PyProof.Rows L2
open VakepBase (Bytes Fault PTok Toks PName RESERVED word next nextWord taken wrong here takeName takeSign takeWord)
open Vakepa (Raw Piece takeNat takeStmts pieceOf SIZE DEEP)
theorem Ok.mono {P : Program} {w : World} {K : PySem.W.Frag} {mg : Str → Option Value} {base : Heap} {j k : Nat} {x : Str} {ps : List Str} {sp : Sp} (h : Ok P w K mg base j x ps sp) (l : j ≤ k) : Ok P w K mg base k x ps sp := by
  obtain ⟨fd, h1, h2, h3, F⟩ := h
  exact ⟨fd, h1, h2, h3, ⟨F.len, fun A outer s H args us vs Q E hr => F.run A outer s H args us vs Q E (hr.mono l)⟩⟩
/-! ### plain: statements one by one -/
def calls : Raw → List PName
  | .done => []
  | .say _ r => calls r
  | .call p r => p :: calls r
  | .make _ r => calls r
  | .when_ _ _ b r => calls b ++ calls r
def whenRest (ss : List Vakepa.Setting) (n d : Nat) (l r : Toks) : Except Fault ((Raw → Raw) × Toks) :=
  if DEEP ≤ d then .error ⟨4, here l⟩ else (knownName (ss.map fun s => s.name) r).bind fun x => (takeWord "is" x.2).bind fun r => (knownName (((ss[x.1]?).map fun s => s.values).getD []) r).bind fun v =>
    ((takeSign 123 v.2).bind fun r => takeStmts ss n (d + 1) r).map fun b => (Raw.when_ x.1 v.1 b.1, b.2)
def oneStmt (ss : List Vakepa.Setting) (n d : Nat) (l : Toks) : Except Fault ((Raw → Raw) × Toks) :=
  if nextWord "say" l = true then ((takeNat SIZE (l.drop 1)).bind fun k => (takeSign 59 k.2).map fun m => (k.1, m)).map fun x => (Raw.say x.1, x.2)
  else if nextWord "call" l = true then ((takeName (l.drop 1)).bind fun p => (takeSign 59 p.2).map fun m => (p.1, m)).map fun x => (Raw.call x.1, x.2)
  else if nextWord "make" l = true then (takeNamesP (l.length + 1) [] (l.drop 1)).map fun x => (Raw.make (x.1.map (pieceOf ss)), x.2)
  else (takeWord "when" l).bind fun r => whenRest ss n d l r
theorem bind_map {α β γ : Type} (r : Except Fault α) (f : α → Except Fault β) (g : β → γ) : (r.bind f).map g = r.bind fun x => (f x).map g := by cases r <;> rfl
theorem map_bind {α β γ : Type} (r : Except Fault α) (f : α → β) (g : β → Except Fault γ) : (r.map f).bind g = r.bind fun x => g (f x) := by cases r <;> rfl
theorem bind_bind {α β γ : Type} (r : Except Fault α) (f : α → Except Fault β) (g : β → Except Fault γ) : (r.bind f).bind g = r.bind fun x => (f x).bind g := by cases r <;> rfl
theorem bind_ext {α β : Type} {r : Except Fault α} {f g : α → Except Fault β} (h : ∀ x, r = .ok x → f x = g x) : r.bind f = r.bind g := by
  cases r with
  | error _ => rfl
  | ok x => exact h x rfl
theorem find_names (ss : List Vakepa.Setting) (b : Bytes) : (ss.map fun s => s.name).findIdx? (fun y => y == b) = ss.findIdx? fun s => s.name == b := by
  rw [List.findIdx?_map]
  rfl
theorem stmts_succ (ss : List Vakepa.Setting) (n d : Nat) (l : Toks) : takeStmts ss (n + 1) d l = if next (.sign 125) l = true then .ok (.done, l.drop 1) else (oneStmt ss n d l).bind fun x => (takeStmts ss n d x.2).map fun y => (x.1 y.1, y.2) := by
  rw [takeStmts]
  by_cases h0 : next (.sign 125) l = true
  · rw [if_pos h0, if_pos h0]
  rw [if_neg h0, if_neg h0]
  unfold oneStmt
  by_cases h1 : nextWord "say" l = true
  · rw [if_pos h1, if_pos h1, map_bind, bind_bind]
    refine bind_ext fun k _ => ?_
    rw [map_bind]
  rw [if_neg h1, if_neg h1]
  by_cases h2 : nextWord "call" l = true
  · rw [if_pos h2, if_pos h2, map_bind, bind_bind]
    refine bind_ext fun k _ => ?_
    rw [map_bind]
  rw [if_neg h2, if_neg h2]
  by_cases h3 : nextWord "make" l = true
  · have e := takePieces_eq ss (l.length + 1) [] (l.drop 1)
    rw [if_pos h3, if_pos h3, map_bind, show ([] : List Piece) = ([] : List Bytes).map (pieceOf ss) from rfl, e, map_bind]
  rw [if_neg h3, if_neg h3, bind_bind]
  refine bind_ext fun r _ => ?_
  unfold whenRest
  by_cases h4 : DEEP ≤ d
  · rw [if_pos h4, if_pos h4]
    rfl
  rw [if_neg h4, if_neg h4, bind_bind]
  unfold knownName
  rw [bind_bind]
  refine bind_ext fun x _ => ?_
  rw [find_names]
  cases h5 : ss.findIdx? (fun s => s.name == x.1.name) with
  | none => rfl
  | some k =>
    show _ = ((takeWord "is" x.2).bind _).bind _
    rw [bind_bind]
    refine bind_ext fun r _ => ?_
    rw [bind_bind]
    show _ = ((takeName r).bind fun x => _).bind _
    rw [bind_bind]
    refine bind_ext fun v _ => ?_
    have e : (((ss[k]?).map fun s => s.values).bind fun vs => vs.findIdx? fun y => y == v.1.name) = (((ss[k]?).map fun s => s.values).getD []).findIdx? (fun y => y == v.1.name) := by
      cases ss[k]? <;> rfl
    show (match (((ss[k]?).map fun s => s.values).bind fun vs => vs.findIdx? fun y => y == v.1.name) with | none => _ | some j => _) = _
    rw [e]
    cases (((ss[k]?).map fun s => s.values).getD []).findIdx? (fun y => y == v.1.name) with
    | none => rfl
    | some j =>
      show _ = ((((takeSign 123 v.2).bind _).map _)).bind _
      rw [map_bind, bind_bind]
end PP

set_option Elab.async false
set_option linter.all false
set_option maxRecDepth 100000
set_option maxHeartbeats 4000000
namespace PP
open PySem PySem.Spec PyProof.Rows L2
open VakepBase (Bytes Fault PTok Toks PName RESERVED word next nextWord taken wrong here takeName takeSign takeWord)
open Vakepa (Raw Piece takeNat takeStmts pieceOf SIZE DEEP)
theorem bind_ok {α β : Type} {r : Except Fault α} {f : α → Except Fault β} {y : β} (h : r.bind f = .ok y) : ∃ x, r = .ok x ∧ f x = .ok y := by
  cases r with
  | error _ => cases h
  | ok x => exact ⟨x, rfl, h⟩
theorem map_ok {α β : Type} {r : Except Fault α} {f : α → β} {y : β} (h : r.map f = .ok y) : ∃ x, r = .ok x ∧ f x = y := by
  cases r with
  | error _ => cases h
  | ok x => exact ⟨x, rfl, Except.ok.inj h⟩
/-! ### plain: what is left gets shorter -/
theorem taken_len {k : VakepBase.Tok} {l r : Toks} (h : taken k l = .ok r) : r.length < l.length := by
  unfold taken at h
  split at h
  · rename_i e
    cases h
    cases l with
    | nil => cases e
    | cons t r =>
      show r.length < _
      rw [List.length_cons]
      omega
  · cases h
theorem takeName_len {l : Toks} {x : PName × Toks} (h : takeName l = .ok x) : x.2.length < l.length := by
  cases l with
  | nil => cases h
  | cons t r =>
    by_cases e1 : kindOf t.tok = 1
    · obtain ⟨p, b, rfl, hb⟩ := kind1 e1
      rw [takeName_name hb] at h
      cases h
      show r.length < _
      rw [List.length_cons]
      omega
    · rw [takeName_no e1] at h
      cases h
theorem takeNat_len {m : Nat} {l : Toks} {x : Nat × Toks} (h : takeNat m l = .ok x) : x.2.length < l.length := by
  unfold takeNat at h
  split at h
  · split at h
    · cases h
    · cases h
      simp
  · cases h
theorem knownName_len {bs : List Bytes} {l : Toks} {x : Nat × Toks} (h : knownName bs l = .ok x) : x.2.length < l.length := by
  unfold knownName at h
  obtain ⟨y, h1, h2⟩ := bind_ok h
  split at h2
  · cases h2
  · cases h2
    exact takeName_len h1
theorem onePiece_len {m : Nat} {l : Toks} {x : PName × Toks} (h : onePiece m l = .ok x) : x.2.length < l.length := by
  unfold onePiece at h
  obtain ⟨y, h1, h2⟩ := bind_ok h
  split at h2
  · cases h2
  · cases h2
    exact takeName_len h1
theorem takeNamesP_len : ∀ {n : Nat} {bs : List Bytes} {l : Toks} {x : List Bytes × Toks}, takeNamesP n bs l = .ok x → x.2.length < l.length
  | 0, _, _, _, h => by cases h
  | n + 1, bs, l, x, h => by
    unfold takeNamesP at h
    obtain ⟨y, h1, h2⟩ := bind_ok h
    have l1 := onePiece_len h1
    split at h2
    · have l2 := takeNamesP_len h2
      rw [List.length_drop] at l2
      omega
    · obtain ⟨m, h3, rfl⟩ := map_ok h2
      have l2 := taken_len h3
      show m.length < _
      omega
theorem drop1_len {k : VakepBase.Tok} {l : Toks} (h : next k l = true) : (l.drop 1).length < l.length := by
  cases l with
  | nil => cases h
  | cons t r =>
    show r.length < _
    rw [List.length_cons]
    omega
mutual
theorem one_len (ss : List Vakepa.Setting) : ∀ (n d : Nat) (l : Toks) (x : (Raw → Raw) × Toks), oneStmt ss n d l = .ok x → x.2.length < l.length := fun n d l x h => by
  unfold oneStmt at h
  split at h
  · rename_i e
    obtain ⟨y, h1, rfl⟩ := map_ok h
    obtain ⟨z, h2, h3⟩ := bind_ok h1
    obtain ⟨m, h4, rfl⟩ := map_ok h3
    have l1 := takeNat_len h2
    have l2 := taken_len h4
    have l3 := drop1_len (k := .name (word "say")) e
    show m.length < _
    omega
  split at h
  · rename_i e
    obtain ⟨y, h1, rfl⟩ := map_ok h
    obtain ⟨z, h2, h3⟩ := bind_ok h1
    obtain ⟨m, h4, rfl⟩ := map_ok h3
    have l1 := takeName_len h2
    have l2 := taken_len h4
    have l3 := drop1_len (k := .name (word "call")) e
    show m.length < _
    omega
  split at h
  · rename_i e
    obtain ⟨y, h1, rfl⟩ := map_ok h
    have l1 := takeNamesP_len h1
    have l3 := drop1_len (k := .name (word "make")) e
    show y.2.length < _
    omega
  obtain ⟨r, h1, h2⟩ := bind_ok h
  have l1 := taken_len h1
  unfold whenRest at h2
  split at h2
  · cases h2
  obtain ⟨y, h3, h4⟩ := bind_ok h2
  have l2 := knownName_len h3
  obtain ⟨r2, h5, h6⟩ := bind_ok h4
  have l3 := taken_len h5
  obtain ⟨v, h7, h8⟩ := bind_ok h6
  have l4 := knownName_len h7
  obtain ⟨b, h9, rfl⟩ := map_ok h8
  obtain ⟨r3, h10, h11⟩ := bind_ok h9
  have l5 := taken_len h10
  have l6 := stmts_len ss n (d + 1) r3 b h11
  show b.2.length < _
  omega
termination_by n => (n, 1)
theorem stmts_len (ss : List Vakepa.Setting) : ∀ (n d : Nat) (l : Toks) (x : Raw × Toks), takeStmts ss n d l = .ok x → x.2.length < l.length
  | 0, _, _, _, h => by cases h
  | n + 1, d, l, x, h => by
    rw [stmts_succ] at h
    split at h
    · rename_i e
      cases h
      exact drop1_len e
    · obtain ⟨y, h1, h2⟩ := bind_ok h
      obtain ⟨z, h3, rfl⟩ := map_ok h2
      have l1 := one_len ss n d l y h1
      have l2 := stmts_len ss n d y.2 z h3
      show z.2.length < _
      omega
termination_by n => (n, 0)
end
/-! ### rows in the heap -/
def RowsAt (H : Hp) (ss : List Vakepa.Setting) : Raw → List V → Prop
  | .done, vs => vs = []
  | .say k r, vs => ∃ a vs', vs = .ref a :: vs' ∧ H a = some (.tup [.int 1, .int (k : Nat)]) ∧ RowsAt H ss r vs'
  | .call p r, vs => ∃ a q vs', vs = .ref a :: vs' ∧ H a = some (.tup [.int 2, .ref q]) ∧ H q = some (.tup (nm p.name)) ∧ RowsAt H ss r vs'
  | .make ps r, vs => ∃ a t qs bs vs', vs = .ref a :: vs' ∧ H a = some (.tup [.int 3, .ref t]) ∧ H t = some (.tup (qs.map V.ref)) ∧ NamesAt H qs bs ∧ ps = bs.map (pieceOf ss) ∧ RowsAt H ss r vs'
  | .when_ x v b r, vs => ∃ a t us vs', vs = .ref a :: vs' ∧ H a = some (.tup [.int 4, .int (x : Nat), .int (v : Nat), .ref t]) ∧ H t = some (.tup us) ∧ RowsAt H ss b us ∧ RowsAt H ss r vs'
theorem RowsAt.tk {H H' : Hp} {ss : List Vakepa.Setting} (s : TupKeep H H') : ∀ {r : Raw} {vs : List V}, RowsAt H ss r vs → RowsAt H' ss r vs
  | .done, _, h => h
  | .say _ _, _, ⟨a, vs', e, h1, h2⟩ => ⟨a, vs', e, s _ _ h1, h2.tk s⟩
  | .call _ _, _, ⟨a, q, vs', e, h1, h2, h3⟩ => ⟨a, q, vs', e, s _ _ h1, s _ _ h2, h3.tk s⟩
  | .make _ _, _, ⟨a, t, qs, bs, vs', e, h1, h2, h3, h4, h5⟩ => ⟨a, t, qs, bs, vs', e, s _ _ h1, s _ _ h2, h3.tk s, h4, h5.tk s⟩
  | .when_ _ _ _ _, _, ⟨a, t, us, vs', e, h1, h2, h3, h4⟩ => ⟨a, t, us, vs', e, s _ _ h1, s _ _ h2, h3.tk s, h4.tk s⟩
/-- one row, whatever follows -/
def RowIs (H : Hp) (ss : List Vakepa.Setting) (a : Addr) (f : Raw → Raw) : Prop := ∀ H', TupKeep H H' → ∀ (r : Raw) (vs : List V), RowsAt H' ss r vs → RowsAt H' ss (f r) (.ref a :: vs)
/-! ### the settings of the program that is read -/
def SetAt (K : PySem.W.Frag) (H : Hp) (a : Addr) (s : Vakepa.Setting) : Prop := ∃ (dx na wl : Addr) (was : List Addr), H a = some (.ins (He.ga K "Setting") dx (setF (.ref na) (.ref wl))) ∧ H na = some (.tup (nm s.name)) ∧ H wl = some (.lst (was.map V.ref)) ∧ NamesAt H was s.values
theorem SetAt.mono {K : PySem.W.Frag} {H H' : Hp} {a : Addr} {s : Vakepa.Setting} (m : Same H H') (h : SetAt K H a s) : SetAt K H' a s := by
  obtain ⟨dx, na, wl, was, h1, h2, h3, h4⟩ := h
  exact ⟨dx, na, wl, was, m _ _ h1, m _ _ h2, m _ _ h3, h4.mono m⟩
structure SS (K : PySem.W.Frag) (c : Rc) (U : List Addr) (H : Hp) (g : Addr) (ss : List Vakepa.Setting) : Prop where
  ex : ∃ (dx ls : Addr) (x y : V) (sas : List Addr), H g = some (.ins (He.ga K "Program") dx (pgF (.ref ls) x y)) ∧ H ls = some (.lst (sas.map V.ref)) ∧ Paired (SetAt K (off U H)) sas ss ∧ ls ≠ c.CL
  le : ss.length ≤ 3
theorem kp2 {a b x : Addr} (h1 : x ≠ a) (h2 : x ≠ b) : x ∉ [a, b] := by simp [h1, h2]
theorem ne_reader {K : PySem.W.Frag} {c : Rc} {U : List Addr} {H : Hp} {l : Toks} {ps : List PName} (a : At K c U H l ps) {x : Addr} {o : HO} (h : H x = some o) (n : ∀ dx t i cl, o ≠ .ins (He.ga K "Reader") dx (rdF t i cl)) : x ≠ c.R := by
  obtain ⟨dx, i, h1, _⟩ := a.rd
  exact ne_of h h1 (n _ _ _ _)
theorem ne_called {K : PySem.W.Frag} {c : Rc} {U : List Addr} {H : Hp} {l : Toks} {ps : List PName} (a : At K c U H l ps) {x : Addr} {o : HO} (h : H x = some o) (n : ∀ xs, o ≠ .lst xs) : x ≠ c.CL := by
  obtain ⟨vs, h1, _⟩ := a.cl
  exact ne_of h h1 (n _)
theorem ins_ne {C dx C' dx' : Addr} {k k' : Str} {v v' : V} {r r' : List (Str × V)} (h : (k == k') = false) : HO.ins C dx ((k, v) :: r) ≠ HO.ins C' dx' ((k', v') :: r') := fun z => by
  injection z with _ _ z
  injection z with z _
  injection z with z _
  rw [z, beq_self_eq_true] at h
  cases h
theorem SS.keep {K : PySem.W.Frag} {c : Rc} {U : List Addr} {H H' : Hp} {l : Toks} {ps : List PName} {g : Addr} {ss : List Vakepa.Setting} (h : SS K c U H g ss) (a : At K c U H l ps) (k : Keep [c.R, c.CL] H H') : SS K c U H' g ss := by
  obtain ⟨dx, ls, x, y, sas, h1, h2, h3, h4⟩ := h.ex
  have n1 : g ≠ c.R := ne_reader a h1 fun _ _ _ _ => ins_ne (by decide +kernel)
  have n2 : g ≠ c.CL := ne_called a h1 (fun _ z => by cases z)
  have n3 : ls ≠ c.R := ne_reader a h2 (fun _ _ _ _ z => by cases z)
  have s : Same (off U H) (off U H') := k.off (fun b hb => by
    simp only [List.mem_cons, List.not_mem_nil, or_false] at hb
    rcases hb with rfl | rfl
    · exact a.uR
    · exact a.uC)
  exact ⟨⟨dx, ls, x, y, sas, k _ _ (kp2 n1 n2) h1, k _ _ (kp2 n3 h4) h2, pimp h3 fun _ _ e => e.mono s, h4⟩, h.le⟩
theorem SS.same {K : PySem.W.Frag} {c : Rc} {U : List Addr} {H H' : Hp} {g : Addr} {ss : List Vakepa.Setting} (h : SS K c U H g ss) (s : Same H H') : SS K c U H' g ss := by
  obtain ⟨dx, ls, x, y, sas, h1, h2, h3, h4⟩ := h.ex
  exact ⟨⟨dx, ls, x, y, sas, s _ _ h1, s _ _ h2, pimp h3 fun _ _ e => e.mono (off_of_same s), h4⟩, h.le⟩
theorem SS.ext {K : PySem.W.Frag} {c : Rc} {U : List Addr} {H : Hp} {g p : Addr} {o : HO} {ss : List Vakepa.Setting} (h : SS K c U H g ss) (np : H p = none) : SS K c (p :: U) (upd H p o) g ss := by
  obtain ⟨dx, ls, x, y, sas, h1, h2, h3, h4⟩ := h.ex
  have s : Same H (upd H p o) := same_upd np
  have s2 : Same (off U H) (off (p :: U) (upd H p o)) := fun b u e => by
    obtain ⟨hb, e⟩ := off_some e
    refine off_get ?_ (s _ _ e)
    intro z
    rcases List.mem_cons.mp z with z | z
    · rw [z, np] at e; cases e
    · exact hb z
  exact ⟨⟨dx, ls, x, y, sas, s _ _ h1, s _ _ h2, pimp h3 fun _ _ e => e.mono s2, h4⟩, h.le⟩
theorem SS.cut {K : PySem.W.Frag} {c : Rc} {U : List Addr} {H : Hp} {g p : Addr} {ss : List Vakepa.Setting} (h : SS K c (p :: U) H g ss) : SS K c U H g ss := by
  obtain ⟨dx, ls, x, y, sas, h1, h2, h3, h4⟩ := h.ex
  exact ⟨⟨dx, ls, x, y, sas, h1, h2, pimp h3 fun _ _ e => e.mono off_cons, h4⟩, h.le⟩
/-- a list of U of one's own is written -/
theorem SS.own {K : PySem.W.Frag} {c : Rc} {U : List Addr} {H : Hp} {g p : Addr} {o : HO} {ss : List Vakepa.Setting} (h : SS K c U H g ss) (hp : p ∈ U) (n1 : p ≠ g) (n2 : ∀ dx ls x y, H g = some (.ins (He.ga K "Program") dx (pgF (.ref ls) x y)) → p ≠ ls) : SS K c U (upd H p o) g ss := by
  obtain ⟨dx, ls, x, y, sas, h1, h2, h3, h4⟩ := h.ex
  have s2 : Same (off U H) (off U (upd H p o)) := (keep_updM hp).off fun _ h => h
  exact ⟨⟨dx, ls, x, y, sas, by rw [upd_ne n1.symm]; exact h1, by rw [upd_ne (n2 _ _ _ _ h1).symm]; exact h2, pimp h3 fun _ _ e => e.mono s2, h4⟩, h.le⟩
/-! ### promises -/
def spTakeRow (K : PySem.W.Frag) (d : Nat) : Sp := fun vs H Q E => ∃ (c : Rc) (U : List Addr) (l : Toks) (ps : List PName) (g : Addr) (ss : List Vakepa.Setting) (n : Nat), vs = [.ref c.R, .ref g, .int (d : Nat)] ∧ At K c U H l ps ∧ SS K c U H g ss ∧ l.length ≤ n ∧ d ≤ 3 ∧
  Res K [c.R, c.CL] H E (oneStmt ss n d l) fun x => ∀ (H' : Hp) (a : Addr) (cs : List PName), At K c U H' x.2 (ps ++ cs) → (∀ r, calls (x.1 r) = cs ++ calls r) → RowIs H' ss a x.1 → Keep [c.R, c.CL] H H' → Q (.ref a) H'
def spTakeWhen (K : PySem.W.Frag) (d : Nat) : Sp := fun vs H Q E => ∃ (c : Rc) (U : List Addr) (t : PTok) (r : Toks) (ps : List PName) (g : Addr) (ss : List Vakepa.Setting) (n : Nat), vs = [.ref c.R, .ref g, .int (d : Nat)] ∧ At K c U H (t :: r) ps ∧ t.tok ≠ .last ∧ SS K c U H g ss ∧ r.length < n ∧ d ≤ 3 ∧
  Res K [c.R, c.CL] H E (whenRest ss n d (t :: r) r) fun x => ∀ (H' : Hp) (a : Addr) (cs : List PName), At K c U H' x.2 (ps ++ cs) → (∀ r, calls (x.1 r) = cs ++ calls r) → RowIs H' ss a x.1 → Keep [c.R, c.CL] H H' → Q (.ref a) H'
def spTakeRows (K : PySem.W.Frag) (d : Nat) : Sp := fun vs H Q E => ∃ (c : Rc) (U : List Addr) (l : Toks) (ps : List PName) (g : Addr) (ss : List Vakepa.Setting) (n : Nat), vs = [.ref c.R, .ref g, .int (d : Nat)] ∧ At K c U H l ps ∧ SS K c U H g ss ∧ l.length ≤ n ∧ d ≤ 3 ∧
  Res K [c.R, c.CL] H E ((takeSign 123 l).bind fun r => takeStmts ss n d r) fun x => ∀ (H' : Hp) (a : Addr) (vs' : List V), At K c U H' x.2 (ps ++ calls x.1) → H' a = some (.tup vs') → RowsAt H' ss x.1 vs' → Keep [c.R, c.CL] H H' → Q (.ref a) H'
theorem word_set : ∀ b : Bytes, b ∈ RESERVED → RESERVED.contains b = true := fun b h => List.contains_iff_mem.mpr h
section
variable {P : Program} {w : World} {K : PySem.W.Frag} {mg : Str → Option Value} {base : Heap}
theorem what_word {T : Txt K mg} {H : Hp} {q : Addr} {s : String} {l : List V} (h : SqT K H q l) (e : l = nm (word s)) (r : RESERVED.contains (word s) = true) : WhatIs K H 2 (.ref q) (.name (word s)) := .inr ⟨q, word s, rfl, rfl, e ▸ h, rfl, r⟩
theorem named_sets {H : Hp} : ∀ {sas : List Addr} {ss : List Vakepa.Setting}, Paired (SetAt K H) sas ss → NamedAt K "Setting" H sas (ss.map fun s => s.name)
  | _, _, .nil => .nil
  | _, _, .cons ⟨dx, na, wl, was, h1, h2, _⟩ r => .cons ⟨dx, na, _, h1, h2⟩ (named_sets r)
theorem NamedAt.mono {C : Str} {H H' : Hp} {as : List Addr} {bs : List Bytes} (s : Same H H') (h : NamedAt K C H as bs) : NamedAt K C H' as bs := pimp h fun _ _ ⟨dx, q, fs, h1, h2⟩ => ⟨dx, q, fs, s _ _ h1, s _ _ h2⟩
def N_take_when : List Str := ["reader", "program", "within", "setting", "word"]
theorem sc_take_when : FnScope N_take_when ["reader", "program", "within"] (defScope s_take_when) := ⟨rfl, rfl, rfl, by decide +kernel, rfl, by decide +kernel, by decide +kernel⟩
theorem ok_take_when (T : Txt K mg) {m d : Nat} (hm : 6 ≤ m) (G_take_rows : Ok P w K mg base m "take_rows" ["reader", "program", "within"] (spTakeRows K (d + 1))) : Ok P w K mg base (m + 1) "take_when" ["reader", "program", "within"] (spTakeWhen K d) := by
  have G_go_on : Ok P w K mg base 1 "go_on" ["reader"] (spGoOn K) := ok_go_on T
  have G_token : Ok P w K mg base 1 "token" ["reader"] (spToken K) := ok_token T
  have G_refuse : Ok P w K mg base 3 "refuse" ["is_wrong", "code", "place"] (spRefuse K) := ok_refuse T
  have G_take : Ok P w K mg base 4 "take" ["reader", "kind", "what"] (spTake K) := ok_take T
  have G_take_known : Ok P w K mg base 5 "take_known" ["reader", "known"] (spTakeKnown K) := ok_take_known T
  have G_setting_names : Ok P w K mg base 1 "setting_names" ["program"] (spSetNames K) := ok_setting_names T
  refine ok_mk T.d_take_when sc_take_when (fun vs H Q E h => ?_) (fun cdv A outer s H vs Q E hr h => ?_)
  · obtain ⟨c, U, t, r, ps, g, ss, n, rfl, _⟩ := h
    rfl
  · have hr_go_on : Room 1 _ := hr.mono (by omega)
    have hr_token : Room 1 _ := hr.mono (by omega)
    have hr_refuse : Room 3 _ := hr.mono (by omega)
    have hr_take : Room 4 _ := hr.mono (by omega)
    have hr_take_known : Room 5 _ := hr.mono (by omega)
    have hr_setting_names : Room 1 _ := hr.mono (by omega)
    have hr_take_rows : Room m _ := hr
    refine ⟨_, (pss_cons (ps_expr (pe_cX G_refuse hr_refuse outE (pa_cons (pe_cmpR op_ge (pv 2) (pe_gl (T.int "MOST_WITHIN_reading" 3)) (nomark _)) (pa_cons (pe_gl (T.int "TOO_MANY_reading" 4)) (pa_cons (pe_fld (pe_c G_token hr_token (pa_cons (pv 0) pa_nil)) rfl) pa_nil))))) (pss_cons (ps_expr (pe_c G_go_on hr_go_on (pa_cons (pv 0) pa_nil))) (pss_cons (ps_set (i := 3) sc_take_when.nd rfl (Or.inl rfl) (pe_cX G_take_known hr_take_known outE (pa_cons (pv 0) (pa_cons (pe_c G_setting_names hr_setting_names (pa_cons (pv 1) pa_nil)) pa_nil)))) (pss_cons (ps_expr (pe_cX G_take hr_take outE (pa_cons (pv 0) (pa_cons (pe_gl (T.int "WORD" 2)) (pa_cons (pe_gl (T.gV "IS")) pa_nil))))) (pss_cons (ps_set (i := 4) sc_take_when.nd rfl (Or.inl rfl) (pe_cX G_take_known hr_take_known outE (pa_cons (pv 0) (pa_cons (pe_fld (pe_ix ix_list (pe_fld (pv 1) rfl) (pv 3) (fun _ _ => rfl)) rfl) pa_nil)))) (pss_one (ps_ret (pe_tup (pa_cons (pe_gl (T.int "ASKS" 4)) (pa_cons (pv 3) (pa_cons (pv 4) (pa_cons (pe_cX G_take_rows hr_take_rows outE (pa_cons (pv 0) (pa_cons (pv 1) (pa_cons (pe_op op_add (pv 2) pe_int) pa_nil)))) pa_nil)))))))))))), ?_⟩
    obtain ⟨c, U, t, r, ps, g, ss, n, rfl, h, ht, hs, hn, hd, hR⟩ := h
    have k0 : ∀ b ∈ ([] : List Addr), b ∈ [c.R, c.CL] := fun b hb => by simp at hb
    unfold whenRest at hR
    refine ⟨_, rfl, _, _, rfl, rfl, _, rfl, c, U, _, ps, rfl, h, fun a t' r' el ⟨dx, v, h1, h2⟩ => ?_⟩
    cases el
    refine ⟨a, _, dx, _, _, rfl, (off_some h1).2, T.cls "Token", T.noat "Token" "place", tokF_place, _, ⟨4, t.place⟩, rfl, fun e => ?_, fun e => ?_⟩
    · have e2 : DEEP ≤ d := by
        have := of_decide_eq_true e
        unfold DEEP
        omega
      rw [if_pos e2] at hR
      exact FaultE.mono (M := []) hR (Keep.refl _ _) k0
    · have e2 : ¬ DEEP ≤ d := by
        have := of_decide_eq_false e
        unfold DEEP
        omega
      have hd3 : d + 1 ≤ 3 := by
        unfold DEEP at e2
        omega
      rw [if_neg e2] at hR
      refine ⟨_, rfl, c, U, t, r, ps, rfl, h, ht, fun H1 a1 k1 => ?_⟩
      have s1 := hs.keep h (k1.mono k12)
      have kk1 : Keep [c.R, c.CL] H H1 := k1.mono k12
      obtain ⟨dg, ls, x, y, sas, g1, g2, g3, g4⟩ := s1.ex
      have hlen := plen g3
      have hle := s1.le
      -- setting = take_known(reader, setting_names(program))
      refine ⟨_, rfl, _, rfl, g, dg, ls, x, y, sas, _, rfl, g1, g2, (named_sets g3).mono off_same, by omega, fun H2 p2 qs2 s2 np2 hp2 hq2 => ?_⟩
      have a2 := a1.same s2
      have k2 : Keep [c.R, c.CL] H H2 := kk1.trans (Keep.of_same s2)
      refine ⟨c, U, r, ps, p2, qs2, _, rfl, a2, (at_nR a1 np2).1, hp2, hq2, ?_⟩
      cases e3 : knownName (ss.map fun s => s.name) r with
      | error f =>
        rw [e3] at hR
        exact res_fault (M := [c.R, c.CL]) hR rfl k2 k12
      | ok x3 =>
        rw [e3] at hR
        have hR : Res K [c.R, c.CL] H E ((takeWord "is" x3.2).bind fun r => (knownName (((ss[x3.1]?).map fun s => s.values).getD []) r).bind fun v => ((takeSign 123 v.2).bind fun r => takeStmts ss n (d + 1) r).map fun b => (Raw.when_ x3.1 v.1 b.1, b.2)) _ := hR
        have l3 := knownName_len e3
        refine fun H3 a3 k3 => ?_
        have kk3 : Keep [c.R, c.CL] H H3 := k2.trans (k3.mono k12)
        -- take(reader, WORD, IS)
        refine ⟨_, rfl, c, U, _, ps, 2, _, _, rfl, a3, what_word (T := T) (s := "is") (T.t_IS H3) (by decide +kernel) (by decide +kernel), ?_⟩
        cases e4 : taken (.name (word "is")) x3.2 with
        | error f =>
          have e5 : takeWord "is" x3.2 = .error f := e4
          rw [e5] at hR
          exact res_fault (M := [c.R, c.CL]) hR rfl kk3 k12
        | ok r4 =>
          have e5 : takeWord "is" x3.2 = .ok r4 := e4
          rw [e5] at hR
          have l4 := taken_len e4
          refine fun H4 a4 k4 => ?_
          have kk4 : Keep [c.R, c.CL] H H4 := kk3.trans (k4.mono k12)
          have s4 := hs.keep h kk4
          obtain ⟨dg, ls, x, y, sas, g1, g2, g3, g4⟩ := s4.ex
          have hx3 : x3.1 < ss.length := by
            unfold knownName at e3
            obtain ⟨y3, e6, e7⟩ := bind_ok e3
            split at e7
            · cases e7
            · rename_i j hj
              cases e7
              have := (List.findIdx?_eq_some_iff_getElem.mp hj).1
              simpa using this
          obtain ⟨sa, hsa, dS, na, wl, was, hS, hna, hwl, hwas⟩ := Paired_get g3 (List.getElem?_eq_getElem hx3)
          have hR : Res K [c.R, c.CL] H E ((knownName (((ss[x3.1]?).map fun s => s.values).getD []) r4).bind fun v => ((takeSign 123 v.2).bind fun r => takeStmts ss n (d + 1) r).map fun b => (Raw.when_ x3.1 v.1 b.1, b.2)) _ := hR
          rw [List.getElem?_eq_getElem hx3] at hR
          -- word = take_known(reader, program.settings[setting].words)
          refine ⟨_, rfl, _, rfl, g, _, dg, _, _, rfl, g1, T.cls "Program", T.noat "Program" "settings", pgF_settings, _, rfl, ls, _, _, _, rfl, rfl, SqL.of g2, atI_nat (by rw [List.getElem?_map, hsa]; rfl), sa, _, dS, _, _, rfl, (off_some hS).2, T.cls "Setting", T.noat "Setting" "words", setF_words, ?_⟩
          refine ⟨c, U, r4, ps, wl, was, ss[x3.1].values, rfl, a4, ne_reader a4 (off_some hwl).2 (fun _ _ _ _ z => by cases z), (off_some hwl).2, hwas.mono off_same, ?_⟩
          have hR : Res K [c.R, c.CL] H E ((knownName ss[x3.1].values r4).bind fun v => ((takeSign 123 v.2).bind fun r => takeStmts ss n (d + 1) r).map fun b => (Raw.when_ x3.1 v.1 b.1, b.2)) _ := hR
          cases e6 : knownName ss[x3.1].values r4 with
          | error f =>
            rw [e6] at hR
            exact res_fault (M := [c.R, c.CL]) hR rfl kk4 k12
          | ok x6 =>
            rw [e6] at hR
            have l6 := knownName_len e6
            have hR : Res K [c.R, c.CL] H E (((takeSign 123 x6.2).bind fun r => takeStmts ss n (d + 1) r).map fun b => (Raw.when_ x3.1 x6.1 b.1, b.2)) _ := hR
            refine fun H6 a6 k6 => ?_
            have kk6 : Keep [c.R, c.CL] H H6 := kk4.trans (k6.mono k12)
            refine ⟨_, rfl, _, rfl, _, rfl, _, rfl, _, rfl, _, _, rfl, rfl, c, U, x6.2, ps, g, ss, n, rfl, a6, hs.keep h kk6, by omega, hd3, ?_⟩
            cases e8 : (takeSign 123 x6.2).bind (fun r => takeStmts ss n (d + 1) r) with
            | error f =>
              rw [e8] at hR
              exact res_fault (M := [c.R, c.CL]) hR rfl kk6 fun _ h => h
            | ok b =>
              rw [e8] at hR
              refine fun H7 a7 vs' b7 ha7 hrows k7 => ⟨(by show 4 ≤ sizeLine; decide), fun p np => ?_⟩
              have s8 : Same H7 (upd H7 p (.tup [.int 4, .int (x3.1 : Nat), .int (x6.1 : Nat), .ref a7])) := same_upd np
              refine hR _ p (calls b.1) (b7.same s8) (fun r => rfl) (fun H9 t9 r9 vs9 h9 => ?_) ((kk6.trans k7).trans (Keep.of_same s8))
              exact ⟨p, a7, vs', vs9, rfl, t9 _ _ upd_same, t9 _ _ (s8 _ _ ha7), (hrows.tk (TupKeep.of_same s8)).tk t9, h9⟩
def N_take_row : List Str := ["reader", "program", "within"]
theorem sc_take_row : FnScope N_take_row ["reader", "program", "within"] (defScope s_take_row) := ⟨rfl, rfl, rfl, by decide +kernel, rfl, by decide +kernel, by decide +kernel⟩
theorem ok_take_row (T : Txt K mg) {m d : Nat} (hm : 6 ≤ m) (G_take_when : Ok P w K mg base m "take_when" ["reader", "program", "within"] (spTakeWhen K d)) : Ok P w K mg base (m + 1) "take_row" ["reader", "program", "within"] (spTakeRow K d) := by
  have G_is_next : Ok P w K mg base 2 "is_next" ["reader", "kind", "what"] (spIsNext K) := ok_is_next T
  have G_token : Ok P w K mg base 1 "token" ["reader"] (spToken K) := ok_token T
  have G_refuse : Ok P w K mg base 3 "refuse" ["is_wrong", "code", "place"] (spRefuse K) := ok_refuse T
  have G_take_say : Ok P w K mg base 5 "take_say" ["reader"] (spTakeSay K) := ok_take_say T
  have G_take_call : Ok P w K mg base 5 "take_call" ["reader"] (spTakeCall K) := ok_take_call T
  have G_take_make : Ok P w K mg base 6 "take_make" ["reader"] (spTakeMake K) := ok_take_make T
  refine ok_mk T.d_take_row sc_take_row (fun vs H Q E h => ?_) (fun cdv A outer s H vs Q E hr h => ?_)
  · obtain ⟨c, U, l, ps, g, ss, n, rfl, _⟩ := h
    rfl
  · have hr_is_next : Room 2 _ := hr.mono (by omega)
    have hr_token : Room 1 _ := hr.mono (by omega)
    have hr_refuse : Room 3 _ := hr.mono (by omega)
    have hr_take_say : Room 5 _ := hr.mono (by omega)
    have hr_take_call : Room 5 _ := hr.mono (by omega)
    have hr_take_make : Room 6 _ := hr.mono hm
    have hr_take_when : Room m _ := hr
    refine ⟨_, (pss_cons (ps_if (pt_val (pe_c G_is_next hr_is_next (pa_cons (pv 0) (pa_cons (pe_gl (T.int "WORD" 2)) (pa_cons (pe_gl (T.gV "SAY")) pa_nil))))) (pss_one (ps_ret (pe_cX G_take_say hr_take_say outE (pa_cons (pv 0) pa_nil)))) pss_nil) (pss_cons (ps_if (pt_val (pe_c G_is_next hr_is_next (pa_cons (pv 0) (pa_cons (pe_gl (T.int "WORD" 2)) (pa_cons (pe_gl (T.gV "CALL")) pa_nil))))) (pss_one (ps_ret (pe_cX G_take_call hr_take_call outE (pa_cons (pv 0) pa_nil)))) pss_nil) (pss_cons (ps_if (pt_val (pe_c G_is_next hr_is_next (pa_cons (pv 0) (pa_cons (pe_gl (T.int "WORD" 2)) (pa_cons (pe_gl (T.gV "MAKE")) pa_nil))))) (pss_one (ps_ret (pe_cX G_take_make hr_take_make outE (pa_cons (pv 0) pa_nil)))) pss_nil) (pss_cons (ps_expr (pe_cX G_refuse hr_refuse outE (pa_cons (pe_not (pe_c G_is_next hr_is_next (pa_cons (pv 0) (pa_cons (pe_gl (T.int "WORD" 2)) (pa_cons (pe_gl (T.gV "WHEN")) pa_nil))))) (pa_cons (pe_gl (T.int "NOT_ALLOWED" 3)) (pa_cons (pe_fld (pe_c G_token hr_token (pa_cons (pv 0) pa_nil)) rfl) pa_nil))))) (pss_one (ps_ret (pe_cX G_take_when hr_take_when outE (pa_cons (pv 0) (pa_cons (pv 1) (pa_cons (pv 2) pa_nil)))))))))), ?_⟩
    obtain ⟨c, U, l, ps, g, ss, n, rfl, h, hs, hn, hd, hR⟩ := h
    have k0 : ∀ b ∈ ([] : List Addr), b ∈ [c.R, c.CL] := fun b hb => by simp at hb
    unfold oneStmt at hR
    refine ⟨_, rfl, c, U, l, ps, 2, _, _, rfl, h, what_word (T := T) (s := "say") (T.t_SAY H) (by decide +kernel) (by decide +kernel), _, rfl, if_both (fun e => ?_) fun e => ?_⟩
    · have e' : nextWord "say" l = true := e
      rw [if_pos e'] at hR
      obtain ⟨t, r, rfl, ht⟩ := next_tok e (fun z => by cases z)
      refine ⟨_, rfl, c, U, t, r, ps, rfl, h, ht, ?_⟩
      have hR : Res K [c.R, c.CL] H E (((takeNat SIZE r).bind fun k => (takeSign 59 k.2).map fun m => (k.1, m)).map fun x => (Raw.say x.1, x.2)) _ := hR
      cases e2 : (takeNat SIZE r).bind fun k => (takeSign 59 k.2).map fun m => (k.1, m) with
      | error f =>
        rw [e2] at hR
        exact res_fault (M := [c.R, c.CL]) hR rfl (Keep.refl _ _) k12
      | ok x =>
        rw [e2] at hR
        refine fun H1 a a1 k1 ha => hR H1 a [] (by rw [List.append_nil]; exact a1) (fun r => rfl) (fun H2 t2 r2 vs2 h2 => ⟨a, vs2, rfl, t2 _ _ ha, h2⟩) (k1.mono k12)
    have e' : nextWord "say" l ≠ true := by intro z; have z : next (.name (word "say")) l = true := z; rw [e] at z; cases z
    rw [if_neg e'] at hR
    refine ⟨_, rfl, c, U, l, ps, 2, _, _, rfl, h, what_word (T := T) (s := "call") (T.t_CALL H) (by decide +kernel) (by decide +kernel), _, rfl, if_both (fun e => ?_) fun e => ?_⟩
    · have e' : nextWord "call" l = true := e
      rw [if_pos e'] at hR
      obtain ⟨t, r, rfl, ht⟩ := next_tok e (fun z => by cases z)
      refine ⟨_, rfl, c, U, t, r, ps, rfl, h, ht, ?_⟩
      have hR : Res K [c.R, c.CL] H E (((takeName r).bind fun p => (takeSign 59 p.2).map fun m => (p.1, m)).map fun x => (Raw.call x.1, x.2)) _ := hR
      cases e2 : (takeName r).bind fun p => (takeSign 59 p.2).map fun m => (p.1, m) with
      | error f =>
        rw [e2] at hR
        exact res_fault (M := [c.R, c.CL]) hR rfl (Keep.refl _ _) fun _ h => h
      | ok x =>
        rw [e2] at hR
        refine fun H1 a q a1 k1 ha hq => hR H1 a [x.1] a1 (fun r => rfl) (fun H2 t2 r2 vs2 h2 => ⟨a, q, vs2, rfl, t2 _ _ ha, t2 _ _ hq, h2⟩) k1
    have e' : nextWord "call" l ≠ true := by intro z; have z : next (.name (word "call")) l = true := z; rw [e] at z; cases z
    rw [if_neg e'] at hR
    refine ⟨_, rfl, c, U, l, ps, 2, _, _, rfl, h, what_word (T := T) (s := "make") (T.t_MAKE H) (by decide +kernel) (by decide +kernel), _, rfl, if_both (fun e => ?_) fun e => ?_⟩
    · have e' : nextWord "make" l = true := e
      rw [if_pos e'] at hR
      obtain ⟨t, r, rfl, ht⟩ := next_tok e (fun z => by cases z)
      refine ⟨_, rfl, c, U, t, r, ps, (t :: r).length + 1, rfl, h, ht, by rw [List.length_cons]; omega, ?_⟩
      have hR : Res K [c.R, c.CL] H E ((takeNamesP ((t :: r).length + 1) [] r).map fun x => (Raw.make (x.1.map (pieceOf ss)), x.2)) _ := hR
      cases e2 : takeNamesP ((t :: r).length + 1) [] r with
      | error f =>
        rw [e2] at hR
        exact res_fault (M := [c.R, c.CL]) hR rfl (Keep.refl _ _) k12
      | ok x =>
        rw [e2] at hR
        refine fun H1 a ta qs a1 k1 ha hta hq => hR H1 a [] (by rw [List.append_nil]; exact a1) (fun r => rfl) (fun H2 t2 r2 vs2 h2 => ⟨a, ta, qs, x.1, vs2, rfl, t2 _ _ ha, t2 _ _ hta, hq.tk t2, rfl, h2⟩) (k1.mono k12)
    have e' : nextWord "make" l ≠ true := by intro z; have z : next (.name (word "make")) l = true := z; rw [e] at z; cases z
    rw [if_neg e'] at hR
    obtain ⟨t, r, rfl⟩ := at_head h
    refine ⟨_, rfl, c, U, _, ps, 2, _, _, rfl, h, what_word (T := T) (s := "when") (T.t_WHEN H) (by decide +kernel) (by decide +kernel), _, rfl, _, rfl, c, U, _, ps, rfl, h, fun a t' r' el ⟨dx, v, h1, h2⟩ => ?_⟩
    cases el
    refine ⟨a, _, dx, _, _, rfl, (off_some h1).2, T.cls "Token", T.noat "Token" "place", tokF_place, _, ⟨3, t.place⟩, rfl, fun e => ?_, fun e => ?_⟩
    · have e : next (.name (word "when")) (t :: r) = false := by simpa using e
      have e2 : takeWord "when" (t :: r) = .error ⟨3, t.place⟩ := by
        show (if next (.name (word "when")) (t :: r) = true then _ else _) = _
        rw [if_neg (by rw [e]; exact Bool.false_ne_true)]
        rfl
      rw [e2] at hR
      exact FaultE.mono (M := []) hR (Keep.refl _ _) k0
    · have e : next (.name (word "when")) (t :: r) = true := by simpa using e
      have e2 : takeWord "when" (t :: r) = .ok r := by
        show (if next (.name (word "when")) (t :: r) = true then _ else _) = _
        rw [if_pos e]
        rfl
      rw [e2] at hR
      obtain ⟨t2, r2, el, ht⟩ := next_tok e (fun z => by cases z)
      cases el
      refine ⟨_, rfl, _, rfl, _, rfl, c, U, t, r, ps, g, ss, n, rfl, h, ht, hs, by rw [List.length_cons] at hn; omega, hd, hR⟩
end
end PP

set_option Elab.async false
set_option linter.all false
set_option maxRecDepth 100000
set_option maxHeartbeats 4000000
namespace PP
open PySem PySem.Spec PyProof.Rows L2
open VakepBase (Bytes Fault PTok Toks PName RESERVED word next nextWord taken wrong here takeName takeSign takeWord)
open Vakepa (Raw Piece takeNat takeStmts pieceOf SIZE DEEP)
section
variable {P : Program} {w : World} {K : PySem.W.Frag} {mg : Str → Option Value} {base : Heap}
def N_take_rows : List Str := ["reader", "program", "within", "found"]
theorem sc_take_rows : FnScope N_take_rows ["reader", "program", "within"] (defScope s_take_rows) := ⟨rfl, rfl, rfl, by decide +kernel, rfl, by decide +kernel, by decide +kernel⟩
theorem ok_take_rows_step (T : Txt K mg) {m d : Nat} (hm : 6 ≤ m) (G_take_row : Ok P w K mg base m "take_row" ["reader", "program", "within"] (spTakeRow K d)) : Ok P w K mg base (m + 1) "take_rows" ["reader", "program", "within"] (spTakeRows K d) := by
  have G_is_next : Ok P w K mg base 2 "is_next" ["reader", "kind", "what"] (spIsNext K) := ok_is_next T
  have G_take : Ok P w K mg base 4 "take" ["reader", "kind", "what"] (spTake K) := ok_take T
  have G_go_on : Ok P w K mg base 1 "go_on" ["reader"] (spGoOn K) := ok_go_on T
  refine ok_mk T.d_take_rows sc_take_rows (fun vs H Q E h => ?_) (fun cdv A outer s H vs Q E hr h => ?_)
  · obtain ⟨c, U, l, ps, g, ss, n, rfl, _⟩ := h
    rfl
  · have hr_is_next : Room 2 _ := hr.mono (by omega)
    have hr_take : Room 4 _ := hr.mono (by omega)
    have hr_go_on : Room 1 _ := hr.mono (by omega)
    have hr_take_row : Room m _ := hr
    refine ⟨_, (pss_cons (ps_expr (pe_cX G_take hr_take outE (pa_cons (pv 0) (pa_cons (pe_gl (T.int "SIGN" 4)) (pa_cons (pe_gl (T.int "OPENS" 123)) pa_nil))))) (pss_cons (ps_set (i := 3) sc_take_rows.nd rfl (Or.inl rfl) (pe_lst pa_nil)) (pss_cons (ps_while (passes_of rfl) (pt_not (pt_val (pe_c G_is_next hr_is_next (pa_cons (pv 0) (pa_cons (pe_gl (T.int "SIGN" 4)) (pa_cons (pe_gl (T.int "CLOSES" 125)) pa_nil)))))) (pss_one (ps_expr (pe_bm PySem.F.plainAttrs_list PySem.F.slot_list_append PySem.F.type_list_append mt_append (pv 3) (pa_cons (pe_cX G_take_row hr_take_row outE (pa_cons (pv 0) (pa_cons (pv 1) (pa_cons (pv 2) pa_nil)))) pa_nil))))) (pss_cons (ps_expr (pe_c G_go_on hr_go_on (pa_cons (pv 0) pa_nil))) (pss_one (ps_ret (pe_callTy call_tuple_of (by rfl) (T.free "tuple") (by decide +kernel) (pa_cons (pv 3) pa_nil)))))))), ?_⟩
    obtain ⟨c, U, l, ps, g, ss, n, rfl, h, hs, hn, hd, hR⟩ := h
    refine ⟨_, rfl, c, U, l, ps, 4, _, .sign 123, rfl, h, .inl ⟨123, rfl, rfl, rfl⟩, ?_⟩
    cases e0 : taken (.sign 123) l with
    | error f =>
      have e1 : takeSign 123 l = .error f := e0
      rw [e1] at hR
      exact res_fault (M := [c.R, c.CL]) hR rfl (Keep.refl _ _) k12
    | ok r =>
      have e1 : takeSign 123 l = .ok r := e0
      rw [e1] at hR
      have hR : Res K [c.R, c.CL] H E (takeStmts ss n d r) _ := hR
      have l0 := taken_len e0
      refine fun H1 a1 k1 => ⟨Nat.zero_le _, fun fl nfl => ?_⟩
      have kk1 : Keep [c.R, c.CL] H H1 := k1.mono k12
      obtain ⟨nR, nC⟩ := at_nR a1 nfl
      have nfl0 : H fl = none := by
        cases e : H fl with
        | none => rfl
        | some o =>
          have := kk1 _ _ (kp2 nR nC) e
          rw [nfl] at this
          cases this
      have fresh : ∀ {H' : Hp}, Keep [c.R, c.CL, fl] H H' → Keep [c.R, c.CL] H H' := fun k => Keep.fresh (M := [c.R, c.CL]) (N := [fl]) k (fun b hb => by rw [List.mem_singleton.mp hb]; exact nfl0)
      have k3of : ∀ {Ha Hb : Hp}, Keep [c.R, c.CL] Ha Hb → Keep [c.R, c.CL, fl] Ha Hb := fun k => k.mono (fun b hb => by
        simp only [List.mem_cons, List.not_mem_nil, or_false] at hb ⊢
        rcases hb with rfl | rfl
        · exact .inl rfl
        · exact .inr (.inl rfl))
      have b1 : At K c (fl :: U) (upd H1 fl (.lst [])) r ps := a1.ext nfl
      have s1 : SS K c (fl :: U) (upd H1 fl (.lst [])) g ss := (hs.keep h kk1).ext nfl
      let W : Nat → L2.St → Hp → Prop := fun m σ H' => ∃ (l' : Toks) (ps' : List PName) (vs : List V) (comb : Raw → Raw), σ = [some (.ref c.R), some (.ref g), some (.int (d : Nat)), some (.ref fl)] ∧ At K c (fl :: U) H' l' ps' ∧ SS K c (fl :: U) H' g ss ∧ Keep [c.R, c.CL, fl] H H' ∧
        H' fl = some (.lst vs) ∧ l'.length < m ∧ vs.length + l'.length ≤ 5000 ∧ takeStmts ss n d r = (takeStmts ss m d l').map (fun y => (comb y.1, y.2)) ∧ (∀ r, ps ++ calls (comb r) = ps' ++ calls r) ∧ ∀ H'', TupKeep H' H'' → ∀ r vs', RowsAt H'' ss r vs' → RowsAt H'' ss (comb r) (vs ++ vs')
      refine ⟨W, ⟨n, r, ps, [], id, rfl, b1, s1, (k3of kk1).trans (keep_updM (by simp)), upd_same, by omega, ?_, ?_, fun r => rfl, fun H'' _ r vs' h => h⟩, ?_⟩
      · have := a1.bd
        show 0 + _ ≤ _
        omega
      · cases takeStmts ss n d r <;> rfl
      · rintro m' σ H2 ⟨l', ps', vs, comb, rfl, b2, s2, k2, hfl, hlt, hbd, hst, hps, hrows⟩
        obtain ⟨m', rfl⟩ : ∃ k, m' = k + 1 := ⟨m' - 1, by omega⟩
        rw [stmts_succ] at hst
        refine ⟨_, rfl, c, fl :: U, l', ps', 4, _, .sign 125, rfl, b2, .inl ⟨125, rfl, rfl, rfl⟩, _, rfl, if_both (fun e' => ?_) fun e' => ?_⟩
        rotate_left
        · have e : next (.sign 125) l' = true := by simpa using e'
          rw [if_pos e] at hst
          have hst : takeStmts ss n d r = .ok (comb .done, l'.drop 1) := hst
          rw [hst] at hR
          obtain ⟨t, r5, rfl, ht⟩ := next_tok (show next (.sign 125) l' = true by assumption) (fun z => by cases z)
          refine ⟨_, rfl, c, fl :: U, t, r5, ps', rfl, b2, ht, fun H3 b3 k3 => ?_⟩
          have hfl3 : H3 fl = some (.lst vs) := k3 _ _ (by simpa using nR) hfl
          refine ⟨_, rfl, fl, _, rfl, .inl ⟨SqL.of hfl3, fun ta nta => ?_⟩⟩
          have s5 : Same H3 (upd H3 ta (.tup vs)) := same_upd nta
          have ep := hps .done
          simp only [calls, List.append_nil] at ep
          refine hR _ ta vs ?_ upd_same ?_ (fresh ((k2.trans (k3of (k3.mono k12))).trans (Keep.of_same s5)))
          · rw [ep]
            exact (b3.same s5).cut h.uR h.uC
          · have q := hrows (upd H3 ta (.tup vs)) ((tkR b2 (k3.mono k12)).trans (TupKeep.of_same s5)) .done [] rfl
            rw [List.append_nil] at q
            exact q
        · have e : next (.sign 125) l' = false := by simpa using e'
          rw [if_neg (by rw [e]; exact Bool.false_ne_true)] at hst
          refine ⟨fun σ' H' => ∃ m'', m'' < m' + 1 ∧ W m'' σ' H', fun _ _ h => h, _, rfl, .inl ⟨rfl, _, SqL.of hfl⟩, _, rfl, _, rfl, _, rfl, c, fl :: U, l', ps', g, ss, m', rfl, b2, s2, by omega, hd, ?_⟩
          cases e2 : oneStmt ss m' d l' with
          | error f =>
            rw [e2] at hst
            have hst : takeStmts ss n d r = .error f := hst
            rw [hst] at hR
            exact FaultE.mono (M := [c.R, c.CL]) (M' := [c.R, c.CL, fl]) (fun d H' k e => hR d H' (fresh k) e) k2 (fun b hb => by
              simp only [List.mem_cons, List.not_mem_nil, or_false] at hb ⊢
              rcases hb with rfl | rfl
              · exact .inl rfl
              · exact .inr (.inl rfl))
          | ok x =>
            rw [e2] at hst
            have hst : takeStmts ss n d r = ((takeStmts ss m' d x.2).map fun y => (x.1 y.1, y.2)).map (fun y => (comb y.1, y.2)) := hst
            have l2 := one_len ss m' d l' x e2
            refine fun H3 a cs b3 hcs hrow k3 => ?_
            have hfl3 : H3 fl = some (.lst vs) := k3 _ _ (kp2 nR nC) hfl
            have ku : Keep [fl] H3 (upd H3 fl (.lst (vs ++ [.ref a]))) := keep_upd
            have tk3 : TupKeep H2 H3 := tkR b2 k3
            have tku : TupKeep H3 (upd H3 fl (.lst (vs ++ [.ref a]))) := TupKeep.upd hfl3 (fun xs z => by cases z)
            have s3 : SS K c (fl :: U) H3 g ss := s2.keep b2 k3
            refine ⟨fl, vs, _, rfl, rfl, hfl3, Nat.lt_of_le_of_lt (show vs.length ≤ 5000 by omega) (by decide), m', Nat.lt_succ_self _, x.2, ps' ++ cs, vs ++ [.ref a], fun r => comb (x.1 r), rfl, ?_, ?_, (k2.trans (k3of k3)).trans (keep_updM (by simp)), upd_same, by omega, ?_, ?_, fun r => ?_, fun H'' t r vs' h => ?_⟩
            · exact b3.keep ku (fun q hq => by rw [List.mem_singleton.mp hq]; exact List.mem_cons_self) (fun q hq => by
                rw [List.mem_singleton.mp hq, upd_same]
                exact fun z => by cases z) (by simpa using nR.symm) (by simpa using nC.symm)
            · obtain ⟨dg, ls, x', y', sas, g1, g2, g3, g4⟩ := hs.ex
              have n1 : g ≠ c.R := ne_reader h g1 fun _ _ _ _ => ins_ne (by decide +kernel)
              have n2 : g ≠ c.CL := ne_called h g1 (fun _ z => by cases z)
              have n3 : g ≠ fl := ne_of_none g1 nfl0
              have kk3 := k2.trans (k3of k3)
              have g5 := kk3 _ _ (by simp [n1, n2, n3]) g1
              refine s3.own List.mem_cons_self n3.symm fun dx2 ls2 x2 y2 e => ?_
              rw [g5] at e
              have e := Option.some.inj e
              injection e with _ _ e
              injection e with e _
              injection e with _ e
              injection e with e
              rw [← e]
              exact (ne_of_none g2 nfl0).symm
            · rw [List.length_append]
              show vs.length + 1 + _ ≤ _
              omega
            · rw [hst, map_map]
            · rw [hps, hcs, List.append_assoc]
            · rw [List.append_assoc]
              exact hrows H'' ((tk3.trans tku).trans t) _ _ (hrow H'' (tku.trans t) r vs' h)
end
end PP

set_option Elab.async false
set_option linter.all false
set_option maxRecDepth 100000
set_option maxHeartbeats 4000000
namespace PP
open PySem PySem.Spec PyProof.Rows L2
open VakepBase (Bytes Fault PTok Toks PName RESERVED word next nextWord taken wrong here takeName takeSign takeWord)
open Vakepa (Raw RawPart Piece takeNat takeStmts pieceOf SIZE DEEP takeValues takeSets takeParts SETS VALUES PARTS)
/-! ### plain: settings one by one -/
theorem values_succ (n : Nat) (vs : List Bytes) (l : Toks) : takeValues (n + 1) vs l = (newName (some 4) 5 vs l).bind fun x => if next (.sign 44) x.2 = true then takeValues n (vs ++ [x.1.name]) (x.2.drop 1) else (takeSign 59 x.2).map fun m => (vs ++ [x.1.name], m) := by
  rw [takeValues]
  unfold newName
  rw [bind_bind]
  refine bind_ext fun x _ => ?_
  by_cases h : VALUES ≤ vs.length
  · rw [if_pos h]
    have e : ((some 4 : Option Nat).any fun m => decide (m ≤ vs.length)) = true := decide_eq_true h
    rw [if_pos e]
    rfl
  · rw [if_neg h]
    have e : ¬ ((some 4 : Option Nat).any fun m => decide (m ≤ vs.length)) = true := fun z => h (of_decide_eq_true z)
    rw [if_neg e]
    by_cases h2 : vs.contains x.1.name = true
    · rw [if_pos h2, if_pos h2]
      rfl
    · rw [if_neg h2, if_neg h2]
      rfl
def oneSet (ss : List Vakepa.Setting) (l : Toks) : Except Fault (Vakepa.Setting × Toks) :=
  (takeWordN ss.length 3 (word "set") l).bind fun r0 => (newName none 5 (ss.map fun s => s.name) r0).bind fun x => (takeSign 58 x.2).bind fun r => (takeValues (r.length + 1) [] r).map fun v => (⟨x.1.name, v.1⟩, v.2)
theorem any_names (ss : List Vakepa.Setting) (b : Bytes) : ss.any (fun s => s.name == b) = (ss.map fun s => s.name).contains b := by
  rw [List.contains_eq_any_beq, List.any_map]
  congr 1
  funext s
  exact BEq.comm
theorem sets_succ (n : Nat) (ss : List Vakepa.Setting) (l : Toks) : takeSets (n + 1) ss l = if nextWord "set" l = true then (oneSet ss l).bind fun v => takeSets n (ss ++ [v.1]) v.2 else .ok (ss, l) := by
  rw [takeSets]
  by_cases h : nextWord "set" l = true
  · rw [if_pos h, if_pos h]
    unfold oneSet takeWordN
    by_cases h2 : SETS ≤ ss.length
    · rw [if_pos h2, if_pos (show 3 ≤ ss.length from h2)]
      rfl
    · rw [if_neg h2, if_neg (show ¬ 3 ≤ ss.length from h2)]
      have e : taken (.name (word "set")) l = .ok (l.drop 1) := if_pos h
      rw [e]
      show _ = ((newName none 5 (ss.map fun s => s.name) (l.drop 1)).bind _).bind _
      unfold newName
      rw [bind_bind, bind_bind]
      refine bind_ext fun x _ => ?_
      rw [any_names]
      have e2 : ¬ ((none : Option Nat).any fun m => decide (m ≤ (ss.map fun s => s.name).length)) = true := fun z => by cases z
      rw [if_neg e2]
      by_cases h3 : (ss.map fun s => s.name).contains x.1.name = true
      · rw [if_pos h3, if_pos h3]
        rfl
      · rw [if_neg h3, if_neg h3]
        show _ = ((takeSign 58 x.2).bind _).bind _
        rw [bind_bind]
        refine bind_ext fun r _ => ?_
        rw [map_bind]
  · rw [if_neg h, if_neg h]
theorem newName_len {o : Option Nat} {cd : Nat} {bs : List Bytes} {l : Toks} {x : PName × Toks} (h : newName o cd bs l = .ok x) : x.2.length < l.length := by
  unfold newName at h
  obtain ⟨y, h1, h2⟩ := bind_ok h
  split at h2
  · cases h2
  · split at h2
    · cases h2
    · cases h2
      exact takeName_len h1
theorem values_len : ∀ {n : Nat} {vs : List Bytes} {l : Toks} {x : List Bytes × Toks}, takeValues n vs l = .ok x → x.2.length < l.length
  | 0, _, _, _, h => by cases h
  | n + 1, vs, l, x, h => by
    rw [values_succ] at h
    obtain ⟨y, h1, h2⟩ := bind_ok h
    have l1 := newName_len h1
    split at h2
    · have l2 := values_len h2
      rw [List.length_drop] at l2
      omega
    · obtain ⟨m, h3, rfl⟩ := map_ok h2
      have l2 := taken_len h3
      show m.length < _
      omega
theorem takeWordN_len {n m : Nat} {b : Bytes} {l r : Toks} (h : takeWordN n m b l = .ok r) : r.length < l.length := by
  unfold takeWordN at h
  split at h
  · cases h
  · exact taken_len h
theorem oneSet_len {ss : List Vakepa.Setting} {l : Toks} {x : Vakepa.Setting × Toks} (h : oneSet ss l = .ok x) : x.2.length < l.length := by
  unfold oneSet at h
  obtain ⟨r0, h1, h2⟩ := bind_ok h
  obtain ⟨y, h3, h4⟩ := bind_ok h2
  obtain ⟨r, h5, h6⟩ := bind_ok h4
  obtain ⟨v, h7, rfl⟩ := map_ok h6
  have l1 := takeWordN_len h1
  have l2 := newName_len h3
  have l3 := taken_len h5
  have l4 := values_len h7
  show v.2.length < _
  omega
/-! ### the program that is read -/
def PartAt (K : PySem.W.Frag) (ss : List Vakepa.Setting) (H : Hp) (a : Addr) (p : RawPart) : Prop := ∃ (dx na ra : Addr) (vs : List V), H a = some (.ins (He.ga K "Part") dx (partF (.ref na) (.int (p.size : Nat)) (.ref ra))) ∧ H na = some (.tup (nm p.name)) ∧ H ra = some (.tup vs) ∧ RowsAt H ss p.body vs
theorem PartAt.mono {K : PySem.W.Frag} {ss : List Vakepa.Setting} {H H' : Hp} {a : Addr} {p : RawPart} (m : Same H H') (h : PartAt K ss H a p) : PartAt K ss H' a p := by
  obtain ⟨dx, na, ra, vs, h1, h2, h3, h4⟩ := h
  exact ⟨dx, na, ra, vs, m _ _ h1, m _ _ h2, m _ _ h3, h4.tk (TupKeep.of_same m)⟩
structure Pc where
  P : Addr
  ls : Addr
  lp : Addr
  le : Addr
structure PgA (K : PySem.W.Frag) (c : Rc) (U : List Addr) (H : Hp) (g : Pc) (ss : List Vakepa.Setting) (rs : List RawPart) (es : List Nat) : Prop where
  pg : ∃ dx, H g.P = some (.ins (He.ga K "Program") dx (pgF (.ref g.ls) (.ref g.lp) (.ref g.le)))
  sl : ∃ sas, H g.ls = some (.lst (sas.map V.ref)) ∧ Paired (SetAt K (off U H)) sas ss
  pl : ∃ pas, H g.lp = some (.lst (pas.map V.ref)) ∧ Paired (PartAt K ss (off U H)) pas rs
  el : H g.le = some (.lst (es.map fun e => V.int (e : Nat)))
  u1 : g.P ∈ U
  u2 : g.ls ∈ U
  u3 : g.lp ∈ U
  u4 : g.le ∈ U
  n1 : g.ls ≠ g.lp
  n2 : g.ls ≠ g.le
  n3 : g.lp ≠ g.le
  c1 : g.ls ≠ c.CL
  c2 : g.lp ≠ c.CL
  c3 : g.le ≠ c.CL
  s3 : ss.length ≤ 3
  p10 : rs.length ≤ 10
  e4 : es.length ≤ 4
  nd : (rs.map fun r => r.name).Nodup
  eb : ∀ e ∈ es, e < rs.length
  sn : es.Nodup
section
variable {K : PySem.W.Frag} {c : Rc} {U : List Addr} {H H' : Hp} {g : Pc} {ss : List Vakepa.Setting} {rs : List RawPart} {es : List Nat} {l : Toks} {ps : List PName}
theorem PgA.keepM {M : List Addr} (h : PgA K c U H g ss rs es) (k : Keep M H H') (hM : ∀ m ∈ M, m ∈ U) (m1 : g.P ∉ M) (m2 : g.ls ∉ M) (m3 : g.lp ∉ M) (m4 : g.le ∉ M) : PgA K c U H' g ss rs es := by
  obtain ⟨dx, h1⟩ := h.pg
  obtain ⟨sas, h2, h3⟩ := h.sl
  obtain ⟨pas, h4, h5⟩ := h.pl
  have s := k.off hM
  exact { h with pg := ⟨dx, k _ _ m1 h1⟩, sl := ⟨sas, k _ _ m2 h2, pimp h3 fun _ _ e => e.mono s⟩, pl := ⟨pas, k _ _ m3 h4, pimp h5 fun _ _ e => e.mono s⟩, el := k _ _ m4 h.el }
theorem PgA.ne (h : PgA K c U H g ss rs es) (a : At K c U H l ps) : g.P ≠ c.R ∧ g.P ≠ c.CL ∧ g.ls ≠ c.R ∧ g.lp ≠ c.R ∧ g.le ≠ c.R := by
  obtain ⟨dx, h1⟩ := h.pg
  obtain ⟨sas, h2, h3⟩ := h.sl
  obtain ⟨pas, h4, h5⟩ := h.pl
  exact ⟨ne_reader a h1 fun _ _ _ _ => ins_ne (by decide +kernel), ne_called a h1 (fun _ z => by cases z), ne_reader a h2 (fun _ _ _ _ z => by cases z), ne_reader a h4 (fun _ _ _ _ z => by cases z), ne_reader a h.el (fun _ _ _ _ z => by cases z)⟩
theorem PgA.keep (h : PgA K c U H g ss rs es) (a : At K c U H l ps) (k : Keep [c.R, c.CL] H H') : PgA K c U H' g ss rs es := by
  obtain ⟨n1, n2, n3, n4, n5⟩ := h.ne a
  exact h.keepM k (fun b hb => by
    simp only [List.mem_cons, List.not_mem_nil, or_false] at hb
    rcases hb with rfl | rfl
    · exact a.uR
    · exact a.uC) (kp2 n1 n2) (kp2 n3 h.c1) (kp2 n4 h.c2) (kp2 n5 h.c3)
theorem PgA.same (h : PgA K c U H g ss rs es) (s : Same H H') : PgA K c U H' g ss rs es := h.keepM (M := []) (Keep.of_same s) (fun _ h => by simp at h) (by simp) (by simp) (by simp) (by simp)
theorem PgA.ext {p : Addr} {o : HO} (h : PgA K c U H g ss rs es) (np : H p = none) : PgA K c (p :: U) (upd H p o) g ss rs es := by
  obtain ⟨dx, h1⟩ := h.pg
  obtain ⟨sas, h2, h3⟩ := h.sl
  obtain ⟨pas, h4, h5⟩ := h.pl
  have s : Same H (upd H p o) := same_upd np
  have s2 : Same (off U H) (off (p :: U) (upd H p o)) := fun b u e => by
    obtain ⟨hb, e⟩ := off_some e
    refine off_get ?_ (s _ _ e)
    intro z
    rcases List.mem_cons.mp z with z | z
    · rw [z, np] at e; cases e
    · exact hb z
  exact { h with pg := ⟨dx, s _ _ h1⟩, sl := ⟨sas, s _ _ h2, pimp h3 fun _ _ e => e.mono s2⟩, pl := ⟨pas, s _ _ h4, pimp h5 fun _ _ e => e.mono s2⟩, el := s _ _ h.el, u1 := List.mem_cons_of_mem _ h.u1, u2 := List.mem_cons_of_mem _ h.u2, u3 := List.mem_cons_of_mem _ h.u3, u4 := List.mem_cons_of_mem _ h.u4 }
theorem PgA.cut {p : Addr} {H0 : Hp} (h0 : PgA K c U H0 g ss rs es) {ss' : List Vakepa.Setting} {rs' : List RawPart} {es' : List Nat} (h : PgA K c (p :: U) H g ss' rs' es') : PgA K c U H g ss' rs' es' := by
  obtain ⟨sas, h2, h3⟩ := h.sl
  obtain ⟨pas, h4, h5⟩ := h.pl
  exact { h with sl := ⟨sas, h2, pimp h3 fun _ _ e => e.mono off_cons⟩, pl := ⟨pas, h4, pimp h5 fun _ _ e => e.mono off_cons⟩, u1 := h0.u1, u2 := h0.u2, u3 := h0.u3, u4 := h0.u4 }
theorem PgA.toSS (h : PgA K c U H g ss rs es) : SS K c U H g.P ss := by
  obtain ⟨dx, h1⟩ := h.pg
  obtain ⟨sas, h2, h3⟩ := h.sl
  exact ⟨⟨dx, g.ls, _, _, sas, h1, h2, h3, h.c1⟩, h.s3⟩
theorem named_parts : ∀ {pas : List Addr} {rs : List RawPart} {H : Hp}, Paired (PartAt K ss H) pas rs → NamedAt K "Part" H pas (rs.map fun s => s.name)
  | _, _, _, .nil => .nil
  | _, _, _, .cons ⟨dx, na, ra, vs, h1, h2, _⟩ r => .cons ⟨dx, na, _, h1, h2⟩ (named_parts r)
end
/-! ### promises -/
def spSetI (K : PySem.W.Frag) : Sp := fun vs H Q _ => ∃ (p dx : Addr) (n : V), vs = [.ref p, n] ∧ H p = some (.ins (He.ga K "Setting") dx []) ∧ ∀ (H' : Hp) (wl : Addr), Keep [p] H H' → H wl = none → H' p = some (.ins (He.ga K "Setting") dx (setF n (.ref wl))) → H' wl = some (.lst []) → Q .non H'
def spTakeSetting (K : PySem.W.Frag) : Sp := fun vs H Q E => ∃ (c : Rc) (U : List Addr) (l : Toks) (ps : List PName) (g : Pc) (ss : List Vakepa.Setting) (es : List Nat), vs = [.ref c.R, .ref g.P] ∧ At K c U H l ps ∧ PgA K c U H g ss [] es ∧
  Res K [c.R, g.ls] H E (oneSet ss l) fun x => ∀ H', At K c U H' x.2 ps → PgA K c U H' g (ss ++ [x.1]) [] es → Keep [c.R, g.ls] H H' → Q .non H'
theorem setF_new {n w : V} : putF "words" w (putF "name" n []) = setF n w := by
  rw [show putF "name" n [] = [(("name" : Str), n)] from rfl, put_past (by decide +kernel)]
  rfl
section
variable {P : Program} {w : World} {K : PySem.W.Frag} {mg : Str → Option Value} {base : Heap}
def N_Setting_init : List Str := ["self", "name"]
theorem sc_Setting_init : FnScope N_Setting_init ["self", "name"] (defScope s_Setting_init) := ⟨rfl, rfl, rfl, by decide +kernel, rfl, by decide +kernel, by decide +kernel⟩
theorem ok_Setting_init (T : Txt K mg) : OkI P w K mg base 1 "Setting" ["self", "name"] (spSetI K) := by
  refine okI_mk T.i_Setting sc_Setting_init (fun vs H Q E h => ?_) (fun qual cdv A outer s H vs Q E hr h => ⟨_, (pss_cons (ps_fld (pv 0) (pv 1) rfl) (pss_one (ps_fld (pv 0) (pe_lst pa_nil) rfl))), ?_⟩)
  · obtain ⟨p, dx, n, rfl, _⟩ := h
    rfl
  · obtain ⟨p, dx, n, rfl, hp, q⟩ := h
    refine ⟨_, rfl, _, rfl, p, _, dx, [], rfl, hp, T.cls "Setting", T.noat "Setting" "name", (by show 0 < 1000; decide), Nat.zero_le _, fun wl nwl => ?_⟩
    have ne : wl ≠ p := (ne_of_none upd_same nwl).symm
    refine ⟨_, rfl, p, _, dx, _, rfl, (upd_ne ne.symm).trans upd_same, T.cls "Setting", T.noat "Setting" "words", (by show 1 < 1000; decide), ?_⟩
    rw [setF_new]
    refine q _ wl (fun b o hb e => ?_) (by rw [upd_ne ne] at nwl; exact nwl) upd_same (by rw [upd_ne ne]; exact upd_same)
    rw [List.mem_singleton] at hb
    have nb : b ≠ wl := by
      rw [upd_ne ne] at nwl
      exact ne_of_none e nwl
    rw [upd_ne hb, upd_ne nb, upd_ne hb]
    exact e
theorem ok_take_rows4 (T : Txt K mg) : Ok P w K mg base 6 "take_rows" ["reader", "program", "within"] (spTakeRows K 4) := by
  refine ok_mk (k := 5) T.d_take_rows sc_take_rows (fun vs H Q E h => ?_) (fun cdv A outer s H vs Q E hr h => ?_)
  · obtain ⟨c, U, l, ps, g, ss, n, _, _, _, _, z, _⟩ := h
    omega
  · obtain ⟨c, U, l, ps, g, ss, n, _, _, _, _, z, _⟩ := h
    omega
theorem ok_take_rows (T : Txt K mg) : Ok P w K mg base 18 "take_rows" ["reader", "program", "within"] (spTakeRows K 0) := by
  have step : ∀ {m d : Nat}, 6 ≤ m → Ok P w K mg base m "take_rows" ["reader", "program", "within"] (spTakeRows K (d + 1)) → Ok P w K mg base (m + 3) "take_rows" ["reader", "program", "within"] (spTakeRows K d) := fun {m d} hm h =>
    ok_take_rows_step T (show 6 ≤ m + 2 by omega) (ok_take_row T (show 6 ≤ m + 1 by omega) (ok_take_when T hm h))
  exact step (m := 15) (by decide) (step (m := 12) (by decide) (step (m := 9) (by decide) (step (m := 6) (by decide) (ok_take_rows4 T))))
end
end PP

set_option Elab.async false
set_option linter.all false
set_option maxRecDepth 100000
set_option maxHeartbeats 4000000
namespace PP
open PySem PySem.Spec PyProof.Rows L2
open VakepBase (Bytes Fault PTok Toks PName RESERVED word next nextWord taken wrong here takeName takeSign takeWord)
open Vakepa (Raw RawPart Piece takeNat takeStmts pieceOf SIZE DEEP takeValues takeSets takeParts SETS VALUES PARTS)
theorem sq_word {K : PySem.W.Frag} {H : Hp} {q : Addr} {l : List V} {b : Bytes} (h : SqT K H q l) (e : l = nm b) : SqT K H q (nm b) := e ▸ h
section
variable {K : PySem.W.Frag} {c : Rc} {U : List Addr} {H H' : Hp} {g : Pc} {ss : List Vakepa.Setting} {rs : List RawPart} {es : List Nat} {l : Toks} {ps : List PName}
theorem off_ext {p : Addr} (np : H p = none) (s : Same H H') : Same (off U H) (off (p :: U) H') := fun b u e => by
  obtain ⟨hb, e⟩ := off_some e
  refine off_get ?_ (s _ _ e)
  intro z
  rcases List.mem_cons.mp z with z | z
  · rw [z, np] at e; cases e
  · exact hb z
theorem At.ext' {p : Addr} (h : At K c U H l ps) (np : H p = none) (s : Same H H') (hp : H' p ≠ none) : At K c (p :: U) H' l ps := by
  have s2 : Same (off U H) (off (p :: U) H') := off_ext np s
  obtain ⟨dx, i, h1, h2⟩ := h.rd
  obtain ⟨vs, h3, h4⟩ := h.cl
  refine ⟨⟨dx, i, s _ _ h1, h2⟩, s2 _ _ h.tl, pimp h.tk fun _ _ t => t.mono s2, ⟨vs, s _ _ h3, h4.mono s2⟩, h.el, List.mem_cons_of_mem _ h.uR, List.mem_cons_of_mem _ h.uC, fun u hu => ?_, h.bd⟩
  rcases List.mem_cons.mp hu with z | z
  · rw [z]
    exact hp
  · exact live_same h.lv s u z
theorem PgA.ext' {p : Addr} (h : PgA K c U H g ss rs es) (np : H p = none) (s : Same H H') : PgA K c (p :: U) H' g ss rs es := by
  obtain ⟨dx, h1⟩ := h.pg
  obtain ⟨sas, h2, h3⟩ := h.sl
  obtain ⟨pas, h4, h5⟩ := h.pl
  have s2 : Same (off U H) (off (p :: U) H') := off_ext np s
  exact { h with pg := ⟨dx, s _ _ h1⟩, sl := ⟨sas, s _ _ h2, pimp h3 fun _ _ e => e.mono s2⟩, pl := ⟨pas, s _ _ h4, pimp h5 fun _ _ e => e.mono s2⟩, el := s _ _ h.el, u1 := List.mem_cons_of_mem _ h.u1, u2 := List.mem_cons_of_mem _ h.u2, u3 := List.mem_cons_of_mem _ h.u3, u4 := List.mem_cons_of_mem _ h.u4 }
/-- the addresses that matter stand in the heap -/
theorem PgA.free {p : Addr} (h : PgA K c U H g ss rs es) (np : H p = none) : p ≠ g.P ∧ p ≠ g.ls ∧ p ≠ g.lp ∧ p ≠ g.le := by
  obtain ⟨dx, h1⟩ := h.pg
  obtain ⟨sas, h2, h3⟩ := h.sl
  obtain ⟨pas, h4, h5⟩ := h.pl
  exact ⟨(ne_of_none h1 np).symm, (ne_of_none h2 np).symm, (ne_of_none h4 np).symm, (ne_of_none h.el np).symm⟩
end
section
variable {P : Program} {w : World} {K : PySem.W.Frag} {mg : Str → Option Value} {base : Heap}
def N_take_setting : List Str := ["reader", "program", "setting"]
theorem sc_take_setting : FnScope N_take_setting ["reader", "program"] (defScope s_take_setting) := ⟨rfl, rfl, rfl, by decide +kernel, rfl, by decide +kernel, by decide +kernel⟩
theorem ok_take_setting (T : Txt K mg) : Ok P w K mg base 6 "take_setting" ["reader", "program"] (spTakeSetting K) := by
  have G_go_on : Ok P w K mg base 1 "go_on" ["reader"] (spGoOn K) := ok_go_on T
  have G_is_next : Ok P w K mg base 2 "is_next" ["reader", "kind", "what"] (spIsNext K) := ok_is_next T
  have G_take : Ok P w K mg base 4 "take" ["reader", "kind", "what"] (spTake K) := ok_take T
  have G_take_word : Ok P w K mg base 5 "take_word" ["reader", "rows", "most", "word"] (spTakeWord K) := ok_take_word T
  have G_take_new : Ok P w K mg base 5 "take_new" ["reader", "known", "most", "code"] (spTakeNew K) := ok_take_new T
  have G_setting_names : Ok P w K mg base 1 "setting_names" ["program"] (spSetNames K) := ok_setting_names T
  have G_Setting_init : OkI P w K mg base 1 "Setting" ["self", "name"] (spSetI K) := ok_Setting_init T
  refine ok_mk T.d_take_setting sc_take_setting (fun vs H Q E h => ?_) (fun cdv A outer s H vs Q E hr h => ?_)
  · obtain ⟨c, U, l, ps, g, ss, es, rfl, _⟩ := h
    rfl
  · have hr_go_on : Room 1 _ := hr.mono (by decide)
    have hr_is_next : Room 2 _ := hr.mono (by decide)
    have hr_take : Room 4 _ := hr.mono (by decide)
    have hr_take_word : Room 5 _ := hr
    have hr_take_new : Room 5 _ := hr
    have hr_setting_names : Room 1 _ := hr.mono (by decide)
    have hr_Setting : Room (1 + 1) _ := hr.mono (by decide)
    refine ⟨_, (pss_cons (ps_expr (pe_cX G_take_word hr_take_word outE (pa_cons (pv 0) (pa_cons (pe_fld (pv 1) rfl) (pa_cons (pe_gl (T.int "MOST_SETTINGS" 3)) (pa_cons (pe_gl (T.gV "SET")) pa_nil)))))) (pss_cons (ps_set (i := 2) sc_take_setting.nd rfl (Or.inl rfl) (pe_mkI (T.mkr "Setting") G_Setting_init hr_Setting (T.g "Setting") (pa_cons (pe_cX G_take_new hr_take_new outE (pa_cons (pv 0) (pa_cons (pe_c G_setting_names hr_setting_names (pa_cons (pv 1) pa_nil)) (pa_cons pe_non (pa_cons (pe_gl (T.int "NAMED" 5)) pa_nil))))) pa_nil))) (pss_cons (ps_expr (pe_cX G_take hr_take outE (pa_cons (pv 0) (pa_cons (pe_gl (T.int "SIGN" 4)) (pa_cons (pe_gl (T.int "COLON" 58)) pa_nil))))) (pss_cons (ps_expr (pe_bm PySem.F.plainAttrs_list PySem.F.slot_list_append PySem.F.type_list_append mt_append (pe_fld (pv 2) rfl) (pa_cons (pe_cX G_take_new hr_take_new outE (pa_cons (pv 0) (pa_cons (pe_fld (pv 2) rfl) (pa_cons (pe_gl (T.int "MOST_WORDS" 4)) (pa_cons (pe_gl (T.int "NAMED" 5)) pa_nil))))) pa_nil))) (pss_cons (ps_while (passes_of rfl) (pt_val (pe_c G_is_next hr_is_next (pa_cons (pv 0) (pa_cons (pe_gl (T.int "SIGN" 4)) (pa_cons (pe_gl (T.int "COMMA" 44)) pa_nil))))) (pss_cons (ps_expr (pe_c G_go_on hr_go_on (pa_cons (pv 0) pa_nil))) (pss_one (ps_expr (pe_bm PySem.F.plainAttrs_list PySem.F.slot_list_append PySem.F.type_list_append mt_append (pe_fld (pv 2) rfl) (pa_cons (pe_cX G_take_new hr_take_new outE (pa_cons (pv 0) (pa_cons (pe_fld (pv 2) rfl) (pa_cons (pe_gl (T.int "MOST_WORDS" 4)) (pa_cons (pe_gl (T.int "NAMED" 5)) pa_nil))))) pa_nil)))))) (pss_cons (ps_expr (pe_cX G_take hr_take outE (pa_cons (pv 0) (pa_cons (pe_gl (T.int "SIGN" 4)) (pa_cons (pe_gl (T.int "ENDS" 59)) pa_nil))))) (pss_one (ps_expr (pe_bm PySem.F.plainAttrs_list PySem.F.slot_list_append PySem.F.type_list_append mt_append (pe_fld (pv 1) rfl) (pa_cons (pv 2) pa_nil)))))))))), ?_⟩
    obtain ⟨c, U, l, ps, g, ss, es, rfl, h, hg, hR⟩ := h
    obtain ⟨dg, g1⟩ := hg.pg
    obtain ⟨sas, g2, g3⟩ := hg.sl
    obtain ⟨m1, m2, m3, m4, m5⟩ := hg.ne h
    unfold oneSet at hR
    -- take_word(reader, program.settings, MOST_SETTINGS, SET)
    refine ⟨_, rfl, _, rfl, g.P, _, dg, _, _, rfl, g1, T.cls "Program", T.noat "Program" "settings", pgF_settings, c, U, l, ps, g.ls, _, 3, _, word "set", rfl, h, g2, sq_word (T.t_SET H) (by decide +kernel), by decide +kernel, ?_⟩
    rw [List.length_map, plen g3]
    cases e0 : takeWordN ss.length 3 (word "set") l with
    | error f =>
      rw [e0] at hR
      exact res_fault (M := [c.R, g.ls]) hR rfl (Keep.refl _ _) k12
    | ok r0 =>
      rw [e0] at hR
      have hR : Res K [c.R, g.ls] H E ((newName none 5 (ss.map fun s => s.name) r0).bind fun x => (takeSign 58 x.2).bind fun r => (takeValues (r.length + 1) [] r).map fun v => ((⟨x.1.name, v.1⟩ : Vakepa.Setting), v.2)) _ := hR
      have hs3 : ss.length + 1 ≤ 3 := by
        unfold takeWordN at e0
        split at e0
        · cases e0
        · omega
      refine fun H1 a1 k1 => ?_
      have kk1 : Keep [c.R, c.CL] H H1 := k1.mono k12
      have p1 := hg.keep h kk1
      obtain ⟨dg, g1⟩ := p1.pg
      obtain ⟨sas, g2, g3⟩ := p1.sl
      have g4 := p1.s3
      -- setting = Setting(take_new(reader, setting_names(program), None, NAMED))
      refine ⟨_, rfl, _, rfl, g.P, dg, g.ls, _, _, sas, _, rfl, g1, g2, (named_sets g3).mono off_same, by have := plen g3; omega, fun H2 p2 qs2 s2 np2 hp2 hq2 => ?_⟩
      have a2 := a1.same s2
      refine ⟨c, U, r0, ps, p2, qs2, _, none, 5, rfl, a2, (at_nR a1 np2).1, hp2, hq2, ?_⟩
      cases e3 : newName none 5 (ss.map fun s => s.name) r0 with
      | error f =>
        rw [e3] at hR
        exact res_fault (M := [c.R, g.ls]) hR rfl ((k1.mono k12).trans (Keep.of_same s2)) k12
      | ok x3 =>
        rw [e3] at hR
        have hR : Res K [c.R, g.ls] H E ((takeSign 58 x3.2).bind fun r => (takeValues (r.length + 1) [] r).map fun v => ((⟨x3.1.name, v.1⟩ : Vakepa.Setting), v.2)) _ := hR
        refine fun H3 q3 a3 k3 hq3 x dx nx ndx nex => ⟨x, dx, _, rfl, upd_same, fun H4 wl k4 nwl hx4 hwl4 => ⟨rfl, ?_⟩⟩
        have kk3 : Keep [c.R] H H3 := (k1.trans (Keep.of_same s2)).trans k3
        have p3 : PgA K c U H3 g ss [] es := (p1.same s2).keep a2 (k3.mono k12)
        have n3 : Same H3 (upd (upd H3 dx (.own x)) x (.ins (He.ga K "Setting") dx [])) := new2 nx ndx
        have s4 : Same H3 H4 := fun b o e => k4 b o (by
          rw [List.mem_singleton]
          exact ne_of_none e nx) (n3 _ _ e)
        have nwl3 : H3 wl = none := by
          cases e : H3 wl with
          | none => rfl
          | some o =>
            have z := (n3 _ _ e).symm.trans nwl
            cases z
        have nwlx : wl ≠ x := fun z => by
          rw [z, upd_same] at nwl
          cases nwl
        have a4 : At K c (wl :: U) H4 x3.2 ps := a3.ext' nwl3 s4 (by rw [hwl4]; exact fun z => by cases z)
        have p4 : PgA K c (wl :: U) H4 g ss [] es := p3.ext' nwl3 s4
        obtain ⟨nR, nC⟩ := at_nR a3 nwl3
        obtain ⟨w1, w2, w3, w4⟩ := p3.free nwl3
        have nxU : x ∉ wl :: U := fun z => by
          rcases List.mem_cons.mp z with z | z
          · exact nwlx z.symm
          · exact new_off a3.lv nx z
        have hx4o : off (wl :: U) H4 x = some (.ins (He.ga K "Setting") dx (setF (.ref q3) (.ref wl))) := off_get nxU hx4
        have hq4o : off (wl :: U) H4 q3 = some (.tup (nm x3.1.name)) := off_ext nwl3 s4 _ _ hq3
        have nwl0 : H wl = none := by
          cases e : H wl with
          | none => rfl
          | some o =>
            have := kk3 _ _ (by simpa using nR) e
            rw [nwl3] at this
            cases this
        have drop : ∀ {H' : Hp}, Keep [c.R, wl] H H' → Keep [c.R] H H' := fun k => Keep.fresh (M := [c.R]) (N := [wl]) k (fun b hb => by rw [List.mem_singleton.mp hb]; exact nwl0)
        have err : ∀ {H' : Hp} {f : Fault}, Keep [c.R, wl] H H' → FaultE K [c.R, g.ls] H E f → FaultE K [c.R] H' E f := fun k hf d H' k' e => hf d H' (((drop (k.trans (k'.mono k12)))).mono k12) e
        have k40 : Keep [c.R, wl] H H4 := (kk3.mono k12).trans (Keep.of_same s4)
        -- take(reader, SIGN, COLON)
        refine ⟨_, rfl, c, wl :: U, _, ps, 4, _, .sign 58, rfl, a4, .inl ⟨58, rfl, rfl, rfl⟩, ?_⟩
        cases e4 : taken (.sign 58) x3.2 with
        | error f =>
          have e5 : takeSign 58 x3.2 = .error f := e4
          rw [e5] at hR
          exact err k40 hR
        | ok r4 =>
          have e5 : takeSign 58 x3.2 = .ok r4 := e4
          rw [e5] at hR
          have hR : Res K [c.R, g.ls] H E ((takeValues (r4.length + 1) [] r4).map fun v => ((⟨x3.1.name, v.1⟩ : Vakepa.Setting), v.2)) _ := hR
          refine fun H5 a5 k5 => ?_
          have p5 := p4.keep a4 (k5.mono k12)
          have wlU : c.R ∈ wl :: U := List.mem_cons_of_mem _ h.uR
          have so5 : Same (off (wl :: U) H4) (off (wl :: U) H5) := k5.off (fun b hb => by rw [List.mem_singleton.mp hb]; exact wlU)
          have hx5o := so5 _ _ hx4o
          have hq5o := so5 _ _ hq4o
          have hwl5 : H5 wl = some (.lst []) := k5 _ _ (by simpa using nR) hwl4
          have k50 : Keep [c.R, wl] H H5 := k40.trans (k5.mono k12)
          rw [values_succ] at hR
          refine ⟨_, rfl, x, _, dx, _, _, rfl, (off_some hx5o).2, T.cls "Setting", T.noat "Setting" "words", setF_words, .inl ⟨rfl, _, SqL.of hwl5⟩, _, rfl, _, rfl, x, _, dx, _, _, rfl, (off_some hx5o).2, T.cls "Setting", T.noat "Setting" "words", setF_words, c, wl :: U, r4, ps, wl, [], [], some 4, 5, rfl, a5, nR, hwl5, .nil, ?_⟩
          have hR : Res K [c.R, g.ls] H E (((newName (some 4) 5 [] r4).bind fun x => if next (.sign 44) x.2 = true then takeValues r4.length ([] ++ [x.1.name]) (x.2.drop 1) else (takeSign 59 x.2).map fun m => ([] ++ [x.1.name], m)).map fun v => ((⟨x3.1.name, v.1⟩ : Vakepa.Setting), v.2)) _ := hR
          cases e6 : newName (some 4) 5 [] r4 with
          | error f =>
            rw [e6] at hR
            exact err k50 hR
          | ok x6 =>
            rw [e6] at hR
            have l6 := newName_len e6
            refine fun H6 q6 a6 k6 hq6 => ?_
            have hwl6 : H6 wl = some (.lst []) := k6 _ _ (by simpa using nR) hwl5
            have so6 : Same (off (wl :: U) H5) (off (wl :: U) H6) := k6.off (fun b hb => by rw [List.mem_singleton.mp hb]; exact wlU)
            have p6 := p5.keep a5 (k6.mono k12)
            have ku : Keep [wl] H6 (upd H6 wl (.lst ([] ++ [.ref q6]))) := keep_upd
            have sou : Same (off (wl :: U) H6) (off (wl :: U) (upd H6 wl (.lst ([] ++ [.ref q6])))) := ku.off (fun b hb => by rw [List.mem_singleton.mp hb]; exact List.mem_cons_self)
            refine ⟨wl, _, _, rfl, rfl, hwl6, (by decide : 0 < sizeLine), ?_⟩
            let W : Nat → L2.St → Hp → Prop := fun m σ H' => ∃ (l : Toks) (was : List Addr) (vals : List Bytes), σ = [some (.ref c.R), some (.ref g.P), some (.ref x)] ∧ At K c (wl :: U) H' l ps ∧ PgA K c (wl :: U) H' g ss [] es ∧ Keep [c.R, wl] H H' ∧ off (wl :: U) H' x = some (.ins (He.ga K "Setting") dx (setF (.ref q3) (.ref wl))) ∧
              off (wl :: U) H' q3 = some (.tup (nm x3.1.name)) ∧ H' wl = some (.lst (was.map V.ref)) ∧ NamesAt (off (wl :: U) H') was vals ∧ l.length < m ∧
              Res K [c.R, g.ls] H E ((if next (.sign 44) l = true then takeValues m vals (l.drop 1) else (takeSign 59 l).map fun m => (vals, m)).map fun v => ((⟨x3.1.name, v.1⟩ : Vakepa.Setting), v.2)) fun x => ∀ H', At K c U H' x.2 ps → PgA K c U H' g (ss ++ [x.1]) [] es → Keep [c.R, g.ls] H H' → Q .non H'
            have keepw : ∀ {Ha Hb : Hp}, At K c (wl :: U) Ha x6.2 ps → True := fun _ => trivial
            refine ⟨W, ⟨r4.length, x6.2, [q6], [x6.1.name], rfl, a6.keep ku (fun m hm => by rw [List.mem_singleton.mp hm]; exact List.mem_cons_self) (fun m hm => by
              rw [List.mem_singleton.mp hm, upd_same]
              exact fun z => by cases z) (by simpa using nR.symm) (by simpa using nC.symm), p6.keepM ku (fun m hm => by rw [List.mem_singleton.mp hm]; exact List.mem_cons_self) (by simpa using w1.symm) (by simpa using w2.symm) (by simpa using w3.symm) (by simpa using w4.symm), (k50.trans (k6.mono k12)).trans (keep_updM (by simp)), sou _ _ (so6 _ _ hx5o), sou _ _ (so6 _ _ hq5o), upd_same, .cons (sou _ _ hq6) .nil, l6, hR⟩, ?_⟩
            rintro m σ H7 ⟨l, was, vals, rfl, a7, p7, k7, hx7, hq7, hwl7, hn7, hlt, hR7⟩
            refine ⟨_, rfl, c, wl :: U, l, ps, 4, _, .sign 44, rfl, a7, .inl ⟨44, rfl, rfl, rfl⟩, _, rfl, if_both (fun e => ?_) fun e => ?_⟩
            · rw [if_pos e] at hR7
              obtain ⟨t, r, rfl, htl⟩ := next_tok e (fun z => by cases z)
              obtain ⟨m, rfl⟩ : ∃ k, m = k + 1 := ⟨m - 1, by omega⟩
              refine ⟨fun σ' H' => ∃ m', m' < m + 1 ∧ W m' σ' H', fun _ _ h => h, _, rfl, c, wl :: U, t, r, ps, rfl, a7, htl, fun H8 a8 k8 => ?_⟩
              have so8 : Same (off (wl :: U) H7) (off (wl :: U) H8) := k8.off (fun b hb => by rw [List.mem_singleton.mp hb]; exact wlU)
              have p8 := p7.keep a7 (k8.mono k12)
              have hwl8 : H8 wl = some (.lst (was.map V.ref)) := k8 _ _ (by simpa using nR) hwl7
              have hx8 := so8 _ _ hx7
              have kk8 : Keep [c.R, wl] H H8 := k7.trans (k8.mono k12)
              have hR8 : Res K [c.R, g.ls] H E ((takeValues (m + 1) vals r).map fun v => ((⟨x3.1.name, v.1⟩ : Vakepa.Setting), v.2)) _ := hR7
              rw [values_succ] at hR8
              refine ⟨_, rfl, x, _, dx, _, _, rfl, (off_some hx8).2, T.cls "Setting", T.noat "Setting" "words", setF_words, .inl ⟨rfl, _, SqL.of hwl8⟩, _, rfl, _, rfl, x, _, dx, _, _, rfl, (off_some hx8).2, T.cls "Setting", T.noat "Setting" "words", setF_words, c, wl :: U, r, ps, wl, was, vals, some 4, 5, rfl, a8, nR, hwl8, (pimp hn7 fun _ _ e => (off_some (so8 _ _ e)).2), ?_⟩
              cases e9 : newName (some 4) 5 vals r with
              | error f =>
                rw [e9] at hR8
                exact err kk8 hR8
              | ok x9 =>
                rw [e9] at hR8
                have l9 := newName_len e9
                have hv4 : vals.length < 4 := by
                  unfold newName at e9
                  obtain ⟨y, _, h2⟩ := bind_ok e9
                  split at h2
                  · cases h2
                  · rename_i z
                    have z : ¬ decide (4 ≤ vals.length) = true := z
                    have := of_decide_eq_false (by simpa using z : decide (4 ≤ vals.length) = false)
                    omega
                refine fun H9 q9 a9 k9 hq9 => ?_
                have hwl9 : H9 wl = some (.lst (was.map V.ref)) := k9 _ _ (by simpa using nR) hwl8
                have so9 : Same (off (wl :: U) H8) (off (wl :: U) H9) := k9.off (fun b hb => by rw [List.mem_singleton.mp hb]; exact wlU)
                have p9 := p8.keep a8 (k9.mono k12)
                have ku : Keep [wl] H9 (upd H9 wl (.lst (was.map V.ref ++ [.ref q9]))) := keep_upd
                have sou : Same (off (wl :: U) H9) (off (wl :: U) (upd H9 wl (.lst (was.map V.ref ++ [.ref q9])))) := ku.off (fun b hb => by rw [List.mem_singleton.mp hb]; exact List.mem_cons_self)
                refine ⟨wl, _, _, rfl, rfl, hwl9, ?_, m, Nat.lt_succ_self _, x9.2, was ++ [q9], vals ++ [x9.1.name], rfl, a9.keep ku (fun m hm => by rw [List.mem_singleton.mp hm]; exact List.mem_cons_self) (fun m hm => by
                  rw [List.mem_singleton.mp hm, upd_same]
                  exact fun z => by cases z) (by simpa using nR.symm) (by simpa using nC.symm), p9.keepM ku (fun m hm => by rw [List.mem_singleton.mp hm]; exact List.mem_cons_self) (by simpa using w1.symm) (by simpa using w2.symm) (by simpa using w3.symm) (by simpa using w4.symm), (kk8.trans (k9.mono k12)).trans (keep_updM (by simp)), sou _ _ (so9 _ _ hx8), sou _ _ (so9 _ _ (so8 _ _ hq7)), ?_, psnoc (pimp hn7 fun _ _ e => sou _ _ (so9 _ _ (so8 _ _ e))) (sou _ _ hq9), ?_, hR8⟩
                · rw [List.length_map, plen hn7]
                  exact Nat.lt_of_lt_of_le hv4 (by decide)
                · rw [upd_same, List.map_append]
                  rfl
                · rw [List.length_cons] at hlt
                  omega
            · rw [if_neg (by rw [e]; exact Bool.false_ne_true)] at hR7
              refine ⟨_, rfl, c, wl :: U, l, ps, 4, _, .sign 59, rfl, a7, .inl ⟨59, rfl, rfl, rfl⟩, ?_⟩
              cases e8 : taken (.sign 59) l with
              | error f =>
                have e9 : takeSign 59 l = .error f := e8
                rw [e9] at hR7
                exact err k7 hR7
              | ok r8 =>
                have e9 : takeSign 59 l = .ok r8 := e8
                rw [e9] at hR7
                refine fun H8 a8 k8 => ?_
                have so8 : Same (off (wl :: U) H7) (off (wl :: U) H8) := k8.off (fun b hb => by rw [List.mem_singleton.mp hb]; exact wlU)
                have p8 : PgA K c U H8 g ss [] es := hg.cut (p7.keep a7 (k8.mono k12))
                have hwl8 : H8 wl = some (.lst (was.map V.ref)) := k8 _ _ (by simpa using nR) hwl7
                have kk8 : Keep [c.R] H H8 := drop (k7.trans (k8.mono k12))
                obtain ⟨dg, g1⟩ := p8.pg
                obtain ⟨sas, g2, g3⟩ := p8.sl
                have b8 : At K c U H8 r8 ps := a8.cut h.uR h.uC
                refine ⟨_, rfl, g.P, _, dg, _, _, rfl, g1, T.cls "Program", T.noat "Program" "settings", pgF_settings, .inl ⟨rfl, _, SqL.of g2⟩, _, rfl, g.ls, _, _, rfl, rfl, g2, ?_, ?_⟩
                · rw [List.length_map, plen g3]
                  exact Nat.lt_of_le_of_lt hg.s3 (by decide)
                · have ku : Keep [g.ls] H8 (upd H8 g.ls (.lst (sas.map V.ref ++ [.ref x]))) := keep_upd
                  have hlsU : ∀ m ∈ [g.ls], m ∈ U := fun m hm => by rw [List.mem_singleton.mp hm]; exact hg.u2
                  have sou : Same (off U H8) (off U (upd H8 g.ls (.lst (sas.map V.ref ++ [.ref x])))) := ku.off hlsU
                  obtain ⟨n1, n2, n3, n4, n5⟩ := p8.ne b8
                  obtain ⟨pas, g4, g5⟩ := p8.pl
                  have hwlU : wl ∉ U := new_off a3.lv nwl3
                  have nPls : g.P ≠ g.ls := ne_of g1 g2 (fun z => by cases z)
                  refine hR7 _ (b8.keep ku hlsU (fun m hm => by
                    rw [List.mem_singleton.mp hm, upd_same]
                    exact fun z => by cases z) (by simpa using n3.symm) (by simpa using hg.c1.symm)) ?_ ((kk8.mono k12).trans (keep_updM (by simp)))
                  refine { p8 with pg := ⟨dg, by rw [upd_ne nPls]; exact g1⟩, sl := ⟨sas ++ [x], by rw [upd_same, List.map_append]; rfl, psnoc (pimp g3 fun _ _ e => e.mono sou) ?_⟩, pl := ⟨pas, by rw [upd_ne hg.n1.symm]; exact g4, ?_⟩, el := by rw [upd_ne hg.n2.symm]; exact p8.el, s3 := by rw [List.length_append]; exact hs3 }
                  · exact ⟨dx, q3, wl, was, sou _ _ (off_cons _ _ (so8 _ _ hx7)), sou _ _ (off_cons _ _ (so8 _ _ hq7)), sou _ _ (off_get hwlU hwl8), pimp hn7 fun _ _ e => sou _ _ (off_cons _ _ (so8 _ _ e))⟩
                  · cases g5
                    exact .nil
end
end PP

set_option Elab.async false
set_option linter.all false
set_option maxRecDepth 100000
set_option maxHeartbeats 4000000
namespace PP
open PySem PySem.Spec PyProof.Rows L2
open VakepBase (Bytes Fault PTok Toks PName RESERVED word next nextWord taken wrong here takeName takeSign takeWord)
open Vakepa (Raw RawPart Piece takeNat takeStmts pieceOf SIZE DEEP takeValues takeSets takeParts SETS VALUES PARTS)
/-! ### plain: parts one by one -/
def onePart (ss : List Vakepa.Setting) (rs : List RawPart) (l : Toks) : Except Fault (RawPart × Toks) :=
  (takeWordN rs.length 10 (word "part") l).bind fun r0 => (newName none 5 ((ss.map fun s => s.name) ++ (rs.map fun r => r.name)) r0).bind fun x => (takeWord "size" x.2).bind fun r => (takeNat SIZE r).bind fun k =>
    ((takeSign 123 k.2).bind fun r => takeStmts ss k.2.length 0 r).map fun b => ((⟨x.1.name, k.1, b.1⟩ : RawPart), b.2)
theorem sign_fuel (ss : List Vakepa.Setting) (l : Toks) : ((takeSign 123 l).bind fun r => takeStmts ss (r.length + 1) 0 r) = (takeSign 123 l).bind fun r => takeStmts ss l.length 0 r := by
  refine bind_ext fun r h => ?_
  have h : taken (.sign 123) l = .ok r := h
  unfold taken at h
  split at h
  · rename_i e
    cases h
    cases l with
    | nil => cases e
    | cons t r => rfl
  · cases h
theorem any_parts (rs : List RawPart) (b : Bytes) : rs.any (fun s => s.name == b) = (rs.map fun s => s.name).contains b := by
  rw [List.contains_eq_any_beq, List.any_map]
  congr 1
  funext s
  exact BEq.comm
theorem parts_succ (n : Nat) (ss : List Vakepa.Setting) (rs : List RawPart) (l : Toks) : takeParts ss (n + 1) rs l = if nextWord "part" l = true then (onePart ss rs l).bind fun v => takeParts ss n (rs ++ [v.1]) v.2 else if rs.isEmpty = true then wrong l else .ok (rs, l) := by
  rw [takeParts]
  by_cases h : nextWord "part" l = true
  · rw [if_pos h, if_pos h]
    unfold onePart takeWordN
    by_cases h2 : PARTS ≤ rs.length
    · rw [if_pos h2, if_pos (show 10 ≤ rs.length from h2)]
      rfl
    · rw [if_neg h2, if_neg (show ¬ 10 ≤ rs.length from h2)]
      have e : taken (.name (word "part")) l = .ok (l.drop 1) := if_pos h
      rw [e]
      show _ = ((newName none 5 ((ss.map fun s => s.name) ++ (rs.map fun r => r.name)) (l.drop 1)).bind _).bind _
      unfold newName
      rw [bind_bind, bind_bind]
      refine bind_ext fun x _ => ?_
      have e2 : ¬ ((none : Option Nat).any fun m => decide (m ≤ ((ss.map fun s => s.name) ++ (rs.map fun r => r.name)).length)) = true := fun z => by cases z
      have e3 : (rs.any (fun p => p.name == x.1.name) = true ∨ ss.any (fun s => s.name == x.1.name) = true) ↔ ((ss.map fun s => s.name) ++ (rs.map fun r => r.name)).contains x.1.name = true := by
        rw [any_parts, any_names, List.contains_iff_mem, List.contains_iff_mem, List.contains_iff_mem, List.mem_append]
        exact ⟨Or.symm, Or.symm⟩
      rw [if_neg e2]
      by_cases h3 : ((ss.map fun s => s.name) ++ (rs.map fun r => r.name)).contains x.1.name = true
      · rw [if_pos h3, if_pos (e3.mpr h3)]
        rfl
      · rw [if_neg h3, if_neg (fun z => h3 (e3.mp z))]
        show _ = ((takeWord "size" x.2).bind _).bind _
        rw [bind_bind]
        refine bind_ext fun r _ => ?_
        rw [bind_bind]
        refine bind_ext fun k _ => ?_
        rw [map_bind, ← sign_fuel, bind_bind]
  · rw [if_neg h, if_neg h]
theorem onePart_len {ss : List Vakepa.Setting} {rs : List RawPart} {l : Toks} {x : RawPart × Toks} (h : onePart ss rs l = .ok x) : x.2.length < l.length := by
  unfold onePart at h
  obtain ⟨r0, h1, h2⟩ := bind_ok h
  obtain ⟨y, h3, h4⟩ := bind_ok h2
  obtain ⟨r, h5, h6⟩ := bind_ok h4
  obtain ⟨k, h7, h8⟩ := bind_ok h6
  obtain ⟨b, h9, rfl⟩ := map_ok h8
  obtain ⟨r2, h10, h11⟩ := bind_ok h9
  have l1 := takeWordN_len h1
  have l2 := newName_len h3
  have l3 := taken_len h5
  have l4 := takeNat_len h7
  have l5 := taken_len h10
  have l6 := stmts_len _ _ _ _ _ h11
  show b.2.length < _
  omega
/-! ### all that the reading of a program changes -/
def uv (c : Rc) (g : Pc) : List Addr := [c.R, c.CL, g.P, g.ls, g.lp, g.le]
theorem tup_off {K : PySem.W.Frag} {c : Rc} {g : Pc} {U : List Addr} {H : Hp} {l : Toks} {ps : List PName} {ss : List Vakepa.Setting} {rs : List RawPart} {es : List Nat} (a : At K c U H l ps) (p : PgA K c U H g ss rs es) : TupKeep H (off (uv c g) H) := fun b xs e => by
  obtain ⟨dR, i, h1, _⟩ := a.rd
  obtain ⟨vs, h2, _⟩ := a.cl
  obtain ⟨dx, h3⟩ := p.pg
  obtain ⟨sas, h4, _⟩ := p.sl
  obtain ⟨pas, h5, _⟩ := p.pl
  have h6 := p.el
  refine off_get ?_ e
  simp only [uv, List.mem_cons, List.not_mem_nil, or_false, not_or]
  exact ⟨ne_of e h1 (fun z => by cases z), ne_of e h2 (fun z => by cases z), ne_of e h3 (fun z => by cases z), ne_of e h4 (fun z => by cases z), ne_of e h5 (fun z => by cases z), ne_of e h6 (fun z => by cases z)⟩
def spPartI (K : PySem.W.Frag) : Sp := fun vs H Q _ => ∃ (p dx : Addr) (n s : V), vs = [.ref p, n, s] ∧ H p = some (.ins (He.ga K "Part") dx []) ∧ ∀ (H' : Hp) (rl : Addr), Keep [p] H H' → H' p = some (.ins (He.ga K "Part") dx (partF n s (.ref rl))) → Q .non H'
def spTakePart (K : PySem.W.Frag) : Sp := fun vs H Q E => ∃ (c : Rc) (l : Toks) (ps : List PName) (g : Pc) (ss : List Vakepa.Setting) (rs : List RawPart) (es : List Nat), vs = [.ref c.R, .ref g.P] ∧ At K c (uv c g) H l ps ∧ PgA K c (uv c g) H g ss rs es ∧
  Res K [c.R, c.CL, g.lp] H E (onePart ss rs l) fun x => ∀ H', At K c (uv c g) H' x.2 (ps ++ calls x.1.body) → PgA K c (uv c g) H' g ss (rs ++ [x.1]) es → Keep [c.R, c.CL, g.lp] H H' → Q .non H'
theorem partF_new {n s r : V} : putF "rows" r (putF "size" s (putF "name" n [])) = partF n s r := by
  rw [show putF "name" n [] = [(("name" : Str), n)] from rfl, put_past (by decide +kernel), put_past (by decide +kernel), show putF "size" s [] = [(("size" : Str), s)] from rfl, put_past (by decide +kernel)]
  rfl
theorem k13 {a b d : Addr} : ∀ x ∈ [a], x ∈ [a, b, d] := fun x h => by
  rw [List.mem_singleton] at h
  rw [h]
  exact List.mem_cons_self
theorem k23 {a b d : Addr} : ∀ x ∈ [a, b], x ∈ [a, b, d] := fun x h => by
  simp only [List.mem_cons, List.not_mem_nil, or_false] at h ⊢
  rcases h with rfl | rfl
  · exact .inl rfl
  · exact .inr (.inl rfl)
section
variable {P : Program} {w : World} {K : PySem.W.Frag} {mg : Str → Option Value} {base : Heap}
def N_Part_init : List Str := ["self", "name", "size"]
theorem sc_Part_init : FnScope N_Part_init ["self", "name", "size"] (defScope s_Part_init) := ⟨rfl, rfl, rfl, by decide +kernel, rfl, by decide +kernel, by decide +kernel⟩
theorem ok_Part_init (T : Txt K mg) : OkI P w K mg base 1 "Part" ["self", "name", "size"] (spPartI K) := by
  refine okI_mk T.i_Part sc_Part_init (fun vs H Q E h => ?_) (fun qual cdv A outer s H vs Q E hr h => ⟨_, (pss_cons (ps_fld (pv 0) (pv 1) rfl) (pss_cons (ps_fld (pv 0) (pv 2) rfl) (pss_one (ps_fld (pv 0) (pe_lst pa_nil) rfl)))), ?_⟩)
  · obtain ⟨p, dx, n, s, rfl, _⟩ := h
    rfl
  · obtain ⟨p, dx, n, s, rfl, hp, q⟩ := h
    refine ⟨_, rfl, _, rfl, p, _, dx, [], rfl, hp, T.cls "Part", T.noat "Part" "name", (by show 0 < 1000; decide), ?_⟩
    refine ⟨_, rfl, _, rfl, p, _, dx, _, rfl, upd_same, T.cls "Part", T.noat "Part" "size", (by show 1 < 1000; decide), Nat.zero_le _, fun rl nrl => ?_⟩
    rw [upd_upd] at nrl ⊢
    have ne : rl ≠ p := (ne_of_none upd_same nrl).symm
    refine ⟨_, rfl, p, _, dx, _, rfl, (upd_ne ne.symm).trans upd_same, T.cls "Part", T.noat "Part" "rows", (by show 2 < 1000; decide), ?_⟩
    rw [partF_new]
    refine q _ rl (fun b o hb e => ?_) upd_same
    rw [List.mem_singleton] at hb
    have nb : b ≠ rl := by
      rw [upd_ne ne] at nrl
      exact ne_of_none e nrl
    rw [upd_ne hb, upd_ne nb, upd_ne hb]
    exact e
def N_take_part : List Str := ["reader", "program", "name", "part"]
theorem sc_take_part : FnScope N_take_part ["reader", "program"] (defScope s_take_part) := ⟨rfl, rfl, rfl, by decide +kernel, rfl, by decide +kernel, by decide +kernel⟩
theorem ok_take_part (T : Txt K mg) : Ok P w K mg base 19 "take_part" ["reader", "program"] (spTakePart K) := by
  have G_take : Ok P w K mg base 4 "take" ["reader", "kind", "what"] (spTake K) := ok_take T
  have G_take_word : Ok P w K mg base 5 "take_word" ["reader", "rows", "most", "word"] (spTakeWord K) := ok_take_word T
  have G_take_new : Ok P w K mg base 5 "take_new" ["reader", "known", "most", "code"] (spTakeNew K) := ok_take_new T
  have G_setting_names : Ok P w K mg base 1 "setting_names" ["program"] (spSetNames K) := ok_setting_names T
  have G_part_names : Ok P w K mg base 1 "part_names" ["program"] (spPartNames K) := ok_part_names T
  have G_take_number : Ok P w K mg base 4 "take_number" ["reader"] (spTakeNumber K) := ok_take_number T
  have G_take_rows : Ok P w K mg base 18 "take_rows" ["reader", "program", "within"] (spTakeRows K 0) := ok_take_rows T
  have G_Part_init : OkI P w K mg base 1 "Part" ["self", "name", "size"] (spPartI K) := ok_Part_init T
  refine ok_mk T.d_take_part sc_take_part (fun vs H Q E h => ?_) (fun cdv A outer s H vs Q E hr h => ?_)
  · obtain ⟨c, l, ps, g, ss, rs, es, rfl, _⟩ := h
    rfl
  · have hr_take : Room 4 _ := hr.mono (by decide)
    have hr_take_word : Room 5 _ := hr.mono (by decide)
    have hr_take_new : Room 5 _ := hr.mono (by decide)
    have hr_setting_names : Room 1 _ := hr.mono (by decide)
    have hr_part_names : Room 1 _ := hr.mono (by decide)
    have hr_take_number : Room 4 _ := hr.mono (by decide)
    have hr_take_rows : Room 18 _ := hr
    have hr_Part : Room (1 + 1) _ := hr.mono (by decide)
    refine ⟨_, (pss_cons (ps_expr (pe_cX G_take_word hr_take_word outE (pa_cons (pv 0) (pa_cons (pe_fld (pv 1) rfl) (pa_cons (pe_gl (T.int "MOST_PARTS" 10)) (pa_cons (pe_gl (T.gV "PART")) pa_nil)))))) (pss_cons (ps_set (i := 2) sc_take_part.nd rfl (Or.inl rfl) (pe_cX G_take_new hr_take_new outE (pa_cons (pv 0) (pa_cons (pe_op op_cat (pe_c G_setting_names hr_setting_names (pa_cons (pv 1) pa_nil)) (pe_c G_part_names hr_part_names (pa_cons (pv 1) pa_nil))) (pa_cons pe_non (pa_cons (pe_gl (T.int "NAMED" 5)) pa_nil)))))) (pss_cons (ps_expr (pe_cX G_take hr_take outE (pa_cons (pv 0) (pa_cons (pe_gl (T.int "WORD" 2)) (pa_cons (pe_gl (T.gV "SIZE")) pa_nil))))) (pss_cons (ps_set (i := 3) sc_take_part.nd rfl (Or.inl rfl) (pe_mkI (T.mkr "Part") G_Part_init hr_Part (T.g "Part") (pa_cons (pv 2) (pa_cons (pe_cX G_take_number hr_take_number outE (pa_cons (pv 0) pa_nil)) pa_nil)))) (pss_cons (ps_fld (pv 3) (pe_cX G_take_rows hr_take_rows outE (pa_cons (pv 0) (pa_cons (pv 1) (pa_cons pe_int pa_nil)))) rfl) (pss_one (ps_expr (pe_bm PySem.F.plainAttrs_list PySem.F.slot_list_append PySem.F.type_list_append mt_append (pe_fld (pv 1) rfl) (pa_cons (pv 3) pa_nil))))))))), ?_⟩
    obtain ⟨c, l, ps, g, ss, rs, es, rfl, h, hg, hR⟩ := h
    obtain ⟨dg, g1⟩ := hg.pg
    obtain ⟨pas, g2, g3⟩ := hg.pl
    obtain ⟨m1, m2, m3, m4, m5⟩ := hg.ne h
    unfold onePart at hR
    refine ⟨_, rfl, _, rfl, g.P, _, dg, _, _, rfl, g1, T.cls "Program", T.noat "Program" "parts", pgF_parts, c, uv c g, l, ps, g.lp, _, 10, _, word "part", rfl, h, g2, sq_word (T.t_PART H) (by decide +kernel), by decide +kernel, ?_⟩
    rw [List.length_map, plen g3]
    cases e0 : takeWordN rs.length 10 (word "part") l with
    | error f =>
      rw [e0] at hR
      exact res_fault (M := [c.R, c.CL, g.lp]) hR rfl (Keep.refl _ _) k13
    | ok r0 =>
      rw [e0] at hR
      have hR : Res K [c.R, c.CL, g.lp] H E ((newName none 5 ((ss.map fun s => s.name) ++ (rs.map fun r => r.name)) r0).bind fun x => (takeWord "size" x.2).bind fun r => (takeNat SIZE r).bind fun k => ((takeSign 123 k.2).bind fun r => takeStmts ss k.2.length 0 r).map fun b => ((⟨x.1.name, k.1, b.1⟩ : RawPart), b.2)) _ := hR
      have hs10 : rs.length + 1 ≤ 10 := by
        unfold takeWordN at e0
        split at e0
        · cases e0
        · omega
      refine fun H1 a1 k1 => ?_
      have kk1 : Keep [c.R, c.CL] H H1 := k1.mono k12
      have p1 := hg.keep h kk1
      obtain ⟨dg, g1⟩ := p1.pg
      obtain ⟨sas, g4, g5⟩ := p1.sl
      obtain ⟨pas, g2, g3⟩ := p1.pl
      have gs := p1.s3
      -- name = take_new(reader, setting_names(program) + part_names(program), None, NAMED)
      refine ⟨_, rfl, _, rfl, g.P, dg, g.ls, _, _, sas, _, rfl, g1, g4, (named_sets g5).mono off_same, by have := plen g5; omega, fun H2 p2 qs2 s2 np2 hp2 hq2 => ?_⟩
      refine ⟨_, rfl, g.P, dg, g.lp, _, _, pas, _, rfl, s2 _ _ g1, s2 _ _ g2, ((named_parts g3).mono off_same).mono s2, by have := plen g3; omega, fun H3 p3 qs3 s3 np3 hp3 hq3 => ?_⟩
      have hp2' := s3 _ _ hp2
      refine ⟨p2, p3, _, _, rfl, rfl, hp2', hp3, ?_, fun p4 np4 => ?_⟩
      · have l1 := plen hq2
        have l2 := plen hq3
        rw [List.length_map, List.length_map] at *
        exact Nat.le_trans (show qs2.length + qs3.length ≤ 1000 by have := hg.p10; omega) (by decide)
      · have s4 : Same H1 (upd H3 p4 (.lst (qs2.map V.ref ++ qs3.map V.ref))) := (s2.trans s3).trans (same_upd np4)
        have a4 := a1.same s4
        refine ⟨c, uv c g, r0, ps, p4, qs2 ++ qs3, (ss.map fun s => s.name) ++ (rs.map fun r => r.name), none, 5, rfl, a4, (at_nR ((a1.same s2).same s3) np4).1, by rw [upd_same, List.map_append], ?_, ?_⟩
        · have app : ∀ {a b : List Addr} {x y : List Bytes} {H : Hp}, NamesAt H a x → NamesAt H b y → NamesAt H (a ++ b) (x ++ y) := fun {a b x y H} h1 h2 => by
            induction h1 with
            | nil => exact h2
            | cons e _ ih => exact .cons e ih
          exact app ((hq2.mono s3).mono (same_upd np4)) (hq3.mono (same_upd np4))
        cases e3 : newName none 5 ((ss.map fun s => s.name) ++ (rs.map fun r => r.name)) r0 with
        | error f =>
          rw [e3] at hR
          exact res_fault (M := [c.R, c.CL, g.lp]) hR rfl ((k1.mono k13).trans (Keep.of_same s4)) k13
        | ok x3 =>
          rw [e3] at hR
          have hR : Res K [c.R, c.CL, g.lp] H E ((takeWord "size" x3.2).bind fun r => (takeNat SIZE r).bind fun k => ((takeSign 123 k.2).bind fun r => takeStmts ss k.2.length 0 r).map fun b => ((⟨x3.1.name, k.1, b.1⟩ : RawPart), b.2)) _ := hR
          refine fun H5 q5 a5 k5 hq5 => ?_
          have kk5 : Keep [c.R] H H5 := (k1.trans (Keep.of_same s4)).trans k5
          have p5 := (p1.same s4).keep a4 (k5.mono k12)
          -- take(reader, WORD, SIZE)
          refine ⟨_, rfl, c, uv c g, _, ps, 2, _, _, rfl, a5, what_word (T := T) (s := "size") (T.t_SIZE H5) (by decide +kernel) (by decide +kernel), ?_⟩
          cases e6 : taken (.name (word "size")) x3.2 with
          | error f =>
            have e7 : takeWord "size" x3.2 = .error f := e6
            rw [e7] at hR
            exact res_fault (M := [c.R, c.CL, g.lp]) hR rfl (kk5.mono k13) k13
          | ok r6 =>
            have e7 : takeWord "size" x3.2 = .ok r6 := e6
            rw [e7] at hR
            have hR : Res K [c.R, c.CL, g.lp] H E ((takeNat SIZE r6).bind fun k => ((takeSign 123 k.2).bind fun r => takeStmts ss k.2.length 0 r).map fun b => ((⟨x3.1.name, k.1, b.1⟩ : RawPart), b.2)) _ := hR
            refine fun H6 a6 k6 => ?_
            have p6 := p5.keep a5 (k6.mono k12)
            have kk6 := kk5.trans k6
            have uR : ∀ b ∈ [c.R], b ∈ uv c g := fun b hb => by rw [List.mem_singleton.mp hb]; exact h.uR
            have hq6 := (k6.off uR) _ _ hq5
            -- part = Part(name, take_number(reader))
            refine ⟨_, rfl, _, rfl, c, uv c g, _, ps, rfl, a6, ?_⟩
            cases e8 : takeNat SIZE r6 with
            | error f =>
              rw [e8] at hR
              exact res_fault (M := [c.R, c.CL, g.lp]) hR rfl (kk6.mono k13) k13
            | ok x8 =>
              rw [e8] at hR
              have hR : Res K [c.R, c.CL, g.lp] H E (((takeSign 123 x8.2).bind fun r => takeStmts ss x8.2.length 0 r).map fun b => ((⟨x3.1.name, x8.1, b.1⟩ : RawPart), b.2)) _ := hR
              refine fun H8 a8 k8 x dx nx ndx nex => ⟨x, dx, _, _, rfl, upd_same, fun H9 rl k9 hx9 => ⟨rfl, ?_⟩⟩
              have p8 := p6.keep a6 (k8.mono k12)
              have kk8 := kk6.trans k8
              have hq8 := (k8.off uR) _ _ hq6
              have n8 : Same H8 (upd (upd H8 dx (.own x)) x (.ins (He.ga K "Part") dx [])) := new2 nx ndx
              have s9 : Same H8 H9 := fun b o e => k9 b o (by
                rw [List.mem_singleton]
                exact ne_of_none e nx) (n8 _ _ e)
              have a9 : At K c (x :: uv c g) H9 x8.2 ps := a8.ext' nx s9 (by rw [hx9]; exact fun z => by cases z)
              have p9 : PgA K c (x :: uv c g) H9 g ss rs es := p8.ext' nx s9
              have nx0 : H x = none := by
                cases e : H x with
                | none => rfl
                | some o =>
                  have := kk8 _ _ (by simpa using (at_nR a8 nx).1) e
                  rw [nx] at this
                  cases this
              have kk9 : Keep [c.R] H H9 := kk8.trans (Keep.of_same s9)
              -- part.rows = take_rows(reader, program, 0)
              refine ⟨_, rfl, _, rfl, c, x :: uv c g, x8.2, ps, g.P, ss, x8.2.length, rfl, a9, p9.toSS, Nat.le_refl _, by decide, ?_⟩
              cases e10 : (takeSign 123 x8.2).bind (fun r => takeStmts ss x8.2.length 0 r) with
              | error f =>
                rw [e10] at hR
                exact res_fault (M := [c.R, c.CL, g.lp]) hR rfl (kk9.mono k13) k23
              | ok b =>
                rw [e10] at hR
                refine fun H10 ra vs' a10 hra hrows k10 => ?_
                have p10 := p9.keep a9 k10
                obtain ⟨nR, nC⟩ := at_nR a8 nx
                have hx10 : H10 x = some (.ins (He.ga K "Part") dx (partF (.ref q5) (.int (x8.1 : Nat)) (.ref rl))) := k10 _ _ (kp2 nR nC) hx9
                obtain ⟨w1, w2, w3, w4⟩ := p8.free nx
                refine ⟨_, rfl, x, _, dx, _, rfl, hx10, T.cls "Part", T.noat "Part" "rows", (by show 3 < 1000; decide), ?_⟩
                rw [partF_put]
                -- behind the store
                have ku : Keep [x] H10 (upd H10 x (.ins (He.ga K "Part") dx (partF (.ref q5) (.int (x8.1 : Nat)) (.ref ra)))) := keep_upd
                have hxm : ∀ m ∈ [x], m ∈ x :: uv c g := fun m hm => by rw [List.mem_singleton.mp hm]; exact List.mem_cons_self
                have a11 : At K c (uv c g) (upd H10 x (.ins (He.ga K "Part") dx (partF (.ref q5) (.int (x8.1 : Nat)) (.ref ra)))) b.2 (ps ++ calls b.1) := (a10.keep ku hxm (fun m hm => by
                  rw [List.mem_singleton.mp hm, upd_same]
                  exact fun z => by cases z) (by simpa using nR.symm) (by simpa using nC.symm)).cut h.uR h.uC
                have p11 : PgA K c (uv c g) (upd H10 x (.ins (He.ga K "Part") dx (partF (.ref q5) (.int (x8.1 : Nat)) (.ref ra)))) g ss rs es := hg.cut (p10.keepM ku hxm (by simpa using w1.symm) (by simpa using w2.symm) (by simpa using w3.symm) (by simpa using w4.symm))
                have tk11 : TupKeep H10 (upd H10 x (.ins (He.ga K "Part") dx (partF (.ref q5) (.int (x8.1 : Nat)) (.ref ra)))) := TupKeep.upd hx10 (fun xs z => by cases z)
                have hx11 : upd H10 x (.ins (He.ga K "Part") dx (partF (.ref q5) (.int (x8.1 : Nat)) (.ref ra))) x = some (.ins (He.ga K "Part") dx (partF (.ref q5) (.int (x8.1 : Nat)) (.ref ra))) := upd_same
                have kk11 : Keep [c.R, c.CL] H (upd H10 x (.ins (He.ga K "Part") dx (partF (.ref q5) (.int (x8.1 : Nat)) (.ref ra)))) := fun b' o hb' e => by
                  have nb : b' ≠ x := ne_of_none e nx0
                  rw [upd_ne nb]
                  exact k10 _ _ hb' (kk9 _ _ (fun z => hb' (k12 _ z)) e)
                have hq10 : H10 q5 = some (.tup (nm x3.1.name)) := tkR a9 k10 _ _ (s9 _ _ (off_some hq8).2)
                generalize upd H10 x (.ins (He.ga K "Part") dx (partF (.ref q5) (.int (x8.1 : Nat)) (.ref ra))) = H11 at a11 p11 tk11 hx11 kk11 ⊢
                obtain ⟨dg, g1⟩ := p11.pg
                obtain ⟨pas, g2, g3⟩ := p11.pl
                refine ⟨_, rfl, g.P, _, dg, _, _, rfl, g1, T.cls "Program", T.noat "Program" "parts", pgF_parts, .inl ⟨rfl, _, SqL.of g2⟩, _, rfl, g.lp, _, _, rfl, rfl, g2, ?_, ?_⟩
                · rw [List.length_map, plen g3]
                  exact Nat.lt_of_le_of_lt hg.p10 (by decide)
                · have ku : Keep [g.lp] H11 (upd H11 g.lp (.lst (pas.map V.ref ++ [.ref x]))) := keep_upd
                  have hlU : ∀ m ∈ [g.lp], m ∈ uv c g := fun m hm => by rw [List.mem_singleton.mp hm]; exact hg.u3
                  have sou : Same (off (uv c g) H11) (off (uv c g) (upd H11 g.lp (.lst (pas.map V.ref ++ [.ref x])))) := ku.off hlU
                  obtain ⟨n1, n2, n3, n4, n5⟩ := p11.ne a11
                  obtain ⟨sas, g4, g5⟩ := p11.sl
                  have nP : g.P ≠ g.lp := ne_of g1 g2 (fun z => by cases z)
                  have to11 := tup_off a11 p11
                  have hxU : x ∉ uv c g := new_off a8.lv nx
                  refine hR _ (a11.keep ku hlU (fun m hm => by
                    rw [List.mem_singleton.mp hm, upd_same]
                    exact fun z => by cases z) (by simpa using n4.symm) (by simpa using hg.c2.symm)) ?_ ((kk11.mono k23).trans (keep_updM (by simp)))
                  refine { p11 with pg := ⟨dg, by rw [upd_ne nP]; exact g1⟩, sl := ⟨sas, by rw [upd_ne hg.n1]; exact g4, pimp g5 fun _ _ e => e.mono sou⟩, pl := ⟨pas ++ [x], by rw [upd_same, List.map_append]; rfl, psnoc (pimp g3 fun _ _ e => e.mono sou) ?_⟩, el := by rw [upd_ne hg.n3.symm]; exact p11.el, p10 := by rw [List.length_append]; exact hs10, nd := ?_, eb := fun e he => by rw [List.length_append]; exact Nat.lt_of_lt_of_le (hg.eb e he) (Nat.le_add_right _ _) }
                  · exact ⟨dx, q5, ra, vs', sou _ _ (off_get hxU hx11), sou _ _ (to11 _ _ (tk11 _ _ hq10)), sou _ _ (to11 _ _ (tk11 _ _ hra)), (hrows.tk (tk11.trans to11)).tk (fun b xs e => sou _ _ e)⟩
                  · rw [List.map_append, List.nodup_append]
                    refine ⟨hg.nd, by simp, fun a ha b hb => ?_⟩
                    simp only [List.map_cons, List.map_nil, List.mem_singleton] at hb
                    subst hb
                    intro z
                    subst z
                    unfold newName at e3
                    obtain ⟨y, e11, e12⟩ := bind_ok e3
                    split at e12
                    · cases e12
                    · split at e12
                      · cases e12
                      · rename_i hno
                        cases e12
                        exact hno (List.contains_iff_mem.mpr (List.mem_append_right _ ha))
end
end PP

set_option Elab.async false
set_option linter.all false
set_option maxRecDepth 100000
set_option maxHeartbeats 4000000
namespace PP
open PySem PySem.Spec PyProof.Rows L2
open VakepBase (Bytes Fault PTok Toks PName RESERVED word next nextWord taken wrong here takeName takeSign takeWord)
open Vakepa (Raw RawPart Piece takeNat takeStmts pieceOf SIZE DEEP takeStarts STARTS)
/-! ### plain: entries one by one -/
def oneEntry (names : List Bytes) (es : List Nat) (l : Toks) : Except Fault (Nat × Toks) := (takeName l).bind fun x => if STARTS ≤ es.length then .error ⟨4, x.1.place⟩ else match names.findIdx? fun y => y == x.1.name with
  | none => .error ⟨8, x.1.place⟩
  | some k => if es.contains k = true then .error ⟨6, x.1.place⟩ else .ok (k, x.2)
def lastToks (es : List Nat) (m : Toks) : Except Fault (List Nat) := if next .last m = true then .ok es else wrong m
theorem starts_succ (names : List Bytes) (n : Nat) (es : List Nat) (l : Toks) : takeStarts names (n + 1) es l = (oneEntry names es l).bind fun x => if next (.sign 44) x.2 = true then takeStarts names n (es ++ [x.1]) (x.2.drop 1) else (takeSign 59 x.2).bind fun m => lastToks (es ++ [x.1]) m := by
  rw [takeStarts]
  unfold oneEntry
  rw [bind_bind]
  refine bind_ext fun x _ => ?_
  by_cases h : STARTS ≤ es.length
  · rw [if_pos h, if_pos h]
    rfl
  · rw [if_neg h, if_neg h]
    cases names.findIdx? (fun y => y == x.1.name) with
    | none => rfl
    | some k =>
      show (if es.contains k = true then _ else _) = (if es.contains k = true then (.error ⟨6, x.1.place⟩ : Except Fault (Nat × Toks)) else .ok (k, x.2)).bind _
      by_cases h2 : es.contains k = true
      · rw [if_pos h2, if_pos h2]
        rfl
      · rw [if_neg h2, if_neg h2]
        rfl
theorem oneEntry_len {names : List Bytes} {es : List Nat} {l : Toks} {x : Nat × Toks} (h : oneEntry names es l = .ok x) : x.2.length < l.length := by
  unfold oneEntry at h
  obtain ⟨y, h1, h2⟩ := bind_ok h
  split at h2
  · cases h2
  · split at h2
    · cases h2
    · split at h2
      · cases h2
      · cases h2
        exact takeName_len h1
/-- the names of the entries -/
theorem entry_names {names : List Bytes} {es : List Nat} {b : Bytes} (hb : ∀ e ∈ es, e < names.length) (nd : names.Nodup) : (es.map fun e => names.getD e []).contains b = match names.findIdx? (fun y => y == b) with
    | none => false
    | some k => es.contains k := by
  cases h : names.findIdx? (fun y => y == b) with
  | none =>
    rw [List.findIdx?_eq_none_iff] at h
    show _ = false
    cases z : (es.map fun e => names.getD e []).contains b with
    | false => rfl
    | true =>
      obtain ⟨e, he, q⟩ := List.mem_map.mp (List.contains_iff_mem.mp z)
      have hl := hb e he
      rw [List.getD_eq_getElem?_getD, List.getElem?_eq_getElem hl] at q
      have := h names[e] (List.getElem_mem hl)
      rw [show names[e] = b from q] at this
      simp at this
  | some k =>
    obtain ⟨hk, hp, _⟩ := List.findIdx?_eq_some_iff_getElem.mp h
    have hp : names[k] = b := by simpa using hp
    show _ = es.contains k
    rw [Bool.eq_iff_iff, List.contains_iff_mem, List.contains_iff_mem]
    constructor
    · intro z
      obtain ⟨e, he, q⟩ := List.mem_map.mp z
      have hl := hb e he
      rw [List.getD_eq_getElem?_getD, List.getElem?_eq_getElem hl] at q
      have q : names[e] = b := q
      have : e = k := (List.getElem_inj nd).mp (q.trans hp.symm)
      rw [← this]
      exact he
    · intro z
      refine List.mem_map.mpr ⟨k, z, ?_⟩
      rw [List.getD_eq_getElem?_getD, List.getElem?_eq_getElem hk]
      exact hp
/-! ### promises -/
def spTakeEntry (K : PySem.W.Frag) : Sp := fun vs H Q E => ∃ (c : Rc) (l : Toks) (ps : List PName) (g : Pc) (ss : List Vakepa.Setting) (rs : List RawPart) (es : List Nat), vs = [.ref c.R, .ref g.P] ∧ At K c (uv c g) H l ps ∧ PgA K c (uv c g) H g ss rs es ∧
  Res K [c.R, g.le] H E (oneEntry (rs.map fun r => r.name) es l) fun x => ∀ H', At K c (uv c g) H' x.2 ps → PgA K c (uv c g) H' g ss rs (es ++ [x.1]) → Keep [c.R, g.le] H H' → Q .non H'
def spTakeStart (K : PySem.W.Frag) : Sp := fun vs H Q E => ∃ (c : Rc) (l : Toks) (ps : List PName) (g : Pc) (ss : List Vakepa.Setting) (rs : List RawPart), vs = [.ref c.R, .ref g.P] ∧ At K c (uv c g) H l ps ∧ PgA K c (uv c g) H g ss rs [] ∧
  Res K [c.R, g.le] H E ((takeWord "start" l).bind fun r => takeStarts (rs.map fun r => r.name) (r.length + 1) [] r) fun es => ∀ (H' : Hp) (l' : Toks), At K c (uv c g) H' l' ps → PgA K c (uv c g) H' g ss rs es → Keep [c.R, g.le] H H' → Q .non H'
section
variable {P : Program} {w : World} {K : PySem.W.Frag} {mg : Str → Option Value} {base : Heap}
def N_take_entry : List Str := ["reader", "program", "own", "names", "entry"]
theorem sc_take_entry : FnScope N_take_entry ["reader", "program"] (defScope s_take_entry) := ⟨rfl, rfl, rfl, by decide +kernel, rfl, by decide +kernel, by decide +kernel⟩
theorem ok_take_entry (T : Txt K mg) : Ok P w K mg base 6 "take_entry" ["reader", "program"] (spTakeEntry K) := by
  have G_token : Ok P w K mg base 1 "token" ["reader"] (spToken K) := ok_token T
  have G_check_name : Ok P w K mg base 4 "check_name" ["reader"] (spCheckName K) := ok_check_name T
  have G_refuse : Ok P w K mg base 3 "refuse" ["is_wrong", "code", "place"] (spRefuse K) := ok_refuse T
  have G_part_names : Ok P w K mg base 1 "part_names" ["program"] (spPartNames K) := ok_part_names T
  have G_take_known : Ok P w K mg base 5 "take_known" ["reader", "known"] (spTakeKnown K) := ok_take_known T
  refine ok_mk T.d_take_entry sc_take_entry (fun vs H Q E h => ?_) (fun cdv A outer s H vs Q E hr h => ?_)
  · obtain ⟨c, l, ps, g, ss, rs, es, rfl, _⟩ := h
    rfl
  · have hr_token : Room 1 _ := hr.mono (by decide)
    have hr_check_name : Room 4 _ := hr.mono (by decide)
    have hr_refuse : Room 3 _ := hr.mono (by decide)
    have hr_part_names : Room 1 _ := hr.mono (by decide)
    have hr_take_known : Room 5 _ := hr
    refine ⟨_, (pss_cons (ps_set (i := 2) sc_take_entry.nd rfl (Or.inl rfl) (pe_c G_token hr_token (pa_cons (pv 0) pa_nil))) (pss_cons (ps_expr (pe_cX G_check_name hr_check_name outE (pa_cons (pv 0) pa_nil))) (pss_cons (ps_expr (pe_cX G_refuse hr_refuse outE (pa_cons (pe_cmpR op_ge (pe_callB call_len (by rfl) (T.free "len") PySem.boot_len (pa_cons (pe_fld (pv 1) rfl) pa_nil)) (pe_gl (T.int "MOST_ENTRIES" 4)) (nomark _)) (pa_cons (pe_gl (T.int "TOO_MANY_reading" 4)) (pa_cons (pe_fld (pv 2) rfl) pa_nil))))) (pss_cons (ps_set (i := 3) sc_take_entry.nd rfl (Or.inr rfl) (pe_c G_part_names hr_part_names (pa_cons (pv 1) pa_nil))) (pss_cons (ps_expr (pe_cX G_refuse hr_refuse outE (pa_cons (pe_cmpR (op_inNL hr.u65) (pe_fld (pv 2) rfl) (pe_lc (own := [("entry", 4)]) (g := gName 4) (te := tOp (rIxL K) (tVar 3) (tVar 4)) (by rfl) sc_take_entry.nd (pi_list (pe_fld (pv 1) rfl)) (blkOk_by (own := [("entry", 4)]) (N := N_take_entry) (sc := defScope s_take_entry) (by decide +kernel)) (by exact fun _ _ _ _ _ => (pg_name (i := 4) sc_take_entry.nd rfl (Or.inl rfl))) (fun _ _ _ _ _ => pts_nil) (by exact fun _ _ _ _ _ => (pe_ix ix_list (pv 3) (pv 4) (fun _ _ => rfl)))) (by rfl)) (pa_cons (pe_gl (T.int "ENTERED" 6)) (pa_cons (pe_fld (pv 2) rfl) pa_nil))))) (pss_one (ps_expr (pe_bm PySem.F.plainAttrs_list PySem.F.slot_list_append PySem.F.type_list_append mt_append (pe_fld (pv 1) rfl) (pa_cons (pe_cX G_take_known hr_take_known outE (pa_cons (pv 0) (pa_cons (pv 3) pa_nil))) pa_nil))))))))), ?_⟩
    obtain ⟨c, l, ps, g, ss, rs, es, rfl, h, hg, hR⟩ := h
    have k0 : ∀ b ∈ ([] : List Addr), b ∈ [c.R, g.le] := fun b hb => by simp at hb
    obtain ⟨dg, g1⟩ := hg.pg
    obtain ⟨pas, g2, g3⟩ := hg.pl
    have g6 := hg.el
    refine ⟨_, rfl, c, _, l, ps, rfl, h, fun a t r el ⟨dx, v, h1, h2⟩ => ?_⟩
    subst el
    have h1 := (off_some h1).2
    refine ⟨_, rfl, c, _, _, ps, rfl, h, ?_⟩
    unfold oneEntry at hR
    by_cases e1 : kindOf t.tok = 1
    · obtain ⟨p, b, rfl, hb⟩ := kind1 e1
      rw [takeName_name hb] at hR ⊢
      obtain ⟨q, rfl, hq⟩ := h2
      have hq := (off_some hq).2
      have hR : Res K [c.R, g.le] H E (if STARTS ≤ es.length then .error ⟨4, p⟩ else match (rs.map fun r => r.name).findIdx? fun y => y == b with | none => .error ⟨8, p⟩ | some k => if es.contains k = true then .error ⟨6, p⟩ else .ok (k, r)) _ := hR
      refine res_ok ?_
      dsimp only
      refine ⟨_, rfl, _, _, dg, _, _, rfl, g1, T.cls "Program", T.noat "Program" "entries", pgF_entries, _, _, rfl, .inl ⟨_, SqL.of g6, rfl⟩, _, _, rfl, rfl, _, rfl, a, _, dx, _, _, rfl, h1, T.cls "Token", T.noat "Token" "place", tokF_place, _, ⟨4, p⟩, rfl, fun e => ?_, fun e => ?_⟩
      · have e2 : STARTS ≤ es.length := by
          have := of_decide_eq_true e
          rw [List.length_map] at this
          unfold STARTS
          omega
        rw [if_pos e2] at hR
        exact FaultE.mono (M := []) hR (Keep.refl _ _) k0
      · have e2 : ¬ STARTS ≤ es.length := by
          have := of_decide_eq_false e
          rw [List.length_map] at this
          unfold STARTS
          omega
        rw [if_neg e2] at hR
        have he4 : es.length + 1 ≤ 4 := by
          unfold STARTS at e2
          omega
        -- names = part_names(program)
        refine ⟨_, rfl, g.P, dg, g.lp, _, _, pas, _, rfl, g1, g2, (named_parts g3).mono off_same, by have := plen g3; have := hg.p10; omega, fun H1 nl qs s1 np hp hq1 => ?_⟩
        have hnl : qs.length = (rs.map fun r => r.name).length := plen hq1
        -- refuse(own.what in [..], ENTERED, own.place)
        refine ⟨_, rfl, a, _, dx, _, _, rfl, s1 _ _ h1, T.cls "Token", T.noat "Token" "what", tokF_what, ?_⟩
        refine ⟨_, rfl, _, _, dg, _, _, rfl, s1 _ _ g1, T.cls "Program", T.noat "Program" "entries", pgF_entries, g.le, rfl, ⟨_, SqL.of (s1 _ _ g6)⟩, fun D hD => ?_⟩
        refine lc_list (K := K) (a := g.le) (xs := es.map fun e => V.int (e : Nat)) (fun i H' => Same H1 H' ∧ H' D = some (.lst (((es.take i).map fun e => qs.getD e 0).map V.ref))) ⟨same_upd hD, upd_same⟩ (fun i H' _ ⟨s, _⟩ => SqL.of (s _ _ (s1 _ _ g6))) (fun i x H' hx ⟨s, e⟩ => ?_) fun H2 ⟨s2, eD⟩ => ?_
        · obtain ⟨k, hk, rfl⟩ := map_get hx
          have hkl : k < qs.length := by
            rw [hnl, List.length_map]
            exact hg.eb k (List.mem_of_getElem? hk)
          refine ⟨rfl, _, rfl, _, rfl, nl, _, _, _, rfl, rfl, SqL.of (s _ _ hp), atI_nat (by rw [List.getElem?_map, List.getElem?_eq_getElem hkl]; rfl), _, e, ?_, ?_, ?_⟩
          · rw [List.length_map, List.length_map, List.length_take]
            exact Nat.lt_of_le_of_lt (Nat.min_le_right _ _) (Nat.lt_of_le_of_lt hg.e4 (by decide))
          · exact fun c o e => by
              rw [upd_ne (ne_of_none e hD)]
              exact s _ _ e
          · rw [upd_same, take_more hk, List.map_append, List.map_append]
            simp [List.getD_eq_getElem?_getD, List.getElem?_eq_getElem hkl]
        · rw [List.length_map, List.take_length] at eD
          have s12 : Same H H2 := s1.trans s2
          have hen : Paired (fun q b => SqT K H2 q (nm b)) (es.map fun e => qs.getD e 0) (es.map fun e => (rs.map fun r => r.name).getD e []) := by
            have aux : ∀ l : List Nat, (∀ e ∈ l, e < rs.length) → Paired (fun q b => SqT K H2 q (nm b)) (l.map fun e => qs.getD e 0) (l.map fun e => (rs.map fun r => r.name).getD e []) := fun l => by
              induction l with
              | nil => intro _; exact .nil
              | cons k r ih =>
                intro hl
                refine .cons ?_ (ih fun e he => hl e (List.mem_cons_of_mem _ he))
                have hk := hl k List.mem_cons_self
                have hk2 : k < (rs.map fun r => r.name).length := by rw [List.length_map]; exact hk
                obtain ⟨q', e1, e2⟩ := Paired_get hq1 (List.getElem?_eq_getElem hk2)
                show SqT K H2 (qs.getD k 0) (nm ((rs.map fun r => r.name).getD k []))
                rw [List.getD_eq_getElem?_getD, List.getD_eq_getElem?_getD, e1, List.getElem?_eq_getElem hk2]
                exact .inl (.inl (s2 _ _ e2))
            exact aux es hg.eb
          have hnm := entry_names (b := b) (names := rs.map fun r => r.name) (es := es) (fun e he => by rw [List.length_map]; exact hg.eb e he) hg.nd
          refine ⟨q, D, b, _, _, rfl, rfl, .inl (.inl (s12 _ _ hq)), SqL.of eD, hen, _, rfl, a, _, dx, _, _, rfl, s12 _ _ h1, T.cls "Token", T.noat "Token" "place", tokF_place, _, ⟨6, p⟩, rfl, fun e => ?_, fun e => ?_⟩
          · have e : (es.map fun e => (rs.map fun r => r.name).getD e []).contains b = true := e
            rw [hnm] at e
            cases e5 : (rs.map fun r => r.name).findIdx? (fun y => y == b) with
            | none => rw [e5] at e; cases e
            | some k =>
              rw [e5] at e hR
              have hR : Res K [c.R, g.le] H E (if es.contains k = true then .error ⟨6, p⟩ else .ok (k, r)) _ := hR
              rw [if_pos (show es.contains k = true from e)] at hR
              exact FaultE.mono (M := []) hR (Keep.of_same s12) k0
          · have e : (es.map fun e => (rs.map fun r => r.name).getD e []).contains b = false := e
            rw [hnm] at e
            have a2 := h.same s12
            have p2 := hg.same s12
            refine ⟨_, rfl, _, _, dg, _, _, rfl, s12 _ _ g1, T.cls "Program", T.noat "Program" "entries", pgF_entries, .inl ⟨rfl, _, SqL.of (s12 _ _ g6)⟩, _, rfl, _, rfl, c, _, _, ps, nl, qs, _, rfl, a2, ?_, s2 _ _ hp, hq1.mono s2, ?_⟩
            · exact (at_nR (h) (by
                cases z : H nl with
                | none => rfl
                | some o => exact absurd z (by rw [np]; simp))).1
            · unfold knownName
              rw [takeName_name hb]
              show Res K [c.R] H2 E (match (rs.map fun r => r.name).findIdx? fun y => y == b with | none => .error ⟨8, p⟩ | some k => .ok (k, r)) _
              cases e5 : (rs.map fun r => r.name).findIdx? (fun y => y == b) with
              | none =>
                rw [e5] at hR
                exact FaultE.mono (M := [c.R]) (M' := [c.R, g.le]) hR (Keep.of_same s12) k12
              | some k =>
                rw [e5] at hR e
                have hR : Res K [c.R, g.le] H E (if es.contains k = true then .error ⟨6, p⟩ else .ok (k, r)) _ := hR
                rw [if_neg (by rw [show es.contains k = false from e]; exact Bool.false_ne_true)] at hR
                refine fun H3 a3 k3 => ?_
                have p3 := p2.keep a2 (k3.mono k12)
                have hk : k < rs.length := by
                  have := (List.findIdx?_eq_some_iff_getElem.mp e5).1
                  rwa [List.length_map] at this
                have g63 := p3.el
                refine ⟨g.le, _, _, rfl, rfl, g63, ?_, ?_⟩
                · rw [List.length_map]
                  exact Nat.lt_of_le_of_lt hg.e4 (by decide)
                · have ku : Keep [g.le] H3 (upd H3 g.le (.lst ((es.map fun e => V.int (e : Nat)) ++ [.int (k : Nat)]))) := keep_upd
                  have hlU : ∀ m ∈ [g.le], m ∈ uv c g := fun m hm => by rw [List.mem_singleton.mp hm]; exact hg.u4
                  have sou : Same (off (uv c g) H3) (off (uv c g) (upd H3 g.le (.lst ((es.map fun e => V.int (e : Nat)) ++ [.int (k : Nat)])))) := ku.off hlU
                  obtain ⟨n1, n2, n3, n4, n5⟩ := p3.ne a3
                  obtain ⟨dg, g1⟩ := p3.pg
                  obtain ⟨sas, g4, g5⟩ := p3.sl
                  obtain ⟨pas, g2, g3⟩ := p3.pl
                  have nP : g.P ≠ g.le := ne_of g1 g63 (fun z => by cases z)
                  refine hR _ (a3.keep ku hlU (fun m hm => by
                    rw [List.mem_singleton.mp hm, upd_same]
                    exact fun z => by cases z) (by simpa using n5.symm) (by simpa using hg.c3.symm)) ?_ ((Keep.of_same s12).trans ((k3.mono k12).trans (keep_updM (by simp))))
                  refine { p3 with pg := ⟨dg, by rw [upd_ne nP]; exact g1⟩, sl := ⟨sas, by rw [upd_ne hg.n2]; exact g4, pimp g5 fun _ _ e => e.mono sou⟩, pl := ⟨pas, by rw [upd_ne hg.n3]; exact g2, pimp g3 fun _ _ e => e.mono sou⟩, el := by rw [upd_same, List.map_append]; rfl, e4 := by rw [List.length_append]; exact he4, eb := fun e he => ?_, sn := ?_ }
                  · rcases List.mem_append.mp he with he | he
                    · exact hg.eb e he
                    · rw [List.mem_singleton.mp he]
                      exact hk
                  · rw [List.nodup_append]
                    refine ⟨hg.sn, by simp, fun a ha b hb z => ?_⟩
                    rw [List.mem_singleton.mp hb] at z
                    subst z
                    have e : es.contains a = false := e
                    rw [List.contains_iff_mem.mpr ha] at e
                    cases e
    · rw [takeName_no e1] at hR ⊢
      exact res_fault (M := [c.R, g.le]) hR rfl (Keep.refl _ _) k0
end
end PP

set_option Elab.async false
set_option linter.all false
set_option maxRecDepth 100000
set_option maxHeartbeats 4000000
namespace PP
open PySem PySem.Spec PyProof.Rows L2
open VakepBase (Bytes Fault PTok Toks PName RESERVED word next nextWord taken wrong here takeName takeSign takeWord lex tokens TEXT)
open Vakepa (Raw RawPart Piece Prog takeNat takeStmts pieceOf SIZE DEEP takeStarts STARTS takeSets takeParts solve solveParts read)
/-! ### plain: tokens end with the last one; names behind call -/
theorem lex_ends : ∀ (n i : Nat) (l : Bytes) (ts : Toks), lex n i l = .ok ts → EndsLast ts ∧ ts.length ≤ l.length + 1
  | 0, i, l, ts, h => by
    cases h
    exact ⟨.inl ⟨rfl, rfl⟩, by simp⟩
  | n + 1, i, [], ts, h => by
    cases h
    exact ⟨.inl ⟨rfl, rfl⟩, by simp⟩
  | n + 1, i, c :: r, ts, h => by
    cases e : VakepBase.isBlank c with
    | true =>
      rw [lex_blank e] at h
      obtain ⟨h1, h2⟩ := lex_ends n _ r ts h
      exact ⟨h1, by rw [List.length_cons]; omega⟩
    | false =>
      cases e2 : c == 35 with
      | true =>
        rw [lex_rem e e2] at h
        obtain ⟨h1, h2⟩ := lex_ends n _ _ ts h
        have := dw_le (· != 10) r
        exact ⟨h1, by rw [List.length_cons]; omega⟩
      | false =>
        rw [lex_tokS e e2] at h
        obtain ⟨x, h1, h2⟩ := bind_ok h
        obtain ⟨l2, h3, rfl⟩ := map_ok h2
        obtain ⟨t1, t2, t3⟩ := tok_len h1
        obtain ⟨h4, h5⟩ := lex_ends n _ _ l2 h3
        rw [List.length_drop] at h5
        refine ⟨.inr ⟨t3, h4⟩, ?_⟩
        rw [List.length_cons]
        omega
theorem solve_calls (names : List Bytes) : ∀ r : Raw, (∀ p, (calls r).find? (fun p => !names.contains p.name) = some p → solve names r = .error ⟨9, p.place⟩) ∧ ((calls r).find? (fun p => !names.contains p.name) = none → ∃ st, solve names r = .ok st)
  | .done => ⟨(fun p h => by cases h), fun _ => ⟨_, rfl⟩⟩
  | .say k r => by
    obtain ⟨h1, h2⟩ := solve_calls names r
    refine ⟨fun p h => ?_, fun h => ?_⟩
    · show (solve names r).map _ = _
      rw [h1 p h]
      rfl
    · obtain ⟨st, e⟩ := h2 h
      exact ⟨.say k st, by show (solve names r).map _ = _; rw [e]; rfl⟩
  | .call q r => by
    obtain ⟨h1, h2⟩ := solve_calls names r
    have key : names.contains q.name = true → ∃ k, names.findIdx? (fun y => y == q.name) = some k := fun h => by
      cases e : names.findIdx? (fun y => y == q.name) with
      | some k => exact ⟨k, rfl⟩
      | none =>
        rw [List.findIdx?_eq_none_iff] at e
        have := e q.name (List.contains_iff_mem.mp h)
        simp at this
    refine ⟨fun p h => ?_, fun h => ?_⟩
    · show (match names.findIdx? fun y => y == q.name with | none => _ | some k => _) = _
      rw [calls, List.find?_cons] at h
      cases e : names.contains q.name with
      | true =>
        rw [e] at h
        obtain ⟨k, hk⟩ := key e
        rw [hk]
        show (solve names r).map _ = _
        rw [h1 p h]
        rfl
      | false =>
        rw [e] at h
        cases h
        have : names.findIdx? (fun y => y == q.name) = none := by
          rw [List.findIdx?_eq_none_iff]
          intro x hx
          cases z : x == q.name with
          | false => rfl
          | true =>
            rw [beq_iff_eq] at z
            subst z
            rw [List.contains_iff_mem.mpr hx] at e
            cases e
        rw [this]
    · rw [calls, List.find?_cons] at h
      cases e : names.contains q.name with
      | false => rw [e] at h; cases h
      | true =>
        rw [e] at h
        obtain ⟨k, hk⟩ := key e
        obtain ⟨st, e2⟩ := h2 h
        refine ⟨.call k st, ?_⟩
        show (match names.findIdx? fun y => y == q.name with | none => _ | some k => _) = _
        rw [hk]
        show (solve names r).map _ = _
        rw [e2]
        rfl
  | .make ps r => by
    obtain ⟨h1, h2⟩ := solve_calls names r
    refine ⟨fun p h => ?_, fun h => ?_⟩
    · show (solve names r).map _ = _
      rw [h1 p h]
      rfl
    · obtain ⟨st, e⟩ := h2 h
      exact ⟨.make ps st, by show (solve names r).map _ = _; rw [e]; rfl⟩
  | .when_ x v b r => by
    obtain ⟨h1, h2⟩ := solve_calls names b
    obtain ⟨h3, h4⟩ := solve_calls names r
    refine ⟨fun p h => ?_, fun h => ?_⟩
    · show (solve names b).bind _ = _
      rw [calls, List.find?_append] at h
      cases e : (calls b).find? (fun p => !names.contains p.name) with
      | some q =>
        rw [e] at h
        cases h
        rw [h1 _ e]
        rfl
      | none =>
        rw [e] at h
        obtain ⟨st, e2⟩ := h2 e
        rw [e2]
        show (solve names r).map _ = _
        rw [h3 p h]
        rfl
    · rw [calls, List.find?_append] at h
      cases e : (calls b).find? (fun p => !names.contains p.name) with
      | some q => rw [e] at h; cases h
      | none =>
        rw [e] at h
        obtain ⟨st, e2⟩ := h2 e
        obtain ⟨st2, e3⟩ := h4 h
        refine ⟨.when_ x v st st2, ?_⟩
        show (solve names b).bind _ = _
        rw [e2]
        show (solve names r).map _ = _
        rw [e3]
        rfl
theorem solveParts_calls (names : List Bytes) : ∀ rs : List RawPart, (∀ p, (rs.flatMap fun r => calls r.body).find? (fun p => !names.contains p.name) = some p → solveParts names rs = .error ⟨9, p.place⟩) ∧ ((rs.flatMap fun r => calls r.body).find? (fun p => !names.contains p.name) = none → ∃ st, solveParts names rs = .ok st)
  | [] => ⟨(fun p h => by cases h), fun _ => ⟨_, rfl⟩⟩
  | r :: rs => by
    obtain ⟨h1, h2⟩ := solve_calls names r.body
    obtain ⟨h3, h4⟩ := solveParts_calls names rs
    refine ⟨fun p h => ?_, fun h => ?_⟩
    · show (solve names r.body).bind _ = _
      rw [List.flatMap_cons, List.find?_append] at h
      cases e : (calls r.body).find? (fun p => !names.contains p.name) with
      | some q =>
        rw [e] at h
        cases h
        rw [h1 _ e]
        rfl
      | none =>
        rw [e] at h
        obtain ⟨st, e2⟩ := h2 e
        rw [e2]
        show (solveParts names rs).map _ = _
        rw [h3 p h]
        rfl
    · rw [List.flatMap_cons, List.find?_append] at h
      cases e : (calls r.body).find? (fun p => !names.contains p.name) with
      | some q => rw [e] at h; cases h
      | none =>
        rw [e] at h
        obtain ⟨st, e2⟩ := h2 e
        obtain ⟨st2, e3⟩ := h4 h
        refine ⟨⟨r.name, r.size, st⟩ :: st2, ?_⟩
        show (solve names r.body).bind _ = _
        rw [e2]
        show (solveParts names rs).map _ = _
        rw [e3]
        rfl
/-! ### promises -/
def spReaderI (K : PySem.W.Frag) : Sp := fun vs H Q _ => ∃ (p dx : Addr) (t : V), vs = [.ref p, t] ∧ H p = some (.ins (He.ga K "Reader") dx []) ∧ ∀ (H' : Hp) (cl : Addr), Keep [p] H H' → H cl = none → H' p = some (.ins (He.ga K "Reader") dx (rdF t (.int 0) (.ref cl))) → H' cl = some (.lst []) → Q .non H'
def spProgI (K : PySem.W.Frag) : Sp := fun vs H Q _ => ∃ (p dx : Addr), vs = [.ref p] ∧ H p = some (.ins (He.ga K "Program") dx []) ∧ ∀ (H' : Hp) (ls lp le : Addr), Keep [p] H H' → H ls = none → H lp = none → H le = none → ls ≠ lp → ls ≠ le → lp ≠ le →
  H' p = some (.ins (He.ga K "Program") dx (pgF (.ref ls) (.ref lp) (.ref le))) → H' ls = some (.lst []) → H' lp = some (.lst []) → H' le = some (.lst []) → Q .non H'
theorem rdF_new {t c : V} : putF "called" c (putF "at" (.int 0) (putF "tokens" t [])) = rdF t (.int 0) c := by
  rw [show putF "tokens" t [] = [(("tokens" : Str), t)] from rfl, put_past (by decide +kernel), put_past (by decide +kernel), show putF "at" (.int 0) [] = [(("at" : Str), V.int 0)] from rfl, put_past (by decide +kernel)]
  rfl
theorem pgF_new {s p e : V} : putF "entries" e (putF "parts" p (putF "settings" s [])) = pgF s p e := by
  rw [show putF "settings" s [] = [(("settings" : Str), s)] from rfl, put_past (by decide +kernel), put_past (by decide +kernel), show putF "parts" p [] = [(("parts" : Str), p)] from rfl, put_past (by decide +kernel)]
  rfl
section
variable {P : Program} {w : World} {K : PySem.W.Frag} {mg : Str → Option Value} {base : Heap}
def N_Reader_init : List Str := ["self", "tokens"]
theorem sc_Reader_init : FnScope N_Reader_init ["self", "tokens"] (defScope s_Reader_init) := ⟨rfl, rfl, rfl, by decide +kernel, rfl, by decide +kernel, by decide +kernel⟩
theorem ok_Reader_init (T : Txt K mg) : OkI P w K mg base 1 "Reader" ["self", "tokens"] (spReaderI K) := by
  refine okI_mk T.i_Reader sc_Reader_init (fun vs H Q E h => ?_) (fun qual cdv A outer s H vs Q E hr h => ⟨_, (pss_cons (ps_fld (pv 0) (pv 1) rfl) (pss_cons (ps_fld (pv 0) pe_int rfl) (pss_one (ps_fld (pv 0) (pe_lst pa_nil) rfl)))), ?_⟩)
  · obtain ⟨p, dx, t, rfl, _⟩ := h
    rfl
  · obtain ⟨p, dx, t, rfl, hp, q⟩ := h
    refine ⟨_, rfl, _, rfl, p, _, dx, [], rfl, hp, T.cls "Reader", T.noat "Reader" "tokens", (by show 0 < 1000; decide), ?_⟩
    refine ⟨_, rfl, p, _, dx, _, rfl, upd_same, T.cls "Reader", T.noat "Reader" "at", (by show 1 < 1000; decide), Nat.zero_le _, fun cl ncl => ?_⟩
    rw [upd_upd] at ncl ⊢
    have ne : cl ≠ p := (ne_of_none upd_same ncl).symm
    refine ⟨_, rfl, p, _, dx, _, rfl, (upd_ne ne.symm).trans upd_same, T.cls "Reader", T.noat "Reader" "called", (by show 2 < 1000; decide), ?_⟩
    rw [rdF_new]
    rw [upd_ne ne] at ncl
    refine q _ cl (fun b o hb e => ?_) ncl upd_same (by rw [upd_ne ne]; exact upd_same)
    rw [List.mem_singleton] at hb
    rw [upd_ne hb, upd_ne (ne_of_none e ncl), upd_ne hb]
    exact e
def N_Program_init : List Str := ["self"]
theorem sc_Program_init : FnScope N_Program_init ["self"] (defScope s_Program_init) := ⟨rfl, rfl, rfl, by decide +kernel, rfl, by decide +kernel, by decide +kernel⟩
theorem ok_Program_init (T : Txt K mg) : OkI P w K mg base 1 "Program" ["self"] (spProgI K) := by
  refine okI_mk T.i_Program sc_Program_init (fun vs H Q E h => ?_) (fun qual cdv A outer s H vs Q E hr h => ⟨_, (pss_cons (ps_fld (pv 0) (pe_lst pa_nil) rfl) (pss_cons (ps_fld (pv 0) (pe_lst pa_nil) rfl) (pss_one (ps_fld (pv 0) (pe_lst pa_nil) rfl)))), ?_⟩)
  · obtain ⟨p, dx, rfl, _⟩ := h
    rfl
  · obtain ⟨p, dx, rfl, hp, q⟩ := h
    refine ⟨Nat.zero_le _, fun ls nls => ?_⟩
    have ne1 : ls ≠ p := (ne_of_none hp nls).symm
    refine ⟨_, rfl, p, _, dx, [], rfl, (upd_ne ne1.symm).trans hp, T.cls "Program", T.noat "Program" "settings", (by show 0 < 1000; decide), Nat.zero_le _, fun lp nlp => ?_⟩
    have ne2 : lp ≠ p := (ne_of_none upd_same nlp).symm
    have nlp1 := nlp
    rw [upd_ne ne2] at nlp1
    have ne12 : lp ≠ ls := (ne_of_none upd_same nlp1).symm
    rw [upd_ne ne12] at nlp1
    refine ⟨_, rfl, p, _, dx, _, rfl, (upd_ne ne2.symm).trans upd_same, T.cls "Program", T.noat "Program" "parts", (by show 1 < 1000; decide), Nat.zero_le _, fun le nle => ?_⟩
    have ne3 : le ≠ p := (ne_of_none upd_same nle).symm
    have nle1 := nle
    rw [upd_ne ne3] at nle1
    have ne23 : le ≠ lp := (ne_of_none upd_same nle1).symm
    rw [upd_ne ne23, upd_ne ne3] at nle1
    have ne13 : le ≠ ls := (ne_of_none upd_same nle1).symm
    rw [upd_ne ne13] at nle1
    refine ⟨_, rfl, p, _, dx, _, rfl, (upd_ne ne3.symm).trans upd_same, T.cls "Program", T.noat "Program" "entries", (by show 2 < 1000; decide), ?_⟩
    rw [pgF_new]
    refine q _ ls lp le (fun b o hb e => ?_) nls nlp1 nle1 ne12.symm ne13.symm ne23.symm upd_same ?_ ?_ ?_
    · rw [List.mem_singleton] at hb
      rw [upd_ne hb, upd_ne (ne_of_none e nle1), upd_ne hb, upd_ne (ne_of_none e nlp1), upd_ne hb, upd_ne (ne_of_none e nls)]
      exact e
    · rw [upd_ne ne1, upd_ne ne13.symm, upd_ne ne1, upd_ne ne12.symm, upd_ne ne1]
      exact upd_same
    · rw [upd_ne ne2, upd_ne ne23.symm, upd_ne ne2]
      exact upd_same
    · rw [upd_ne ne3]
      exact upd_same
def N_take_start : List Str := ["reader", "program"]
theorem sc_take_start : FnScope N_take_start ["reader", "program"] (defScope s_take_start) := ⟨rfl, rfl, rfl, by decide +kernel, rfl, by decide +kernel, by decide +kernel⟩
theorem ok_take_start (T : Txt K mg) : Ok P w K mg base 7 "take_start" ["reader", "program"] (spTakeStart K) := by
  have G_token : Ok P w K mg base 1 "token" ["reader"] (spToken K) := ok_token T
  have G_refuse : Ok P w K mg base 3 "refuse" ["is_wrong", "code", "place"] (spRefuse K) := ok_refuse T
  have G_is_next : Ok P w K mg base 2 "is_next" ["reader", "kind", "what"] (spIsNext K) := ok_is_next T
  have G_go_on : Ok P w K mg base 1 "go_on" ["reader"] (spGoOn K) := ok_go_on T
  have G_take : Ok P w K mg base 4 "take" ["reader", "kind", "what"] (spTake K) := ok_take T
  have G_take_entry : Ok P w K mg base 6 "take_entry" ["reader", "program"] (spTakeEntry K) := ok_take_entry T
  refine ok_mk T.d_take_start sc_take_start (fun vs H Q E h => ?_) (fun cdv A outer s H vs Q E hr h => ?_)
  · obtain ⟨c, l, ps, g, ss, rs, rfl, _⟩ := h
    rfl
  · have hr_token : Room 1 _ := hr.mono (by decide)
    have hr_refuse : Room 3 _ := hr.mono (by decide)
    have hr_is_next : Room 2 _ := hr.mono (by decide)
    have hr_go_on : Room 1 _ := hr.mono (by decide)
    have hr_take : Room 4 _ := hr.mono (by decide)
    have hr_take_entry : Room 6 _ := hr
    refine ⟨_, (pss_cons (ps_expr (pe_cX G_take hr_take outE (pa_cons (pv 0) (pa_cons (pe_gl (T.int "WORD" 2)) (pa_cons (pe_gl (T.gV "START")) pa_nil))))) (pss_cons (ps_expr (pe_cX G_take_entry hr_take_entry outE (pa_cons (pv 0) (pa_cons (pv 1) pa_nil)))) (pss_cons (ps_while (passes_of rfl) (pt_val (pe_c G_is_next hr_is_next (pa_cons (pv 0) (pa_cons (pe_gl (T.int "SIGN" 4)) (pa_cons (pe_gl (T.int "COMMA" 44)) pa_nil))))) (pss_cons (ps_expr (pe_c G_go_on hr_go_on (pa_cons (pv 0) pa_nil))) (pss_one (ps_expr (pe_cX G_take_entry hr_take_entry outE (pa_cons (pv 0) (pa_cons (pv 1) pa_nil))))))) (pss_cons (ps_expr (pe_cX G_take hr_take outE (pa_cons (pv 0) (pa_cons (pe_gl (T.int "SIGN" 4)) (pa_cons (pe_gl (T.int "ENDS" 59)) pa_nil))))) (pss_one (ps_expr (pe_cX G_refuse hr_refuse outE (pa_cons (pe_cmpR op_ne (pe_fld (pe_c G_token hr_token (pa_cons (pv 0) pa_nil)) rfl) (pe_gl (T.int "END" 5)) (nomark _)) (pa_cons (pe_gl (T.int "NOT_ALLOWED" 3)) (pa_cons (pe_fld (pe_c G_token hr_token (pa_cons (pv 0) pa_nil)) rfl) pa_nil)))))))))), ?_⟩
    obtain ⟨c, l, ps, g, ss, rs, rfl, h, hg, hR⟩ := h
    have hleC : c.CL ∉ [c.R, g.le] := kp2 h.rc.symm hg.c3.symm
    refine ⟨_, rfl, c, uv c g, l, ps, 2, _, _, rfl, h, what_word (T := T) (s := "start") (T.t_START H) (by decide +kernel) (by decide +kernel), ?_⟩
    cases e0 : taken (.name (word "start")) l with
    | error f =>
      have e1 : takeWord "start" l = .error f := e0
      rw [e1] at hR
      exact res_fault (M := [c.R, g.le]) hR rfl (Keep.refl _ _) k12
    | ok r =>
      have e1 : takeWord "start" l = .ok r := e0
      rw [e1] at hR
      have hR : Res K [c.R, g.le] H E (takeStarts (rs.map fun r => r.name) (r.length + 1) [] r) _ := hR
      rw [starts_succ] at hR
      refine fun H1 a1 k1 => ?_
      have p1 := hg.keep h (k1.mono k12)
      have kk1 : Keep [c.R, g.le] H H1 := k1.mono k12
      refine ⟨_, rfl, _, rfl, c, r, ps, g, ss, rs, [], rfl, a1, p1, ?_⟩
      cases e2 : oneEntry (rs.map fun r => r.name) [] r with
      | error f =>
        rw [e2] at hR
        exact res_fault (M := [c.R, g.le]) hR rfl kk1 fun _ h => h
      | ok x2 =>
        rw [e2] at hR
        have l2 := oneEntry_len e2
        refine fun H2 a2 p2 k2 => ?_
        let W : Nat → L2.St → Hp → Prop := fun m σ H' => ∃ (l : Toks) (es : List Nat), σ = [some (.ref c.R), some (.ref g.P)] ∧ At K c (uv c g) H' l ps ∧ PgA K c (uv c g) H' g ss rs es ∧ Keep [c.R, g.le] H H' ∧ l.length < m ∧
          Res K [c.R, g.le] H E (if next (.sign 44) l = true then takeStarts (rs.map fun r => r.name) m es (l.drop 1) else (takeSign 59 l).bind fun m => lastToks es m) fun es => ∀ (H' : Hp) (l' : Toks), At K c (uv c g) H' l' ps → PgA K c (uv c g) H' g ss rs es → Keep [c.R, g.le] H H' → Q .non H'
        refine ⟨W, ⟨r.length, x2.2, [x2.1], rfl, a2, p2, kk1.trans k2, l2, hR⟩, ?_⟩
        rintro m σ H3 ⟨l, es, rfl, a3, p3, k3, hlt, hR3⟩
        refine ⟨_, rfl, c, uv c g, l, ps, 4, _, .sign 44, rfl, a3, .inl ⟨44, rfl, rfl, rfl⟩, _, rfl, if_both (fun e => ?_) fun e => ?_⟩
        · rw [if_pos e] at hR3
          obtain ⟨t, r3, rfl, htl⟩ := next_tok e (fun z => by cases z)
          obtain ⟨m, rfl⟩ : ∃ k, m = k + 1 := ⟨m - 1, by omega⟩
          refine ⟨fun σ' H' => ∃ m', m' < m + 1 ∧ W m' σ' H', fun _ _ h => h, _, rfl, c, uv c g, t, r3, ps, rfl, a3, htl, fun H4 a4 k4 => ?_⟩
          have p4 := p3.keep a3 (k4.mono k12)
          have hR4 : Res K [c.R, g.le] H E (takeStarts (rs.map fun r => r.name) (m + 1) es r3) _ := hR3
          rw [starts_succ] at hR4
          refine ⟨_, rfl, _, rfl, c, r3, ps, g, ss, rs, es, rfl, a4, p4, ?_⟩
          cases e5 : oneEntry (rs.map fun r => r.name) es r3 with
          | error f =>
            rw [e5] at hR4
            exact res_fault (M := [c.R, g.le]) hR4 rfl (k3.trans (k4.mono k12)) fun _ h => h
          | ok x5 =>
            rw [e5] at hR4
            have l5 := oneEntry_len e5
            refine fun H5 a5 p5 k5 => ⟨m, Nat.lt_succ_self _, x5.2, es ++ [x5.1], rfl, a5, p5, (k3.trans (k4.mono k12)).trans k5, ?_, hR4⟩
            rw [List.length_cons] at hlt
            omega
        · rw [if_neg (by rw [e]; exact Bool.false_ne_true)] at hR3
          refine ⟨_, rfl, c, uv c g, l, ps, 4, _, .sign 59, rfl, a3, .inl ⟨59, rfl, rfl, rfl⟩, ?_⟩
          cases e4 : taken (.sign 59) l with
          | error f =>
            have e5 : takeSign 59 l = .error f := e4
            rw [e5] at hR3
            exact res_fault (M := [c.R, g.le]) hR3 rfl k3 k12
          | ok r4 =>
            have e5 : takeSign 59 l = .ok r4 := e4
            rw [e5] at hR3
            have hR3 : Res K [c.R, g.le] H E (lastToks es r4) _ := hR3
            refine fun H4 a4 k4 => ?_
            have p4 := p3.keep a3 (k4.mono k12)
            obtain ⟨t, r, rfl⟩ := at_head a4
            refine ⟨_, rfl, c, uv c g, _, ps, rfl, a4, fun a t' r' el ⟨dx, v, h1, h2⟩ => ?_⟩
            cases el
            refine ⟨a, _, dx, _, _, rfl, (off_some h1).2, T.cls "Token", T.noat "Token" "kind", tokF_kind, rfl, _, rfl, c, uv c g, _, ps, rfl, a4, fun a' t' r' el ⟨dx', v', h1', h2'⟩ => ?_⟩
            cases el
            refine ⟨a', _, dx', _, _, rfl, (off_some h1').2, T.cls "Token", T.noat "Token" "place", tokF_place, _, ⟨3, t.place⟩, rfl, fun e6 => ?_, fun e6 => ?_⟩
            · have e6 : kindOf t.tok ≠ 5 := by simpa using e6
              have e7 : lastToks es (t :: r) = .error ⟨3, t.place⟩ := by
                unfold lastToks
                rw [if_neg]
                · rfl
                · intro z
                  rw [next_cons] at z
                  obtain ⟨p, tk⟩ := t
                  cases tk with
                  | last => exact e6 rfl
                  | _ => cases z
              rw [e7] at hR3
              exact FaultE.mono (M := []) hR3 (k3.trans (k4.mono k12)) (fun b hb => by simp at hb)
            · have e6 : kindOf t.tok = 5 := by simpa using e6
              have e7 : lastToks es (t :: r) = .ok es := by
                unfold lastToks
                rw [if_pos]
                rw [next_cons, kind5 e6]
                rfl
              rw [e7] at hR3
              exact hR3 H4 _ a4 p4 (k3.trans (k4.mono k12))
end
end PP

set_option Elab.async false
set_option linter.all false
set_option maxRecDepth 100000
set_option maxHeartbeats 4000000
namespace PP
open PySem PySem.Spec PyProof.Rows L2
open VakepBase (Bytes Fault PTok Toks PName RESERVED word next nextWord taken wrong here takeName takeSign takeWord lex tokens TEXT)
open Vakepa (Raw RawPart Piece Prog takeNat takeStmts pieceOf SIZE DEEP takeStarts STARTS takeSets takeParts solve solveParts read takeValues PIECES)
/-! ### plain: what a read program keeps -/
def Small (l : Toks) : Prop := ∀ t ∈ l, ∀ b, t.tok = .name b → b.length ≤ 16
theorem Small.drop {l : Toks} (h : Small l) (n : Nat) : Small (l.drop n) := fun t ht => h t (List.mem_of_mem_drop ht)
theorem tok_small {l : Bytes} {i : Nat} {x : VakepBase.Tok × Nat} (h : tokRes l i = .ok x) : ∀ b, x.1 = .name b → b.length ≤ 16 := fun b e => by
  cases l with
  | nil => cases h
  | cons c r =>
    cases e1 : VakepBase.isLetter c with
    | true =>
      by_cases l : 16 < ((c :: r).takeWhile fun c => VakepBase.isLetter c || VakepBase.isDigit c).length
      · rw [tok_long i e1 l] at h
        cases h
      · rw [tok_name i e1 l] at h
        cases h
        cases e
        omega
    | false =>
      cases e2 : VakepBase.isDigit c with
      | true =>
        rw [tok_num i e1 e2] at h
        obtain ⟨n, _, rfl⟩ := map_ok h
        cases e
      | false =>
        cases e3 : VakepBase.SIGNS.contains c with
        | true =>
          rw [tok_sign i e3] at h
          cases h
          cases e
        | false =>
          rw [tok_none i e3 e1 e2] at h
          cases h
theorem lex_small : ∀ (n i : Nat) (l : Bytes) (ts : Toks), lex n i l = .ok ts → Small ts
  | 0, i, l, ts, h => by
    cases h
    intro t ht b e
    rw [List.mem_singleton.mp ht] at e
    cases e
  | n + 1, i, [], ts, h => by
    cases h
    intro t ht b e
    rw [List.mem_singleton.mp ht] at e
    cases e
  | n + 1, i, c :: r, ts, h => by
    cases e : VakepBase.isBlank c with
    | true =>
      rw [lex_blank e] at h
      exact lex_small n _ r ts h
    | false =>
      cases e2 : c == 35 with
      | true =>
        rw [lex_rem e e2] at h
        exact lex_small n _ _ ts h
      | false =>
        rw [lex_tokS e e2] at h
        obtain ⟨x, h1, h2⟩ := bind_ok h
        obtain ⟨l2, h3, rfl⟩ := map_ok h2
        have h4 := lex_small n _ _ l2 h3
        intro t ht b eb
        rcases List.mem_cons.mp ht with rfl | ht
        · exact tok_small h1 b eb
        · exact h4 t ht b eb
theorem taken_small {k : VakepBase.Tok} {l r : Toks} (h : taken k l = .ok r) (s : Small l) : Small r := by
  unfold taken at h
  split at h
  · cases h
    exact s.drop 1
  · cases h
theorem takeName_small {l : Toks} {x : PName × Toks} (h : takeName l = .ok x) (s : Small l) : Small x.2 ∧ x.1.name.length ≤ 16 := by
  cases l with
  | nil => cases h
  | cons t r =>
    by_cases e1 : kindOf t.tok = 1
    · obtain ⟨p, b, rfl, hb⟩ := kind1 e1
      rw [takeName_name hb] at h
      cases h
      exact ⟨s.drop 1, s _ List.mem_cons_self b rfl⟩
    · rw [takeName_no e1] at h
      cases h
theorem takeNat_small {m : Nat} {l : Toks} {x : Nat × Toks} (h : takeNat m l = .ok x) (s : Small l) : Small x.2 := by
  unfold takeNat at h
  split at h
  · split at h
    · cases h
    · cases h
      exact s.drop 1
  · cases h
theorem knownName_small {bs : List Bytes} {l : Toks} {x : Nat × Toks} (h : knownName bs l = .ok x) (s : Small l) : Small x.2 ∧ x.1 < bs.length := by
  unfold knownName at h
  obtain ⟨y, h1, h2⟩ := bind_ok h
  split at h2
  · cases h2
  · rename_i k hk
    cases h2
    exact ⟨(takeName_small h1 s).1, (List.findIdx?_eq_some_iff_getElem.mp hk).1⟩
theorem newName_small {o : Option Nat} {cd : Nat} {bs : List Bytes} {l : Toks} {x : PName × Toks} (h : newName o cd bs l = .ok x) (s : Small l) : Small x.2 ∧ x.1.name.length ≤ 16 := by
  unfold newName at h
  obtain ⟨y, h1, h2⟩ := bind_ok h
  split at h2
  · cases h2
  · split at h2
    · cases h2
    · cases h2
      exact takeName_small h1 s
theorem takeNamesP_small : ∀ {n : Nat} {bs : List Bytes} {l : Toks} {x : List Bytes × Toks}, takeNamesP n bs l = .ok x → Small l → (∀ b ∈ bs, b.length ≤ 16) → Small x.2 ∧ (∀ b ∈ x.1, b.length ≤ 16) ∧ x.1.length ≤ 3
  | 0, _, _, _, h, _, _ => by cases h
  | n + 1, bs, l, x, h, s, hb => by
    unfold takeNamesP at h
    obtain ⟨y, h1, h2⟩ := bind_ok h
    unfold onePiece at h1
    obtain ⟨z, h3, h4⟩ := bind_ok h1
    split at h4
    · cases h4
    · rename_i hl
      cases h4
      obtain ⟨s1, s2⟩ := takeName_small h3 s
      have hb2 : ∀ b ∈ bs ++ [y.1.name], b.length ≤ 16 := fun b hm => by
        rcases List.mem_append.mp hm with hm | hm
        · exact hb b hm
        · rw [List.mem_singleton.mp hm]
          exact s2
      split at h2
      · exact takeNamesP_small h2 (s1.drop 1) hb2
      · obtain ⟨m, h5, rfl⟩ := map_ok h2
        refine ⟨taken_small h5 s1, hb2, ?_⟩
        rw [List.length_append]
        unfold PIECES at hl
        show bs.length + 1 ≤ 3
        omega
def RawOk (ss : List Vakepa.Setting) : Nat → Raw → Prop
  | _, .done => True
  | d, .say _ r => RawOk ss d r
  | d, .call _ r => RawOk ss d r
  | d, .make ps r => ((∀ q ∈ ps, ∀ b, q = Piece.word b → b.length ≤ 16) ∧ ps.length ≤ 3) ∧ RawOk ss d r
  | d, .when_ x _ b r => (x < ss.length ∧ 0 < d) ∧ RawOk ss (d - 1) b ∧ RawOk ss d r
theorem piece_small {ss : List Vakepa.Setting} {bs : List Bytes} (h : ∀ b ∈ bs, b.length ≤ 16) : ∀ q ∈ bs.map (pieceOf ss), ∀ b, q = Piece.word b → b.length ≤ 16 := fun q hq b e => by
  obtain ⟨c, hc, rfl⟩ := List.mem_map.mp hq
  unfold pieceOf at e
  split at e
  · cases e
  · cases e
    exact h _ hc
mutual
theorem one_ok (ss : List Vakepa.Setting) : ∀ (n d : Nat) (l : Toks) (x : (Raw → Raw) × Toks), oneStmt ss n d l = .ok x → Small l → d ≤ 3 → Small x.2 ∧ ∀ r, RawOk ss (3 - d) r → RawOk ss (3 - d) (x.1 r) := fun n d l x h s hd => by
  unfold oneStmt at h
  split at h
  · obtain ⟨y, h1, rfl⟩ := map_ok h
    obtain ⟨z, h2, h3⟩ := bind_ok h1
    obtain ⟨m, h4, rfl⟩ := map_ok h3
    exact ⟨taken_small h4 (takeNat_small h2 (s.drop 1)), fun r hr => hr⟩
  split at h
  · obtain ⟨y, h1, rfl⟩ := map_ok h
    obtain ⟨z, h2, h3⟩ := bind_ok h1
    obtain ⟨m, h4, rfl⟩ := map_ok h3
    exact ⟨taken_small h4 (takeName_small h2 (s.drop 1)).1, fun r hr => hr⟩
  split at h
  · obtain ⟨y, h1, rfl⟩ := map_ok h
    obtain ⟨s1, s2, s3⟩ := takeNamesP_small h1 (s.drop 1) (fun b hb => by simp at hb)
    exact ⟨s1, fun r hr => ⟨⟨piece_small s2, by rw [List.length_map]; exact s3⟩, hr⟩⟩
  obtain ⟨r, h1, h2⟩ := bind_ok h
  have s1 := taken_small h1 s
  unfold whenRest at h2
  split at h2
  · cases h2
  rename_i hd2
  obtain ⟨y, h3, h4⟩ := bind_ok h2
  obtain ⟨s2, l2⟩ := knownName_small h3 s1
  obtain ⟨r2, h5, h6⟩ := bind_ok h4
  have s3 := taken_small h5 s2
  obtain ⟨v, h7, h8⟩ := bind_ok h6
  have s4 := (knownName_small h7 s3).1
  obtain ⟨b, h9, rfl⟩ := map_ok h8
  obtain ⟨r3, h10, h11⟩ := bind_ok h9
  have s5 := taken_small h10 s4
  unfold DEEP at hd2
  obtain ⟨s6, o6⟩ := stmts_ok ss n (d + 1) r3 b h11 s5 (by omega)
  refine ⟨s6, fun r hr => ⟨⟨by rw [List.length_map] at l2; exact l2, by omega⟩, ?_, hr⟩⟩
  rw [show 3 - d - 1 = 3 - (d + 1) by omega]
  exact o6
termination_by n => (n, 1)
theorem stmts_ok (ss : List Vakepa.Setting) : ∀ (n d : Nat) (l : Toks) (x : Raw × Toks), takeStmts ss n d l = .ok x → Small l → d ≤ 3 → Small x.2 ∧ RawOk ss (3 - d) x.1
  | 0, _, _, _, h, _, _ => by cases h
  | n + 1, d, l, x, h, s, hd => by
    rw [stmts_succ] at h
    split at h
    · cases h
      exact ⟨s.drop 1, trivial⟩
    · obtain ⟨y, h1, h2⟩ := bind_ok h
      obtain ⟨z, h3, rfl⟩ := map_ok h2
      obtain ⟨s1, o1⟩ := one_ok ss n d l y h1 s hd
      obtain ⟨s2, o2⟩ := stmts_ok ss n d y.2 z h3 s1 hd
      exact ⟨s2, o1 _ o2⟩
termination_by n => (n, 0)
end
theorem values_ok : ∀ {n : Nat} {vs : List Bytes} {l : Toks} {x : List Bytes × Toks}, takeValues n vs l = .ok x → Small l → (∀ b ∈ vs, b.length ≤ 16) → Small x.2 ∧ (∀ b ∈ x.1, b.length ≤ 16) ∧ 1 ≤ x.1.length ∧ x.1.length ≤ 4
  | 0, _, _, _, h, _, _ => by cases h
  | n + 1, vs, l, x, h, s, hb => by
    rw [values_succ] at h
    obtain ⟨y, h1, h2⟩ := bind_ok h
    obtain ⟨s1, s2⟩ := newName_small h1 s
    have hv4 : vs.length < 4 := by
      unfold newName at h1
      obtain ⟨y, _, h2⟩ := bind_ok h1
      split at h2
      · cases h2
      · rename_i z
        have z : ¬ decide (4 ≤ vs.length) = true := z
        have := of_decide_eq_false (by simpa using z : decide (4 ≤ vs.length) = false)
        omega
    have hb2 : ∀ b ∈ vs ++ [y.1.name], b.length ≤ 16 := fun b hm => by
      rcases List.mem_append.mp hm with hm | hm
      · exact hb b hm
      · rw [List.mem_singleton.mp hm]
        exact s2
    split at h2
    · exact values_ok h2 (s1.drop 1) hb2
    · obtain ⟨m, h5, rfl⟩ := map_ok h2
      refine ⟨taken_small h5 s1, hb2, ?_, ?_⟩
      · rw [List.length_append]
        show 1 ≤ vs.length + 1
        omega
      · rw [List.length_append]
        show vs.length + 1 ≤ 4
        omega
def SetOk (s : Vakepa.Setting) : Prop := (∀ b ∈ s.values, b.length ≤ 16) ∧ 1 ≤ s.values.length ∧ s.values.length ≤ 4
theorem oneSet_ok {ss : List Vakepa.Setting} {l : Toks} {x : Vakepa.Setting × Toks} (h : oneSet ss l = .ok x) (s : Small l) : Small x.2 ∧ SetOk x.1 := by
  unfold oneSet at h
  obtain ⟨r0, h1, h2⟩ := bind_ok h
  have s1 : Small r0 := by
    unfold takeWordN at h1
    split at h1
    · cases h1
    · exact taken_small h1 s
  obtain ⟨y, h3, h4⟩ := bind_ok h2
  have s2 := (newName_small h3 s1).1
  obtain ⟨r, h5, h6⟩ := bind_ok h4
  have s3 := taken_small h5 s2
  obtain ⟨v, h7, rfl⟩ := map_ok h6
  obtain ⟨s4, o1, o2, o3⟩ := values_ok h7 s3 (fun b hb => by simp at hb)
  exact ⟨s4, o1, o2, o3⟩
theorem onePart_ok {ss : List Vakepa.Setting} {rs : List RawPart} {l : Toks} {x : RawPart × Toks} (h : onePart ss rs l = .ok x) (s : Small l) : Small x.2 ∧ RawOk ss 3 x.1.body := by
  unfold onePart at h
  obtain ⟨r0, h1, h2⟩ := bind_ok h
  have s1 : Small r0 := by
    unfold takeWordN at h1
    split at h1
    · cases h1
    · exact taken_small h1 s
  obtain ⟨y, h3, h4⟩ := bind_ok h2
  have s2 := (newName_small h3 s1).1
  obtain ⟨r, h5, h6⟩ := bind_ok h4
  have s3 := taken_small h5 s2
  obtain ⟨k, h7, h8⟩ := bind_ok h6
  have s4 := takeNat_small h7 s3
  obtain ⟨b, h9, rfl⟩ := map_ok h8
  obtain ⟨r2, h10, h11⟩ := bind_ok h9
  have s5 := taken_small h10 s4
  obtain ⟨s6, o⟩ := stmts_ok _ _ _ _ _ h11 s5 (by decide)
  exact ⟨s6, o⟩
theorem starts_ne (names : List Bytes) : ∀ (n : Nat) (es : List Nat) (l : Toks) (x : List Nat), takeStarts names n es l = .ok x → x ≠ []
  | 0, _, _, _, h => by cases h
  | n + 1, es, l, x, h => by
    rw [starts_succ] at h
    obtain ⟨y, h1, h2⟩ := bind_ok h
    split at h2
    · exact starts_ne names n _ _ x h2
    · obtain ⟨m, h3, h4⟩ := bind_ok h2
      unfold lastToks at h4
      split at h4
      · cases h4
        simp
      · cases h4
end PP

set_option Elab.async false
set_option linter.all false
set_option maxRecDepth 100000
set_option maxHeartbeats 4000000
namespace PP
open PySem PySem.Spec PyProof.Rows L2
open VakepBase (Bytes Fault PTok Toks PName RESERVED word next nextWord taken wrong here takeName takeSign takeWord lex tokens TEXT)
open Vakepa (Raw RawPart Piece Prog takeNat takeStmts pieceOf SIZE DEEP takeStarts STARTS takeSets takeParts solve solveParts read)
/-! ### a whole program in the heap -/
structure ProgAt (K : PySem.W.Frag) (H : Hp) (a : Addr) (p : Prog) : Prop where
  ex : ∃ (dx ls lp le : Addr) (sas pas : List Addr) (rs : List RawPart), H a = some (.ins (He.ga K "Program") dx (pgF (.ref ls) (.ref lp) (.ref le))) ∧ H ls = some (.lst (sas.map V.ref)) ∧ Paired (SetAt K H) sas p.sets ∧
    H lp = some (.lst (pas.map V.ref)) ∧ Paired (PartAt K p.sets H) pas rs ∧ H le = some (.lst (p.starts.map fun e => V.int (e : Nat))) ∧ solveParts (rs.map fun r => r.name) rs = .ok p.parts ∧ rs.length ≤ 10 ∧
    (∀ r ∈ rs, RawOk p.sets 3 r.body) ∧ ∀ e ∈ p.starts, e < rs.length
  so : ∀ s ∈ p.sets, SetOk s
  s3 : p.sets.length ≤ 3
  e4 : p.starts.length ≤ 4
  en : p.starts ≠ []
  sn : p.starts.Nodup
theorem ProgAt.mono {K : PySem.W.Frag} {H H' : Hp} {a : Addr} {p : Prog} (s : Same H H') (h : ProgAt K H a p) : ProgAt K H' a p := by
  obtain ⟨dx, ls, lp, le, sas, pas, rs, h1, h2, h3, h4, h5, h6, h7⟩ := h.ex
  exact { h with ex := ⟨dx, ls, lp, le, sas, pas, rs, s _ _ h1, s _ _ h2, pimp h3 fun _ _ e => e.mono s, s _ _ h4, pimp h5 fun _ _ e => e.mono s, s _ _ h6, h7⟩ }
/-- the program's own lists are new -/
def ProgNew (K : PySem.W.Frag) (H H' : Hp) (a : Addr) : Prop := ∃ dx ls lp le, H' a = some (.ins (He.ga K "Program") dx (pgF (.ref ls) (.ref lp) (.ref le))) ∧ H ls = none ∧ H lp = none ∧ H le = none
def spProgOf (K : PySem.W.Frag) : Sp := fun vs H Q E => ∃ (a : Addr) (b : Bytes), vs = [.ref a] ∧ SqL K H a (nm b) ∧ Res K [] H E (read b) fun p => ∀ (H' : Hp) (pa : Addr), Same H H' → H pa = none → ProgNew K H H' pa → ProgAt K H' pa p → Q (.ref pa) H'
def restStart (ss : List Vakepa.Setting) (p : List RawPart × Toks) : Except Fault Prog := (takeWord "start" p.2).bind fun r => (takeStarts (p.1.map fun x => x.name) (r.length + 1) [] r).bind fun e => (solveParts (p.1.map fun x => x.name) p.1).map fun ps => ⟨ss, ps, e⟩
def restParts (s : List Vakepa.Setting × Toks) : Except Fault Prog := (takeParts s.1 (s.2.length + 1) [] s.2).bind fun p => restStart s.1 p
theorem read_eq (b : Bytes) : read b = (tokens b).bind fun l => (takeSets (l.length + 1) [] l).bind fun s => restParts s := rfl
theorem mem_uv {c : Rc} {g : Pc} {b : Addr} (h : b ∈ uv c g) : b = c.R ∨ b = c.CL ∨ b = g.P ∨ b = g.ls ∨ b = g.lp ∨ b = g.le := by
  simpa [uv] using h
theorem res_mono0 {α : Type} {K : PySem.W.Frag} {H H1 : Hp} {M : List Addr} {E : XK} {r : Except Fault α} {ok : α → Prop} {f : Fault} (h : Res K [] H E r ok) (e : r = .error f) (k : ∀ H', Keep M H1 H' → Same H H') : FaultE K M H1 E f := by
  rw [e] at h
  exact fun d H' kp ed => h d H' (Keep.of_same (k H' kp)) ed
section
variable {P : Program} {w : World} {K : PySem.W.Frag} {mg : Str → Option Value} {base : Heap}
def N_program_of : List Str := ["text", "reader", "program", "names", "name", "place"]
theorem sc_program_of : FnScope N_program_of ["text"] (defScope s_program_of) := ⟨rfl, rfl, rfl, by decide +kernel, rfl, by decide +kernel, by decide +kernel⟩
theorem ok_program_of (T : Txt K mg) : Ok P w K mg base 20 "program_of" ["text"] (spProgOf K) := by
  have G_token : Ok P w K mg base 1 "token" ["reader"] (spToken K) := ok_token T
  have G_refuse : Ok P w K mg base 3 "refuse" ["is_wrong", "code", "place"] (spRefuse K) := ok_refuse T
  have G_is_next : Ok P w K mg base 2 "is_next" ["reader", "kind", "what"] (spIsNext K) := ok_is_next T
  have G_tokens_of : Ok P w K mg base 6 "tokens_of" ["text"] (spTokensOf K) := ok_tokens_of T
  have G_take_setting : Ok P w K mg base 6 "take_setting" ["reader", "program"] (spTakeSetting K) := ok_take_setting T
  have G_take_part : Ok P w K mg base 19 "take_part" ["reader", "program"] (spTakePart K) := ok_take_part T
  have G_take_start : Ok P w K mg base 7 "take_start" ["reader", "program"] (spTakeStart K) := ok_take_start T
  have G_part_names : Ok P w K mg base 1 "part_names" ["program"] (spPartNames K) := ok_part_names T
  have G_Reader_init : OkI P w K mg base 1 "Reader" ["self", "tokens"] (spReaderI K) := ok_Reader_init T
  have G_Program_init : OkI P w K mg base 1 "Program" ["self"] (spProgI K) := ok_Program_init T
  refine ok_mk T.d_program_of sc_program_of (fun vs H Q E h => ?_) (fun cdv A outer s H vs Q E hr h => ?_)
  · obtain ⟨a, b, rfl, _⟩ := h
    rfl
  · have hr_token : Room 1 _ := hr.mono (by decide)
    have hr_refuse : Room 3 _ := hr.mono (by decide)
    have hr_is_next : Room 2 _ := hr.mono (by decide)
    have hr_tokens_of : Room 6 _ := hr.mono (by decide)
    have hr_take_setting : Room 6 _ := hr.mono (by decide)
    have hr_take_part : Room 19 _ := hr
    have hr_take_start : Room 7 _ := hr.mono (by decide)
    have hr_part_names : Room 1 _ := hr.mono (by decide)
    have hr_Reader : Room (1 + 1) _ := hr.mono (by decide)
    have hr_Program : Room (1 + 1) _ := hr.mono (by decide)
    refine ⟨_, (pss_cons (ps_expr (pe_cX G_refuse hr_refuse outE (pa_cons (pe_cmpR op_gt (pe_callB call_len (by rfl) (T.free "len") PySem.boot_len (pa_cons (pv 0) pa_nil)) (pe_gl (T.int "MOST_BYTES" 4096)) (nomark _)) (pa_cons (pe_gl (T.int "TOO_LONG" 1)) (pa_cons (pe_gl (T.int "MOST_BYTES" 4096)) pa_nil))))) (pss_cons (ps_set (i := 1) sc_program_of.nd rfl (Or.inl rfl) (pe_mkI (T.mkr "Reader") G_Reader_init hr_Reader (T.g "Reader") (pa_cons (pe_cX G_tokens_of hr_tokens_of outE (pa_cons (pv 0) pa_nil)) pa_nil))) (pss_cons (ps_set (i := 2) sc_program_of.nd rfl (Or.inl rfl) (pe_mkI0 (T.mkr "Program") G_Program_init hr_Program (T.g "Program"))) (pss_cons (ps_while (passes_of rfl) (pt_val (pe_c G_is_next hr_is_next (pa_cons (pv 1) (pa_cons (pe_gl (T.int "WORD" 2)) (pa_cons (pe_gl (T.gV "SET")) pa_nil))))) (pss_one (ps_expr (pe_cX G_take_setting hr_take_setting outE (pa_cons (pv 1) (pa_cons (pv 2) pa_nil)))))) (pss_cons (ps_expr (pe_cX G_refuse hr_refuse outE (pa_cons (pe_not (pe_c G_is_next hr_is_next (pa_cons (pv 1) (pa_cons (pe_gl (T.int "WORD" 2)) (pa_cons (pe_gl (T.gV "PART")) pa_nil))))) (pa_cons (pe_gl (T.int "NOT_ALLOWED" 3)) (pa_cons (pe_fld (pe_c G_token hr_token (pa_cons (pv 1) pa_nil)) rfl) pa_nil))))) (pss_cons (ps_while (passes_of rfl) (pt_val (pe_c G_is_next hr_is_next (pa_cons (pv 1) (pa_cons (pe_gl (T.int "WORD" 2)) (pa_cons (pe_gl (T.gV "PART")) pa_nil))))) (pss_one (ps_expr (pe_cX G_take_part hr_take_part outE (pa_cons (pv 1) (pa_cons (pv 2) pa_nil)))))) (pss_cons (ps_expr (pe_cX G_take_start hr_take_start outE (pa_cons (pv 1) (pa_cons (pv 2) pa_nil)))) (pss_cons (ps_set (i := 3) sc_program_of.nd rfl (Or.inl rfl) (pe_c G_part_names hr_part_names (pa_cons (pv 2) pa_nil))) (pss_cons (ps_for (passes_of rfl) rfl (pi_list (pe_fld (pv 1) rfl)) (pg_tup (by rfl) (pgs_cons (pg_name (i := 4) sc_program_of.nd rfl (Or.inl rfl)) (pgs_cons (pg_name (i := 5) sc_program_of.nd rfl (Or.inl rfl)) pgs_nil))) (pss_one (ps_expr (pe_cX G_refuse hr_refuse outE (pa_cons (pe_cmpR (op_notInNL hr.u65) (pv 4) (pv 3) (by rfl)) (pa_cons (pe_gl (T.int "NO_PART_reading" 9)) (pa_cons (pv 5) pa_nil))))))) (pss_one (ps_ret (pv 2)))))))))))), ?_⟩
    obtain ⟨a, b, rfl, hS, hR⟩ := h
    rw [read_eq] at hR
    unfold tokens at hR
    refine ⟨_, rfl, _, _, rfl, .inl ⟨_, hS, (nm_len b).symm⟩, _, _, rfl, rfl, _, ⟨1, 4096⟩, rfl, fun e => ?_, fun e => ?_⟩
    · have e2 : TEXT < b.length := by
        have := of_decide_eq_true e
        unfold TEXT
        omega
      rw [if_pos e2] at hR
      exact hR
    have e2 : ¬ TEXT < b.length := by
      have := of_decide_eq_false e
      unfold TEXT
      omega
    rw [if_neg e2] at hR
    have hb : b.length ≤ 4096 := by
      unfold TEXT at e2
      omega
    -- reader = Reader(tokens_of(text))
    refine ⟨_, rfl, a, b, rfl, hS, hb, ?_⟩
    cases e3 : lex (b.length + 1) 0 b with
    | error f =>
      rw [e3] at hR
      exact hR
    | ok toks =>
      rw [e3] at hR
      have hR : Res K [] H E ((takeSets (toks.length + 1) [] toks).bind fun s => restParts s) _ := hR
      obtain ⟨el, tlen⟩ := lex_ends _ _ _ _ e3
      refine fun H1 tl as s1 ntl htl hts x dx nx ndx nex => ⟨x, dx, _, rfl, upd_same, fun H2 cl k2 ncl hx2 hcl2 => ⟨rfl, ?_⟩⟩
      have sA : Same H1 (upd (upd H1 dx (.own x)) x (.ins (He.ga K "Reader") dx [])) := new2 nx ndx
      have s2 : Same H1 H2 := fun c o e => k2 c o (by
        rw [List.mem_singleton]
        exact ne_of_none e nx) (sA _ _ e)
      have ncl1 : H1 cl = none := sA.free ncl
      -- program = Program()
      refine fun y dy ny ndy ney => ⟨y, dy, rfl, upd_same, fun H3 ls lp le k3 nls nlp nle n1 n2 n3 hy3 hls hlp hle => ⟨rfl, ?_⟩⟩
      have sB : Same H2 (upd (upd H2 dy (.own y)) y (.ins (He.ga K "Program") dy [])) := new2 ny ndy
      have s3 : Same H2 H3 := fun c o e => k3 c o (by
        rw [List.mem_singleton]
        exact ne_of_none e ny) (sB _ _ e)
      obtain ⟨c, hc⟩ : ∃ c : Rc, c = ⟨x, tl, cl, as, toks⟩ := ⟨_, rfl⟩
      obtain ⟨g, hg⟩ : ∃ g : Pc, g = ⟨y, ls, lp, le⟩ := ⟨_, rfl⟩
      have nls2 := sB.free nls
      have nlp2 := sB.free nlp
      have nle2 := sB.free nle
      have new1 : ∀ u ∈ uv c g, H1 u = none := fun u hu => by
        subst hc hg
        rcases mem_uv hu with rfl | rfl | rfl | rfl | rfl | rfl
        · exact nx
        · exact ncl1
        · exact s2.free ny
        · exact s2.free nls2
        · exact s2.free nlp2
        · exact s2.free nle2
      have new0 : ∀ u ∈ uv c g, H u = none := fun u hu => s1.free (new1 u hu)
      have sO : Same H1 (off (uv c g) H3) := fun c' o e => off_get (fun z => by rw [new1 _ z] at e; cases e) (s3 _ _ (s2 _ _ e))
      have hx3 : H3 x = some (.ins (He.ga K "Reader") dx (rdF (.ref tl) (.int 0) (.ref cl))) := s3 _ _ hx2
      have hcl3 : H3 cl = some (.lst []) := s3 _ _ hcl2
      have a3 : At K c (uv c g) H3 toks [] := by
        subst hc hg
        refine ⟨⟨dx, 0, hx3, rfl⟩, sO _ _ htl, pimp hts fun _ _ t => t.mono sO, ⟨[], hcl3, .nil⟩, el, by simp [uv], by simp [uv], fun u hu => ?_, by show 0 + toks.length ≤ 5000; omega⟩
        rcases mem_uv hu with e | e | e | e | e | e
        · rw [show u = x from e, hx3]
          exact fun z => by cases z
        · rw [show u = cl from e, hcl3]
          exact fun z => by cases z
        · rw [show u = y from e, hy3]
          exact fun z => by cases z
        · rw [show u = ls from e, hls]
          exact fun z => by cases z
        · rw [show u = lp from e, hlp]
          exact fun z => by cases z
        · rw [show u = le from e, hle]
          exact fun z => by cases z
      have p3 : PgA K c (uv c g) H3 g [] [] [] := by
        subst hc hg
        exact { pg := ⟨dy, hy3⟩, sl := ⟨[], hls, .nil⟩, pl := ⟨[], hlp, .nil⟩, el := hle, u1 := by simp [uv], u2 := by simp [uv], u3 := by simp [uv], u4 := by simp [uv], n1 := n1, n2 := n2, n3 := n3, c1 := (ne_of_none hcl2 nls2).symm, c2 := (ne_of_none hcl2 nlp2).symm, c3 := (ne_of_none hcl2 nle2).symm, s3 := by simp, p10 := by simp, e4 := by simp, nd := by simp, eb := by simp, sn := by simp }
      have ksame : ∀ {H' : Hp}, Keep (uv c g) H H' → Same H H' := fun k c' o e => k c' o (fun z => by rw [new0 _ z] at e; cases e) e
      have k30 : Keep (uv c g) H H3 := Keep.of_same ((s1.trans s2).trans s3)
      have cR : c.R = x := by rw [hc]
      have gP : g.P = y := by rw [hg]
      have mR : ∀ {m : Addr}, m ∈ [c.R, g.ls] → m ∈ uv c g := fun hm => by
        simp only [List.mem_cons, List.not_mem_nil, or_false] at hm
        rcases hm with rfl | rfl <;> simp [uv]
      have mP : ∀ {m : Addr}, m ∈ [c.R, c.CL, g.lp] → m ∈ uv c g := fun hm => by
        simp only [List.mem_cons, List.not_mem_nil, or_false] at hm
        rcases hm with rfl | rfl | rfl <;> simp [uv]
      have mE : ∀ {m : Addr}, m ∈ [c.R, g.le] → m ∈ uv c g := fun hm => by
        simp only [List.mem_cons, List.not_mem_nil, or_false] at hm
        rcases hm with rfl | rfl <;> simp [uv]
      clear hx3 hcl3 hy3 hls hlp hle k2 k3 hx2 hcl2 sO sA sB
      rw [← cR, ← gP] at *
      let W1 : Nat → L2.St → Hp → Prop := fun m σ H' => ∃ (l : Toks) (ss : List Vakepa.Setting), σ = [some (.ref a), some (.ref c.R), some (.ref g.P), none, none, none] ∧ At K c (uv c g) H' l [] ∧ PgA K c (uv c g) H' g ss [] [] ∧ Keep (uv c g) H H' ∧ l.length < m ∧ Small l ∧ (∀ s ∈ ss, SetOk s) ∧
        Res K [] H E ((takeSets m ss l).bind fun s => restParts s) fun p => ∀ (H' : Hp) (pa : Addr), Same H H' → H pa = none → ProgNew K H H' pa → ProgAt K H' pa p → Q (.ref pa) H'
      refine ⟨W1, ⟨toks.length + 1, toks, [], rfl, a3, p3, k30, Nat.lt_succ_self _, lex_small _ _ _ _ e3, (fun s hs => by simp at hs), hR⟩, ?_⟩
      rintro m σ H4 ⟨l, ss, rfl, a4, p4, k4, hlt, hsm, hso, hR4⟩
      obtain ⟨m, rfl⟩ : ∃ k, m = k + 1 := ⟨m - 1, by omega⟩
      rw [sets_succ] at hR4
      refine ⟨_, rfl, c, uv c g, l, [], 2, _, _, rfl, a4, what_word (T := T) (s := "set") (T.t_SET H4) (by decide +kernel) (by decide +kernel), _, rfl, if_both (fun e => ?_) fun e => ?_⟩
      · have e' : nextWord "set" l = true := e
        rw [if_pos e'] at hR4
        refine ⟨fun σ' H' => ∃ m', m' < m + 1 ∧ W1 m' σ' H', fun _ _ h => h, _, rfl, _, rfl, c, uv c g, l, [], g, ss, [], rfl, a4, p4, ?_⟩
        cases e5 : oneSet ss l with
        | error f =>
          rw [e5] at hR4
          exact res_mono0 hR4 rfl fun H' k => ksame (k4.trans (k.mono fun b hb => mR hb))
        | ok x5 =>
          rw [e5] at hR4
          have l5 := oneSet_len e5
          exact fun H5 a5 p5 k5 => ⟨m, Nat.lt_succ_self _, x5.2, ss ++ [x5.1], rfl, a5, p5, k4.trans (k5.mono fun b hb => mR hb), by omega, (oneSet_ok e5 hsm).1, (fun s hs => by
            rcases List.mem_append.mp hs with hs | hs
            · exact hso s hs
            · rw [List.mem_singleton.mp hs]
              exact (oneSet_ok e5 hsm).2), hR4⟩
      have e' : nextWord "set" l ≠ true := by intro z; have z : next (.name (word "set")) l = true := z; rw [e] at z; cases z
      rw [if_neg e'] at hR4
      have hR4 : Res K [] H E (restParts (ss, l)) _ := hR4
      unfold restParts at hR4
      have hR4 : Res K [] H E ((takeParts ss (l.length + 1) [] l).bind fun p => restStart ss p) _ := hR4
      -- refuse(not is_next(reader, WORD, PART), ..)
      obtain ⟨t0, r0, rfl⟩ := at_head a4
      refine ⟨_, rfl, c, uv c g, _, [], 2, _, _, rfl, a4, what_word (T := T) (s := "part") (T.t_PART H4) (by decide +kernel) (by decide +kernel), _, rfl, _, rfl, c, uv c g, _, [], rfl, a4, fun ta t' r' et ⟨dt, v, h1, h2⟩ => ?_⟩
      cases et
      refine ⟨ta, _, dt, _, _, rfl, (off_some h1).2, T.cls "Token", T.noat "Token" "place", tokF_place, _, ⟨3, t0.place⟩, rfl, fun e5 => ?_, fun e5 => ?_⟩
      · have e5 : next (.name (word "part")) (t0 :: r0) = false := by simpa using e5
        rw [parts_succ, if_neg (show ¬ nextWord "part" (t0 :: r0) = true from fun z => by have z : next (.name (word "part")) (t0 :: r0) = true := z; rw [e5] at z; cases z)] at hR4
        exact res_mono0 hR4 rfl fun H' k => ksame (k4.trans (k.mono fun b hb => by simp at hb))
      have e5 : next (.name (word "part")) (t0 :: r0) = true := by simpa using e5
      let W2 : Nat → L2.St → Hp → Prop := fun m σ H' => ∃ (l : Toks) (rs : List RawPart), σ = [some (.ref a), some (.ref c.R), some (.ref g.P), none, none, none] ∧ At K c (uv c g) H' l (rs.flatMap fun r => calls r.body) ∧ PgA K c (uv c g) H' g ss rs [] ∧ Keep (uv c g) H H' ∧ l.length < m ∧ (rs = [] → nextWord "part" l = true) ∧ Small l ∧ (∀ r ∈ rs, RawOk ss 3 r.body) ∧
        Res K [] H E ((takeParts ss m rs l).bind fun p => restStart ss p) fun p => ∀ (H' : Hp) (pa : Addr), Same H H' → H pa = none → ProgNew K H H' pa → ProgAt K H' pa p → Q (.ref pa) H'
      refine ⟨W2, ⟨(t0 :: r0).length + 1, t0 :: r0, [], rfl, a4, p4, k4, Nat.lt_succ_self _, fun _ => e5, hsm, (fun r hr => by simp at hr), hR4⟩, ?_⟩
      rintro m σ H5 ⟨l, rs, rfl, a5, p5, k5, hlt, hne, hsm, hro, hR5⟩
      obtain ⟨m, rfl⟩ : ∃ k, m = k + 1 := ⟨m - 1, by omega⟩
      rw [parts_succ] at hR5
      refine ⟨_, rfl, c, uv c g, l, _, 2, _, _, rfl, a5, what_word (T := T) (s := "part") (T.t_PART H5) (by decide +kernel) (by decide +kernel), _, rfl, if_both (fun e => ?_) fun e => ?_⟩
      · have e' : nextWord "part" l = true := e
        rw [if_pos e'] at hR5
        refine ⟨fun σ' H' => ∃ m', m' < m + 1 ∧ W2 m' σ' H', fun _ _ h => h, _, rfl, _, rfl, c, l, _, g, ss, rs, [], rfl, a5, p5, ?_⟩
        cases e6 : onePart ss rs l with
        | error f =>
          rw [e6] at hR5
          exact res_mono0 hR5 rfl fun H' k => ksame (k5.trans (k.mono fun b hb => mP hb))
        | ok x6 =>
          rw [e6] at hR5
          have l6 := onePart_len e6
          refine fun H6 a6 p6 k6 => ⟨m, Nat.lt_succ_self _, x6.2, rs ++ [x6.1], rfl, ?_, p6, k5.trans (k6.mono fun b hb => mP hb), by omega, (fun z => by simp at z), (onePart_ok e6 hsm).1, (fun r hr => by
          rcases List.mem_append.mp hr with hr | hr
          · exact hro r hr
          · rw [List.mem_singleton.mp hr]
            exact (onePart_ok e6 hsm).2), hR5⟩
          rw [List.flatMap_append]
          simpa using a6
      have e' : ¬ nextWord "part" l = true := by intro z; have z : next (.name (word "part")) l = true := z; rw [e] at z; cases z
      rw [if_neg e', if_neg (by
        cases rs with
        | nil => exact absurd (hne rfl) e'
        | cons _ _ => exact Bool.false_ne_true)] at hR5
      have hR5 : Res K [] H E (restStart ss (rs, l)) _ := hR5
      unfold restStart at hR5
      have hR5 : Res K [] H E ((takeWord "start" l).bind fun r => (takeStarts (rs.map fun x => x.name) (r.length + 1) [] r).bind fun e => (solveParts (rs.map fun x => x.name) rs).map fun ps => (⟨ss, ps, e⟩ : Prog)) _ := hR5
      rw [← bind_bind] at hR5
      -- take_start(reader, program)
      refine ⟨_, rfl, _, rfl, c, l, _, g, ss, rs, rfl, a5, p5, ?_⟩
      cases e7 : (takeWord "start" l).bind fun r => takeStarts (rs.map fun r => r.name) (r.length + 1) [] r with
      | error f =>
        rw [e7] at hR5
        exact res_mono0 hR5 rfl fun H' k => ksame (k5.trans (k.mono fun b hb => mE hb))
      | ok es =>
        rw [e7] at hR5
        have hR5 : Res K [] H E ((solveParts (rs.map fun x => x.name) rs).map fun ps => (⟨ss, ps, es⟩ : Prog)) _ := hR5
        have hen : es ≠ [] := by
          obtain ⟨r, _, h8⟩ := bind_ok e7
          exact starts_ne _ _ _ _ _ h8
        refine fun H7 l7 a7 p7 k7 => ?_
        have k70 := k5.trans (k7.mono fun b hb => mE hb)
        obtain ⟨dg, g1⟩ := p7.pg
        obtain ⟨pas, g2, g3⟩ := p7.pl
        -- names = part_names(program)
        refine ⟨_, rfl, g.P, dg, g.lp, _, _, pas, _, rfl, g1, g2, (named_parts g3).mono off_same, by have := plen g3; have := p7.p10; omega, fun H8 nl qs s8 np hp hq8 => ?_⟩
        have a8 := a7.same s8
        have p8 := p7.same s8
        have k80 : Keep (uv c g) H H8 := k70.trans (Keep.of_same s8)
        obtain ⟨dR, i, h1, h2⟩ := a8.rd
        obtain ⟨vs, h3, h4⟩ := a8.cl
        have hlen := plen h4
        refine ⟨_, rfl, _, _, dR, _, _, rfl, h1, T.cls "Reader", T.noat "Reader" "called", rdF_called, c.CL, rfl, ⟨_, SqL.of h3⟩, for_list (K := K) (a := c.CL) (xs := vs) (fun k σ H' => H' = H8 ∧ (∃ v w, σ = [some (.ref a), some (.ref c.R), some (.ref g.P), some (.ref nl), v, w]) ∧ ∀ j q, j < k → (rs.flatMap fun r => calls r.body)[j]? = some q → (rs.map fun r => r.name).contains q.name = true)
          ⟨rfl, ⟨none, none, rfl⟩, fun j q hj => absurd hj (Nat.not_lt_zero _)⟩ (fun k σ H' _ ⟨h, _⟩ => by rw [h]; exact SqL.of h3) ?_ ?_⟩
        · rintro k v σ H' hk ⟨rfl, ⟨v1, v2, rfl⟩, hall⟩
          obtain ⟨q, hq, t, qa, rfl, ht, hqa⟩ := pget h4 hk
          refine ⟨t, _, rfl, .inl (.inl (off_some ht).2), rfl, _, _, rfl, _, _, rfl, rfl, ?_⟩
          refine ⟨_, rfl, _, rfl, qa, nl, q.name, qs, _, rfl, rfl, .inl (.inl (off_some hqa).2), SqL.of hp, hq8.sq, _, rfl, _, ⟨9, q.place⟩, rfl, fun e8 => ?_, fun e8 => ?_⟩
          · have e8 : (rs.map fun r => r.name).contains q.name = false := by simpa using e8
            have hf : (rs.flatMap fun r => calls r.body).find? (fun p => !(rs.map fun r => r.name).contains p.name) = some q := by
              rw [List.find?_eq_some_iff_getElem]
              refine ⟨by rw [e8]; rfl, k, (List.getElem?_eq_some_iff.mp hq).1, (List.getElem?_eq_some_iff.mp hq).2, fun j hj => ?_⟩
              have := hall j _ hj (List.getElem?_eq_getElem (Nat.lt_trans hj (List.getElem?_eq_some_iff.mp hq).1))
              rw [this]
              rfl
            have e9 := (solveParts_calls (rs.map fun r => r.name) rs).1 q hf
            rw [e9] at hR5
            exact res_mono0 hR5 rfl fun H' k => ksame (k80.trans (k.mono fun b hb => by simp at hb))
          · have e8 : (rs.map fun r => r.name).contains q.name = true := by simpa using e8
            refine ⟨rfl, ⟨_, _, rfl⟩, fun j q' hj hq' => ?_⟩
            by_cases z : j = k
            · subst z
              rw [hq] at hq'
              cases hq'
              exact e8
            · exact hall j q' (by omega) hq'
        · rintro σ H' ⟨rfl, ⟨v1, v2, rfl⟩, hall⟩
          have hf : (rs.flatMap fun r => calls r.body).find? (fun p => !(rs.map fun r => r.name).contains p.name) = none := by
            rw [List.find?_eq_none]
            intro q hq
            obtain ⟨j, hj⟩ := List.mem_iff_getElem?.mp hq
            have := hall j q (by rw [hlen]; exact (List.getElem?_eq_some_iff.mp hj).1) hj
            rw [this]
            simp
          obtain ⟨st, e9⟩ := (solveParts_calls (rs.map fun r => r.name) rs).2 hf
          rw [e9] at hR5
          obtain ⟨dg, g1⟩ := p8.pg
          obtain ⟨sas, g4, g5⟩ := p8.sl
          obtain ⟨pas, g2, g3⟩ := p8.pl
          refine ⟨_, rfl, hR5 H' g.P (ksame k80) (new0 _ (by simp [uv])) ⟨dg, g.ls, g.lp, g.le, g1, new0 _ (by simp [uv]), new0 _ (by simp [uv]), new0 _ (by simp [uv])⟩ ⟨⟨dg, g.ls, g.lp, g.le, sas, pas, rs, g1, g4, pimp g5 fun _ _ e => e.mono off_same, g2, pimp g3 fun _ _ e => e.mono off_same, p8.el, e9, p8.p10, hro, p8.eb⟩, hso, p8.s3, p8.e4, hen, p8.sn⟩⟩
end
end PP

set_option Elab.async false
set_option linter.all false
set_option maxRecDepth 100000
set_option maxHeartbeats 4000000
namespace PP
open PySem PySem.Spec PyProof.Rows L2
open VakepBase (Bytes)
open Vakepa (Raw RawPart Piece Prog Stmt pieceOf solve solveParts valuesBy valuesOf counts total pieceText madeName partNamed bodyOf mark)
/-! ### plain: assignments -/
theorem fmod_nat (a n : Nat) : Int.fmod (a : Int) (n : Int) = ((a % n : Nat) : Int) := by
  rw [Int.fmod_eq_emod_of_nonneg _ (Int.natCast_nonneg n)]
  rfl
theorem fdiv_nat (a n : Nat) : Int.fdiv (a : Int) (n : Int) = ((a / n : Nat) : Int) := by
  rw [Int.fdiv_eq_ediv_of_nonneg _ (Int.natCast_nonneg n)]
  rfl
theorem valuesBy_len : ∀ (cs : List Nat) (a : Nat), (valuesBy cs a).length = cs.length
  | [], _ => rfl
  | n :: r, a => by
    show (valuesBy r (a / n)).length + 1 = r.length + 1
    rw [valuesBy_len r]
theorem valuesBy_lt : ∀ (cs : List Nat) (a k : Nat) (x n : Nat), (∀ c ∈ cs, 1 ≤ c) → (valuesBy cs a)[k]? = some x → cs[k]? = some n → x < n
  | [], _, k, x, n, _, h, _ => by simp [valuesBy] at h
  | c :: r, a, 0, x, n, hc, h, h2 => by
    simp [valuesBy] at h h2
    subst h h2
    exact Nat.mod_lt _ (hc _ List.mem_cons_self)
  | c :: r, a, k + 1, x, n, hc, h, h2 => valuesBy_lt r (a / c) k x n (fun d hd => hc d (List.mem_cons_of_mem _ hd)) (by simpa [valuesBy] using h) (by simpa using h2)
/-! ### promises -/
def spACount (K : PySem.W.Frag) : Sp := fun vs H Q _ => ∃ (pa : Addr) (p : Prog), vs = [.ref pa] ∧ ProgAt K H pa p ∧ Q (.int (total p : Nat)) H
def spWordsOf (K : PySem.W.Frag) : Sp := fun vs H Q _ => ∃ (pa : Addr) (p : Prog) (a : Nat), vs = [.ref pa, .int (a : Nat)] ∧ ProgAt K H pa p ∧
  ∀ (H' : Hp) (wl : Addr), Same H H' → H wl = none → H' wl = some (.lst ((valuesOf p a).map fun x => V.int (x : Nat))) → Q (.ref wl) H'
theorem prog_sets {K : PySem.W.Frag} {H : Hp} {pa : Addr} {p : Prog} (h : ProgAt K H pa p) : ∃ (dx ls : Addr) (x y : V) (sas : List Addr), H pa = some (.ins (He.ga K "Program") dx (pgF (.ref ls) x y)) ∧ H ls = some (.lst (sas.map V.ref)) ∧ Paired (SetAt K H) sas p.sets := by
  obtain ⟨dx, ls, lp, le, sas, pas, rs, h1, h2, h3, _⟩ := h.ex
  exact ⟨dx, ls, _, _, sas, h1, h2, h3⟩
section
variable {P : Program} {w : World} {K : PySem.W.Frag} {mg : Str → Option Value} {base : Heap}
def N_assignment_count : List Str := ["program", "found", "setting"]
theorem sc_assignment_count : FnScope N_assignment_count ["program"] (defScope s_assignment_count) := ⟨rfl, rfl, rfl, by decide +kernel, rfl, by decide +kernel, by decide +kernel⟩
theorem ok_assignment_count (T : Txt K mg) : Ok P w K mg base 1 "assignment_count" ["program"] (spACount K) := by
  refine ok_mk T.d_assignment_count sc_assignment_count (fun vs H Q E h => ?_) (fun cdv A outer s H vs Q E hr h => ⟨_, (pss_cons (ps_set (i := 1) sc_assignment_count.nd rfl (Or.inl rfl) pe_int) (pss_cons (ps_for (passes_of rfl) rfl (pi_list (pe_fld (pv 0) rfl)) (pg_name (i := 2) sc_assignment_count.nd rfl (Or.inl rfl)) (pss_one (ps_set (i := 1) sc_assignment_count.nd rfl (Or.inl rfl) (pe_op op_mul (pv 1) (pe_callB call_len (by rfl) (T.free "len") PySem.boot_len (pa_cons (pe_fld (pv 2) rfl) pa_nil)))))) (pss_one (ps_ret (pv 1))))), ?_⟩)
  · obtain ⟨pa, p, rfl, _⟩ := h
    rfl
  · obtain ⟨pa, p, rfl, hp, q⟩ := h
    obtain ⟨dx, ls, x, y, sas, h1, h2, h3⟩ := prog_sets hp
    refine ⟨_, rfl, _, _, dx, _, _, rfl, h1, T.cls "Program", T.noat "Program" "settings", pgF_settings, ls, rfl, ⟨_, SqL.of h2⟩, for_list (K := K) (a := ls) (xs := sas.map V.ref) (fun i σ H' => H' = H ∧ ∃ v, σ = [some (.ref pa), some (.int (((counts p).take i).foldl (fun x y => x * y) 1 : Nat)), v]) ⟨rfl, none, rfl⟩ (fun i σ H' _ ⟨h, _⟩ => by rw [h]; exact SqL.of h2) ?_ ?_⟩
    · rintro i v σ H' hi ⟨rfl, v0, rfl⟩
      obtain ⟨sa, hsa, rfl⟩ := map_get hi
      obtain ⟨s, hs, dS, na, wl, was, hS, hna, hwl, hwas⟩ := pget h3 hsa
      refine ⟨_, rfl, _, rfl, sa, _, dS, _, _, rfl, hS, T.cls "Setting", T.noat "Setting" "words", setF_words, _, was.length, rfl, .inl ⟨_, SqL.of hwl, (List.length_map _).symm⟩, _, _, rfl, rfl, .inr ⟨?_, ?_⟩, rfl, some (.ref sa), ?_⟩
      · omega
      · have : was.length = s.values.length := plen hwas
        have := (hp.so s (List.mem_of_getElem? hs)).2.2
        omega
      · have e : (counts p)[i]? = some was.length := by
          show (p.sets.map fun s => s.values.length)[i]? = _
          rw [List.getElem?_map, hs, plen hwas]
          rfl
        rw [foldl_more e]
        rfl
    · rintro σ H' ⟨rfl, v0, rfl⟩
      refine ⟨_, rfl, ?_⟩
      have e : (counts p).take (sas.map V.ref).length = counts p := by
        rw [List.length_map, plen h3]
        exact List.take_of_length_le (by show (p.sets.map _).length ≤ _; rw [List.length_map]; exact Nat.le_refl _)
      rw [e]
      exact q
def N_words_of : List Str := ["program", "assignment", "found", "setting"]
theorem sc_words_of : FnScope N_words_of ["program", "assignment"] (defScope s_words_of) := ⟨rfl, rfl, rfl, by decide +kernel, rfl, by decide +kernel, by decide +kernel⟩
theorem ok_words_of (T : Txt K mg) : Ok P w K mg base 1 "words_of" ["program", "assignment"] (spWordsOf K) := by
  refine ok_mk T.d_words_of sc_words_of (fun vs H Q E h => ?_) (fun cdv A outer s H vs Q E hr h => ⟨_, (pss_cons (ps_set (i := 2) sc_words_of.nd rfl (Or.inl rfl) (pe_lst pa_nil)) (pss_cons (ps_for (passes_of rfl) rfl (pi_list (pe_fld (pv 0) rfl)) (pg_name (i := 3) sc_words_of.nd rfl (Or.inl rfl)) (pss_cons (ps_expr (pe_bm PySem.F.plainAttrs_list PySem.F.slot_list_append PySem.F.type_list_append mt_append (pv 2) (pa_cons (pe_op op_modN (pv 1) (pe_callB call_len (by rfl) (T.free "len") PySem.boot_len (pa_cons (pe_fld (pv 3) rfl) pa_nil))) pa_nil))) (pss_one (ps_set (i := 1) sc_words_of.nd rfl (Or.inl rfl) (pe_op op_fdivN (pv 1) (pe_callB call_len (by rfl) (T.free "len") PySem.boot_len (pa_cons (pe_fld (pv 3) rfl) pa_nil))))))) (pss_one (ps_ret (pv 2))))), ?_⟩)
  · obtain ⟨pa, p, a, rfl, _⟩ := h
    rfl
  · obtain ⟨pa, p, a, rfl, hp, q⟩ := h
    obtain ⟨dx, ls, x, y, sas, h1, h2, h3⟩ := prog_sets hp
    refine ⟨Nat.zero_le _, fun fl nfl => ?_⟩
    have s0 : Same H (upd H fl (.lst [])) := same_upd nfl
    refine ⟨_, rfl, _, _, dx, _, _, rfl, s0 _ _ h1, T.cls "Program", T.noat "Program" "settings", pgF_settings, ls, rfl, ⟨_, SqL.of (s0 _ _ h2)⟩, for_list (K := K) (a := ls) (xs := sas.map V.ref) (fun i σ H' => Same H H' ∧ ∃ (v : Option V) (b : Nat) (f : List Nat), σ = [some (.ref pa), some (.int (b : Nat)), some (.ref fl), v] ∧ H' fl = some (.lst (f.map fun x => V.int (x : Nat))) ∧ f.length = i ∧ f ++ valuesBy ((counts p).drop i) b = valuesOf p a) ⟨s0, none, a, [], rfl, upd_same, rfl, rfl⟩ (fun i σ H' _ ⟨h, _⟩ => SqL.of (h _ _ h2)) ?_ ?_⟩
    · rintro i v σ H' hi ⟨s1, v0, b, f, rfl, hf, hfl, hval⟩
      obtain ⟨sa, hsa, rfl⟩ := map_get hi
      obtain ⟨s, hs, dS, na, wl, was, hS, hna, hwl, hwas⟩ := pget h3 hsa
      have hlen : was.length = s.values.length := plen hwas
      have hso := hp.so s (List.mem_of_getElem? hs)
      have hso2 := hso.2
      have hi3 : i < p.sets.length := (List.getElem?_eq_some_iff.mp hs).1
      have e : (counts p)[i]? = some was.length := by
        show (p.sets.map fun s => s.values.length)[i]? = _
        rw [List.getElem?_map, hs, hlen]
        rfl
      have ed : (counts p).drop i = was.length :: (counts p).drop (i + 1) := by
        rw [List.drop_eq_getElem_cons (List.getElem?_eq_some_iff.mp e).1, (List.getElem?_eq_some_iff.mp e).2]
      refine ⟨_, rfl, .inl ⟨rfl, _, SqL.of hf⟩, _, rfl, _, rfl, sa, _, dS, _, _, rfl, s1 _ _ hS, T.cls "Setting", T.noat "Setting" "words", setF_words, _, was.length, rfl, .inl ⟨_, SqL.of (s1 _ _ hwl), (List.length_map _).symm⟩, _, _, rfl, rfl, (by omega), fl, _, _, rfl, rfl, hf, ?_, ?_⟩
      · rw [List.length_map, hfl]
        exact Nat.lt_of_lt_of_le hi3 (Nat.le_trans hp.s3 (by decide))
      · have ef : Int.fmod (b : Int) (was.length : Int) = ((b % was.length : Nat) : Int) := fmod_nat b was.length
        have s2 : Same H (upd H' fl (.lst ((f.map fun x => V.int (x : Nat)) ++ [.int (Int.fmod (b : Int) (was.length : Int))]))) := fun c o e => by
          rw [upd_ne (ne_of_none e nfl)]
          exact s1 _ _ e
        refine ⟨_, rfl, _, rfl, sa, _, dS, _, _, rfl, s2 _ _ hS, T.cls "Setting", T.noat "Setting" "words", setF_words, _, was.length, rfl, .inl ⟨_, SqL.of (s2 _ _ hwl), (List.length_map _).symm⟩, _, _, rfl, rfl, ⟨by omega, by omega⟩, s2, some (.ref sa), b / was.length, f ++ [b % was.length], ?_, ?_, ?_, ?_⟩
        · show [some (V.ref pa), some (V.int (Int.fdiv (b : Int) (was.length : Int))), some (V.ref fl), some (V.ref sa)] = _
          rw [fdiv_nat]
        · rw [upd_same, List.map_append]
          show some (HO.lst (_ ++ [V.int (Int.fmod (b : Int) (was.length : Int))])) = _
          rw [ef]
          rfl
        · rw [List.length_append, hfl]
          rfl
        · rw [← hval, ed, List.append_assoc]
          rfl
    · rintro σ H' ⟨s1, v0, b, f, rfl, hf, hfl, hval⟩
      refine ⟨_, rfl, q H' fl s1 nfl ?_⟩
      rw [hf]
      have e : (counts p).drop (sas.map V.ref).length = [] := by
        rw [List.length_map, plen h3]
        exact List.drop_eq_nil_of_le (by show (p.sets.map _).length ≤ _; rw [List.length_map]; exact Nat.le_refl _)
      rw [e] at hval
      have hval : f ++ [] = valuesOf p a := hval
      rw [List.append_nil] at hval
      rw [hval]
end
end PP

set_option Elab.async false
set_option linter.all false
set_option maxRecDepth 100000
set_option maxHeartbeats 4000000
namespace PP
open PySem PySem.Spec PyProof.Rows L2
open VakepBase (Bytes Fault)
open Vakepa (Raw RawPart Piece Prog pieceOf solve solveParts valuesBy valuesOf counts total pieceText madeName partNamed bodyOf mark step1 over goBy FUEL begin_ LONG CALLS)
/-! ### plain: steps of a run -/
inductive Steps (p : Prog) (v : List Nat) : Vakepa.Run → Vakepa.Run → Prop where
  | refl (r : Vakepa.Run) : Steps p v r r
  | step {r r' : Vakepa.Run} (h : over r = false) (t : Steps p v (step1 p [] v r) r') : Steps p v r r'
section
variable {p : Prog} {v : List Nat}
theorem Steps.trans {r s t : Vakepa.Run} (a : Steps p v r s) (b : Steps p v s t) : Steps p v r t := by
  induction a with
  | refl _ => exact b
  | step h _ ih => exact .step h (ih b)
theorem over0 (x : Vakepa.Stmt × Nat) (t : List (Vakepa.Stmt × Nat)) (said l : List Nat) (n : Nat) : over ⟨x :: t, said, l, n, 0⟩ = false := rfl
theorem s_done (d : Nat) (t : List (Vakepa.Stmt × Nat)) (said l : List Nat) (n f : Nat) : step1 p [] v ⟨(.done, d) :: t, said, l, n, f⟩ = ⟨t, said, l, n, f⟩ := rfl
theorem s_long {st : Vakepa.Stmt} (hs : st ≠ .done) (d : Nat) (t : List (Vakepa.Stmt × Nat)) (said l : List Nat) {n : Nat} (hn : 100 ≤ n) (f : Nat) : step1 p [] v ⟨(st, d) :: t, said, l, n, f⟩ = ⟨(st, d) :: t, said, l, n, 2⟩ := by
  cases st with
  | done => exact absurd rfl hs
  | say _ _ => exact if_pos hn
  | call _ _ => exact if_pos hn
  | make _ _ => exact if_pos hn
  | when_ _ _ _ _ => exact if_pos hn
theorem s_say (k : Nat) (b : Vakepa.Stmt) (d : Nat) (t : List (Vakepa.Stmt × Nat)) (said l : List Nat) {n : Nat} (hn : n < 100) (f : Nat) : step1 p [] v ⟨(.say k b, d) :: t, said, l, n, f⟩ = ⟨(b, d) :: t, said ++ [k], l, n + 1, f⟩ := if_neg (show ¬ 100 ≤ n by omega)
theorem s_call (k : Nat) (b : Vakepa.Stmt) (d : Nat) (t : List (Vakepa.Stmt × Nat)) (said l : List Nat) {n : Nat} (hn : n < 100) (f : Nat) : step1 p [] v ⟨(.call k b, d) :: t, said, l, n, f⟩ = Vakepa.enter p k d ⟨(b, d) :: t, said, l, n + 1, f⟩ := if_neg (show ¬ 100 ≤ n by omega)
theorem s_make0 {ps : List Piece} (b : Vakepa.Stmt) (d : Nat) (t : List (Vakepa.Stmt × Nat)) (said l : List Nat) {n : Nat} (hn : n < 100) (f : Nat) (h : partNamed p (madeName p v ps) = none) : step1 p [] v ⟨(.make ps b, d) :: t, said, l, n, f⟩ = ⟨(b, d) :: t, said, l, n + 1, f⟩ :=
  (if_neg (show ¬ 100 ≤ n by omega)).trans (by simp only [h])
theorem s_make1 {ps : List Piece} {k : Nat} (b : Vakepa.Stmt) (d : Nat) (t : List (Vakepa.Stmt × Nat)) (said l : List Nat) {n : Nat} (hn : n < 100) (f : Nat) (h : partNamed p (madeName p v ps) = some k) : step1 p [] v ⟨(.make ps b, d) :: t, said, l, n, f⟩ = Vakepa.enter p k d ⟨(b, d) :: t, said, l, n + 1, f⟩ :=
  (if_neg (show ¬ 100 ≤ n by omega)).trans (by
    simp only [h]
    exact if_neg (by simp))
theorem s_when (x w : Nat) (c b : Vakepa.Stmt) (d : Nat) (t : List (Vakepa.Stmt × Nat)) (said l : List Nat) {n : Nat} (hn : n < 100) (f : Nat) : step1 p [] v ⟨(.when_ x w c b, d) :: t, said, l, n, f⟩ = ⟨if v.getD x 0 = w then (c, d) :: (b, d) :: t else (b, d) :: t, said, l, n + 1, f⟩ := if_neg (show ¬ 100 ≤ n by omega)
theorem enter_deep (k : Nat) {d : Nat} (h : 8 ≤ d) (t : List (Vakepa.Stmt × Nat)) (said l : List Nat) (n f : Nat) : Vakepa.enter p k d ⟨t, said, l, n, f⟩ = ⟨t, said, mark k l, n, 1⟩ := if_pos h
theorem enter_in (k : Nat) {d : Nat} (h : d < 8) (t : List (Vakepa.Stmt × Nat)) (said l : List Nat) (n f : Nat) : Vakepa.enter p k d ⟨t, said, l, n, f⟩ = ⟨(bodyOf p k, d + 1) :: t, said, mark k l, n, f⟩ := if_neg (show ¬ 8 ≤ d by omega)
def mu (r : Vakepa.Run) : Nat := if over r = true then 0 else 2 * (100 - r.n) + r.todo.length
theorem mu_over {r : Vakepa.Run} (h : over r = true) : mu r = 0 := if_pos h
theorem mu_le (r : Vakepa.Run) : mu r ≤ 2 * (100 - r.n) + r.todo.length := by
  unfold mu
  split
  · exact Nat.zero_le _
  · exact Nat.le_refl _
theorem mu_enter (k d : Nat) (t : List (Vakepa.Stmt × Nat)) (said l : List Nat) (n f : Nat) : mu (Vakepa.enter p k d ⟨t, said, l, n, f⟩) ≤ 2 * (100 - n) + (t.length + 1) := by
  by_cases h : 8 ≤ d
  · rw [enter_deep k h, mu_over rfl]
    exact Nat.zero_le _
  · rw [enter_in k (by omega)]
    exact mu_le _
theorem mu_step {r : Vakepa.Run} (h : over r = false) : mu (step1 p [] v r) < mu r := by
  obtain ⟨todo, said, l, n, f⟩ := r
  have e : mu ⟨todo, said, l, n, f⟩ = 2 * (100 - n) + todo.length := if_neg (by rw [h]; exact Bool.false_ne_true)
  rw [e]
  cases todo with
  | nil =>
    unfold over at h
    rw [List.isEmpty_nil, Bool.or_true] at h
    cases h
  | cons x t =>
    obtain ⟨st, d⟩ := x
    rw [List.length_cons]
    cases st with
    | done =>
      rw [s_done]
      have := mu_le ⟨t, said, l, n, f⟩
      have : mu ⟨t, said, l, n, f⟩ ≤ 2 * (100 - n) + t.length := this
      omega
    | say k b =>
      by_cases hn : n < 100
      · rw [s_say k b d t said l hn]
        have : mu ⟨(b, d) :: t, said ++ [k], l, n + 1, f⟩ ≤ 2 * (100 - (n + 1)) + (t.length + 1) := mu_le _
        omega
      · rw [s_long (by simp) d t said l (by omega), mu_over rfl]
        omega
    | call k b =>
      by_cases hn : n < 100
      · rw [s_call k b d t said l hn]
        have : _ ≤ 2 * (100 - (n + 1)) + ((t.length + 1) + 1) := mu_enter (p := p) k d ((b, d) :: t) said l (n + 1) f
        omega
      · rw [s_long (by simp) d t said l (by omega), mu_over rfl]
        omega
    | make ps b =>
      by_cases hn : n < 100
      · cases e : partNamed p (madeName p v ps) with
        | none =>
          rw [s_make0 b d t said l hn f e]
          have : mu ⟨(b, d) :: t, said, l, n + 1, f⟩ ≤ 2 * (100 - (n + 1)) + (t.length + 1) := mu_le _
          omega
        | some k =>
          rw [s_make1 b d t said l hn f e]
          have : _ ≤ 2 * (100 - (n + 1)) + ((t.length + 1) + 1) := mu_enter (p := p) k d ((b, d) :: t) said l (n + 1) f
          omega
      · rw [s_long (by simp) d t said l (by omega), mu_over rfl]
        omega
    | when_ x w c b =>
      by_cases hn : n < 100
      · rw [s_when x w c b d t said l hn]
        have h1 := mu_le ⟨if v.getD x 0 = w then (c, d) :: (b, d) :: t else (b, d) :: t, said, l, n + 1, f⟩
        have h2 : (if v.getD x 0 = w then (c, d) :: (b, d) :: t else (b, d) :: t).length ≤ t.length + 2 := by
          split
          · exact Nat.le_refl _
          · exact Nat.le_succ _
        have h1 : mu ⟨if v.getD x 0 = w then (c, d) :: (b, d) :: t else (b, d) :: t, said, l, n + 1, f⟩ ≤ 2 * (100 - (n + 1)) + (if v.getD x 0 = w then (c, d) :: (b, d) :: t else (b, d) :: t).length := h1
        omega
      · rw [s_long (by simp) d t said l (by omega), mu_over rfl]
        omega
theorem goBy_steps {r r' : Vakepa.Run} (h : Steps p v r r') (ho : over r' = true) : ∀ f, mu r < f → goBy p [] v f r = r' := by
  induction h with
  | refl r =>
    intro f hf
    cases f with
    | zero => omega
    | succ f => exact if_pos ho
  | @step r r' h _ ih =>
    intro f hf
    cases f with
    | zero => omega
    | succ f =>
      have := mu_step (p := p) (v := v) h
      exact (if_neg (by rw [h]; exact Bool.false_ne_true)).trans (ih ho f (by omega))
/-! ### how statements end -/
def GoodS (p : Prog) (v : List Nat) (st : Vakepa.Stmt) (d : Nat) (l : List Nat) (n : Nat) (l' : List Nat) (n' : Nat) : Prop := ∀ t said, ∃ said', Steps p v ⟨(st, d) :: t, said, l, n, 0⟩ ⟨t, said', l', n', 0⟩
def BadS (p : Prog) (v : List Nat) (st : Vakepa.Stmt) (d : Nat) (l : List Nat) (n : Nat) (l' : List Nat) : Prop := ∀ t said, ∃ r', Steps p v ⟨(st, d) :: t, said, l, n, 0⟩ r' ∧ r'.fin ≠ 0 ∧ r'.entered = l'
/-- the part k, entered within so many -/
def GoodE (p : Prog) (v : List Nat) (k w : Nat) (l : List Nat) (n : Nat) (l' : List Nat) (n' : Nat) : Prop := w < 9 ∧ GoodS p v (bodyOf p k) w (mark k l) n l' n'
def BadE (p : Prog) (v : List Nat) (k w : Nat) (l : List Nat) (n : Nat) (l' : List Nat) : Prop := (w < 9 ∧ BadS p v (bodyOf p k) w (mark k l) n l') ∨ (9 ≤ w ∧ l' = mark k l)
theorem good_done (d : Nat) (l : List Nat) (n : Nat) : GoodS p v .done d l n l n := fun t said => ⟨said, .step rfl (.refl _)⟩
theorem bad_long {st : Vakepa.Stmt} (hs : st ≠ .done) (d : Nat) (l : List Nat) {n : Nat} (hn : 100 ≤ n) : BadS p v st d l n l := fun t said => ⟨_, .step rfl (.refl _), by rw [s_long hs d t said l hn]; simp, by rw [s_long hs d t said l hn]⟩
section
variable {d n n' n1 k : Nat} {l l1 l' : List Nat} {b : Vakepa.Stmt}
theorem good_say (hn : n < 100) (h : GoodS p v b d l (n + 1) l' n') : GoodS p v (.say k b) d l n l' n' := fun t said => by
  obtain ⟨s', e⟩ := h t (said ++ [k])
  exact ⟨s', .step rfl (by rw [s_say k b d t said l hn]; exact e)⟩
theorem bad_say (hn : n < 100) (h : BadS p v b d l (n + 1) l') : BadS p v (.say k b) d l n l' := fun t said => by
  obtain ⟨s', e, h1⟩ := h t (said ++ [k])
  exact ⟨s', .step rfl (by rw [s_say k b d t said l hn]; exact e), h1⟩
theorem steps_enter {t : List (Vakepa.Stmt × Nat)} {said : List Nat} (h : GoodE p v k (d + 1) l n l' n') : ∃ said', Steps p v (Vakepa.enter p k d ⟨t, said, l, n, 0⟩) ⟨t, said', l', n', 0⟩ := by
  rw [enter_in k (by have := h.1; omega)]
  exact h.2 t said
theorem steps_enterB {t : List (Vakepa.Stmt × Nat)} {said : List Nat} (h : BadE p v k (d + 1) l n l') : ∃ r', Steps p v (Vakepa.enter p k d ⟨t, said, l, n, 0⟩) r' ∧ r'.fin ≠ 0 ∧ r'.entered = l' := by
  rcases h with ⟨h1, h2⟩ | ⟨h1, rfl⟩
  · rw [enter_in k (by omega)]
    exact h2 t said
  · rw [enter_deep k (by omega)]
    exact ⟨_, .refl _, by simp, rfl⟩
theorem good_call (hn : n < 100) (h : GoodE p v k (d + 1) l (n + 1) l1 n1) (h2 : GoodS p v b d l1 n1 l' n') : GoodS p v (.call k b) d l n l' n' := fun t said => by
  obtain ⟨s1, e1⟩ := steps_enter (t := (b, d) :: t) (said := said) h
  obtain ⟨s2, e2⟩ := h2 t s1
  exact ⟨s2, .step rfl (by rw [s_call k b d t said l hn]; exact e1.trans e2)⟩
theorem bad_call (hn : n < 100) (h : GoodE p v k (d + 1) l (n + 1) l1 n1) (h2 : BadS p v b d l1 n1 l') : BadS p v (.call k b) d l n l' := fun t said => by
  obtain ⟨s1, e1⟩ := steps_enter (t := (b, d) :: t) (said := said) h
  obtain ⟨s2, e2, h3⟩ := h2 t s1
  exact ⟨s2, .step rfl (by rw [s_call k b d t said l hn]; exact e1.trans e2), h3⟩
theorem bad_call0 (hn : n < 100) (h : BadE p v k (d + 1) l (n + 1) l') : BadS p v (.call k b) d l n l' := fun t said => by
  obtain ⟨s1, e1, h3⟩ := steps_enterB (t := (b, d) :: t) (said := said) h
  exact ⟨s1, .step rfl (by rw [s_call k b d t said l hn]; exact e1), h3⟩
variable {ps : List Piece}
theorem good_make0 (hn : n < 100) (e : partNamed p (madeName p v ps) = none) (h : GoodS p v b d l (n + 1) l' n') : GoodS p v (.make ps b) d l n l' n' := fun t said => by
  obtain ⟨s', e1⟩ := h t said
  exact ⟨s', .step rfl (by rw [s_make0 b d t said l hn 0 e]; exact e1)⟩
theorem bad_make0 (hn : n < 100) (e : partNamed p (madeName p v ps) = none) (h : BadS p v b d l (n + 1) l') : BadS p v (.make ps b) d l n l' := fun t said => by
  obtain ⟨s', e1, h1⟩ := h t said
  exact ⟨s', .step rfl (by rw [s_make0 b d t said l hn 0 e]; exact e1), h1⟩
theorem good_make1 (hn : n < 100) (e : partNamed p (madeName p v ps) = some k) (h : GoodE p v k (d + 1) l (n + 1) l1 n1) (h2 : GoodS p v b d l1 n1 l' n') : GoodS p v (.make ps b) d l n l' n' := fun t said => by
  obtain ⟨s1, e1⟩ := steps_enter (t := (b, d) :: t) (said := said) h
  obtain ⟨s2, e2⟩ := h2 t s1
  exact ⟨s2, .step rfl (by rw [s_make1 b d t said l hn 0 e]; exact e1.trans e2)⟩
theorem bad_make1 (hn : n < 100) (e : partNamed p (madeName p v ps) = some k) (h : GoodE p v k (d + 1) l (n + 1) l1 n1) (h2 : BadS p v b d l1 n1 l') : BadS p v (.make ps b) d l n l' := fun t said => by
  obtain ⟨s1, e1⟩ := steps_enter (t := (b, d) :: t) (said := said) h
  obtain ⟨s2, e2, h3⟩ := h2 t s1
  exact ⟨s2, .step rfl (by rw [s_make1 b d t said l hn 0 e]; exact e1.trans e2), h3⟩
theorem bad_make2 (hn : n < 100) (e : partNamed p (madeName p v ps) = some k) (h : BadE p v k (d + 1) l (n + 1) l') : BadS p v (.make ps b) d l n l' := fun t said => by
  obtain ⟨s1, e1, h3⟩ := steps_enterB (t := (b, d) :: t) (said := said) h
  exact ⟨s1, .step rfl (by rw [s_make1 b d t said l hn 0 e]; exact e1), h3⟩
variable {x w : Nat} {c : Vakepa.Stmt}
theorem good_when1 (hn : n < 100) (e : v.getD x 0 = w) (h : GoodS p v c d l (n + 1) l1 n1) (h2 : GoodS p v b d l1 n1 l' n') : GoodS p v (.when_ x w c b) d l n l' n' := fun t said => by
  obtain ⟨s1, e1⟩ := h ((b, d) :: t) said
  obtain ⟨s2, e2⟩ := h2 t s1
  exact ⟨s2, .step rfl (by rw [s_when x w c b d t said l hn, if_pos e]; exact e1.trans e2)⟩
theorem bad_when1 (hn : n < 100) (e : v.getD x 0 = w) (h : GoodS p v c d l (n + 1) l1 n1) (h2 : BadS p v b d l1 n1 l') : BadS p v (.when_ x w c b) d l n l' := fun t said => by
  obtain ⟨s1, e1⟩ := h ((b, d) :: t) said
  obtain ⟨s2, e2, h3⟩ := h2 t s1
  exact ⟨s2, .step rfl (by rw [s_when x w c b d t said l hn, if_pos e]; exact e1.trans e2), h3⟩
theorem bad_when2 (hn : n < 100) (e : v.getD x 0 = w) (h : BadS p v c d l (n + 1) l') : BadS p v (.when_ x w c b) d l n l' := fun t said => by
  obtain ⟨s1, e1, h3⟩ := h ((b, d) :: t) said
  exact ⟨s1, .step rfl (by rw [s_when x w c b d t said l hn, if_pos e]; exact e1), h3⟩
theorem good_when0 (hn : n < 100) (e : ¬ v.getD x 0 = w) (h : GoodS p v b d l (n + 1) l' n') : GoodS p v (.when_ x w c b) d l n l' n' := fun t said => by
  obtain ⟨s1, e1⟩ := h t said
  exact ⟨s1, .step rfl (by rw [s_when x w c b d t said l hn, if_neg e]; exact e1)⟩
theorem bad_when0 (hn : n < 100) (e : ¬ v.getD x 0 = w) (h : BadS p v b d l (n + 1) l') : BadS p v (.when_ x w c b) d l n l' := fun t said => by
  obtain ⟨s1, e1, h3⟩ := h t said
  exact ⟨s1, .step rfl (by rw [s_when x w c b d t said l hn, if_neg e]; exact e1), h3⟩
end
/-- a whole run -/
theorem run_good {e n' : Nat} {l' : List Nat} (h : GoodS p v (bodyOf p e) 0 [e] 0 l' n') : (Vakepa.run p [] e v).entered = l' := by
  obtain ⟨said', s⟩ := h [] []
  have : Vakepa.run p [] e v = ⟨[], said', l', n', 0⟩ := goBy_steps s rfl FUEL (by
    have := mu_le ⟨[(bodyOf p e, 0)], [], [e], 0, 0⟩
    have : mu ⟨[(bodyOf p e, 0)], [], [e], 0, 0⟩ ≤ 2 * (100 - 0) + 1 := this
    show mu ⟨[(bodyOf p e, 0)], [], [e], 0, 0⟩ < 400
    omega)
  rw [this]
theorem run_bad {e : Nat} {l' : List Nat} (h : BadS p v (bodyOf p e) 0 [e] 0 l') : (Vakepa.run p [] e v).entered = l' := by
  obtain ⟨r', s, h1, h2⟩ := h [] []
  have ho : over r' = true := by
    unfold over
    have : (r'.fin != 0) = true := by simpa using h1
    rw [this, Bool.true_or]
  have : Vakepa.run p [] e v = r' := goBy_steps s ho FUEL (by
    have := mu_le ⟨[(bodyOf p e, 0)], [], [e], 0, 0⟩
    have : mu ⟨[(bodyOf p e, 0)], [], [e], 0, 0⟩ ≤ 2 * (100 - 0) + 1 := this
    show mu ⟨[(bodyOf p e, 0)], [], [e], 0, 0⟩ < 400
    omega)
  rw [this, h2]
end
/-! ### plain: parts by number, by name -/
theorem solveParts_get : ∀ {ns : List Bytes} {rs : List RawPart} {ps : List Vakepa.Part}, solveParts ns rs = .ok ps → ps.map (fun x => x.name) = rs.map (fun x => x.name) ∧ ∀ (k : Nat) (r : RawPart), rs[k]? = some r → ∃ b, solve ns r.body = .ok b ∧ ps[k]? = some ⟨r.name, r.size, b⟩
  | ns, [], ps, h => by
    cases h
    exact ⟨rfl, fun k r h => by simp at h⟩
  | ns, q :: rs, ps, h => by
    obtain ⟨b, h1, h2⟩ := bind_ok h
    obtain ⟨l, h3, rfl⟩ := map_ok h2
    obtain ⟨h4, h5⟩ := solveParts_get h3
    refine ⟨by simp [h4], fun k r hk => ?_⟩
    cases k with
    | zero =>
      simp at hk
      subst hk
      exact ⟨b, h1, rfl⟩
    | succ k => exact h5 k r (by simpa using hk)
theorem findIdx_map {α : Type} (f : α → Bytes) (b : Bytes) (l : List α) : l.findIdx? (fun x => f x == b) = (l.map f).findIdx? (fun y => y == b) := by
  rw [List.findIdx?_map]
  rfl
theorem nodup_len : ∀ (N : Nat) (l : List Nat), l.Nodup → (∀ k ∈ l, k < N) → l.length ≤ N
  | 0, [], _, _ => Nat.le_refl _
  | 0, k :: l, _, h => absurd (h k List.mem_cons_self) (Nat.not_lt_zero _)
  | N + 1, l, hd, h => by
    have h1 := nodup_len N (l.erase N) (hd.erase N) (fun k hk => by
      have h2 := (hd.mem_erase_iff).mp hk
      have h3 := h k h2.2
      have h4 : k ≠ N := h2.1
      omega)
    by_cases hm : N ∈ l
    · rw [List.length_erase_of_mem hm] at h1
      omega
    · rw [List.erase_of_not_mem hm] at h1
      omega
theorem mark_nd {k : Nat} {l : List Nat} (h : l.Nodup) : (mark k l).Nodup := by
  unfold mark
  split
  · exact h
  · rename_i e
    rw [List.nodup_append]
    refine ⟨h, by simp, fun a ha b hb => ?_⟩
    rw [List.mem_singleton.mp hb]
    intro z
    subst z
    exact e (List.contains_iff_mem.mpr ha)
theorem mark_lt {k N : Nat} {l : List Nat} (h : ∀ x ∈ l, x < N) (hk : k < N) : ∀ x ∈ mark k l, x < N := by
  intro x hx
  unfold mark at hx
  split at hx
  · exact h x hx
  · rcases List.mem_append.mp hx with hx | hx
    · exact h x hx
    · rw [List.mem_singleton.mp hx]
      exact hk
end PP

set_option Elab.async false
set_option linter.all false
set_option maxRecDepth 100000
set_option maxHeartbeats 4000000
namespace PP
open PySem PySem.Spec PyProof.Rows L2
open VakepBase (Bytes Fault)
open Vakepa (Raw RawPart Piece Prog pieceOf solve solveParts valuesBy valuesOf counts total pieceText madeName partNamed bodyOf mark)
/-! ### a run in the heap -/
def runF (p e a w d i n : V) : List (Str × V) := [("program", p), ("entry", e), ("assignment", a), ("words", w), ("done", d), ("within", i), ("entered", n)]
theorem putF_app {f : Str} {v : V} : ∀ {fs : List (Str × V)} {ns : List Str}, fs.map (fun x => x.1) = ns → ns.contains f = false → putF f v fs = fs ++ [(f, v)]
  | [], _, _, _ => rfl
  | (g, x) :: r, ns, e, h => by
    subst e
    have h : ((g, x) :: r).map (fun x => x.1) = g :: r.map (fun x => x.1) := rfl
    rename_i hc
    rw [h, List.contains_cons, Bool.or_eq_false_iff] at hc
    rw [put_past (fun z => by rw [z, beq_self_eq_true] at hc; exact absurd hc.1 (by simp)), putF_app rfl hc.2]
    rfl
section
variable {p e a w d i n y : V}
theorem runF_program : (runF p e a w d i n).lookup ("program" : Str) = some p := by
  unfold runF
  repeat (first | exact lk_here | refine (lk_past (by decide +kernel)).trans ?_)
theorem runF_entry : (runF p e a w d i n).lookup ("entry" : Str) = some e := by
  unfold runF
  repeat (first | exact lk_here | refine (lk_past (by decide +kernel)).trans ?_)
theorem runF_assignment : (runF p e a w d i n).lookup ("assignment" : Str) = some a := by
  unfold runF
  repeat (first | exact lk_here | refine (lk_past (by decide +kernel)).trans ?_)
theorem runF_words : (runF p e a w d i n).lookup ("words" : Str) = some w := by
  unfold runF
  repeat (first | exact lk_here | refine (lk_past (by decide +kernel)).trans ?_)
theorem runF_done : (runF p e a w d i n).lookup ("done" : Str) = some d := by
  unfold runF
  repeat (first | exact lk_here | refine (lk_past (by decide +kernel)).trans ?_)
theorem runF_within : (runF p e a w d i n).lookup ("within" : Str) = some i := by
  unfold runF
  repeat (first | exact lk_here | refine (lk_past (by decide +kernel)).trans ?_)
theorem runF_entered : (runF p e a w d i n).lookup ("entered" : Str) = some n := by
  unfold runF
  repeat (first | exact lk_here | refine (lk_past (by decide +kernel)).trans ?_)
theorem runF_putD : putF "done" y (runF p e a w d i n) = runF p e a w y i n := by
  unfold runF
  repeat (first | exact put_here | refine (put_past (by decide +kernel)).trans (congrArg _ ?_))
theorem runF_putW : putF "within" y (runF p e a w d i n) = runF p e a w d y n := by
  unfold runF
  repeat (first | exact put_here | refine (put_past (by decide +kernel)).trans (congrArg _ ?_))
theorem runF_new : putF "entered" n (putF "within" i (putF "done" d (putF "words" w (putF "assignment" a (putF "entry" e (putF "program" p [])))))) = runF p e a w d i n := by
  have e1 : putF "program" p [] = [(("program" : Str), p)] := rfl
  have e2 : putF "entry" e [(("program" : Str), p)] = [(("program" : Str), p), ("entry", e)] := putF_app (ns := ["program"]) rfl (by decide +kernel)
  have e3 : putF "assignment" a [(("program" : Str), p), ("entry", e)] = [(("program" : Str), p), ("entry", e), ("assignment", a)] := putF_app (ns := ["program", "entry"]) rfl (by decide +kernel)
  have e4 : putF "words" w [(("program" : Str), p), ("entry", e), ("assignment", a)] = [(("program" : Str), p), ("entry", e), ("assignment", a), ("words", w)] := putF_app (ns := ["program", "entry", "assignment"]) rfl (by decide +kernel)
  have e5 : putF "done" d [(("program" : Str), p), ("entry", e), ("assignment", a), ("words", w)] = [(("program" : Str), p), ("entry", e), ("assignment", a), ("words", w), ("done", d)] := putF_app (ns := ["program", "entry", "assignment", "words"]) rfl (by decide +kernel)
  have e6 : putF "within" i [(("program" : Str), p), ("entry", e), ("assignment", a), ("words", w), ("done", d)] = [(("program" : Str), p), ("entry", e), ("assignment", a), ("words", w), ("done", d), ("within", i)] := putF_app (ns := ["program", "entry", "assignment", "words", "done"]) rfl (by decide +kernel)
  have e7 : putF "entered" n [(("program" : Str), p), ("entry", e), ("assignment", a), ("words", w), ("done", d), ("within", i)] = runF p e a w d i n := putF_app (ns := ["program", "entry", "assignment", "words", "done", "within"]) rfl (by decide +kernel)
  rw [e1, e2, e3, e4, e5, e6, e7]
end
structure Rn where
  R : Addr
  dx : Addr
  pa : Addr
  e : Nat
  a : Nat
  wl : Addr
  el : Addr
def ents (l : List Nat) : List V := l.map fun x => V.int (x : Nat)
def Rn.fs (c : Rn) (n w : Nat) : List (Str × V) := runF (.ref c.pa) (.int (c.e : Nat)) (.int (c.a : Nat)) (.ref c.wl) (.int (n : Nat)) (.int (w : Nat)) (.ref c.el)
structure RunA (K : PySem.W.Frag) (c : Rn) (p : Prog) (H : Hp) (n w : Nat) (l : List Nat) : Prop where
  rn : H c.R = some (.ins (He.ga K "Run") c.dx (c.fs n w))
  wd : H c.wl = some (.lst (ents (valuesOf p c.a)))
  en : H c.el = some (.lst (ents l))
  pg : ProgAt K (off [c.R, c.el] H) c.pa p
  nd : l.Nodup
  lt : ∀ k ∈ l, k < p.parts.length
  ne : c.wl ≠ c.el
section
variable {K : PySem.W.Frag} {c : Rn} {p : Prog} {H H' : Hp} {n w : Nat} {l : List Nat}
theorem RunA.nR (h : RunA K c p H n w l) : c.R ≠ c.el := ne_of h.rn h.en (fun z => by cases z)
theorem RunA.nW (h : RunA K c p H n w l) : c.wl ≠ c.R := ne_of h.wd h.rn (fun z => by cases z)
theorem RunA.same (h : RunA K c p H n w l) (s : Same H H') : RunA K c p H' n w l := ⟨s _ _ h.rn, s _ _ h.wd, s _ _ h.en, h.pg.mono (off_of_same s), h.nd, h.lt, h.ne⟩
theorem RunA.put (h : RunA K c p H n w l) (n' w' : Nat) : RunA K c p (upd H c.R (.ins (He.ga K "Run") c.dx (c.fs n' w'))) n' w' l :=
  ⟨upd_same, (upd_ne h.nW).trans h.wd, (upd_ne h.nR.symm).trans h.en, h.pg.mono ((keep_updM (M := [c.R, c.el]) (by simp)).off fun _ h => h), h.nd, h.lt, h.ne⟩
theorem RunA.kept (h : RunA K c p H n w l) {n' w' : Nat} {l' : List Nat} (h2 : H' c.R = some (.ins (He.ga K "Run") c.dx (c.fs n' w'))) (h3 : H' c.el = some (.lst (ents l'))) (k : Keep [c.R, c.el] H H') (d : l'.Nodup) (g : ∀ k ∈ l', k < p.parts.length) : RunA K c p H' n' w' l' :=
  ⟨h2, k _ _ (kp2 h.nW h.ne) h.wd, h3, h.pg.mono (k.off fun _ h => h), d, g, h.ne⟩
theorem parts_len {rs : List RawPart} {ps : List Vakepa.Part} {ns : List Bytes} (h : solveParts ns rs = .ok ps) : ps.length = rs.length := by
  have := congrArg List.length (solveParts_get h).1
  rwa [List.length_map, List.length_map] at this
theorem ProgAt.p10 {a : Addr} (h : ProgAt K H a p) : p.parts.length ≤ 10 := by
  obtain ⟨dx, ls, lp, le, sas, pas, rs, h1, h2, h3, h4, h5, h6, h7, h8, _⟩ := h.ex
  rw [parts_len h7]
  exact h8
end
/-! ### joined names -/
theorem cat_nm {K : PySem.W.Frag} {H : Hp} {f q : Addr} {a b : Bytes} {Q : VK} (h1 : SqT K H f (nm a)) (h2 : SqT K H q (nm b)) (hz : a.length + b.length ≤ 1000) (h : ∀ (H' : Hp) (r : Addr), Same H H' → SqT K H' r (nm (a ++ b)) → Q (.ref r) H') : rCatA K (.ref f) (.ref q) H Q := by
  refine ⟨f, q, _, _, rfl, rfl, h1, h2, ?_, fun e => ?_, fun _ e => ?_, fun _ _ r hr => ?_⟩
  · rw [nm_len, nm_len]
    exact Nat.le_trans hz (by decide)
  · have : a = [] := List.map_eq_nil_iff.mp e
    subst this
    exact h H q (Same.refl H) h2
  · have : b = [] := List.map_eq_nil_iff.mp e
    subst this
    refine h H f (Same.refl H) ?_
    rw [List.append_nil]
    exact h1
  · refine h _ r (same_upd hr) (.inl (.inl ?_))
    rw [upd_same]
    unfold nm
    rw [List.map_append]
/-! ### promises -/
def spRunI (K : PySem.W.Frag) : Sp := fun vs H Q _ => ∃ (r dx pa : Addr) (p : Prog) (e a : Nat), vs = [.ref r, .ref pa, .int (e : Nat), .int (a : Nat)] ∧ H r = some (.ins (He.ga K "Run") dx []) ∧ ProgAt K (off [r] H) pa p ∧
  ∀ (H' : Hp) (wl el : Addr), Keep [r] H H' → H wl = none → H el = none → wl ≠ el → H' r = some (.ins (He.ga K "Run") dx (runF (.ref pa) (.int (e : Nat)) (.int (a : Nat)) (.ref wl) (.int 0) (.int 0) (.ref el))) → H' wl = some (.lst (ents (valuesOf p a))) → H' el = some (.lst []) → Q .non H'
def spMadeName (K : PySem.W.Frag) : Sp := fun vs H Q _ => ∃ (c : Rn) (p : Prog) (n w : Nat) (l : List Nat) (t : Addr) (qs : List Addr) (bs : List Bytes), vs = [.ref c.R, .ref t] ∧ RunA K c p H n w l ∧ H t = some (.tup (qs.map V.ref)) ∧ NamesAt H qs bs ∧ bs.length ≤ 3 ∧
  (∀ q ∈ bs.map (pieceOf p.sets), ∀ b, q = Piece.word b → b.length ≤ 16) ∧ ∀ (H' : Hp) (q : Addr), Same H H' → SqT K H' q (nm (madeName p (valuesOf p c.a) (bs.map (pieceOf p.sets)))) → Q (.ref q) H'
section
variable {P : Program} {w : World} {K : PySem.W.Frag} {mg : Str → Option Value} {base : Heap}
def N_Run_init : List Str := ["self", "program", "entry", "assignment"]
theorem sc_Run_init : FnScope N_Run_init ["self", "program", "entry", "assignment"] (defScope s_Run_init) := ⟨rfl, rfl, rfl, by decide +kernel, rfl, by decide +kernel, by decide +kernel⟩
theorem ok_Run_init (T : Txt K mg) : OkI P w K mg base 2 "Run" ["self", "program", "entry", "assignment"] (spRunI K) := by
  have G_words_of : Ok P w K mg base 1 "words_of" ["program", "assignment"] (spWordsOf K) := ok_words_of T
  refine okI_mk T.i_Run sc_Run_init (fun vs H Q E h => ?_) (fun qual cdv A outer s H vs Q E hr h => ?_)
  · obtain ⟨r, dx, pa, p, e, a, rfl, _⟩ := h
    rfl
  · have hr_words_of : Room 1 _ := hr
    refine ⟨_, (pss_cons (ps_fld (pv 0) (pv 1) rfl) (pss_cons (ps_fld (pv 0) (pv 2) rfl) (pss_cons (ps_fld (pv 0) (pv 3) rfl) (pss_cons (ps_fld (pv 0) (pe_c G_words_of hr_words_of (pa_cons (pv 1) (pa_cons (pv 3) pa_nil))) rfl) (pss_cons (ps_fld (pv 0) pe_int rfl) (pss_cons (ps_fld (pv 0) pe_int rfl) (pss_one (ps_fld (pv 0) (pe_lst pa_nil) rfl)))))))), ?_⟩
    obtain ⟨r, dx, pa, p, e, a, rfl, hp, hpg, q⟩ := h
    refine ⟨_, rfl, _, rfl, r, _, dx, [], rfl, hp, T.cls "Run", T.noat "Run" "program", (by show 0 < 1000; decide), ?_⟩
    refine ⟨_, rfl, _, rfl, r, _, dx, _, rfl, upd_same, T.cls "Run", T.noat "Run" "entry", (by show 1 < 1000; decide), ?_⟩
    refine ⟨_, rfl, _, rfl, r, _, dx, _, rfl, upd_same, T.cls "Run", T.noat "Run" "assignment", (by show 2 < 1000; decide), ?_⟩
    rw [upd_upd, upd_upd]
    have s0 : ∀ o, Same (off [r] H) (upd H r o) := fun o b u h => by
      obtain ⟨hb, h⟩ := off_some h
      rw [upd_ne (by simpa using hb)]
      exact h
    refine ⟨_, rfl, _, rfl, pa, p, a, rfl, hpg.mono (s0 _), fun H1 wl s1 nwl hwl => ?_⟩
    have h1 := s1 _ _ (upd_same (H := H) (a := r))
    have nwr : wl ≠ r := (ne_of_none upd_same nwl).symm
    rw [upd_ne nwr] at nwl
    have k1 : Keep [r] H H1 := fun b o hb e => s1 _ _ (by rw [upd_ne (by simpa using hb)]; exact e)
    refine ⟨_, rfl, r, _, dx, _, rfl, h1, T.cls "Run", T.noat "Run" "words", (by show 3 < 1000; decide), ?_⟩
    refine ⟨_, rfl, r, _, dx, _, rfl, upd_same, T.cls "Run", T.noat "Run" "done", (by show 4 < 1000; decide), ?_⟩
    refine ⟨_, rfl, r, _, dx, _, rfl, upd_same, T.cls "Run", T.noat "Run" "within", (by show 5 < 1000; decide), Nat.zero_le _, fun el nel => ?_⟩
    rw [upd_upd, upd_upd] at nel ⊢
    have ner : el ≠ r := (ne_of_none upd_same nel).symm
    rw [upd_ne ner] at nel
    have new : wl ≠ el := ne_of_none hwl nel
    refine ⟨_, rfl, r, _, dx, _, rfl, (upd_ne ner.symm).trans upd_same, T.cls "Run", T.noat "Run" "entered", (by show 6 < 1000; decide), ?_⟩
    rw [runF_new]
    refine q _ wl el (fun b o hb e => ?_) nwl ?_ new upd_same ?_ ?_
    · have hb2 : b ≠ r := by simpa using hb
      have e1 := k1 _ _ hb e
      rw [upd_ne hb2, upd_ne (ne_of_none e1 nel), upd_ne hb2]
      exact e1
    · cases ee : H el with
      | none => rfl
      | some o =>
        have := k1 el o (by simpa using ner) ee
        rw [nel] at this
        cases this
    · rw [upd_ne nwr, upd_ne new, upd_ne nwr]
      exact hwl
    · rw [upd_ne ner]
      exact upd_same
theorem none_idx {bs : List Bytes} {b : Bytes} (e : bs.contains b = false) : bs.findIdx? (fun y => y == b) = none := by
  rw [List.findIdx?_eq_none_iff]
  intro x hx
  cases z : x == b with
  | false => rfl
  | true =>
    rw [beq_iff_eq] at z
    subst z
    have := List.contains_iff_mem.mpr hx
    rw [e] at this
    cases this
theorem some_idx {bs : List Bytes} {b : Bytes} (e : bs.contains b = true) : ∃ j, bs.findIdx? (fun y => y == b) = some j := by
  cases e2 : bs.findIdx? (fun y => y == b) with
  | none =>
    rw [List.findIdx?_eq_none_iff] at e2
    have := e2 b (List.contains_iff_mem.mp e)
    simp at this
  | some j => exact ⟨j, rfl⟩
theorem pieceOf_none {ss : List Vakepa.Setting} {b : Bytes} (e : (ss.map fun s => s.name).contains b = false) : pieceOf ss b = .word b := by
  have := none_idx e
  rw [← findIdx_map] at this
  unfold pieceOf
  rw [this]
theorem pieceOf_some {ss : List Vakepa.Setting} {b : Bytes} {j : Nat} (e : (ss.map fun s => s.name).findIdx? (fun y => y == b) = some j) : pieceOf ss b = .set j := by
  rw [← findIdx_map] at e
  unfold pieceOf
  rw [e]
theorem piece_len {p : Prog} {a : Nat} (so : ∀ s ∈ p.sets, SetOk s) {q : Piece} (h : ∀ b, q = Piece.word b → b.length ≤ 16) : (pieceText p (valuesOf p a) q).length ≤ 16 := by
  cases q with
  | word b => exact h b rfl
  | set k =>
    show (((p.sets[k]?).bind fun s => s.values[(valuesOf p a).getD k 0]?).getD []).length ≤ 16
    cases e : p.sets[k]? with
    | none => exact Nat.zero_le _
    | some s =>
      rw [Option.bind_some]
      cases e2 : s.values[(valuesOf p a).getD k 0]? with
      | none => exact Nat.zero_le _
      | some b => exact (so s (List.mem_of_getElem? e)).1 b (List.mem_of_getElem? e2)
theorem flat_len {p : Prog} {a : Nat} (so : ∀ s ∈ p.sets, SetOk s) : ∀ {l : List Piece}, (∀ q ∈ l, ∀ b, q = Piece.word b → b.length ≤ 16) → (l.flatMap (pieceText p (valuesOf p a))).length ≤ l.length * 16
  | [], _ => Nat.le_refl _
  | q :: r, h => by
    rw [List.flatMap_cons, List.length_append, List.length_cons, Nat.succ_mul]
    have h1 := piece_len (a := a) so (h q List.mem_cons_self)
    have h2 := flat_len (a := a) so (l := r) (fun q hq => h q (List.mem_cons_of_mem _ hq))
    omega
theorem valuesOf_at {p : Prog} {a j : Nat} {s : Vakepa.Setting} (so : ∀ s ∈ p.sets, SetOk s) (h : p.sets[j]? = some s) : ∃ x, (valuesOf p a)[j]? = some x ∧ x < s.values.length := by
  have hc : (counts p)[j]? = some s.values.length := by
    show (p.sets.map fun s => s.values.length)[j]? = _
    rw [List.getElem?_map, h]
    rfl
  have hl : j < (valuesOf p a).length := by
    show j < (valuesBy (counts p) a).length
    rw [valuesBy_len]
    exact (List.getElem?_eq_some_iff.mp hc).1
  refine ⟨(valuesOf p a)[j], List.getElem?_eq_getElem hl, valuesBy_lt (counts p) a j _ _ (fun c hc => ?_) (List.getElem?_eq_getElem hl) hc⟩
  obtain ⟨s, hs, rfl⟩ := List.mem_map.mp hc
  exact (so s hs).2.1
def N_made_name : List Str := ["run", "pieces", "names", "found", "piece", "at"]
theorem sc_made_name : FnScope N_made_name ["run", "pieces"] (defScope s_made_name) := ⟨rfl, rfl, rfl, by decide +kernel, rfl, by decide +kernel, by decide +kernel⟩
theorem ok_made_name (T : Txt K mg) : Ok P w K mg base 2 "made_name" ["run", "pieces"] (spMadeName K) := by
  have G_setting_names : Ok P w K mg base 1 "setting_names" ["program"] (spSetNames K) := ok_setting_names T
  refine ok_mk T.d_made_name sc_made_name (fun vs H Q E h => ?_) (fun cdv A outer s H vs Q E hr h => ?_)
  · obtain ⟨c, p, n, w, l, t, qs, bs, rfl, _⟩ := h
    rfl
  · have hr_setting_names : Room 1 _ := hr
    refine ⟨_, (pss_cons (ps_set (i := 2) sc_made_name.nd rfl (Or.inl rfl) (pe_c G_setting_names hr_setting_names (pa_cons (pe_fld (pv 0) rfl) pa_nil))) (pss_cons (ps_set (i := 3) sc_made_name.nd rfl (Or.inl rfl) (pe_tup pa_nil)) (pss_cons (ps_for (passes_of rfl) rfl (pi_tup (pv 1)) (pg_name (i := 4) sc_made_name.nd rfl (Or.inl rfl)) (pss_cons (ps_if (pt_cmpR (op_inNL hr.u65) (pv 4) (pv 2) (by rfl)) (pss_cons (ps_set (i := 5) sc_made_name.nd rfl (Or.inl rfl) (pe_bm PySem.F.plainAttrs_list PySem.F.slot_list_index PySem.F.type_list_index (mt_indexN hr.u65) (pv 2) (pa_cons (pv 4) pa_nil))) (pss_one (ps_set (i := 4) sc_made_name.nd rfl (Or.inl rfl) (pe_ix ix_list (pe_fld (pe_ix ix_list (pe_fld (pe_fld (pv 0) rfl) rfl) (pv 5) (fun _ _ => rfl)) rfl) (pe_ix ix_list (pe_fld (pv 0) rfl) (pv 5) (fun _ _ => rfl)) (fun _ _ => rfl))))) pss_nil) (pss_one (ps_set (i := 3) sc_made_name.nd rfl (Or.inl rfl) (pe_op op_catA (pv 3) (pv 4)))))) (pss_one (ps_ret (pv 3)))))), ?_⟩
    obtain ⟨c, p, n, w', l, t, qs, bs, rfl, h, ht, hn, h3, h16, q⟩ := h
    obtain ⟨dp, ls, x, y, sas, p1, p2, p3⟩ := prog_sets (h.pg.mono off_same)
    have so := h.pg.so
    have s3 := h.pg.s3
    refine ⟨_, rfl, c.R, _, c.dx, _, _, rfl, h.rn, T.cls "Run", T.noat "Run" "program", runF_program, c.pa, dp, ls, x, y, sas, _, rfl, p1, p2, named_sets p3, by have := plen p3; omega, fun H1 D qn s1 nD hD hqn => ⟨Nat.zero_le _, fun f0 nf0 => ?_⟩⟩
    have s2 : Same H (upd H1 f0 (.tup [])) := s1.trans (same_upd nf0)
    refine ⟨_, rfl, t, rfl, ⟨_, .inl (.inl (s2 _ _ ht))⟩, for_tup (K := K) (a := t) (xs := qs.map V.ref) (fun i σ H' => Same H1 H' ∧ ∃ (f : Addr) (v v2 : Option V), σ = [some (.ref c.R), some (.ref t), some (.ref D), some (.ref f), v, v2] ∧ SqT K H' f (nm (((bs.map (pieceOf p.sets)).take i).flatMap (pieceText p (valuesOf p c.a))))) ⟨same_upd nf0, f0, none, none, rfl, .inl (.inl upd_same)⟩ (fun i σ H' _ ⟨g, _⟩ => .inl (.inl (g _ _ (s1 _ _ ht)))) ?_ ?_⟩
    · rintro i v σ H' hi ⟨g, f, v1, v2, rfl, hf⟩
      obtain ⟨qa, hqa, rfl⟩ := map_get hi
      obtain ⟨b, hb, hqb⟩ := pget hn hqa
      have g0 : Same H H' := s1.trans g
      have hb2 : (bs.map (pieceOf p.sets))[i]? = some (pieceOf p.sets b) := by
        rw [List.getElem?_map, hb]
        rfl
      have fin : ∀ (H2 : Hp) (r : Addr) (u u2 : Option V), Same H' H2 → SqT K H2 r (nm ((((bs.map (pieceOf p.sets)).take i).flatMap (pieceText p (valuesOf p c.a))) ++ pieceText p (valuesOf p c.a) (pieceOf p.sets b))) → Same H1 H2 ∧ ∃ (f : Addr) (v v2 : Option V), [some (V.ref c.R), some (.ref t), some (.ref D), some (.ref r), u, u2] = [some (.ref c.R), some (.ref t), some (.ref D), some (.ref f), v, v2] ∧ SqT K H2 f (nm (((bs.map (pieceOf p.sets)).take (i + 1)).flatMap (pieceText p (valuesOf p c.a)))) := fun H2 r u u2 gs hr => by
        refine ⟨g.trans gs, r, u, u2, rfl, ?_⟩
        rw [take_more hb2, List.flatMap_append]
        have e : ([pieceOf p.sets b] : List Piece).flatMap (pieceText p (valuesOf p c.a)) = pieceText p (valuesOf p c.a) (pieceOf p.sets b) := by simp
        rw [e]
        exact hr
      have hsz : (((bs.map (pieceOf p.sets)).take i).flatMap (pieceText p (valuesOf p c.a))).length + (pieceText p (valuesOf p c.a) (pieceOf p.sets b)).length ≤ 1000 := by
        have h1 := flat_len (a := c.a) so (l := (bs.map (pieceOf p.sets)).take i) (fun q hq => h16 q (List.mem_of_mem_take hq))
        have h2 := piece_len (a := c.a) so (h16 _ (List.mem_of_getElem? hb2))
        rw [List.length_take, List.length_map] at h1
        omega
      refine ⟨_, rfl, _, rfl, qa, D, b, qn, _, rfl, rfl, .inl (.inl (g0 _ _ hqb)), SqL.of (g _ _ hD), (hqn.mono g).sq, _, rfl, if_both (fun e => ?_) fun e => ?_⟩
      · obtain ⟨j, hj⟩ := some_idx e
        have ep := pieceOf_some hj
        rw [← findIdx_map] at hj
        obtain ⟨hjl, _⟩ := List.findIdx?_eq_some_iff_getElem.mp hj
        have hs : p.sets[j]? = some p.sets[j] := List.getElem?_eq_getElem hjl
        rw [findIdx_map] at hj
        obtain ⟨sa, hsa, dS, na, wl, was, hS, hna, hwl, hwas⟩ := Paired_get p3 hs
        obtain ⟨x, hx, hxl⟩ := valuesOf_at (a := c.a) so hs
        have hv : p.sets[j].values[x]? = some p.sets[j].values[x] := List.getElem?_eq_getElem hxl
        obtain ⟨wa, hwa, hwb⟩ := Paired_get hwas hv
        have et : pieceText p (valuesOf p c.a) (pieceOf p.sets b) = p.sets[j].values[x] := by
          rw [ep]
          show (((p.sets[j]?).bind fun s => s.values[(valuesOf p c.a).getD j 0]?).getD []) = _
          rw [hs, Option.bind_some, List.getD_eq_getElem?_getD, hx, Option.getD_some, hv, Option.getD_some]
        refine ⟨_, rfl, .inl ⟨rfl, _, SqL.of (g _ _ hD)⟩, _, rfl, qa, D, b, qn, _, j, rfl, rfl, .inl (.inl (g0 _ _ hqb)), SqL.of (g _ _ hD), (hqn.mono g).sq, hj, ?_⟩
        refine ⟨_, rfl, c.R, _, c.dx, _, _, rfl, g0 _ _ h.rn, T.cls "Run", T.noat "Run" "program", runF_program, c.pa, _, dp, _, _, rfl, g0 _ _ p1, T.cls "Program", T.noat "Program" "settings", pgF_settings, _, rfl, ls, _, _, _, rfl, rfl, SqL.of (g0 _ _ p2), atI_nat (by rw [List.getElem?_map, hsa]; rfl), sa, _, dS, _, _, rfl, g0 _ _ hS, T.cls "Setting", T.noat "Setting" "words", setF_words, ?_⟩
        refine ⟨_, rfl, c.R, _, c.dx, _, _, rfl, g0 _ _ h.rn, T.cls "Run", T.noat "Run" "words", runF_words, _, rfl, c.wl, _, _, _, rfl, rfl, SqL.of (g0 _ _ h.wd), atI_nat (by show (List.map _ _)[j]? = _; rw [List.getElem?_map, hx]; rfl), wl, _, _, _, rfl, rfl, SqL.of (g0 _ _ hwl), atI_nat (by rw [List.getElem?_map, hwa]; rfl), ?_⟩
        refine ⟨_, rfl, _, rfl, cat_nm hf (.inl (.inl (g0 _ _ hwb))) (by rw [et] at hsz; exact hsz) fun H2 r gs hr => fin H2 r _ _ gs ?_⟩
        rw [et]
        exact hr
      · have ep := pieceOf_none e
        have et : pieceText p (valuesOf p c.a) (pieceOf p.sets b) = b := by
          rw [ep]
          rfl
        refine ⟨_, rfl, _, rfl, cat_nm hf (.inl (.inl (g0 _ _ hqb))) (by rw [et] at hsz; exact hsz) fun H2 r gs hr => fin H2 r _ _ gs ?_⟩
        rw [et]
        exact hr
    · rintro σ H' ⟨g, f, v1, v2, rfl, hf⟩
      refine ⟨_, rfl, q H' f (s1.trans g) ?_⟩
      have e : (bs.map (pieceOf p.sets)).take (qs.map V.ref).length = bs.map (pieceOf p.sets) := by
        rw [List.length_map, plen hn]
        exact List.take_of_length_le (by rw [List.length_map]; exact Nat.le_refl _)
      rw [e] at hf
      exact hf
end
end PP

set_option Elab.async false
set_option linter.all false
set_option maxRecDepth 100000
set_option maxHeartbeats 4000000
namespace PP
open PySem PySem.Spec PyProof.Rows L2
open VakepBase (Bytes Fault)
open Vakepa (Raw RawPart Piece Prog pieceOf solve solveParts valuesBy valuesOf counts total pieceText madeName partNamed bodyOf mark)
theorem inV_ents {k : Nat} : ∀ {l : List Nat}, inV (.int (k : Nat)) (ents l) = l.contains k
  | [] => rfl
  | x :: r => by
    have ih := inV_ents (k := k) (l := r)
    show (eqV (.int (x : Nat)) (.int (k : Nat)) || inV (.int (k : Nat)) (ents r)) = _
    rw [ih, List.contains_cons]
    congr 1
    show ((x : Int) == (k : Int)) = (k == x)
    cases e : k == x with
    | true =>
      rw [beq_iff_eq] at e
      subst e
      exact beq_self_eq_true _
    | false =>
      have : k ≠ x := by simpa using e
      have : (x : Int) ≠ (k : Int) := by omega
      simpa using this
theorem flat_ents : ∀ {l : List Nat}, (ents l).all flatV = true
  | [] => rfl
  | x :: r => by
    show (flatV (.int (x : Nat)) && (ents r).all flatV) = true
    rw [flat_ents (l := r)]
    rfl
theorem ents_app {l : List Nat} {k : Nat} : ents l ++ [.int (k : Nat)] = ents (l ++ [k]) := by
  unfold ents
  rw [List.map_append]
  rfl
theorem ents_len {l : List Nat} : (ents l).length = l.length := List.length_map _
/-- a part of a program in the heap -/
structure PartIs (K : PySem.W.Frag) (H : Hp) (p : Prog) (k : Nat) (pk : Addr) : Prop where
  ex : ∃ (dx na ra : Addr) (xs : List V) (r : RawPart), H pk = some (.ins (He.ga K "Part") dx (partF (.ref na) (.int (r.size : Nat)) (.ref ra))) ∧ H ra = some (.tup xs) ∧ RowsAt H p.sets r.body xs ∧
    solve (p.parts.map fun x => x.name) r.body = .ok (bodyOf p k) ∧ RawOk p.sets 3 r.body ∧ p.parts[k]? = some ⟨r.name, r.size, bodyOf p k⟩
theorem prog_part {K : PySem.W.Frag} {H : Hp} {a : Addr} {p : Prog} {k : Nat} (h : ProgAt K H a p) (hk : k < p.parts.length) : ∃ (dx lp : Addr) (x y : V) (pas : List Addr) (pk : Addr), H a = some (.ins (He.ga K "Program") dx (pgF x (.ref lp) y)) ∧ H lp = some (.lst (pas.map V.ref)) ∧ pas[k]? = some pk ∧ PartIs K H p k pk := by
  obtain ⟨dx, ls, lp, le, sas, pas, rs, h1, h2, h3, h4, h5, h6, h7, h8, h9, _⟩ := h.ex
  obtain ⟨g1, g2⟩ := solveParts_get h7
  rw [parts_len h7] at hk
  have hr : rs[k]? = some rs[k] := List.getElem?_eq_getElem hk
  obtain ⟨pk, hpk, dp, na, ra, vs, q1, q2, q3, q4⟩ := Paired_get h5 hr
  obtain ⟨b, hb1, hb2⟩ := g2 k _ hr
  have eb : bodyOf p k = b := by
    unfold bodyOf
    rw [hb2]
    rfl
  refine ⟨dx, lp, _, _, pas, pk, h1, h4, hpk, dp, na, ra, vs, _, q1, q3, q4, ?_, h9 _ (List.mem_of_getElem? hr), ?_⟩
  · rw [g1, eb]
    exact hb1
  · rw [eb]
    exact hb2
theorem prog_named {K : PySem.W.Frag} {H : Hp} {a : Addr} {p : Prog} (h : ProgAt K H a p) : ∃ (dx lp : Addr) (x y : V) (pas : List Addr), H a = some (.ins (He.ga K "Program") dx (pgF x (.ref lp) y)) ∧ H lp = some (.lst (pas.map V.ref)) ∧ NamedAt K "Part" H pas (p.parts.map fun x => x.name) ∧ pas.length = p.parts.length := by
  obtain ⟨dx, ls, lp, le, sas, pas, rs, h1, h2, h3, h4, h5, h6, h7, h8, h9, _⟩ := h.ex
  refine ⟨dx, lp, _, _, pas, h1, h4, ?_, ?_⟩
  · rw [(solveParts_get h7).1]
    exact named_parts h5
  · rw [plen h5, parts_len h7]
/-! ### promises -/
def EndA (K : PySem.W.Frag) (c : Rn) (p : Prog) (H : Hp) (l : List Nat) : Prop := ∃ n w, RunA K c p H n w l
def spEnter (K : PySem.W.Frag) (W : Nat) : Sp := fun vs H Q E => ∃ (c : Rn) (p : Prog) (n : Nat) (l : List Nat) (k : Nat), vs = [.ref c.R, .int (k : Nat)] ∧ RunA K c p H n W l ∧ k < p.parts.length ∧
  (∀ H' l' n', GoodE p (valuesOf p c.a) k W l n l' n' → RunA K c p H' n' W l' → Keep [c.R, c.el] H H' → Q .non H') ∧
  ∀ H' l', BadE p (valuesOf p c.a) k W l n l' → EndA K c p H' l' → Keep [c.R, c.el] H H' → E (.ref (He.ga K "Ends")) none H'
def spEN (K : PySem.W.Frag) (W : Nat) : Sp := fun vs H Q E => ∃ (c : Rn) (p : Prog) (n : Nat) (l : List Nat) (q : Addr) (b : Bytes), vs = [.ref c.R, .ref q] ∧ RunA K c p H n W l ∧ SqT K H q (nm b) ∧
  (partNamed p b = none → ∀ H', Same H H' → Q .non H') ∧ ∀ k, partNamed p b = some k →
  (∀ H' l' n', GoodE p (valuesOf p c.a) k W l n l' n' → RunA K c p H' n' W l' → Keep [c.R, c.el] H H' → Q .non H') ∧
  ∀ H' l', BadE p (valuesOf p c.a) k W l n l' → EndA K c p H' l' → Keep [c.R, c.el] H H' → E (.ref (He.ga K "Ends")) none H'
def spDoRows (K : PySem.W.Frag) (d j : Nat) : Sp := fun vs H Q E => ∃ (c : Rn) (p : Prog) (n : Nat) (l : List Nat) (ra : Addr) (xs : List V) (raw : Raw) (st : Vakepa.Stmt), vs = [.ref c.R, .ref ra] ∧ RunA K c p H n (d + 1) l ∧ d < 9 ∧ 0 < j ∧
  off [c.R, c.el] H ra = some (.tup xs) ∧ RowsAt (off [c.R, c.el] H) p.sets raw xs ∧ solve (p.parts.map fun x => x.name) raw = .ok st ∧ RawOk p.sets (j - 1) raw ∧
  (∀ H' l' n', GoodS p (valuesOf p c.a) st d l n l' n' → RunA K c p H' n' (d + 1) l' → Keep [c.R, c.el] H H' → Q .non H') ∧
  ∀ H' l', BadS p (valuesOf p c.a) st d l n l' → EndA K c p H' l' → Keep [c.R, c.el] H H' → E (.ref (He.ga K "Ends")) none H'
theorem partNamed_eq {p : Prog} {b : Bytes} : partNamed p b = (p.parts.map fun x => x.name).findIdx? fun y => y == b := findIdx_map _ _ _
section
variable {P : Program} {w : World} {K : PySem.W.Frag} {mg : Str → Option Value} {base : Heap}
def N_enter : List Str := ["run", "part"]
theorem sc_enter : FnScope N_enter ["run", "part"] (defScope s_enter) := ⟨rfl, rfl, rfl, by decide +kernel, rfl, by decide +kernel, by decide +kernel⟩
theorem ok_enter_step (T : Txt K mg) {m W : Nat} (G_do_rows : Ok P w K mg base m "do_rows" ["run", "rows"] (spDoRows K W 4)) : Ok P w K mg base (m + 1) "enter" ["run", "part"] (spEnter K W) := by
  refine ok_mk T.d_enter sc_enter (fun vs H Q E h => ?_) (fun cdv A outer s H vs Q E hr h => ?_)
  · obtain ⟨c, p, n, l, k, rfl, _⟩ := h
    rfl
  · have hr_do_rows : Room m _ := hr
    refine ⟨_, (pss_cons (ps_if (pt_cmpR op_notIn_seq (pv 1) (pe_fld (pv 0) rfl) (by rfl)) (pss_one (ps_expr (pe_bm PySem.F.plainAttrs_list PySem.F.slot_list_append PySem.F.type_list_append mt_append (pe_fld (pv 0) rfl) (pa_cons (pv 1) pa_nil)))) pss_nil) (pss_cons (ps_if (pt_cmpR op_ge (pe_fld (pv 0) rfl) (pe_gl (T.int "MOST_WITHIN_runs" 9)) (nomark _)) (pss_one (ps_raise rfl (takes_of rfl rfl rfl rfl) (pmk_own0 PySem.F.excBase_ValueError T.exc.1 (T.g "Ends") T.exc.2.1 (raises_own T.exc.2.2.1 T.exc.2.2.2) rfl))) pss_nil) (pss_cons (ps_fld (pv 0) (pe_op op_add (pe_fld (pv 0) rfl) pe_int) rfl) (pss_cons (ps_expr (pe_cX G_do_rows hr_do_rows outE (pa_cons (pv 0) (pa_cons (pe_fld (pe_ix ix_list (pe_fld (pe_fld (pv 0) rfl) rfl) (pv 1) (fun _ _ => rfl)) rfl) pa_nil)))) (pss_one (ps_fld (pv 0) (pe_op op_sub (pe_fld (pv 0) rfl) pe_int) rfl)))))), ?_⟩
    obtain ⟨c, p, n, l, k, rfl, h, hk, hQ, hE⟩ := h
    refine ⟨_, rfl, _, rfl, c.R, _, c.dx, _, _, rfl, h.rn, T.cls "Run", T.noat "Run" "entered", runF_entered, c.el, _, rfl, .inl (SqL.of h.en), rfl, flat_ents, _, rfl, if_both (fun e => ?_) fun e => ?_⟩
    · have e : l.contains k = false := by
        rw [inV_ents] at e
        simpa using e
      have em : mark k l = l ++ [k] := by
        unfold mark
        rw [if_neg (by rw [e]; exact Bool.false_ne_true)]
      have hl := nodup_len _ _ h.nd h.lt
      have h10 := h.pg.p10
      refine ⟨_, rfl, c.R, _, c.dx, _, _, rfl, h.rn, T.cls "Run", T.noat "Run" "entered", runF_entered, .inl ⟨rfl, _, SqL.of h.en⟩, _, rfl, c.el, _, _, rfl, rfl, h.en, (by rw [ents_len]; exact Nat.lt_of_le_of_lt (Nat.le_trans hl h10) (by decide)), ?_⟩
      have k1 : Keep [c.R, c.el] H (upd H c.el (.lst (ents l ++ [.int (k : Nat)]))) := keep_updM (by simp)
      have a1 : RunA K c p (upd H c.el (.lst (ents l ++ [.int (k : Nat)]))) n W (mark k l) := h.kept ((upd_ne h.nR).trans h.rn) (by rw [upd_same, em, ents_app]) k1 (mark_nd h.nd) (mark_lt h.lt hk)
      revert a1 k1
      generalize upd H c.el (.lst (ents l ++ [.int (k : Nat)])) = H1
      intro k1 a1
      refine ⟨_, rfl, c.R, _, c.dx, _, _, rfl, a1.rn, T.cls "Run", T.noat "Run" "within", runF_within, _, _, rfl, rfl, _, rfl, if_both (fun e9 => ?_) fun e9 => ?_⟩
      · have e9 := of_decide_eq_true e9
        exact hE _ _ (.inr ⟨by omega, rfl⟩) ⟨_, _, a1⟩ k1
      have hW : W < 9 := by
        have e9 := of_decide_eq_false e9
        omega
      refine ⟨_, rfl, c.R, _, c.dx, _, _, rfl, a1.rn, T.cls "Run", T.noat "Run" "within", runF_within, _, _, rfl, rfl, _, rfl, c.R, _, c.dx, _, rfl, a1.rn, T.cls "Run", T.noat "Run" "within", (by show 7 < 1000; decide), ?_⟩
      unfold Rn.fs
      rw [runF_putW]
      have a2 := a1.put n (W + 1)
      obtain ⟨dp, lp, x, y, pas, pk, p1, p2, p3, dq, na, ra, xs, r, r1, r2, r3, r4, r5, r6⟩ := prog_part a2.pg hk
      refine ⟨_, rfl, _, rfl, c.R, _, c.dx, _, _, rfl, a2.rn, T.cls "Run", T.noat "Run" "program", runF_program, c.pa, _, dp, _, _, rfl, off_same _ _ p1, T.cls "Program", T.noat "Program" "parts", pgF_parts, _, rfl, lp, _, _, _, rfl, rfl, SqL.of (off_same _ _ p2), atI_nat (by rw [List.getElem?_map, p3]; rfl), pk, _, dq, _, _, rfl, off_same _ _ r1, T.cls "Part", T.noat "Part" "rows", partF_rows, ?_⟩
      refine ⟨c, p, n, mark k l, ra, xs, r.body, _, rfl, a2, hW, by decide, r2, r3, r4, r5, fun H3 l' n' hg a3 k3 => ?_, fun H3 l' hb he k3 => hE H3 l' (.inl ⟨hW, hb⟩) he ((k1.trans (keep_updM (by simp))).trans k3)⟩
      refine ⟨_, rfl, c.R, _, c.dx, _, _, rfl, a3.rn, T.cls "Run", T.noat "Run" "within", runF_within, _, _, rfl, rfl, _, rfl, c.R, _, c.dx, _, rfl, a3.rn, T.cls "Run", T.noat "Run" "within", (by show 7 < 1000; decide), ?_⟩
      unfold Rn.fs
      rw [runF_putW]
      have a4 := a3.put n' W
      have ew : ((W + 1 : Nat) : Int) - 1 = (W : Int) := by omega
      have ew2 : upd H3 c.R (.ins (He.ga K "Run") c.dx (c.fs n' W)) = upd H3 c.R (.ins (He.ga K "Run") c.dx (runF (.ref c.pa) (.int (c.e : Nat)) (.int (c.a : Nat)) (.ref c.wl) (.int (n' : Nat)) (.int (((W + 1 : Nat) : Int) - 1)) (.ref c.el))) := by
        rw [ew]
        rfl
      rw [ew2] at a4
      exact hQ _ l' n' ⟨hW, hg⟩ a4 (((k1.trans (keep_updM (by simp))).trans k3).trans (keep_updM (by simp)))
    · have e : l.contains k = true := by
        rw [inV_ents] at e
        simpa using e
      have em : mark k l = l := by
        unfold mark
        rw [if_pos e]
      have a1 : RunA K c p H n W (mark k l) := by
        rw [em]
        exact h
      have k1 : Keep [c.R, c.el] H H := Keep.refl _ _
      refine ⟨_, rfl, c.R, _, c.dx, _, _, rfl, a1.rn, T.cls "Run", T.noat "Run" "within", runF_within, _, _, rfl, rfl, _, rfl, if_both (fun e9 => ?_) fun e9 => ?_⟩
      · have e9 := of_decide_eq_true e9
        exact hE _ _ (.inr ⟨by omega, rfl⟩) ⟨_, _, a1⟩ k1
      have hW : W < 9 := by
        have e9 := of_decide_eq_false e9
        omega
      refine ⟨_, rfl, c.R, _, c.dx, _, _, rfl, a1.rn, T.cls "Run", T.noat "Run" "within", runF_within, _, _, rfl, rfl, _, rfl, c.R, _, c.dx, _, rfl, a1.rn, T.cls "Run", T.noat "Run" "within", (by show 7 < 1000; decide), ?_⟩
      unfold Rn.fs
      rw [runF_putW]
      have a2 := a1.put n (W + 1)
      obtain ⟨dp, lp, x, y, pas, pk, p1, p2, p3, dq, na, ra, xs, r, r1, r2, r3, r4, r5, r6⟩ := prog_part a2.pg hk
      refine ⟨_, rfl, _, rfl, c.R, _, c.dx, _, _, rfl, a2.rn, T.cls "Run", T.noat "Run" "program", runF_program, c.pa, _, dp, _, _, rfl, off_same _ _ p1, T.cls "Program", T.noat "Program" "parts", pgF_parts, _, rfl, lp, _, _, _, rfl, rfl, SqL.of (off_same _ _ p2), atI_nat (by rw [List.getElem?_map, p3]; rfl), pk, _, dq, _, _, rfl, off_same _ _ r1, T.cls "Part", T.noat "Part" "rows", partF_rows, ?_⟩
      refine ⟨c, p, n, mark k l, ra, xs, r.body, _, rfl, a2, hW, by decide, r2, r3, r4, r5, fun H3 l' n' hg a3 k3 => ?_, fun H3 l' hb he k3 => hE H3 l' (.inl ⟨hW, hb⟩) he ((k1.trans (keep_updM (by simp))).trans k3)⟩
      refine ⟨_, rfl, c.R, _, c.dx, _, _, rfl, a3.rn, T.cls "Run", T.noat "Run" "within", runF_within, _, _, rfl, rfl, _, rfl, c.R, _, c.dx, _, rfl, a3.rn, T.cls "Run", T.noat "Run" "within", (by show 7 < 1000; decide), ?_⟩
      unfold Rn.fs
      rw [runF_putW]
      have a4 := a3.put n' W
      have ew : ((W + 1 : Nat) : Int) - 1 = (W : Int) := by omega
      have ew2 : upd H3 c.R (.ins (He.ga K "Run") c.dx (c.fs n' W)) = upd H3 c.R (.ins (He.ga K "Run") c.dx (runF (.ref c.pa) (.int (c.e : Nat)) (.int (c.a : Nat)) (.ref c.wl) (.int (n' : Nat)) (.int (((W + 1 : Nat) : Int) - 1)) (.ref c.el))) := by
        rw [ew]
        rfl
      rw [ew2] at a4
      exact hQ _ l' n' ⟨hW, hg⟩ a4 (((k1.trans (keep_updM (by simp))).trans k3).trans (keep_updM (by simp)))
def N_enter_named : List Str := ["run", "name", "names"]
theorem sc_enter_named : FnScope N_enter_named ["run", "name"] (defScope s_enter_named) := ⟨rfl, rfl, rfl, by decide +kernel, rfl, by decide +kernel, by decide +kernel⟩
theorem ok_enter_named_step (T : Txt K mg) {m W : Nat} (hm : 1 ≤ m) (G_enter : Ok P w K mg base m "enter" ["run", "part"] (spEnter K W)) : Ok P w K mg base (m + 1) "enter_named" ["run", "name"] (spEN K W) := by
  have G_part_names : Ok P w K mg base 1 "part_names" ["program"] (spPartNames K) := ok_part_names T
  refine ok_mk T.d_enter_named sc_enter_named (fun vs H Q E h => ?_) (fun cdv A outer s H vs Q E hr h => ?_)
  · obtain ⟨c, p, n, l, q, b, rfl, _⟩ := h
    rfl
  · have hr_enter : Room m _ := hr
    have hr_part_names : Room 1 _ := hr.mono (by omega)
    refine ⟨_, (pss_cons (ps_set (i := 2) sc_enter_named.nd rfl (Or.inl rfl) (pe_c G_part_names hr_part_names (pa_cons (pe_fld (pv 0) rfl) pa_nil))) (pss_one (ps_if (pt_cmpR (op_inNL hr.u65) (pv 1) (pv 2) (by rfl)) (pss_one (ps_expr (pe_cX G_enter hr_enter outE (pa_cons (pv 0) (pa_cons (pe_bm PySem.F.plainAttrs_list PySem.F.slot_list_index PySem.F.type_list_index (mt_indexN hr.u65) (pv 2) (pa_cons (pv 1) pa_nil)) pa_nil))))) pss_nil))), ?_⟩
    obtain ⟨c, p, n, l, q, b, rfl, h, hq, hN, hS⟩ := h
    obtain ⟨dp, lp, x, y, pas, p1, p2, p3, p4⟩ := prog_named (h.pg.mono off_same)
    have h10 := h.pg.p10
    refine ⟨_, rfl, c.R, _, c.dx, _, _, rfl, h.rn, T.cls "Run", T.noat "Run" "program", runF_program, c.pa, dp, lp, x, y, pas, _, rfl, p1, p2, p3, by omega, fun H1 D qn s1 nD hD hqn => ?_⟩
    refine ⟨_, rfl, _, rfl, q, D, b, qn, _, rfl, rfl, SqT.same s1 hq, SqL.of hD, hqn.sq, _, rfl, if_both (fun e => ?_) fun e => ?_⟩
    · obtain ⟨j, hj⟩ := some_idx e
      have hj2 : partNamed p b = some j := partNamed_eq.trans hj
      obtain ⟨hjl, _⟩ := List.findIdx?_eq_some_iff_getElem.mp hj
      rw [List.length_map] at hjl
      obtain ⟨h1, h2⟩ := hS j hj2
      have k1 : Keep [c.R, c.el] H H1 := Keep.of_same s1
      exact ⟨_, rfl, _, rfl, .inl ⟨rfl, _, SqL.of hD⟩, _, rfl, q, D, b, qn, _, j, rfl, rfl, SqT.same s1 hq, SqL.of hD, hqn.sq, hj, c, p, n, l, j, rfl, h.same s1, hjl, fun H' l' n' g a k => h1 H' l' n' g a (k1.trans k), fun H' l' g a k => h2 H' l' g a (k1.trans k)⟩
    · exact hN (partNamed_eq.trans (none_idx e)) H1 s1
def N_do_rows : List Str := ["run", "rows", "row"]
theorem sc_do_rows : FnScope N_do_rows ["run", "rows"] (defScope s_do_rows) := ⟨rfl, rfl, rfl, by decide +kernel, rfl, by decide +kernel, by decide +kernel⟩
theorem ok_do_rows_none (T : Txt K mg) {m d j : Nat} (h0 : ¬ (d < 9 ∧ 0 < j)) : Ok P w K mg base (m + 1) "do_rows" ["run", "rows"] (spDoRows K d j) := by
  refine ok_mk T.d_do_rows sc_do_rows (fun vs H Q E h => ?_) (fun cdv A outer s H vs Q E hr h => ?_)
  · obtain ⟨c, p, n, l, ra, xs, raw, st, rfl, _⟩ := h
    rfl
  · obtain ⟨c, p, n, l, ra, xs, raw, st, rfl, _, h1, h2, _⟩ := h
    exact absurd ⟨h1, h2⟩ h0
theorem ok_do_rows_step (T : Txt K mg) {m d j : Nat} (hm : 2 ≤ m) (G_enter_named : Ok P w K mg base m "enter_named" ["run", "name"] (spEN K (d + 1))) (G_do_rows : Ok P w K mg base m "do_rows" ["run", "rows"] (spDoRows K d j)) : Ok P w K mg base (m + 1) "do_rows" ["run", "rows"] (spDoRows K d (j + 1)) := by
  have G_made_name : Ok P w K mg base 2 "made_name" ["run", "pieces"] (spMadeName K) := ok_made_name T
  refine ok_mk T.d_do_rows sc_do_rows (fun vs H Q E h => ?_) (fun cdv A outer s H vs Q E hr h => ?_)
  · obtain ⟨c, p, n, l, ra, xs, raw, st, rfl, _⟩ := h
    rfl
  · have hr_enter_named : Room m _ := hr
    have hr_do_rows : Room m _ := hr
    have hr_made_name : Room 2 _ := hr.mono (by omega)
    refine ⟨_, (pss_one (ps_for (passes_of rfl) rfl (pi_tup (pv 1)) (pg_name (i := 2) sc_do_rows.nd rfl (Or.inl rfl)) (pss_cons (ps_if (pt_cmpR op_ge (pe_fld (pv 0) rfl) (pe_gl (T.int "MOST_ROWS" 100)) (nomark _)) (pss_one (ps_raise rfl (takes_of rfl rfl rfl rfl) (pmk_own0 PySem.F.excBase_ValueError T.exc.1 (T.g "Ends") T.exc.2.1 (raises_own T.exc.2.2.1 T.exc.2.2.2) rfl))) pss_nil) (pss_cons (ps_fld (pv 0) (pe_op op_add (pe_fld (pv 0) rfl) pe_int) rfl) (pss_one (ps_if (pt_cmpR op_eq (pe_ix ix_tup (pv 2) pe_int (fun _ _ => rfl)) (pe_gl (T.int "CALLS" 2)) (nomark _)) (pss_one (ps_expr (pe_cX G_enter_named hr_enter_named outE (pa_cons (pv 0) (pa_cons (pe_ix ix_tup (pv 2) pe_int (fun _ _ => rfl)) pa_nil))))) (pss_one (ps_if (pt_cmpR op_eq (pe_ix ix_tup (pv 2) pe_int (fun _ _ => rfl)) (pe_gl (T.int "MAKES" 3)) (nomark _)) (pss_one (ps_expr (pe_cX G_enter_named hr_enter_named outE (pa_cons (pv 0) (pa_cons (pe_c G_made_name hr_made_name (pa_cons (pv 0) (pa_cons (pe_ix ix_tup (pv 2) pe_int (fun _ _ => rfl)) pa_nil))) pa_nil))))) (pss_one (ps_if (PW.pt (pw_and (pt_cmpR op_eq (pe_ix ix_tup (pv 2) pe_int (fun _ _ => rfl)) (pe_gl (T.int "ASKS" 4)) (nomark _)) (pw_and1 (pt_cmpR op_eq (pe_ix ix_list (pe_fld (pv 0) rfl) (pe_ix ix_tup (pv 2) pe_int (fun _ _ => rfl)) (fun _ _ => rfl)) (pe_ix ix_tup (pv 2) pe_int (fun _ _ => rfl)) (nomark _))))) (pss_one (ps_expr (pe_cX G_do_rows hr_do_rows outE (pa_cons (pv 0) (pa_cons (pe_ix ix_tup (pv 2) pe_int (fun _ _ => rfl)) pa_nil))))) pss_nil)))))))))), ?_⟩
    obtain ⟨c, p, n, l, ra, xs, raw, st, rfl, h, hd, _, hra, hrows, hsol, hok, hQ, hE⟩ := h
    have tup : ∀ {H' : Hp} {a : Addr} {ys : List V}, Keep [c.R, c.el] H H' → off [c.R, c.el] H a = some (.tup ys) → H' a = some (.tup ys) := fun k e => off_same _ _ (k.off (M' := [c.R, c.el]) (fun _ h => h) _ _ e)
    let I : Nat → L2.St → Hp → Prop := fun i σ H' => ∃ (raw' : Raw) (st' : Vakepa.Stmt) (n' : Nat) (l' : List Nat) (v : Option V), σ = [some (.ref c.R), some (.ref ra), v] ∧ RowsAt (off [c.R, c.el] H) p.sets raw' (xs.drop i) ∧ solve (p.parts.map fun x => x.name) raw' = .ok st' ∧ RawOk p.sets j raw' ∧
      RunA K c p H' n' (d + 1) l' ∧ Keep [c.R, c.el] H H' ∧ (∀ l2 n2, GoodS p (valuesOf p c.a) st' d l' n' l2 n2 → GoodS p (valuesOf p c.a) st d l n l2 n2) ∧ ∀ l2, BadS p (valuesOf p c.a) st' d l' n' l2 → BadS p (valuesOf p c.a) st d l n l2
    refine ⟨_, rfl, ra, rfl, ⟨_, .inl (.inl (tup (Keep.refl _ _) hra))⟩, for_tup (K := K) (a := ra) (xs := xs) I ⟨raw, st, n, l, none, rfl, hrows, hsol, hok, h, Keep.refl _ _, fun _ _ g => g, fun _ g => g⟩ (fun i σ H' _ ⟨_, _, _, _, _, _, _, _, _, _, k, _⟩ => .inl (.inl (tup k hra))) ?_ ?_⟩
    · rintro i x σ H' hi ⟨raw', st', n', l', v0, rfl, hrw, hs, ho, a1, k1, gd, bd⟩
      have hdr : xs.drop i = x :: xs.drop (i + 1) := by
        rw [List.drop_eq_getElem_cons (List.getElem?_eq_some_iff.mp hi).1, (List.getElem?_eq_some_iff.mp hi).2]
      rw [hdr] at hrw
      have hnd : st' ≠ .done := by
        intro z
        subst z
        cases raw' with
        | done => cases hrw
        | say k r =>
          obtain ⟨y, _, z⟩ := map_ok hs
          cases z
        | call q r =>
          unfold solve at hs
          split at hs
          · cases hs
          · obtain ⟨y, _, z⟩ := map_ok hs
            cases z
        | make ps r =>
          obtain ⟨y, _, z⟩ := map_ok hs
          cases z
        | when_ a v b r =>
          obtain ⟨y, _, z⟩ := bind_ok hs
          obtain ⟨y, _, z⟩ := map_ok z
          cases z
      refine ⟨_, rfl, c.R, _, c.dx, _, _, rfl, a1.rn, T.cls "Run", T.noat "Run" "done", runF_done, _, _, rfl, rfl, _, rfl, if_both (fun e9 => ?_) fun e9 => ?_⟩
      · have e9 := of_decide_eq_true e9
        exact hE _ _ (bd _ (bad_long hnd d l' (by omega))) ⟨_, _, a1⟩ k1
      have hn : n' < 100 := by
        have e9 := of_decide_eq_false e9
        omega
      refine ⟨_, rfl, c.R, _, c.dx, _, _, rfl, a1.rn, T.cls "Run", T.noat "Run" "done", runF_done, _, _, rfl, rfl, _, rfl, c.R, _, c.dx, _, rfl, a1.rn, T.cls "Run", T.noat "Run" "done", (by show 7 < 1000; decide), ?_⟩
      unfold Rn.fs
      rw [runF_putD]
      have a2 := a1.put (n' + 1) (d + 1)
      have k2 : Keep [c.R, c.el] H (upd H' c.R (.ins (He.ga K "Run") c.dx (c.fs (n' + 1) (d + 1)))) := k1.trans (keep_updM (by simp))
      have eH : upd H' c.R (.ins (He.ga K "Run") c.dx (c.fs (n' + 1) (d + 1))) = upd H' c.R (.ins (He.ga K "Run") c.dx (runF (.ref c.pa) (.int (c.e : Nat)) (.int (c.a : Nat)) (.ref c.wl) (.int ((n' : Int) + 1)) (.int ((d + 1 : Nat) : Int)) (.ref c.el))) := rfl
      rw [eH] at a2 k2
      revert a2 k2
      generalize upd H' c.R (.ins (He.ga K "Run") c.dx (runF (.ref c.pa) (.int (c.e : Nat)) (.int (c.a : Nat)) (.ref c.wl) (.int ((n' : Int) + 1)) (.int ((d + 1 : Nat) : Int)) (.ref c.el))) = H2
      intro a2 k2
      cases raw' with
      | done => cases hrw
      | say k r =>
        obtain ⟨a, vs', ex, ha, hr'⟩ := hrw
        injection ex with ex1 ex2
        subst ex1 ex2
        obtain ⟨b, hb, rfl⟩ := map_ok hs
        have ht : SqT K H2 a [.int 1, .int (k : Nat)] := .inl (.inl (tup k2 ha))
        refine ⟨_, rfl, a, _, 0, _, rfl, rfl, ht, rfl, rfl, _, rfl, if_false_of (by decide) ⟨_, rfl, a, _, 0, _, rfl, rfl, ht, rfl, rfl, _, rfl, if_false_of (by decide) ⟨_, rfl, a, _, 0, _, rfl, rfl, ht, rfl, rfl, _, rfl, if_false_of (by decide) ?_⟩⟩⟩
        exact ⟨r, b, n' + 1, l', _, rfl, hr', hb, ho, a2, k2, fun l2 n2 g => gd _ _ (good_say hn g), fun l2 g => bd _ (bad_say hn g)⟩
      | call q r =>
        obtain ⟨a, qa, vs', ex, ha, hqa, hr'⟩ := hrw
        injection ex with ex1 ex2
        subst ex1 ex2
        have ht : SqT K H2 a [.int 2, .ref qa] := .inl (.inl (tup k2 ha))
        unfold solve at hs
        cases hj : (p.parts.map fun x => x.name).findIdx? (fun y => y == q.name) with
        | none =>
          rw [hj] at hs
          cases hs
        | some k =>
          rw [hj] at hs
          obtain ⟨b, hb, rfl⟩ := map_ok hs
          refine ⟨_, rfl, a, _, 0, _, rfl, rfl, ht, rfl, rfl, _, rfl, if_true_of (by decide) ⟨_, rfl, _, rfl, a, _, 1, _, rfl, rfl, ht, rfl, ?_⟩⟩
          refine ⟨c, p, n' + 1, l', qa, q.name, rfl, a2, .inl (.inl (tup k2 hqa)), fun e => ?_, fun k' e => ?_⟩
          · rw [partNamed_eq, hj] at e
            cases e
          · rw [partNamed_eq, hj] at e
            cases e
            exact ⟨fun H3 l1 n1 hg a3 k3 => ⟨r, b, n1, l1, _, rfl, hr', hb, ho, a3, k2.trans k3, fun l2 n2 g => gd _ _ (good_call hn hg g), fun l2 g => bd _ (bad_call hn hg g)⟩, fun H3 l1 hg a3 k3 => hE H3 l1 (bd _ (bad_call0 hn hg)) a3 (k2.trans k3)⟩
      | make ps r =>
        obtain ⟨a, t, qs, bs, vs', ex, ha, hta, hnm, rfl, hr'⟩ := hrw
        injection ex with ex1 ex2
        subst ex1 ex2
        obtain ⟨b, hb, rfl⟩ := map_ok hs
        have ht : SqT K H2 a [.int 3, .ref t] := .inl (.inl (tup k2 ha))
        have hnm2 : NamesAt H2 qs bs := (hnm.mono (k2.off (M' := [c.R, c.el]) fun _ h => h)).mono off_same
        obtain ⟨⟨h16, h3⟩, ho2⟩ := ho
        rw [List.length_map] at h3
        refine ⟨_, rfl, a, _, 0, _, rfl, rfl, ht, rfl, rfl, _, rfl, if_false_of (by decide) ⟨_, rfl, a, _, 0, _, rfl, rfl, ht, rfl, rfl, _, rfl, if_true_of (by decide) ⟨_, rfl, _, rfl, _, rfl, a, _, 1, _, rfl, rfl, ht, rfl, ?_⟩⟩⟩
        refine ⟨c, p, n' + 1, d + 1, l', t, qs, bs, rfl, a2, tup k2 hta, hnm2, h3, h16, fun H3 q s3 hq => ?_⟩
        have k3 : Keep [c.R, c.el] H H3 := k2.trans (Keep.of_same s3)
        refine ⟨c, p, n' + 1, l', q, _, rfl, a2.same s3, hq, fun e H4 s4 => ?_, fun k e => ⟨fun H4 l1 n1 hg a4 k4 => ?_, fun H4 l1 hg a4 k4 => ?_⟩⟩
        · exact ⟨r, b, n' + 1, l', _, rfl, hr', hb, ho2, (a2.same s3).same s4, k3.trans (Keep.of_same s4), fun l2 n2 g => gd _ _ (good_make0 hn e g), fun l2 g => bd _ (bad_make0 hn e g)⟩
        · exact ⟨r, b, n1, l1, _, rfl, hr', hb, ho2, a4, k3.trans k4, fun l2 n2 g => gd _ _ (good_make1 hn e hg g), fun l2 g => bd _ (bad_make1 hn e hg g)⟩
        · exact hE H4 l1 (bd _ (bad_make2 hn e hg)) a4 (k3.trans k4)
      | when_ x v bb r =>
        obtain ⟨a, t, us, vs', ex, ha, hta, hbody, hr'⟩ := hrw
        injection ex with ex1 ex2
        subst ex1 ex2
        obtain ⟨y, hy, hs⟩ := bind_ok hs
        obtain ⟨b, hb, rfl⟩ := map_ok hs
        obtain ⟨⟨hx, hj⟩, ho1, ho2⟩ := ho
        have ht : SqT K H2 a [.int 4, .int (x : Nat), .int (v : Nat), .ref t] := .inl (.inl (tup k2 ha))
        obtain ⟨z, hz, _⟩ := valuesOf_at (a := c.a) h.pg.so (List.getElem?_eq_getElem hx)
        have ev : (valuesOf p c.a).getD x 0 = z := by rw [List.getD_eq_getElem?_getD, hz, Option.getD_some]
        refine ⟨_, rfl, a, _, 0, _, rfl, rfl, ht, rfl, rfl, _, rfl, if_false_of (by decide) ⟨_, rfl, a, _, 0, _, rfl, rfl, ht, rfl, rfl, _, rfl, if_false_of (by decide) ⟨_, rfl, a, _, 0, _, rfl, rfl, ht, rfl, rfl, _, rfl, if_true_of (by decide) ?_⟩⟩⟩
        refine ⟨_, rfl, c.R, _, c.dx, _, _, rfl, a2.rn, T.cls "Run", T.noat "Run" "words", runF_words, _, rfl, a, _, 1, _, rfl, rfl, ht, rfl, c.wl, _, _, _, rfl, rfl, SqL.of a2.wd, atI_nat (by show (List.map _ _)[x]? = _; rw [List.getElem?_map, hz]; rfl), _, rfl, a, _, 2, _, rfl, rfl, ht, rfl, rfl, _, rfl, if_both (fun e => ?_) fun e => ?_⟩
        · have e : z = v := by
            have e := of_decide_eq_true e
            injection e with e
            omega
          subst e
          refine ⟨_, rfl, _, rfl, a, _, 3, _, rfl, rfl, ht, rfl, ?_⟩
          exact ⟨c, p, n' + 1, l', t, us, bb, y, rfl, a2, hd, hj, k2.off (M' := [c.R, c.el]) (fun _ h => h) _ _ hta, hbody.tk (TupKeep.of_same (k2.off (M' := [c.R, c.el]) fun _ h => h)), hy, ho1, fun H3 l1 n1 hg a3 k3 => ⟨r, b, n1, l1, _, rfl, hr', hb, ho2, a3, k2.trans k3, fun l2 n2 g => gd _ _ (good_when1 hn ev hg g), fun l2 g => bd _ (bad_when1 hn ev hg g)⟩, fun H3 l1 hg a3 k3 => hE H3 l1 (bd _ (bad_when2 hn ev hg)) a3 (k2.trans k3)⟩
        · have e : ¬ z = v := by
            have e := of_decide_eq_false e
            intro z
            subst z
            exact e rfl
          have ev2 : ¬ (valuesOf p c.a).getD x 0 = v := by rw [ev]; exact e
          exact ⟨r, b, n' + 1, l', _, rfl, hr', hb, ho2, a2, k2, fun l2 n2 g => gd _ _ (good_when0 hn ev2 g), fun l2 g => bd _ (bad_when0 hn ev2 g)⟩
    · rintro σ H' ⟨raw', st', n', l', v0, rfl, hrw, hs, ho, a1, k1, gd, bd⟩
      rw [List.drop_length] at hrw
      cases raw' with
      | done =>
        cases hs
        exact hQ _ _ _ (gd _ _ (good_done _ _ _)) a1 k1
      | say _ _ => obtain ⟨_, _, z, _⟩ := hrw; cases z
      | call _ _ => obtain ⟨_, _, _, z, _⟩ := hrw; cases z
      | make _ _ => obtain ⟨_, _, _, _, _, z, _⟩ := hrw; cases z
      | when_ _ _ _ _ => obtain ⟨_, _, _, _, z, _⟩ := hrw; cases z
end
end PP

set_option Elab.async false
set_option linter.all false
set_option maxRecDepth 100000
set_option maxHeartbeats 4000000
namespace PP
open PySem PySem.Spec PyProof.Rows L2
open VakepBase (Bytes Fault)
open Vakepa (Raw RawPart Piece Prog pieceOf solve solveParts valuesBy valuesOf counts total pieceText madeName partNamed bodyOf mark)
section
variable {P : Program} {w : World} {K : PySem.W.Frag} {mg : Str → Option Value} {base : Heap}
theorem ok_enter_all (T : Txt K mg) : ∀ i W, W + i = 9 → Ok P w K mg base (3 + 6 * i) "enter" ["run", "part"] (spEnter K W)
  | 0, W, e => ok_enter_step T (m := 2) (ok_do_rows_none T (m := 1) (by omega))
  | i + 1, W, e => by
    have e1 := ok_enter_all T i (W + 1) (by omega)
    have en := ok_enter_named_step T (by omega) e1
    have d0 : Ok P w K mg base (3 + 6 * i + 1) "do_rows" ["run", "rows"] (spDoRows K W 0) := ok_do_rows_none T (by omega)
    have d1 := ok_do_rows_step T (by omega) en d0
    have d2 := ok_do_rows_step T (by omega) (en.mono (by omega)) d1
    have d3 := ok_do_rows_step T (by omega) (en.mono (by omega)) d2
    have d4 := ok_do_rows_step T (by omega) (en.mono (by omega)) d3
    exact (ok_enter_step T d4).mono (by omega)
theorem ok_enter0 (T : Txt K mg) : Ok P w K mg base 57 "enter" ["run", "part"] (spEnter K 0) := ok_enter_all T 9 0 rfl
end
/-! ### runs in the heap -/
def RunIs (K : PySem.W.Frag) (H : Hp) (r el : Addr) (i a : Nat) (l : List Nat) : Prop := ∃ (dx : Addr) (x y z u : V), H r = some (.ins (He.ga K "Run") dx (runF x (.int (i : Nat)) (.int (a : Nat)) y z u (.ref el))) ∧ H el = some (.lst (ents l))
theorem RunIs.mono {K : PySem.W.Frag} {H H' : Hp} {r el : Addr} {i a : Nat} {l : List Nat} (s : Same H H') (h : RunIs K H r el i a l) : RunIs K H' r el i a l := by
  obtain ⟨dx, x, y, z, u, h1, h2⟩ := h
  exact ⟨dx, x, y, z, u, s _ _ h1, s _ _ h2⟩
def entOf (p : Prog) (k a : Nat) : List Nat := (Vakepa.run p [] k (valuesOf p a)).entered
def spRunOf (K : PySem.W.Frag) : Sp := fun vs H Q _ => ∃ (pa : Addr) (p : Prog) (i a k : Nat), vs = [.ref pa, .int (i : Nat), .int (a : Nat)] ∧ ProgAt K H pa p ∧ p.starts[i]? = some k ∧
  ∀ (H' : Hp) (r el : Addr), Same H H' → H r = none → H el = none → RunIs K H' r el i a (entOf p k a) → (entOf p k a).Nodup → (∀ x ∈ entOf p k a, x < p.parts.length) → Q (.ref r) H'
theorem prog_entries {K : PySem.W.Frag} {H : Hp} {a : Addr} {p : Prog} (h : ProgAt K H a p) : ∃ (dx le : Addr) (x y : V), H a = some (.ins (He.ga K "Program") dx (pgF x y (.ref le))) ∧ H le = some (.lst (ents p.starts)) ∧ ∀ e ∈ p.starts, e < p.parts.length := by
  obtain ⟨dx, ls, lp, le, sas, pas, rs, h1, h2, h3, h4, h5, h6, h7, h8, h9, h10⟩ := h.ex
  exact ⟨dx, le, _, _, h1, h6, fun e he => by rw [parts_len h7]; exact h10 e he⟩
section
variable {P : Program} {w : World} {K : PySem.W.Frag} {mg : Str → Option Value} {base : Heap}
def N_run_of : List Str := ["program", "entry", "assignment", "run"]
theorem sc_run_of : FnScope N_run_of ["program", "entry", "assignment"] (defScope s_run_of) := ⟨rfl, rfl, rfl, by decide +kernel, rfl, by decide +kernel, by decide +kernel⟩
theorem ok_run_of (T : Txt K mg) : Ok P w K mg base 58 "run_of" ["program", "entry", "assignment"] (spRunOf K) := by
  have G_enter : Ok P w K mg base 57 "enter" ["run", "part"] (spEnter K 0) := ok_enter0 T
  have G_Run_init : OkI P w K mg base 2 "Run" ["self", "program", "entry", "assignment"] (spRunI K) := ok_Run_init T
  refine ok_mk T.d_run_of sc_run_of (fun vs H Q E h => ?_) (fun cdv A outer s H vs Q E hr h => ?_)
  · obtain ⟨pa, p, i, a, k, rfl, _⟩ := h
    rfl
  · have hr_enter : Room 57 _ := hr
    have hr_Run : Room (2 + 1) _ := hr.mono (by decide)
    refine ⟨_, (pss_cons (ps_set (i := 3) sc_run_of.nd rfl (Or.inl rfl) (pe_mkI (T.mkr "Run") G_Run_init hr_Run (T.g "Run") (pa_cons (pv 0) (pa_cons (pv 1) (pa_cons (pv 2) pa_nil))))) (pss_cons (ps_try_only (tb := fun W => tDrop (tCallS (spEnter K 0) (WE W) (tCons (tVar 3) (tCons (tOp (rIxL K) (tFld K (tVar 0) "entries") (tVar 1)) tNil)))) (ts := fun _ _ _ => tRet (tVar 3)) (Wout := fun _ _ _ _ => False) rfl rfl ⟨rfl, by decide, Or.inl (T.g "Ends")⟩ takes0 (fun W pn xe tk _ => pss_one (ps_expr (pe_cS G_enter hr_enter tk (by exact (pa_cons (pv 3) (pa_cons (pe_ix ix_list (pe_fld (pv 0) rfl) (pv 1) (fun _ _ => rfl)) pa_nil)))))) (fun _ _ _ _ _ _ _ => pss_one (ps_ret (pv 3)))) (pss_one (ps_ret (pv 3))))), ?_⟩
    obtain ⟨pa, p, i, a, k, rfl, h, hk, q⟩ := h
    refine ⟨_, rfl, _, rfl, _, rfl, fun r dx nr ndx ne => ⟨r, dx, pa, p, i, a, rfl, upd_same, ?_, fun H1 wl el k1 nwl nel nne h1 h2 h3 => ⟨rfl, ?_⟩⟩⟩
    · exact h.mono fun b o e => off_get (by rw [List.mem_singleton]; exact ne_of_none e nr) (new2 nr ndx _ _ e)
    have s0 : Same H (upd (upd H dx (.own r)) r (.ins (He.ga K "Run") dx [])) := new2 nr ndx
    have nel0 : H el = none := s0.free nel
    have s1 : Same H H1 := fun b o e => k1 _ _ (by rw [List.mem_singleton]; exact ne_of_none e nr) (s0 _ _ e)
    have s2 : Same H (off [r, el] H1) := fun b o e => off_get (kp2 (ne_of_none e nr) (ne_of_none e nel0)) (s1 _ _ e)
    obtain ⟨c, hc⟩ : ∃ c : Rn, c = ⟨r, dx, pa, i, a, wl, el⟩ := ⟨_, rfl⟩
    have a1 : RunA K c p H1 0 0 [] := by
      subst hc
      exact ⟨h1, h2, h3, h.mono s2, by simp, by simp, nne⟩
    obtain ⟨dp, le, x, y, p1, p2, p3⟩ := prog_entries h
    have hkp : k < p.parts.length := p3 k (List.mem_of_getElem? hk)
    have em : mark k [] = [k] := rfl
    have fin : ∀ (H2 : Hp) (l' : List Nat), entOf p k a = l' → EndA K c p H2 l' → Keep [c.R, c.el] H1 H2 → Q (.ref r) H2 := fun H2 l' el' ⟨n2, w2, a2⟩ k2 => by
      subst el'
      have s3 : Same H H2 := fun b o e => k2 _ _ (by
        subst hc
        exact kp2 (ne_of_none e nr) (ne_of_none e nel0)) (s1 _ _ e)
      refine q H2 r el s3 nr nel0 ?_ a2.nd a2.lt
      subst hc
      exact ⟨dx, _, _, _, _, a2.rn, a2.en⟩
    refine ⟨_, rfl, _, rfl, pa, _, dp, _, _, rfl, s1 _ _ p1, T.cls "Program", T.noat "Program" "entries", pgF_entries, _, rfl, le, _, i, _, rfl, rfl, SqL.of (s1 _ _ p2), atI_nat (by show (List.map _ _)[i]? = _; rw [List.getElem?_map, hk]; rfl), ?_⟩
    refine ⟨c, p, 0, [], k, by subst hc; rfl, a1, hkp, fun H2 l' n' hg a2 k2 => ?_, fun H2 l' hb a2 k2 => ?_⟩
    · have := run_good (by rw [← em]; subst hc; exact hg.2)
      exact ⟨_, rfl, fin H2 l' this ⟨_, _, a2⟩ k2⟩
    · have : entOf p k a = l' := by
        rcases hb with ⟨_, hb⟩ | ⟨z, _⟩
        · exact run_bad (by rw [← em]; subst hc; exact hb)
        · omega
      exact ⟨true, T.exm "Ends", fun _ _ _ => ⟨_, rfl, fin H2 l' this a2 k2⟩, fun z => by cases z⟩
end
end PP

set_option Elab.async false
set_option linter.all false
set_option maxRecDepth 100000
set_option maxHeartbeats 4000000
namespace PP
open PySem PySem.Spec PyProof.Rows L2
open VakepBase (Bytes Fault)
open Vakepa (Raw RawPart Piece Prog valuesOf counts total assignments)
open Vakepe (Order orders)
/-! ### all runs -/
theorem foldl_mul_le : ∀ (l : List Nat) (x : Nat), (∀ c ∈ l, c ≤ 4) → l.foldl (fun x y => x * y) x ≤ x * 4 ^ l.length
  | [], x, _ => by simp
  | c :: r, x, h => by
    have h1 := foldl_mul_le r (x * c) (fun c hc => h c (List.mem_cons_of_mem _ hc))
    have h2 : x * c * 4 ^ r.length ≤ x * 4 * 4 ^ r.length := Nat.mul_le_mul_right _ (Nat.mul_le_mul_left _ (h c List.mem_cons_self))
    have h3 : x * 4 ^ (c :: r).length = x * 4 * 4 ^ r.length := by
      rw [List.length_cons, Nat.pow_succ, Nat.mul_assoc, Nat.mul_comm (4 ^ r.length) 4]
    rw [h3]
    exact Nat.le_trans h1 h2
theorem total_le {p : Prog} (so : ∀ s ∈ p.sets, SetOk s) (s3 : p.sets.length ≤ 3) : total p ≤ 64 := by
  have h := foldl_mul_le (counts p) 1 (fun c hc => by
    obtain ⟨s, hs, rfl⟩ := List.mem_map.mp hc
    exact (so s hs).2.2)
  have h2 : 4 ^ (counts p).length ≤ 4 ^ 3 := Nat.pow_le_pow_right (by decide) (by
    show (p.sets.map _).length ≤ 3
    rw [List.length_map]
    exact s3)
  show (counts p).foldl (fun x y => x * y) 1 ≤ 64
  omega
def rowOf (p : Prog) (e : Nat) : List Order := (assignments p).map fun a => ⟨e, a, entOf p e a⟩
theorem orders_eq (p : Prog) : orders p = p.starts.flatMap (rowOf p) := rfl
theorem rowOf_len (p : Prog) (e : Nat) : (rowOf p e).length = total p := by
  show ((List.range (total p)).map _).length = _
  rw [List.length_map, List.length_range]
theorem rowOf_get (p : Prog) (e : Nat) {a : Nat} (h : a < total p) : (rowOf p e)[a]? = some ⟨e, a, entOf p e a⟩ := by
  show ((List.range (total p)).map _)[a]? = _
  rw [List.getElem?_map, List.getElem?_range h]
  rfl
theorem flat_row_len (p : Prog) : ∀ l : List Nat, (l.flatMap (rowOf p)).length = l.length * total p
  | [] => by simp
  | e :: r => by
    rw [List.flatMap_cons, List.length_append, rowOf_len, flat_row_len p r, List.length_cons, Nat.succ_mul]
    omega
theorem orders_len (p : Prog) : (orders p).length = p.starts.length * total p := flat_row_len p p.starts
theorem flat_row_get (p : Prog) : ∀ (l : List Nat) (i a e : Nat), l[i]? = some e → a < total p → (l.flatMap (rowOf p))[total p * i + a]? = some ⟨e, a, entOf p e a⟩
  | [], i, a, e, h, _ => by simp at h
  | x :: r, 0, a, e, h, ha => by
    simp at h
    subst h
    rw [List.flatMap_cons, Nat.mul_zero, Nat.zero_add, List.getElem?_append_left (by rw [rowOf_len]; exact ha)]
    exact rowOf_get p x ha
  | x :: r, i + 1, a, e, h, ha => by
    rw [List.flatMap_cons, List.getElem?_append_right (by rw [rowOf_len, Nat.mul_succ]; omega), rowOf_len]
    have e1 : total p * (i + 1) + a - total p = total p * i + a := by
      rw [Nat.mul_succ]
      omega
    rw [e1]
    exact flat_row_get p r i a e (by simpa using h) ha
theorem orders_get {p : Prog} {i a e : Nat} (h : p.starts[i]? = some e) (ha : a < total p) : (orders p)[total p * i + a]? = some ⟨e, a, entOf p e a⟩ := flat_row_get p p.starts i a e h ha
def RunOf (K : PySem.W.Frag) (p : Prog) (H : Hp) (r : Addr) (o : Order) : Prop := ∃ (i : Nat) (el : Addr), p.starts[i]? = some o.e ∧ RunIs K H r el i o.a o.l ∧ o.l.Nodup ∧ ∀ x ∈ o.l, x < p.parts.length
theorem RunOf.mono {K : PySem.W.Frag} {p : Prog} {H H' : Hp} {r : Addr} {o : Order} (s : Same H H') (h : RunOf K p H r o) : RunOf K p H' r o := by
  obtain ⟨i, el, h1, h2, h3⟩ := h
  exact ⟨i, el, h1, h2.mono s, h3⟩
def RunsAt (K : PySem.W.Frag) (p : Prog) (H : Hp) (rs : List Addr) (os : List Order) : Prop := Paired (RunOf K p H) rs os
theorem RunsAt.mono {K : PySem.W.Frag} {p : Prog} {H H' : Hp} {rs : List Addr} {os : List Order} (s : Same H H') (h : RunsAt K p H rs os) : RunsAt K p H' rs os := pimp h fun _ _ e => e.mono s
/-- a run that is new -/
def RunNew (K : PySem.W.Frag) (p : Prog) (H0 H : Hp) (r : Addr) (o : Order) : Prop := ∃ (i : Nat) (el : Addr), p.starts[i]? = some o.e ∧ RunIs K H r el i o.a o.l ∧ (o.l.Nodup ∧ ∀ x ∈ o.l, x < p.parts.length) ∧ H0 r = none ∧ H0 el = none
theorem RunNew.mono {K : PySem.W.Frag} {p : Prog} {H0 H H' : Hp} {r : Addr} {o : Order} (s : Same H H') (h : RunNew K p H0 H r o) : RunNew K p H0 H' r o := by
  obtain ⟨i, el, h1, h2, h3⟩ := h
  exact ⟨i, el, h1, h2.mono s, h3⟩
theorem RunNew.runOf {K : PySem.W.Frag} {p : Prog} {H0 H : Hp} {r : Addr} {o : Order} (h : RunNew K p H0 H r o) {F : List Addr} (hF : ∀ f ∈ F, H0 f ≠ none) : RunOf K p (off F H) r o := by
  obtain ⟨i, el, h1, ⟨dx, x1, x2, x3, x4, h2, h3⟩, h4, h5, h6⟩ := h
  exact ⟨i, el, h1, ⟨dx, x1, x2, x3, x4, off_get (fun z => hF _ z h5) h2, off_get (fun z => hF _ z h6) h3⟩, h4⟩
def spRunsOf (K : PySem.W.Frag) : Sp := fun vs H Q _ => ∃ (pa : Addr) (p : Prog), vs = [.ref pa] ∧ ProgAt K H pa p ∧
  ∀ (H' : Hp) (fl : Addr) (rs : List Addr), Same H H' → H fl = none → H' fl = some (.lst (rs.map V.ref)) → Paired (RunNew K p H H') rs (orders p) → Q (.ref fl) H'
section
variable {P : Program} {w : World} {K : PySem.W.Frag} {mg : Str → Option Value} {base : Heap}
def N_runs_of : List Str := ["program", "found", "entry", "assignment"]
theorem sc_runs_of : FnScope N_runs_of ["program"] (defScope s_runs_of) := ⟨rfl, rfl, rfl, by decide +kernel, rfl, by decide +kernel, by decide +kernel⟩
theorem ok_runs_of (T : Txt K mg) : Ok P w K mg base 59 "runs_of" ["program"] (spRunsOf K) := by
  have G_run_of : Ok P w K mg base 58 "run_of" ["program", "entry", "assignment"] (spRunOf K) := ok_run_of T
  have G_assignment_count : Ok P w K mg base 1 "assignment_count" ["program"] (spACount K) := ok_assignment_count T
  refine ok_mk T.d_runs_of sc_runs_of (fun vs H Q E h => ?_) (fun cdv A outer s H vs Q E hr h => ?_)
  · obtain ⟨pa, p, rfl, _⟩ := h
    rfl
  · have hr_run_of : Room 58 _ := hr
    have hr_assignment_count : Room 1 _ := hr.mono (by decide)
    refine ⟨_, (pss_cons (ps_set (i := 1) sc_runs_of.nd rfl (Or.inl rfl) (pe_lst pa_nil)) (pss_cons (ps_for (passes_of rfl) rfl (pi_range1 (by rfl) (T.free "range") (pa_cons (pe_callB call_len (by rfl) (T.free "len") PySem.boot_len (pa_cons (pe_fld (pv 0) rfl) pa_nil)) pa_nil)) (pg_name (i := 2) sc_runs_of.nd rfl (Or.inl rfl)) (pss_one (ps_for (passes_of rfl) rfl (pi_range1 (by rfl) (T.free "range") (pa_cons (pe_c G_assignment_count hr_assignment_count (pa_cons (pv 0) pa_nil)) pa_nil)) (pg_name (i := 3) sc_runs_of.nd rfl (Or.inl rfl)) (pss_one (ps_expr (pe_bm PySem.F.plainAttrs_list PySem.F.slot_list_append PySem.F.type_list_append mt_append (pv 1) (pa_cons (pe_c G_run_of hr_run_of (pa_cons (pv 0) (pa_cons (pv 2) (pa_cons (pv 3) pa_nil)))) pa_nil))))))) (pss_one (ps_ret (pv 1))))), ?_⟩
    obtain ⟨pa, p, rfl, h, q⟩ := h
    obtain ⟨dp, le, x, y, p1, p2, p3⟩ := prog_entries h
    have ht := total_le h.so h.s3
    have h4 := h.e4
    refine ⟨Nat.zero_le _, fun fl nfl => ?_⟩
    have s0 : Same H (upd H fl (.lst [])) := same_upd nfl
    let I : List Order → Hp → List Addr → Prop := fun os H' rs => Same H (off [fl] H') ∧ H' fl = some (.lst (rs.map V.ref)) ∧ Paired (RunNew K p H (off [fl] H')) rs os
    refine ⟨_, rfl, pa, _, dp, _, _, rfl, s0 _ _ p1, T.cls "Program", T.noat "Program" "entries", pgF_entries, _, p.starts.length, rfl, .inl ⟨_, SqL.of (s0 _ _ p2), ents_len.symm⟩, _, rfl, by omega, by omega, ?_⟩
    have hof : Same H (off [fl] (upd H fl (.lst []))) := fun b o e => off_get (by rw [List.mem_singleton]; exact ne_of_none e nfl) (s0 _ _ e)
    refine for_range (n := p.starts.length) (fun i σ H' => ∃ (v2 v3 : Option V) (rs : List Addr), σ = [some (.ref pa), some (.ref fl), v2, v3] ∧ I ((p.starts.take i).flatMap (rowOf p)) H' rs) ⟨none, none, [], rfl, hof, upd_same, .nil⟩ ?_ ?_
    · rintro i σ H' hi ⟨v2, v3, rs, rfl, hI⟩
      have hk : p.starts[i]? = some p.starts[i] := List.getElem?_eq_getElem hi
      have hs1 : Same H H' := hI.1.trans off_same
      refine ⟨_, rfl, pa, p, rfl, h.mono hs1, _, rfl, by omega, by omega, ?_⟩
      have er : ((p.starts.take (i + 1)).flatMap (rowOf p)) = ((p.starts.take i).flatMap (rowOf p)) ++ (rowOf p p.starts[i]).take (total p) := by
        have e2 : (rowOf p p.starts[i]).take (total p) = rowOf p p.starts[i] := List.take_of_length_le (by rw [rowOf_len]; exact Nat.le_refl _)
        rw [take_more hk, List.flatMap_append, e2]
        simp
      refine for_range (n := total p) (fun j σ H' => ∃ (v3 : Option V) (rs : List Addr), σ = [some (.ref pa), some (.ref fl), some (.int (i : Nat)), v3] ∧ I (((p.starts.take i).flatMap (rowOf p)) ++ (rowOf p p.starts[i]).take j) H' rs) ⟨v3, rs, ?_, ?_⟩ ?_ ?_
      · show [some (V.ref pa), some (.ref fl), some (.int (0 + (i : Int))), v3] = _
        rw [Int.zero_add]
      · rw [List.take_zero, List.append_nil]
        exact hI
      · rintro j σ H2 hj ⟨v4, rs2, rfl, s2, hfl2, hr2⟩
        have e0 : (0 : Int) + (j : Int) = (j : Int) := Int.zero_add _
        have hs2 : Same H H2 := s2.trans off_same
        refine ⟨_, rfl, .inl ⟨rfl, _, SqL.of hfl2⟩, _, rfl, _, rfl, _, rfl, pa, p, i, j, p.starts[i], ?_, h.mono hs2, hk, fun H3 r el s3 nr nel hrun hnd hlt => ?_⟩
        · show [V.ref pa, .int (i : Nat), .int (0 + (j : Int))] = _
          rw [e0]
        · have hfl3 := s3 _ _ hfl2
          have nrf : r ≠ fl := (ne_of_none hfl2 nr).symm
          have nef : el ≠ fl := (ne_of_none hfl2 nel).symm
          have hlen : rs2.length ≤ 256 := by
            have h1 := plen hr2
            rw [List.length_append, flat_row_len, List.length_take, List.length_take, rowOf_len] at h1
            have h5 : i * total p ≤ 3 * 64 := Nat.mul_le_mul (by omega) ht
            have h6 : min i p.starts.length = i := Nat.min_eq_left (by omega)
            have h7 : min j (total p) = j := Nat.min_eq_left (by omega)
            rw [h6, h7] at h1
            omega
          refine ⟨fl, rs2.map V.ref, _, rfl, rfl, hfl3, (by rw [List.length_map]; exact Nat.lt_of_le_of_lt hlen (by decide)), _, rs2 ++ [r], rfl, ?_, ?_, ?_⟩
          · intro b o e
            have hb : b ≠ fl := ne_of_none e nfl
            exact off_get (by rw [List.mem_singleton]; exact hb) (by rw [upd_ne hb]; exact s3 _ _ (hs2 _ _ e))
          · rw [upd_same, List.map_append]
            rfl
          · have so3 : Same (off [fl] H2) (off [fl] (upd H3 fl (.lst (rs2.map V.ref ++ [.ref r])))) := fun b o e => by
              obtain ⟨hb, e⟩ := off_some e
              exact off_get hb (by rw [upd_ne (by simpa using hb)]; exact s3 _ _ e)
            rw [take_more (rowOf_get p _ hj), ← List.append_assoc]
            refine psnoc (pimp hr2 fun _ _ e => e.mono so3) ⟨i, el, hk, ?_, ⟨hnd, hlt⟩, hs2.free nr, hs2.free nel⟩
            obtain ⟨dx, x1, x2, x3, x4, g1, g2⟩ := hrun
            exact ⟨dx, x1, x2, x3, x4, off_get (by rw [List.mem_singleton]; exact nrf) (by rw [upd_ne nrf]; exact g1), off_get (by rw [List.mem_singleton]; exact nef) (by rw [upd_ne nef]; exact g2)⟩
      · rintro σ H2 ⟨v4, rs2, rfl, hI2⟩
        refine ⟨_, v4, rs2, rfl, ?_⟩
        rw [er]
        exact hI2
    · rintro σ H' ⟨v2, v3, rs, rfl, s1, h1, h2⟩
      rw [List.take_length] at h2
      exact ⟨_, rfl, q H' fl rs (s1.trans off_same) nfl h1 (pimp h2 fun _ _ e => e.mono off_same)⟩
end
end PP

set_option Elab.async false
set_option linter.all false
set_option maxRecDepth 100000
set_option maxHeartbeats 4000000
namespace PP
open PySem PySem.Spec PyProof.Rows L2
open VakepBase (Bytes Fault)
open Vakepa (Raw RawPart Piece Prog valuesOf counts total assignments sizeOf_)
open Vakepe (Order orders packOf partsIn packSize sizesOf loadBy loadsOf runCost PACKS)
/-! ### plain: sizes -/
theorem ixN_nat {n j : Nat} (h : j < n) : ixN n (j : Int) = some j := by
  unfold ixN
  rw [if_pos (by omega), if_pos (by omega)]
  rfl
def sizeK (p : Prog) (k : Nat) : Nat := ((p.parts[k]?).map fun x => x.size).getD 0
def upto (p : Prog) (l : List Nat) (i n : Nat) : Nat := (((List.range i).filter fun k => packOf l k == n).map (sizeK p)).sum
theorem upto_succ {p : Prog} {l : List Nat} {i x : Nat} (h : l[i]? = some x) (n : Nat) : upto p l (i + 1) n = upto p l i n + (if x = n then sizeK p i else 0) := by
  have hx : packOf l i = x := by
    unfold packOf
    rw [List.getD_eq_getElem?_getD, h]
    rfl
  unfold upto
  rw [List.range_succ, List.filter_append, List.map_append, List.sum_append]
  congr 1
  by_cases e : x = n
  · rw [if_pos e, List.filter_cons_of_pos (by rw [hx, e]; exact beq_self_eq_true _)]
    simp
  · rw [if_neg e, List.filter_cons_of_neg (by rw [hx]; simpa using e)]
    rfl
theorem sizesOf_eq (p : Prog) (l : List Nat) : sizesOf p l = [upto p l p.parts.length 0, upto p l p.parts.length 1, upto p l p.parts.length 2, upto p l p.parts.length 3] := rfl
theorem off2_same {a b : Addr} {H H' : Hp} (h1 : H a = none) (h2 : H b = none) (s : Same H H') : Same H (off [a, b] H') := fun c o e => off_get (kp2 (ne_of_none e h1) (ne_of_none e h2)) (s _ _ e)
theorem off1_same {a : Addr} {H H' : Hp} (h1 : H a = none) (s : Same H H') : Same H (off [a] H') := fun c o e => off_get (by rw [List.mem_singleton]; exact ne_of_none e h1) (s _ _ e)
/-- what a write at fl leaves -/
theorem off1_upd {fl : Addr} {H H' : Hp} {o : HO} (s : Same (off [fl] H) (off [fl] H')) : Same (off [fl] H) (off [fl] (upd H' fl o)) := fun b u e => by
  obtain ⟨hb, _⟩ := off_some e
  obtain ⟨_, e⟩ := off_some (s _ _ e)
  exact off_get hb (by rw [upd_ne (by simpa using hb)]; exact e)
/-! ### promises -/
def spSizesOf (K : PySem.W.Frag) : Sp := fun vs H Q _ => ∃ (pa : Addr) (p : Prog) (pl : Addr) (l : List Nat), vs = [.ref pa, .ref pl] ∧ ProgAt K H pa p ∧ H pl = some (.lst (ents l)) ∧ l.length = p.parts.length ∧ (∀ x ∈ l, x < 4) ∧
  ∀ (H' : Hp) (fl : Addr), Same H H' → H fl = none → H' fl = some (.lst (ents (sizesOf p l))) → Q (.ref fl) H'
def LoadAt (H : Hp) (t : Addr) (x : Nat × Nat) : Prop := H t = some (.tup [.int (x.1 : Nat), .int (x.2 : Nat)])
def LoadsAt (H : Hp) (ts : List Addr) (xs : List (Nat × Nat)) : Prop := Paired (LoadAt H) ts xs
theorem LoadsAt.mono {H H' : Hp} {ts : List Addr} {xs : List (Nat × Nat)} (s : Same H H') (h : LoadsAt H ts xs) : LoadsAt H' ts xs := pimp h fun _ _ e => s _ _ e
def spLoadsOf (K : PySem.W.Frag) : Sp := fun vs H Q _ => ∃ (r pl : Addr) (p : Prog) (o : Order) (l : List Nat), vs = [.ref r, .ref pl] ∧ RunOf K p H r o ∧ p.parts.length ≤ 10 ∧ H pl = some (.lst (ents l)) ∧ l.length = p.parts.length ∧
  ∀ (H' : Hp) (fl : Addr) (ts : List Addr), Same H H' → H fl = none → H' fl = some (.lst (ts.map V.ref)) → LoadsAt H' ts (loadsOf l o) → Q (.ref fl) H'
section
variable {P : Program} {w : World} {K : PySem.W.Frag} {mg : Str → Option Value} {base : Heap}
def N_sizes_of : List Str := ["program", "plan", "found", "part", "pack"]
theorem sc_sizes_of : FnScope N_sizes_of ["program", "plan"] (defScope s_sizes_of) := ⟨rfl, rfl, rfl, by decide +kernel, rfl, by decide +kernel, by decide +kernel⟩
theorem ok_sizes_of (T : Txt K mg) : Ok P w K mg base 1 "sizes_of" ["program", "plan"] (spSizesOf K) := by
  refine ok_mk T.d_sizes_of sc_sizes_of (fun vs H Q E h => ?_) (fun cdv A outer s H vs Q E hr h => ⟨_, (pss_cons (ps_set (i := 2) sc_sizes_of.nd rfl (Or.inl rfl) (pe_op op_rep (pe_lst (pa_cons pe_int pa_nil)) (pe_gl (T.int "PACKS" 4)))) (pss_cons (ps_for (passes_of rfl) rfl (pi_zip (by rfl) (T.free "zip") (pa_cons (pe_fld (pv 0) rfl) (pa_cons (pv 1) pa_nil))) (pg_tup (by rfl) (pgs_cons (pg_name (i := 3) sc_sizes_of.nd rfl (Or.inl rfl)) (pgs_cons (pg_name (i := 4) sc_sizes_of.nd rfl (Or.inl rfl)) pgs_nil))) (pss_one (ps_asg (pe_op op_add (pe_ix ix_list (pv 2) (pv 4) (fun _ _ => rfl)) (pe_fld (pv 3) rfl)) (pg_sub (pv 2) (pv 4) set_list)))) (pss_one (ps_ret (pv 2))))), ?_⟩)
  · obtain ⟨pa, p, pl, l, rfl, _⟩ := h
    rfl
  · obtain ⟨pa, p, pl, l, rfl, h, hl, hlen, hlt, q⟩ := h
    obtain ⟨dp, ls, lp, le, sas, pas, rs, h1, h2, h3, h4, h5, h6, h7, h8, _⟩ := h.ex
    obtain ⟨g1, g2⟩ := solveParts_get h7
    have plen' : pas.length = p.parts.length := by rw [plen h5, parts_len h7]
    refine ⟨by show 1 ≤ sizeLine; decide, fun z nz => ⟨z, 4, [.int 0], rfl, rfl, upd_same, by decide, by decide, by decide, fun fl nfl => ?_⟩⟩
    have s0 : Same H (upd H z (.lst [.int 0])) := same_upd nz
    have nfl0 : H fl = none := s0.free nfl
    have s1 : Same H (upd (upd H z (.lst [.int 0])) fl (.lst (ents [0, 0, 0, 0]))) := s0.trans (same_upd nfl)
    refine ⟨_, rfl, pa, _, dp, _, _, rfl, s1 _ _ h1, T.cls "Program", T.noat "Program" "parts", pgF_parts, _, rfl, lp, pl, _, _, rfl, SqL.of (s1 _ _ h4), SqL.of (s1 _ _ hl), RZ.for_zipL (xs := pas.map V.ref) (ys := ents l) (by rw [List.length_map, ents_len, hlen, plen']) (fun i σ H' => ∃ v1 v2 : Option V, σ = [some (.ref pa), some (.ref pl), some (.ref fl), v1, v2] ∧ Same H (off [fl] H') ∧ H' fl = some (.lst (ents [upto p l i 0, upto p l i 1, upto p l i 2, upto p l i 3]))) ⟨none, none, rfl, off1_same nfl0 s1, upd_same⟩ (fun i σ H' ⟨_, _, _, g, _⟩ => ⟨SqL.of (off_same _ _ (g _ _ h4)), SqL.of (off_same _ _ (g _ _ hl))⟩) ?_ ?_⟩
    · rintro i x y T' σ H' hx hy ⟨v1, v2, rfl, g, hfl⟩ nT
      obtain ⟨pk, hpk, rfl⟩ := map_get hx
      obtain ⟨c, hc, rfl⟩ := map_get hy
      obtain ⟨r, hr, dq, na, ra, vs, q1, q2, q3, q4⟩ := pget h5 hpk
      obtain ⟨b, hb1, hb2⟩ := g2 i r hr
      have hsz : sizeK p i = r.size := by
        unfold sizeK
        rw [hb2]
        rfl
      have hc4 := hlt c (List.mem_of_getElem? hc)
      have us := upto_succ (p := p) hc
      rw [hsz] at us
      have sT : Same H' (upd H' T' (.tup [.ref pk, .int (c : Nat)])) := same_upd nT
      have nTf : fl ≠ T' := ne_of_none hfl nT
      have hfl2 := sT _ _ hfl
      have gs := g.trans off_same
      have hcc : c = 0 ∨ c = 1 ∨ c = 2 ∨ c = 3 := by omega
      refine ⟨T', _, rfl, .inl (.inl upd_same), rfl, _, _, rfl, _, _, rfl, rfl, ?_⟩
      have fin : ∀ o, Same H (off [fl] (upd (upd H' T' (.tup [.ref pk, .int (c : Nat)])) fl o)) := fun o b u e => by
        obtain ⟨hb, e2⟩ := off_some (g _ _ e)
        exact off_get hb (by rw [upd_ne (by simpa using hb)]; exact sT _ _ e2)
      rcases hcc with rfl | rfl | rfl | rfl
      all_goals
        refine ⟨_, rfl, _, rfl, fl, _, _, _, rfl, rfl, SqL.of hfl2, rfl, _, rfl, pk, _, dq, _, _, rfl, sT _ _ (gs _ _ q1), T.cls "Part", T.noat "Part" "size", partF_size, _, _, rfl, rfl, _, rfl, _, rfl, fl, _, _, _, rfl, rfl, hfl2, rfl, some (.ref pk), some (.int _), rfl, fin _, ?_⟩
        rw [upd_same, us 0, us 1, us 2, us 3]
        rfl
    · rintro σ H' ⟨v1, v2, rfl, g, hfl⟩
      rw [List.length_map, plen'] at hfl
      exact ⟨_, rfl, q H' fl (g.trans off_same) nfl0 hfl⟩
end
end PP

set_option Elab.async false
set_option linter.all false
set_option maxRecDepth 100000
set_option maxHeartbeats 4000000
namespace PP
open PySem PySem.Spec PyProof.Rows L2
open VakepBase (Bytes Fault)
open Vakepa (Raw RawPart Piece Prog valuesOf counts total assignments sizeOf_)
open Vakepe (Order orders packOf partsIn packSize sizesOf loadBy loadsOf runCost PACKS totalBy)
theorem loadBy_cons (l there : List Nat) (k : Nat) (r : List Nat) : loadBy l there (k :: r) = if there.contains (packOf l k) = true then loadBy l there r else (k, packOf l k) :: loadBy l (there ++ [packOf l k]) r := rfl
theorem packOf_get {l : List Nat} {k x : Nat} (h : l[k]? = some x) : packOf l k = x := by
  unfold packOf
  rw [List.getD_eq_getElem?_getD, h]
  rfl
theorem off2_upd1 {a b : Addr} {H H' : Hp} {o : HO} (s : Same H (off [a, b] H')) : Same H (off [a, b] (upd H' a o)) := fun c u e => by
  obtain ⟨hb, e⟩ := off_some (s _ _ e)
  exact off_get hb (by rw [upd_ne (fun z => hb (by rw [z]; simp))]; exact e)
theorem off2_upd2 {a b : Addr} {H H' : Hp} {o : HO} (s : Same H (off [a, b] H')) : Same H (off [a, b] (upd H' b o)) := fun c u e => by
  obtain ⟨hb, e⟩ := off_some (s _ _ e)
  exact off_get hb (by rw [upd_ne (fun z => hb (by rw [z]; simp))]; exact e)
section
variable {P : Program} {w : World} {K : PySem.W.Frag} {mg : Str → Option Value} {base : Heap}
def N_loads_of : List Str := ["run", "plan", "found", "there", "part"]
theorem sc_loads_of : FnScope N_loads_of ["run", "plan"] (defScope s_loads_of) := ⟨rfl, rfl, rfl, by decide +kernel, rfl, by decide +kernel, by decide +kernel⟩
theorem ok_loads_of (T : Txt K mg) : Ok P w K mg base 1 "loads_of" ["run", "plan"] (spLoadsOf K) := by
  refine ok_mk T.d_loads_of sc_loads_of (fun vs H Q E h => ?_) (fun cdv A outer s H vs Q E hr h => ⟨_, (pss_cons (ps_set (i := 2) sc_loads_of.nd rfl (Or.inl rfl) (pe_lst pa_nil)) (pss_cons (ps_set (i := 3) sc_loads_of.nd rfl (Or.inl rfl) (pe_lst (pa_cons pe_int pa_nil))) (pss_cons (ps_for (passes_of rfl) rfl (pi_list (pe_fld (pv 0) rfl)) (pg_name (i := 4) sc_loads_of.nd rfl (Or.inl rfl)) (pss_one (ps_if (pt_cmpR op_notIn_seq (pe_ix ix_list (pv 1) (pv 4) (fun _ _ => rfl)) (pv 3) (by rfl)) (pss_cons (ps_expr (pe_bm PySem.F.plainAttrs_list PySem.F.slot_list_append PySem.F.type_list_append mt_append (pv 3) (pa_cons (pe_ix ix_list (pv 1) (pv 4) (fun _ _ => rfl)) pa_nil))) (pss_one (ps_expr (pe_bm PySem.F.plainAttrs_list PySem.F.slot_list_append PySem.F.type_list_append mt_append (pv 2) (pa_cons (pe_tup (pa_cons (pv 4) (pa_cons (pe_ix ix_list (pv 1) (pv 4) (fun _ _ => rfl)) pa_nil))) pa_nil))))) pss_nil))) (pss_one (ps_ret (pv 2)))))), ?_⟩)
  · obtain ⟨r, pl, p, o, l, rfl, _⟩ := h
    rfl
  · obtain ⟨r, pl, p, o, l, rfl, ⟨i0, el, h0, ⟨dx, x1, x2, x3, x4, h1, h2⟩, hnd, hlt⟩, h10, hl, hlen, q⟩ := h
    have hes := nodup_len _ _ hnd hlt
    refine ⟨Nat.zero_le _, fun fo nfo => ⟨by show 1 ≤ sizeLine; decide, fun th nth => ?_⟩⟩
    have s0 : Same H (upd H fo (.lst [])) := same_upd nfo
    have nth0 : H th = none := s0.free nth
    have nft : fo ≠ th := ne_of_none upd_same nth
    have s1 : Same H (upd (upd H fo (.lst [])) th (.lst [.int 0])) := s0.trans (same_upd nth)
    refine ⟨_, rfl, r, _, dx, _, _, rfl, s1 _ _ h1, T.cls "Run", T.noat "Run" "entered", runF_entered, el, rfl, ⟨_, SqL.of (s1 _ _ h2)⟩, for_list (K := K) (a := el) (xs := ents o.l) (fun i σ H' => ∃ (v : Option V) (thl : List Nat) (ts : List Addr) (done : List (Nat × Nat)), σ = [some (.ref r), some (.ref pl), some (.ref fo), some (.ref th), v] ∧ Same H (off [fo, th] H') ∧ H' th = some (.lst (ents thl)) ∧ H' fo = some (.lst (ts.map V.ref)) ∧ LoadsAt (off [fo, th] H') ts done ∧ done ++ loadBy l thl (o.l.drop i) = loadsOf l o ∧ thl.length ≤ i + 1 ∧ ts.length ≤ i) ⟨none, [0], [], [], rfl, off2_same nfo nth0 s1, upd_same, (upd_ne nft).trans upd_same, .nil, rfl, Nat.le_refl _, Nat.le_refl _⟩ (fun i σ H' _ ⟨_, _, _, _, _, g, _⟩ => SqL.of (off_same _ _ (g _ _ h2))) ?_ ?_⟩
    · rintro i v σ H' hi ⟨v0, thl, ts, done, rfl, g, hth, hfo, hts, hld, hn1, hn2⟩
      obtain ⟨k, hk, rfl⟩ := map_get hi
      have hkl : k < p.parts.length := hlt k (List.mem_of_getElem? hk)
      have hpk : l[k]? = some l[k] := List.getElem?_eq_getElem (by omega)
      have hpo := packOf_get hpk
      have hi10 : i < o.l.length := (List.getElem?_eq_some_iff.mp hk).1
      have hdr : o.l.drop i = k :: o.l.drop (i + 1) := by
        rw [List.drop_eq_getElem_cons (List.getElem?_eq_some_iff.mp hk).1, (List.getElem?_eq_some_iff.mp hk).2]
      rw [hdr, loadBy_cons, hpo] at hld
      have plan : ∀ {H2 : Hp}, Same H (off [fo, th] H2) → SqL K H2 pl (ents l) := fun g => SqL.of (off_same _ _ (g _ _ hl))
      have at_ : atI (ents l) (k : Int) = some (.int (l[k] : Nat)) := atI_nat (by show (List.map _ _)[k]? = _; rw [List.getElem?_map, hpk]; rfl)
      refine ⟨_, rfl, _, rfl, pl, _, _, _, rfl, rfl, plan g, at_, _, rfl, th, _, rfl, .inl (SqL.of hth), rfl, flat_ents, _, rfl, if_both (fun e => ?_) fun e => ?_⟩
      · have e : thl.contains l[k] = false := by
          rw [inV_ents] at e
          simpa using e
        rw [if_neg (by rw [e]; exact Bool.false_ne_true)] at hld
        have hth' : (upd H' th (.lst (ents thl ++ [.int (l[k] : Nat)]))) th = some (.lst (ents (thl ++ [l[k]]))) := by rw [upd_same, ents_app]
        refine ⟨_, rfl, .inl ⟨rfl, _, SqL.of hth⟩, _, rfl, _, rfl, pl, _, _, _, rfl, rfl, plan g, at_, th, _, _, rfl, rfl, hth, (by rw [ents_len]; exact Nat.lt_of_le_of_lt (show thl.length ≤ 20 by omega) (by decide)), ?_⟩
        have g2 : Same H (off [fo, th] (upd H' th (.lst (ents thl ++ [.int (l[k] : Nat)])))) := off2_upd2 g
        refine ⟨_, rfl, .inl ⟨rfl, _, SqL.of ((upd_ne nft).trans hfo)⟩, _, rfl, _, rfl, _, rfl, pl, _, _, _, rfl, rfl, plan g2, at_, (by show 2 ≤ sizeLine; decide), fun t nt => ?_⟩
        have nT : t ≠ th := (ne_of_none hth' nt).symm
        have nT2 : t ≠ fo := (ne_of_none ((upd_ne nft).trans hfo) nt).symm
        have st : Same (upd H' th (.lst (ents thl ++ [.int (l[k] : Nat)]))) (upd (upd H' th (.lst (ents thl ++ [.int (l[k] : Nat)]))) t (.tup [.int (k : Nat), .int (l[k] : Nat)])) := same_upd nt
        refine ⟨fo, _, _, rfl, rfl, st _ _ ((upd_ne nft).trans hfo), (by rw [List.length_map]; exact Nat.lt_of_le_of_lt (show ts.length ≤ 20 by omega) (by decide)), some (.int (k : Nat)), thl ++ [l[k]], ts ++ [t], done ++ [(k, l[k])], rfl, ?_, ?_, ?_, ?_, ?_, ?_, ?_⟩
        · exact off2_upd1 (g2.trans (off_of_same st))
        · rw [upd_ne nft.symm]
          exact st _ _ hth'
        · rw [upd_same, List.map_append]
          rfl
        · have ss : Same (off [fo, th] H') (off [fo, th] (upd (upd (upd H' th (.lst (ents thl ++ [.int (l[k] : Nat)]))) t (.tup [.int (k : Nat), .int (l[k] : Nat)])) fo (.lst (ts.map V.ref ++ [.ref t])))) := off2_upd1 ((off2_upd2 (Same.refl _)).trans (off_of_same st))
          exact psnoc (hts.mono ss) (off_get (kp2 nT2 nT) ((upd_ne nT2).trans upd_same))
        · rw [List.append_assoc]
          exact hld
        · rw [List.length_append]
          show thl.length + 1 ≤ _
          omega
        · rw [List.length_append]
          show ts.length + 1 ≤ _
          omega
      · have e : thl.contains l[k] = true := by
          rw [inV_ents] at e
          simpa using e
        rw [if_pos e] at hld
        exact ⟨some (.int (k : Nat)), thl, ts, done, rfl, g, hth, hfo, hts, hld, by omega, by omega⟩
    · rintro σ H' ⟨v0, thl, ts, done, rfl, g, hth, hfo, hts, hld, _, _⟩
      have e : o.l.drop (ents o.l).length = [] := by
        rw [ents_len]
        exact List.drop_length
      rw [e] at hld
      have hld : done ++ [] = loadsOf l o := hld
      rw [List.append_nil] at hld
      subst hld
      exact ⟨_, rfl, q H' fo ts (g.trans off_same) nfo hfo (hts.mono off_same)⟩
end
end PP

set_option Elab.async false
set_option linter.all false
set_option maxRecDepth 100000
set_option maxHeartbeats 4000000
namespace PP
open PySem PySem.Spec PyProof.Rows L2
open VakepBase (Bytes Fault)
open Vakepa (Raw RawPart Piece Prog valuesOf counts total assignments sizeOf_)
open Vakepe (Order orders packOf partsIn packSize sizesOf loadBy loadsOf runCost PACKS totalBy)
theorem sum_cast : ∀ l : List Nat, (l.map fun (n : Nat) => (n : Int)).sum = ((l.sum : Nat) : Int)
  | [] => rfl
  | x :: r => by
    rw [List.map_cons, List.sum_cons, List.sum_cons, sum_cast r]
    rfl
theorem loadBy_mem (l : List Nat) : ∀ (es there : List Nat), ∀ x ∈ loadBy l there es, x.2 = packOf l x.1 ∧ x.1 ∈ es
  | [], _, x, h => by cases h
  | k :: r, there, x, h => by
    rw [loadBy_cons] at h
    split at h
    · obtain ⟨h1, h2⟩ := loadBy_mem l r there x h
      exact ⟨h1, List.mem_cons_of_mem _ h2⟩
    · rcases List.mem_cons.mp h with rfl | h
      · exact ⟨rfl, List.mem_cons_self⟩
      · obtain ⟨h1, h2⟩ := loadBy_mem l r _ x h
        exact ⟨h1, List.mem_cons_of_mem _ h2⟩
theorem loads_lt {p : Prog} {l : List Nat} {o : Order} (hlen : l.length = p.parts.length) (hlt : ∀ x ∈ l, x < 4) (ho : ∀ x ∈ o.l, x < p.parts.length) : ∀ x ∈ loadsOf l o, x.2 < 4 := fun x hx => by
  obtain ⟨h1, h2⟩ := loadBy_mem l o.l [0] x hx
  have h3 := ho _ h2
  have h4 : l[x.1]? = some l[x.1] := List.getElem?_eq_getElem (by omega)
  rw [h1, packOf_get h4]
  exact hlt _ (List.mem_of_getElem? h4)
theorem loadBy_len (l : List Nat) : ∀ (es there : List Nat), (loadBy l there es).length ≤ es.length
  | [], _ => Nat.le_refl _
  | k :: r, there => by
    rw [loadBy_cons, List.length_cons]
    split
    · have := loadBy_len l r there
      omega
    · have := loadBy_len l r (there ++ [packOf l k])
      rw [List.length_cons]
      omega
theorem RunOf.len {K : PySem.W.Frag} {p : Prog} {H : Hp} {r : Addr} {o : Order} (h : RunOf K p H r o) (h10 : p.parts.length ≤ 10) : o.l.length ≤ 10 := by
  obtain ⟨_, _, _, _, h1, h2⟩ := h
  exact Nat.le_trans (nodup_len _ _ h1 h2) h10
structure PlanOk (p : Prog) (l : List Nat) : Prop where
  len : l.length = p.parts.length
  lt : ∀ x ∈ l, x < 4
def spCostOf (K : PySem.W.Frag) : Sp := fun vs H Q _ => ∃ (r pl sl : Addr) (p : Prog) (o : Order) (l sz : List Nat) (w : Nat), vs = [.ref r, .ref pl, .ref sl, .int (w : Nat)] ∧ RunOf K p H r o ∧ p.parts.length ≤ 10 ∧ H pl = some (.lst (ents l)) ∧ PlanOk p l ∧ H sl = some (.lst (ents sz)) ∧ sz.length = 4 ∧
  ∀ H', Same H H' → Q (.int (runCost sz w l o : Nat)) H'
def spTotalOf (K : PySem.W.Frag) : Sp := fun vs H Q _ => ∃ (pa rl pl : Addr) (p : Prog) (rs : List Addr) (os : List Order) (l : List Nat) (w : Nat), vs = [.ref pa, .ref rl, .ref pl, .int (w : Nat)] ∧ ProgAt K H pa p ∧ H rl = some (.lst (rs.map V.ref)) ∧ RunsAt K p H rs os ∧ rs.length ≤ 1000 ∧ H pl = some (.lst (ents l)) ∧ PlanOk p l ∧
  ∀ H', Same H H' → Q (.int (totalBy p os w l : Nat)) H'
section
variable {P : Program} {w : World} {K : PySem.W.Frag} {mg : Str → Option Value} {base : Heap}
def N_cost_of : List Str := ["run", "plan", "sizes", "more", "part", "pack"]
theorem sc_cost_of : FnScope N_cost_of ["run", "plan", "sizes", "more"] (defScope s_cost_of) := ⟨rfl, rfl, rfl, by decide +kernel, rfl, by decide +kernel, by decide +kernel⟩
theorem ok_cost_of (T : Txt K mg) : Ok P w K mg base 2 "cost_of" ["run", "plan", "sizes", "more"] (spCostOf K) := by
  have G_loads_of : Ok P w K mg base 1 "loads_of" ["run", "plan"] (spLoadsOf K) := ok_loads_of T
  refine ok_mk T.d_cost_of sc_cost_of (fun vs H Q E h => ?_) (fun cdv A outer s H vs Q E hr h => ?_)
  · obtain ⟨r, pl, sl, p, o, l, sz, w', rfl, _⟩ := h
    rfl
  · have hr_loads_of : Room 1 _ := hr
    refine ⟨_, (pss_one (ps_ret (pe_op op_add (pe_ix ix_list (pv 2) pe_int (fun _ _ => rfl)) (pe_callB (cr_sum rfl) (by rfl) (T.free "sum") (by decide +kernel) (pa_cons (pe_lc (own := [("part", 4), ("pack", 5)]) (g := gTup K 2 (gCons (gName 4) (gCons (gName 5) gNil))) (te := tOp rAdd (tOp (rIxL K) (tVar 2) (tVar 5)) (tVar 3)) (by rfl) sc_cost_of.nd (pi_list (pe_c G_loads_of hr_loads_of (pa_cons (pv 0) (pa_cons (pv 1) pa_nil)))) (blkOk_by (own := [("part", 4), ("pack", 5)]) (N := N_cost_of) (sc := defScope s_cost_of) (by decide +kernel)) (by exact fun _ _ _ _ _ => (pg_tup (by rfl) (pgs_cons (pg_name (i := 4) sc_cost_of.nd rfl (Or.inl rfl)) (pgs_cons (pg_name (i := 5) sc_cost_of.nd rfl (Or.inl rfl)) pgs_nil)))) (fun _ _ _ _ _ => pts_nil) (by exact fun _ _ _ _ _ => (pe_op op_add (pe_ix ix_list (pv 2) (pv 5) (fun _ _ => rfl)) (pv 3)))) pa_nil))))), ?_⟩
    obtain ⟨r, pl, sl, p, o, l, sz, w', rfl, hr1, h10, hl, hp, hs, hs4, q⟩ := h
    have ho := hr1.len h10
    have hx4 : ∀ x ∈ loadsOf l o, x.2 < 4 := by
      obtain ⟨_, _, _, _, _, h2⟩ := hr1
      exact loads_lt hp.len hp.lt h2
    have z0 : sz[0]? = some (sz.getD 0 0) := by
      rw [List.getD_eq_getElem?_getD, List.getElem?_eq_getElem (by omega : 0 < sz.length)]
      rfl
    let cs : List Nat := (loadsOf l o).map fun x => sz.getD x.2 0 + w'
    refine ⟨_, rfl, sl, _, 0, _, rfl, rfl, SqL.of hs, atI_nat (j := 0) (by show (List.map _ _)[0]? = _; rw [List.getElem?_map, z0]; rfl), _, rfl, _, rfl, r, pl, p, o, l, rfl, hr1, h10, hl, hp.len, fun H1 fl ts s1 nfl hfl hts => ⟨fl, rfl, ⟨_, SqL.of hfl⟩, fun D hD => ?_⟩⟩
    refine lc_list (K := K) (a := fl) (xs := ts.map V.ref) (fun i H' => Same H1 H' ∧ H' D = some (.lst (ents (cs.take i)))) ⟨same_upd hD, upd_same⟩ (fun i H' _ ⟨g, _⟩ => SqL.of (g _ _ hfl)) (fun i x H' hx ⟨g, e⟩ => ?_) fun H' ⟨g, e⟩ => ?_
    · obtain ⟨t, ht, rfl⟩ := map_get hx
      obtain ⟨x, hx, hX⟩ := pget hts ht
      have hx2 := hx4 x (List.mem_of_getElem? hx)
      have zx : sz[x.2]? = some (sz.getD x.2 0) := by
        rw [List.getD_eq_getElem?_getD, List.getElem?_eq_getElem (by omega : x.2 < sz.length)]
        rfl
      have hc : cs[i]? = some (sz.getD x.2 0 + w') := by
        show (List.map _ _)[i]? = _
        rw [List.getElem?_map, hx]
        rfl
      have hi : i < (loadsOf l o).length := (List.getElem?_eq_some_iff.mp hx).1
      have hl2 := loadBy_len l o.l [0]
      have hl3 : (loadsOf l o).length ≤ o.l.length := hl2
      refine ⟨t, _, rfl, .inl (.inl (g _ _ hX)), rfl, _, _, rfl, _, _, rfl, rfl, rfl, _, rfl, _, rfl, sl, _, _, _, rfl, rfl, SqL.of (g _ _ (s1 _ _ hs)), atI_nat (by show (List.map _ _)[x.2]? = _; rw [List.getElem?_map, zx]; rfl), _, rfl, _, _, rfl, rfl, _, e, ?_, ?_, ?_⟩
      · rw [ents_len, List.length_take]
        exact Nat.lt_of_le_of_lt (Nat.min_le_left _ _) (Nat.lt_of_lt_of_le (show i < 10 by omega) (by decide))
      · exact fun c o e => by
          rw [upd_ne (ne_of_none e hD)]
          exact g _ _ e
      · rw [upd_same, take_more hc, ← ents_app]
        rfl
    · have et : cs.take (ts.map V.ref).length = cs := by
        rw [List.length_map, plen hts]
        exact List.take_of_length_le (by show (List.map _ _).length ≤ _; rw [List.length_map]; exact Nat.le_refl _)
      rw [et] at e
      refine ⟨D, cs.map fun (n : Nat) => (n : Int), rfl, SqL.of (by rw [List.map_map]; exact e), _, _, rfl, rfl, ?_⟩
      rw [sum_cast]
      exact q H' (s1.trans g)
def N_total_of : List Str := ["program", "runs", "plan", "more", "sizes", "run"]
theorem sc_total_of : FnScope N_total_of ["program", "runs", "plan", "more"] (defScope s_total_of) := ⟨rfl, rfl, rfl, by decide +kernel, rfl, by decide +kernel, by decide +kernel⟩
theorem ok_total_of (T : Txt K mg) : Ok P w K mg base 3 "total_of" ["program", "runs", "plan", "more"] (spTotalOf K) := by
  have G_sizes_of : Ok P w K mg base 1 "sizes_of" ["program", "plan"] (spSizesOf K) := ok_sizes_of T
  have G_cost_of : Ok P w K mg base 2 "cost_of" ["run", "plan", "sizes", "more"] (spCostOf K) := ok_cost_of T
  refine ok_mk T.d_total_of sc_total_of (fun vs H Q E h => ?_) (fun cdv A outer s H vs Q E hr h => ?_)
  · obtain ⟨pa, rl, pl, p, rs, os, l, w', rfl, _⟩ := h
    rfl
  · have hr_sizes_of : Room 1 _ := hr.mono (by decide)
    have hr_cost_of : Room 2 _ := hr
    refine ⟨_, (pss_cons (ps_set (i := 4) sc_total_of.nd rfl (Or.inr rfl) (pe_c G_sizes_of hr_sizes_of (pa_cons (pv 0) (pa_cons (pv 2) pa_nil)))) (pss_one (ps_ret (pe_callB (cr_sum rfl) (by rfl) (T.free "sum") (by decide +kernel) (pa_cons (pe_lc (own := [("run", 5)]) (g := gName 5) (te := tCall (spCostOf K) [] E0 (tCons (tVar 5) (tCons (tVar 2) (tCons (tVar 4) (tCons (tVar 3) tNil))))) (by rfl) sc_total_of.nd (pi_list (pv 1)) (blkOk_by (own := [("run", 5)]) (N := N_total_of) (sc := defScope s_total_of) (by decide +kernel)) (by exact fun _ _ _ _ _ => (pg_name (i := 5) sc_total_of.nd rfl (Or.inl rfl))) (fun _ _ _ _ _ => pts_nil) (by exact fun _ _ _ _ _ => (pe_c G_cost_of hr_cost_of (pa_cons (pv 5) (pa_cons (pv 2) (pa_cons (pv 4) (pa_cons (pv 3) pa_nil))))))) pa_nil))))), ?_⟩
    obtain ⟨pa, rl, pl, p, rs, os, l, w', rfl, h, hrl, hrs, hlen, hl, hp, q⟩ := h
    have h10 := h.p10
    let cs : List Nat := os.map (runCost (sizesOf p l) w' l)
    refine ⟨_, rfl, _, rfl, pa, p, pl, l, rfl, h, hl, hp.len, hp.lt, fun H1 sl s1 nsl hsl => ?_⟩
    refine ⟨_, rfl, rl, rfl, ⟨_, SqL.of (s1 _ _ hrl)⟩, fun D hD => ?_⟩
    refine lc_list (K := K) (a := rl) (xs := rs.map V.ref) (fun i H' => Same H1 H' ∧ H' D = some (.lst (ents (cs.take i)))) ⟨same_upd hD, upd_same⟩ (fun i H' _ ⟨g, _⟩ => SqL.of (g _ _ (s1 _ _ hrl))) (fun i x H' hx ⟨g, e⟩ => ?_) fun H' ⟨g, e⟩ => ?_
    · obtain ⟨r, hr2, rfl⟩ := map_get hx
      obtain ⟨o, ho, hro⟩ := pget hrs hr2
      have hc : cs[i]? = some (runCost (sizesOf p l) w' l o) := by
        show (List.map _ _)[i]? = _
        rw [List.getElem?_map, ho]
        rfl
      have hi : i < rs.length := (List.getElem?_eq_some_iff.mp hr2).1
      have gg := s1.trans g
      refine ⟨rfl, _, rfl, _, rfl, _, rfl, _, rfl, r, pl, sl, p, o, l, sizesOf p l, w', rfl, hro.mono gg, h10, gg _ _ hl, hp, g _ _ hsl, rfl, fun H2 s2 => ⟨_, s2 _ _ e, ?_, ?_, ?_⟩⟩
      · rw [ents_len, List.length_take]
        exact Nat.lt_of_le_of_lt (Nat.min_le_left _ _) (Nat.lt_of_lt_of_le (show i < 1000 by omega) (by decide))
      · exact fun c o e => by
          rw [upd_ne (ne_of_none e hD)]
          exact s2 _ _ (g _ _ e)
      · rw [upd_same, take_more hc, ← ents_app]
    · have et : cs.take (rs.map V.ref).length = cs := by
        rw [List.length_map, plen hrs]
        exact List.take_of_length_le (by show (List.map _ _).length ≤ _; rw [List.length_map]; exact Nat.le_refl _)
      rw [et] at e
      refine ⟨D, cs.map fun (n : Nat) => (n : Int), rfl, SqL.of (by rw [List.map_map]; exact e), ?_⟩
      rw [sum_cast]
      exact q H' (s1.trans g)
end
end PP

set_option Elab.async false
set_option linter.all false
set_option maxRecDepth 100000
set_option maxHeartbeats 4000000
namespace PP
open PySem PySem.Spec PyProof.Rows L2
/-! ### set(xs) of a list of ints (the library's road for tuples, by a list's walk) -/
section
variable {P : Program} {w : World} {A : Around} {E : Value → Shared → Prop} {s : Shared}
def led0 (w : World) : Data := .set #[] 0 (.fresh 0 0 (!w.params.followText "set-order"))
set_option maxHeartbeats 3200000 in
theorem set_of_list {l : Addr} {items : Array Value} (ns : List Int) {Q : Value → Shared → Prop} (hh : A.handled = none) (hl : s.heap.IsList l items) (hit : IntsAre items.toList ns) (hb : ns.length + 1 < scanBound)
    (h : ∀ (h' : Heap) (tk c : Nat), SetR w h' s.heap.objs.size (fun j => decide (j ∈ ns)) c → c ≤ ns.length → (∀ b o, s.heap.get? b = some o → h'.get? b = some o) → Q (.ref s.heap.objs.size) { s with heap := h', toks := tk }) :
    wpAny (model P w) A (call (.type "set") [.ref l]) Q E s := by
  have hisz : items.size = ns.length := by
    have q := IntsAre.length hit
    rw [Array.length_toList] at q
    exact q
  obtain ⟨c, tl, hmro⟩ := F.called_set.mro
  have hmade := F.called_set.made
  have hsub := F.called_set.sub
  refine wpAny_call (codeAny_of_tree ?_)
  show wpAny _ _ (callAny (.type "set") _) _ _ _
  refine wpAny_pure ⟨Code.quiet_builtin _ (by decide +kernel), codeAny_builtin F.entry_type_call ?_⟩
  rw [Around.under_plain (weight_type_call_type "set" [.ref l] []) rfl]
  have h1 := F.called_set.notType
  have h2 := F.called_set.canCreate
  have hct := F.typeCall_set_1 (.ref l)
  repeat (any_goals (first | assumption | wp_step))
  refine codeAny_mono (code_set_led1 (.ref l) (E := E) (Q₁ := fun obj s₁ => obj = .ref s.heap.objs.size ∧ s₁ = { s with heap := s.heap.push { cls := .type "set", dict := none, data := led0 w } }) ⟨rfl, rfl⟩) fun r s₁ hr => ?_
  cases r with
  | error e => exact hr
  | ok fl =>
    cases fl with
    | ret obj =>
      obtain ⟨rfl, rfl⟩ := hr
      have hS : (s.heap.push { cls := .type "set", dict := none, data := led0 w }).get? s.heap.objs.size = some { cls := .type "set", dict := none, data := led0 w } := Heap.get?_push_size _ rfl
      have hT : Shared.TypeIs { s with heap := s.heap.push { cls := .type "set", dict := none, data := led0 w } } (.ref s.heap.objs.size) "set" := ⟨_, hS, rfl⟩
      have hli := F.called_set.init.lookup
      have hbi := F.called_set.init.bind (.ref s.heap.objs.size)
      repeat (any_goals (first | assumption | wp_step))
      refine codeAny_mono (codeAny_call_builtin (R := wants (fun r s₂ => r = .none ∧ ∃ h' tk c, s₂ = { s with heap := h', toks := tk } ∧ SetR w h' s.heap.objs.size (fun j => decide (j ∈ ns)) c ∧ c ≤ ns.length ∧
          (∀ b o, s.heap.get? b = some o → h'.get? b = some o)) E) F.called_set.init.plain F.entry_set_init (check_set_init_1 hT ?_)) fun r₂ s₂ hr₂ => ?_
      · obtain ⟨ol, hol, hcl, nl, hdl⟩ := hl
        obtain ⟨ocls, odict, odata, oslots⟩ := ol
        simp only at hcl hdl
        subst hcl; subst hdl
        have hol' : (s.heap.push { cls := .type "set", dict := none, data := led0 w }).get? l = some { cls := .type "list", dict := odict, data := .seq items nl, slots := oslots } := Heap.get?_push_of_some _ hol
        have hsls := F.sub_list_set
        have hslf := F.sub_list_frozenset
        have hne : (Value.type "list" == Value.type "dict") = false := by decide
        have hl1 : (s.heap.push { cls := .type "set", dict := none, data := led0 w }).IsList l items := ⟨_, hol', rfl, nl, rfl⟩
        unfold Builtin.«set.__init__» noKeywords Builtin.Frozenset.updateFrom
        generalize hPI : pyIter = PI
        wp_walk
        subst hPI
        refine wpAny_pyIter_list hl1 ?_
        refine wpAny_bind (wpAny_runValue ?_)
        have hlS : l < s.heap.objs.size := Heap.lt_size hol
        have hh3 : A.in1.in1.in1.handled = none := by simp [hh]
        have hneI : l ≠ (s.heap.push { cls := .type "set", dict := none, data := led0 w }).objs.size := by
          rw [Heap.size_push]; exact Nat.ne_of_lt (Nat.lt_succ_of_lt hlS)
        have hSf : s.heap.objs.size ∉ [(s.heap.push { cls := .type "set", dict := none, data := led0 w }).objs.size, l] := by
          rw [Heap.size_push]; simp only [List.mem_cons, List.mem_singleton, List.not_mem_nil, or_false, not_or]
          exact ⟨Nat.ne_of_lt (Nat.lt_succ_self _), Nat.ne_of_gt hlS⟩
        have hval : ∀ (i : Nat) (v : Value), items[i]? = some v → ∃ k t, ns[i]? = some k ∧ v = .int k t := fun i v hv => by
          have hi : i < ns.length := by rw [← hisz]; exact (Array.getElem?_eq_some_iff.mp hv).1
          obtain ⟨t, e⟩ := PyProof.Rows.IntsAre.int_at hit i v (by rw [Array.getElem?_toList]; exact hv)
          refine ⟨ns[i], t, List.getElem?_eq_getElem hi, ?_⟩
          rw [e, List.getD_eq_getElem?_getD, List.getElem?_eq_getElem hi] <;> rfl
        refine set_update_ints ((Walks.list hh3 _ l hneI items).toS) s.heap.objs.size
          hSf ns hisz hb hval (items.size - 0) 0 _ (by omega) (Nat.zero_le _)
          ⟨⟨_, Heap.get?_push_size _ rfl, rfl, rfl⟩, (hl1.push _)⟩ ?hS0 ?hR
        case hS0 =>
          have hget : ((s.heap.push { cls := .type "set", dict := none, data := led0 w }).push { cls := .type "list_iterator", data := .fields #[.ref l, .int 0 0] }).get? s.heap.objs.size
              = some { cls := .type "set", dict := none, data := led0 w } := Heap.get?_push_of_some _ hS
          exact ⟨0, Nat.le_refl 0, setR_new_at hget⟩
        case hR =>
          intro s' c' hm hc' hS'
          obtain ⟨h', g2, d', tk', os'⟩ := s'
          have eg : g2 = s.gens := hm.gens
          have ed : d' = s.drawn := hm.drawn
          have eo : os' = s.os := hm.os
          subst eg; subst ed; subst eo
          show wpAny _ _ _ _ _ _
          refine wpAny_pure ?_
          show wpAny _ _ (ret Value.none) _ _ _
          rw [hisz] at hc'
          refine wpAny_pure ⟨rfl, h', tk', c', rfl, hS', hc', fun b o e => ?_⟩
          have hb0 : b < s.heap.objs.size := Heap.lt_size e
          have hb1 : b ≠ s.heap.objs.size := Nat.ne_of_lt hb0
          have hb2 : b ≠ (s.heap.push { cls := .type "set", dict := none, data := led0 w }).objs.size := by
            rw [Heap.size_push]; exact Nat.ne_of_lt (Nat.lt_succ_of_lt hb0)
          exact hm.heap b o (by simp only [List.mem_cons, List.mem_singleton, List.not_mem_nil, or_false, not_or]; exact ⟨hb1, hb2⟩) (Heap.get?_push_of_some _ (Heap.get?_push_of_some _ e))
      · cases r₂ with
        | error e => exact hr₂
        | ok fl₂ =>
          cases fl₂ with
          | ret r =>
            obtain ⟨rfl, h', tk, c', rfl, hS', hc', hk'⟩ := hr₂
            repeat (any_goals (first | assumption | wp_step))
            exact h _ _ _ hS' hc' hk'
          | _ => exact hr₂.elim
    | _ => exact hr.elim
end
/-- set(xs): the members are those of xs, each once -/
def rSetOfI (K : PySem.W.Frag) (w : World) : List V → Hp → VK → Prop := fun vs H Q => ∃ (a : Addr) (ns : List Int), vs = [V.ref a] ∧ SqL K H a (ns.map V.int) ∧ ns.length ≤ 4000 ∧
  ∀ (p : Addr) (ks : List Int), ks.Nodup → (∀ k, k ∈ ks ↔ k ∈ ns) → H p = none → Q (.ref p) (upd H p (SetO w p (fun j => decide (j ∈ ns)) ks.length))
theorem cr_setOfI {X : Cx} (hc : X.calm = true) : CallR X (.type "set") (rSetOfI X.K X.w) := by
  intro pins s σ H vs us Q I r h
  obtain ⟨a, ns, rfl, hs, hn, q⟩ := h
  rw [Vals.ref1 r]
  obtain ⟨its, rv, pl, hz⟩ := I.list hs
  have hp : H s.heap.objs.size = none := I.hok.fresh (Nat.le_refl _)
  refine set_of_list (P := X.prog) (w := X.w) ns (I.ok.hd hc) pl.isList rv.ints (by unfold scanBound; omega) fun h' tk c R _ k => ?_
  have R0 := R
  obtain ⟨o, es, ep, t, _, _, _, _, nd, hm, _, _, hn2, _⟩ := R
  have hl : (es.toList.map keyOf).length = c := by rw [List.length_map, Array.length_toList, hn2]
  have R1 : SetR X.w h' s.heap.objs.size (fun j => decide (j ∈ ns)) (es.toList.map keyOf).length := by
    rw [hl]
    exact R0
  exact ⟨.ref s.heap.objs.size, upd H s.heap.objs.size (SetO X.w s.heap.objs.size (fun j => decide (j ∈ ns)) (es.toList.map keyOf).length), I.laid (t' := tk) k (Nat.le_refl _) (setO_new R1), rfl, q _ _ nd (fun x => by rw [← hm x]; simp) hp⟩
end PP

set_option Elab.async false
set_option linter.all false
set_option maxRecDepth 100000
set_option maxHeartbeats 4000000
namespace PP
open PySem PySem.Spec PyProof.Rows L2
open VakepBase (Bytes Fault)
open Vakepa (Raw RawPart Piece Prog valuesOf counts total assignments sizeOf_ unionOf reached inOrder)
open Vakepe (Order orders packOf partsIn packSize sizesOf loadBy loadsOf runCost PACKS totalBy)
/-! ### plain: rising lists -/
theorem rise_eq : ∀ (a b : List Int), a.Pairwise (· < ·) → b.Pairwise (· < ·) → (∀ k, k ∈ a ↔ k ∈ b) → a = b
  | [], [], _, _, _ => rfl
  | [], y :: b, _, _, h => absurd ((h y).mpr List.mem_cons_self) (by simp)
  | x :: a, [], _, _, h => absurd ((h x).mp List.mem_cons_self) (by simp)
  | x :: a, y :: b, ha, hb, h => by
    rw [List.pairwise_cons] at ha hb
    have exy : x = y := by
      rcases List.mem_cons.mp ((h x).mp List.mem_cons_self) with e | e
      · exact e
      · rcases List.mem_cons.mp ((h y).mpr List.mem_cons_self) with f | f
        · exact f.symm
        · have := hb.1 x e
          have := ha.1 y f
          omega
    subst exy
    have hr := rise_eq a b ha.2 hb.2 (fun k => by
      constructor
      · intro hk
        rcases List.mem_cons.mp ((h k).mp (List.mem_cons_of_mem _ hk)) with e | e
        · have := ha.1 k hk
          omega
        · exact e
      · intro hk
        rcases List.mem_cons.mp ((h k).mpr (List.mem_cons_of_mem _ hk)) with e | e
        · have := hb.1 k hk
          omega
        · exact e)
    rw [hr]
theorem sub_len : ∀ (a b : List Int), a.Nodup → (∀ x ∈ a, x ∈ b) → a.length ≤ b.length
  | [], _, _, _ => Nat.zero_le _
  | x :: a, b, h, s => by
    rw [List.nodup_cons] at h
    have hx : x ∈ b := s x List.mem_cons_self
    have hi := sub_len a (b.erase x) h.2 (fun y hy => (List.mem_erase_of_ne (fun z => h.1 (by rw [← z]; exact hy))).mpr (s y (List.mem_cons_of_mem _ hy)))
    rw [List.length_erase_of_mem hx] at hi
    have : 0 < b.length := List.length_pos_of_mem hx
    rw [List.length_cons]
    omega
def zs (l : List Nat) : List Int := l.map fun (n : Nat) => (n : Int)
theorem ents_ints {l : List Nat} : (zs l).map V.int = ents l := by
  unfold zs ents
  rw [List.map_map]
  rfl
theorem rise_filter (N : Nat) (f : Nat → Bool) : (zs ((List.range N).filter f)).Pairwise (· < ·) := by
  unfold zs
  rw [List.pairwise_map]
  exact (List.Pairwise.filter _ List.pairwise_lt_range).imp fun h => by omega
theorem mem_zs {l : List Nat} {k : Int} : k ∈ zs l ↔ ∃ n ∈ l, (n : Int) = k := List.mem_map
theorem mem_inOrder {p : Prog} {l : List Nat} {k : Nat} : k ∈ inOrder p l ↔ k < p.parts.length ∧ k ∈ l := by
  unfold inOrder
  rw [List.mem_filter, List.mem_range, List.contains_iff_mem]
theorem mem_orders {p : Prog} {o : Order} : o ∈ orders p ↔ ∃ e ∈ p.starts, ∃ a < total p, o = ⟨e, a, entOf p e a⟩ := by
  rw [orders_eq, List.mem_flatMap]
  constructor
  · rintro ⟨e, he, h⟩
    obtain ⟨a, ha, rfl⟩ := List.mem_map.mp h
    exact ⟨e, he, a, List.mem_range.mp ha, rfl⟩
  · rintro ⟨e, he, a, ha, rfl⟩
    exact ⟨e, he, List.mem_map.mpr ⟨a, List.mem_range.mpr ha, rfl⟩⟩
theorem mem_union {p : Prog} {k : Nat} : k ∈ unionOf p (reached p) ↔ k < p.parts.length ∧ ∃ o ∈ orders p, k ∈ o.l := by
  unfold unionOf
  rw [mem_inOrder, List.mem_flatMap]
  constructor
  · rintro ⟨h, e, he, hk⟩
    refine ⟨h, ?_⟩
    unfold reached at hk
    rw [mem_inOrder, List.mem_flatMap] at hk
    obtain ⟨_, a, ha, hk⟩ := hk
    exact ⟨_, mem_orders.mpr ⟨e, he, a, List.mem_range.mp ha, rfl⟩, hk⟩
  · rintro ⟨h, o, ho, hk⟩
    obtain ⟨e, he, a, ha, rfl⟩ := mem_orders.mp ho
    refine ⟨h, e, he, ?_⟩
    unfold reached
    rw [mem_inOrder, List.mem_flatMap]
    exact ⟨h, a, List.mem_range.mpr ha, hk⟩
theorem union_len {p : Prog} : (unionOf p (reached p)).length ≤ p.parts.length := by
  unfold unionOf inOrder
  exact Nat.le_trans (List.length_filter_le _ _) (by rw [List.length_range]; exact Nat.le_refl _)
/-- runs of a whole program -/
structure AllRuns (K : PySem.W.Frag) (p : Prog) (H : Hp) (rl : Addr) (rs : List Addr) : Prop where
  ls : H rl = some (.lst (rs.map V.ref))
  rn : RunsAt K p H rs (orders p)
  le : rs.length ≤ 256
  p10 : p.parts.length ≤ 10
theorem AllRuns.mono {K : PySem.W.Frag} {p : Prog} {H H' : Hp} {rl : Addr} {rs : List Addr} (s : Same H H') (h : AllRuns K p H rl rs) : AllRuns K p H' rl rs := ⟨s _ _ h.ls, h.rn.mono s, h.le, h.p10⟩
def spReachedOf (K : PySem.W.Frag) : Sp := fun vs H Q _ => ∃ (rl : Addr) (p : Prog) (rs : List Addr), vs = [.ref rl] ∧ AllRuns K p H rl rs ∧
  ∀ (H' : Hp) (fl : Addr), Same H H' → H fl = none → H' fl = some (.lst (ents (unionOf p (reached p)))) → Q (.ref fl) H'
section
variable {P : Program} {w : World} {K : PySem.W.Frag} {mg : Str → Option Value} {base : Heap}
def N_reached_of : List Str := ["runs", "found", "run"]
theorem sc_reached_of : FnScope N_reached_of ["runs"] (defScope s_reached_of) := ⟨rfl, rfl, rfl, by decide +kernel, rfl, by decide +kernel, by decide +kernel⟩
theorem ok_reached_of (T : Txt K mg) : Ok P w K mg base 1 "reached_of" ["runs"] (spReachedOf K) := by
  refine ok_mk T.d_reached_of sc_reached_of (fun vs H Q E h => ?_) (fun cdv A outer s H vs Q E hr h => ⟨_, (pss_cons (ps_set (i := 1) sc_reached_of.nd rfl (Or.inl rfl) (pe_lst pa_nil)) (pss_cons (ps_for (passes_of rfl) rfl (pi_list (pv 0)) (pg_name (i := 2) sc_reached_of.nd rfl (Or.inl rfl)) (pss_one (ps_expr (pe_bm PySem.F.plainAttrs_list PySem.F.slot_list_extend PySem.F.type_list_extend mt_extend (pv 1) (pa_cons (pe_fld (pv 2) rfl) pa_nil))))) (pss_one (ps_ret (pe_callB (cr_sortedSet rfl) (by rfl) (T.free "sorted") (by decide +kernel) (pa_cons (pe_callTy (cr_setOfI rfl) (by rfl) (T.free "set") (by decide +kernel) (pa_cons (pv 1) pa_nil)) pa_nil)))))), ?_⟩)
  · obtain ⟨rl, p, rs, rfl, _⟩ := h
    rfl
  · obtain ⟨rl, p, rs, rfl, h, q⟩ := h
    refine ⟨Nat.zero_le _, fun fl nfl => ?_⟩
    have s0 : Same H (upd H fl (.lst [])) := same_upd nfl
    refine ⟨_, rfl, rl, rfl, ⟨_, SqL.of (s0 _ _ h.ls)⟩, for_list (K := K) (a := rl) (xs := rs.map V.ref) (fun i σ H' => ∃ v : Option V, σ = [some (.ref rl), some (.ref fl), v] ∧ Same H (off [fl] H') ∧ H' fl = some (.lst (ents (((orders p).take i).flatMap fun o => o.l))) ∧ (((orders p).take i).flatMap fun o => o.l).length ≤ 10 * i) ⟨none, rfl, off1_same nfl s0, upd_same, Nat.le_refl _⟩ (fun i σ H' _ ⟨_, _, g, _⟩ => SqL.of (off_same _ _ (g _ _ h.ls))) ?_ ?_⟩
    · rintro i v σ H' hi ⟨v0, rfl, g, hfl, hlen⟩
      obtain ⟨r, hr2, rfl⟩ := map_get hi
      obtain ⟨o, ho, hro⟩ := pget h.rn hr2
      have hol := hro.len h.p10
      obtain ⟨i0, el, _, ⟨dx, x1, x2, x3, x4, h1, h2⟩, _, _⟩ := hro
      have hi2 : i < rs.length := (List.getElem?_eq_some_iff.mp hr2).1
      have hle := h.le
      have g' := g.trans off_same
      have ef : ((orders p).take (i + 1)).flatMap (fun o => o.l) = ((orders p).take i).flatMap (fun o => o.l) ++ o.l := by
        rw [take_more ho, List.flatMap_append]
        simp
      refine ⟨_, rfl, .inl ⟨rfl, _, SqL.of hfl⟩, _, rfl, r, _, dx, _, _, rfl, g' _ _ h1, T.cls "Run", T.noat "Run" "entered", runF_entered, fl, el, _, _, rfl, rfl, hfl, g' _ _ h2, ?_, some (.ref r), rfl, ?_, ?_, ?_⟩
      · rw [ents_len, ents_len]
        exact Nat.le_trans (show _ ≤ 10 * 300 by omega) (by decide)
      · exact fun b u e => by
          obtain ⟨hb, e⟩ := off_some (g _ _ e)
          exact off_get hb (by rw [upd_ne (by simpa using hb)]; exact e)
      · rw [upd_same, ef]
        unfold ents
        rw [List.map_append]
      · rw [ef, List.length_append]
        omega
    · rintro σ H' ⟨v0, rfl, g, hfl, hlen⟩
      have et : (orders p).take (rs.map V.ref).length = orders p := by
        rw [List.length_map, plen h.rn]
        exact List.take_length
      rw [et] at hfl hlen
      have hlen2 : ((orders p).flatMap fun o => o.l).length ≤ 2560 := by
        rw [List.length_map] at hlen
        have := h.le
        omega
      have memF : ∀ k : Int, k ∈ zs ((orders p).flatMap fun o => o.l) ↔ k ∈ zs (unionOf p (reached p)) := fun k => by
        rw [mem_zs, mem_zs]
        constructor
        · rintro ⟨n, hn, rfl⟩
          obtain ⟨o, ho, hn⟩ := List.mem_flatMap.mp hn
          obtain ⟨j, hj⟩ := List.getElem?_of_mem ho
          obtain ⟨r, _, i0, el, _, _, _, hlt⟩ := Paired_get h.rn hj
          exact ⟨n, mem_union.mpr ⟨hlt n hn, o, ho, hn⟩, rfl⟩
        · rintro ⟨n, hn, rfl⟩
          obtain ⟨_, o, ho, hn⟩ := mem_union.mp hn
          exact ⟨n, List.mem_flatMap.mpr ⟨o, ho, hn⟩, rfl⟩
      have rise : (zs (unionOf p (reached p))).Pairwise (· < ·) := rise_filter _ _
      refine ⟨_, rfl, fl, zs ((orders p).flatMap fun o => o.l), rfl, SqL.of (by rw [ents_ints]; exact hfl), by unfold zs; rw [List.length_map]; omega, fun sp ks nk mk nsp => ?_⟩
      have hks : ks.length ≤ 10 := by
        have hu := union_len (p := p)
        have h10 := h.p10
        have : ks.length ≤ (zs (unionOf p (reached p))).length := sub_len _ _ nk (fun x hx => (memF x).mp ((mk x).mp hx))
        unfold zs at this
        rw [List.length_map] at this
        omega
      refine ⟨sp, _, _, rfl, upd_same, by omega, fun ns a hp hm _ na => ?_⟩
      have en : ns = zs (unionOf p (reached p)) := rise_eq _ _ hp rise (fun k => by rw [hm k, ← memF k]; exact decide_eq_true_iff)
      subst en
      have nsf : sp ≠ fl := (ne_of_none hfl nsp).symm
      have g' := g.trans off_same
      have s5 : Same H' (upd H' sp (SetO w sp (fun j => decide (j ∈ zs ((orders p).flatMap fun o => o.l))) ks.length)) := same_upd nsp
      exact q _ a ((g'.trans s5).trans (same_upd na)) (g'.free (s5.free na)) (by rw [upd_same, ents_ints])
end
end PP

set_option Elab.async false
set_option linter.all false
set_option maxRecDepth 100000
set_option maxHeartbeats 4000000
namespace PP
open PySem PySem.Spec PyProof.Rows L2
open VakepBase (Bytes Fault)
open Vakepa (Raw RawPart Piece Prog valuesOf counts total assignments sizeOf_ unionOf reached inOrder)
open Vakepe (Order orders packOf partsIn packSize sizesOf loadBy loadsOf runCost PACKS totalBy plansBy plans bestPacks)
/-! ### plain: plans from the left -/
def chs (need : List Nat) (k : Nat) : List Nat := if need.contains k = true then [0, 1, 2] else [3]
def grow (need : List Nat) (i : Nat) (q : List Nat) : List (List Nat) := (chs need i).map fun x => q ++ [x]
def pre (need : List Nat) : Nat → List (List Nat)
  | 0 => [[]]
  | i + 1 => (pre need i).flatMap (grow need i)
theorem plansBy_succ (need : List Nat) (m i : Nat) : plansBy need (m + 1) i = (chs need i).flatMap fun x => (plansBy need m (i + 1)).map fun r => x :: r := rfl
theorem plans_pre (need : List Nat) : ∀ m i, (pre need i).flatMap (fun q => (plansBy need m i).map fun r => q ++ r) = pre need (i + m)
  | 0, i => by
    show (pre need i).flatMap (fun q => [q ++ []]) = pre need i
    simp
  | m + 1, i => by
    have ih := plans_pre need m (i + 1)
    have e : i + (m + 1) = i + 1 + m := by omega
    rw [e, ← ih]
    show _ = ((pre need i).flatMap (grow need i)).flatMap _
    rw [List.flatMap_assoc, plansBy_succ]
    congr 1
    funext q
    unfold grow
    rw [List.map_flatMap, List.flatMap_map]
    congr 1
    funext x
    rw [List.map_map]
    congr 1
    funext r
    show q ++ x :: r = (q ++ [x]) ++ r
    simp
theorem plans_eq (p : Prog) : plans p = pre (unionOf p (reached p)) p.parts.length := by
  have h := plans_pre (unionOf p (reached p)) p.parts.length 0
  rw [Nat.zero_add] at h
  rw [← h]
  show plansBy _ _ _ = ([[]] : List (List Nat)).flatMap _
  simp
theorem chs_lt {need : List Nat} {k x : Nat} (h : x ∈ chs need k) : x < 4 := by
  unfold chs at h
  split at h
  · simp at h
    omega
  · simp at h
    omega
theorem chs_len (need : List Nat) (k : Nat) : (chs need k).length ≤ 3 := by
  unfold chs
  split <;> decide
theorem pre_mem (need : List Nat) : ∀ i, ∀ q ∈ pre need i, q.length = i ∧ ∀ x ∈ q, x < 4
  | 0, q, h => by
    rw [show q = [] from List.mem_singleton.mp h]
    simp
  | i + 1, q, h => by
    obtain ⟨q0, h0, h1⟩ := List.mem_flatMap.mp h
    obtain ⟨x, hx, rfl⟩ := List.mem_map.mp h1
    obtain ⟨h2, h3⟩ := pre_mem need i q0 h0
    refine ⟨by rw [List.length_append, h2]; rfl, fun y hy => ?_⟩
    rcases List.mem_append.mp hy with hy | hy
    · exact h3 y hy
    · rw [List.mem_singleton.mp hy]
      exact chs_lt hx
theorem flat_grow_len (need : List Nat) (i : Nat) : ∀ l : List (List Nat), (l.flatMap (grow need i)).length ≤ 3 * l.length
  | [] => Nat.le_refl _
  | q :: r => by
    have h1 := flat_grow_len need i r
    have h2 : (grow need i q).length ≤ 3 := by
      unfold grow
      rw [List.length_map]
      exact chs_len need i
    rw [List.flatMap_cons, List.length_append, List.length_cons]
    omega
theorem pre_len (need : List Nat) : ∀ i, (pre need i).length ≤ 3 ^ i
  | 0 => Nat.le_refl _
  | i + 1 => by
    have h1 := pre_len need i
    have h2 := flat_grow_len need i (pre need i)
    show ((pre need i).flatMap (grow need i)).length ≤ _
    rw [Nat.pow_succ]
    omega
/-! ### plans in the heap -/
def PlansAt (H : Hp) (as : List Addr) (ls : List (List Nat)) : Prop := Paired (fun a l => H a = some (.lst (ents l))) as ls
theorem PlansAt.mono {H H' : Hp} {as : List Addr} {ls : List (List Nat)} (s : Same H H') (h : PlansAt H as ls) : PlansAt H' as ls := pimp h fun _ _ e => s _ _ e
theorem papp {α β : Type} {F : α → β → Prop} : ∀ {l l2 : List α} {m m2 : List β}, Paired F l m → Paired F l2 m2 → Paired F (l ++ l2) (m ++ m2)
  | _, _, _, _, .nil, h => h
  | _, _, _, _, .cons a r, h => .cons a (papp r h)
def spPlansOf (K : PySem.W.Frag) : Sp := fun vs H Q _ => ∃ (pa ra : Addr) (p : Prog) (need : List Nat), vs = [.ref pa, .ref ra] ∧ ProgAt K H pa p ∧ H ra = some (.lst (ents need)) ∧
  ∀ (H' : Hp) (fl : Addr) (as : List Addr), Same H H' → H' fl = some (.lst (as.map V.ref)) → PlansAt H' as (pre need p.parts.length) → Q (.ref fl) H'
section
variable {P : Program} {w : World} {K : PySem.W.Frag} {mg : Str → Option Value} {base : Heap}
def N_plans_of : List Str := ["program", "reached", "found", "part", "packs", "longer", "plan", "pack"]
theorem sc_plans_of : FnScope N_plans_of ["program", "reached"] (defScope s_plans_of) := ⟨rfl, rfl, rfl, by decide +kernel, rfl, by decide +kernel, by decide +kernel⟩
theorem ok_plans_of (T : Txt K mg) : Ok P w K mg base 1 "plans_of" ["program", "reached"] (spPlansOf K) := by
  refine ok_mk T.d_plans_of sc_plans_of (fun vs H Q E h => ?_) (fun cdv A outer s H vs Q E hr h => ⟨_, (pss_cons (ps_set (i := 2) sc_plans_of.nd rfl (Or.inl rfl) (pe_lst (pa_cons (pe_lst pa_nil) pa_nil))) (pss_cons (ps_for (passes_of rfl) rfl (pi_range1 (by rfl) (T.free "range") (pa_cons (pe_callB call_len (by rfl) (T.free "len") PySem.boot_len (pa_cons (pe_fld (pv 0) rfl) pa_nil)) pa_nil)) (pg_name (i := 3) sc_plans_of.nd rfl (Or.inl rfl)) (pss_cons (ps_set (i := 4) sc_plans_of.nd rfl (Or.inl rfl) (pe_lst (pa_cons (pe_gl (T.int "UNREACHED" 3)) pa_nil))) (pss_cons (ps_if (pt_cmpR op_in_seq (pv 3) (pv 1) (by rfl)) (pss_one (ps_set (i := 4) sc_plans_of.nd rfl (Or.inl rfl) (pe_lst (pa_cons pe_int (pa_cons pe_int (pa_cons pe_int pa_nil)))))) pss_nil) (pss_cons (ps_set (i := 5) sc_plans_of.nd rfl (Or.inl rfl) (pe_lst pa_nil)) (pss_cons (ps_for (passes_of rfl) rfl (pi_list (pv 2)) (pg_name (i := 6) sc_plans_of.nd rfl (Or.inr rfl)) (pss_one (ps_expr (pe_bm PySem.F.plainAttrs_list PySem.F.slot_list_extend PySem.F.type_list_extend mt_extend (pv 5) (pa_cons (pe_lc (own := [("pack", 7)]) (g := gName 7) (te := tOp rCat (tVar 6) (tLst (tCons (tVar 7) tNil))) (by rfl) sc_plans_of.nd (pi_list (pv 4)) (blkOk_by (own := [("pack", 7)]) (N := N_plans_of) (sc := defScope s_plans_of) (by decide +kernel)) (by exact fun _ _ _ _ _ => (pg_name (i := 7) sc_plans_of.nd rfl (Or.inl rfl))) (fun _ _ _ _ _ => pts_nil) (by exact fun _ _ _ _ _ => (pe_op op_cat (pv 6) (pe_lst (pa_cons (pv 7) pa_nil))))) pa_nil))))) (pss_one (ps_set (i := 2) sc_plans_of.nd rfl (Or.inl rfl) (pv 5)))))))) (pss_one (ps_ret (pv 2))))), ?_⟩)
  · obtain ⟨pa, ra, p, need, rfl, _⟩ := h
    rfl
  · obtain ⟨pa, ra, p, need, rfl, h, hra, q⟩ := h
    have h10 := h.p10
    obtain ⟨dp, lp, x, y, pas, p1, p2, p3, p4⟩ := prog_named h
    refine ⟨Nat.zero_le _, fun e0 ne0 => ⟨by show 1 ≤ sizeLine; decide, fun f0 nf0 => ?_⟩⟩
    have s0 : Same H (upd (upd H e0 (.lst [])) f0 (.lst [.ref e0])) := (same_upd ne0).trans (same_upd nf0)
    refine ⟨_, rfl, pa, _, dp, _, _, rfl, s0 _ _ p1, T.cls "Program", T.noat "Program" "parts", pgF_parts, _, p.parts.length, rfl, .inl ⟨_, SqL.of (s0 _ _ p2), by rw [List.length_map, p4]⟩, _, rfl, by omega, by omega, ?_⟩
    refine for_range (n := p.parts.length) (fun i σ H' => ∃ (fa : Addr) (as : List Addr) (v3 v4 v5 v6 v7 : Option V), σ = [some (.ref pa), some (.ref ra), some (.ref fa), v3, v4, v5, v6, v7] ∧ Same H H' ∧ H' fa = some (.lst (as.map V.ref)) ∧ PlansAt H' as (pre need i)) ⟨f0, [e0], none, none, none, none, none, rfl, s0, upd_same, .cons ((upd_ne (ne_of_none upd_same nf0)).trans upd_same) .nil⟩ ?_ ?_
    · rintro i σ H' hi ⟨fa, as, v3, v4, v5, v6, v7, rfl, g, hfa, has⟩
      rw [Int.zero_add]
      refine ⟨by show 1 ≤ sizeLine; decide, fun pk0 npk => ?_⟩
      have s1 : Same H' (upd H' pk0 (.lst [.int 3])) := same_upd npk
      refine ⟨_, rfl, _, rfl, ra, _, rfl, .inl (SqL.of (s1 _ _ (g _ _ hra))), rfl, flat_ents, _, rfl, if_both (fun e => ?_) fun e => ?_⟩
      · have e : need.contains i = true := by
          rw [inV_ents] at e
          simpa using e
        refine ⟨by show 3 ≤ sizeLine; decide, fun pk npk2 => ?_⟩
        have s2 : Same H' (upd (upd H' pk0 (.lst [.int 3])) pk (.lst [.int 0, .int 1, .int 2])) := s1.trans (same_upd npk2)
        have hpk : (upd (upd H' pk0 (.lst [.int 3])) pk (.lst [.int 0, .int 1, .int 2])) pk = some (.lst (ents (chs need i))) := by
          rw [upd_same]
          unfold chs
          rw [if_pos e]
          rfl
        clear s1 npk2
        revert s2 hpk
        generalize upd (upd H' pk0 (.lst [.int 3])) pk (.lst [.int 0, .int 1, .int 2]) = H2
        intro s2 hpk
        refine ⟨Nat.zero_le _, fun lo nlo => ?_⟩
        have s3 : Same H2 (upd H2 lo (.lst [])) := same_upd nlo
        have hfa2 := s2 _ _ hfa
        have has2 := has.mono s2
        refine ⟨_, rfl, fa, rfl, ⟨_, SqL.of (s3 _ _ hfa2)⟩, for_list (K := K) (a := fa) (xs := as.map V.ref) (fun j σ H3 => ∃ (v6 v7 : Option V) (bs : List Addr), σ = [some (.ref pa), some (.ref ra), some (.ref fa), some (.int (i : Nat)), some (.ref pk), some (.ref lo), v6, v7] ∧ Same H2 (off [lo] H3) ∧ H3 lo = some (.lst (bs.map V.ref)) ∧ PlansAt (off [lo] H3) bs (((pre need i).take j).flatMap (grow need i))) ⟨v6, v7, [], rfl, off1_same nlo s3, upd_same, .nil⟩ (fun j σ H3 _ ⟨_, _, _, _, g3, _⟩ => SqL.of (off_same _ _ (g3 _ _ hfa2))) ?_ ?_⟩
        · rintro j v σ H3 hj ⟨v6, v7, bs, rfl, g3, hlo, hbs⟩
          obtain ⟨a, ha, rfl⟩ := map_get hj
          obtain ⟨q0, hq0, hA⟩ := pget has2 ha
          have g3' : Same H2 H3 := g3.trans off_same
          have hql : q0.length = i := (pre_mem need i q0 (List.mem_of_getElem? hq0)).1
          have hpl := pre_len need i
          have hp9 : 3 ^ i ≤ 3 ^ 9 := Nat.pow_le_pow_right (by decide) (by omega)
          refine ⟨_, rfl, .inl ⟨rfl, _, SqL.of hlo⟩, _, rfl, pk, rfl, ⟨_, SqL.of (g3' _ _ hpk)⟩, fun D nD => ?_⟩
          refine lc_list (K := K) (a := pk) (xs := ents (chs need i)) (fun m H4 => ∃ ds : List Addr, Same H3 (off [D] H4) ∧ H4 D = some (.lst (ds.map V.ref)) ∧ PlansAt (off [D, lo] H4) ds (((chs need i).take m).map fun x => q0 ++ [x])) ⟨[], off1_same nD (same_upd nD), upd_same, .nil⟩ (fun m H4 _ ⟨_, g4, _⟩ => SqL.of (off_same _ _ (g4 _ _ (g3' _ _ hpk)))) (fun m x H4 hx ⟨ds, g4, hD, hds⟩ => ?_) fun H4 ⟨ds, g4, hD, hds⟩ => ?_
          · obtain ⟨c, hc, rfl⟩ := map_get hx
            have hdl : ds.length ≤ 3 := by
              have h1 := plen hds
              have h2 := chs_len need i
              rw [List.length_map, List.length_take] at h1
              have : min m (chs need i).length ≤ (chs need i).length := Nat.min_le_right _ _
              omega
            refine ⟨rfl, _, rfl, _, rfl, by show 1 ≤ sizeLine; decide, fun t nt => ?_⟩
            have st : Same H4 (upd H4 t (.lst [.int (c : Nat)])) := same_upd nt
            refine ⟨a, t, ents q0, [.int (c : Nat)], rfl, rfl, st _ _ (off_same _ _ (g4 _ _ (g3' _ _ hA))), upd_same, ?_, fun n nn => ?_⟩
            · rw [ents_len, hql]
              exact Nat.le_trans (show i + 1 ≤ 100 by omega) (by decide)
            have sn : Same (upd H4 t (.lst [.int (c : Nat)])) (upd (upd H4 t (.lst [.int (c : Nat)])) n (.lst (ents q0 ++ [.int (c : Nat)]))) := same_upd nn
            have hD2 := sn _ _ (st _ _ hD)
            have nnD : n ≠ D := (ne_of_none (st _ _ hD) nn).symm
            have nnL : n ≠ lo := (ne_of_none (st _ _ (off_same _ _ (g4 _ _ hlo))) nn).symm
            refine ⟨_, hD2, (by rw [List.length_map]; exact Nat.lt_of_le_of_lt hdl (by decide)), ds ++ [n], ?_, ?_, ?_⟩
            · exact fun b o e => by
                obtain ⟨hb, e⟩ := off_some (g4 _ _ e)
                exact off_get hb (by rw [upd_ne (by simpa using hb)]; exact sn _ _ (st _ _ e))
            · rw [upd_same, List.map_append]
              rfl
            · rw [take_more hc, List.map_append]
              refine psnoc (PlansAt.mono (fun b o e => ?_) hds) (off_get (kp2 nnD nnL) ((upd_ne nnD).trans (upd_same.trans (by rw [ents_app]))))
              obtain ⟨hb, e⟩ := off_some e
              exact off_get hb (by rw [upd_ne (fun z => hb (by rw [z]; simp))]; exact sn _ _ (st _ _ e))
          · have g4' : Same H3 H4 := g4.trans off_same
            have ec : (chs need i).take (ents (chs need i)).length = chs need i := by
              rw [ents_len]
              exact List.take_length
            rw [ec] at hds
            have nDl : D ≠ lo := (ne_of_none hlo nD).symm
            have hbl : bs.length ≤ 3 * 3 ^ 9 := by
              have h1 := plen hbs
              have h2 := flat_grow_len need i ((pre need i).take j)
              have h3 : ((pre need i).take j).length ≤ (pre need i).length := by
                rw [List.length_take]
                exact Nat.min_le_right _ _
              omega
            have hdl : ds.length ≤ 3 := by
              have h1 := plen hds
              have h2 := chs_len need i
              rw [List.length_map] at h1
              omega
            have e9 : 3 * 3 ^ 9 = 59049 := by decide
            refine ⟨lo, D, _, _, rfl, rfl, g4' _ _ hlo, hD, (by rw [List.length_map, List.length_map]; exact Nat.le_trans (show _ ≤ 60000 by omega) (by decide)), some (.ref a), v7, bs ++ ds, rfl, ?_, ?_, ?_⟩
            · exact fun b o e => by
                obtain ⟨hb, e⟩ := off_some (g3 _ _ e)
                exact off_get hb (by rw [upd_ne (by simpa using hb)]; exact g4' _ _ e)
            · rw [upd_same, List.map_append]
            · rw [take_more hq0, List.flatMap_append]
              have e1 : ([q0] : List (List Nat)).flatMap (grow need i) = grow need i q0 := by simp
              rw [e1]
              refine papp (PlansAt.mono (fun b o e => ?_) hbs) (pimp hds fun b l e => ?_)
              · obtain ⟨hb, e⟩ := off_some e
                exact off_get hb (by rw [upd_ne (by simpa using hb)]; exact g4' _ _ e)
              · obtain ⟨hb, e⟩ := off_some e
                have hbl : b ≠ lo := fun z => hb (by rw [z]; simp)
                exact off_get (by simpa using hbl) (by rw [upd_ne hbl]; exact e)
        · rintro σ H3 ⟨v6, v7, bs, rfl, g3, hlo, hbs⟩
          have et : (pre need i).take (as.map V.ref).length = pre need i := by
            rw [List.length_map, plen has]
            exact List.take_length
          rw [et] at hbs
          exact ⟨_, rfl, lo, bs, _, _, _, _, _, rfl, g.trans (s2.trans (g3.trans off_same)), hlo, PlansAt.mono off_same hbs⟩
      · have e : need.contains i = false := by
          rw [inV_ents] at e
          simpa using e
        obtain ⟨pk, rfl⟩ : ∃ pk, pk0 = pk := ⟨_, rfl⟩
        have s2 := s1
        have hpk : (upd H' pk0 (.lst [.int 3])) pk0 = some (.lst (ents (chs need i))) := by
          rw [upd_same]
          unfold chs
          rw [if_neg (by rw [e]; exact Bool.false_ne_true)]
          rfl
        clear s1
        revert s2 hpk
        generalize upd H' pk0 (.lst [.int 3]) = H2
        obtain ⟨pk, rfl⟩ : ∃ pk, pk = pk0 := ⟨_, rfl⟩
        intro s2 hpk
        refine ⟨Nat.zero_le _, fun lo nlo => ?_⟩
        have s3 : Same H2 (upd H2 lo (.lst [])) := same_upd nlo
        have hfa2 := s2 _ _ hfa
        have has2 := has.mono s2
        refine ⟨_, rfl, fa, rfl, ⟨_, SqL.of (s3 _ _ hfa2)⟩, for_list (K := K) (a := fa) (xs := as.map V.ref) (fun j σ H3 => ∃ (v6 v7 : Option V) (bs : List Addr), σ = [some (.ref pa), some (.ref ra), some (.ref fa), some (.int (i : Nat)), some (.ref pk), some (.ref lo), v6, v7] ∧ Same H2 (off [lo] H3) ∧ H3 lo = some (.lst (bs.map V.ref)) ∧ PlansAt (off [lo] H3) bs (((pre need i).take j).flatMap (grow need i))) ⟨v6, v7, [], rfl, off1_same nlo s3, upd_same, .nil⟩ (fun j σ H3 _ ⟨_, _, _, _, g3, _⟩ => SqL.of (off_same _ _ (g3 _ _ hfa2))) ?_ ?_⟩
        · rintro j v σ H3 hj ⟨v6, v7, bs, rfl, g3, hlo, hbs⟩
          obtain ⟨a, ha, rfl⟩ := map_get hj
          obtain ⟨q0, hq0, hA⟩ := pget has2 ha
          have g3' : Same H2 H3 := g3.trans off_same
          have hql : q0.length = i := (pre_mem need i q0 (List.mem_of_getElem? hq0)).1
          have hpl := pre_len need i
          have hp9 : 3 ^ i ≤ 3 ^ 9 := Nat.pow_le_pow_right (by decide) (by omega)
          refine ⟨_, rfl, .inl ⟨rfl, _, SqL.of hlo⟩, _, rfl, pk, rfl, ⟨_, SqL.of (g3' _ _ hpk)⟩, fun D nD => ?_⟩
          refine lc_list (K := K) (a := pk) (xs := ents (chs need i)) (fun m H4 => ∃ ds : List Addr, Same H3 (off [D] H4) ∧ H4 D = some (.lst (ds.map V.ref)) ∧ PlansAt (off [D, lo] H4) ds (((chs need i).take m).map fun x => q0 ++ [x])) ⟨[], off1_same nD (same_upd nD), upd_same, .nil⟩ (fun m H4 _ ⟨_, g4, _⟩ => SqL.of (off_same _ _ (g4 _ _ (g3' _ _ hpk)))) (fun m x H4 hx ⟨ds, g4, hD, hds⟩ => ?_) fun H4 ⟨ds, g4, hD, hds⟩ => ?_
          · obtain ⟨c, hc, rfl⟩ := map_get hx
            have hdl : ds.length ≤ 3 := by
              have h1 := plen hds
              have h2 := chs_len need i
              rw [List.length_map, List.length_take] at h1
              have : min m (chs need i).length ≤ (chs need i).length := Nat.min_le_right _ _
              omega
            refine ⟨rfl, _, rfl, _, rfl, by show 1 ≤ sizeLine; decide, fun t nt => ?_⟩
            have st : Same H4 (upd H4 t (.lst [.int (c : Nat)])) := same_upd nt
            refine ⟨a, t, ents q0, [.int (c : Nat)], rfl, rfl, st _ _ (off_same _ _ (g4 _ _ (g3' _ _ hA))), upd_same, ?_, fun n nn => ?_⟩
            · rw [ents_len, hql]
              exact Nat.le_trans (show i + 1 ≤ 100 by omega) (by decide)
            have sn : Same (upd H4 t (.lst [.int (c : Nat)])) (upd (upd H4 t (.lst [.int (c : Nat)])) n (.lst (ents q0 ++ [.int (c : Nat)]))) := same_upd nn
            have hD2 := sn _ _ (st _ _ hD)
            have nnD : n ≠ D := (ne_of_none (st _ _ hD) nn).symm
            have nnL : n ≠ lo := (ne_of_none (st _ _ (off_same _ _ (g4 _ _ hlo))) nn).symm
            refine ⟨_, hD2, (by rw [List.length_map]; exact Nat.lt_of_le_of_lt hdl (by decide)), ds ++ [n], ?_, ?_, ?_⟩
            · exact fun b o e => by
                obtain ⟨hb, e⟩ := off_some (g4 _ _ e)
                exact off_get hb (by rw [upd_ne (by simpa using hb)]; exact sn _ _ (st _ _ e))
            · rw [upd_same, List.map_append]
              rfl
            · rw [take_more hc, List.map_append]
              refine psnoc (PlansAt.mono (fun b o e => ?_) hds) (off_get (kp2 nnD nnL) ((upd_ne nnD).trans (upd_same.trans (by rw [ents_app]))))
              obtain ⟨hb, e⟩ := off_some e
              exact off_get hb (by rw [upd_ne (fun z => hb (by rw [z]; simp))]; exact sn _ _ (st _ _ e))
          · have g4' : Same H3 H4 := g4.trans off_same
            have ec : (chs need i).take (ents (chs need i)).length = chs need i := by
              rw [ents_len]
              exact List.take_length
            rw [ec] at hds
            have nDl : D ≠ lo := (ne_of_none hlo nD).symm
            have hbl : bs.length ≤ 3 * 3 ^ 9 := by
              have h1 := plen hbs
              have h2 := flat_grow_len need i ((pre need i).take j)
              have h3 : ((pre need i).take j).length ≤ (pre need i).length := by
                rw [List.length_take]
                exact Nat.min_le_right _ _
              omega
            have hdl : ds.length ≤ 3 := by
              have h1 := plen hds
              have h2 := chs_len need i
              rw [List.length_map] at h1
              omega
            have e9 : 3 * 3 ^ 9 = 59049 := by decide
            refine ⟨lo, D, _, _, rfl, rfl, g4' _ _ hlo, hD, (by rw [List.length_map, List.length_map]; exact Nat.le_trans (show _ ≤ 60000 by omega) (by decide)), some (.ref a), v7, bs ++ ds, rfl, ?_, ?_, ?_⟩
            · exact fun b o e => by
                obtain ⟨hb, e⟩ := off_some (g3 _ _ e)
                exact off_get hb (by rw [upd_ne (by simpa using hb)]; exact g4' _ _ e)
            · rw [upd_same, List.map_append]
            · rw [take_more hq0, List.flatMap_append]
              have e1 : ([q0] : List (List Nat)).flatMap (grow need i) = grow need i q0 := by simp
              rw [e1]
              refine papp (PlansAt.mono (fun b o e => ?_) hbs) (pimp hds fun b l e => ?_)
              · obtain ⟨hb, e⟩ := off_some e
                exact off_get hb (by rw [upd_ne (by simpa using hb)]; exact g4' _ _ e)
              · obtain ⟨hb, e⟩ := off_some e
                have hbl : b ≠ lo := fun z => hb (by rw [z]; simp)
                exact off_get (by simpa using hbl) (by rw [upd_ne hbl]; exact e)
        · rintro σ H3 ⟨v6, v7, bs, rfl, g3, hlo, hbs⟩
          have et : (pre need i).take (as.map V.ref).length = pre need i := by
            rw [List.length_map, plen has]
            exact List.take_length
          rw [et] at hbs
          exact ⟨_, rfl, lo, bs, _, _, _, _, _, rfl, g.trans (s2.trans (g3.trans off_same)), hlo, PlansAt.mono off_same hbs⟩
    · rintro σ H' ⟨fa, as, v3, v4, v5, v6, v7, rfl, g, hfa, has⟩
      exact ⟨_, rfl, q H' fa as g hfa has⟩
end
end PP

set_option Elab.async false
set_option linter.all false
set_option maxRecDepth 100000
set_option maxHeartbeats 4000000
namespace PP
open PySem PySem.Spec PyProof.Rows L2
open VakepBase (Bytes Fault)
open Vakepa (Raw RawPart Piece Prog valuesOf counts total assignments sizeOf_ unionOf reached inOrder)
open Vakepe (Order orders packOf partsIn packSize sizesOf loadBy loadsOf runCost PACKS totalBy plansBy plans bestPacks)
/-! ### plain: the best plan -/
def bstep (p : Prog) (w : Nat) (b : Option (Nat × List Nat)) (l : List Nat) : Option (Nat × List Nat) := match b with
  | none => some (totalBy p (orders p) w l, l)
  | some x => if totalBy p (orders p) w l < x.1 then some (totalBy p (orders p) w l, l) else some x
theorem best_eq (p : Prog) (w first : Nat) : bestPacks p w first = ((plans p).filter fun l => decide (packSize p l 0 ≤ first)).foldl (bstep p w) none := rfl
def bestUp (p : Prog) (w first i : Nat) : Option (Nat × List Nat) := (((plans p).take i).filter fun l => decide (packSize p l 0 ≤ first)).foldl (bstep p w) none
theorem bestUp_succ {p : Prog} {w first i : Nat} {l : List Nat} (h : (plans p)[i]? = some l) : bestUp p w first (i + 1) = if packSize p l 0 ≤ first then bstep p w (bestUp p w first i) l else bestUp p w first i := by
  unfold bestUp
  rw [take_more h, List.filter_append, List.foldl_append]
  by_cases e : packSize p l 0 ≤ first
  · rw [if_pos e, List.filter_cons_of_pos (by simpa using e)]
    rfl
  · rw [if_neg e, List.filter_cons_of_neg (by simpa using e)]
    rfl
theorem plan_ok {p : Prog} {l : List Nat} (h : l ∈ plans p) : PlanOk p l := by
  rw [plans_eq] at h
  exact ⟨(pre_mem _ _ l h).1, (pre_mem _ _ l h).2⟩
theorem free_plan (need : List Nat) : ∀ n k, ∃ l ∈ plansBy need n k, ∀ x ∈ l, x ≠ 0
  | 0, k => ⟨[], by simp [plansBy], by simp⟩
  | n + 1, k => by
    obtain ⟨l, h1, h2⟩ := free_plan need n (k + 1)
    have hx : ∃ x ∈ chs need k, x ≠ 0 := by
      unfold chs
      split
      · exact ⟨1, by simp, by decide⟩
      · exact ⟨3, by simp, by decide⟩
    obtain ⟨x, hx1, hx2⟩ := hx
    refine ⟨x :: l, ?_, fun y hy => ?_⟩
    · rw [plansBy_succ]
      exact List.mem_flatMap.mpr ⟨x, hx1, List.mem_map.mpr ⟨l, h1, rfl⟩⟩
    · rcases List.mem_cons.mp hy with rfl | hy
      · exact hx2
      · exact h2 y hy
theorem best_some (p : Prog) (w first : Nat) : ∃ c l, bestPacks p w first = some (c, l) ∧ PlanOk p l := by
  have keep : ∀ (ls : List (List Nat)) (b : Option (Nat × List Nat)), (∀ l ∈ ls, PlanOk p l) → (∀ x, b = some x → PlanOk p x.2) → (b ≠ none ∨ ls ≠ []) → ∃ c l, ls.foldl (bstep p w) b = some (c, l) ∧ PlanOk p l := fun ls => by
    induction ls with
    | nil =>
      intro b _ hb hn
      cases b with
      | none => simp at hn
      | some x => exact ⟨x.1, x.2, rfl, hb x rfl⟩
    | cons l r ih =>
      intro b hl hb _
      refine ih (bstep p w b l) (fun l h => hl l (List.mem_cons_of_mem _ h)) (fun x hx => ?_) (.inl ?_)
      · cases b with
        | none =>
          cases hx
          exact hl l List.mem_cons_self
        | some y =>
          unfold bstep at hx
          dsimp only at hx
          split at hx
          · cases hx
            exact hl l List.mem_cons_self
          · cases hx
            exact hb x rfl
      · cases b with
        | none => simp [bstep]
        | some y =>
          unfold bstep
          dsimp only
          split <;> simp
  rw [best_eq]
  refine keep _ none (fun l hl => plan_ok (List.mem_filter.mp hl).1) (fun _ h => by cases h) (.inr ?_)
  obtain ⟨l, h1, h2⟩ := free_plan (unionOf p (reached p)) p.parts.length 0
  have hl : l ∈ plans p := h1
  have ho := plan_ok hl
  refine List.ne_nil_of_mem (a := l) (List.mem_filter.mpr ⟨hl, ?_⟩)
  have e : partsIn p l 0 = [] := by
    unfold partsIn
    rw [List.filter_eq_nil_iff]
    intro k hk
    have hk := List.mem_range.mp hk
    have hkl : k < List.length l := by rw [ho.len]; exact hk
    have hg : l[k]? = some (l[k]'hkl) := List.getElem?_eq_getElem hkl
    rw [packOf_get hg]
    have := h2 _ (List.mem_of_getElem? hg)
    simpa using this
  unfold packSize
  rw [e]
  simp [sizeOf_]
/-! ### promises -/
def BestAt (H : Hp) : Option (Nat × List Nat) → V → Prop
  | none, v => v = .non
  | some x, v => ∃ t a, v = .ref t ∧ H t = some (.tup [.int (x.1 : Nat), .ref a]) ∧ H a = some (.lst (ents x.2))
theorem BestAt.mono {H H' : Hp} {b : Option (Nat × List Nat)} {v : V} (s : Same H H') (h : BestAt H b v) : BestAt H' b v := by
  cases b with
  | none => exact h
  | some x =>
    obtain ⟨t, a, h1, h2, h3⟩ := h
    exact ⟨t, a, h1, s _ _ h2, s _ _ h3⟩
def spBestPlan (K : PySem.W.Frag) : Sp := fun vs H Q _ => ∃ (pa rl : Addr) (p : Prog) (rs : List Addr) (w first : Nat), vs = [.ref pa, .ref rl, .int (w : Nat), .int (first : Nat)] ∧ ProgAt K H pa p ∧ AllRuns K p H rl rs ∧
  ∀ H' v, Same H H' → BestAt H' (bestPacks p w first) v → Q v H'
section
variable {P : Program} {w : World} {K : PySem.W.Frag} {mg : Str → Option Value} {base : Heap}
def N_best_plan : List Str := ["program", "runs", "more", "first", "best", "plan", "total"]
theorem sc_best_plan : FnScope N_best_plan ["program", "runs", "more", "first"] (defScope s_best_plan) := ⟨rfl, rfl, rfl, by decide +kernel, rfl, by decide +kernel, by decide +kernel⟩
theorem ok_best_plan (T : Txt K mg) : Ok P w K mg base 4 "best_plan" ["program", "runs", "more", "first"] (spBestPlan K) := by
  have G_sizes_of : Ok P w K mg base 1 "sizes_of" ["program", "plan"] (spSizesOf K) := ok_sizes_of T
  have G_total_of : Ok P w K mg base 3 "total_of" ["program", "runs", "plan", "more"] (spTotalOf K) := ok_total_of T
  have G_plans_of : Ok P w K mg base 1 "plans_of" ["program", "reached"] (spPlansOf K) := ok_plans_of T
  have G_reached_of : Ok P w K mg base 1 "reached_of" ["runs"] (spReachedOf K) := ok_reached_of T
  refine ok_mk T.d_best_plan sc_best_plan (fun vs H Q E h => ?_) (fun cdv A outer s H vs Q E hr h => ?_)
  · obtain ⟨pa, rl, p, rs, w', first, rfl, _⟩ := h
    rfl
  · have hr_sizes_of : Room 1 _ := hr.mono (by decide)
    have hr_total_of : Room 3 _ := hr
    have hr_plans_of : Room 1 _ := hr.mono (by decide)
    have hr_reached_of : Room 1 _ := hr.mono (by decide)
    refine ⟨_, (pss_cons (ps_set (i := 4) sc_best_plan.nd rfl (Or.inl rfl) pe_non) (pss_cons (ps_for (passes_of rfl) rfl (pi_list (pe_c G_plans_of hr_plans_of (pa_cons (pv 0) (pa_cons (pe_c G_reached_of hr_reached_of (pa_cons (pv 1) pa_nil)) pa_nil)))) (pg_name (i := 5) sc_best_plan.nd rfl (Or.inl rfl)) (pss_one (ps_if (pt_cmpR op_le (pe_ix ix_list (pe_c G_sizes_of hr_sizes_of (pa_cons (pv 0) (pa_cons (pv 5) pa_nil))) pe_int (fun _ _ => rfl)) (pv 3) (nomark _)) (pss_cons (ps_set (i := 6) sc_best_plan.nd rfl (Or.inl rfl) (pe_c G_total_of hr_total_of (pa_cons (pv 0) (pa_cons (pv 1) (pa_cons (pv 5) (pa_cons (pv 2) pa_nil)))))) (pss_one (ps_if (PW.pt (pw_or (pt_cmpR op_isN (pv 4) pe_non (nomark _)) (pw_or1 (pt_cmpR op_lt (pv 6) (pe_ix ix_tup (pv 4) pe_int (fun _ _ => rfl)) (nomark _))))) (pss_one (ps_set (i := 4) sc_best_plan.nd rfl (Or.inl rfl) (pe_tup (pa_cons (pv 6) (pa_cons (pv 5) pa_nil))))) pss_nil))) pss_nil))) (pss_one (ps_ret (pv 4))))), ?_⟩
    obtain ⟨pa, rl, p, rs, w', first, rfl, h, hrs, q⟩ := h
    refine ⟨_, rfl, _, rfl, rl, p, rs, rfl, hrs, fun H1 ul s1 nul hul => ?_⟩
    refine ⟨pa, ul, p, _, rfl, h.mono s1, hul, fun H2 fl as s2 hfl has => ?_⟩
    rw [← plans_eq] at has
    have s12 := s1.trans s2
    refine ⟨fl, rfl, ⟨_, SqL.of hfl⟩, for_list (K := K) (a := fl) (xs := as.map V.ref) (fun i σ H' => ∃ (b : V) (v5 v6 : Option V), σ = [some (.ref pa), some (.ref rl), some (.int (w' : Nat)), some (.int (first : Nat)), some b, v5, v6] ∧ Same H2 H' ∧ BestAt H' (bestUp p w' first i) b) ⟨.non, none, none, rfl, Same.refl _, rfl⟩ (fun i σ H' _ ⟨_, _, _, _, g, _⟩ => SqL.of (g _ _ hfl)) ?_ ?_⟩
    · rintro i v σ H' hi ⟨b, v5, v6, rfl, g, hb⟩
      obtain ⟨a, ha, rfl⟩ := map_get hi
      obtain ⟨l, hl, hA⟩ := pget has ha
      have hok := plan_ok (List.mem_of_getElem? hl)
      have bu := bestUp_succ (w := w') (first := first) hl
      have gg := s12.trans g
      refine ⟨_, rfl, _, rfl, pa, p, a, l, rfl, h.mono gg, g _ _ hA, hok.len, hok.lt, fun H3 sl s3 nsl hsl => ?_⟩
      refine ⟨sl, _, 0, _, rfl, rfl, SqL.of hsl, rfl, _, rfl, _, _, rfl, rfl, _, rfl, if_both (fun e => ?_) fun e => ?_⟩
      · have e : packSize p l 0 ≤ first := by
          have e := of_decide_eq_true e
          have : ((packSize p l 0 : Nat) : Int) ≤ (first : Int) := e
          omega
        rw [if_pos e] at bu
        have gg3 := gg.trans s3
        have hb3 := hb.mono s3
        refine ⟨_, rfl, _, rfl, _, rfl, _, rfl, pa, rl, a, p, rs, orders p, l, w', rfl, h.mono gg3, (hrs.mono gg3).ls, (hrs.mono gg3).rn, Nat.le_trans hrs.le (by decide), s3 _ _ (g _ _ hA), hok, fun H4 s4 => ?_⟩
        have hb4 := hb3.mono s4
        have g4 : Same H2 H4 := (g.trans s3).trans s4
        have hA4 := g4 _ _ hA
        have put : ∀ b', bestUp p w' first (i + 1) = some (totalBy p (orders p) w' l, l) → ∀ t, H4 t = none → ∃ (b : V) (v5 v6 : Option V), [some (.ref pa), some (.ref rl), some (.int (w' : Nat)), some (.int (first : Nat)), some (V.ref t), some (V.ref a), some b'] = [some (.ref pa), some (.ref rl), some (.int (w' : Nat)), some (.int (first : Nat)), some b, v5, v6] ∧ Same H2 (upd H4 t (.tup [.int (totalBy p (orders p) w' l : Nat), .ref a])) ∧ BestAt (upd H4 t (.tup [.int (totalBy p (orders p) w' l : Nat), .ref a])) (bestUp p w' first (i + 1)) b := fun b' eb t nt => by
          refine ⟨.ref t, _, _, rfl, g4.trans (same_upd nt), ?_⟩
          rw [eb]
          exact ⟨t, a, rfl, upd_same, same_upd nt _ _ hA4⟩
        cases eb : bestUp p w' first i with
        | none =>
          rw [eb] at hb4 bu
          have hb4 : b = .non := hb4
          subst hb4
          exact ⟨_, rfl, rfl, _, rfl, _, rfl, _, rfl, by show 2 ≤ sizeLine; decide, fun t nt => put _ bu t nt⟩
        | some x =>
          rw [eb] at hb4 bu
          have hb5 := hb4
          obtain ⟨t0, a0, rfl, h1, h2⟩ := hb4
          have bu : bestUp p w' first (i + 1) = if totalBy p (orders p) w' l < x.1 then some (totalBy p (orders p) w' l, l) else some x := bu
          refine ⟨_, rfl, rfl, _, rfl, ?_⟩
          refine ⟨_, rfl, _, rfl, t0, _, 0, _, rfl, rfl, .inl (.inl h1), rfl, _, _, rfl, rfl, _, rfl, if_both (fun e2 => ?_) fun e2 => ?_⟩
          · have e2 : totalBy p (orders p) w' l < x.1 := by
              have e2 := of_decide_eq_true e2
              omega
            rw [if_pos e2] at bu
            exact ⟨_, rfl, _, rfl, by show 2 ≤ sizeLine; decide, fun t nt => put _ bu t nt⟩
          · have e2 : ¬ totalBy p (orders p) w' l < x.1 := by
              have e2 := of_decide_eq_false e2
              omega
            rw [if_neg e2] at bu
            refine ⟨_, _, _, rfl, g4, ?_⟩
            rw [bu]
            exact hb5
      · have e : ¬ packSize p l 0 ≤ first := by
          have e := of_decide_eq_false e
          have : ¬ ((packSize p l 0 : Nat) : Int) ≤ (first : Int) := e
          omega
        rw [if_neg e] at bu
        refine ⟨b, _, _, rfl, g.trans s3, ?_⟩
        rw [bu]
        exact hb.mono s3
    · rintro σ H' ⟨b, v5, v6, rfl, g, hb⟩
      have et : bestUp p w' first (as.map V.ref).length = bestPacks p w' first := by
        unfold bestUp
        rw [List.length_map, plen has, List.take_length]
        rfl
      rw [et] at hb
      exact ⟨_, rfl, q H' b (s12.trans g) hb⟩
end
end PP

set_option Elab.async false
set_option linter.all false
set_option maxRecDepth 100000
set_option maxHeartbeats 4000000
namespace PP
open PySem PySem.Spec PyProof.Rows L2
open VakepBase (Bytes Fault)
open Vakepa (Raw RawPart Piece Prog valuesOf counts total assignments sizeOf_ unionOf reached inOrder)
open Vakepe (Order orders packOf partsIn packSize sizesOf loadBy loadsOf runCost PACKS totalBy plansBy plans bestPacks beforeOf)
/-! ### xs == [] -/
def entD (l : List Nat) : List PyData := l.map fun (n : Nat) => PyData.int (n : Int)
theorem dp_ents {K : PySem.W.Frag} {H : Hp} : ∀ l : List Nat, DpAll K H (ents l) (entD l)
  | [] => .nil
  | c :: r => .cons (.int _) (dp_ents r)
theorem lay_ents : ∀ l : List Nat, PyData.canLayAll0 (entD l) = true
  | [] => rfl
  | c :: r => by
    show (PyData.canLay0 (.int _) && PyData.canLayAll0 (entD r)) = true
    rw [lay_ents r]
    rfl
theorem dep_ents : ∀ l : List Nat, PyData.depthAll (entD l) ≤ 1
  | [] => by decide
  | c :: r => by
    have h := dep_ents r
    unfold entD at h ⊢
    simp only [List.map_cons, PyData.depthAll, PyData.depth]
    omega
theorem shaped_of {ds : List PyData} (h1 : PyData.canLayAll0 ds = true) (h2 : PyData.depthAll ds ≤ 2) : SeqAt.shaped (.list ds) = true := by
  unfold SeqAt.shaped
  have e1 : (PyData.list ds).canLay0 = true := by
    simp only [PyData.canLay0]
    exact h1
  have e2 : (PyData.list ds).depth ≤ 64 := by
    simp only [PyData.depth]
    omega
  rw [e1, decide_eq_true e2]
  rfl
theorem dp_rows {K : PySem.W.Frag} {H : Hp} : ∀ {as : List Addr} {ls : List (List Nat)}, PlansAt H as ls → DpAll K H (as.map V.ref) (ls.map fun l => PyData.list (entD l))
  | _, _, .nil => .nil
  | _, _, .cons h r => .cons (.lst (SqL.of h) (dp_ents _)) (dp_rows r)
theorem lay_rows : ∀ ls : List (List Nat), PyData.canLayAll0 (ls.map fun l => PyData.list (entD l)) = true
  | [] => rfl
  | l :: r => by
    show (PyData.canLay0 (.list (entD l)) && PyData.canLayAll0 (r.map fun l => PyData.list (entD l))) = true
    rw [lay_rows r]
    simp only [PyData.canLay0]
    rw [lay_ents l]
    rfl
theorem dep_rows : ∀ ls : List (List Nat), PyData.depthAll (ls.map fun l => PyData.list (entD l)) ≤ 2
  | [] => by decide
  | l :: r => by
    have h := dep_rows r
    have h2 := dep_ents l
    simp only [List.map_cons, PyData.depthAll, PyData.depth]
    omega
theorem eqv_nil (ds : List PyData) : PyData.eqv (.list ds) (.list []) = ds.isEmpty := by
  rw [PyData.eqv]
  cases ds with
  | nil => rfl
  | cons d r => simp [PyData.eqvAll]
def rEmp (K : PySem.W.Frag) : R2 := fun x y H Q => ∃ (a b : Addr) (xs : List V) (ds : List PyData), x = .ref a ∧ y = .ref b ∧ SqL K H a xs ∧ DpAll K H xs ds ∧ SeqAt.shaped (.list ds) = true ∧ SqL K H b [] ∧ Q (.bl ds.isEmpty) H
theorem op_emp {X : Cx} (hu : X.A.units + 65 < cLine) : OpR X (compareOp .Eq) (rEmp X.K) := by
  intro pins s σ H x y v u Q I rx ry h
  obtain ⟨a, b, xs, ds, rfl, rfl, h1, h2, h3, h4, q⟩ := h
  exact op_eqD (by omega) pins s σ H _ _ v u Q I rx ry ⟨_, .list [], .lst h1 h2, .lst h4 .nil, h3, by decide, by rw [eqv_nil]; exact q⟩
theorem emp_ents {K : PySem.W.Frag} {H : Hp} {a b : Addr} {l : List Nat} {Q : VK} (h : H a = some (.lst (ents l))) (hb : H b = some (.lst [])) (q : Q (.bl l.isEmpty) H) : rEmp K (.ref a) (.ref b) H Q :=
  ⟨a, b, _, entD l, rfl, rfl, SqL.of h, dp_ents l, shaped_of (lay_ents l) (Nat.le_trans (dep_ents l) (by decide)), SqL.of hb, by
    have : (entD l).isEmpty = l.isEmpty := by cases l <;> rfl
    rw [this]
    exact q⟩
/-! ### plain: what stands before -/
theorem tw_take {k : Nat} : ∀ {l : List Nat}, k ∈ l → ∃ j, l[j]? = some k ∧ l.take j = l.takeWhile (fun x => x != k) ∧ ∀ m z, m < j → l[m]? = some z → z ≠ k
  | [], h => by cases h
  | x :: r, h => by
    by_cases e : x = k
    · subst e
      exact ⟨0, rfl, by simp, fun m z hm => absurd hm (Nat.not_lt_zero _)⟩
    · have hr : k ∈ r := by
        rcases List.mem_cons.mp h with h | h
        · exact absurd h.symm e
        · exact h
      obtain ⟨j, h1, h2, h3⟩ := tw_take hr
      refine ⟨j + 1, by simpa using h1, ?_, fun m z hm hz => ?_⟩
      · rw [List.take_succ_cons, h2, List.takeWhile_cons_of_pos (by simpa using e)]
      · cases m with
        | zero =>
          simp at hz
          rw [← hz]
          exact e
        | succ m => exact h3 m z (by omega) (by simpa using hz)
def rowsOf (k : Nat) (os : List Order) : List (List Nat) := (os.filter fun o => o.l.contains k).map fun o => o.l.takeWhile fun x => x != k
theorem rowsOf_more {k : Nat} {os : List Order} {o : Order} : rowsOf k (os ++ [o]) = rowsOf k os ++ if o.l.contains k = true then [o.l.takeWhile fun x => x != k] else [] := by
  unfold rowsOf
  rw [List.filter_append, List.map_append]
  congr 1
  by_cases e : o.l.contains k = true
  · rw [if_pos e, List.filter_cons_of_pos (p := fun (o : Order) => o.l.contains k) e]
    rfl
  · rw [if_neg e, List.filter_cons_of_neg (p := fun (o : Order) => o.l.contains k) e]
    rfl
theorem cut_to {xs : List V} {j : Nat} (h : j ≤ xs.length) : cutV xs none (some (j : Int)) = xs.take j := by
  unfold cutV
  rw [HT.sIx_nat, HT.sIx_none, List.drop_zero, Nat.sub_zero, Nat.min_eq_left h]
theorem tw_mem {k x : Nat} : ∀ {l : List Nat}, x ∈ l.takeWhile (fun x => x != k) → x ∈ l ∧ x ≠ k
  | [], h => by cases h
  | y :: r, h => by
    by_cases e : y = k
    · subst e
      simp at h
    · rw [List.takeWhile_cons_of_pos (by simpa using e)] at h
      rcases List.mem_cons.mp h with rfl | h
      · exact ⟨List.mem_cons_self, e⟩
      · obtain ⟨h1, h2⟩ := tw_mem h
        exact ⟨List.mem_cons_of_mem _ h1, h2⟩
theorem before_eq {p : Prog} {k : Nat} {l0 : List Nat} {r : List (List Nat)} (hr : rowsOf k (orders p) = l0 :: r) (hlt : ∀ x ∈ l0, x < p.parts.length ∧ x ≠ k) (hnd : l0.Nodup) {ns : List Int} (hp : ns.Perm (zs (l0.filter fun j => (l0 :: r).all fun q => q.contains j))) (hs : ns.Pairwise (· ≤ ·)) : ns = zs (beforeOf p k).2 := by
  have he : ((orders p).filter fun o => o.l.contains k).isEmpty = false := by
    unfold rowsOf at hr
    cases e : (orders p).filter fun o => o.l.contains k with
    | nil =>
      rw [e] at hr
      cases hr
    | cons _ _ => rfl
  have hall : ∀ j, (((orders p).filter fun o => o.l.contains k).all fun o => (o.l.takeWhile fun x => x != k).contains j) = (l0 :: r).all fun q => q.contains j := fun j => by
    rw [← hr]
    unfold rowsOf
    rw [List.all_map]
    rfl
  have nd1 : (zs (l0.filter fun j => (l0 :: r).all fun q => q.contains j)).Nodup := by
    unfold zs
    refine List.pairwise_map.mpr ((hnd.filter _).imp fun h z => h ?_)
    omega
  have nd2 := hp.nodup_iff.mpr nd1
  have hlt2 : ns.Pairwise (· < ·) := (hs.and nd2).imp fun h => by omega
  refine rise_eq _ _ hlt2 (rise_filter _ _) fun x => ?_
  rw [hp.mem_iff, mem_zs, mem_zs]
  constructor
  · rintro ⟨j, hj, rfl⟩
    obtain ⟨h1, h2⟩ := List.mem_filter.mp hj
    refine ⟨j, List.mem_filter.mpr ⟨List.mem_range.mpr (hlt j h1).1, ?_⟩, rfl⟩
    rw [hall, h2, he]
    have := (hlt j h1).2
    simpa using this
  · rintro ⟨j, hj, rfl⟩
    obtain ⟨h1, h2⟩ := List.mem_filter.mp hj
    rw [hall, Bool.and_eq_true] at h2
    refine ⟨j, List.mem_filter.mpr ⟨?_, h2.2⟩, rfl⟩
    have := List.all_eq_true.mp h2.2 l0 List.mem_cons_self
    exact List.contains_iff_mem.mp this
theorem before_len (p : Prog) (k : Nat) : (beforeOf p k).1 = (rowsOf k (orders p)).length := by
  unfold rowsOf
  rw [List.length_map]
  rfl
theorem before_nil {p : Prog} {k : Nat} (h : rowsOf k (orders p) = []) : (beforeOf p k).2 = [] := by
  have he : ((orders p).filter fun o => o.l.contains k) = [] := by
    unfold rowsOf at h
    exact List.map_eq_nil_iff.mp h
  show (List.range p.parts.length).filter (fun j => j != k && !((orders p).filter fun o => o.l.contains k).isEmpty && _) = []
  rw [he]
  refine List.filter_eq_nil_iff.mpr fun j _ => ?_
  simp
def spBefore (K : PySem.W.Frag) : Sp := fun vs H Q _ => ∃ (rl : Addr) (p : Prog) (rs : List Addr) (k : Nat), vs = [.ref rl, .int (k : Nat)] ∧ AllRuns K p H rl rs ∧
  ∀ (H' : Hp) (t a : Addr), Same H H' → H' t = some (.tup [.int ((beforeOf p k).1 : Nat), .ref a]) → H' a = some (.lst (ents (beforeOf p k).2)) → Q (.ref t) H'
section
variable {P : Program} {w : World} {K : PySem.W.Frag} {mg : Str → Option Value} {base : Heap}
def N_entered_before : List Str := ["runs", "part", "rows", "found", "run", "other", "row"]
theorem sc_entered_before : FnScope N_entered_before ["runs", "part"] (defScope s_entered_before) := ⟨rfl, rfl, rfl, by decide +kernel, rfl, by decide +kernel, by decide +kernel⟩
theorem ok_entered_before (T : Txt K mg) : Ok P w K mg base 1 "entered_before" ["runs", "part"] (spBefore K) := by
  refine ok_mk T.d_entered_before sc_entered_before (fun vs H Q E h => ?_) (fun cdv A outer s H vs Q E hr h => ⟨_, (pss_cons (ps_set (i := 2) sc_entered_before.nd rfl (Or.inr rfl) (pe_lc (own := [("run", 4)]) (g := gName 4) (tt := tTest (tOp (rIn K false) (tVar 1) (tFld K (tVar 4) "entered"))) (te := tSl (rSlL K) (tFld K (tVar 4) "entered") tNoPart (tPart (tBM K "list" (rIndex K) (tFld K (tVar 4) "entered") (tCons (tVar 1) tNil)))) (by rfl) sc_entered_before.nd (pi_list (pv 0)) (blkOk_by (own := [("run", 4)]) (N := N_entered_before) (sc := defScope s_entered_before) (by decide +kernel)) (by exact fun _ _ _ _ _ => (pg_name (i := 4) sc_entered_before.nd rfl (Or.inl rfl))) (by exact fun _ _ _ _ _ => pts_one (pt_cmpR op_in_seq (pv 1) (pe_fld (pv 4) rfl) (by rfl))) (by exact fun _ _ _ _ _ => (pe_slice sl_list (pe_fld (pv 4) rfl) po_none (po_some (pe_bm PySem.F.plainAttrs_list PySem.F.slot_list_index PySem.F.type_list_index mt_index (pe_fld (pv 4) rfl) (pa_cons (pv 1) pa_nil))))))) (pss_cons (ps_if (pt_cmpR (op_emp hr.u65) (pv 2) (pe_lst pa_nil) (nomark _)) (pss_one (ps_ret (pe_tup (pa_cons pe_int (pa_cons (pe_lst pa_nil) pa_nil))))) pss_nil) (pss_cons (ps_setLc (i := 3) (own := [("other", 5)]) (g := gName 5) (te := tVar 5) (tt := tTest (tOp (rEmp K) (tLc (iList K (tVar 2)) (gName 6) (tTest (tOp (rIn K true) (tVar 5) (tVar 6))) (tC (.int 1)) [6]) (tLst tNil))) (by rfl) sc_entered_before.nd rfl rfl (sw_true rfl rfl rfl (by decide +kernel)) (pi_list (pe_ix ix_list (pv 2) pe_int (fun _ _ => rfl))) (blkOk_by (own := [("other", 5)]) (N := N_entered_before) (sc := defScope s_entered_before) (by decide +kernel)) (by exact fun _ _ _ _ _ => (pg_name (i := 5) sc_entered_before.nd rfl (Or.inr rfl))) (by exact fun _ _ _ _ _ => pts_one (pt_cmpR (op_emp hr.u65) (pe_lc (own := [("row", 6)]) (g := gName 6) (tt := tTest (tOp (rIn K true) (tVar 5) (tVar 6))) (te := tC (.int 1)) (by rfl) sc_entered_before.nd (pi_list (pv 2)) (blkOk_by (own := [("row", 6)]) (N := N_entered_before) (sc := { kind := .function, names := [(".0", .local), ("other", .cell), ("rows", .cell)], isGenerator := false, isCoroutine := false }) (by decide +kernel)) (by exact fun _ _ _ _ _ => (pg_name (i := 6) sc_entered_before.nd rfl (Or.inl rfl))) (by exact fun _ _ _ _ _ => pts_one (pt_cmpR op_notIn_seq (pv 5) (pv 6) (by rfl))) (by exact fun _ _ _ _ _ => pe_int)) (pe_lst pa_nil) (nomark _))) (by exact fun _ _ _ _ _ => (pv 5))) (pss_one (ps_ret (pe_tup (pa_cons (pe_callB call_len (by rfl) (T.free "len") PySem.boot_len (pa_cons (pv 2) pa_nil)) (pa_cons (pe_callB cr_sortedI (by rfl) (T.free "sorted") (by decide +kernel) (pa_cons (pv 3) pa_nil)) pa_nil)))))))), ?_⟩)
  · obtain ⟨rl, p, rs, k, rfl, _⟩ := h
    rfl
  · obtain ⟨rl, p, rs, k, rfl, h, q⟩ := h
    have h10 := h.p10
    refine ⟨_, rfl, rl, rfl, ⟨_, SqL.of h.ls⟩, fun D hD => ?_⟩
    refine lc_list (K := K) (a := rl) (xs := rs.map V.ref) (fun i H' => ∃ as : List Addr, Same H (off [D] H') ∧ H' D = some (.lst (as.map V.ref)) ∧ PlansAt (off [D] H') as (rowsOf k ((orders p).take i)) ∧ as.length ≤ i) ⟨[], off1_same hD (same_upd hD), upd_same, .nil, Nat.le_refl _⟩ (fun i H' _ ⟨_, g, _⟩ => SqL.of (off_same _ _ (g _ _ h.ls))) (fun i x H' hx ⟨as, g, hD2, has, hle⟩ => ?_) fun H' ⟨as, g, hD2, has, hle⟩ => ?_
    · obtain ⟨r, hr2, rfl⟩ := map_get hx
      obtain ⟨o, ho, hro⟩ := pget h.rn hr2
      have hol := hro.len h10
      obtain ⟨i0, el, _, ⟨dx, x1, x2, x3, x4, h1, h2⟩, hnd, hlt⟩ := hro
      have hi2 : i < rs.length := (List.getElem?_eq_some_iff.mp hr2).1
      have hle2 := h.le
      have g' := g.trans off_same
      have e1 := g' _ _ h1
      have e2 := g' _ _ h2
      have em : rowsOf k ((orders p).take (i + 1)) = rowsOf k ((orders p).take i) ++ if o.l.contains k = true then [o.l.takeWhile fun x => x != k] else [] := by
        rw [take_more ho, rowsOf_more]
      refine ⟨rfl, _, rfl, _, rfl, r, _, dx, _, _, rfl, e1, T.cls "Run", T.noat "Run" "entered", runF_entered, el, _, rfl, .inl (SqL.of e2), rfl, flat_ents, _, rfl, if_both (fun e => ?_) fun e => ?_⟩
      · have e : o.l.contains k = true := by
          rw [inV_ents] at e
          simpa using e
        rw [if_pos e] at em
        obtain ⟨j, j1, j2, j3⟩ := tw_take (List.contains_iff_mem.mp e)
        have hj : j < o.l.length := (List.getElem?_eq_some_iff.mp j1).1
        refine ⟨_, rfl, r, _, dx, _, _, rfl, e1, T.cls "Run", T.noat "Run" "entered", runF_entered, _, rfl, r, _, dx, _, _, rfl, e1, T.cls "Run", T.noat "Run" "entered", runF_entered, .inl ⟨rfl, _, SqL.of e2⟩, _, rfl, el, _, _, j, .int (k : Nat), rfl, rfl, SqL.of e2, rfl, flat_ents, ?_, ?_, fun m z hm hz => ?_, j, rfl, el, _, rfl, SqL.of e2, fun n nn => ?_⟩
        · show (List.map _ _)[j]? = _
          rw [List.getElem?_map, j1]
          rfl
        · show ((k : Int) == (k : Int)) = true
          exact beq_self_eq_true _
        · obtain ⟨z0, hz0, rfl⟩ := map_get hz
          have := j3 m z0 hm hz0
          show ((z0 : Int) == (k : Int)) = false
          have : (z0 : Int) ≠ (k : Int) := by omega
          simpa using this
        · have hcut : cutV (ents o.l) none (some (j : Int)) = ents (o.l.takeWhile fun x => x != k) := by
            rw [cut_to (by rw [ents_len]; omega)]
            unfold ents
            rw [← List.map_take, j2]
          rw [hcut]
          have sn : Same H' (upd H' n (.lst (ents (o.l.takeWhile fun x => x != k)))) := same_upd nn
          have nnD : n ≠ D := (ne_of_none hD2 nn).symm
          refine ⟨_, sn _ _ hD2, (by rw [List.length_map]; exact Nat.lt_of_le_of_lt (show as.length ≤ 300 by omega) (by decide)), as ++ [n], ?_, ?_, ?_, ?_⟩
          · exact fun b o e => by
              obtain ⟨hb, e⟩ := off_some (g _ _ e)
              exact off_get hb (by rw [upd_ne (by simpa using hb)]; exact sn _ _ e)
          · rw [upd_same, List.map_append]
            rfl
          · rw [em]
            refine psnoc (PlansAt.mono (fun b o e => ?_) has) (off_get (by simpa using nnD) ((upd_ne nnD).trans upd_same))
            obtain ⟨hb, e⟩ := off_some e
            exact off_get hb (by rw [upd_ne (by simpa using hb)]; exact sn _ _ e)
          · rw [List.length_append]
            show as.length + 1 ≤ i + 1
            omega
      · have e : ¬ o.l.contains k = true := by
          rw [inV_ents] at e
          simpa using e
        rw [if_neg e, List.append_nil] at em
        exact ⟨as, g, hD2, by rw [em]; exact has, by omega⟩
    · have et : (orders p).take (rs.map V.ref).length = orders p := by
        rw [List.length_map, plen h.rn]
        exact List.take_length
      rw [et] at has
      have g' := g.trans off_same
      have has : PlansAt H' as (rowsOf k (orders p)) := PlansAt.mono off_same has
      have hasl := plen has
      refine ⟨_, rfl, Nat.zero_le _, fun b nb => ?_⟩
      have s3 : Same H' (upd H' b (.lst [])) := same_upd nb
      refine ⟨D, b, _, _, rfl, rfl, SqL.of (s3 _ _ hD2), dp_rows (has.mono s3), shaped_of (lay_rows _) (dep_rows _), SqL.of upd_same, _, rfl, if_both (fun e => ?_) fun e => ?_⟩
      · have e : rowsOf k (orders p) = [] := by
          rw [List.isEmpty_map] at e
          exact List.isEmpty_iff.mp e
        refine ⟨Nat.zero_le _, fun n nn => ⟨by show 2 ≤ sizeLine; decide, fun t nt => ?_⟩⟩
        refine q _ t n (((g'.trans s3).trans (same_upd nn)).trans (same_upd nt)) ?_ ?_
        · rw [upd_same, before_len, e]
          rfl
        · rw [before_nil e]
          exact same_upd nt _ _ upd_same
      · obtain ⟨l0, rr, hrr⟩ : ∃ l0 rr, rowsOf k (orders p) = l0 :: rr := by
          cases hh : rowsOf k (orders p) with
          | nil =>
            rw [hh] at e
            cases e
          | cons l0 rr => exact ⟨l0, rr, rfl⟩
        have hs4 := has.mono s3
        rw [hrr] at hs4
        have hDb := s3 _ _ hD2
        have sB := g'.trans s3
        revert hs4 hDb sB
        generalize upd H' b (.lst []) = H4
        intro hs4 hDb sB
        have hal : as.length ≤ 300 := by
          have := h.le
          rw [List.length_map] at hle
          omega
        cases hs4 with
        | @cons a0 _ ar _ ha0 har =>
          have hs4 : PlansAt H4 (a0 :: ar) (l0 :: rr) := .cons ha0 har
          have hl0 : ∀ x ∈ l0, x < p.parts.length ∧ x ≠ k := fun x hx => by
            have : l0 ∈ rowsOf k (orders p) := by rw [hrr]; exact List.mem_cons_self
            obtain ⟨o, ho, rfl⟩ := List.mem_map.mp this
            obtain ⟨j, hj⟩ := List.getElem?_of_mem (List.mem_filter.mp ho).1
            obtain ⟨r, _, i0, el, _, _, _, hlt⟩ := Paired_get h.rn hj
            obtain ⟨h1, h2⟩ := tw_mem hx
            exact ⟨hlt x h1, h2⟩
          have hd0 : l0.Nodup := by
            have : l0 ∈ rowsOf k (orders p) := by rw [hrr]; exact List.mem_cons_self
            obtain ⟨o, ho, rfl⟩ := List.mem_map.mp this
            obtain ⟨j, hj⟩ := List.getElem?_of_mem (List.mem_filter.mp ho).1
            obtain ⟨r, _, i0, el, _, _, hnd, _⟩ := Paired_get h.rn hj
            exact hnd.sublist (List.takeWhile_sublist _)
          have hl10 : l0.length ≤ 10 := Nat.le_trans (nodup_len _ _ hd0 fun x hx => (hl0 x hx).1) h10
          let f : Nat → Bool := fun j => (l0 :: rr).all fun q => q.contains j
          refine ⟨_, rfl, D, _, 0, _, rfl, rfl, SqL.of hDb, atI_nat (j := 0) rfl, a0, rfl, ⟨_, SqL.of ha0⟩, fun F hF => ?_⟩
          refine lc_list (K := K) (a := a0) (xs := ents l0) (fun i H5 => Same H4 (off [F] H5) ∧ H5 F = some (.lst (ents ((l0.take i).filter f)))) ⟨off1_same hF (same_upd hF), upd_same⟩ (fun i H5 _ ⟨g5, _⟩ => SqL.of (off_same _ _ (g5 _ _ ha0))) (fun i x H5 hx ⟨g5, hF5⟩ => ?_) fun H5 ⟨g5, hF5⟩ => ?_
          · obtain ⟨j, hj, rfl⟩ := map_get hx
            have g5' := g5.trans off_same
            have hi10 : i < l0.length := (List.getElem?_eq_some_iff.mp hj).1
            refine ⟨rfl, _, rfl, D, rfl, ⟨_, SqL.of (g5' _ _ hDb)⟩, fun G hG => ?_⟩
            have nGF : G ≠ F := (ne_of_none hF5 hG).symm
            refine lc_list (K := K) (a := D) (xs := (a0 :: ar).map V.ref) (fun m H6 => ∃ c : Nat, Same H5 (off [G] H6) ∧ H6 G = some (.lst (ents (List.replicate c 1))) ∧ (c = 0 ↔ ((l0 :: rr).take m).all (fun q => q.contains j) = true) ∧ c ≤ m) ⟨0, off1_same hG (same_upd hG), upd_same, by simp, Nat.le_refl _⟩ (fun m H6 _ ⟨_, g6, _⟩ => SqL.of (off_same _ _ (g6 _ _ (g5' _ _ hDb)))) (fun m x H6 hx ⟨c, g6, hG6, hc, hcm⟩ => ?_) fun H6 ⟨c, g6, hG6, hc, hcm⟩ => ?_
            · obtain ⟨a, ha, rfl⟩ := map_get hx
              obtain ⟨lq, hlq, hA⟩ := pget hs4 ha
              have g6' := g6.trans off_same
              have hm : m < (a0 :: ar).length := (List.getElem?_eq_some_iff.mp ha).1
              refine ⟨rfl, _, rfl, _, rfl, a, _, rfl, .inl (SqL.of (g6' _ _ (g5' _ _ hA))), rfl, flat_ents, _, rfl, if_both (fun e => ?_) fun e => ?_⟩
              · have e : lq.contains j = false := by
                  rw [inV_ents] at e
                  simpa using e
                refine ⟨_, hG6, (by rw [ents_len, List.length_replicate]; exact Nat.lt_of_le_of_lt (show c ≤ 300 by omega) (by decide)), c + 1, ?_, ?_, ?_, by omega⟩
                · exact fun b o e => by
                    obtain ⟨hb, e⟩ := off_some (g6 _ _ e)
                    exact off_get hb (by rw [upd_ne (by simpa using hb)]; exact e)
                · rw [upd_same, List.replicate_succ', ← ents_app]
                  rfl
                · have e1 : ([lq] : List (List Nat)).all (fun q => q.contains j) = false := by
                    show (lq.contains j && true) = false
                    rw [e]
                    rfl
                  rw [take_more hlq, List.all_append, e1, Bool.and_false]
                  exact ⟨fun z => absurd z (Nat.succ_ne_zero c), fun z => by cases z⟩
              · have e : lq.contains j = true := by
                  rw [inV_ents] at e
                  simpa using e
                refine ⟨c, g6, hG6, ?_, by omega⟩
                have e1 : ([lq] : List (List Nat)).all (fun q => q.contains j) = true := by
                  show (lq.contains j && true) = true
                  rw [e]
                  rfl
                rw [take_more hlq, List.all_append, e1, Bool.and_true, hc]
            · have et : (l0 :: rr).take ((a0 :: ar).map V.ref).length = l0 :: rr := by
                rw [List.length_map, plen hs4]
                exact List.take_length
              rw [et] at hc
              have g6' := g6.trans off_same
              have hF6 := g6' _ _ hF5
              refine ⟨Nat.zero_le _, fun b2 nb2 => ?_⟩
              have s7 : Same H6 (upd H6 b2 (.lst [])) := same_upd nb2
              have nbF : b2 ≠ F := (ne_of_none hF6 nb2).symm
              have g7 : Same H4 (off [F] (upd H6 b2 (.lst []))) := fun b o e => by
                obtain ⟨hb, e⟩ := off_some (g5 _ _ e)
                exact off_get hb (s7 _ _ (g6' _ _ e))
              have ef : (l0.take (i + 1)).filter f = (l0.take i).filter f ++ if f j = true then [j] else [] := by
                rw [take_more hj, List.filter_append]
                by_cases e : f j = true
                · rw [if_pos e, List.filter_cons_of_pos e]
                  rfl
                · rw [if_neg e, List.filter_cons_of_neg e]
                  rfl
              refine emp_ents (s7 _ _ hG6) upd_same ⟨_, rfl, if_both (fun e => ?_) fun e => ?_⟩
              · have c0 : c = 0 := by
                  cases c with
                  | zero => rfl
                  | succ c =>
                    rw [List.replicate_succ] at e
                    cases e
                have fj : f j = true := hc.mp c0
                rw [if_pos fj] at ef
                refine ⟨_, rfl, _, s7 _ _ hF6, ?_, ?_, ?_⟩
                · rw [ents_len]
                  refine Nat.lt_of_le_of_lt (Nat.le_trans (List.length_filter_le _ _) ?_) (show 300 < sizeLine by decide)
                  rw [List.length_take]
                  omega
                · exact fun b o e => by
                    obtain ⟨hb, e⟩ := off_some (g7 _ _ e)
                    exact off_get hb (by rw [upd_ne (by simpa using hb)]; exact e)
                · rw [upd_same, ef, ← ents_app]
              · have c0 : ¬ c = 0 := by
                  intro z
                  subst z
                  cases e
                have fj : ¬ f j = true := fun z => c0 (hc.mpr z)
                rw [if_neg fj, List.append_nil] at ef
                exact ⟨g7, by rw [ef]; exact s7 _ _ hF6⟩
          · have et : l0.take (ents l0).length = l0 := by
              rw [ents_len]
              exact List.take_length
            rw [et] at hF5
            have g5' := g5.trans off_same
            have sF : Same H H5 := sB.trans g5'
            refine ⟨_, rfl, _, (a0 :: ar).length, rfl, .inl ⟨_, SqL.of (g5' _ _ hDb), (List.length_map _).symm⟩, _, rfl, F, zs (l0.filter f), rfl, SqL.of (by rw [ents_ints]; exact hF5), fun ns a hp hs na => ⟨by show 2 ≤ sizeLine; decide, fun t nt => ?_⟩⟩
            have en := before_eq hrr hl0 hd0 hp hs
            subst en
            refine q _ t a ((sF.trans (same_upd na)).trans (same_upd nt)) ?_ ?_
            · rw [upd_same, before_len, hrr, plen hs4]
            · rw [← ents_ints]
              exact same_upd nt _ _ upd_same
end
end PP

set_option Elab.async false
set_option linter.all false
set_option maxRecDepth 100000
set_option maxHeartbeats 4000000
namespace PP
open PySem PySem.Spec PyProof.Rows L2
open VakepBase (Bytes Fault index)
open Vakepa (Prog total unionOf reached)
open Vakepe (Order orders packOf packSize sizesOf loadsOf runCost PACKS totalBy bestPacks beforeOf Held)
/-! ### refusals -/
def refF (n : V) : List (Str × V) := [("number", n)]
def RefE (K : PySem.W.Frag) (H : Hp) (E : XK) (n : Int) : Prop := ∀ (d : Addr) (H' : Hp), Same H H' → H' d = some (.xd (refF (.int n))) → E (.ref (He.ga K "Refused")) (some d) H'
theorem RefE.mono {K : PySem.W.Frag} {H H1 : Hp} {E : XK} {n : Int} (h : RefE K H E n) (s : Same H H1) : RefE K H1 E n := fun d H' s' e => h d H' (s.trans s') e
def spRefI (K : PySem.W.Frag) : Sp := fun vs H Q _ => ∃ (a : Addr) (x : V), vs = [.ref a, x] ∧ H a = some (exo a (He.ga K "Refused") none) ∧
  ∀ dx, H dx = none → dx ≠ a → Q .non (upd (upd H dx (exd dx (refF x))) a (exo a (He.ga K "Refused") (some dx)))
def spCheck (K : PySem.W.Frag) : Sp := fun vs H Q E => ∃ (c : Bool) (n : Int), vs = [.bl c, .int n] ∧ (c = false → RefE K H E n) ∧ (c = true → Q .non H)
def spCheckCost (K : PySem.W.Frag) : Sp := fun vs H Q E => ∃ (x : Int), vs = [.int x] ∧ (¬ (0 ≤ x ∧ x ≤ 1000) → RefE K H E (-5)) ∧ (0 ≤ x ∧ x ≤ 1000 → Q .non H)
/-! ### the desk -/
def dkF (p r l : V) : List (Str × V) := [("program", p), ("runs", r), ("plan", l)]
section
variable {p r l y : V}
theorem dkF_program : (dkF p r l).lookup ("program" : Str) = some p := by
  unfold dkF
  repeat (first | exact lk_here | refine (lk_past (by decide +kernel)).trans ?_)
theorem dkF_runs : (dkF p r l).lookup ("runs" : Str) = some r := by
  unfold dkF
  repeat (first | exact lk_here | refine (lk_past (by decide +kernel)).trans ?_)
theorem dkF_plan : (dkF p r l).lookup ("plan" : Str) = some l := by
  unfold dkF
  repeat (first | exact lk_here | refine (lk_past (by decide +kernel)).trans ?_)
theorem dkF_putP : putF "program" y (dkF p r l) = dkF y r l := by
  unfold dkF
  repeat (first | exact put_here | refine (put_past (by decide +kernel)).trans (congrArg _ ?_))
theorem dkF_putR : putF "runs" y (dkF p r l) = dkF p y l := by
  unfold dkF
  repeat (first | exact put_here | refine (put_past (by decide +kernel)).trans (congrArg _ ?_))
theorem dkF_putL : putF "plan" y (dkF p r l) = dkF p r y := by
  unfold dkF
  repeat (first | exact put_here | refine (put_past (by decide +kernel)).trans (congrArg _ ?_))
theorem dkF_new : putF "plan" l (putF "runs" r (putF "program" p [])) = dkF p r l := by
  have e1 : putF "program" p [] = [(("program" : Str), p)] := rfl
  have e2 : putF "runs" r [(("program" : Str), p)] = [(("program" : Str), p), ("runs", r)] := putF_app (ns := ["program"]) rfl (by decide +kernel)
  have e3 : putF "plan" l [(("program" : Str), p), ("runs", r)] = dkF p r l := putF_app (ns := ["program", "runs"]) rfl (by decide +kernel)
  rw [e1, e2, e3]
end
structure Dk where
  dx : Addr
  pa : Addr
  rl : Addr
  pl : Addr
  rs : List Addr
structure DeskAt (K : PySem.W.Frag) (D : Addr) (H : Hp) (c : Dk) (z : Held) : Prop where
  dk : H D = some (.ins (He.ga K "Desk") c.dx (dkF (.ref c.pa) (.ref c.rl) (.ref c.pl)))
  pg : ProgAt K (off [D, c.pl] H) c.pa z.p
  rn : AllRuns K z.p (off [D, c.pl] H) c.rl c.rs
  pl : H c.pl = some (.lst (ents z.l))
  ok : PlanOk z.p z.l
section
variable {K : PySem.W.Frag} {D : Addr} {H H' : Hp} {c : Dk} {z : Held}
theorem DeskAt.mono (s : Same H H') (h : DeskAt K D H c z) : DeskAt K D H' c z := ⟨s _ _ h.dk, h.pg.mono (off_of_same s), h.rn.mono (off_of_same s), s _ _ h.pl, h.ok⟩
theorem DeskAt.ne (h : DeskAt K D H c z) : D ≠ c.pl := ne_of h.dk h.pl (fun z => by cases z)
end
/-- a new list of these numbers, all else as it was -/
def RowQ (H : Hp) (Q : VK) (row : List Int) : Prop := ∀ (H' : Hp) (a : Addr), Same H H' → H a = none → H' a = some (.lst (row.map V.int)) → Q (.ref a) H'
theorem RowQ.mono {H H1 : Hp} {Q : VK} {row : List Int} (h : RowQ H Q row) (s : Same H H1) : RowQ H1 Q row := fun H' a s' n e => h H' a (s.trans s') (s.free n) e
/-- the same from a desk with another plan -/
def AnsQ (K : PySem.W.Frag) (D : Addr) (c0 : Dk) (H : Hp) (Q : VK) (z : Held) (row : List Int) : Prop := ∀ (H' : Hp) (c : Dk) (a : Addr), DeskAt K D H' c z → (c.pa = c0.pa ∧ c.rl = c0.rl ∧ c.rs = c0.rs) → (c.pl = c0.pl ∨ H c.pl = none) → Keep [D, c0.pl] H H' → H a = none → H' a = some (.lst (row.map V.int)) → Q (.ref a) H'
def nats (l : List Nat) : List Int := l.map fun (n : Nat) => (n : Int)
theorem nats_v {l : List Nat} : (nats l).map V.int = ents l := ents_ints
def spCheckPart (K : PySem.W.Frag) : Sp := fun vs H Q E => ∃ (D : Addr) (c : Dk) (z : Held) (k : Int), vs = [.ref D, .int k] ∧ DeskAt K D H c z ∧ (index k z.p.parts.length = none → RefE K H E (-4)) ∧ (∀ i, index k z.p.parts.length = some i → Q .non H)
def spPlanTold (K : PySem.W.Frag) : Sp := fun vs H Q _ => ∃ (D : Addr) (c : Dk) (z : Held), vs = [.ref D] ∧ DeskAt K D H c z ∧ RowQ H Q (1 :: nats (sizesOf z.p z.l))
def spMove (K : PySem.W.Frag) : Sp := fun vs H Q E => ∃ (D : Addr) (c : Dk) (z : Held) (k n : Int), vs = [.ref D, .int k, .int n] ∧ DeskAt K D H c z ∧ (index k z.p.parts.length = none → RefE K H E (-4)) ∧
  ∀ i, index k z.p.parts.length = some i → (index n 4 = none → RefE K H E (-6)) ∧ ∀ m, index n 4 = some m → AnsQ K D c H Q ⟨z.p, z.l.set i m⟩ (1 :: nats (sizesOf z.p (z.l.set i m)))
theorem index_some {i : Int} {n j : Nat} (h : index i n = some j) : i = (j : Int) ∧ j < n := by
  unfold index at h
  split at h
  · cases h
    omega
  · cases h
theorem index_none {i : Int} {n : Nat} (h : index i n = none) : ¬ (0 ≤ i ∧ i < (n : Int)) := by
  unfold index at h
  split at h
  · cases h
  · assumption
theorem index_nat {j n : Nat} (h : j < n) : index (j : Int) n = some j := by
  unfold index
  rw [if_pos (by omega)]
  rfl
theorem index_dec {i : Int} {n : Nat} : (decide (0 ≤ i) && decide (i < (n : Int))) = (index i n).isSome := by
  cases e : index i n with
  | none =>
    have := index_none e
    by_cases h : 0 ≤ i
    · have h2 : ¬ i < (n : Int) := fun z => this ⟨h, z⟩
      simp [h2]
    · simp [h]
  | some j =>
    obtain ⟨rfl, h⟩ := index_some e
    simp [h]
theorem rd_chain2 {lo x : Int} {H : Hp} {Q : VK} {hi : Int} {tb tc : TE} {σ : L2.St} (hb : ∀ Q : VK, Q (.int x) H → tb σ H Q) (hc : ∀ Q : VK, Q (.int hi) H → tc σ H Q) (q : Q (.bl (decide (lo ≤ x) && decide (x < hi))) H) :
    tChain (rI0 fun i j => .bl (decide (i ≤ j))) (rI0 fun i j => .bl (decide (i < j))) (tC (.int lo)) tb tc σ H Q := by
  refine hb _ ⟨_, _, rfl, rfl, _, rfl, if_both (fun e => hc _ ⟨_, _, rfl, rfl, ?_⟩) fun e => ?_⟩
  · rw [e, Bool.true_and] at q
    exact q
  · rw [e, Bool.false_and] at q
    exact q
section
variable {P : Program} {w : World} {K : PySem.W.Frag} {mg : Str → Option Value} {base : Heap}
def N_Refused_init : List Str := ["self", "number"]
theorem sc_Refused_init : FnScope N_Refused_init ["self", "number"] (defScope s_Refused_init) := ⟨rfl, rfl, rfl, by decide +kernel, rfl, by decide +kernel, by decide +kernel⟩
theorem ok_Refused_init (T : Txt K mg) : OkI P w K mg base 1 "Refused" ["self", "number"] (spRefI K) := by
  refine okI_mk T.i_Refused sc_Refused_init (fun vs H Q E h => ?_) (fun qual cdv A outer s H vs Q E hr h => ⟨_, (pss_one (ps_ost (pv 0) (pv 1))), ?_⟩)
  · obtain ⟨a, x, rfl, _⟩ := h
    rfl
  · obtain ⟨a, x, rfl, ha, q⟩ := h
    refine ⟨_, rfl, _, rfl, a, _, rfl, T.refused.o, T.noat "Refused" "number", .inl ⟨ha, fun dx hn ne => ?_⟩⟩
    exact q dx hn ne
def N_check : List Str := ["is_right", "number"]
theorem sc_check : FnScope N_check ["is_right", "number"] (defScope s_check) := ⟨rfl, rfl, rfl, by decide +kernel, rfl, by decide +kernel, by decide +kernel⟩
theorem ok_check (T : Txt K mg) : Ok P w K mg base 3 "check" ["is_right", "number"] (spCheck K) := by
  have G_Refused_init : OkI P w K mg base 1 "Refused" ["self", "number"] (spRefI K) := ok_Refused_init T
  refine ok_mk T.d_check sc_check (fun vs H Q E h => ?_) (fun cdv A outer s H vs Q E hr h => ?_)
  · obtain ⟨c, n, rfl, _⟩ := h
    rfl
  · have hr_Refused : Room (1 + 1) _ := hr
    refine ⟨_, (pss_one (ps_if (pt_not (pt_val (pv 0))) (pss_one (ps_raiseI rfl T.refused G_Refused_init hr_Refused (T.g "Refused") (takes_of rfl rfl rfl rfl) (pa_cons (pv 1) pa_nil))) pss_nil)), ?_⟩
    obtain ⟨c, n, rfl, h1, h2⟩ := h
    refine ⟨_, rfl, c, rfl, ?_⟩
    cases c with
    | true => exact h2 rfl
    | false =>
      refine ⟨_, rfl, (by show 1 ≤ 1000; decide), fun a ha => ⟨a, _, rfl, upd_same, fun dx hn ne => ⟨rfl, dx, _, upd_same, (upd_ne ne).trans upd_same, ?_, ?_⟩⟩⟩
      · rw [upd_ne ne] at hn
        exact hn
      · rw [upd_ne ne] at hn
        refine h1 rfl dx _ (fun b o hb => ?_) ?_
        · have b1 : b ≠ a := ne_of_none hb ha
          have b2 : b ≠ dx := ne_of_none hb hn
          rw [upd_ne b2, del_ne b1, upd_ne b1, upd_ne b2, upd_ne b1]
          exact hb
        · exact upd_same
def N_check_cost : List Str := ["number"]
theorem sc_check_cost : FnScope N_check_cost ["number"] (defScope s_check_cost) := ⟨rfl, rfl, rfl, by decide +kernel, rfl, by decide +kernel, by decide +kernel⟩
theorem ok_check_cost (T : Txt K mg) : Ok P w K mg base 4 "check_cost" ["number"] (spCheckCost K) := by
  have G_check : Ok P w K mg base 3 "check" ["is_right", "number"] (spCheck K) := ok_check T
  refine ok_mk T.d_check_cost sc_check_cost (fun vs H Q E h => ?_) (fun cdv A outer s H vs Q E hr h => ?_)
  · obtain ⟨x, rfl, _⟩ := h
    rfl
  · have hr_check : Room 3 _ := hr
    refine ⟨_, (pss_one (ps_expr (pe_cX G_check hr_check outE (pa_cons (pe_chain op_le op_le pe_int (pv 0) (pe_gl (T.int "MOST_COST" 1000))) (pa_cons (pe_gl (T.int "NO_COST" (-5))) pa_nil))))), ?_⟩
    obtain ⟨x, rfl, h1, h2⟩ := h
    refine rd_chain (lo := 0) (hi := 1000) (x := x) rfl ?_
    refine ⟨_, -5, rfl, fun e => h1 fun z => ?_, fun e => h2 ?_⟩
    · rw [decide_eq_true z.1, decide_eq_true z.2] at e
      cases e
    · rw [Bool.and_eq_true] at e
      exact ⟨of_decide_eq_true e.1, of_decide_eq_true e.2⟩
end
end PP

set_option Elab.async false
set_option linter.all false
set_option maxRecDepth 100000
set_option maxHeartbeats 4000000
namespace PP
open PySem PySem.Spec PyProof.Rows L2
open VakepBase (Bytes Fault index)
open Vakepa (Prog total unionOf reached)
open Vakepe (Order orders packOf packSize sizesOf loadsOf runCost PACKS totalBy bestPacks beforeOf Held)
/-! ### lists of any ints -/
def intD (l : List Int) : List PyData := l.map PyData.int
theorem dp_zs {K : PySem.W.Frag} {H : Hp} : ∀ l : List Int, DpAll K H (l.map V.int) (intD l)
  | [] => .nil
  | c :: r => .cons (.int _) (dp_zs r)
theorem lay_zs : ∀ l : List Int, PyData.canLayAll0 (intD l) = true
  | [] => rfl
  | c :: r => by
    show (PyData.canLay0 (.int _) && PyData.canLayAll0 (intD r)) = true
    rw [lay_zs r]
    rfl
theorem dep_zs : ∀ l : List Int, PyData.depthAll (intD l) ≤ 1
  | [] => by decide
  | c :: r => by
    have h := dep_zs r
    unfold intD at h ⊢
    simp only [List.map_cons, PyData.depthAll, PyData.depth]
    omega
theorem emp_zs {K : PySem.W.Frag} {H : Hp} {a b : Addr} {l : List Int} {Q : VK} (h : H a = some (.lst (l.map V.int))) (hb : H b = some (.lst [])) (q : Q (.bl l.isEmpty) H) : rEmp K (.ref a) (.ref b) H Q :=
  ⟨a, b, _, intD l, rfl, rfl, SqL.of h, dp_zs l, shaped_of (lay_zs l) (Nat.le_trans (dep_zs l) (by decide)), SqL.of hb, by
    have : (intD l).isEmpty = l.isEmpty := by cases l <;> rfl
    rw [this]
    exact q⟩
section
variable {K : PySem.W.Frag} {D : Addr} {H H' : Hp} {c : Dk} {z : Held}
theorem DeskAt.setPlan (h : DeskAt K D H c z) {l : List Nat} (hl : PlanOk z.p l) : DeskAt K D (upd H c.pl (.lst (ents l))) c ⟨z.p, l⟩ := by
  have s : Same (off [D, c.pl] H) (off [D, c.pl] (upd H c.pl (.lst (ents l)))) := (keep_updM (M := [D, c.pl]) (by simp)).off fun _ h => h
  exact ⟨(upd_ne h.ne).trans h.dk, h.pg.mono s, h.rn.mono s, upd_same, hl⟩
theorem plan_set {p : Prog} {l : List Nat} (h : PlanOk p l) {i m : Nat} (hm : m < 4) : PlanOk p (l.set i m) := by
  refine ⟨by rw [List.length_set]; exact h.len, fun x hx => ?_⟩
  rcases List.mem_or_eq_of_mem_set hx with hx | rfl
  · exact h.lt x hx
  · exact hm
theorem ents_set {l : List Nat} {i m : Nat} : (ents l).set i (.int (m : Nat)) = ents (l.set i m) := by
  unfold ents
  rw [List.map_set]
end
def badPlan (p : Prog) (l : List Int) : Prop := l.length ≠ p.parts.length ∨ l.any (fun n => (index n 4).isNone) = true
def spPacks (K : PySem.W.Frag) : Sp := fun vs H Q E => ∃ (D : Addr) (c : Dk) (z : Held) (a : Addr) (l : List Int), vs = [.ref D, .ref a] ∧ DeskAt K D H c z ∧ H a = some (.lst (l.map V.int)) ∧ (badPlan z.p l → RefE K H E (-6)) ∧
  (¬ badPlan z.p l → AnsQ K D c H Q ⟨z.p, l.map fun n => n.toNat⟩ (1 :: nats (sizesOf z.p (l.map fun n => n.toNat))))
def spRunTold (K : PySem.W.Frag) : Sp := fun vs H Q E => ∃ (D : Addr) (c : Dk) (z : Held) (e a : Int), vs = [.ref D, .int e, .int a] ∧ DeskAt K D H c z ∧ (index e z.p.starts.length = none → RefE K H E (-2)) ∧
  ∀ i k, index e z.p.starts.length = some i → z.p.starts[i]? = some k → (index a (total z.p) = none → RefE K H E (-3)) ∧ ∀ n, index a (total z.p) = some n → ∀ r, RunOf K z.p (off [D, c.pl] H) r ⟨k, n, entOf z.p k n⟩ → Q (.ref r) H
section
variable {P : Program} {w : World} {K : PySem.W.Frag} {mg : Str → Option Value} {base : Heap}
def N_check_part : List Str := ["desk", "part"]
theorem sc_check_part : FnScope N_check_part ["desk", "part"] (defScope s_check_part) := ⟨rfl, rfl, rfl, by decide +kernel, rfl, by decide +kernel, by decide +kernel⟩
theorem ok_check_part (T : Txt K mg) : Ok P w K mg base 4 "check_part" ["desk", "part"] (spCheckPart K) := by
  have G_check : Ok P w K mg base 3 "check" ["is_right", "number"] (spCheck K) := ok_check T
  refine ok_mk T.d_check_part sc_check_part (fun vs H Q E h => ?_) (fun cdv A outer s H vs Q E hr h => ?_)
  · obtain ⟨D, c, z, k, rfl, _⟩ := h
    rfl
  · have hr_check : Room 3 _ := hr
    refine ⟨_, (pss_one (ps_expr (pe_cX G_check hr_check outE (pa_cons (pe_chain op_le op_lt pe_int (pv 1) (pe_callB call_len (by rfl) (T.free "len") PySem.boot_len (pa_cons (pe_fld (pe_fld (pv 0) rfl) rfl) pa_nil))) (pa_cons (pe_gl (T.int "NO_PART_packs" (-4))) pa_nil))))), ?_⟩
    obtain ⟨D, c, z, k, rfl, h, h1, h2⟩ := h
    obtain ⟨dp, lp, x, y, pas, p1, p2, p3, p4⟩ := prog_named (h.pg.mono off_same)
    refine rd_chain2 (lo := 0) (hi := (z.p.parts.length : Nat)) (x := k) (fun Q q => ⟨_, rfl, q⟩) (fun Q q => ⟨_, rfl, D, _, c.dx, _, _, rfl, h.dk, T.cls "Desk", T.noat "Desk" "program", dkF_program, c.pa, _, dp, _, _, rfl, p1, T.cls "Program", T.noat "Program" "parts", pgF_parts, _, z.p.parts.length, rfl, .inl ⟨_, SqL.of p2, by rw [List.length_map, p4]⟩, q⟩) ?_
    refine ⟨_, -4, rfl, fun e => h1 ?_, fun e => ?_⟩
    · rw [index_dec] at e
      cases hh : index k z.p.parts.length with
      | none => rfl
      | some i =>
        rw [hh] at e
        cases e
    · rw [index_dec] at e
      cases hh : index k z.p.parts.length with
      | none =>
        rw [hh] at e
        cases e
      | some i => exact h2 i hh
def N_plan_told : List Str := ["desk"]
theorem sc_plan_told : FnScope N_plan_told ["desk"] (defScope s_plan_told) := ⟨rfl, rfl, rfl, by decide +kernel, rfl, by decide +kernel, by decide +kernel⟩
theorem ok_plan_told (T : Txt K mg) : Ok P w K mg base 2 "plan_told" ["desk"] (spPlanTold K) := by
  have G_sizes_of : Ok P w K mg base 1 "sizes_of" ["program", "plan"] (spSizesOf K) := ok_sizes_of T
  refine ok_mk T.d_plan_told sc_plan_told (fun vs H Q E h => ?_) (fun cdv A outer s H vs Q E hr h => ?_)
  · obtain ⟨D, c, z, rfl, _⟩ := h
    rfl
  · have hr_sizes_of : Room 1 _ := hr
    refine ⟨_, (pss_one (ps_ret (pe_op op_cat (pe_lst (pa_cons pe_int pa_nil)) (pe_c G_sizes_of hr_sizes_of (pa_cons (pe_fld (pv 0) rfl) (pa_cons (pe_fld (pv 0) rfl) pa_nil)))))), ?_⟩
    obtain ⟨D, c, z, rfl, h, q⟩ := h
    refine ⟨by show 1 ≤ sizeLine; decide, fun o no => ?_⟩
    have s0 : Same H (upd H o (.lst [.int 1])) := same_upd no
    refine ⟨_, rfl, D, _, c.dx, _, _, rfl, s0 _ _ h.dk, T.cls "Desk", T.noat "Desk" "program", dkF_program, _, rfl, D, _, c.dx, _, _, rfl, s0 _ _ h.dk, T.cls "Desk", T.noat "Desk" "plan", dkF_plan, c.pa, z.p, c.pl, z.l, rfl, (h.pg.mono off_same).mono s0, s0 _ _ h.pl, h.ok.len, h.ok.lt, fun H1 sl s1 nsl hsl => ?_⟩
    refine ⟨o, sl, _, _, rfl, rfl, s1 _ _ upd_same, hsl, (by show 1 + 4 ≤ sizeLine; decide), fun n nn => ?_⟩
    refine q _ n ((s0.trans s1).trans (same_upd nn)) ((s0.trans s1).free nn) ?_
    rw [upd_same, List.map_cons, nats_v]
    rfl
def N_move : List Str := ["desk", "part", "pack"]
theorem sc_move : FnScope N_move ["desk", "part", "pack"] (defScope s_move) := ⟨rfl, rfl, rfl, by decide +kernel, rfl, by decide +kernel, by decide +kernel⟩
theorem ok_move (T : Txt K mg) : Ok P w K mg base 5 "move" ["desk", "part", "pack"] (spMove K) := by
  have G_check : Ok P w K mg base 3 "check" ["is_right", "number"] (spCheck K) := ok_check T
  have G_check_part : Ok P w K mg base 4 "check_part" ["desk", "part"] (spCheckPart K) := ok_check_part T
  have G_plan_told : Ok P w K mg base 2 "plan_told" ["desk"] (spPlanTold K) := ok_plan_told T
  refine ok_mk T.d_move sc_move (fun vs H Q E h => ?_) (fun cdv A outer s H vs Q E hr h => ?_)
  · obtain ⟨D, c, z, k, n, rfl, _⟩ := h
    rfl
  · have hr_check : Room 3 _ := hr.mono (by decide)
    have hr_check_part : Room 4 _ := hr
    have hr_plan_told : Room 2 _ := hr.mono (by decide)
    refine ⟨_, (pss_cons (ps_expr (pe_cX G_check_part hr_check_part outE (pa_cons (pv 0) (pa_cons (pv 1) pa_nil)))) (pss_cons (ps_expr (pe_cX G_check hr_check outE (pa_cons (pe_chain op_le op_lt pe_int (pv 2) (pe_gl (T.int "PACKS" 4))) (pa_cons (pe_gl (T.int "NO_PACK" (-6))) pa_nil)))) (pss_cons (ps_asg (pv 2) (pg_sub (pe_fld (pv 0) rfl) (pv 1) set_list)) (pss_one (ps_ret (pe_c G_plan_told hr_plan_told (pa_cons (pv 0) pa_nil))))))), ?_⟩
    obtain ⟨D, c, z, k, n, rfl, h, h1, h2⟩ := h
    refine ⟨_, rfl, _, rfl, D, c, z, k, rfl, h, h1, fun i hi => ?_⟩
    obtain ⟨h3, h4⟩ := h2 i hi
    obtain ⟨rfl, hil⟩ := index_some hi
    dsimp only [gName]
    refine rd_chain2 (lo := 0) (hi := (4 : Nat)) (x := n) (fun Q q => ⟨_, rfl, q⟩) (fun Q q => q) ?_
    refine ⟨_, -6, rfl, fun e => h3 ?_, fun e => ?_⟩
    · rw [index_dec] at e
      cases hh : index n 4 with
      | none => rfl
      | some i =>
        rw [hh] at e
        cases e
    · rw [index_dec] at e
      cases hh : index n 4 with
      | none =>
        rw [hh] at e
        cases e
      | some m =>
        obtain ⟨rfl, hm⟩ := index_some hh
        have q := h4 m hh
        have hp' := plan_set h.ok (i := i) hm
        refine ⟨_, rfl, _, rfl, D, _, c.dx, _, _, rfl, h.dk, T.cls "Desk", T.noat "Desk" "plan", dkF_plan, _, rfl, c.pl, _, _, i, rfl, rfl, h.pl, ixN_nat (by rw [ents_len, h.ok.len]; exact hil), ?_⟩
        rw [ents_set]
        refine ⟨_, rfl, D, c, ⟨z.p, z.l.set i m⟩, rfl, h.setPlan hp', fun H' a s n e => ?_⟩
        have na : a ≠ c.pl := fun z => by
          rw [z, upd_same] at n
          cases n
        rw [upd_ne na] at n
        exact q H' c a ((h.setPlan hp').mono s) ⟨rfl, rfl, rfl⟩ (.inl rfl) ((keep_updM (M := [D, c.pl]) (by simp)).trans (Keep.of_same s)) n e
def N_packs : List Str := ["desk", "plan", "pack"]
theorem sc_packs : FnScope N_packs ["desk", "plan"] (defScope s_packs) := ⟨rfl, rfl, rfl, by decide +kernel, rfl, by decide +kernel, by decide +kernel⟩
theorem ok_packs (T : Txt K mg) : Ok P w K mg base 4 "packs" ["desk", "plan"] (spPacks K) := by
  have G_check : Ok P w K mg base 3 "check" ["is_right", "number"] (spCheck K) := ok_check T
  have G_plan_told : Ok P w K mg base 2 "plan_told" ["desk"] (spPlanTold K) := ok_plan_told T
  refine ok_mk T.d_packs sc_packs (fun vs H Q E h => ?_) (fun cdv A outer s H vs Q E hr h => ?_)
  · obtain ⟨D, c, z, a, l, rfl, _⟩ := h
    rfl
  · have hr_check : Room 3 _ := hr
    have hr_plan_told : Room 2 _ := hr.mono (by decide)
    refine ⟨_, (pss_cons (ps_expr (pe_cX G_check hr_check outE (pa_cons (pe_cmpR op_eq (pe_callB call_len (by rfl) (T.free "len") PySem.boot_len (pa_cons (pv 1) pa_nil)) (pe_callB call_len (by rfl) (T.free "len") PySem.boot_len (pa_cons (pe_fld (pe_fld (pv 0) rfl) rfl) pa_nil)) (nomark _)) (pa_cons (pe_gl (T.int "NO_PACK" (-6))) pa_nil)))) (pss_cons (ps_expr (pe_cX G_check hr_check outE (pa_cons (pe_cmpR (op_emp hr.u65) (pe_lc (own := [("pack", 2)]) (g := gName 2) (te := tVar 2) (tt := tNot (tTest (tChain (rI0 fun i j => .bl (decide (i ≤ j))) (rI0 fun i j => .bl (decide (i < j))) (tC (.int 0)) (tVar 2) (tC (.int 4))))) (by rfl) sc_packs.nd (pi_list (pv 1)) (blkOk_by (own := [("pack", 2)]) (N := N_packs) (sc := defScope s_packs) (by decide +kernel)) (by exact fun _ _ _ _ _ => (pg_name (i := 2) sc_packs.nd rfl (Or.inl rfl))) (by exact fun _ _ _ _ _ => pts_one (pt_not (pt_chain op_le op_lt pe_int (pv 2) (pe_gl (T.int "PACKS" 4))))) (by exact fun _ _ _ _ _ => (pv 2))) (pe_lst pa_nil) (nomark _)) (pa_cons (pe_gl (T.int "NO_PACK" (-6))) pa_nil)))) (pss_cons (ps_fld (pv 0) (pe_callTy call_list_of (by rfl) (T.free "list") (by decide +kernel) (pa_cons (pv 1) pa_nil)) rfl) (pss_one (ps_ret (pe_c G_plan_told hr_plan_told (pa_cons (pv 0) pa_nil))))))), ?_⟩
    obtain ⟨D, c, z, a, l, rfl, h, ha, h1, h2⟩ := h
    obtain ⟨dp, lp, x, y, pas, p1, p2, p3, p4⟩ := prog_named (h.pg.mono off_same)
    refine ⟨_, rfl, _, l.length, rfl, .inl ⟨_, SqL.of ha, (List.length_map _).symm⟩, _, rfl, D, _, c.dx, _, _, rfl, h.dk, T.cls "Desk", T.noat "Desk" "program", dkF_program, c.pa, _, dp, _, _, rfl, p1, T.cls "Program", T.noat "Program" "parts", pgF_parts, _, z.p.parts.length, rfl, .inl ⟨_, SqL.of p2, by rw [List.length_map, p4]⟩, rfl, _, -6, rfl, fun e => ?_, fun e => ?_⟩
    · refine h1 (.inl fun z => ?_)
      rw [z] at e
      simp at e
    have el : l.length = z.p.parts.length := by
      have e := of_decide_eq_true e
      injection e with e
      omega
    have h10 := h.rn.p10
    refine ⟨_, rfl, a, rfl, ⟨_, SqL.of ha⟩, fun F hF => ?_⟩
    let f : Int → Bool := fun n => !((index n 4).isSome)
    refine lc_list (K := K) (a := a) (xs := l.map V.int) (fun i H' => Same H (off [F] H') ∧ H' F = some (.lst (((l.take i).filter f).map V.int))) ⟨off1_same hF (same_upd hF), upd_same⟩ (fun i H' _ ⟨g, _⟩ => SqL.of (off_same _ _ (g _ _ ha))) (fun i x H' hx ⟨g, hF2⟩ => ?_) fun H' ⟨g, hF2⟩ => ?_
    · obtain ⟨n, hn, rfl⟩ := map_get hx
      have hi : i < l.length := (List.getElem?_eq_some_iff.mp hn).1
      have ef : (l.take (i + 1)).filter f = (l.take i).filter f ++ if f n = true then [n] else [] := by
        rw [take_more hn, List.filter_append]
        by_cases e : f n = true
        · rw [if_pos e, List.filter_cons_of_pos e]
          rfl
        · rw [if_neg e, List.filter_cons_of_neg e]
          rfl
      refine ⟨rfl, rd_chain2 (lo := 0) (hi := (4 : Nat)) (x := n) (fun Q q => ⟨_, rfl, q⟩) (fun Q q => q) ⟨_, rfl, ?_⟩⟩
      rw [index_dec]
      refine if_both (fun e => ?_) fun e => ?_
      · have e : f n = true := e
        rw [if_pos e] at ef
        refine ⟨_, rfl, _, hF2, ?_, ?_, ?_⟩
        · rw [List.length_map]
          refine Nat.lt_of_le_of_lt (Nat.le_trans (List.length_filter_le _ _) ?_) (show 300 < sizeLine by decide)
          rw [List.length_take]
          omega
        · exact fun b o e => by
            obtain ⟨hb, e⟩ := off_some (g _ _ e)
            exact off_get hb (by rw [upd_ne (by simpa using hb)]; exact e)
        · rw [upd_same, ef, List.map_append]
          rfl
      · have e : ¬ f n = true := by
          intro z
          have : f n = false := e
          rw [this] at z
          cases z
        rw [if_neg e, List.append_nil] at ef
        exact ⟨g, by rw [ef]; exact hF2⟩
    · have et : l.take (l.map V.int).length = l := by
        rw [List.length_map]
        exact List.take_length
      rw [et] at hF2
      have g' := g.trans off_same
      refine ⟨Nat.zero_le _, fun b nb => ?_⟩
      have s3 : Same H' (upd H' b (.lst [])) := same_upd nb
      have sB := g'.trans s3
      have hany : l.any (fun n => (index n 4).isNone) = !(l.filter f).isEmpty := by
        have : ∀ m : List Int, m.any (fun n => (index n 4).isNone) = !(m.filter f).isEmpty := fun m => by
          induction m with
          | nil => rfl
          | cons n r ih =>
            rw [List.any_cons, ih]
            cases hh : index n 4 with
            | none =>
              have : f n = true := by
                show (!((index n 4).isSome)) = true
                rw [hh]
                rfl
              rw [List.filter_cons_of_pos this]
              rfl
            | some j =>
              have : ¬ f n = true := by
                show ¬ (!((index n 4).isSome)) = true
                rw [hh]
                simp
              rw [List.filter_cons_of_neg this]
              rfl
        exact this l
      refine emp_zs (s3 _ _ hF2) upd_same ⟨_, -6, rfl, fun e => ?_, fun e => ?_⟩
      · exact (h1 (.inr (by rw [hany, e]; rfl))).mono sB
      · have hb : ¬ badPlan z.p l := by
          rintro (hb | hb)
          · exact hb el
          · rw [hany, e] at hb
            cases hb
        have q := h2 hb
        have hok : PlanOk z.p (l.map fun n => n.toNat) := by
          refine ⟨by rw [List.length_map]; exact el, fun x hx => ?_⟩
          obtain ⟨n, hn, rfl⟩ := List.mem_map.mp hx
          cases hh : index n 4 with
          | none =>
            refine absurd (Or.inr ?_) hb
            rw [List.any_eq_true]
            exact ⟨n, hn, by rw [hh]; rfl⟩
          | some j =>
            obtain ⟨rfl, hj⟩ := index_some hh
            exact hj
        have hv : l.map V.int = ents (l.map fun n => n.toNat) := by
          unfold ents
          rw [List.map_map]
          refine List.map_congr_left fun n hn => ?_
          cases hh : index n 4 with
          | none =>
            refine absurd (Or.inr ?_) hb
            rw [List.any_eq_true]
            exact ⟨n, hn, by rw [hh]; rfl⟩
          | some j =>
            obtain ⟨rfl, hj⟩ := index_some hh
            rfl
        refine ⟨_, rfl, a, _, rfl, .inl (SqL.of (sB _ _ ha)), fun pl npl => ?_⟩
        have s4 : Same H (upd (upd H' b (.lst [])) pl (.lst (l.map V.int))) := sB.trans (same_upd npl)
        have npl0 : H pl = none := sB.free npl
        have nD : D ≠ pl := ne_of_none h.dk npl0
        refine ⟨_, rfl, D, _, c.dx, _, rfl, s4 _ _ h.dk, T.cls "Desk", T.noat "Desk" "plan", (by show 3 < 1000; decide), ?_⟩
        rw [dkF_putL]
        have hpl : (upd (upd H' b (.lst [])) pl (.lst (l.map V.int))) pl = some (.lst (ents (l.map fun n => n.toNat))) := by rw [upd_same, hv]
        revert s4 hpl
        generalize upd (upd H' b (.lst [])) pl (.lst (l.map V.int)) = H4
        intro s4 hpl
        have so : Same (off [D, c.pl] H) (off [D, pl] (upd H4 D (.ins (He.ga K "Desk") c.dx (dkF (.ref c.pa) (.ref c.rl) (.ref pl))))) := fun b o e => by
          obtain ⟨hb, e⟩ := off_some e
          have b1 : b ≠ D := fun z => hb (by rw [z]; simp)
          exact off_get (kp2 b1 (ne_of_none e npl0)) (by rw [upd_ne b1]; exact s4 _ _ e)
        have h' : DeskAt K D (upd H4 D (.ins (He.ga K "Desk") c.dx (dkF (.ref c.pa) (.ref c.rl) (.ref pl)))) ⟨c.dx, c.pa, c.rl, pl, c.rs⟩ ⟨z.p, l.map fun n => n.toNat⟩ := ⟨upd_same, h.pg.mono so, h.rn.mono so, (upd_ne nD.symm).trans hpl, hok⟩
        refine ⟨_, rfl, D, _, _, rfl, h', fun H5 a5 s5 n5 e5 => ?_⟩
        have nd5 : a5 ≠ D := fun z => by
          rw [z, upd_same] at n5
          cases n5
        rw [upd_ne nd5] at n5
        refine q H5 ⟨c.dx, c.pa, c.rl, pl, c.rs⟩ a5 (h'.mono s5) ⟨rfl, rfl, rfl⟩ (.inr npl0) (fun b o hb e => s5 _ _ ?_) (s4.free n5) e5
        rw [upd_ne (fun z => hb (by rw [z]; simp))]
        exact s4 _ _ e
def N_run_told : List Str := ["desk", "entry", "assignment", "many"]
theorem sc_run_told : FnScope N_run_told ["desk", "entry", "assignment"] (defScope s_run_told) := ⟨rfl, rfl, rfl, by decide +kernel, rfl, by decide +kernel, by decide +kernel⟩
theorem ok_run_told (T : Txt K mg) : Ok P w K mg base 4 "run_told" ["desk", "entry", "assignment"] (spRunTold K) := by
  have G_check : Ok P w K mg base 3 "check" ["is_right", "number"] (spCheck K) := ok_check T
  have G_assignment_count : Ok P w K mg base 1 "assignment_count" ["program"] (spACount K) := ok_assignment_count T
  refine ok_mk T.d_run_told sc_run_told (fun vs H Q E h => ?_) (fun cdv A outer s H vs Q E hr h => ?_)
  · obtain ⟨D, c, z, e, a, rfl, _⟩ := h
    rfl
  · have hr_check : Room 3 _ := hr
    have hr_assignment_count : Room 1 _ := hr.mono (by decide)
    refine ⟨_, (pss_cons (ps_set (i := 3) sc_run_told.nd rfl (Or.inl rfl) (pe_c G_assignment_count hr_assignment_count (pa_cons (pe_fld (pv 0) rfl) pa_nil))) (pss_cons (ps_expr (pe_cX G_check hr_check outE (pa_cons (pe_chain op_le op_lt pe_int (pv 1) (pe_callB call_len (by rfl) (T.free "len") PySem.boot_len (pa_cons (pe_fld (pe_fld (pv 0) rfl) rfl) pa_nil))) (pa_cons (pe_gl (T.int "NO_ENTRY" (-2))) pa_nil)))) (pss_cons (ps_expr (pe_cX G_check hr_check outE (pa_cons (pe_chain op_le op_lt pe_int (pv 2) (pv 3)) (pa_cons (pe_gl (T.int "NO_ASSIGNMENT" (-3))) pa_nil)))) (pss_one (ps_ret (pe_ix ix_list (pe_fld (pv 0) rfl) (pe_op op_add (pe_op op_mul (pv 3) (pv 1)) (pv 2)) (fun _ _ => rfl))))))), ?_⟩
    obtain ⟨D, c, z, e, a, rfl, h, h1, h2⟩ := h
    have hpg := h.pg.mono off_same
    obtain ⟨dp, le, x, y, p1, p2, p3⟩ := prog_entries hpg
    refine ⟨_, rfl, D, _, c.dx, _, _, rfl, h.dk, T.cls "Desk", T.noat "Desk" "program", dkF_program, c.pa, z.p, rfl, hpg, ?_⟩
    dsimp only [gName]
    refine rd_chain2 (lo := 0) (hi := (z.p.starts.length : Nat)) (x := e) (fun Q q => ⟨_, rfl, q⟩) (fun Q q => ⟨_, rfl, D, _, c.dx, _, _, rfl, h.dk, T.cls "Desk", T.noat "Desk" "program", dkF_program, c.pa, _, dp, _, _, rfl, p1, T.cls "Program", T.noat "Program" "entries", pgF_entries, _, z.p.starts.length, rfl, .inl ⟨_, SqL.of p2, ents_len.symm⟩, q⟩) ?_
    refine ⟨_, -2, rfl, fun e => h1 ?_, fun e => ?_⟩
    · rw [index_dec] at e
      cases hh : index _ z.p.starts.length with
      | none => rfl
      | some i =>
        rw [hh] at e
        cases e
    · rw [index_dec] at e
      cases hh : index _ z.p.starts.length with
      | none =>
        rw [hh] at e
        cases e
      | some i =>
        obtain ⟨rfl, hi⟩ := index_some hh
        obtain ⟨h3, h4⟩ := h2 i _ hh (List.getElem?_eq_getElem hi)
        dsimp only [gName]
        refine rd_chain2 (lo := 0) (hi := (total z.p : Nat)) (x := a) (fun Q q => ⟨_, rfl, q⟩) (fun Q q => ⟨_, rfl, q⟩) ?_
        refine ⟨_, -3, rfl, fun e => h3 ?_, fun e => ?_⟩
        · rw [index_dec] at e
          cases hh : index a (total z.p) with
          | none => rfl
          | some i =>
            rw [hh] at e
            cases e
        · rw [index_dec] at e
          cases hh2 : index a (total z.p) with
          | none =>
            rw [hh2] at e
            cases e
          | some n =>
            obtain ⟨rfl, hn⟩ := index_some hh2
            have hog := orders_get (List.getElem?_eq_getElem hi) hn
            obtain ⟨r, hr2, hro⟩ := Paired_get h.rn.rn hog
            have h4e := h.pg.e4
            have ht := total_le h.pg.so h.pg.s3
            exact ⟨_, rfl, D, _, c.dx, _, _, rfl, h.dk, T.cls "Desk", T.noat "Desk" "runs", dkF_runs, _, rfl, _, rfl, _, _, rfl, rfl, .inr ⟨by omega, by omega⟩, _, rfl, _, _, rfl, rfl, c.rl, _, _, _, rfl, rfl, SqL.of (off_same _ _ h.rn.ls), atI_nat (j := total z.p * i + n) (by rw [List.getElem?_map, hr2]; rfl), h4 n hh2 r hro⟩
end
end PP

set_option Elab.async false
set_option linter.all false
set_option maxRecDepth 100000
set_option maxHeartbeats 4000000
namespace PP
open PySem PySem.Spec PyProof.Rows L2
open VakepBase (Bytes Fault index)
open Vakepa (Prog total counts unionOf reached entryNo)
open Vakepe (Order orders packOf packSize sizesOf loadsOf runCost PACKS totalBy bestPacks beforeOf Held worst)
/-! ### plain: the dearest run -/
def wstep (f : Order → Nat) (b : Option (Nat × Order)) (o : Order) : Option (Nat × Order) := match b with
  | none => some (f o, o)
  | some x => if x.1 < f o then some (f o, o) else some x
theorem worst_eq (p : Prog) (os : List Order) (w : Nat) (l : List Nat) : worst p os w l = os.foldl (wstep (runCost (sizesOf p l) w l)) none := rfl
theorem worst_up (f : Order → Nat) (os : List Order) : ∀ i, i < os.length → ∃ (j : Nat) (o : Order), os[j]? = some o ∧ (os.take (i + 1)).foldl (wstep f) none = some (f o, o) ∧ j ≤ i ∧ (∀ (m : Nat) (o' : Order), m < j → os[m]? = some o' → f o' < f o) ∧ ∀ (m : Nat) (o' : Order), m ≤ i → os[m]? = some o' → f o' ≤ f o
  | 0, hi => by
    have h0 : os[0]? = some os[0] := List.getElem?_eq_getElem hi
    refine ⟨0, os[0], h0, ?_, Nat.le_refl _, fun m o' hm => absurd hm (Nat.not_lt_zero _), fun m o' hm h => ?_⟩
    · rw [take_more h0]
      rfl
    · have : m = 0 := by omega
      subst this
      rw [h0] at h
      cases h
      exact Nat.le_refl _
  | i + 1, hi => by
    obtain ⟨j, o, h1, h2, h3, h4, h5⟩ := worst_up f os i (by omega)
    have hn : os[i + 1]? = some os[i + 1] := List.getElem?_eq_getElem hi
    rw [take_more hn, List.foldl_append, h2]
    by_cases e : f o < f os[i + 1]
    · refine ⟨i + 1, os[i + 1], hn, ?_, Nat.le_refl _, fun m o' hm h => ?_, fun m o' hm h => ?_⟩
      · show (if f o < f os[i + 1] then some (f os[i + 1], os[i + 1]) else some (f o, o)) = _
        rw [if_pos e]
      · exact Nat.lt_of_le_of_lt (h5 m o' (by omega) h) e
      · rcases Nat.lt_or_eq_of_le hm with hm | hm
        · exact Nat.le_of_lt (Nat.lt_of_le_of_lt (h5 m o' (by omega) h) e)
        · subst hm
          rw [hn] at h
          cases h
          exact Nat.le_refl _
    · refine ⟨j, o, h1, ?_, by omega, h4, fun m o' hm h => ?_⟩
      · show (if f o < f os[i + 1] then some (f os[i + 1], os[i + 1]) else some (f o, o)) = _
        rw [if_neg e]
      · rcases Nat.lt_or_eq_of_le hm with hm | hm
        · exact h5 m o' (by omega) h
        · subst hm
          rw [hn] at h
          cases h
          omega
theorem worst_at (f : Order → Nat) {os : List Order} (h : os ≠ []) : ∃ (j : Nat) (o : Order), os[j]? = some o ∧ os.foldl (wstep f) none = some (f o, o) ∧ (∀ (m : Nat) (o' : Order), m < j → os[m]? = some o' → f o' < f o) ∧ ∀ o' ∈ os, f o' ≤ f o := by
  have hl : 0 < os.length := List.length_pos_iff.mpr h
  obtain ⟨j, o, h1, h2, _, h4, h5⟩ := worst_up f os (os.length - 1) (by omega)
  rw [List.take_of_length_le (by omega)] at h2
  refine ⟨j, o, h1, h2, h4, fun o' ho => ?_⟩
  obtain ⟨m, hm⟩ := List.getElem?_of_mem ho
  have := (List.getElem?_eq_some_iff.mp hm).1
  exact h5 m o' (by omega) hm
theorem foldl_pos : ∀ (l : List Nat) (x : Nat), 1 ≤ x → (∀ c ∈ l, 1 ≤ c) → 1 ≤ l.foldl (fun x y => x * y) x
  | [], x, h, _ => h
  | c :: r, x, h, hc => foldl_pos r (x * c) (Nat.mul_pos h (hc c List.mem_cons_self)) (fun d hd => hc d (List.mem_cons_of_mem _ hd))
theorem total_pos {p : Prog} (so : ∀ s ∈ p.sets, SetOk s) : 1 ≤ total p := foldl_pos _ 1 (Nat.le_refl _) fun c hc => by
  obtain ⟨s, hs, rfl⟩ := List.mem_map.mp hc
  exact (so s hs).2.1
theorem orders_ne {p : Prog} (so : ∀ s ∈ p.sets, SetOk s) (en : p.starts ≠ []) : orders p ≠ [] := by
  have h1 := total_pos so
  have h2 : 0 < p.starts.length := List.length_pos_iff.mpr en
  have h3 := orders_len p
  have h4 : 0 < p.starts.length * total p := Nat.mul_pos h2 h1
  exact List.length_pos_iff.mp (by omega)
theorem entryNo_at {p : Prog} (hn : p.starts.Nodup) {i e : Nat} (h : p.starts[i]? = some e) : entryNo p e = i := by
  have hi := (List.getElem?_eq_some_iff.mp h).1
  have he := (List.getElem?_eq_some_iff.mp h).2
  have hx : p.starts.findIdx (fun x => x == e) < p.starts.length := List.findIdx_lt_length_of_exists ⟨e, List.mem_of_getElem? h, beq_self_eq_true e⟩
  have h2 : (p.starts[p.starts.findIdx (fun x => x == e)] == e) = true := List.findIdx_getElem (w := hx)
  have h2 := beq_iff_eq.mp h2
  have h3 := (List.pairwise_iff_getElem.mp hn)
  unfold entryNo
  rcases Nat.lt_trichotomy (p.starts.findIdx (fun x => x == e)) i with g | g | g
  · exact absurd (h2.trans he.symm) (h3 _ _ hx hi g)
  · exact g
  · exact absurd (he.trans h2.symm) (h3 _ _ hi hx g)
def worstRow (z : Held) (c : Nat) : List Int := match worst z.p (orders z.p) c z.l with
  | none => []
  | some x => nats [x.1, entryNo z.p x.2.e, x.2.a]
def costRow (z : Held) (c : Nat) : List Int := ((totalBy z.p (orders z.p) c z.l : Nat) : Int) :: (nats [(orders z.p).length, packSize z.p z.l 0] ++ worstRow z c)
def spCost (K : PySem.W.Frag) : Sp := fun vs H Q E => ∃ (D : Addr) (c : Dk) (z : Held) (x : Int), vs = [.ref D, .int x] ∧ DeskAt K D H c z ∧ (¬ (0 ≤ x ∧ x ≤ 1000) → RefE K H E (-5)) ∧ (0 ≤ x ∧ x ≤ 1000 → RowQ H Q (costRow z x.toNat))
section
variable {P : Program} {w : World} {K : PySem.W.Frag} {mg : Str → Option Value} {base : Heap}
def N_cost : List Str := ["desk", "more", "sizes", "costs", "dearest", "found", "run"]
theorem sc_cost : FnScope N_cost ["desk", "more"] (defScope s_cost) := ⟨rfl, rfl, rfl, by decide +kernel, rfl, by decide +kernel, by decide +kernel⟩
theorem ok_cost (T : Txt K mg) : Ok P w K mg base 5 "cost" ["desk", "more"] (spCost K) := by
  have G_check_cost : Ok P w K mg base 4 "check_cost" ["number"] (spCheckCost K) := ok_check_cost T
  have G_sizes_of : Ok P w K mg base 1 "sizes_of" ["program", "plan"] (spSizesOf K) := ok_sizes_of T
  have G_cost_of : Ok P w K mg base 2 "cost_of" ["run", "plan", "sizes", "more"] (spCostOf K) := ok_cost_of T
  refine ok_mk T.d_cost sc_cost (fun vs H Q E h => ?_) (fun cdv A outer s H vs Q E hr h => ?_)
  · obtain ⟨D, c, z, x, rfl, _⟩ := h
    rfl
  · have hr_check_cost : Room 4 _ := hr
    have hr_sizes_of : Room 1 _ := hr.mono (by decide)
    have hr_cost_of : Room 2 _ := hr.mono (by decide)
    refine ⟨_, (pss_cons (ps_expr (pe_cX G_check_cost hr_check_cost outE (pa_cons (pv 1) pa_nil))) (pss_cons (ps_set (i := 2) sc_cost.nd rfl (Or.inr rfl) (pe_c G_sizes_of hr_sizes_of (pa_cons (pe_fld (pv 0) rfl) (pa_cons (pe_fld (pv 0) rfl) pa_nil)))) (pss_cons (ps_setLc (i := 3) (own := [("run", 6)]) (g := gName 6) (te := tCall (spCostOf K) [] E0 (tCons (tVar 6) (tCons (tFld K (tVar 0) "plan") (tCons (tVar 2) (tCons (tVar 1) tNil))))) (by rfl) sc_cost.nd rfl rfl (sw_true rfl rfl rfl (by decide +kernel)) (pi_list (pe_fld (pv 0) rfl)) (blkOk_by (own := [("run", 6)]) (N := N_cost) (sc := defScope s_cost) (by decide +kernel)) (by exact fun _ _ _ _ _ => (pg_name (i := 6) sc_cost.nd rfl (Or.inl rfl))) (fun _ _ _ _ _ => pts_nil) (by exact fun _ _ _ _ _ => (pe_c G_cost_of hr_cost_of (pa_cons (pv 6) (pa_cons (pe_fld (pv 0) rfl) (pa_cons (pv 2) (pa_cons (pv 1) pa_nil))))))) (pss_cons (ps_set (i := 4) sc_cost.nd rfl (Or.inl rfl) (pe_ix ix_list (pe_fld (pv 0) rfl) (pe_bm PySem.F.plainAttrs_list PySem.F.slot_list_index PySem.F.type_list_index mt_index (pv 3) (pa_cons (pe_callB (cr_max rfl) (by rfl) (T.free "max") (by decide +kernel) (pa_cons (pv 3) pa_nil)) pa_nil)) (fun _ _ => rfl))) (pss_cons (ps_set (i := 5) sc_cost.nd rfl (Or.inl rfl) (pe_lst (pa_cons (pe_callB (cr_sum rfl) (by rfl) (T.free "sum") (by decide +kernel) (pa_cons (pv 3) pa_nil)) (pa_cons (pe_callB call_len (by rfl) (T.free "len") PySem.boot_len (pa_cons (pv 3) pa_nil)) (pa_cons (pe_ix ix_list (pv 2) pe_int (fun _ _ => rfl)) (pa_cons (pe_callB (cr_max rfl) (by rfl) (T.free "max") (by decide +kernel) (pa_cons (pv 3) pa_nil)) pa_nil)))))) (pss_one (ps_ret (pe_op op_cat (pv 5) (pe_lst (pa_cons (pe_fld (pv 4) rfl) (pa_cons (pe_fld (pv 4) rfl) pa_nil))))))))))), ?_⟩
    obtain ⟨D, c, z, x, rfl, h, h1, h2⟩ := h
    refine ⟨_, rfl, x, rfl, h1, fun hx => ?_⟩
    have q := h2 hx
    obtain ⟨n, rfl⟩ : ∃ n : Nat, x = (n : Int) := ⟨x.toNat, by omega⟩
    have en : ((n : Int)).toNat = n := rfl
    rw [en] at q
    have hpg := h.pg.mono off_same
    have hrn := h.rn.mono off_same
    refine ⟨_, rfl, D, _, c.dx, _, _, rfl, h.dk, T.cls "Desk", T.noat "Desk" "program", dkF_program, _, rfl, D, _, c.dx, _, _, rfl, h.dk, T.cls "Desk", T.noat "Desk" "plan", dkF_plan, c.pa, z.p, c.pl, z.l, rfl, hpg, h.pl, h.ok.len, h.ok.lt, fun H1 sl s1 nsl hsl => ?_⟩
    have d1 := h.mono s1
    have r1 := hrn.mono s1
    refine ⟨_, rfl, D, _, c.dx, _, _, rfl, d1.dk, T.cls "Desk", T.noat "Desk" "runs", dkF_runs, c.rl, rfl, ⟨_, SqL.of r1.ls⟩, fun F hF => ?_⟩
    let f : Order → Nat := runCost (sizesOf z.p z.l) n z.l
    let cs : List Nat := (orders z.p).map f
    refine lc_list (K := K) (a := c.rl) (xs := c.rs.map V.ref) (fun i H' => Same H1 (off [F] H') ∧ H' F = some (.lst (ents (cs.take i)))) ⟨off1_same hF (same_upd hF), upd_same⟩ (fun i H' _ ⟨g, _⟩ => SqL.of (off_same _ _ (g _ _ r1.ls))) (fun i x H' hx ⟨g, hF2⟩ => ?_) fun H' ⟨g, hF2⟩ => ?_
    · obtain ⟨r, hr2, rfl⟩ := map_get hx
      obtain ⟨o, ho, hro⟩ := pget r1.rn hr2
      have hc : cs[i]? = some (f o) := by
        show (List.map _ _)[i]? = _
        rw [List.getElem?_map, ho]
        rfl
      have hi : i < c.rs.length := (List.getElem?_eq_some_iff.mp hr2).1
      have hle := r1.le
      have g' := g.trans off_same
      have d2 := d1.mono g'
      refine ⟨rfl, _, rfl, _, rfl, D, _, c.dx, _, _, rfl, d2.dk, T.cls "Desk", T.noat "Desk" "plan", dkF_plan, _, rfl, _, rfl, r, c.pl, sl, z.p, o, z.l, sizesOf z.p z.l, n, rfl, hro.mono g', r1.p10, d2.pl, h.ok, g' _ _ hsl, rfl, fun H2 s2 => ⟨_, s2 _ _ hF2, ?_, ?_, ?_⟩⟩
      · rw [ents_len, List.length_take]
        exact Nat.lt_of_le_of_lt (Nat.min_le_left _ _) (Nat.lt_of_lt_of_le (show i < 1000 by omega) (by decide))
      · exact fun b o e => by
          obtain ⟨hb, e⟩ := off_some (g _ _ e)
          exact off_get hb (by rw [upd_ne (by simpa using hb)]; exact s2 _ _ e)
      · rw [upd_same, take_more hc, ← ents_app]
    · have et : cs.take (c.rs.map V.ref).length = cs := by
        rw [List.length_map, plen r1.rn]
        exact List.take_of_length_le (by show (List.map _ _).length ≤ _; rw [List.length_map]; exact Nat.le_refl _)
      rw [et] at hF2
      have g' := g.trans off_same
      have d2 := d1.mono g'
      have r2 := r1.mono g'
      obtain ⟨j, o, j1, j2, j3, j4⟩ := worst_at f (orders_ne h.pg.so h.pg.en)
      have jc : cs[j]? = some (f o) := by
        show (List.map _ _)[j]? = _
        rw [List.getElem?_map, j1]
        rfl
      have hcl : 0 < cs.length := Nat.lt_of_le_of_lt (Nat.zero_le j) (List.getElem?_eq_some_iff.mp jc).1
      have mx : ∀ m : Int, m ∈ nats cs → (∀ y, y ∈ nats cs → y ≤ m) → m = ((f o : Nat) : Int) := fun m hm hy => by
        obtain ⟨k, hk, rfl⟩ := List.mem_map.mp hm
        obtain ⟨o', ho', rfl⟩ := List.mem_map.mp hk
        have h1 := j4 o' ho'
        have h2 := hy ((f o : Nat) : Int) (List.mem_map.mpr ⟨f o, List.mem_of_getElem? jc, rfl⟩)
        omega
      have hsq : SqL K H' F ((nats cs).map V.int) := SqL.of (by rw [nats_v]; exact hF2)
      obtain ⟨r, hr2, hro⟩ := Paired_get r2.rn j1
      obtain ⟨i0, el, hi0, ⟨dxr, x1, x2, x3, x4, hr3, hr4⟩, _, _⟩ := hro
      have ee := entryNo_at h.pg.sn hi0
      refine ⟨_, rfl, D, _, c.dx, _, _, rfl, d2.dk, T.cls "Desk", T.noat "Desk" "runs", dkF_runs, _, rfl, .inl ⟨rfl, _, SqL.of hF2⟩, _, rfl, F, nats cs, rfl, hsq, by unfold nats; rw [List.length_map]; exact hcl, fun m hm hy => ?_⟩
      obtain rfl := mx m hm hy
      refine ⟨F, ents cs, _, j, .int (f o : Nat), rfl, rfl, SqL.of hF2, rfl, flat_ents, by show (List.map _ _)[j]? = _; rw [List.getElem?_map, jc]; rfl, by show ((f o : Int) == (f o : Int)) = true; exact beq_self_eq_true _, fun m z' hm hz => ?_, ?_⟩
      · obtain ⟨k, hk, rfl⟩ := map_get hz
        have hk2 : ((orders z.p).map f)[m]? = some k := hk
        rw [List.getElem?_map, Option.map_eq_some_iff] at hk2
        obtain ⟨o', ho', rfl⟩ := hk2
        have := j3 m o' hm ho'
        show ((f o' : Int) == (f o : Int)) = false
        have : ((f o' : Nat) : Int) ≠ ((f o : Nat) : Int) := by omega
        simpa using this
      refine ⟨c.rl, _, _, _, rfl, rfl, SqL.of r2.ls, atI_nat (j := j) (by rw [List.getElem?_map, hr2]; rfl), ?_⟩
      refine ⟨_, rfl, F, nats cs, rfl, hsq, _, rfl, _, cs.length, rfl, .inl ⟨_, SqL.of hF2, ents_len.symm⟩, _, rfl, sl, _, 0, _, rfl, rfl, SqL.of (g' _ _ hsl), rfl, _, rfl, F, nats cs, rfl, hsq, by unfold nats; rw [List.length_map]; exact hcl, fun m hm hy => ?_⟩
      obtain rfl := mx m hm hy
      refine ⟨by show 4 ≤ sizeLine; decide, fun fo nfo => ?_⟩
      have s5 : Same H' (upd H' fo (.lst [.int (nats cs).sum, .int (cs.length : Nat), .int (upto z.p z.l z.p.parts.length 0 : Nat), .int (f o : Nat)])) := same_upd nfo
      refine ⟨_, rfl, _, rfl, r, _, dxr, _, _, rfl, s5 _ _ hr3, T.cls "Run", T.noat "Run" "entry", runF_entry, _, rfl, r, _, dxr, _, _, rfl, s5 _ _ hr3, T.cls "Run", T.noat "Run" "assignment", runF_assignment, by show 2 ≤ sizeLine; decide, fun g2 ng2 => ?_⟩
      have s6 := s5.trans (same_upd (o := .lst [.int (i0 : Nat), .int (o.a : Nat)]) ng2)
      refine ⟨fo, g2, _, _, rfl, rfl, same_upd ng2 _ _ upd_same, upd_same, by show 4 + 2 ≤ sizeLine; decide, fun ad nad => ?_⟩
      have sA : Same H H' := s1.trans g'
      refine q _ ad ((sA.trans s6).trans (same_upd nad)) ((sA.trans s6).free nad) ?_
      rw [upd_same]
      have ew : worstRow z n = nats [f o, i0, o.a] := by
        unfold worstRow
        rw [worst_eq, show (orders z.p).foldl (wstep (runCost (sizesOf z.p z.l) n z.l)) none = some (f o, o) from j2]
        show nats [f o, entryNo z.p o.e, o.a] = _
        rw [ee]
      unfold costRow
      rw [ew]
      have esum : (nats cs).sum = ((totalBy z.p (orders z.p) n z.l : Nat) : Int) := sum_cast cs
      rw [esum]
      have elen : cs.length = (orders z.p).length := List.length_map _
      rw [elen]
      rfl
end
end PP

set_option Elab.async false
set_option linter.all false
set_option maxRecDepth 100000
set_option maxHeartbeats 4000000
namespace PP
open PySem PySem.Spec PyProof.Rows L2
open VakepBase (Bytes Fault index)
open Vakepa (Prog total counts unionOf reached entryNo)
open Vakepe (Order orders packOf packSize sizesOf loadBy loadsOf runCost PACKS totalBy bestPacks beforeOf Held worst tooMuch MANY REACHED)
def loadsRow (l : List (Nat × Nat)) : List Int := (l.length : Int) :: l.flatMap fun x => nats [x.1, x.2]
theorem loadBy_not (l : List Nat) : ∀ (es there : List Nat), ∀ x ∈ loadBy l there es, x.2 ∉ there
  | [], _, x, h => by cases h
  | k :: r, there, x, h => by
    rw [loadBy_cons] at h
    split at h
    · exact loadBy_not l r there x h
    · rename_i e
      rcases List.mem_cons.mp h with rfl | h
      · exact fun z => e (List.contains_iff_mem.mpr z)
      · exact fun z => loadBy_not l r _ x h (List.mem_append_left _ z)
def spRunCost (K : PySem.W.Frag) : Sp := fun vs H Q E => ∃ (D : Addr) (c : Dk) (z : Held) (e a : Int), vs = [.ref D, .int e, .int a] ∧ DeskAt K D H c z ∧ (index e z.p.starts.length = none → RefE K H E (-2)) ∧
  ∀ i k, index e z.p.starts.length = some i → z.p.starts[i]? = some k → (index a (total z.p) = none → RefE K H E (-3)) ∧ ∀ n, index a (total z.p) = some n →
  RowQ H Q (((runCost (sizesOf z.p z.l) 0 z.l ⟨k, n, entOf z.p k n⟩ : Nat) : Int) :: loadsRow (loadsOf z.l ⟨k, n, entOf z.p k n⟩))
def spBeforeD (K : PySem.W.Frag) : Sp := fun vs H Q E => ∃ (D : Addr) (c : Dk) (z : Held) (k : Int), vs = [.ref D, .int k] ∧ DeskAt K D H c z ∧ (index k z.p.parts.length = none → RefE K H E (-4)) ∧
  ∀ i, index k z.p.parts.length = some i → RowQ H Q (((beforeOf z.p i).1 : Int) :: (((beforeOf z.p i).2.length : Nat) : Int) :: nats (beforeOf z.p i).2)
def spBest (K : PySem.W.Frag) : Sp := fun vs H Q E => ∃ (D : Addr) (c : Dk) (z : Held) (x y : Int), vs = [.ref D, .int x, .int y] ∧ DeskAt K D H c z ∧ (¬ (0 ≤ x ∧ x ≤ 1000) → RefE K H E (-5)) ∧ (0 ≤ x ∧ x ≤ 1000 →
  (¬ (0 ≤ y ∧ y ≤ 1000) → RefE K H E (-5)) ∧ (0 ≤ y ∧ y ≤ 1000 → (tooMuch z.p = true → RefE K H E (-7)) ∧ (tooMuch z.p = false → ∀ b l, bestPacks z.p x.toNat y.toNat = some (b, l) → RowQ H Q ((b : Int) :: nats l))))
def thereRow (z : Held) (o : Order) (i : Nat) : List Int := [(if packOf z.l i = 0 ∨ (loadsOf z.l o).any (fun x => x.2 == packOf z.l i) = true then 1 else 0 : Int), match (loadsOf z.l o).findIdx? fun x => x.2 == packOf z.l i with
  | none => -1
  | some j => (j : Int)]
def spThere (K : PySem.W.Frag) : Sp := fun vs H Q E => ∃ (D : Addr) (c : Dk) (z : Held) (e a k : Int), vs = [.ref D, .int e, .int a, .int k] ∧ DeskAt K D H c z ∧ (index e z.p.starts.length = none → RefE K H E (-2)) ∧
  ∀ i m, index e z.p.starts.length = some i → z.p.starts[i]? = some m → (index a (total z.p) = none → RefE K H E (-3)) ∧ ∀ n, index a (total z.p) = some n → (index k z.p.parts.length = none → RefE K H E (-4)) ∧
  ∀ j, index k z.p.parts.length = some j → RowQ H Q (thereRow z ⟨m, n, entOf z.p m n⟩ j)
section
variable {P : Program} {w : World} {K : PySem.W.Frag} {mg : Str → Option Value} {base : Heap}
def N_run_cost : List Str := ["desk", "entry", "assignment", "run", "loads", "found", "own"]
theorem sc_run_cost : FnScope N_run_cost ["desk", "entry", "assignment"] (defScope s_run_cost) := ⟨rfl, rfl, rfl, by decide +kernel, rfl, by decide +kernel, by decide +kernel⟩
theorem ok_run_cost (T : Txt K mg) : Ok P w K mg base 5 "run_cost" ["desk", "entry", "assignment"] (spRunCost K) := by
  have G_run_told : Ok P w K mg base 4 "run_told" ["desk", "entry", "assignment"] (spRunTold K) := ok_run_told T
  have G_loads_of : Ok P w K mg base 1 "loads_of" ["run", "plan"] (spLoadsOf K) := ok_loads_of T
  have G_sizes_of : Ok P w K mg base 1 "sizes_of" ["program", "plan"] (spSizesOf K) := ok_sizes_of T
  have G_cost_of : Ok P w K mg base 2 "cost_of" ["run", "plan", "sizes", "more"] (spCostOf K) := ok_cost_of T
  refine ok_mk T.d_run_cost sc_run_cost (fun vs H Q E h => ?_) (fun cdv A outer s H vs Q E hr h => ?_)
  · obtain ⟨D, c, z, e, a, rfl, _⟩ := h
    rfl
  · have hr_run_told : Room 4 _ := hr
    have hr_loads_of : Room 1 _ := hr.mono (by decide)
    have hr_sizes_of : Room 1 _ := hr.mono (by decide)
    have hr_cost_of : Room 2 _ := hr.mono (by decide)
    refine ⟨_, (pss_cons (ps_set (i := 3) sc_run_cost.nd rfl (Or.inl rfl) (pe_cX G_run_told hr_run_told outE (pa_cons (pv 0) (pa_cons (pv 1) (pa_cons (pv 2) pa_nil))))) (pss_cons (ps_set (i := 4) sc_run_cost.nd rfl (Or.inl rfl) (pe_c G_loads_of hr_loads_of (pa_cons (pv 3) (pa_cons (pe_fld (pv 0) rfl) pa_nil)))) (pss_cons (ps_set (i := 5) sc_run_cost.nd rfl (Or.inl rfl) (pe_lst (pa_cons (pe_c G_cost_of hr_cost_of (pa_cons (pv 3) (pa_cons (pe_fld (pv 0) rfl) (pa_cons (pe_c G_sizes_of hr_sizes_of (pa_cons (pe_fld (pv 0) rfl) (pa_cons (pe_fld (pv 0) rfl) pa_nil))) (pa_cons pe_int pa_nil))))) (pa_cons (pe_callB call_len (by rfl) (T.free "len") PySem.boot_len (pa_cons (pv 4) pa_nil)) pa_nil)))) (pss_cons (ps_for (passes_of rfl) rfl (pi_list (pv 4)) (pg_name (i := 6) sc_run_cost.nd rfl (Or.inl rfl)) (pss_one (ps_expr (pe_bm PySem.F.plainAttrs_list PySem.F.slot_list_extend PySem.F.type_list_extend mt_extend (pv 5) (pa_cons (pe_callTy call_list_of (by rfl) (T.free "list") (by decide +kernel) (pa_cons (pv 6) pa_nil)) pa_nil))))) (pss_one (ps_ret (pv 5))))))), ?_⟩
    obtain ⟨D, c, z, e, a, rfl, h, h1, h2⟩ := h
    refine ⟨_, rfl, _, rfl, _, rfl, D, c, z, e, a, rfl, h, h1, fun i k hi hk => ⟨(h2 i k hi hk).1, fun n hn r hro0 => ?_⟩⟩
    have q := (h2 i k hi hk).2 n hn
    have hro := hro0.mono off_same
    have hpg := h.pg.mono off_same
    have hrn := h.rn.mono off_same
    obtain ⟨o, ho⟩ : ∃ o : Order, o = ⟨k, n, entOf z.p k n⟩ := ⟨_, rfl⟩
    rw [← ho] at q hro
    have ho10 := hro.len hrn.p10
    have hll : (loadsOf z.l o).length ≤ 10 := Nat.le_trans (loadBy_len z.l o.l [0]) ho10
    refine ⟨_, rfl, _, rfl, D, _, c.dx, _, _, rfl, h.dk, T.cls "Desk", T.noat "Desk" "plan", dkF_plan, r, c.pl, z.p, o, z.l, rfl, hro, hrn.p10, h.pl, h.ok.len, fun H1 ll ts s1 nll hll2 hts => ?_⟩
    have d1 := h.mono s1
    refine ⟨_, rfl, _, rfl, D, _, c.dx, _, _, rfl, d1.dk, T.cls "Desk", T.noat "Desk" "plan", dkF_plan, _, rfl, D, _, c.dx, _, _, rfl, d1.dk, T.cls "Desk", T.noat "Desk" "program", dkF_program, _, rfl, D, _, c.dx, _, _, rfl, d1.dk, T.cls "Desk", T.noat "Desk" "plan", dkF_plan, c.pa, z.p, c.pl, z.l, rfl, hpg.mono s1, d1.pl, h.ok.len, h.ok.lt, fun H2 sl s2 nsl hsl => ?_⟩
    have s12 := s1.trans s2
    refine ⟨r, c.pl, sl, z.p, o, z.l, sizesOf z.p z.l, 0, rfl, hro.mono s12, hrn.p10, s12 _ _ h.pl, h.ok, hsl, rfl, fun H3 s3 => ?_⟩
    have s13 := s12.trans s3
    have hl3 := s3 _ _ (s2 _ _ hll2)
    have ht3 := (hts.mono s2).mono s3
    refine ⟨_, rfl, _, (loadsOf z.l o).length, rfl, .inl ⟨_, SqL.of hl3, by rw [List.length_map, plen hts]⟩, by show 2 ≤ sizeLine; decide, fun fl nfl => ?_⟩
    let row : Nat → List Int := fun i => ((runCost (sizesOf z.p z.l) 0 z.l o : Nat) : Int) :: (((loadsOf z.l o).length : Nat) : Int) :: ((loadsOf z.l o).take i).flatMap fun x => nats [x.1, x.2]
    have s4 : Same H3 (upd H3 fl (.lst [.int ((runCost (sizesOf z.p z.l) 0 z.l o : Nat) : Int), .int (((loadsOf z.l o).length : Nat) : Int)])) := same_upd nfl
    refine ⟨_, rfl, ll, rfl, ⟨_, SqL.of (s4 _ _ hl3)⟩, for_list (K := K) (a := ll) (xs := ts.map V.ref) (fun i σ H' => ∃ v : Option V, σ = [some (.ref D), some (.int e), some (.int a), some (.ref r), some (.ref ll), some (.ref fl), v] ∧ Same H3 (off [fl] H') ∧ H' fl = some (.lst ((row i).map V.int)) ∧ (row i).length ≤ 2 + 2 * i) ⟨none, rfl, off1_same nfl s4, upd_same, Nat.le_refl _⟩ (fun i σ H' _ ⟨_, _, g, _⟩ => SqL.of (off_same _ _ (g _ _ hl3))) ?_ ?_⟩
    · rintro i v σ H' hi ⟨v0, rfl, g, hfl, hrl⟩
      obtain ⟨t, ht, rfl⟩ := map_get hi
      obtain ⟨x, hx, hX⟩ := pget ht3 ht
      have g' := g.trans off_same
      have hX' := g' _ _ hX
      have hi2 : i < (loadsOf z.l o).length := (List.getElem?_eq_some_iff.mp hx).1
      refine ⟨_, rfl, .inl ⟨rfl, _, SqL.of hfl⟩, _, rfl, t, _, rfl, .inr (.inl (.inl hX')), fun n2 nn2 => ?_⟩
      have s5 : Same H' (upd H' n2 (.lst [.int (x.1 : Nat), .int (x.2 : Nat)])) := same_upd nn2
      have er : row (i + 1) = row i ++ nats [x.1, x.2] := by
        show _ :: _ :: _ = _ :: _ :: _
        rw [take_more hx, List.flatMap_append]
        simp
      refine ⟨fl, n2, _, _, rfl, rfl, s5 _ _ hfl, upd_same, ?_, some (.ref t), rfl, ?_, ?_, ?_⟩
      · rw [List.length_map]
        exact Nat.le_trans (show _ + 2 ≤ 1000 by omega) (by decide)
      · exact fun b o e => by
          obtain ⟨hb, e⟩ := off_some (g _ _ e)
          exact off_get hb (by rw [upd_ne (by simpa using hb)]; exact s5 _ _ e)
      · rw [upd_same, er, List.map_append]
        rfl
      · rw [er, List.length_append]
        show _ + 2 ≤ _
        omega
    · rintro σ H' ⟨v0, rfl, g, hfl, hrl⟩
      have g' := g.trans off_same
      have et : row (ts.map V.ref).length = ((runCost (sizesOf z.p z.l) 0 z.l o : Nat) : Int) :: loadsRow (loadsOf z.l o) := by
        show _ :: _ :: _ = _ :: _ :: _
        rw [List.length_map, plen hts, List.take_length]
      rw [et] at hfl
      exact ⟨_, rfl, q H' fl (s13.trans g') (s13.free nfl) hfl⟩
def N_before : List Str := ["desk", "part", "many", "others"]
theorem sc_before : FnScope N_before ["desk", "part"] (defScope s_before) := ⟨rfl, rfl, rfl, by decide +kernel, rfl, by decide +kernel, by decide +kernel⟩
theorem ok_before (T : Txt K mg) : Ok P w K mg base 5 "before" ["desk", "part"] (spBeforeD K) := by
  have G_check_part : Ok P w K mg base 4 "check_part" ["desk", "part"] (spCheckPart K) := ok_check_part T
  have G_entered_before : Ok P w K mg base 1 "entered_before" ["runs", "part"] (spBefore K) := ok_entered_before T
  refine ok_mk T.d_before sc_before (fun vs H Q E h => ?_) (fun cdv A outer s H vs Q E hr h => ?_)
  · obtain ⟨D, c, z, k, rfl, _⟩ := h
    rfl
  · have hr_check_part : Room 4 _ := hr
    have hr_entered_before : Room 1 _ := hr.mono (by decide)
    refine ⟨_, (pss_cons (ps_expr (pe_cX G_check_part hr_check_part outE (pa_cons (pv 0) (pa_cons (pv 1) pa_nil)))) (pss_cons (ps_asg (pe_c G_entered_before hr_entered_before (pa_cons (pe_fld (pv 0) rfl) (pa_cons (pv 1) pa_nil))) (pg_tup (by rfl) (pgs_cons (pg_name (i := 2) sc_before.nd rfl (Or.inl rfl)) (pgs_cons (pg_name (i := 3) sc_before.nd rfl (Or.inl rfl)) pgs_nil)))) (pss_one (ps_ret (pe_op op_cat (pe_lst (pa_cons (pv 2) (pa_cons (pe_callB call_len (by rfl) (T.free "len") PySem.boot_len (pa_cons (pv 3) pa_nil)) pa_nil))) (pv 3)))))), ?_⟩
    obtain ⟨D, c, z, k, rfl, h, h1, h2⟩ := h
    refine ⟨_, rfl, _, rfl, D, c, z, k, rfl, h, h1, fun i hi => ?_⟩
    have q := h2 i hi
    obtain ⟨rfl, hil⟩ := index_some hi
    refine ⟨_, rfl, D, _, c.dx, _, _, rfl, h.dk, T.cls "Desk", T.noat "Desk" "runs", dkF_runs, _, rfl, c.rl, z.p, c.rs, i, rfl, h.rn.mono off_same, fun H1 t a s1 ht ha => ?_⟩
    have hbl : (beforeOf z.p i).2.length ≤ 10 := by
      have := h.rn.p10
      refine Nat.le_trans (List.length_filter_le _ _) ?_
      rw [List.length_range]
      exact this
    refine ⟨t, _, rfl, .inl (.inl ht), rfl, _, _, rfl, _, _, rfl, rfl, ?_⟩
    refine ⟨_, rfl, _, rfl, _, (beforeOf z.p i).2.length, rfl, .inl ⟨_, SqL.of ha, ents_len.symm⟩, by show 2 ≤ sizeLine; decide, fun o no => ?_⟩
    have s2 : Same H1 (upd H1 o (.lst [.int ((beforeOf z.p i).1 : Nat), .int ((beforeOf z.p i).2.length : Nat)])) := same_upd no
    refine ⟨_, rfl, o, a, _, _, rfl, rfl, upd_same, s2 _ _ ha, (by rw [ents_len]; exact Nat.le_trans (show 2 + _ ≤ 100 by omega) (by decide)), fun n nn => ?_⟩
    refine q _ n ((s1.trans s2).trans (same_upd nn)) ((s1.trans s2).free nn) ?_
    rw [upd_same, List.map_cons, List.map_cons, nats_v]
    rfl
def N_best : List Str := ["desk", "more", "first", "total", "plan"]
theorem sc_best : FnScope N_best ["desk", "more", "first"] (defScope s_best) := ⟨rfl, rfl, rfl, by decide +kernel, rfl, by decide +kernel, by decide +kernel⟩
theorem ok_best (T : Txt K mg) : Ok P w K mg base 5 "best" ["desk", "more", "first"] (spBest K) := by
  have G_check : Ok P w K mg base 3 "check" ["is_right", "number"] (spCheck K) := ok_check T
  have G_check_cost : Ok P w K mg base 4 "check_cost" ["number"] (spCheckCost K) := ok_check_cost T
  have G_reached_of : Ok P w K mg base 1 "reached_of" ["runs"] (spReachedOf K) := ok_reached_of T
  have G_best_plan : Ok P w K mg base 4 "best_plan" ["program", "runs", "more", "first"] (spBestPlan K) := ok_best_plan T
  refine ok_mk T.d_best sc_best (fun vs H Q E h => ?_) (fun cdv A outer s H vs Q E hr h => ?_)
  · obtain ⟨D, c, z, x, y, rfl, _⟩ := h
    rfl
  · have hr_check : Room 3 _ := hr.mono (by decide)
    have hr_check_cost : Room 4 _ := hr
    have hr_reached_of : Room 1 _ := hr.mono (by decide)
    have hr_best_plan : Room 4 _ := hr
    refine ⟨_, (pss_cons (ps_expr (pe_cX G_check_cost hr_check_cost outE (pa_cons (pv 1) pa_nil))) (pss_cons (ps_expr (pe_cX G_check_cost hr_check_cost outE (pa_cons (pv 2) pa_nil))) (pss_cons (ps_expr (pe_cX G_check hr_check outE (pa_cons (pe_and (pe_cmpR op_le (pe_callB call_len (by rfl) (T.free "len") PySem.boot_len (pa_cons (pe_fld (pv 0) rfl) pa_nil)) (pe_gl (T.int "MOST_RUNS" 32)) (nomark _)) (pe_one (pe_cmpR op_le (pe_callB call_len (by rfl) (T.free "len") PySem.boot_len (pa_cons (pe_c G_reached_of hr_reached_of (pa_cons (pe_fld (pv 0) rfl) pa_nil)) pa_nil)) (pe_gl (T.int "MOST_REACHED" 6)) (nomark _)))) (pa_cons (pe_gl (T.int "TOO_MANY_packs" (-7))) pa_nil)))) (pss_cons (ps_asg (pe_c G_best_plan hr_best_plan (pa_cons (pe_fld (pv 0) rfl) (pa_cons (pe_fld (pv 0) rfl) (pa_cons (pv 1) (pa_cons (pv 2) pa_nil))))) (pg_tup (by rfl) (pgs_cons (pg_name (i := 3) sc_best.nd rfl (Or.inl rfl)) (pgs_cons (pg_name (i := 4) sc_best.nd rfl (Or.inl rfl)) pgs_nil)))) (pss_one (ps_ret (pe_op op_cat (pe_lst (pa_cons (pv 3) pa_nil)) (pv 4)))))))), ?_⟩
    obtain ⟨D, c, z, x, y, rfl, h, h1, h2⟩ := h
    have hrn := h.rn.mono off_same
    have hpg := h.pg.mono off_same
    refine ⟨_, rfl, x, rfl, h1, fun hx => ?_⟩
    obtain ⟨h3, h4⟩ := h2 hx
    refine ⟨_, rfl, y, rfl, h3, fun hy => ?_⟩
    obtain ⟨h5, h6⟩ := h4 hy
    obtain ⟨n, rfl⟩ : ∃ n : Nat, x = (n : Int) := ⟨x.toNat, by omega⟩
    obtain ⟨f, rfl⟩ : ∃ f : Nat, y = (f : Int) := ⟨y.toNat, by omega⟩
    obtain ⟨b, l, hbl, hlo⟩ := best_some z.p n f
    have et : tooMuch z.p = (decide (32 < z.p.starts.length * total z.p) || decide (6 < (unionOf z.p (reached z.p)).length)) := rfl
    have hlen : c.rs.length = z.p.starts.length * total z.p := by rw [plen hrn.rn, orders_len]
    have go : ∀ (H1 : Hp), Same H H1 → tooMuch z.p = false → ∀ Q' : VK, (∀ H2 v, Same H1 H2 → BestAt H2 (bestPacks z.p n f) v → Q' v H2) → spBestPlan K [.ref c.pa, .ref c.rl, .int (n : Nat), .int (f : Nat)] H1 Q' E0 := fun H1 s1 ht Q' hq => ⟨c.pa, c.rl, z.p, c.rs, n, f, rfl, hpg.mono s1, hrn.mono s1, hq⟩
    have fin : ∀ (H1 : Hp), Same H H1 → tooMuch z.p = false → ∀ (H2 : Hp) (v : V), Same H1 H2 → BestAt H2 (bestPacks z.p n f) v → ∃ t a, v = .ref t ∧ H2 t = some (.tup [.int (b : Nat), .ref a]) ∧ H2 a = some (.lst (ents l)) ∧ Same H H2 := fun H1 s1 ht H2 v s2 hb => by
      rw [hbl] at hb
      obtain ⟨t, a, e1, e2, e3⟩ := hb
      exact ⟨t, a, e1, e2, e3, s1.trans s2⟩
    refine ⟨_, rfl, D, _, c.dx, _, _, rfl, h.dk, T.cls "Desk", T.noat "Desk" "runs", dkF_runs, _, c.rs.length, rfl, .inl ⟨_, SqL.of hrn.ls, (List.length_map _).symm⟩, _, _, rfl, rfl, _, rfl, if_both (fun e1 => ?_) fun e1 => ?_⟩
    · have e1 : ¬ 32 < z.p.starts.length * total z.p := by
        have e1 := of_decide_eq_true e1
        omega
      refine ⟨_, rfl, D, _, c.dx, _, _, rfl, h.dk, T.cls "Desk", T.noat "Desk" "runs", dkF_runs, c.rl, z.p, c.rs, rfl, hrn, fun H1 ul s1 nul hul => ?_⟩
      refine ⟨_, (unionOf z.p (reached z.p)).length, rfl, .inl ⟨_, SqL.of hul, ents_len.symm⟩, _, _, rfl, rfl, _, -7, rfl, fun e2 => (h5 ?_).mono s1, fun e2 => ?_⟩
      · have e2 := of_decide_eq_false e2
        rw [et, decide_eq_true (show 6 < (unionOf z.p (reached z.p)).length by omega), Bool.or_true]
      · have e2 := of_decide_eq_true e2
        have ht : tooMuch z.p = false := by
          rw [et, decide_eq_false e1, decide_eq_false (show ¬ 6 < (unionOf z.p (reached z.p)).length by omega)]
          rfl
        have q := h6 ht b l hbl
        have d1 := h.mono s1
        refine ⟨_, rfl, D, _, c.dx, _, _, rfl, d1.dk, T.cls "Desk", T.noat "Desk" "program", dkF_program, _, rfl, D, _, c.dx, _, _, rfl, d1.dk, T.cls "Desk", T.noat "Desk" "runs", dkF_runs, _, rfl, _, rfl, go H1 s1 ht _ fun H2 v s2 hb => ?_⟩
        obtain ⟨t, a, rfl, e4, e5, s3⟩ := fin H1 s1 ht H2 v s2 hb
        refine ⟨t, _, rfl, .inl (.inl e4), rfl, _, _, rfl, _, _, rfl, rfl, ?_⟩
        refine ⟨_, rfl, by show 1 ≤ sizeLine; decide, fun o no => ?_⟩
        have s5 : Same H2 (upd H2 o (.lst [.int (b : Nat)])) := same_upd no
        have hll : l.length ≤ 10 := by
          rw [hlo.len]
          exact hrn.p10
        refine ⟨_, rfl, o, a, _, _, rfl, rfl, upd_same, s5 _ _ e5, (by rw [ents_len]; exact Nat.le_trans (show 1 + _ ≤ 100 by omega) (by decide)), fun ad nad => ?_⟩
        refine q _ ad ((s3.trans s5).trans (same_upd nad)) ((s3.trans s5).free nad) ?_
        rw [upd_same, List.map_cons, nats_v]
        rfl
    · have e1 : 32 < z.p.starts.length * total z.p := by
        have e1 := of_decide_eq_false e1
        omega
      refine ⟨_, -7, rfl, fun e2 => h5 ?_, fun e2 => by cases e2⟩
      rw [et, decide_eq_true e1, Bool.true_or]
end
end PP

set_option Elab.async false
set_option linter.all false
set_option maxRecDepth 100000
set_option maxHeartbeats 4000000
namespace PP
open PySem PySem.Spec PyProof.Rows L2
open VakepBase (Bytes Fault index)
open Vakepa (Prog total counts unionOf reached entryNo)
open Vakepe (Order orders packOf packSize sizesOf loadBy loadsOf runCost PACKS totalBy bestPacks beforeOf Held worst)
section
variable {P : Program} {w : World} {K : PySem.W.Frag} {mg : Str → Option Value} {base : Heap}
def N_there : List Str := ["desk", "entry", "assignment", "part", "run", "pack", "loaded", "own"]
theorem sc_there : FnScope N_there ["desk", "entry", "assignment", "part"] (defScope s_there) := ⟨rfl, rfl, rfl, by decide +kernel, rfl, by decide +kernel, by decide +kernel⟩
theorem ok_there (T : Txt K mg) : Ok P w K mg base 5 "there" ["desk", "entry", "assignment", "part"] (spThere K) := by
  have G_run_told : Ok P w K mg base 4 "run_told" ["desk", "entry", "assignment"] (spRunTold K) := ok_run_told T
  have G_check_part : Ok P w K mg base 4 "check_part" ["desk", "part"] (spCheckPart K) := ok_check_part T
  have G_loads_of : Ok P w K mg base 1 "loads_of" ["run", "plan"] (spLoadsOf K) := ok_loads_of T
  refine ok_mk T.d_there sc_there (fun vs H Q E h => ?_) (fun cdv A outer s H vs Q E hr h => ?_)
  · obtain ⟨D, c, z, e, a, k, rfl, _⟩ := h
    rfl
  · have hr_run_told : Room 4 _ := hr
    have hr_check_part : Room 4 _ := hr
    have hr_loads_of : Room 1 _ := hr.mono (by decide)
    refine ⟨_, (pss_cons (ps_set (i := 4) sc_there.nd rfl (Or.inl rfl) (pe_cX G_run_told hr_run_told outE (pa_cons (pv 0) (pa_cons (pv 1) (pa_cons (pv 2) pa_nil))))) (pss_cons (ps_expr (pe_cX G_check_part hr_check_part outE (pa_cons (pv 0) (pa_cons (pv 3) pa_nil)))) (pss_cons (ps_set (i := 5) sc_there.nd rfl (Or.inl rfl) (pe_ix ix_list (pe_fld (pv 0) rfl) (pv 3) (fun _ _ => rfl))) (pss_cons (ps_if (pt_cmpR op_eq (pv 5) pe_int (nomark _)) (pss_one (ps_ret (pe_lst (pa_cons pe_int (pa_cons (pe_gl (T.int "WITH_NONE" (-1))) pa_nil))))) pss_nil) (pss_cons (ps_setLc (i := 6) (own := [("own", 7)]) (g := gName 7) (te := tOp (rIxT K) (tVar 7) (tC (.int 1))) (by rfl) sc_there.nd rfl rfl (sw_true rfl rfl rfl (by decide +kernel)) (pi_list (pe_c G_loads_of hr_loads_of (pa_cons (pv 4) (pa_cons (pe_fld (pv 0) rfl) pa_nil)))) (blkOk_by (own := [("own", 7)]) (N := N_there) (sc := defScope s_there) (by decide +kernel)) (by exact fun _ _ _ _ _ => (pg_name (i := 7) sc_there.nd rfl (Or.inl rfl))) (fun _ _ _ _ _ => pts_nil) (by exact fun _ _ _ _ _ => (pe_ix ix_tup (pv 7) pe_int (fun _ _ => rfl)))) (pss_cons (ps_if (pt_cmpR op_in_seq (pv 5) (pv 6) (by rfl)) (pss_one (ps_ret (pe_lst (pa_cons pe_int (pa_cons (pe_bm PySem.F.plainAttrs_list PySem.F.slot_list_index PySem.F.type_list_index mt_index (pv 6) (pa_cons (pv 5) pa_nil)) pa_nil))))) pss_nil) (pss_one (ps_ret (pe_lst (pa_cons pe_int (pa_cons (pe_gl (T.int "WITH_NONE" (-1))) pa_nil))))))))))), ?_⟩
    obtain ⟨D, c, z, e, a, k, rfl, h, h1, h2⟩ := h
    refine ⟨_, rfl, _, rfl, _, rfl, D, c, z, e, a, rfl, h, h1, fun i m hi hm => ⟨(h2 i m hi hm).1, fun n hn r hro0 => ?_⟩⟩
    obtain ⟨h3, h4⟩ := (h2 i m hi hm).2 n hn
    refine ⟨_, rfl, _, rfl, D, c, z, k, rfl, h, h3, fun j hj => ?_⟩
    have q := h4 j hj
    obtain ⟨rfl, hjl⟩ := index_some hj
    have hro := hro0.mono off_same
    have hrn := h.rn.mono off_same
    obtain ⟨o, ho⟩ : ∃ o : Order, o = ⟨m, n, entOf z.p m n⟩ := ⟨_, rfl⟩
    rw [← ho] at q hro
    have ho10 := hro.len hrn.p10
    have hll : (loadsOf z.l o).length ≤ 10 := Nat.le_trans (loadBy_len z.l o.l [0]) ho10
    have hjg : z.l[j]? = some (z.l[j]'(by rw [h.ok.len]; exact hjl)) := List.getElem?_eq_getElem _
    obtain ⟨pk, hpk⟩ : ∃ pk, z.l[j]? = some pk := ⟨_, hjg⟩
    have epk := packOf_get hpk
    unfold thereRow at q
    rw [epk] at q
    refine ⟨_, rfl, D, _, c.dx, _, _, rfl, h.dk, T.cls "Desk", T.noat "Desk" "plan", dkF_plan, _, rfl, c.pl, _, _, _, rfl, rfl, SqL.of h.pl, atI_nat (by show (List.map _ _)[j]? = _; rw [List.getElem?_map, hpk]; rfl), ?_⟩
    refine ⟨_, rfl, rfl, _, rfl, if_both (fun e0 => ?_) fun e0 => ?_⟩
    · have e0 : pk = 0 := by
        have e0 := of_decide_eq_true e0
        injection e0 with e0
        omega
      subst e0
      have en : (loadsOf z.l o).findIdx? (fun x => x.2 == 0) = none := by
        rw [List.findIdx?_eq_none_iff]
        intro x hx
        have := loadBy_not z.l o.l [0] x hx
        simpa using this
      rw [en, if_pos (Or.inl rfl)] at q
      exact ⟨by show 2 ≤ sizeLine; decide, fun ad nad => q _ ad (same_upd nad) nad upd_same⟩
    have e0 : pk ≠ 0 := by
      have e0 := of_decide_eq_false e0
      intro z
      subst z
      exact e0 rfl
    refine ⟨_, rfl, _, rfl, D, _, c.dx, _, _, rfl, h.dk, T.cls "Desk", T.noat "Desk" "plan", dkF_plan, r, c.pl, z.p, o, z.l, rfl, hro, hrn.p10, h.pl, h.ok.len, fun H1 ll ts s1 nll hll2 hts => ⟨ll, rfl, ⟨_, SqL.of hll2⟩, fun F hF => ?_⟩⟩
    let ps : List Nat := (loadsOf z.l o).map fun x => x.2
    refine lc_list (K := K) (a := ll) (xs := ts.map V.ref) (fun i H' => Same H1 (off [F] H') ∧ H' F = some (.lst (ents (ps.take i)))) ⟨off1_same hF (same_upd hF), upd_same⟩ (fun i H' _ ⟨g, _⟩ => SqL.of (off_same _ _ (g _ _ hll2))) (fun i x H' hx ⟨g, hF2⟩ => ?_) fun H' ⟨g, hF2⟩ => ?_
    · obtain ⟨t, ht, rfl⟩ := map_get hx
      obtain ⟨x, hx, hX⟩ := pget hts ht
      have g' := g.trans off_same
      have hps : ps[i]? = some x.2 := by
        show (List.map _ _)[i]? = _
        rw [List.getElem?_map, hx]
        rfl
      have hi2 : i < (loadsOf z.l o).length := (List.getElem?_eq_some_iff.mp hx).1
      refine ⟨rfl, _, rfl, t, _, 1, _, rfl, rfl, .inl (.inl (g' _ _ hX)), rfl, _, hF2, ?_, ?_, ?_⟩
      · rw [ents_len, List.length_take]
        exact Nat.lt_of_le_of_lt (Nat.min_le_left _ _) (Nat.lt_of_lt_of_le (show i < 10 by omega) (by decide))
      · exact fun b o e => by
          obtain ⟨hb, e⟩ := off_some (g _ _ e)
          exact off_get hb (by rw [upd_ne (by simpa using hb)]; exact e)
      · rw [upd_same, take_more hps, ← ents_app]
    · have et : ps.take (ts.map V.ref).length = ps := by
        rw [List.length_map, plen hts]
        exact List.take_of_length_le (by show (List.map _ _).length ≤ _; rw [List.length_map]; exact Nat.le_refl _)
      rw [et] at hF2
      have g' := g.trans off_same
      have sH := s1.trans g'
      refine ⟨_, rfl, _, rfl, F, _, rfl, .inl (SqL.of hF2), rfl, flat_ents, _, rfl, if_both (fun ec => ?_) fun ec => ?_⟩
      · have ec : ps.contains pk = true := by
          rw [inV_ents] at ec
          simpa using ec
        have hm := List.contains_iff_mem.mp ec
        obtain ⟨x, hx, hx2⟩ := List.mem_map.mp hm
        cases ef : (loadsOf z.l o).findIdx? (fun x => x.2 == pk) with
        | none =>
          rw [List.findIdx?_eq_none_iff] at ef
          have := ef x hx
          simp [hx2] at this
        | some j0 =>
          obtain ⟨hlt, hp0, hno⟩ := List.findIdx?_eq_some_iff_getElem.mp ef
          have hany : (loadsOf z.l o).any (fun x => x.2 == pk) = true := List.any_eq_true.mpr ⟨x, hx, by simpa using hx2⟩
          rw [ef, if_pos (Or.inr hany)] at q
          refine ⟨_, rfl, .inl ⟨rfl, _, SqL.of hF2⟩, _, rfl, F, ents ps, _, j0, .int (pk : Nat), rfl, rfl, SqL.of hF2, rfl, flat_ents, ?_, by show ((pk : Int) == (pk : Int)) = true; exact beq_self_eq_true _, fun m' z' hm' hz' => ?_, by show 2 ≤ sizeLine; decide, fun ad nad => q _ ad (sH.trans (same_upd nad)) (sH.free nad) upd_same⟩
          · show ((List.map _ (List.map _ _))[j0]? : Option V) = _
            rw [List.getElem?_map, List.getElem?_map, List.getElem?_eq_getElem hlt]
            have := beq_iff_eq.mp hp0
            show some (V.int (((loadsOf z.l o)[j0].2 : Nat) : Int)) = _
            rw [this]
          · obtain ⟨y, hy, rfl⟩ := map_get hz'
            have hy2 : ((loadsOf z.l o).map fun x => x.2)[m']? = some y := hy
            rw [List.getElem?_map, Option.map_eq_some_iff] at hy2
            obtain ⟨x', hx', rfl⟩ := hy2
            have hm2 := (List.getElem?_eq_some_iff.mp hx').1
            have := hno m' hm'
            rw [(List.getElem?_eq_some_iff.mp hx').2] at this
            have h5 : x'.2 ≠ pk := by simpa using this
            show ((x'.2 : Int) == (pk : Int)) = false
            have : ((x'.2 : Nat) : Int) ≠ ((pk : Nat) : Int) := by omega
            simpa using this
      · have ec : ps.contains pk = false := by
          rw [inV_ents] at ec
          simpa using ec
        have hno : ∀ x ∈ loadsOf z.l o, (x.2 == pk) = false := fun x hx => by
          cases e : x.2 == pk with
          | false => rfl
          | true =>
            have : pk ∈ ps := List.mem_map.mpr ⟨x, hx, beq_iff_eq.mp e⟩
            rw [List.contains_iff_mem.mpr this] at ec
            cases ec
        have ef : (loadsOf z.l o).findIdx? (fun x => x.2 == pk) = none := List.findIdx?_eq_none_iff.mpr hno
        have hany : ¬ (pk = 0 ∨ (loadsOf z.l o).any (fun x => x.2 == pk) = true) := by
          rintro (g | g)
          · exact e0 g
          · obtain ⟨x, hx, hx2⟩ := List.any_eq_true.mp g
            rw [hno x hx] at hx2
            cases hx2
        rw [ef, if_neg hany] at q
        exact ⟨by show 2 ≤ sizeLine; decide, fun ad nad => q _ ad (sH.trans (same_upd nad)) (sH.free nad) upd_same⟩
end
/-! ### what the desk is not -/
def Rest (o0 : HO) (H H' : Hp) : Prop := ∀ b o, H b = some o → o ≠ o0 → H' b = some o
section
variable {K : PySem.W.Frag} {C dx : Addr} {x y z : V} {H H' : Hp}
theorem Rest.tk (h : Rest (.ins C dx (dkF x y z)) H H') : TupKeep H H' := fun b xs e => h b _ e (fun z => by cases z)
theorem dk_ne {C' dx' : Addr} {k : Str} {v : V} {r : List (Str × V)} (h : (k == ("program" : Str)) = false) : HO.ins C' dx' ((k, v) :: r) ≠ .ins C dx (dkF x y z) := ins_ne h
theorem SetAt.rest (h : Rest (.ins C dx (dkF x y z)) H H') {a : Addr} {s : Vakepa.Setting} (g : SetAt K H a s) : SetAt K H' a s := by
  obtain ⟨dx, na, wl, was, h1, h2, h3, h4⟩ := g
  exact ⟨dx, na, wl, was, h _ _ h1 (dk_ne (by decide +kernel)), h.tk _ _ h2, h _ _ h3 (fun z => by cases z), h4.tk h.tk⟩
theorem PartAt.rest (h : Rest (.ins C dx (dkF x y z)) H H') {ss : List Vakepa.Setting} {a : Addr} {p : Vakepa.RawPart} (g : PartAt K ss H a p) : PartAt K ss H' a p := by
  obtain ⟨dx, na, ra, vs, h1, h2, h3, h4⟩ := g
  exact ⟨dx, na, ra, vs, h _ _ h1 (dk_ne (by decide +kernel)), h.tk _ _ h2, h.tk _ _ h3, h4.tk h.tk⟩
theorem ProgAt.rest (h : Rest (.ins C dx (dkF x y z)) H H') {a : Addr} {p : Prog} (g : ProgAt K H a p) : ProgAt K H' a p := by
  obtain ⟨dx, ls, lp, le, sas, pas, rs, h1, h2, h3, h4, h5, h6, h7⟩ := g.ex
  exact { g with ex := ⟨dx, ls, lp, le, sas, pas, rs, h _ _ h1 (dk_ne (by decide +kernel)), h _ _ h2 (fun z => by cases z), pimp h3 fun _ _ e => e.rest h, h _ _ h4 (fun z => by cases z), pimp h5 fun _ _ e => e.rest h, h _ _ h6 (fun z => by cases z), h7⟩ }
theorem RunOf.rest (h : Rest (.ins C dx (dkF x y z)) H H') {p : Prog} {r : Addr} {o : Order} (g : RunOf K p H r o) : RunOf K p H' r o := by
  obtain ⟨i, el, h1, ⟨dx, x1, x2, x3, x4, h2, h3⟩, h4⟩ := g
  refine ⟨i, el, h1, ⟨dx, x1, x2, x3, x4, h _ _ h2 (fun z => ?_), h _ _ h3 (fun z => by cases z)⟩, h4⟩
  unfold runF dkF at z
  injection z with _ _ z
  injection z with _ z
  injection z with z _
  injection z with z _
  have : (("entry" : Str) == ("runs" : Str)) = true := by rw [z]; exact beq_self_eq_true _
  exact absurd this (by decide +kernel)
end
end PP

set_option Elab.async false
set_option linter.all false
set_option maxRecDepth 100000
set_option maxHeartbeats 4000000
namespace PP
open PySem PySem.Spec PyProof.Rows L2
open VakepBase (Bytes Fault index)
open Vakepa (Prog total counts read)
open Vakepe (Order orders Held)
/-- a desk with its plan at pl -/
def DeskO (K : PySem.W.Frag) (D pl : Addr) (H : Hp) : Option Held → Prop
  | none => ∃ dx rl, H D = some (.ins (He.ga K "Desk") dx (dkF .non (.ref rl) (.ref pl))) ∧ H pl = some (.lst [])
  | some z => ∃ c, c.pl = pl ∧ DeskAt K D H c z
theorem DeskO.mono {K : PySem.W.Frag} {D pl : Addr} {H H' : Hp} {o : Option Held} (s : Same H H') (h : DeskO K D pl H o) : DeskO K D pl H' o := by
  cases o with
  | none =>
    obtain ⟨dx, rl, h1, h2⟩ := h
    exact ⟨dx, rl, s _ _ h1, s _ _ h2⟩
  | some z =>
    obtain ⟨c, h1, h2⟩ := h
    exact ⟨c, h1, h2.mono s⟩
theorem DeskO.at (K : PySem.W.Frag) {D pl : Addr} {H : Hp} {o : Option Held} (h : DeskO K D pl H o) : ∃ dx x y, H D = some (.ins (He.ga K "Desk") dx (dkF x y (.ref pl))) ∧ ∃ xs, H pl = some (.lst xs) := by
  cases o with
  | none =>
    obtain ⟨dx, rl, h1, h2⟩ := h
    exact ⟨dx, _, _, h1, _, h2⟩
  | some z =>
    obtain ⟨c, rfl, h2⟩ := h
    exact ⟨c.dx, _, _, h2.dk, _, h2.pl⟩
/-- lists of ints -/
def IntLs (H : Hp) (F : List Addr) : Prop := ∀ f ∈ F, ∃ l : List Int, H f = some (.lst (l.map V.int))
theorem IntLs.live {H : Hp} {F : List Addr} (h : IntLs H F) : ∀ f ∈ F, H f ≠ none := fun f hf z => by
  obtain ⟨l, e⟩ := h f hf
  rw [e] at z
  cases z
theorem IntLs.ne {H : Hp} {F : List Addr} (h : IntLs H F) {a : Addr} {o : HO} (e : H a = some o) (n : ∀ l : List Int, o ≠ .lst (l.map V.int)) : a ∉ F := fun z => by
  obtain ⟨l, e2⟩ := h a z
  rw [e] at e2
  exact n l (Option.some.inj e2)
theorem IntLs.same {H H' : Hp} {F : List Addr} (h : IntLs H F) (s : Same H H') : IntLs H' F := fun f hf => by
  obtain ⟨l, e⟩ := h f hf
  exact ⟨l, s _ _ e⟩
theorem refs_ints {was : List Addr} {l : List Int} (h : was.map V.ref = l.map V.int) : was = [] := by
  cases was with
  | nil => rfl
  | cons a r =>
    cases l with
    | nil => cases h
    | cons x y =>
      rw [List.map_cons, List.map_cons] at h
      injection h with h _
      cases h
/-- a program whose own lists are new keeps clear of old lists of ints -/
theorem ProgAt.offF {K : PySem.W.Frag} {H0 H : Hp} {F : List Addr} {a : Addr} {p : Prog} (g : ProgAt K H a p) (hF : IntLs H F) (h0 : ∀ f ∈ F, H0 f ≠ none) (n : ProgNew K H0 H a) : ProgAt K (off F H) a p := by
  obtain ⟨dx, ls, lp, le, sas, pas, rs, h1, h2, h3, h4, h5, h6, h7⟩ := g.ex
  obtain ⟨dx', ls', lp', le', e1, e2, e3, e4⟩ := n
  rw [h1] at e1
  have e1 := Option.some.inj e1
  injection e1 with _ _ e1
  unfold pgF at e1
  injection e1 with e5 e1
  injection e1 with e6 e1
  injection e1 with e7 _
  injection e5 with _ e5
  injection e6 with _ e6
  injection e7 with _ e7
  injection e5 with e5
  injection e6 with e6
  injection e7 with e7
  subst e5 e6 e7
  have tk : TupKeep H (off F H) := fun b xs e => off_get (hF.ne e fun l z => by cases z) e
  refine { g with ex := ⟨dx, ls, lp, le, sas, pas, rs, off_get (hF.ne h1 fun l z => by cases z) h1, off_get (fun z => h0 _ z e2) h2, ?_, off_get (fun z => h0 _ z e3) h4, pimp h5 fun a q e => ?_, off_get (fun z => h0 _ z e4) h6, h7⟩ }
  · have : ∀ (sas : List Addr) (ss : List Vakepa.Setting), Paired (SetAt K H) sas ss → (∀ s ∈ ss, SetOk s) → Paired (SetAt K (off F H)) sas ss := fun sas ss hp => by
      induction hp with
      | nil => exact fun _ => .nil
      | @cons a s _ _ hd _ ih =>
        intro so
        refine .cons ?_ (ih fun s hs => so s (List.mem_cons_of_mem _ hs))
        obtain ⟨dx, na, wl, was, q1, q2, q3, q4⟩ := hd
        have hw : was ≠ [] := fun z => by
          have h1 := plen q4
          have h2 := (so s List.mem_cons_self).2.1
          rw [z] at h1
          have h1 : 0 = s.values.length := h1
          omega
        exact ⟨dx, na, wl, was, off_get (hF.ne q1 fun l z => by cases z) q1, tk _ _ q2, off_get (hF.ne q3 fun l z => hw (refs_ints (HO.lst.inj z))) q3, q4.tk tk⟩
    exact this _ _ h3 g.so
  · obtain ⟨dx, na, ra, vs, q1, q2, q3, q4⟩ := e
    exact ⟨dx, na, ra, vs, off_get (hF.ne q1 fun l z => by cases z) q1, tk _ _ q2, tk _ _ q3, q4.tk tk⟩
/-- an answer: a new list, the desk as it is then -/
def OutQ (K : PySem.W.Frag) (F : List Addr) (D pl : Addr) (H : Hp) (Q : VK) (o : Option Held) (row : List Int) : Prop := ∀ (H' : Hp) (pl' a : Addr), DeskO K D pl' (off F H') o → (pl' = pl ∨ H pl' = none) → Keep [D, pl] H H' → H a = none → H' a = some (.lst (row.map V.int)) → Q (.ref a) H'
def held0 (p : Prog) : Held := ⟨p, p.parts.map fun _ => 0⟩
def loadRow (p : Prog) : List Int := 1 :: nats [p.sets.length, p.parts.length, p.starts.length, total p]
def spDeskI (K : PySem.W.Frag) : Sp := fun vs H Q _ => ∃ (r dx : Addr), vs = [.ref r] ∧ H r = some (.ins (He.ga K "Desk") dx []) ∧
  ∀ (H' : Hp) (rl pl : Addr), Keep [r] H H' → H rl = none → H pl = none → H' r = some (.ins (He.ga K "Desk") dx (dkF .non (.ref rl) (.ref pl))) → H' pl = some (.lst []) → Q .non H'
def spLoad (K : PySem.W.Frag) : Sp := fun vs H Q _ => ∃ (F : List Addr) (D pl : Addr) (o : Option Held) (a : Addr) (b : Bytes), vs = [.ref D, .ref a] ∧ IntLs H F ∧ DeskO K D pl (off F H) o ∧ SqL K H a (nm b) ∧
  (∀ f, read b = .error f → OutQ K F D pl H Q o [0, (f.code : Int), (f.place : Int)]) ∧ ∀ p, read b = .ok p → OutQ K F D pl H Q (some (held0 p)) (loadRow p)
section
variable {P : Program} {w : World} {K : PySem.W.Frag} {mg : Str → Option Value} {base : Heap}
def N_Desk_init : List Str := ["self"]
theorem sc_Desk_init : FnScope N_Desk_init ["self"] (defScope s_Desk_init) := ⟨rfl, rfl, rfl, by decide +kernel, rfl, by decide +kernel, by decide +kernel⟩
theorem ok_Desk_init (T : Txt K mg) : OkI P w K mg base 1 "Desk" ["self"] (spDeskI K) := by
  refine okI_mk T.i_Desk sc_Desk_init (fun vs H Q E h => ?_) (fun qual cdv A outer s H vs Q E hr h => ⟨_, (pss_cons (ps_fld (pv 0) pe_non rfl) (pss_cons (ps_fld (pv 0) (pe_lst pa_nil) rfl) (pss_one (ps_fld (pv 0) (pe_lst pa_nil) rfl)))), ?_⟩)
  · obtain ⟨r, dx, rfl, _⟩ := h
    rfl
  · obtain ⟨r, dx, rfl, hp, q⟩ := h
    refine ⟨_, rfl, r, _, dx, [], rfl, hp, T.cls "Desk", T.noat "Desk" "program", (by show 0 < 1000; decide), Nat.zero_le _, fun rl nrl => ?_⟩
    have n1 : rl ≠ r := (ne_of_none upd_same nrl).symm
    have nrl0 := nrl
    rw [upd_ne n1] at nrl0
    refine ⟨_, rfl, r, _, dx, _, rfl, (upd_ne n1.symm).trans upd_same, T.cls "Desk", T.noat "Desk" "runs", (by show 1 < 1000; decide), Nat.zero_le _, fun pl npl => ?_⟩
    have n2 : pl ≠ r := (ne_of_none upd_same npl).symm
    have npl0 := npl
    rw [upd_ne n2] at npl0
    have n3 : pl ≠ rl := (ne_of_none upd_same npl0).symm
    rw [upd_ne n3, upd_ne n2] at npl0
    refine ⟨_, rfl, r, _, dx, _, rfl, (upd_ne n2.symm).trans upd_same, T.cls "Desk", T.noat "Desk" "plan", (by show 2 < 1000; decide), ?_⟩
    rw [dkF_new]
    refine q _ rl pl (fun b o hb e => ?_) nrl0 npl0 upd_same ?_
    · rw [List.mem_singleton] at hb
      rw [upd_ne hb, upd_ne (ne_of_none e npl0), upd_ne hb, upd_ne (ne_of_none e nrl0), upd_ne hb]
      exact e
    · rw [upd_ne n2]
      exact upd_same
def N_load : List Str := ["desk", "text", "fault", "counts", "program"]
theorem sc_load : FnScope N_load ["desk", "text"] (defScope s_load) := ⟨rfl, rfl, rfl, by decide +kernel, rfl, by decide +kernel, by decide +kernel⟩
theorem ok_load (T : Txt K mg) : Ok P w K mg base 60 "load" ["desk", "text"] (spLoad K) := by
  have G_program_of : Ok P w K mg base 20 "program_of" ["text"] (spProgOf K) := ok_program_of T
  have G_runs_of : Ok P w K mg base 59 "runs_of" ["program"] (spRunsOf K) := ok_runs_of T
  have G_assignment_count : Ok P w K mg base 1 "assignment_count" ["program"] (spACount K) := ok_assignment_count T
  refine ok_mk T.d_load sc_load (fun vs H Q E h => ?_) (fun cdv A outer s H vs Q E hr h => ?_)
  · obtain ⟨F, D, pl, o, a, b, rfl, _⟩ := h
    rfl
  · have hr_program_of : Room 20 _ := hr.mono (by decide)
    have hr_runs_of : Room 59 _ := hr
    have hr_assignment_count : Room 1 _ := hr.mono (by decide)
    refine ⟨_, (pss_cons (ps_try_as (i := 2) (tb := fun W => tAsg (tCallS (spProgOf K) (WE W) (tCons (tVar 1) tNil)) (gName 4)) (ts := fun a cls d => tRet (tLst (tCons (tC (.int 0)) (tCons (tXf a cls d (He.ga K "Fault") "code" (tVar 2)) (tCons (tXf a cls d (He.ga K "Fault") "place" (tVar 2)) tNil))))) (Wout := fun _ _ _ _ => False) rfl rfl sc_load.nd rfl rfl ⟨rfl, by decide, Or.inl (T.g "Fault")⟩ takes0 (fun W pn xe tk _ => pss_one (ps_set (i := 4) sc_load.nd rfl (Or.inl rfl) (by exact (pe_cS G_program_of hr_program_of tk (by exact (pa_cons (pv 1) pa_nil)))))) (fun a oe cls d pn hz hf => pss_one (ps_ret (by exact (pe_lst (pa_cons pe_int (pa_cons (pe_xf T.fault.f (T.noat "Fault" "code") hz hf (pv 2)) (pa_cons (pe_xf T.fault.f (T.noat "Fault" "place") hz hf (pv 2)) pa_nil)))))))) (pss_cons (ps_fld (pv 0) (pv 4) rfl) (pss_cons (ps_fld (pv 0) (pe_c G_runs_of hr_runs_of (pa_cons (pv 4) pa_nil)) rfl) (pss_cons (ps_fld (pv 0) (pe_op op_rep (pe_lst (pa_cons pe_int pa_nil)) (pe_callB call_len (by rfl) (T.free "len") PySem.boot_len (pa_cons (pe_fld (pv 4) rfl) pa_nil))) rfl) (pss_cons (ps_set (i := 3) sc_load.nd rfl (Or.inl rfl) (pe_lst (pa_cons (pe_callB call_len (by rfl) (T.free "len") PySem.boot_len (pa_cons (pe_fld (pv 4) rfl) pa_nil)) (pa_cons (pe_callB call_len (by rfl) (T.free "len") PySem.boot_len (pa_cons (pe_fld (pv 4) rfl) pa_nil)) (pa_cons (pe_callB call_len (by rfl) (T.free "len") PySem.boot_len (pa_cons (pe_fld (pv 4) rfl) pa_nil)) pa_nil))))) (pss_one (ps_ret (pe_op op_cat (pe_op op_cat (pe_lst (pa_cons pe_int pa_nil)) (pv 3)) (pe_lst (pa_cons (pe_c G_assignment_count hr_assignment_count (pa_cons (pv 4) pa_nil)) pa_nil)))))))))), ?_⟩
    obtain ⟨F, D, pl, o, a, b, rfl, hIF, hoff, hb, hF, hO⟩ := h
    have h := hoff.mono (off_same (M := F))
    refine ⟨_, rfl, a, b, rfl, hb, ?_⟩
    cases e : read b with
    | error f =>
      have q := hF f e
      refine fun d H' k ed => ⟨true, T.exm "Fault", fun _ x nx => ?_, fun z => by cases z⟩
      have s1 : Same H H' := k.same
      refine ⟨_, rfl, rfl, rfl, d, _, _, rfl, ed, faultF_code, _, rfl, rfl, rfl, d, _, _, rfl, ed, faultF_place, by show 3 ≤ sizeLine; decide, fun n nn => ?_⟩
      exact q _ pl n (hoff.mono (off_of_same (s1.trans (same_upd nn)))) (.inl rfl) (Keep.of_same (s1.trans (same_upd nn))) (s1.free nn) upd_same
    | ok p =>
      have q := hO p e
      refine fun H1 pa s1 npa hnew hp0 => ?_
      have hp := hp0.offF (hIF.same s1) hIF.live hnew
      obtain ⟨dx, x, y, hD0, xs0, hpl0⟩ := h.at
      have hD1 := s1 _ _ hD0
      have r1 : Rest (.ins (He.ga K "Desk") dx (dkF x y (.ref pl))) (off F H1) (off [D] (off F H1)) := fun b o e n => off_get (by
        rw [List.mem_singleton]
        intro z
        rw [z] at e
        have e := (off_some e).2
        rw [hD1] at e
        exact n (Option.some.inj e).symm) e
      have pg1F : ProgAt K (off [D] (off F H1)) pa p := hp.rest r1
      have pg1 : ProgAt K (off [D] H1) pa p := pg1F.mono (off_of_same off_same)
      have up : ∀ {Ha : Hp} {o : HO}, Same (off [D] H1) (off [D] Ha) → Same (off [D] H1) (off [D] (upd Ha D o)) := fun s => off1_upd s
      -- desk.program = program
      refine ⟨_, rfl, _, rfl, D, _, dx, _, rfl, hD1, T.cls "Desk", T.noat "Desk" "program", (by show 3 < 1000; decide), ?_⟩
      rw [dkF_putP]
      have k2 : Same (off [D] H1) (off [D] (upd H1 D (.ins (He.ga K "Desk") dx (dkF (.ref pa) y (.ref pl))))) := off1_upd (Same.refl _)
      have hD2 : (upd H1 D (.ins (He.ga K "Desk") dx (dkF (.ref pa) y (.ref pl)))) D = some (.ins (He.ga K "Desk") dx (dkF (.ref pa) y (.ref pl))) := upd_same
      have fr2 : ∀ {b : Addr}, (upd H1 D (.ins (He.ga K "Desk") dx (dkF (.ref pa) y (.ref pl)))) b = none → H1 b = none := fun {b} e => by
        by_cases z : b = D
        · rw [z, upd_same] at e
          cases e
        · rw [upd_ne z] at e
          exact e
      revert k2 hD2 fr2
      generalize upd H1 D (.ins (He.ga K "Desk") dx (dkF (.ref pa) y (.ref pl))) = H2
      intro k2 hD2 fr2
      -- desk.runs = runs_of(program)
      refine ⟨_, rfl, pa, p, rfl, (pg1.mono k2).mono off_same, fun H3 rl rs s3 nrl hrl hrs => ?_⟩
      have hD3 := s3 _ _ hD2
      have k3 : Same (off [D] H1) (off [D] H3) := k2.trans (off_of_same s3)
      have r3 : Rest (.ins (He.ga K "Desk") dx (dkF (.ref pa) y (.ref pl))) H3 (off [D] H3) := fun b o e n => off_get (by
        rw [List.mem_singleton]
        intro z
        rw [z, hD3] at e
        exact n (Option.some.inj e).symm) e
      have rn3 : RunsAt K p (off [D] H3) rs (orders p) := pimp hrs fun _ _ e => e.runOf (fun f hf z => by
        rw [List.mem_singleton.mp hf, hD2] at z
        cases z)
      have rn3F : RunsAt K p (off (D :: F) H3) rs (orders p) := pimp hrs fun _ _ e => e.runOf (fun f hf z => by
        rcases List.mem_cons.mp hf with rfl | hf
        · rw [hD2] at z
          cases z
        · exact hIF.live f hf (s1.free (fr2 z)))
      have nrlF : rl ∉ F := fun z => hIF.live _ z (s1.free (fr2 nrl))
      have hrl3 : off [D] H3 rl = some (.lst (rs.map V.ref)) := r3 _ _ hrl (fun z => by cases z)
      refine ⟨_, rfl, D, _, dx, _, rfl, hD3, T.cls "Desk", T.noat "Desk" "runs", (by show 3 < 1000; decide), ?_⟩
      rw [dkF_putR]
      have k4 : Same (off [D] H3) (off [D] (upd H3 D (.ins (He.ga K "Desk") dx (dkF (.ref pa) (.ref rl) (.ref pl))))) := off1_upd (Same.refl _)
      have hD4 : (upd H3 D (.ins (He.ga K "Desk") dx (dkF (.ref pa) (.ref rl) (.ref pl)))) D = some (.ins (He.ga K "Desk") dx (dkF (.ref pa) (.ref rl) (.ref pl))) := upd_same
      have fr4 : ∀ {b : Addr}, (upd H3 D (.ins (He.ga K "Desk") dx (dkF (.ref pa) (.ref rl) (.ref pl)))) b = none → H3 b = none := fun {b} e => by
        by_cases z : b = D
        · rw [z, upd_same] at e
          cases e
        · rw [upd_ne z] at e
          exact e
      revert k4 hD4 fr4
      generalize upd H3 D (.ins (He.ga K "Desk") dx (dkF (.ref pa) (.ref rl) (.ref pl))) = H4
      intro k4 hD4 fr4
      have pg4 : ProgAt K (off [D] H4) pa p := pg1.mono (k3.trans k4)
      have rn4 : RunsAt K p (off [D] H4) rs (orders p) := rn3.mono k4
      have hrl4 := k4 _ _ hrl3
      have fr : ∀ {b : Addr}, H4 b = none → H b = none := fun e => s1.free (fr2 (s3.free (fr4 e)))
      obtain ⟨dp, lp, x1, x2, pas, p1, p2, p3, p4⟩ := prog_named (pg4.mono off_same)
      -- desk.plan = [0] * len(program.parts)
      refine ⟨by show 1 ≤ sizeLine; decide, fun z nz => ?_⟩
      have s5 : Same H4 (upd H4 z (.lst [.int 0])) := same_upd nz
      have h10 := pg4.p10
      refine ⟨_, rfl, pa, _, dp, _, _, rfl, s5 _ _ p1, T.cls "Program", T.noat "Program" "parts", pgF_parts, _, p.parts.length, rfl, .inl ⟨_, SqL.of (s5 _ _ p2), by rw [List.length_map, p4]⟩, z, (p.parts.length : Nat), [.int 0], rfl, rfl, upd_same, by omega, by omega, ?_, fun pl2 npl2 => ?_⟩
      · show 1 * _ ≤ _
        rw [Nat.one_mul]
        exact Nat.le_trans (show p.parts.length ≤ 10 from h10) (by decide)
      have s6 : Same H4 (upd (upd H4 z (.lst [.int 0])) pl2 (.lst (List.replicate ((p.parts.length : Nat) : Int).toNat [V.int 0]).flatten)) := s5.trans (same_upd npl2)
      have npl4 := s5.free npl2
      have nDp : D ≠ pl2 := ne_of_none hD4 npl4
      have hpl2 : (upd (upd H4 z (.lst [.int 0])) pl2 (.lst (List.replicate ((p.parts.length : Nat) : Int).toNat [V.int 0]).flatten)) pl2 = some (.lst (ents (held0 p).l)) := by
        rw [upd_same]
        have : ∀ l : List Vakepa.Part, (List.replicate l.length [V.int 0]).flatten = ents (l.map fun _ => 0) := fun l => by
          induction l with
          | nil => rfl
          | cons x r ih =>
            rw [List.length_cons, List.replicate_succ, List.flatten_cons, ih]
            rfl
        exact congrArg (fun x => some (HO.lst x)) (this p.parts)
      revert s6 hpl2
      generalize upd (upd H4 z (.lst [.int 0])) pl2 (.lst (List.replicate ((p.parts.length : Nat) : Int).toNat [V.int 0]).flatten) = H6
      intro s6 hpl2
      refine ⟨_, rfl, D, _, dx, _, rfl, s6 _ _ hD4, T.cls "Desk", T.noat "Desk" "plan", (by show 3 < 1000; decide), ?_⟩
      rw [dkF_putL]
      have s7 : Same (off [D] H4) (off [D, pl2] (upd H6 D (.ins (He.ga K "Desk") dx (dkF (.ref pa) (.ref rl) (.ref pl2))))) := fun b o e => by
        obtain ⟨hb, e⟩ := off_some e
        have hb2 : b ≠ D := by simpa using hb
        exact off_get (kp2 hb2 (ne_of_none e npl4)) (by rw [upd_ne hb2]; exact s6 _ _ e)
      have hok : PlanOk p (held0 p).l := ⟨List.length_map _, fun x hx => by
        obtain ⟨_, _, rfl⟩ := List.mem_map.mp hx
        decide⟩
      have hrsl : rs.length ≤ 256 := by
        have h1 := plen rn4
        rw [orders_len] at h1
        have h2 := total_le pg4.so pg4.s3
        have h3 : p.starts.length * total p ≤ 4 * 64 := Nat.mul_le_mul pg4.e4 h2
        omega
      have d7 : DeskAt K D (upd H6 D (.ins (He.ga K "Desk") dx (dkF (.ref pa) (.ref rl) (.ref pl2)))) ⟨dx, pa, rl, pl2, rs⟩ (held0 p) := ⟨upd_same, pg4.mono s7, ⟨s7 _ _ hrl4, rn4.mono s7, hrsl, h10⟩, (upd_ne nDp.symm).trans hpl2, hok⟩
      have kp7 : Keep [D, pl] H (upd H6 D (.ins (He.ga K "Desk") dx (dkF (.ref pa) (.ref rl) (.ref pl2)))) := fun b o hb e => by
        have hb2 : b ≠ D := fun z => hb (by rw [z]; simp)
        have e1 := off_get (M := [D]) (by simpa using hb2) (s1 _ _ e)
        exact off_same _ _ (s7 _ _ ((k3.trans k4) _ _ e1))
      have fr7 : ∀ {b : Addr}, (upd H6 D (.ins (He.ga K "Desk") dx (dkF (.ref pa) (.ref rl) (.ref pl2)))) b = none → H b = none := fun {b} e => by
        by_cases z : b = D
        · rw [z, upd_same] at e
          cases e
        · rw [upd_ne z] at e
          exact fr (s6.free e)
      have g37 : Same (off [D] H3) (off [D, pl2] (upd H6 D (.ins (He.ga K "Desk") dx (dkF (.ref pa) (.ref rl) (.ref pl2))))) := k4.trans s7
      have nDF : D ∉ F := hIF.ne hD0 (fun l z => by cases z)
      have pgF : ProgAt K (off [D, pl2] (off F (upd H6 D (.ins (He.ga K "Desk") dx (dkF (.ref pa) (.ref rl) (.ref pl2)))))) pa p := pg1F.mono (fun b o e => by
        obtain ⟨b1, e⟩ := off_some e
        obtain ⟨b2, e⟩ := off_some e
        obtain ⟨b3, e⟩ := off_some (g37 _ _ (k3 _ _ (off_get b1 e)))
        exact off_get b3 (off_get b2 e))
      have rnF : RunsAt K p (off [D, pl2] (off F (upd H6 D (.ins (He.ga K "Desk") dx (dkF (.ref pa) (.ref rl) (.ref pl2)))))) rs (orders p) := rn3F.mono (fun b o e => by
        obtain ⟨b1, e⟩ := off_some e
        obtain ⟨b3, e⟩ := off_some (g37 _ _ (off_get (fun z => b1 (by rw [List.mem_singleton.mp z]; exact List.mem_cons_self)) e))
        exact off_get b3 (off_get (fun z => b1 (List.mem_cons_of_mem _ z)) e))
      have rlF : off [D, pl2] (off F (upd H6 D (.ins (He.ga K "Desk") dx (dkF (.ref pa) (.ref rl) (.ref pl2))))) rl = some (.lst (rs.map V.ref)) := by
        obtain ⟨b3, e⟩ := off_some (s7 _ _ hrl4)
        exact off_get b3 (off_get nrlF e)
      have d7F : DeskAt K D (off F (upd H6 D (.ins (He.ga K "Desk") dx (dkF (.ref pa) (.ref rl) (.ref pl2))))) ⟨dx, pa, rl, pl2, rs⟩ (held0 p) := ⟨off_get nDF upd_same, pgF, ⟨rlF, rnF, hrsl, h10⟩, off_get (fun z => hIF.live _ z (fr npl4)) ((upd_ne nDp.symm).trans hpl2), hok⟩
      revert d7 d7F kp7 fr7
      generalize upd H6 D (.ins (He.ga K "Desk") dx (dkF (.ref pa) (.ref rl) (.ref pl2))) = H7
      intro d7 kp7 fr7 d7F
      have pg7 : ProgAt K H7 pa p := d7.pg.mono off_same
      obtain ⟨dp, ls, x1, x2, sas, u1, u2, u3⟩ := prog_sets pg7
      obtain ⟨dp2, lp, x3, x4, pas, v1, v2, v3, v4⟩ := prog_named pg7
      obtain ⟨dp3, le, x5, x6, w1, w2, w3⟩ := prog_entries pg7
      refine ⟨_, rfl, pa, _, dp, _, _, rfl, u1, T.cls "Program", T.noat "Program" "settings", pgF_settings, _, p.sets.length, rfl, .inl ⟨_, SqL.of u2, by rw [List.length_map, plen u3]⟩, _, rfl, pa, _, dp2, _, _, rfl, v1, T.cls "Program", T.noat "Program" "parts", pgF_parts, _, p.parts.length, rfl, .inl ⟨_, SqL.of v2, by rw [List.length_map, v4]⟩, _, rfl, pa, _, dp3, _, _, rfl, w1, T.cls "Program", T.noat "Program" "entries", pgF_entries, _, p.starts.length, rfl, .inl ⟨_, SqL.of w2, ents_len.symm⟩, by show 3 ≤ sizeLine; decide, fun co nco => ?_⟩
      have s8 : Same H7 (upd H7 co (.lst [.int (p.sets.length : Nat), .int (p.parts.length : Nat), .int (p.starts.length : Nat)])) := same_upd nco
      refine ⟨by show 1 ≤ sizeLine; decide, fun o1 no1 => ?_⟩
      have s9 := s8.trans (same_upd (o := .lst [.int 1]) no1)
      refine ⟨_, rfl, o1, co, _, _, rfl, rfl, upd_same, same_upd no1 _ _ upd_same, by show 1 + 3 ≤ sizeLine; decide, fun o2 no2 => ?_⟩
      have s10 := s9.trans (same_upd (o := .lst [.int 1, .int (p.sets.length : Nat), .int (p.parts.length : Nat), .int (p.starts.length : Nat)]) no2)
      refine ⟨_, rfl, pa, p, rfl, pg7.mono s10, by show 1 ≤ sizeLine; decide, fun o3 no3 => ?_⟩
      have s11 := s10.trans (same_upd (o := .lst [.int (total p : Nat)]) no3)
      refine ⟨o2, o3, _, _, rfl, rfl, same_upd no3 _ _ upd_same, upd_same, by show 4 + 1 ≤ sizeLine; decide, fun ad nad => ?_⟩
      have s12 := s11.trans (same_upd (o := .lst [.int 1, .int (p.sets.length : Nat), .int (p.parts.length : Nat), .int (p.starts.length : Nat), .int (total p : Nat)]) nad)
      exact q _ pl2 ad ⟨_, rfl, d7F.mono (off_of_same s12)⟩ (.inr (fr npl4)) (kp7.trans (Keep.of_same s12)) (fr7 (s11.free nad)) upd_same
end
end PP

set_option Elab.async false
set_option linter.all false
set_option maxRecDepth 100000
set_option maxHeartbeats 4000000
namespace PP
open PySem PySem.Spec PyProof.Rows L2
open VakepBase (Bytes Fault index Answer one)
open Vakepa (Prog total counts read)
open Vakepe (Order orders Held withCost withRun tooMuch bestPacks loadsOf sizesOf runCost)
/-! ### plain: what the steps answer -/
theorem withCost_no {x : Int} {f : Nat → Answer} (h : ¬ (0 ≤ x ∧ x ≤ 1000)) : withCost x f = one (-5) := if_pos (by
  show x < 0 ∨ ((1000 : Nat) : Int) < x
  omega)
theorem withCost_yes {x : Int} {f : Nat → Answer} (h : 0 ≤ x ∧ x ≤ 1000) : withCost x f = f x.toNat := if_neg (by
  show ¬ (x < 0 ∨ ((1000 : Nat) : Int) < x)
  omega)
section
variable {p : Prog} {e a : Int} {f : Order → Answer}
theorem withRun_e (h : index e p.starts.length = none) : withRun p e a f = one (-2) := by
  unfold withRun
  rw [h]
  rfl
theorem withRun_a {i k : Nat} (h : index e p.starts.length = some i) (hk : p.starts[i]? = some k) (h2 : index a (total p) = none) : withRun p e a f = one (-3) := by
  unfold withRun
  rw [h, Option.bind_some, hk, h2]
theorem withRun_ok {i k n : Nat} (h : index e p.starts.length = some i) (hk : p.starts[i]? = some k) (h2 : index a (total p) = some n) : withRun p e a f = f ⟨k, n, entOf p k n⟩ := by
  unfold withRun
  rw [h, Option.bind_some, hk, h2]
  rfl
end
def enc (a : Answer) : List Int := a.value :: a.rest
theorem lk_cost (z : Held) (x : Int) : ∃ f : Nat → Answer, Vakepe.looked z (.cost x) = withCost x f ∧ ∀ n, enc (f n) = costRow z n := ⟨_, Vakepe.looked.eq_1 z x, fun n => rfl⟩
theorem lk_run (z : Held) (e a : Int) : ∃ f : Order → Answer, Vakepe.looked z (.run_ e a) = withRun z.p e a f ∧ ∀ o, enc (f o) = ((runCost (sizesOf z.p z.l) 0 z.l o : Nat) : Int) :: loadsRow (loadsOf z.l o) := ⟨_, Vakepe.looked.eq_2 z e a, fun o => rfl⟩
theorem lk_before_no {z : Held} {i : Int} (h : index i z.p.parts.length = none) : Vakepe.looked z (.before i) = one (-4) := by
  rw [Vakepe.looked.eq_3, h]
theorem lk_before {z : Held} {i : Int} {j : Nat} (h : index i z.p.parts.length = some j) : Vakepe.looked z (.before i) = ⟨((Vakepe.beforeOf z.p j).1 : Int), Vakepe.listRow (Vakepe.beforeOf z.p j).2⟩ := by
  rw [Vakepe.looked.eq_3, h]
theorem lk_best (z : Held) (x y : Int) : ∃ f : Nat → Nat → Answer, Vakepe.looked z (.best x y) = withCost x (fun c => withCost y (f c)) ∧ (∀ n m, tooMuch z.p = true → f n m = one (-7)) ∧ ∀ (n m b : Nat) (l : List Nat), tooMuch z.p = false → bestPacks z.p n m = some (b, l) → f n m = ⟨(b : Int), Vakepe.nats l⟩ :=
  ⟨_, Vakepe.looked.eq_4 z x y, fun n m h => if_pos h, fun n m b l h h2 => (if_neg (by rw [h]; exact Bool.false_ne_true)).trans (by rw [h2])⟩
theorem lk_there (z : Held) (e a i : Int) : ∃ f : Order → Answer, Vakepe.looked z (.there e a i) = withRun z.p e a f ∧ (∀ o, index i z.p.parts.length = none → f o = one (-4)) ∧ ∀ o j, index i z.p.parts.length = some j → enc (f o) = thereRow z o j :=
  ⟨_, Vakepe.looked.eq_5 z e a i, fun o h => by
    dsimp only
    rw [h], fun o j h => by
    dsimp only
    rw [h]
    rfl⟩
/-- a call as the desk's functions are handed it -/
def CallAt (H : Hp) (k : Int) (ws : List Int) (ls : List Addr) : Vakepe.Call → Prop
  | .load b => k = 0 ∧ ∃ a, ls = [a] ∧ H a = some (.lst (nm b))
  | .packs l => k = 1 ∧ ∃ a, ls = [a] ∧ H a = some (.lst (l.map V.int))
  | .cost w => k = 2 ∧ ws = [w]
  | .run_ e a => k = 3 ∧ ws = [e, a]
  | .before i => k = 4 ∧ ws = [i]
  | .best w f => k = 5 ∧ ws = [w, f]
  | .move_ i n => k = 6 ∧ ws = [i, n]
  | .there e a i => k = 7 ∧ ws = [e, a, i]
def spAnswered (K : PySem.W.Frag) : Sp := fun vs H Q E => ∃ (F : List Addr) (D pl : Addr) (o : Option Held) (wl ll : Addr) (k : Int) (ws : List Int) (ls : List Addr) (c : Vakepe.Call), vs = [.ref D, .int k, .ref wl, .ref ll] ∧ IntLs H F ∧ pl ∉ F ∧ DeskO K D pl (off F H) o ∧ H wl = some (.lst (ws.map V.int)) ∧ H ll = some (.lst (ls.map V.ref)) ∧
  CallAt H k ws ls c ∧ k ≠ 0 ∧ (∀ n, Vakepe.step o c = (o, one n) → RefE K H E n) ∧ OutQ K F D pl H Q (Vakepe.step o c).1 (enc (Vakepe.step o c).2)
def spAnswer (K : PySem.W.Frag) : Sp := fun vs H Q _ => ∃ (F : List Addr) (D pl : Addr) (o : Option Held) (wl ll : Addr) (k : Int) (ws : List Int) (ls : List Addr) (c : Vakepe.Call), vs = [.ref D, .int k, .ref wl, .ref ll] ∧ IntLs H F ∧ pl ∉ F ∧ DeskO K D pl (off F H) o ∧ H wl = some (.lst (ws.map V.int)) ∧ H ll = some (.lst (ls.map V.ref)) ∧
  CallAt H k ws ls c ∧ OutQ K F D pl H Q (Vakepe.step o c).1 (enc (Vakepe.step o c).2)
section
variable {K : PySem.W.Frag} {F : List Addr} {D pl : Addr} {H : Hp} {Q : VK} {z : Held} {c : Dk} {row : List Int}
theorem OutQ.toRow (h : OutQ K F D c.pl H Q (some z) row) (d : DeskAt K D (off F H) c z) : RowQ H Q row := fun H' a s n e => h H' c.pl a ⟨c, rfl, d.mono (off_of_same s)⟩ (.inl rfl) (Keep.of_same s) n e
theorem OutQ.ans {z0 : Held} (h : OutQ K F D c.pl H Q (some z) row) (d : DeskAt K D (off F H) c z0) (hp : z.p = z0.p) (hF : IntLs H F) : AnsQ K D c H Q z row := fun H' c' a d' ⟨e1, e2, e3⟩ n k na e => by
  have nDF : D ∉ F := (off_some d.dk).1
  have nplF : c'.pl ∉ F := by
    rcases n with n | n
    · rw [n]
      exact (off_some d.pl).1
    · exact fun z => hF.live _ z n
  have s : Same (off [D, c.pl] (off F H)) (off [D, c'.pl] (off F H')) := fun b o e => by
    obtain ⟨b1, e⟩ := off_some e
    obtain ⟨b2, e⟩ := off_some e
    have b3 : b ≠ D := fun z => b1 (by rw [z]; simp)
    have b4 : b ≠ c'.pl := by
      rcases n with n | n
      · rw [n]
        exact fun z => b1 (by rw [z]; simp)
      · exact ne_of_none e n
    exact off_get (kp2 b3 b4) (off_get b2 (k _ _ b1 e))
  refine h H' c'.pl a ⟨c', rfl, off_get nDF d'.dk, ?_, ?_, off_get nplF d'.pl, d'.ok⟩ n k na e
  · rw [e1, hp]
    exact d.pg.mono s
  · rw [e2, e3, hp]
    exact d.rn.mono s
end
section
variable {P : Program} {w : World} {K : PySem.W.Frag} {mg : Str → Option Value} {base : Heap}
def N_answered : List Str := ["desk", "kind", "wholes", "lists"]
theorem sc_answered : FnScope N_answered ["desk", "kind", "wholes", "lists"] (defScope s_answered) := ⟨rfl, rfl, rfl, by decide +kernel, rfl, by decide +kernel, by decide +kernel⟩
theorem ok_answered (T : Txt K mg) : Ok P w K mg base 6 "answered" ["desk", "kind", "wholes", "lists"] (spAnswered K) := by
  have G_check : Ok P w K mg base 3 "check" ["is_right", "number"] (spCheck K) := ok_check T
  have G_packs : Ok P w K mg base 4 "packs" ["desk", "plan"] (spPacks K) := ok_packs T
  have G_cost : Ok P w K mg base 5 "cost" ["desk", "more"] (spCost K) := ok_cost T
  have G_run_cost : Ok P w K mg base 5 "run_cost" ["desk", "entry", "assignment"] (spRunCost K) := ok_run_cost T
  have G_before : Ok P w K mg base 5 "before" ["desk", "part"] (spBeforeD K) := ok_before T
  have G_best : Ok P w K mg base 5 "best" ["desk", "more", "first"] (spBest K) := ok_best T
  have G_move : Ok P w K mg base 5 "move" ["desk", "part", "pack"] (spMove K) := ok_move T
  have G_there : Ok P w K mg base 5 "there" ["desk", "entry", "assignment", "part"] (spThere K) := ok_there T
  refine ok_mk T.d_answered sc_answered (fun vs H Q E h => ?_) (fun cdv A outer s H vs Q E hr h => ?_)
  · obtain ⟨F, D, pl, o, wl, ll, k, ws, ls, c, rfl, _⟩ := h
    rfl
  · have hr_check : Room 3 _ := hr.mono (by decide)
    have hr_packs : Room 4 _ := hr.mono (by decide)
    have hr_cost : Room 5 _ := hr
    have hr_run_cost : Room 5 _ := hr
    have hr_before : Room 5 _ := hr
    have hr_best : Room 5 _ := hr
    have hr_move : Room 5 _ := hr
    have hr_there : Room 5 _ := hr
    refine ⟨_, (pss_cons (ps_expr (pe_cX G_check hr_check outE (pa_cons (pe_cmpR op_notN (pe_fld (pv 0) rfl) pe_non (nomark _)) (pa_cons (pe_gl (T.int "NO_PROGRAM" (-1))) pa_nil)))) (pss_cons (ps_if (pt_cmpR op_eq (pv 1) pe_int (nomark _)) (pss_one (ps_ret (pe_cX G_packs hr_packs outE (pa_cons (pv 0) (pa_cons (pe_ix ix_list (pv 3) pe_int (fun _ _ => rfl)) pa_nil))))) pss_nil) (pss_cons (ps_if (pt_cmpR op_eq (pv 1) pe_int (nomark _)) (pss_one (ps_ret (pe_cX G_cost hr_cost outE (pa_cons (pv 0) (pa_cons (pe_ix ix_list (pv 2) pe_int (fun _ _ => rfl)) pa_nil))))) pss_nil) (pss_cons (ps_if (pt_cmpR op_eq (pv 1) pe_int (nomark _)) (pss_one (ps_ret (pe_cX G_run_cost hr_run_cost outE (pa_cons (pv 0) (pa_cons (pe_ix ix_list (pv 2) pe_int (fun _ _ => rfl)) (pa_cons (pe_ix ix_list (pv 2) pe_int (fun _ _ => rfl)) pa_nil)))))) pss_nil) (pss_cons (ps_if (pt_cmpR op_eq (pv 1) pe_int (nomark _)) (pss_one (ps_ret (pe_cX G_before hr_before outE (pa_cons (pv 0) (pa_cons (pe_ix ix_list (pv 2) pe_int (fun _ _ => rfl)) pa_nil))))) pss_nil) (pss_cons (ps_if (pt_cmpR op_eq (pv 1) pe_int (nomark _)) (pss_one (ps_ret (pe_cX G_best hr_best outE (pa_cons (pv 0) (pa_cons (pe_ix ix_list (pv 2) pe_int (fun _ _ => rfl)) (pa_cons (pe_ix ix_list (pv 2) pe_int (fun _ _ => rfl)) pa_nil)))))) pss_nil) (pss_cons (ps_if (pt_cmpR op_eq (pv 1) pe_int (nomark _)) (pss_one (ps_ret (pe_cX G_move hr_move outE (pa_cons (pv 0) (pa_cons (pe_ix ix_list (pv 2) pe_int (fun _ _ => rfl)) (pa_cons (pe_ix ix_list (pv 2) pe_int (fun _ _ => rfl)) pa_nil)))))) pss_nil) (pss_one (ps_ret (pe_cX G_there hr_there outE (pa_cons (pv 0) (pa_cons (pe_ix ix_list (pv 2) pe_int (fun _ _ => rfl)) (pa_cons (pe_ix ix_list (pv 2) pe_int (fun _ _ => rfl)) (pa_cons (pe_ix ix_list (pv 2) pe_int (fun _ _ => rfl)) pa_nil)))))))))))))), ?_⟩
    obtain ⟨F, D, pl, o, wl, ll, k, ws, ls, cc, rfl, hIF, nplF, hoff, hw, hl, hc, hk0, hE, hQ⟩ := h
    cases o with
    | none =>
      obtain ⟨dx, rl, hD, hpl⟩ := hoff.mono (off_same (M := F))
      have e : Vakepe.step none cc = (none, one (-1)) := by
        cases cc with
        | load b => exact absurd hc.1 hk0
        | _ => rfl
      exact ⟨_, rfl, D, _, dx, _, _, rfl, hD, T.cls "Desk", T.noat "Desk" "program", dkF_program, rfl, _, -1, rfl, fun _ => hE _ e, fun e => by cases e⟩
    | some z =>
      obtain ⟨c, rfl, hdF⟩ := hoff
      have h := hdF.mono (off_same (M := F))
      refine ⟨_, rfl, D, _, c.dx, _, _, rfl, h.dk, T.cls "Desk", T.noat "Desk" "program", dkF_program, rfl, _, -1, rfl, (fun e => by cases e), fun _ => ?_⟩
      cases cc with
      | load b => exact absurd hc.1 hk0
      | packs l =>
        obtain ⟨rfl, a, rfl, ha⟩ := hc
        refine ⟨_, rfl, rfl, _, rfl, if_true_of (by decide) ⟨_, rfl, _, rfl, ll, _, 0, _, rfl, rfl, SqL.of hl, rfl, D, c, z, a, l, rfl, h, ha, fun hb => hE _ (if_pos hb), fun hb => ?_⟩⟩
        have e : Vakepe.step (some z) (.packs l) = Vakepe.planned z (l.map fun n => n.toNat) := if_neg hb
        rw [e] at hQ
        exact hQ.ans hdF rfl hIF
      | cost x =>
        obtain ⟨rfl, rfl⟩ := hc
        refine ⟨_, rfl, rfl, _, rfl, if_false_of (by decide) ⟨_, rfl, rfl, _, rfl, if_true_of (by decide) ⟨_, rfl, _, rfl, wl, _, 0, _, rfl, rfl, SqL.of hw, rfl, D, c, z, x, rfl, h, fun hb => hE _ ?_, fun hb => ?_⟩⟩⟩
        · obtain ⟨f, e1, e2⟩ := lk_cost z x
          show (some z, Vakepe.looked z (.cost x)) = _
          rw [e1, withCost_no hb]
        · obtain ⟨f, e1, e2⟩ := lk_cost z x
          have e : Vakepe.step (some z) (.cost x) = (some z, f x.toNat) := by
            show (some z, Vakepe.looked z (.cost x)) = _
            rw [e1, withCost_yes hb]
          rw [e] at hQ
          rw [← e2]
          exact hQ.toRow hdF
      | run_ e a =>
        obtain ⟨rfl, rfl⟩ := hc
        refine ⟨_, rfl, rfl, _, rfl, if_false_of (by decide) ⟨_, rfl, rfl, _, rfl, if_false_of (by decide) ⟨_, rfl, rfl, _, rfl, if_true_of (by decide) ⟨_, rfl, _, rfl, wl, _, 0, _, rfl, rfl, SqL.of hw, rfl, _, rfl, wl, _, 1, _, rfl, rfl, SqL.of hw, rfl, D, c, z, e, a, rfl, h, fun hb => hE _ ?_, fun i k hi hk => ⟨fun hb => hE _ ?_, fun n hn => ?_⟩⟩⟩⟩⟩
        · obtain ⟨f, e1, e2⟩ := lk_run z e a
          show (some z, Vakepe.looked z (.run_ e a)) = _
          rw [e1, withRun_e hb]
        · obtain ⟨f, e1, e2⟩ := lk_run z e a
          show (some z, Vakepe.looked z (.run_ e a)) = _
          rw [e1, withRun_a hi hk hb]
        · obtain ⟨f, e1, e2⟩ := lk_run z e a
          have e : Vakepe.step (some z) (.run_ e a) = (some z, f ⟨k, n, entOf z.p k n⟩) := by
            show (some z, Vakepe.looked z (.run_ e a)) = _
            rw [e1, withRun_ok hi hk hn]
          rw [e] at hQ
          rw [← e2]
          exact hQ.toRow hdF
      | before i =>
        obtain ⟨rfl, rfl⟩ := hc
        refine ⟨_, rfl, rfl, _, rfl, if_false_of (by decide) ⟨_, rfl, rfl, _, rfl, if_false_of (by decide) ⟨_, rfl, rfl, _, rfl, if_false_of (by decide) ⟨_, rfl, rfl, _, rfl, if_true_of (by decide) ⟨_, rfl, _, rfl, wl, _, 0, _, rfl, rfl, SqL.of hw, rfl, D, c, z, i, rfl, h, fun hb => hE _ ?_, fun j hj => ?_⟩⟩⟩⟩⟩
        · show (some z, Vakepe.looked z (.before i)) = _
          rw [lk_before_no hb]
        · have e : Vakepe.step (some z) (.before i) = (some z, ⟨((Vakepe.beforeOf z.p j).1 : Int), Vakepe.listRow (Vakepe.beforeOf z.p j).2⟩) := by
            show (some z, Vakepe.looked z (.before i)) = _
            rw [lk_before hj]
          rw [e] at hQ
          exact hQ.toRow hdF
      | best x y =>
        obtain ⟨rfl, rfl⟩ := hc
        refine ⟨_, rfl, rfl, _, rfl, if_false_of (by decide) ⟨_, rfl, rfl, _, rfl, if_false_of (by decide) ⟨_, rfl, rfl, _, rfl, if_false_of (by decide) ⟨_, rfl, rfl, _, rfl, if_false_of (by decide) ⟨_, rfl, rfl, _, rfl, if_true_of (by decide) ⟨_, rfl, _, rfl, wl, _, 0, _, rfl, rfl, SqL.of hw, rfl, _, rfl, wl, _, 1, _, rfl, rfl, SqL.of hw, rfl, D, c, z, x, y, rfl, h, fun hb => hE _ ?_, fun hx => ⟨fun hb => hE _ ?_, fun hy => ⟨fun ht => hE _ ?_, fun ht b l hbl => ?_⟩⟩⟩⟩⟩⟩⟩⟩
        · obtain ⟨f, e1, e2, e3⟩ := lk_best z x y
          show (some z, Vakepe.looked z (.best x y)) = _
          rw [e1, withCost_no hb]
        · obtain ⟨f, e1, e2, e3⟩ := lk_best z x y
          show (some z, Vakepe.looked z (.best x y)) = _
          rw [e1, withCost_yes hx, withCost_no hb]
        · obtain ⟨f, e1, e2, e3⟩ := lk_best z x y
          show (some z, Vakepe.looked z (.best x y)) = _
          rw [e1, withCost_yes hx, withCost_yes hy, e2 _ _ ht]
        · obtain ⟨f, e1, e2, e3⟩ := lk_best z x y
          have e : Vakepe.step (some z) (.best x y) = (some z, ⟨(b : Int), Vakepe.nats l⟩) := by
            show (some z, Vakepe.looked z (.best x y)) = _
            rw [e1, withCost_yes hx, withCost_yes hy, e3 _ _ b l ht hbl]
          rw [e] at hQ
          exact hQ.toRow hdF
      | move_ i n =>
        obtain ⟨rfl, rfl⟩ := hc
        refine ⟨_, rfl, rfl, _, rfl, if_false_of (by decide) ⟨_, rfl, rfl, _, rfl, if_false_of (by decide) ⟨_, rfl, rfl, _, rfl, if_false_of (by decide) ⟨_, rfl, rfl, _, rfl, if_false_of (by decide) ⟨_, rfl, rfl, _, rfl, if_false_of (by decide) ⟨_, rfl, rfl, _, rfl, if_true_of (by decide) ⟨_, rfl, _, rfl, wl, _, 0, _, rfl, rfl, SqL.of hw, rfl, _, rfl, wl, _, 1, _, rfl, rfl, SqL.of hw, rfl, D, c, z, i, n, rfl, h, fun hb => hE _ ?_, fun j hj => ⟨fun hb => hE _ ?_, fun m hm => ?_⟩⟩⟩⟩⟩⟩⟩⟩
        · show Vakepe.moveCall z i n = _
          unfold Vakepe.moveCall
          rw [hb]
        · show Vakepe.moveCall z i n = _
          unfold Vakepe.moveCall
          rw [hj, show index n Vakepe.PACKS = none from hb]
        · have e : Vakepe.step (some z) (.move_ i n) = Vakepe.planned z (z.l.set j m) := by
            show Vakepe.moveCall z i n = _
            unfold Vakepe.moveCall
            rw [hj, show index n Vakepe.PACKS = some m from hm]
          rw [e] at hQ
          exact hQ.ans hdF rfl hIF
      | there e a i =>
        obtain ⟨rfl, rfl⟩ := hc
        refine ⟨_, rfl, rfl, _, rfl, if_false_of (by decide) ⟨_, rfl, rfl, _, rfl, if_false_of (by decide) ⟨_, rfl, rfl, _, rfl, if_false_of (by decide) ⟨_, rfl, rfl, _, rfl, if_false_of (by decide) ⟨_, rfl, rfl, _, rfl, if_false_of (by decide) ⟨_, rfl, rfl, _, rfl, if_false_of (by decide) ⟨_, rfl, _, rfl, wl, _, 0, _, rfl, rfl, SqL.of hw, rfl, _, rfl, wl, _, 1, _, rfl, rfl, SqL.of hw, rfl, _, rfl, wl, _, 2, _, rfl, rfl, SqL.of hw, rfl, D, c, z, e, a, i, rfl, h, fun hb => hE _ ?_, fun j k hj hk => ⟨fun hb => hE _ ?_, fun n hn => ⟨fun hb => hE _ ?_, fun m hm => ?_⟩⟩⟩⟩⟩⟩⟩⟩⟩
        · obtain ⟨f, e1, e2, e3⟩ := lk_there z e a i
          show (some z, Vakepe.looked z (.there e a i)) = _
          rw [e1, withRun_e hb]
        · obtain ⟨f, e1, e2, e3⟩ := lk_there z e a i
          show (some z, Vakepe.looked z (.there e a i)) = _
          rw [e1, withRun_a hj hk hb]
        · obtain ⟨f, e1, e2, e3⟩ := lk_there z e a i
          show (some z, Vakepe.looked z (.there e a i)) = _
          rw [e1, withRun_ok hj hk hn, e2 _ hb]
        · obtain ⟨f, e1, e2, e3⟩ := lk_there z e a i
          have e : Vakepe.step (some z) (.there e a i) = (some z, f ⟨k, n, entOf z.p k n⟩) := by
            show (some z, Vakepe.looked z (.there e a i)) = _
            rw [e1, withRun_ok hj hk hn]
          rw [e] at hQ
          rw [← e3 _ _ hm]
          exact hQ.toRow hdF
end
end PP

set_option Elab.async false
set_option linter.all false
set_option maxRecDepth 100000
set_option maxHeartbeats 4000000
namespace PP
open PySem PySem.Spec PyProof.Rows L2
open VakepBase (Bytes Fault index Answer one)
open Vakepa (Prog total counts read)
open Vakepe (Order orders Held)
section
variable {P : Program} {w : World} {K : PySem.W.Frag} {mg : Str → Option Value} {base : Heap}
def N_answer : List Str := ["desk", "kind", "wholes", "lists", "refused", "found"]
theorem sc_answer : FnScope N_answer ["desk", "kind", "wholes", "lists"] (defScope s_answer) := ⟨rfl, rfl, rfl, by decide +kernel, rfl, by decide +kernel, by decide +kernel⟩
theorem ok_answer (T : Txt K mg) : Ok P w K mg base 61 "answer" ["desk", "kind", "wholes", "lists"] (spAnswer K) := by
  have G_load : Ok P w K mg base 60 "load" ["desk", "text"] (spLoad K) := ok_load T
  have G_answered : Ok P w K mg base 6 "answered" ["desk", "kind", "wholes", "lists"] (spAnswered K) := ok_answered T
  refine ok_mk T.d_answer sc_answer (fun vs H Q E h => ?_) (fun cdv A outer s H vs Q E hr h => ?_)
  · obtain ⟨F, D, pl, o, wl, ll, k, ws, ls, c, rfl, _⟩ := h
    rfl
  · have hr_load : Room 60 _ := hr
    have hr_answered : Room 6 _ := hr.mono (by decide)
    refine ⟨_, (pss_cons (ps_if (pt_cmpR op_eq (pv 1) pe_int (nomark _)) (pss_one (ps_ret (pe_c G_load hr_load (pa_cons (pv 0) (pa_cons (pe_ix ix_list (pv 3) pe_int (fun _ _ => rfl)) pa_nil))))) pss_nil) (pss_cons (ps_try_as (i := 4) (tb := fun W => tAsg (tCallS (spAnswered K) (WE W) (tCons (tVar 0) (tCons (tVar 1) (tCons (tVar 2) (tCons (tVar 3) tNil))))) (gName 5)) (ts := fun a cls d => tRet (tLst (tCons (tXf a cls d (He.ga K "Refused") "number" (tVar 4)) tNil))) (Wout := fun _ _ _ _ => False) rfl rfl sc_answer.nd rfl rfl ⟨rfl, by decide, Or.inl (T.g "Refused")⟩ takes0 (fun W pn xe tk _ => pss_one (ps_set (i := 5) sc_answer.nd rfl (Or.inl rfl) (by exact (pe_cS G_answered hr_answered tk (by exact (pa_cons (pv 0) (pa_cons (pv 1) (pa_cons (pv 2) (pa_cons (pv 3) pa_nil))))))))) (fun a oe cls d pn hz hf => pss_one (ps_ret (by exact (pe_lst (pa_cons (pe_xf T.refused.f (T.noat "Refused" "number") hz hf (pv 4)) pa_nil)))))) (pss_one (ps_ret (pv 5))))), ?_⟩
    obtain ⟨F, D, pl, o, wl, ll, k, ws, ls, c, rfl, hIF, nplF, h, hw, hl, hc, hQ⟩ := h
    refine ⟨_, rfl, rfl, _, rfl, if_both (fun e => ?_) fun e => ?_⟩
    · have e : k = 0 := by
        have e := of_decide_eq_true e
        injection e
      cases c with
      | load b =>
        obtain ⟨_, a, rfl, ha⟩ := hc
        refine ⟨_, rfl, _, rfl, ll, _, 0, _, rfl, rfl, SqL.of hl, rfl, F, D, pl, o, a, b, rfl, hIF, h, SqL.of ha, fun f hf => ?_, fun p hp => ?_⟩
        · have es : Vakepe.step o (.load b) = (o, VakepBase.faulty f) := by
            rw [Vakepe.step.eq_1, hf]
          rw [es] at hQ
          exact hQ
        · have es : Vakepe.step o (.load b) = (some (held0 p), ⟨1, Vakepe.nats [p.sets.length, p.parts.length, p.starts.length, total p]⟩) := by
            rw [Vakepe.step.eq_1, hp]
            rfl
          rw [es] at hQ
          exact hQ
      | packs _ => exact absurd (e.symm.trans hc.1) (by decide)
      | cost _ => exact absurd (e.symm.trans hc.1) (by decide)
      | run_ _ _ => exact absurd (e.symm.trans hc.1) (by decide)
      | before _ => exact absurd (e.symm.trans hc.1) (by decide)
      | best _ _ => exact absurd (e.symm.trans hc.1) (by decide)
      | move_ _ _ => exact absurd (e.symm.trans hc.1) (by decide)
      | there _ _ _ => exact absurd (e.symm.trans hc.1) (by decide)
    · have e : k ≠ 0 := by
        have e := of_decide_eq_false e
        intro z
        subst z
        exact e rfl
      refine ⟨_, rfl, _, rfl, _, rfl, _, rfl, F, D, pl, o, wl, ll, k, ws, ls, c, rfl, hIF, nplF, h, hw, hl, hc, e, fun n hn d H' s ed => ⟨true, T.exm "Refused", fun _ x nx => ?_, fun z => by cases z⟩, fun H' pl' a d n kp na ea => ⟨_, rfl, hQ H' pl' a d n kp na ea⟩⟩
      refine ⟨_, rfl, rfl, rfl, d, _, _, rfl, ed, lk_here, by show 1 ≤ sizeLine; decide, fun ad nad => ?_⟩
      rw [hn] at hQ
      have s1 : Same H (upd H' ad (.lst [.int n])) := s.trans (same_upd nad)
      exact hQ _ pl ad (h.mono (off_of_same s1)) (.inl rfl) (Keep.of_same s1) (s.free nad) upd_same
end
/-! ### plain: the flat list -/
theorem shape_at {p : Int} {n k : Nat} (h : PyVakepe.shape p = some (n, k)) : ∃ j : Nat, p = (j : Int) ∧ ([0, 0, 1, 2, 1, 2, 2, 3] : List Int)[j]? = some (n : Int) ∧ ([1, 1, 0, 0, 0, 0, 0, 0] : List Int)[j]? = some (k : Int) ∧ k ≤ 1 := by
  unfold PyVakepe.shape at h
  split at h
  · cases h
    exact ⟨0, by assumption, rfl, rfl, by decide⟩
  split at h
  · cases h
    exact ⟨1, by assumption, rfl, rfl, by decide⟩
  split at h
  · cases h
    exact ⟨2, by assumption, rfl, rfl, by decide⟩
  split at h
  · cases h
    exact ⟨3, by assumption, rfl, rfl, by decide⟩
  split at h
  · cases h
    exact ⟨4, by assumption, rfl, rfl, by decide⟩
  split at h
  · cases h
    exact ⟨5, by assumption, rfl, rfl, by decide⟩
  split at h
  · cases h
    exact ⟨6, by assumption, rfl, rfl, by decide⟩
  split at h
  · cases h
    exact ⟨7, by assumption, rfl, rfl, by decide⟩
  · cases h
theorem whole_id (c : List (List Int)) : PyVakepe.whole c = c := by
  unfold PyVakepe.whole
  split <;> rfl
theorem bytes_nm {b : List Int} (h : ∀ x ∈ b, 0 ≤ x ∧ x < 256) : nm (VakepeNeutral.bytesOf b) = b.map V.int := by
  unfold nm VakepeNeutral.bytesOf
  rw [List.map_map]
  refine List.map_congr_left fun x hx => ?_
  obtain ⟨h1, h2⟩ := h x hx
  show V.int (((UInt8.ofNat x.toNat).toNat : Nat) : Int) = V.int x
  rw [UInt8.toNat_ofNat']
  congr 1
  omega
def RowsIn (H : Hp) (ls : List Addr) (xs : List (List Int)) : Prop := Paired (fun a x => H a = some (.lst (x.map V.int))) ls xs
theorem call_of {p : Int} {ws : List Int} {xs : List (List Int)} (ha : VakepeNeutral.asked1 ((p :: ws) :: xs) = true) : ∃ cc, VakepeNeutral.callOf ((p :: ws) :: xs) = some cc ∧ ∀ H ls, RowsIn H ls xs → CallAt H p ws ls cc := by
  unfold VakepeNeutral.asked1 at ha
  split at ha
  · rename_i b e
    injection e with e e2
    injection e with e e3
    subst e e2 e3
    rw [Bool.and_eq_true] at ha
    have hb : ∀ x ∈ b, 0 ≤ x ∧ x < 256 := fun x hx => by
      have := List.all_eq_true.mp ha.1 x hx
      unfold VakepeNeutral.natural at this
      rw [Bool.and_eq_true] at this
      exact ⟨of_decide_eq_true this.1, of_decide_eq_true this.2⟩
    refine ⟨.load (VakepeNeutral.bytesOf b), ?_, fun H ls hl => ?_⟩
    · refine if_pos (List.all_eq_true.mpr fun x hx => ?_)
      obtain ⟨h1, h2⟩ := hb x hx
      rw [Bool.and_eq_true]
      exact ⟨decide_eq_true h1, decide_eq_true (by omega)⟩
    · cases hl with
      | cons h1 h2 =>
        cases h2
        exact ⟨rfl, _, rfl, by rw [bytes_nm hb]; exact h1⟩
  · rename_i b e
    injection e with e e2
    injection e with e e3
    subst e e2 e3
    refine ⟨.packs b, rfl, fun H ls hl => ?_⟩
    cases hl with
    | cons h1 h2 =>
      cases h2
      exact ⟨rfl, _, rfl, h1⟩
  all_goals first
    | cases ha
    | skip
  all_goals
    rename_i e
    injection e with e e2
    injection e with e e3
    subst e e2 e3
    exact ⟨_, rfl, fun H ls hl => ⟨rfl, rfl⟩⟩
end PP

set_option Elab.async false
set_option linter.all false
set_option maxRecDepth 100000
set_option maxHeartbeats 4000000
namespace PP
open PySem PySem.Spec PyProof.Rows L2
open VakepBase (Bytes Fault index Answer one)
open Vakepe (Order orders Held)
theorem calls_cons {f : Nat} {p : Int} {r : List Int} {raw : List (List (List Int))} (h : PyFlat.calls PyVakepe.shape f (p :: r) = some raw) : ∃ n k xs t g raw', f = g + 1 ∧ PyVakepe.shape p = some (n, k) ∧ n ≤ r.length ∧ PyFlat.rows k (r.drop n) = some (xs, t) ∧ PyFlat.calls PyVakepe.shape g t = some raw' ∧ raw = ((p :: r.take n) :: xs) :: raw' := by
  cases f with
  | zero => cases h
  | succ g =>
    have h : (match PyFlat.call PyVakepe.shape (p :: r) with | none => none | some (c, t) => match PyFlat.calls PyVakepe.shape g t with | none => none | some cs => some (c :: cs)) = some raw := h
    cases e1 : PyFlat.call PyVakepe.shape (p :: r) with
    | none =>
      rw [e1] at h
      cases h
    | some ct =>
      obtain ⟨c, t⟩ := ct
      rw [e1] at h
      have h : (match PyFlat.calls PyVakepe.shape g t with | none => none | some cs => some (c :: cs)) = some raw := h
      cases e2 : PyFlat.calls PyVakepe.shape g t with
      | none =>
        rw [e2] at h
        cases h
      | some cs =>
        rw [e2] at h
        have h := Option.some.inj h
        unfold PyFlat.call at e1
        dsimp only at e1
        cases hs : PyVakepe.shape p with
        | none =>
          rw [hs] at e1
          cases e1
        | some nk =>
          obtain ⟨n, k⟩ := nk
          rw [hs] at e1
          dsimp only at e1
          by_cases hn : r.length < n
          · rw [if_pos hn] at e1
            cases e1
          · rw [if_neg hn] at e1
            cases hr : PyFlat.rows k (r.drop n) with
            | none =>
              rw [hr] at e1
              cases e1
            | some xt =>
              obtain ⟨xs, t'⟩ := xt
              rw [hr] at e1
              dsimp only at e1
              cases e1
              exact ⟨n, k, xs, t, g, cs, rfl, rfl, by omega, hr, e2, h.symm⟩
theorem rows_one {xs : List (List Int)} {s t : List Int} (h : PyFlat.rows 1 s = some (xs, t)) : ∃ m s', s = m :: s' ∧ 0 ≤ m ∧ m.toNat ≤ s'.length ∧ xs = [s'.take m.toNat] ∧ t = s'.drop m.toNat := by
  unfold PyFlat.rows at h
  split at h
  · cases h
  · rename_i x s2 hr
    unfold PyFlat.rows at h
    cases h
    cases s with
    | nil => cases hr
    | cons m s' =>
      unfold PyFlat.row at hr
      dsimp only at hr
      split at hr
      · rename_i hm
        cases hr
        exact ⟨m, s', rfl, hm.1, hm.2, rfl, rfl⟩
      · cases hr
theorem rows_none {s t : List Int} {xs : List (List Int)} (h : PyFlat.rows 0 s = some (xs, t)) : xs = [] ∧ t = s := by
  unfold PyFlat.rows at h
  cases h
  exact ⟨rfl, rfl⟩
def told (o : Option Held) (raw : List (List (List Int))) : List Int := PyFlat.told (PyFlat.played VakepeNeutral.step o raw)
theorem told_cons {o : Option Held} {c : List (List Int)} {cc : Vakepe.Call} (h : VakepeNeutral.callOf c = some cc) (raw : List (List (List Int))) : told o (c :: raw) = (((enc (Vakepe.step o cc).2).length : Nat) : Int) :: (enc (Vakepe.step o cc).2 ++ told (Vakepe.step o cc).1 raw) := by
  have e : VakepeNeutral.step o c = ((Vakepe.step o cc).1, enc (Vakepe.step o cc).2) := by
    unfold VakepeNeutral.step
    rw [h]
    rfl
  have e2 : PyFlat.played VakepeNeutral.step o (c :: raw) = (VakepeNeutral.step o c).2 :: PyFlat.played VakepeNeutral.step (VakepeNeutral.step o c).1 raw := rfl
  unfold told
  rw [e2, e]
  unfold PyFlat.told
  rw [List.flatMap_cons]
  rfl
theorem cut_all {l : List Int} {i j : Nat} (hi : i ≤ j) (hj : j ≤ l.length) : cutV (l.map V.int) (some (i : Int)) (some (j : Int)) = ((l.drop i).take (j - i)).map V.int := by
  have e : ((i + (j - i) : Nat) : Int) = (j : Int) := by omega
  rw [← e, cut_nat (by rw [List.length_map]; omega), ← List.map_drop, ← List.map_take]
def Kc (K : PySem.W.Frag) (a : Addr) (xs : List V) : Prop := ∀ H', SqL K H' a xs
theorem sq_keep {K : PySem.W.Frag} {H H' : Hp} {M : List Addr} {a : Addr} {xs : List V} (h : SqL K H a xs) (k : Keep M H H') (n : Kc K a xs ∨ a ∉ M) : SqL K H' a xs := by
  rcases n with n | n
  · exact n H'
  · rcases h with (h | ⟨o, h⟩) | h
    · exact .inl (.inl (k _ _ n h))
    · exact .inl (.inr ⟨o, k _ _ n h⟩)
    · exact .inr h
theorem sq_new {K : PySem.W.Frag} {H : Hp} {a b : Addr} {xs : List V} (h : SqL K H a xs) (e : H b = none) : Kc K a xs ∨ a ≠ b := by
  rcases h with (h | ⟨o, h⟩) | h
  · exact .inr (ne_of_none h e)
  · exact .inr (ne_of_none h e)
  · exact .inl fun H' => .inr h
/-! ### the promise -/
def spAns (K : PySem.W.Frag) : Sp := fun vs H Q _ => ∃ (ca : Addr) (l : List Int), vs = [.ref ca] ∧ SqL K H ca (l.map V.int) ∧ l.length ≤ 100000 ∧ PyVakepe.answers_asked l = true ∧
  ∀ (H' : Hp) (fo : Addr), H' fo = some (.lst ((PyVakepe.answers l).map V.int)) → Q (.ref fo) H'
theorem asked_of {l : List Int} (h : PyVakepe.answers_asked l = true) : ∃ raw, PyFlat.calls PyVakepe.shape l.length l = some raw ∧ PyVakepe.answers l = told none raw ∧ (∀ c ∈ raw, VakepeNeutral.asked1 c = true) ∧ (PyVakepe.answers l).length ≤ 10000000 := by
  unfold PyVakepe.answers_asked at h
  cases e : PyFlat.calls PyVakepe.shape l.length l with
  | none =>
    rw [e] at h
    cases h
  | some raw =>
    rw [e] at h
    simp only [Bool.and_eq_true] at h
    obtain ⟨⟨⟨⟨h1, h2⟩, h3⟩, h4⟩, h5⟩ := h
    have em : raw.map PyVakepe.whole = raw := by
      rw [show PyVakepe.whole = id from funext whole_id, List.map_id]
    refine ⟨raw, rfl, ?_, ?_, of_decide_eq_true h5⟩
    · unfold PyVakepe.answers PyVakepe.calls
      rw [e]
      dsimp only
      rw [em]
      rfl
    · rw [em] at h4
      unfold VakepeNeutral.asked at h4
      rw [Bool.and_eq_true] at h4
      exact fun c hc => List.all_eq_true.mp h4.1 c hc
section
variable {P : Program} {w : World} {K : PySem.W.Frag} {mg : Str → Option Value} {base : Heap}
def N_answers : List Str := ["calls", "desk", "found", "at", "kind", "begin", "wholes", "lists", "k", "numbers", "end"]
theorem sc_answers : FnScope N_answers ["calls"] (defScope s_answers) := ⟨rfl, rfl, rfl, by decide +kernel, rfl, by decide +kernel, by decide +kernel⟩
theorem fnOk_answers (T : Txt K mg) {fd : FuncData} (F : FunD K "answers" "answers" (defArgs s_answers) (defBody s_answers) (defScope s_answers) [] [] (He.ga K "answers") fd) : FnOk P w K mg base (L2.CX P w) 62 (He.ga K "answers") fd ["calls"] (spAns K) := by
  have G_answer : Ok P w K mg base 61 "answer" ["desk", "kind", "wholes", "lists"] (spAnswer K) := ok_answer T
  have G_Desk_init : OkI P w K mg base 1 "Desk" ["self"] (spDeskI K) := ok_Desk_init T
  refine F.ok sc_answers (fun vs H Q E h => ?_) (fun cdv A outer s H vs Q E hr h => ?_)
  · obtain ⟨ca, l, rfl, _⟩ := h
    rfl
  · have hr_answer : Room 61 _ := hr
    have hr_Desk : Room (1 + 1) _ := hr.mono (by decide)
    refine ⟨_, (pss_cons (ps_set (i := 1) sc_answers.nd rfl (Or.inl rfl) (pe_mkI0 (T.mkr "Desk") G_Desk_init hr_Desk (T.g "Desk"))) (pss_cons (ps_set (i := 2) sc_answers.nd rfl (Or.inl rfl) (pe_lst pa_nil)) (pss_cons (ps_set (i := 3) sc_answers.nd rfl (Or.inl rfl) pe_int) (pss_cons (ps_while (passes_of rfl) (pt_cmpR op_lt (pv 3) (pe_callB call_len (by rfl) (T.free "len") PySem.boot_len (pa_cons (pv 0) pa_nil)) (nomark _)) (pss_cons (ps_set (i := 4) sc_answers.nd rfl (Or.inl rfl) (pe_ix ix_list (pv 0) (pv 3) (fun _ _ => rfl))) (pss_cons (ps_set (i := 5) sc_answers.nd rfl (Or.inl rfl) (pe_op op_add (pe_op op_add (pv 3) pe_int) (pe_ix ix_tup (pe_gl (T.gV "WHOLES")) (pv 4) (fun _ _ => rfl)))) (pss_cons (ps_set (i := 6) sc_answers.nd rfl (Or.inl rfl) (pe_slice sl_list (pv 0) (po_some (pe_op op_add (pv 3) pe_int)) (po_some (pv 5)))) (pss_cons (ps_set (i := 7) sc_answers.nd rfl (Or.inl rfl) (pe_lst pa_nil)) (pss_cons (ps_set (i := 3) sc_answers.nd rfl (Or.inl rfl) (pv 5)) (pss_cons (ps_for (passes_of rfl) rfl (pi_range1 (by rfl) (T.free "range") (pa_cons (pe_ix ix_tup (pe_gl (T.gV "LISTS")) (pv 4) (fun _ _ => rfl)) pa_nil)) (pg_name (i := 8) sc_answers.nd rfl (Or.inl rfl)) (pss_cons (ps_set (i := 10) sc_answers.nd rfl (Or.inl rfl) (pe_op op_add (pe_op op_add (pv 3) pe_int) (pe_ix ix_list (pv 0) (pv 3) (fun _ _ => rfl)))) (pss_cons (ps_expr (pe_bm PySem.F.plainAttrs_list PySem.F.slot_list_append PySem.F.type_list_append mt_append (pv 7) (pa_cons (pe_slice sl_list (pv 0) (po_some (pe_op op_add (pv 3) pe_int)) (po_some (pv 10))) pa_nil))) (pss_one (ps_set (i := 3) sc_answers.nd rfl (Or.inl rfl) (pv 10)))))) (pss_cons (ps_set (i := 9) sc_answers.nd rfl (Or.inl rfl) (pe_c G_answer hr_answer (pa_cons (pv 1) (pa_cons (pv 4) (pa_cons (pv 6) (pa_cons (pv 7) pa_nil)))))) (pss_cons (ps_expr (pe_bm PySem.F.plainAttrs_list PySem.F.slot_list_append PySem.F.type_list_append mt_append (pv 2) (pa_cons (pe_callB call_len (by rfl) (T.free "len") PySem.boot_len (pa_cons (pv 9) pa_nil)) pa_nil))) (pss_one (ps_expr (pe_bm PySem.F.plainAttrs_list PySem.F.slot_list_extend PySem.F.type_list_extend mt_extend (pv 2) (pa_cons (pv 9) pa_nil))))))))))))) (pss_one (ps_ret (pv 2))))))), ?_⟩
    obtain ⟨ca, l, rfl, hcaS, hl5, hask, q⟩ := h
    obtain ⟨raw, hraw, hans, has1, hshort⟩ := asked_of hask
    refine fun D dx nD ndx ne => ⟨D, dx, rfl, upd_same, fun H1 rl pl k1 nrl npl hD1 hpl1 => ⟨rfl, ?_⟩⟩
    have s0 : Same H (upd (upd H dx (.own D)) D (.ins (He.ga K "Desk") dx [])) := new2 nD ndx
    have s1 : Same H H1 := fun b o e => k1 _ _ (by rw [List.mem_singleton]; exact ne_of_none e nD) (s0 _ _ e)
    have hca1 := s1.seq hcaS
    have ncD0 : Kc K ca (l.map V.int) ∨ ca ≠ D := sq_new hcaS nD
    have d1 : DeskO K D pl H1 none := ⟨dx, rl, hD1, hpl1⟩
    have ncp : Kc K ca (l.map V.int) ∨ ca ≠ pl := sq_new hcaS (s0.free npl)
    refine ⟨Nat.zero_le _, fun fo nfo => ?_⟩
    have s2 : Same H1 (upd H1 fo (.lst [])) := same_upd nfo
    let W : Nat → L2.St → Hp → Prop := fun m σ H' => ∃ (pl : Addr) (o : Option Held) (at_ : Nat) (fu : Nat) (raw' : List (List (List Int))) (done : List Int) (v4 v5 v6 v7 v8 v9 v10 : Option V), σ = [some (.ref ca), some (.ref D), some (.ref fo), some (.int (at_ : Nat)), v4, v5, v6, v7, v8, v9, v10] ∧
      at_ ≤ l.length ∧ l.length - at_ = m ∧ PyFlat.calls PyVakepe.shape fu (l.drop at_) = some raw' ∧ (∀ c ∈ raw', VakepeNeutral.asked1 c = true) ∧ DeskO K D pl (off [fo] H') o ∧ SqL K H' ca (l.map V.int) ∧ H' fo = some (.lst (done.map V.int)) ∧ fo ≠ pl ∧ (Kc K ca (l.map V.int) ∨ ca ≠ pl) ∧ (Kc K ca (l.map V.int) ∨ ca ≠ fo) ∧
      PyVakepe.answers l = done ++ told o raw'
    refine ⟨W, ⟨l.length, pl, none, 0, l.length, raw, [], none, none, none, none, none, none, none, rfl, Nat.zero_le _, rfl, hraw, has1, d1.mono (off1_same nfo s2), s2.seq hca1, upd_same, (ne_of_none hpl1 nfo).symm, ncp, sq_new hca1 nfo, hans⟩, ?_⟩
    rintro m σ H2 ⟨pl, o, at_, fu, raw', done, v4, v5, v6, v7, v8, v9, v10, rfl, hal, hm, hcs, hasked, hdk, hca2, hfo2, n1, n2, n3, hst⟩
    refine ⟨_, rfl, _, rfl, _, l.length, rfl, .inl ⟨_, hca2, (List.length_map _).symm⟩, _, _, rfl, rfl, _, rfl, if_both (fun e => ?_) fun e => ?_⟩
    rotate_left
    · have e : at_ = l.length := by
        have e := of_decide_eq_false e
        omega
      have er : l.drop at_ = [] := List.drop_eq_nil_of_le (by omega)
      rw [er] at hcs
      have hr0 : raw' = [] := by
        cases fu with
        | zero => cases hcs; rfl
        | succ f => cases hcs; rfl
      subst hr0
      have ea : PyVakepe.answers l = done := by
        rw [hst]
        exact List.append_nil _
      refine ⟨_, rfl, q H2 fo ?_⟩
      rw [ea]
      exact hfo2
    · have hlt : at_ < l.length := by
        have e := of_decide_eq_true e
        omega
      have hdr : l.drop at_ = l[at_] :: l.drop (at_ + 1) := List.drop_eq_getElem_cons hlt
      obtain ⟨p, hp⟩ : ∃ p, l[at_]? = some p := ⟨_, List.getElem?_eq_getElem hlt⟩
      have hpe : l[at_] = p := (List.getElem?_eq_some_iff.mp hp).2
      rw [hdr, hpe] at hcs
      obtain ⟨n, k, xs, t, g, raw2, rfl, hsh, hn, hrows, hrest, rfl⟩ := calls_cons hcs
      obtain ⟨j, rfl, hw, hls, hk1⟩ := shape_at hsh
      have hlen1 : (l.drop (at_ + 1)).length = l.length - (at_ + 1) := List.length_drop
      rw [hlen1] at hn
      refine ⟨fun σ' H' => ∃ m'', m'' < m ∧ W m'' σ' H', fun _ _ h => h, ?_⟩
      -- kind, begin, wholes, lists, at
      refine ⟨_, rfl, _, rfl, ca, _, at_, _, rfl, rfl, hca2, atI_nat (by rw [List.getElem?_map, hp]; rfl), ?_⟩
      refine ⟨_, rfl, _, _, rfl, rfl, _, rfl, _, _, j, _, rfl, rfl, T.t_WHOLES H2, atI_nat (by show (List.map V.int [0, 0, 1, 2, 1, 2, 2, 3])[j]? = _; rw [List.getElem?_map, hw]; rfl), _, _, rfl, rfl, ?_⟩
      have hws : cutV (l.map V.int) (some ((at_ : Int) + 1)) (some ((at_ : Int) + 1 + (n : Int))) = ((l.drop (at_ + 1)).take n).map V.int := by
        have h := cut_all (l := l) (i := at_ + 1) (j := at_ + 1 + n) (by omega) (by omega)
        rw [show at_ + 1 + n - (at_ + 1) = n by omega] at h
        exact h
      refine ⟨_, rfl, _, rfl, _, _, rfl, rfl, _, rfl, _, rfl, _, rfl, ca, _, rfl, hca2, fun wl nwl => ?_⟩
      rw [hws]
      have s3 : Same H2 (upd H2 wl (.lst (((l.drop (at_ + 1)).take n).map V.int))) := same_upd nwl
      refine ⟨Nat.zero_le _, fun ll nll => ?_⟩
      have s4 : Same H2 (upd (upd H2 wl (.lst (((l.drop (at_ + 1)).take n).map V.int))) ll (.lst [])) := s3.trans (same_upd nll)
      have hwl4 : (upd (upd H2 wl (.lst (((l.drop (at_ + 1)).take n).map V.int))) ll (.lst [])) wl = some (.lst (((l.drop (at_ + 1)).take n).map V.int)) := same_upd nll _ _ upd_same
      have hll4 : (upd (upd H2 wl (.lst (((l.drop (at_ + 1)).take n).map V.int))) ll (.lst [])) ll = some (.lst []) := upd_same
      have nll2 : H2 ll = none := s3.free nll
      have nwll : wl ≠ ll := ne_of_none upd_same nll
      clear nll
      revert s4 hwl4 hll4
      generalize upd (upd H2 wl (.lst (((l.drop (at_ + 1)).take n).map V.int))) ll (.lst []) = H4
      intro s4 hwl4 hll4
      obtain ⟨cc, hco, hcall⟩ := call_of (hasked _ List.mem_cons_self)
      rw [told_cons hco] at hst
      refine ⟨_, rfl, _, rfl, _, _, j, _, rfl, rfl, T.t_LISTS H4, atI_nat (by show (List.map V.int [1, 1, 0, 0, 0, 0, 0, 0])[j]? = _; rw [List.getElem?_map, hls]; rfl), (k : Int), rfl, by omega, by omega, ?_⟩
      have hk : k = 0 ∨ k = 1 := by omega
      rcases hk with rfl | rfl
      · obtain ⟨rfl, rfl⟩ := rows_none hrows
        refine for_range (n := 0) (fun i σ H5 => σ = [some (.ref ca), some (.ref D), some (.ref fo), some (.int ((at_ : Int) + 1 + (n : Int))), some (.int (j : Nat)), some (.int ((at_ : Int) + 1 + (n : Int))), some (.ref wl), some (.ref ll), v8, v9, v10] ∧ H5 = H4) ⟨rfl, rfl⟩ ?_ ?_
        · intro i σ H5 hi _
          exact absurd hi (Nat.not_lt_zero _)
        rintro σ H5 ⟨rfl, rfl⟩
        obtain ⟨at2, hat⟩ : ∃ at2, at2 = at_ + 1 + n := ⟨_, rfl⟩
        obtain ⟨ls, hlse⟩ : ∃ ls : List Addr, ls = [] := ⟨_, rfl⟩
        have s25 := s4
        have hwl5 := hwl4
        have hll5 : H5 ll = some (.lst (ls.map V.ref)) := by
          rw [hlse]
          exact hll4
        have hrows5 : RowsIn H5 ls [] := by
          rw [hlse]
          exact .nil
        have ht : l.drop at2 = (l.drop (at_ + 1)).drop n := by rw [List.drop_drop, hat]
        have hat2 : at2 ≤ l.length := by omega
        have hat3 : (at_ : Int) + 1 + (n : Int) = (at2 : Int) := by omega
        rw [hat3]
        have hdk5 := hdk.mono (off_of_same s25)
        obtain ⟨dx5, x5, y5, hDD0, xs5, hpl5⟩ := hdk5.at
        have hDD := off_same _ _ hDD0
        have hfo5 := s25 _ _ hfo2
        have hca5 := s25.seq hca2
        have nfD : fo ≠ D := ne_of hfo5 hDD (fun z => by cases z)
        refine ⟨_, rfl, _, rfl, _, rfl, _, rfl, [fo], D, pl, o, wl, ll, (j : Int), (l.drop (at_ + 1)).take n, ls, cc, rfl, (fun f hf => ⟨done, by rw [List.mem_singleton.mp hf]; exact hfo5⟩), (by simpa using n1.symm), hdk5, hwl5, hll5, hcall H5 ls hrows5, fun H6 pl2 a hdk6 hpl2 kp6 na ha => ?_⟩
        have hfo6 := kp6 _ _ (kp2 nfD n1) hfo5
        have hca6 := sq_keep hca5 kp6 (by
          rcases ncD0 with k | a1
          · exact .inl k
          · rcases n2 with k | a2
            · exact .inl k
            · exact .inr (kp2 a1 a2))
        have naf : a ≠ fo := (ne_of_none hfo5 na).symm
        have m1 : fo ≠ pl2 := by
          rcases hpl2 with e | e
          · rw [e]
            exact n1
          · exact ne_of_none hfo5 e
        have m2 : Kc K ca (l.map V.int) ∨ ca ≠ pl2 := by
          rcases hpl2 with e | e
          · rw [e]
            exact n2
          · exact sq_new hca5 e
        have n3' : Kc K ca (l.map V.int) ∨ ca ∉ [fo] := n3.imp id fun z => by simpa using z
        have hsum : done.length + (1 + ((enc (Vakepe.step o cc).2).length + (told (Vakepe.step o cc).1 raw2).length)) ≤ 10000000 := by
          have := congrArg List.length hst
          rw [List.length_append, List.length_cons, List.length_append] at this
          omega
        refine ⟨_, rfl, .inl ⟨rfl, _, SqL.of hfo6⟩, _, rfl, _, (enc (Vakepe.step o cc).2).length, rfl, .inl ⟨_, SqL.of ha, (List.length_map _).symm⟩, fo, _, _, rfl, rfl, hfo6, (by rw [List.length_map, sizeLine_eq]; omega), ?_⟩
        refine ⟨_, rfl, .inl ⟨rfl, _, SqL.of upd_same⟩, _, rfl, fo, a, _, _, rfl, rfl, upd_same, (upd_ne naf).trans ha, (by rw [List.length_append, List.length_map, List.length_map, sizeLine_eq]; show _ + 1 + _ ≤ _; omega), ?_⟩
        have sW : ∀ o1 o2, Same (off [fo] H6) (off [fo] (upd (upd H6 fo o1) fo o2)) := fun o1 o2 => off1_upd (off1_upd (Same.refl _))
        refine ⟨l.length - at2, by omega, pl2, (Vakepe.step o cc).1, at2, g, raw2, done ++ ((((enc (Vakepe.step o cc).2).length : Nat) : Int) :: enc (Vakepe.step o cc).2), _, _, _, _, _, _, _, rfl, hat2, rfl, by rw [ht]; exact hrest, fun c hc => hasked c (List.mem_cons_of_mem _ hc), hdk6.mono (sW _ _), sq_keep (sq_keep hca6 keep_upd n3') keep_upd n3', ?_, m1, m2, n3, ?_⟩
        · rw [upd_same, List.map_append, List.map_cons, List.append_assoc]
          rfl
        · rw [hst, List.append_assoc]
          rfl
      · obtain ⟨m1, s', hs', hm0, hml, rfl, rfl⟩ := rows_one hrows
        obtain ⟨mm, rfl⟩ : ∃ mm : Nat, m1 = (mm : Int) := ⟨m1.toNat, by omega⟩
        have hml : mm ≤ s'.length := hml
        rw [List.drop_drop] at hs'
        have hb : l[at_ + 1 + n]? = some (mm : Int) := drop_get hs'
        have hs2 : s' = l.drop (at_ + 1 + n + 1) := by
          have := congrArg (List.drop 1) hs'
          rw [List.drop_drop] at this
          exact this.symm
        have hsl : s'.length = l.length - (at_ + 1 + n + 1) := by rw [hs2, List.length_drop]
        have hb2 := (List.getElem?_eq_some_iff.mp hb).1
        have hcut2 : cutV (l.map V.int) (some ((at_ : Int) + 1 + (n : Int) + 1)) (some ((at_ : Int) + 1 + (n : Int) + 1 + (mm : Int))) = (s'.take mm).map V.int := by
          have h := cut_all (l := l) (i := at_ + 1 + n + 1) (j := at_ + 1 + n + 1 + mm) (by omega) (by omega)
          rw [show at_ + 1 + n + 1 + mm - (at_ + 1 + n + 1) = mm by omega, ← hs2] at h
          exact h
        let I1 : Nat → L2.St → Hp → Prop := fun i σ H5 => (i = 0 → σ = [some (.ref ca), some (.ref D), some (.ref fo), some (.int ((at_ : Int) + 1 + (n : Int))), some (.int (j : Nat)), some (.int ((at_ : Int) + 1 + (n : Int))), some (.ref wl), some (.ref ll), v8, v9, v10] ∧ H5 = H4) ∧ (i = 1 → ∃ (sl : Addr) (u8 u10 : Option V), σ = [some (.ref ca), some (.ref D), some (.ref fo), some (.int ((at_ : Int) + 1 + (n : Int) + 1 + (mm : Int))), some (.int (j : Nat)), some (.int ((at_ : Int) + 1 + (n : Int))), some (.ref wl), some (.ref ll), u8, v9, u10] ∧ Same H2 H5 ∧
          H5 wl = some (.lst (((l.drop (at_ + 1)).take n).map V.int)) ∧ H5 ll = some (.lst [.ref sl]) ∧ H5 sl = some (.lst ((s'.take mm).map V.int)))
        refine for_range (n := 1) I1 ?_ ?_ ?_
        · exact And.intro (fun _ => ⟨rfl, rfl⟩) fun z => absurd z (by decide)
        · rintro i σ H5 hi ⟨h0, _⟩
          have : i = 0 := by omega
          subst this
          obtain ⟨rfl, rfl⟩ := h0 rfl
          refine ⟨_, rfl, _, _, rfl, rfl, _, rfl, _, rfl, ca, _, ((at_ + 1 + n : Nat) : Int), _, rfl, rfl, s4.seq hca2, atI_nat (by rw [List.getElem?_map, hb]; rfl), _, _, rfl, rfl, ?_⟩
          refine ⟨_, rfl, .inl ⟨rfl, _, SqL.of hll4⟩, _, rfl, _, rfl, _, _, rfl, rfl, _, rfl, _, rfl, _, rfl, ca, _, rfl, s4.seq hca2, fun sl nsl => ?_⟩
          rw [hcut2]
          have s6 : Same H5 (upd H5 sl (.lst ((s'.take mm).map V.int))) := same_upd nsl
          have nsll : sl ≠ ll := (ne_of_none hll4 nsl).symm
          refine ⟨ll, [], _, rfl, rfl, s6 _ _ hll4, by show 0 < sizeLine; decide, ?_⟩
          refine ⟨_, rfl, ?_⟩
          show I1 _ _ _
          refine And.intro (fun z => absurd z (by decide)) fun _ => ⟨sl, some (.int (0 + ((0 : Nat) : Int))), some (.int ((at_ : Int) + 1 + (n : Int) + 1 + (mm : Int))), rfl, fun b o e => ?_, ?_, upd_same, (upd_ne nsll).trans upd_same⟩
          · rw [upd_ne (ne_of_none e nll2)]
            exact s6 _ _ (s4 _ _ e)
          · rw [upd_ne nwll]
            exact s6 _ _ hwl4
        rintro σ H5 ⟨_, h1⟩
        obtain ⟨sl, u8, u10, rfl, s25, hwl5, hll5', hsl5⟩ := h1 rfl
        obtain ⟨at2, hat⟩ : ∃ at2, at2 = at_ + 1 + n + 1 + mm := ⟨_, rfl⟩
        obtain ⟨ls, hlse⟩ : ∃ ls : List Addr, ls = [sl] := ⟨_, rfl⟩
        have hll5 : H5 ll = some (.lst (ls.map V.ref)) := by
          rw [hlse]
          exact hll5'
        have hrows5 : RowsIn H5 ls [s'.take ((mm : Nat) : Int).toNat] := by
          rw [hlse]
          exact .cons hsl5 .nil
        have ht : l.drop at2 = s'.drop ((mm : Nat) : Int).toNat := by
          show _ = s'.drop mm
          rw [hs2, List.drop_drop, hat]
        have hat2 : at2 ≤ l.length := by omega
        have hat3 : (at_ : Int) + 1 + (n : Int) + 1 + (mm : Int) = (at2 : Int) := by omega
        rw [hat3]
        have hdk5 := hdk.mono (off_of_same s25)
        obtain ⟨dx5, x5, y5, hDD0, xs5, hpl5⟩ := hdk5.at
        have hDD := off_same _ _ hDD0
        have hfo5 := s25 _ _ hfo2
        have hca5 := s25.seq hca2
        have nfD : fo ≠ D := ne_of hfo5 hDD (fun z => by cases z)
        refine ⟨_, rfl, _, rfl, _, rfl, _, rfl, [fo], D, pl, o, wl, ll, (j : Int), (l.drop (at_ + 1)).take n, ls, cc, rfl, (fun f hf => ⟨done, by rw [List.mem_singleton.mp hf]; exact hfo5⟩), (by simpa using n1.symm), hdk5, hwl5, hll5, hcall H5 ls hrows5, fun H6 pl2 a hdk6 hpl2 kp6 na ha => ?_⟩
        have hfo6 := kp6 _ _ (kp2 nfD n1) hfo5
        have hca6 := sq_keep hca5 kp6 (by
          rcases ncD0 with k | a1
          · exact .inl k
          · rcases n2 with k | a2
            · exact .inl k
            · exact .inr (kp2 a1 a2))
        have naf : a ≠ fo := (ne_of_none hfo5 na).symm
        have m1 : fo ≠ pl2 := by
          rcases hpl2 with e | e
          · rw [e]
            exact n1
          · exact ne_of_none hfo5 e
        have m2 : Kc K ca (l.map V.int) ∨ ca ≠ pl2 := by
          rcases hpl2 with e | e
          · rw [e]
            exact n2
          · exact sq_new hca5 e
        have n3' : Kc K ca (l.map V.int) ∨ ca ∉ [fo] := n3.imp id fun z => by simpa using z
        have hsum : done.length + (1 + ((enc (Vakepe.step o cc).2).length + (told (Vakepe.step o cc).1 raw2).length)) ≤ 10000000 := by
          have := congrArg List.length hst
          rw [List.length_append, List.length_cons, List.length_append] at this
          omega
        refine ⟨_, rfl, .inl ⟨rfl, _, SqL.of hfo6⟩, _, rfl, _, (enc (Vakepe.step o cc).2).length, rfl, .inl ⟨_, SqL.of ha, (List.length_map _).symm⟩, fo, _, _, rfl, rfl, hfo6, (by rw [List.length_map, sizeLine_eq]; omega), ?_⟩
        refine ⟨_, rfl, .inl ⟨rfl, _, SqL.of upd_same⟩, _, rfl, fo, a, _, _, rfl, rfl, upd_same, (upd_ne naf).trans ha, (by rw [List.length_append, List.length_map, List.length_map, sizeLine_eq]; show _ + 1 + _ ≤ _; omega), ?_⟩
        have sW : ∀ o1 o2, Same (off [fo] H6) (off [fo] (upd (upd H6 fo o1) fo o2)) := fun o1 o2 => off1_upd (off1_upd (Same.refl _))
        refine ⟨l.length - at2, by omega, pl2, (Vakepe.step o cc).1, at2, g, raw2, done ++ ((((enc (Vakepe.step o cc).2).length : Nat) : Int) :: enc (Vakepe.step o cc).2), _, _, _, _, _, _, _, rfl, hat2, rfl, by rw [ht]; exact hrest, fun c hc => hasked c (List.mem_cons_of_mem _ hc), hdk6.mono (sW _ _), sq_keep (sq_keep hca6 keep_upd n3') keep_upd n3', ?_, m1, m2, n3, ?_⟩
        · rw [upd_same, List.map_append, List.map_cons, List.append_assoc]
          rfl
        · rw [hst, List.append_assoc]
          rfl
end
end PP

set_option Elab.async false
set_option linter.all false
set_option maxRecDepth 100000
set_option maxHeartbeats 0
namespace PP
open PySem PySem.W PySem.Calls PyProof.Rows
abbrev P : Program := PySem.Challenge.rw_partpacks_s01_answers.prog
abbrev qv : Program := view P [143]
def adr0 : List Addr := [3, 2, 15, 17, 18, 20, 21, 22, 24, 25, 27, 28, 29, 32, 33, 34, 37, 38, 39, 41, 42, 44, 45, 46, 49, 50, 51, 53, 54, 56, 57, 58, 61, 62, 63, 64, 65, 66, 67, 68, 69, 70, 71, 72, 73, 74, 75, 82, 84, 85, 87, 88, 89, 90, 91, 92, 102, 104, 105, 107]
def adr1 : List Addr := [108, 109, 110, 111, 112, 113, 116, 118, 119, 121, 122, 123, 125, 126, 128, 129, 130, 132, 133, 135, 136, 137, 139, 140, 142, 143, 144, 146, 147, 149, 150, 151, 153, 154, 156, 157, 158, 160, 161, 163, 164, 165, 167, 168, 170, 171, 172, 174, 175, 177, 178, 186, 188, 189, 191, 192, 193, 194, 195, 196]
def adr2 : List Addr := [197, 207, 209, 210, 212, 213, 214, 215, 216, 217, 218, 228, 230, 231, 233, 234, 235, 236, 237, 238, 239, 249, 251, 252, 254, 255, 256, 257, 258, 259, 260, 263, 265, 266, 268, 269, 270, 272, 273, 275, 276, 277, 279, 280, 282, 283, 284, 286, 287, 289, 290, 291, 293, 294, 296, 297, 298, 300, 301, 303]
def adr3 : List Addr := [304, 305, 307, 308, 310, 311, 312, 314, 315, 317, 318, 319, 322, 323, 324, 327, 328, 329, 331, 332, 334, 335, 336, 338, 339, 341, 342, 343, 345, 346, 348, 349, 350, 352, 353, 355, 356, 357, 359, 360, 362, 363, 364, 366, 367, 369, 370, 371, 373, 374, 376, 377, 378, 380, 381, 383, 384, 385, 387, 388]
def adr4 : List Addr := [390, 391, 392, 394, 395, 397, 398, 399, 402, 403, 404, 406, 407, 409, 410, 411, 413, 414, 416, 417, 418, 425, 426, 427, 428, 438, 440, 441, 443, 444, 445, 446, 447, 448, 449, 452, 454, 455, 457, 458, 459, 461, 462, 464, 465, 466, 468, 469, 471, 472, 473, 475, 476, 478, 479, 480, 482, 483, 485, 486]
def adr5 : List Addr := [487, 489, 490, 492, 493, 494, 496, 497, 499, 500, 501, 503, 504, 506, 507, 508, 509, 510, 517, 519, 520, 522, 523, 524, 525, 526, 527, 537, 539, 540, 542, 543, 544, 545, 546, 547, 548, 551, 553, 554, 556, 557, 558, 560, 561, 563, 564, 565, 567, 568, 570, 571, 572, 575, 576, 577, 579, 580, 582, 583]
def adr6 : List Addr := [584, 586, 587, 589, 590, 591, 593, 594, 596, 597, 598, 601, 602, 603, 605, 606, 608, 609, 610, 612, 613, 615, 616, 617, 619, 620, 622, 623, 624, 626, 627, 629, 630, 631, 634, 635, 636, 638, 639, 641, 642, 643, 645, 646, 648, 649, 650, 652, 653, 655, 656]
def adrs : List Addr := adr0 ++ (adr1 ++ (adr2 ++ (adr3 ++ (adr4 ++ (adr5 ++ (adr6))))))
noncomputable abbrev kt (s : PySem.W.SharedT) : PySem.W.Frag := He.frG (HandSHeadRun.getT s) adrs
noncomputable abbrev endT (w : World) (os : OsState) := HandSHeadRun.endF (HandSHeadRun.stepQ (HandSHeadRun.denQ HandSHeadRun.tabQ) P w) 20000 P w os
def okAll (K : PySem.W.Frag) : Bool := (facts.all fun f => f.ok K) && ((fnT.all fun d => d.ok K) && exB K)
theorem run_g (w : World) (os : OsState) : (endT w os).map (fun s => okAll (kt s)) = some true := by
  kernel_rfl
theorem run_f (w : World) (os : OsState) : (endT w os).map (fun s => fnT.map fun d => He.fnW (kt s) d.at_) = some (fnT.map He.DefD.val) := by
  kernel_rfl
theorem run_s (w : World) (os : OsState) : (endT w os).map (fun s => (HandSHeadRun.looksF P (boot_heap w.params) s.abs, HandSHeadRun.seenQ qv looseT (importedModules P.main.body) (fun s => xlAt qv [] s && recOk [] s) s.abs)) = some (true, openGood qv looseT) := by
  kernel_rfl
abbrev AlQ : Type := Bool × List He.FnW
def kh (h : Heap) : PySem.W.Frag := He.frG h.get? adrs
def obsQ (s : Shared) : AlQ := (okAll (kh s.heap), fnT.map fun d => He.fnW (kh s.heap) d.at_)
def saysQ (_ : World) (h : Heap) : Prop := ∃ K : PySem.W.Frag, K.In h ∧ He.SaysD facts fnT K ∧ exB K = true
theorem saysQ_of (w : World) (s : Shared) (e : obsQ s = (true, fnT.map He.DefD.val)) : saysQ w s.heap := by
  have e1 : okAll (kh s.heap) = true := congrArg (fun z : AlQ => z.1) e
  have e2 : (fnT.map fun d => He.fnW (kh s.heap) d.at_) = fnT.map He.DefD.val := congrArg (fun z : AlQ => z.2) e
  obtain ⟨h1, h2⟩ := He.ba e1
  obtain ⟨h3, h4⟩ := He.ba h2
  refine ⟨kh s.heap, He.frG_in, ?_, h4⟩
  show (((facts.all fun f => f.ok (kh s.heap)) && fnT.all fun d => d.ok (kh s.heap)), fnT.map fun d => He.fnW (kh s.heap) d.at_) = (true, fnT.map He.DefD.val)
  rw [h1, h3, e2]
  rfl
theorem kt_eq (s : PySem.W.SharedT) : kt s = kh s.abs.heap := by
  have e : HandSHeadRun.getT s = s.abs.heap.get? := funext (HandSHeadRun.getT_eq s)
  show He.frG (HandSHeadRun.getT s) adrs = He.frG s.abs.heap.get? adrs
  rw [e]
theorem left : LeftO P qv looseT (fun s => xlAt qv [] s && recOk [] s) obsQ (fun _ => (true, fnT.map He.DefD.val)) 20600 true :=
  HandSHeadRun.left_one (M := 20000) (by kernel_rfl) (by decide) (fun s => by kernel_rfl) (by decide) fun w os => by
    have z1 := run_g w os
    have z2 := run_f w os
    have z3 := run_s w os
    simp only [HandSHeadRun.endQ_eq, HandSHeadRun.seenQ_eq]
    show (endT w os).map _ = _
    generalize endT w os = r at z1 z2 z3
    cases r with
    | none => cases z1
    | some s =>
      have z1 : okAll (kt s) = true := Option.some.inj z1
      have z2 : (fnT.map fun d => He.fnW (kt s) d.at_) = fnT.map He.DefD.val := Option.some.inj z2
      have z3 := Option.some.inj z3
      rw [kt_eq] at z1 z2
      show some ((HandSHeadRun.looksF P (boot_heap w.params) s.abs, HandSHeadRun.seenQ qv looseT (importedModules P.main.body) (fun s => xlAt qv [] s && recOk [] s) s.abs, (okAll (kh s.abs.heap), fnT.map fun d => He.fnW (kh s.abs.heap) d.at_)) : Bool × _ × AlQ) = _
      rw [z1, z2]
      have e1 := congrArg Prod.fst z3
      have e2 := congrArg Prod.snd z3
      dsimp only at e1 e2
      rw [e1, e2]
end PP

set_option Elab.async false
set_option linter.all false
set_option maxRecDepth 100000
set_option maxHeartbeats 4000000
namespace PP
open PySem PySem.Spec PyProof.Rows L2
open PySem.W (WData Codec OpenSpec)
/-- the row's end: from a promise of the def by the written part alone -/
theorem walk_specE {r : OpenSpec} {k : Nat} {q : Program} {loose : List Str} {XP : (Str → Option Value) → Heap → Prop} {YP : World → Heap → Prop} {d : DefRec} {ps : List Str} {sp : PySem.W.Frag → Sp}
    (hwell : r.wellSaid = true) (hlen : r.args.length = ps.length) (hr : Room k callerA)
    (F : ∀ (w : World) (mg : Str → Option Value) (fa : Addr) (h : Heap), YP w h → h.Ns mainGlobals mg → mg d.name = some (.ref fa) →
      ∃ (K : PySem.W.Frag) (fd : FuncData), K.In h ∧ (∀ (s : Shared) (us : List Value), us.length = ps.length → BindsTo s fd ⟨us, []⟩ (ps.zip us)) ∧
        ∀ base : Heap, K.In base → base.Ns mainGlobals mg → FnOk r.prog w K mg base (L2.CX r.prog w) k fa fd ps (sp K))
    (hsp : ∀ (K : PySem.W.Frag) (H : Hp) (xs : List V) (a : Codec.denoteAll r.args), OnlyF H → Codec.withinAll r.args a = true → Codec.app r.args r.asked a = true → DwAll K H xs (Codec.encAll r.args a) →
      sp K xs H (fun v H' => Dw K H' v (r.ret.enc (Codec.app r.args r.f a))) fun _ _ _ => False) :
    PySem.W.WalkOS q loose XP YP r d [] (fun f vs => PySem.call f vs) := by
  intro w s₀ s₁ mg mb G Y fa o pm cd doc dV kV ho hd hcd hD hmg hg args vals as hpre hlay hrd hwl hlo
  obtain ⟨a, e1, e2⟩ := PySem.W.os_pre_some hpre
  obtain ⟨e3, hwi⟩ := Codec.encAll_of_decAll r.args args a e1
  subst e3
  obtain ⟨K, fd, KX, hb, hF⟩ := F w mg fa _ Y G.T.g hmg
  refine PySem.W.enter_call (codeAny_mono (spec_call (R := []) (cl := classAt s₀.heap) (d0 := r.ret.enc (Codec.app r.args r.f a)) KX G.T.g G.T.b G.T.builtins G.T.nolimit hg hwl (pl_encAll _ _) (layable_weight hlay) hr hF hb (by rw [encAll_len]; exact hlen)
    (fun H xs hO hS => hsp K H xs a hO hwi e2 hS) fun H e s' hc => by
      obtain ⟨_, _, _, _, _, _, _, _, _, _, _, _, z⟩ := hc
      exact z) fun r' s' hq => ?_)
  obtain ⟨u, as', rfl, h1, h2, h3, h4⟩ := hq
  exact ⟨.inl ⟨u, _, as', rfl, fun _ => rfl, h1, (OpenSpec.post_iff hwell hwi _ _).mpr rfl, fun z => Bool.noConfusion (show false = true from z)⟩, h2, h3, h4⟩
end PP
open PySem PySem.W PyProof.Rows
theorem PP.holds_of {k : Nat} {sp : PySem.W.Frag → L2.Sp} (hr : L2.Room k callerA) (hsp : ∀ (K : PySem.W.Frag) (H : L2.Hp) (xs : List L2.V) (a : Codec.denoteAll PySem.Challenge.rw_partpacks_s01_answers.args), L2.OnlyF H → Codec.withinAll PySem.Challenge.rw_partpacks_s01_answers.args a = true →
      Codec.app PySem.Challenge.rw_partpacks_s01_answers.args PySem.Challenge.rw_partpacks_s01_answers.asked a = true → L2.DwAll K H xs (Codec.encAll PySem.Challenge.rw_partpacks_s01_answers.args a) →
      sp K xs H (fun v H' => L2.Dw K H' v (PySem.Challenge.rw_partpacks_s01_answers.ret.enc (Codec.app PySem.Challenge.rw_partpacks_s01_answers.args PySem.Challenge.rw_partpacks_s01_answers.f a))) fun _ _ _ => False)
    (ok : ∀ (w : World) (K : PySem.W.Frag) (mg : Str → Option Value), PP.Txt K mg → ∀ fd : FuncData, L2.FunD K "answers" "answers" (L2.defArgs PP.s_answers) (L2.defBody PP.s_answers) (L2.defScope PP.s_answers) [] [] (He.ga K "answers") fd → ∀ base : Heap, K.In base → base.Ns mainGlobals mg → L2.FnOk PP.P w K mg base (L2.CX PP.P w) k (He.ga K "answers") fd ["calls"] (sp K))
    (hw : ∃ args, PySem.Challenge.rw_partpacks_s01_answers.pre args = true ∧ WData.layableAll args = true) : PySem.Challenge.rw_partpacks_s01_answers.Holds := by
  w_on
  refine holds_os (r := PySem.Challenge.rw_partpacks_s01_answers) (q := PP.qv) (loose := PP.looseT) (XP := XL PP.qv []) (YP := PP.saysQ) (kwd := []) PP.left PP.saysQ_of (fun w h h' ⟨K, hK, c⟩ k => ⟨K, PySem.W.Frag.In.keeps hK k, c⟩)
    (fun s z => xl_of s (Bool.and_eq_true_iff.mp z).1) XL.keeps (by rfl) (by rfl) (by rfl) (fun s z => recFacts_of (Bool.and_eq_true_iff.mp z).2) os_shapes (by first | assumption | decide +kernel) (by decide +kernel) ⟨rfl, rfl, rfl, rfl, rfl, by decide +kernel⟩ hw ?hc
  case hc =>
    refine PP.walk_specE (k := k) (ps := ["calls"]) (sp := sp) (by decide +kernel) rfl hr ?F hsp
    intro w mg fa h Y G hmg
    obtain ⟨K, KX, c, x⟩ := Y
    have T : PP.Txt K mg := ⟨c, x, h, KX, G⟩
    have D := T.d_answers
    have e := hmg.symm.trans D.g
    cases e
    obtain ⟨fd, F, b⟩ := D.f
    exact ⟨K, fd, KX, fun s us hl => L2.FunD.bindsA (ps := ["calls"]) F (fun _ _ _ _ _ _ us hl => match us, hl with | [_], _ => rfl) s us hl, ok w K mg T fd F⟩

set_option Elab.async false
set_option linter.all false
set_option maxRecDepth 100000
set_option maxHeartbeats 4000000
open PySem PySem.W PyProof.Rows
theorem PySem.Challenge.cw_partpacks_s01_answers_holds : PySem.Challenge.rw_partpacks_s01_answers.Holds := by
  refine PP.holds_of (k := 62) (sp := PP.spAns) ⟨rfl, by decide, by decide⟩ ?S (fun w K mg T fd F base _ _ => PP.fnOk_answers T F) ?W
  case S =>
    intro K H xs a hO hwi hask hx
    cases hx with
    | cons h1 h2 =>
      cases h2
      cases h1 with
      | lst hs ha =>
        have e := L2.ints_dw a.1 _ ha
        subst e
        have q : ((Codec.inLen 0 17000 a.1 && a.1.all (Codec.inInt (Int.negSucc 999999999999999999) (Int.ofNat 1000000000000000000))) && true) = true := hwi
        rw [Bool.and_eq_true, Bool.and_eq_true] at q
        exact ⟨_, a.1, rfl, hs, Nat.le_trans (Codec.inNat_iff.mp q.1.1).2 (by decide), hask, fun H' p hp => .lst (L2.SqL.of hp) (L2.dw_ints _)⟩
  case W => exact ⟨[.list [.int 2, .int 0]], by decide +kernel, by decide +kernel⟩

