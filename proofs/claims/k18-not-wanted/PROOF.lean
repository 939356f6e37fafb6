import PyProof.Rows.All
import Wide.All
import OpenK.AllK
import Wide.FinOn
import KE.KStateDown
import HandS.ForMost
import HandS.Defaults
import HandS.Head0
import HandS.Head1
import HandS.Head2
import HandS.HeadEnd
import HandS.HeadHook1
import HandS.HeadHook2
import HandS.HeadHook3
import HandS.HeadHook4
import HandS.IsInst
import HandS.Walk
import HandS.NoneIn
import HandS.Conv
import HandS.DictComp
import KE.KDictPairs
import KE.KDictLaws
import HandS.SortKw
import KE.KMinKey
import PyProof.TupleOfGen
import HandS.Codes
import HandS.SetKeys
import HandS.SetFor
import PyProof.FactsAll.set_2
import HandS.SetBool
import KE.KDictWalk
import PySem.Challenge.RW_backframes_k18_whole_what_is_not_wanted
set_option Elab.async false
set_option linter.all false
set_option maxRecDepth 100000
set_option maxHeartbeats 0
namespace K18
open PySem PySem.Spec PyProof.Rows L2
def top (i : Nat) : Stmt := PySem.Challenge.pw_backframes_k18_whole_what_is_not_wanted.main.body.getD i (.Pass ⟨0, 0, 0, 0⟩)
abbrev FnP (K : PySem.W.Frag) (d : He.DefD) (f : Addr) (fd : FuncData) : Prop := FunD K d.name d.qual d.params d.body d.scope [] [] f fd
abbrev s_is_integer : Stmt := top 14
abbrev s_is_between : Stmt := top 15
abbrev s_is_name : Stmt := top 16
abbrev s_is_word : Stmt := top 17
abbrev s_is_list : Stmt := top 18
abbrev s_is_tuple : Stmt := top 19
abbrev s_is_declared : Stmt := top 20
abbrev s_are_declared : Stmt := top 21
abbrev s_reckoned : Stmt := top 22
abbrev s_is_object : Stmt := top 23
abbrev s_has_kind : Stmt := top 24
abbrev s_blank : Stmt := top 25
abbrev s_is_class : Stmt := top 37
abbrev s_is_head : Stmt := top 38
abbrev s_Function_init : Stmt := inClass (top 39) 0
abbrev s_Function_call_at : Stmt := inClass (top 39) 2
abbrev s_frozen : Stmt := top 40
abbrev s_Source_init : Stmt := inClass (top 42) 0
abbrev s_Source_agrees : Stmt := inClass (top 42) 1
abbrev s_Source_set_functions : Stmt := inClass (top 42) 2
abbrev s_Source_is_row : Stmt := inClass (top 42) 3
abbrev s_Source_kind_in : Stmt := inClass (top 42) 4
abbrev s_Source_is_number_row : Stmt := inClass (top 42) 5
abbrev s_Source_is_object_row : Stmt := inClass (top 42) 6
abbrev s_Source_is_call : Stmt := inClass (top 42) 7
abbrev s_Source_is_plain_row : Stmt := inClass (top 42) 8
abbrev s_check_source : Stmt := top 43
abbrev s_set_by : Stmt := top 46
abbrev s_read_by : Stmt := top 47
abbrev s_next_rows : Stmt := top 48
abbrev s_wanted_rows : Stmt := top 49
abbrev s_wanted_by_next : Stmt := top 50
abbrev s_wanted_at : Stmt := top 51
abbrev s_wanted_behind : Stmt := top 52
abbrev s_checked_function : Stmt := top 53
abbrev s_wanted : Stmt := top 54
abbrev s_wanted_at_call : Stmt := top 55
abbrev s_is_frame : Stmt := top 60
abbrev s_are_frames : Stmt := top 61
abbrev s_is_heap : Stmt := top 62
abbrev s_bounded : Stmt := top 63
abbrev s_referred : Stmt := top 64
abbrev s_State_init : Stmt := inClass (top 65) 0
abbrev s_Machine_init : Stmt := inClass (top 66) 0
abbrev s_Machine_enter : Stmt := inClass (top 66) 1
abbrev s_Machine_row_here : Stmt := inClass (top 66) 2
abbrev s_Machine_fields_of : Stmt := inClass (top 66) 3
abbrev s_Machine_blank_field : Stmt := inClass (top 66) 4
abbrev s_Machine_seen : Stmt := inClass (top 66) 5
abbrev s_Machine_make : Stmt := inClass (top 66) 6
abbrev s_Machine_give_back : Stmt := inClass (top 66) 7
abbrev s_Machine_value_of : Stmt := inClass (top 66) 8
abbrev s_Machine_do_row : Stmt := inClass (top 66) 9
abbrev s_Machine_step : Stmt := inClass (top 66) 10
abbrev s_Machine_steps : Stmt := inClass (top 66) 11
abbrev s_Machine_rows : Stmt := inClass (top 66) 12
abbrev s_Machine_ended : Stmt := inClass (top 66) 13
abbrev s_Machine_log : Stmt := inClass (top 66) 14
abbrev s_Machine_frames : Stmt := inClass (top 66) 15
abbrev s_Machine_heap : Stmt := inClass (top 66) 16
abbrev s_going_on : Stmt := top 67
abbrev s_law_well : Stmt := top 69
abbrev s_law_draw : Stmt := top 70
abbrev s_law_one : Stmt := top 71
abbrev s_law_plain : Stmt := top 72
abbrev s_law_function : Stmt := top 73
abbrev s_law_classes : Stmt := top 74
abbrev s_law_turned : Stmt := top 75
abbrev s_law_told : Stmt := top 76
abbrev s_law_right : Stmt := top 77
abbrev s_law : Stmt := top 78
def d_is_integer : He.DefD := ⟨("is_integer", none), "is_integer", "is_integer", defArgs s_is_integer, defBody s_is_integer, defScope s_is_integer, [], []⟩
def d_is_between : He.DefD := ⟨("is_between", none), "is_between", "is_between", defArgs s_is_between, defBody s_is_between, defScope s_is_between, [], []⟩
def d_is_name : He.DefD := ⟨("is_name", none), "is_name", "is_name", defArgs s_is_name, defBody s_is_name, defScope s_is_name, [], []⟩
def d_is_word : He.DefD := ⟨("is_word", none), "is_word", "is_word", defArgs s_is_word, defBody s_is_word, defScope s_is_word, [], []⟩
def d_is_list : He.DefD := ⟨("is_list", none), "is_list", "is_list", defArgs s_is_list, defBody s_is_list, defScope s_is_list, [], []⟩
def d_is_tuple : He.DefD := ⟨("is_tuple", none), "is_tuple", "is_tuple", defArgs s_is_tuple, defBody s_is_tuple, defScope s_is_tuple, [], []⟩
def d_is_declared : He.DefD := ⟨("is_declared", none), "is_declared", "is_declared", defArgs s_is_declared, defBody s_is_declared, defScope s_is_declared, [], []⟩
def d_are_declared : He.DefD := ⟨("are_declared", none), "are_declared", "are_declared", defArgs s_are_declared, defBody s_are_declared, defScope s_are_declared, [], []⟩
def d_reckoned : He.DefD := ⟨("reckoned", none), "reckoned", "reckoned", defArgs s_reckoned, defBody s_reckoned, defScope s_reckoned, [], []⟩
def d_is_object : He.DefD := ⟨("is_object", none), "is_object", "is_object", defArgs s_is_object, defBody s_is_object, defScope s_is_object, [], []⟩
def d_has_kind : He.DefD := ⟨("has_kind", none), "has_kind", "has_kind", defArgs s_has_kind, defBody s_has_kind, defScope s_has_kind, [], []⟩
def d_blank : He.DefD := ⟨("blank", none), "blank", "blank", defArgs s_blank, defBody s_blank, defScope s_blank, [], []⟩
def d_is_class : He.DefD := ⟨("is_class", none), "is_class", "is_class", defArgs s_is_class, defBody s_is_class, defScope s_is_class, [], []⟩
def d_is_head : He.DefD := ⟨("is_head", none), "is_head", "is_head", defArgs s_is_head, defBody s_is_head, defScope s_is_head, [], []⟩
def d_Function_init : He.DefD := ⟨("Function", some "__init__"), "__init__", "Function.__init__", defArgs s_Function_init, defBody s_Function_init, defScope s_Function_init, [], []⟩
def d_Function_call_at : He.DefD := ⟨("Function", some "call_at"), "call_at", "Function.call_at", defArgs s_Function_call_at, defBody s_Function_call_at, defScope s_Function_call_at, [], []⟩
def d_frozen : He.DefD := ⟨("frozen", none), "frozen", "frozen", defArgs s_frozen, defBody s_frozen, defScope s_frozen, [], []⟩
def d_Source_init : He.DefD := ⟨("Source", some "__init__"), "__init__", "Source.__init__", defArgs s_Source_init, defBody s_Source_init, defScope s_Source_init, [], []⟩
def d_Source_agrees : He.DefD := ⟨("Source", some "agrees"), "agrees", "Source.agrees", defArgs s_Source_agrees, defBody s_Source_agrees, defScope s_Source_agrees, [], []⟩
def d_Source_set_functions : He.DefD := ⟨("Source", some "set_functions"), "set_functions", "Source.set_functions", defArgs s_Source_set_functions, defBody s_Source_set_functions, defScope s_Source_set_functions, [], []⟩
def d_Source_is_row : He.DefD := ⟨("Source", some "is_row"), "is_row", "Source.is_row", defArgs s_Source_is_row, defBody s_Source_is_row, defScope s_Source_is_row, [], []⟩
def d_Source_kind_in : He.DefD := ⟨("Source", some "kind_in"), "kind_in", "Source.kind_in", defArgs s_Source_kind_in, defBody s_Source_kind_in, defScope s_Source_kind_in, [], []⟩
def d_Source_is_number_row : He.DefD := ⟨("Source", some "is_number_row"), "is_number_row", "Source.is_number_row", defArgs s_Source_is_number_row, defBody s_Source_is_number_row, defScope s_Source_is_number_row, [], []⟩
def d_Source_is_object_row : He.DefD := ⟨("Source", some "is_object_row"), "is_object_row", "Source.is_object_row", defArgs s_Source_is_object_row, defBody s_Source_is_object_row, defScope s_Source_is_object_row, [], []⟩
def d_Source_is_call : He.DefD := ⟨("Source", some "is_call"), "is_call", "Source.is_call", defArgs s_Source_is_call, defBody s_Source_is_call, defScope s_Source_is_call, [], []⟩
def d_Source_is_plain_row : He.DefD := ⟨("Source", some "is_plain_row"), "is_plain_row", "Source.is_plain_row", defArgs s_Source_is_plain_row, defBody s_Source_is_plain_row, defScope s_Source_is_plain_row, [], []⟩
def d_check_source : He.DefD := ⟨("check_source", none), "check_source", "check_source", defArgs s_check_source, defBody s_check_source, defScope s_check_source, [], []⟩
def d_set_by : He.DefD := ⟨("set_by", none), "set_by", "set_by", defArgs s_set_by, defBody s_set_by, defScope s_set_by, [], []⟩
def d_read_by : He.DefD := ⟨("read_by", none), "read_by", "read_by", defArgs s_read_by, defBody s_read_by, defScope s_read_by, [], []⟩
def d_next_rows : He.DefD := ⟨("next_rows", none), "next_rows", "next_rows", defArgs s_next_rows, defBody s_next_rows, defScope s_next_rows, [], []⟩
def d_wanted_rows : He.DefD := ⟨("wanted_rows", none), "wanted_rows", "wanted_rows", defArgs s_wanted_rows, defBody s_wanted_rows, defScope s_wanted_rows, [], []⟩
def d_wanted_by_next : He.DefD := ⟨("wanted_by_next", none), "wanted_by_next", "wanted_by_next", defArgs s_wanted_by_next, defBody s_wanted_by_next, defScope s_wanted_by_next, [], []⟩
def d_wanted_at : He.DefD := ⟨("wanted_at", none), "wanted_at", "wanted_at", defArgs s_wanted_at, defBody s_wanted_at, defScope s_wanted_at, [], []⟩
def d_wanted_behind : He.DefD := ⟨("wanted_behind", none), "wanted_behind", "wanted_behind", defArgs s_wanted_behind, defBody s_wanted_behind, defScope s_wanted_behind, [], []⟩
def d_checked_function : He.DefD := ⟨("checked_function", none), "checked_function", "checked_function", defArgs s_checked_function, defBody s_checked_function, defScope s_checked_function, [], []⟩
def d_wanted : He.DefD := ⟨("wanted", none), "wanted", "wanted", defArgs s_wanted, defBody s_wanted, defScope s_wanted, [], []⟩
def d_wanted_at_call : He.DefD := ⟨("wanted_at_call", none), "wanted_at_call", "wanted_at_call", defArgs s_wanted_at_call, defBody s_wanted_at_call, defScope s_wanted_at_call, [], []⟩
def d_is_frame : He.DefD := ⟨("is_frame", none), "is_frame", "is_frame", defArgs s_is_frame, defBody s_is_frame, defScope s_is_frame, [], []⟩
def d_are_frames : He.DefD := ⟨("are_frames", none), "are_frames", "are_frames", defArgs s_are_frames, defBody s_are_frames, defScope s_are_frames, [], []⟩
def d_is_heap : He.DefD := ⟨("is_heap", none), "is_heap", "is_heap", defArgs s_is_heap, defBody s_is_heap, defScope s_is_heap, [], []⟩
def d_bounded : He.DefD := ⟨("bounded", none), "bounded", "bounded", defArgs s_bounded, defBody s_bounded, defScope s_bounded, [], []⟩
def d_referred : He.DefD := ⟨("referred", none), "referred", "referred", defArgs s_referred, defBody s_referred, defScope s_referred, [], []⟩
def d_State_init : He.DefD := ⟨("State", some "__init__"), "__init__", "State.__init__", defArgs s_State_init, defBody s_State_init, defScope s_State_init, [], []⟩
def d_Machine_init : He.DefD := ⟨("Machine", some "__init__"), "__init__", "Machine.__init__", defArgs s_Machine_init, defBody s_Machine_init, defScope s_Machine_init, [], []⟩
def d_Machine_enter : He.DefD := ⟨("Machine", some "enter"), "enter", "Machine.enter", defArgs s_Machine_enter, defBody s_Machine_enter, defScope s_Machine_enter, [], []⟩
def d_Machine_row_here : He.DefD := ⟨("Machine", some "row_here"), "row_here", "Machine.row_here", defArgs s_Machine_row_here, defBody s_Machine_row_here, defScope s_Machine_row_here, [], []⟩
def d_Machine_fields_of : He.DefD := ⟨("Machine", some "fields_of"), "fields_of", "Machine.fields_of", defArgs s_Machine_fields_of, defBody s_Machine_fields_of, defScope s_Machine_fields_of, [], []⟩
def d_Machine_blank_field : He.DefD := ⟨("Machine", some "blank_field"), "blank_field", "Machine.blank_field", defArgs s_Machine_blank_field, defBody s_Machine_blank_field, defScope s_Machine_blank_field, [], []⟩
def d_Machine_seen : He.DefD := ⟨("Machine", some "seen"), "seen", "Machine.seen", defArgs s_Machine_seen, defBody s_Machine_seen, defScope s_Machine_seen, [], []⟩
def d_Machine_make : He.DefD := ⟨("Machine", some "make"), "make", "Machine.make", defArgs s_Machine_make, defBody s_Machine_make, defScope s_Machine_make, [], []⟩
def d_Machine_give_back : He.DefD := ⟨("Machine", some "give_back"), "give_back", "Machine.give_back", defArgs s_Machine_give_back, defBody s_Machine_give_back, defScope s_Machine_give_back, [], []⟩
def d_Machine_value_of : He.DefD := ⟨("Machine", some "value_of"), "value_of", "Machine.value_of", defArgs s_Machine_value_of, defBody s_Machine_value_of, defScope s_Machine_value_of, [], []⟩
def d_Machine_do_row : He.DefD := ⟨("Machine", some "do_row"), "do_row", "Machine.do_row", defArgs s_Machine_do_row, defBody s_Machine_do_row, defScope s_Machine_do_row, [], []⟩
def d_Machine_step : He.DefD := ⟨("Machine", some "step"), "step", "Machine.step", defArgs s_Machine_step, defBody s_Machine_step, defScope s_Machine_step, [], []⟩
def d_Machine_steps : He.DefD := ⟨("Machine", some "steps"), "steps", "Machine.steps", defArgs s_Machine_steps, defBody s_Machine_steps, defScope s_Machine_steps, [], []⟩
def d_Machine_rows : He.DefD := ⟨("Machine", some "rows"), "rows", "Machine.rows", defArgs s_Machine_rows, defBody s_Machine_rows, defScope s_Machine_rows, [], []⟩
def d_Machine_ended : He.DefD := ⟨("Machine", some "ended"), "ended", "Machine.ended", defArgs s_Machine_ended, defBody s_Machine_ended, defScope s_Machine_ended, [], []⟩
def d_Machine_log : He.DefD := ⟨("Machine", some "log"), "log", "Machine.log", defArgs s_Machine_log, defBody s_Machine_log, defScope s_Machine_log, [], []⟩
def d_Machine_frames : He.DefD := ⟨("Machine", some "frames"), "frames", "Machine.frames", defArgs s_Machine_frames, defBody s_Machine_frames, defScope s_Machine_frames, [], []⟩
def d_Machine_heap : He.DefD := ⟨("Machine", some "heap"), "heap", "Machine.heap", defArgs s_Machine_heap, defBody s_Machine_heap, defScope s_Machine_heap, [], []⟩
def d_going_on : He.DefD := ⟨("going_on", none), "going_on", "going_on", defArgs s_going_on, defBody s_going_on, defScope s_going_on, [], []⟩
def d_law_well : He.DefD := ⟨("_law_well", none), "_law_well", "_law_well", defArgs s_law_well, defBody s_law_well, defScope s_law_well, [], []⟩
def d_law_draw : He.DefD := ⟨("_law_draw", none), "_law_draw", "_law_draw", defArgs s_law_draw, defBody s_law_draw, defScope s_law_draw, [], []⟩
def d_law_one : He.DefD := ⟨("_law_one", none), "_law_one", "_law_one", defArgs s_law_one, defBody s_law_one, defScope s_law_one, [], []⟩
def d_law_plain : He.DefD := ⟨("_law_plain", none), "_law_plain", "_law_plain", defArgs s_law_plain, defBody s_law_plain, defScope s_law_plain, [], []⟩
def d_law_function : He.DefD := ⟨("_law_function", none), "_law_function", "_law_function", defArgs s_law_function, defBody s_law_function, defScope s_law_function, [], []⟩
def d_law_classes : He.DefD := ⟨("_law_classes", none), "_law_classes", "_law_classes", defArgs s_law_classes, defBody s_law_classes, defScope s_law_classes, [], []⟩
def d_law_turned : He.DefD := ⟨("_law_turned", none), "_law_turned", "_law_turned", defArgs s_law_turned, defBody s_law_turned, defScope s_law_turned, [], []⟩
def d_law_told : He.DefD := ⟨("_law_told", none), "_law_told", "_law_told", defArgs s_law_told, defBody s_law_told, defScope s_law_told, [], []⟩
def d_law_right : He.DefD := ⟨("_law_right", none), "_law_right", "_law_right", defArgs s_law_right, defBody s_law_right, defScope s_law_right, [], []⟩
def d_law : He.DefD := ⟨("law", none), "law", "law", defArgs s_law, defBody s_law, defScope s_law, [], []⟩
def fn : List He.DefD := [d_is_integer, d_is_between, d_is_name, d_is_word, d_is_list, d_is_tuple, d_is_declared, d_are_declared, d_reckoned, d_is_object, d_has_kind, d_blank, d_is_class, d_is_head, d_Function_init, d_Function_call_at, d_frozen, d_Source_init, d_Source_agrees, d_Source_set_functions, d_Source_is_row, d_Source_kind_in, d_Source_is_number_row, d_Source_is_object_row, d_Source_is_call, d_Source_is_plain_row, d_check_source, d_set_by, d_read_by, d_next_rows, d_wanted_rows, d_wanted_by_next, d_wanted_at, d_wanted_behind, d_checked_function, d_wanted, d_wanted_at_call, d_is_frame, d_are_frames, d_is_heap, d_bounded, d_referred, d_State_init, d_Machine_init, d_Machine_enter, d_Machine_row_here, d_Machine_fields_of, d_Machine_blank_field, d_Machine_seen, d_Machine_make, d_Machine_give_back, d_Machine_value_of, d_Machine_do_row, d_Machine_step, d_Machine_steps, d_Machine_rows, d_Machine_ended, d_Machine_log, d_Machine_frames, d_Machine_heap, d_going_on, d_law_well, d_law_draw, d_law_one, d_law_plain, d_law_function, d_law_classes, d_law_turned, d_law_told, d_law_right, d_law]
def fa0 : List He.Fa := [.glo "is_integer", .glo "is_between", .glo "is_name", .glo "is_word", .glo "is_list", .glo "is_tuple", .glo "is_declared", .glo "are_declared", .glo "reckoned", .glo "is_object", .glo "has_kind", .glo "blank", .glo "is_class", .glo "is_head", .glo "frozen", .glo "check_source", .glo "set_by", .glo "read_by", .glo "next_rows", .glo "wanted_rows", .glo "wanted_by_next", .glo "wanted_at", .glo "wanted_behind", .glo "checked_function", .glo "wanted", .glo "wanted_at_call", .glo "is_frame", .glo "are_frames", .glo "is_heap", .glo "bounded"]
def fa1 : List He.Fa := [.glo "referred", .glo "going_on", .glo "_law_well", .glo "_law_draw", .glo "_law_one", .glo "_law_plain", .glo "_law_function", .glo "_law_classes", .glo "_law_turned", .glo "_law_told", .glo "_law_right", .glo "law", .glo "Function", .glo "Source", .glo "State", .glo "Machine", .free "isinstance", .free "int", .free "bool", .free "str", .free "list", .free "tuple", .free "dict", .free "len", .free "all", .free "abs", .free "sorted", .free "set", .free "range", .free "enumerate"]
def fa2 : List He.Fa := [.free "zip", .free "max", .int "MOST_LETTERS" 8, .int "MOST_CLASSES" 6, .int "MOST_FIELDS" 4, .int "MOST_FUNCTIONS" 6, .int "MOST_PARAMETERS" 4, .int "MOST_OTHERS" 8, .int "MOST_ROWS_source" 40, .int "GREATEST" 1000000000, .int "MOST_ROWS_machine" 2000, .int "MOST_VALUE" (10 ^ 60), .int "MOST_FRAMES" 50, .str "NUMBER" "number", .str "OBJECT" "object", .str "LETTERS" "abcdefghijklmnopqrstuvwxyz", .str "FIGURES" "0123456789", .glo "KINDS", .glo "SETTING", .glo "ARITHMETIC", .glo "LASTS", .glo "LENGTHS", .cls "Function", .mkr "Function", .noat "Function" "title", .noat "Function" "inputs", .noat "Function" "extras", .noat "Function" "kind_of", .noat "Function" "result_kind", .noat "Function" "row_list"]
def fa3 : List He.Fa := [.meth "Function" "call_at", .cls "Source", .mkr "Source", .noat "Source" "class_rows", .noat "Source" "field_kinds", .noat "Source" "kept_functions", .meth "Source" "agrees", .meth "Source" "set_functions", .meth "Source" "is_row", .meth "Source" "kind_in", .meth "Source" "is_number_row", .meth "Source" "is_object_row", .meth "Source" "is_call", .meth "Source" "is_plain_row", .cls "State", .mkr "State", .noat "State" "source", .noat "State" "frame_rows", .noat "State" "held_objects", .cls "Machine", .mkr "Machine", .noat "Machine" "source", .noat "Machine" "stack", .noat "Machine" "objects", .noat "Machine" "born", .noat "Machine" "written", .noat "Machine" "result", .noat "Machine" "row_count", .meth "Machine" "enter", .meth "Machine" "row_here"]
def fa4 : List He.Fa := [.meth "Machine" "fields_of", .meth "Machine" "blank_field", .meth "Machine" "seen", .meth "Machine" "make", .meth "Machine" "give_back", .meth "Machine" "value_of", .meth "Machine" "do_row", .meth "Machine" "step", .meth "Machine" "steps", .meth "Machine" "rows", .meth "Machine" "ended", .meth "Machine" "log", .meth "Machine" "frames", .meth "Machine" "heap"]
def fa : List He.Fa := fa0 ++ fa1 ++ fa2 ++ fa3 ++ fa4
def names0 : List PySem.Str := ["CodeError", "InvalidSource", "InvalidState", "InvalidArgument", "InvalidNumber", "LimitExceeded", "LETTERS", "FIGURES", "MOST_LETTERS", "NUMBER", "OBJECT", "KINDS", "is_integer", "is_between", "is_name", "is_word", "is_list", "is_tuple", "is_declared", "are_declared", "reckoned", "is_object", "has_kind", "blank", "MOST_CLASSES", "MOST_FIELDS", "MOST_FUNCTIONS", "MOST_PARAMETERS", "MOST_OTHERS", "MOST_ROWS_source"]
def names1 : List PySem.Str := ["GREATEST", "ARITHMETIC", "LASTS", "LENGTHS", "is_class", "is_head", "Function", "frozen", "thawed", "Source", "check_source", "SETTING", "set_by", "read_by", "next_rows", "wanted_rows", "wanted_by_next", "wanted_at", "wanted_behind", "checked_function", "wanted", "wanted_at_call", "MOST_ROWS_machine", "MOST_VALUE", "MOST_FRAMES", "is_frame", "are_frames", "is_heap", "bounded", "referred"]
def names2 : List PySem.Str := ["State", "Machine", "going_on", "_law_well", "_law_draw", "_law_one", "_law_plain", "_law_function", "_law_classes", "_law_turned", "_law_told", "_law_right"]
def names : List PySem.Str := names0 ++ names1 ++ names2
def lenKeys : List Str := ["number", "nil", "copy", "add", "sub", "times", "less", "same", "new", "get", "put", "call", "see", "if", "jump", "return"]
def lenVals : List (Str × He.Dv) := [("number", .int 3), ("nil", .int 2), ("copy", .int 3), ("add", .int 4), ("sub", .int 4), ("times", .int 4), ("less", .int 4), ("same", .int 4), ("new", .int 3), ("get", .int 4), ("put", .int 4), ("call", .int 4), ("see", .int 2), ("if", .int 3), ("jump", .int 2), ("return", .int 2)]
def ts : List He.Tab := [(fun K => He.ga K "LENGTHS", lenKeys)]
def clsX (K : PySem.W.Frag) (x : Str) : Bool :=
  He.eqO (PySem.W.findIn K (.ref (He.ga K x)) "__class__") (some (some (.builtin "object.__class__"))) &&
  (decide (PySem.W.specialIn K (.builtin "object.__class__") "__get__" = some (some (.builtin "getset_descriptor.__get__"))) &&
  (decide (PySem.W.takesIn K (.builtin "object.__class__") = some true) &&
  (decide (PySem.W.mroIn K (He.ga K x) (.type "object") = some true) &&
   decide (PySem.W.kitOne K (.ref (He.ga K x)) (.ref (He.ga K x)) = some true))))
def tKinds : List He.Dv := [.str "number", .str "object"]
def tSetting : List He.Dv := [.str "number", .str "nil", .str "copy", .str "add", .str "sub", .str "times", .str "less", .str "same", .str "new", .str "get", .str "call"]
def tArith : List He.Dv := [.str "add", .str "sub", .str "times", .str "less"]
def tLasts : List He.Dv := [.str "jump", .str "return"]
def exB (K : PySem.W.Frag) : Bool :=
  He.tupB K "KINDS" tKinds && (He.tupB K "SETTING" tSetting && (He.tupB K "ARITHMETIC" tArith && (He.tupB K "LASTS" tLasts &&
  (He.valsB K (He.ga K "LENGTHS") lenVals && (clsX K "Source" && clsX K "State")))))
abbrev R : PySem.W.OpenRow := PySem.W.OpenLaw.row PySem.Challenge.rw_backframes_k18_whole_what_is_not_wanted
abbrev hk : PySem.W.Hook := He.hookX 5 fa fn ts [] exB
def ob (s : PySem.W.SharedT) : He.AlX := He.obsX 5 fa fn ts [] exB (HandSHeadRun.getT s)
theorem ob_eq (s : PySem.W.SharedT) : ob s = hk.obs s.abs := He.obsX_eq (HandSHeadRun.getT_eq s)
theorem runF (w : World) : HandSHeadRun.RunEq R (PySem.W.view R.prog [78]) hk ob 12000 names (w.withFollow "special-get-raises" false) := by
  intro os
  kernel_rfl
theorem runT (w : World) : HandSHeadRun.RunEq R (PySem.W.view R.prog [78]) hk ob 12000 names (w.withFollow "special-get-raises" true) := by
  intro os
  kernel_rfl
theorem run (w : World) : HandSHeadRun.RunEq R (PySem.W.view R.prog [78]) hk ob 12000 names w :=
  PySem.W.byRow2 "special-get-raises" (P := fun w => HandSHeadRun.RunEq R (PySem.W.view R.prog [78]) hk ob 12000 names w) runF runT w
end K18
set_option Elab.async false
set_option linter.all false
set_option maxRecDepth 100000
set_option maxHeartbeats 4000000
namespace K18
open PySem PySem.Spec PyProof.Rows L2
/-! the head's facts, by names -/
structure Tx (w : World) (K : PySem.W.Frag) (mg : Str → Option Value) : Prop where
  ex : ∃ h : Heap, K.In h ∧ h.Ns mainGlobals mg ∧ He.SaysX fa fn ts [] exB w h K
/-- a def keeps its promise, and how it is called -/
structure Ok (P : Program) (w : World) (K : PySem.W.Frag) (mg : Str → Option Value) (base : Heap) (k : Nat) (d : He.DefD) (ps : List Str) (sp : Sp) : Prop where
  ex : ∃ fd : FuncData, FnOk P w K mg base CX0 k (He.fAd K d.at_) fd ps sp ∧ Binds K fd ps [] ∧ PySem.W.keepIn K (.ref (He.fAd K d.at_)) = true
section
variable {w : World} {K : PySem.W.Frag} {mg : Str → Option Value}
theorem Tx.fact (T : Tx w K mg) (i : Nat) {f : He.Fa} (h : fa[i]? = some f := by rfl) : f.ok K = true := by
  obtain ⟨_, _, _, c⟩ := T.ex
  exact c.t.d.fact i h
theorem Tx.glo (T : Tx w K mg) {x : Str} (i : Nat) (h : fa[i]? = some (.glo x) := by rfl) : mg x = some (.ref (He.ga K x)) := by
  obtain ⟨_, X, G, c⟩ := T.ex
  exact He.glo_ok X G (c.t.d.fact i h)
theorem Tx.free (T : Tx w K mg) {x : Str} (i : Nat) (h : fa[i]? = some (.free x) := by rfl) : mg x = none := by
  obtain ⟨_, X, G, c⟩ := T.ex
  exact He.free_ok X G (c.t.d.fact i h)
theorem Tx.int (T : Tx w K mg) {x : Str} {n : Int} (i : Nat) (h : fa[i]? = some (.int x n) := by rfl) : ∃ t, mg x = some (.int n t) := by
  obtain ⟨_, X, G, c⟩ := T.ex
  exact He.int_ok X G (c.t.d.fact i h)
theorem Tx.str (T : Tx w K mg) {x z : Str} (i : Nat) (h : fa[i]? = some (.str x z) := by rfl) : ∃ t, mg x = some (.str z t) := by
  obtain ⟨_, X, G, c⟩ := T.ex
  exact He.str_ok X G (c.t.d.fact i h)
theorem Tx.cls (T : Tx w K mg) {x : Str} (i : Nat) (h : fa[i]? = some (.cls x) := by rfl) : Cls K (He.ga K x) := He.cls_ok (T.fact i h)
theorem Tx.mkr (T : Tx w K mg) {x : Str} (i : Nat) (h : fa[i]? = some (.mkr x) := by rfl) : Mk K (He.ga K x) (He.ma K (He.ga K x) "__init__") := He.mkr_ok (T.fact i h)
theorem Tx.noat (T : Tx w K mg) {x f : Str} (i : Nat) (h : fa[i]? = some (.noat x f) := by rfl) : NoAttr K (He.ga K x) f := He.noat_ok (T.fact i h)
theorem Tx.meth (T : Tx w K mg) {x m : Str} (i : Nat) (h : fa[i]? = some (.meth x m) := by rfl) : Meth K (He.ga K x) m (He.ma K (He.ga K x) m) := He.meth_ok (T.fact i h)
theorem Tx.def_ (T : Tx w K mg) (i : Nat) {d : He.DefD} (h : fn[i]? = some d := by rfl) : ∃ fd, FunD K d.name d.qual d.params d.body d.scope (d.dvs K) (d.kws K) (He.fAd K d.at_) fd := by
  obtain ⟨_, _, _, c⟩ := T.ex
  exact c.t.d.def_ i h
theorem Tx.tab (T : Tx w K mg) : ∃ es n, KDict K w (He.ga K "LENGTHS") es n := by
  obtain ⟨_, _, _, c⟩ := T.ex
  exact c.t.tab 0
theorem Tx.tabk (T : Tx w K mg) : He.dicW K (He.ga K "LENGTHS") = some (He.keysIn w.params lenKeys) := by
  obtain ⟨_, _, _, c⟩ := T.ex
  have e : ts.map (fun t => He.dicW K (t.1 K)) = ts.map fun t => some (He.keysIn w.params t.2) := congrArg (fun z : He.AlT => z.2) c.t
  have e2 : [He.dicW K (He.ga K "LENGTHS")] = [some (He.keysIn w.params lenKeys)] := e
  exact (List.cons.inj e2).1
theorem Tx.more (T : Tx w K mg) : exB K = true := by
  obtain ⟨_, _, _, c⟩ := T.ex
  exact c.more
end
section
variable {w : World} {K : PySem.W.Frag} {mg : Str → Option Value}
theorem Tx.kinds (T : Tx w K mg) (H : Hp) : SqT K H (He.ga K "KINDS") [.str "number", .str "object"] := He.tupB_ok (He.ba T.more).1 H
theorem Tx.setting (T : Tx w K mg) (H : Hp) : SqT K H (He.ga K "SETTING") ((["number", "nil", "copy", "add", "sub", "times", "less", "same", "new", "get", "call"] : List Str).map V.str) := He.tupB_ok (He.ba (He.ba T.more).2).1 H
theorem Tx.arith (T : Tx w K mg) (H : Hp) : SqT K H (He.ga K "ARITHMETIC") ((["add", "sub", "times", "less"] : List Str).map V.str) := He.tupB_ok (He.ba (He.ba (He.ba T.more).2).2).1 H
theorem Tx.lasts (T : Tx w K mg) (H : Hp) : SqT K H (He.ga K "LASTS") ((["jump", "return"] : List Str).map V.str) := He.tupB_ok (He.ba (He.ba (He.ba (He.ba T.more).2).2).2).1 H
theorem Tx.lens (T : Tx w K mg) : He.valsB K (He.ga K "LENGTHS") lenVals = true := (He.ba (He.ba (He.ba (He.ba (He.ba T.more).2).2).2).2).1
theorem Tx.xs (T : Tx w K mg) : clsX K "Source" = true := (He.ba (He.ba (He.ba (He.ba (He.ba (He.ba T.more).2).2).2).2).2).1
theorem Tx.xt (T : Tx w K mg) : clsX K "State" = true := (He.ba (He.ba (He.ba (He.ba (He.ba (He.ba T.more).2).2).2).2).2).2
theorem Tx.g_is_integer (T : Tx w K mg) : mg "is_integer" = some (.ref (He.ga K "is_integer")) := T.glo 0
theorem Tx.g_is_between (T : Tx w K mg) : mg "is_between" = some (.ref (He.ga K "is_between")) := T.glo 1
theorem Tx.g_is_name (T : Tx w K mg) : mg "is_name" = some (.ref (He.ga K "is_name")) := T.glo 2
theorem Tx.g_is_word (T : Tx w K mg) : mg "is_word" = some (.ref (He.ga K "is_word")) := T.glo 3
theorem Tx.g_is_list (T : Tx w K mg) : mg "is_list" = some (.ref (He.ga K "is_list")) := T.glo 4
theorem Tx.g_is_tuple (T : Tx w K mg) : mg "is_tuple" = some (.ref (He.ga K "is_tuple")) := T.glo 5
theorem Tx.g_is_declared (T : Tx w K mg) : mg "is_declared" = some (.ref (He.ga K "is_declared")) := T.glo 6
theorem Tx.g_are_declared (T : Tx w K mg) : mg "are_declared" = some (.ref (He.ga K "are_declared")) := T.glo 7
theorem Tx.g_reckoned (T : Tx w K mg) : mg "reckoned" = some (.ref (He.ga K "reckoned")) := T.glo 8
theorem Tx.g_is_object (T : Tx w K mg) : mg "is_object" = some (.ref (He.ga K "is_object")) := T.glo 9
theorem Tx.g_has_kind (T : Tx w K mg) : mg "has_kind" = some (.ref (He.ga K "has_kind")) := T.glo 10
theorem Tx.g_blank (T : Tx w K mg) : mg "blank" = some (.ref (He.ga K "blank")) := T.glo 11
theorem Tx.g_is_class (T : Tx w K mg) : mg "is_class" = some (.ref (He.ga K "is_class")) := T.glo 12
theorem Tx.g_is_head (T : Tx w K mg) : mg "is_head" = some (.ref (He.ga K "is_head")) := T.glo 13
theorem Tx.g_frozen (T : Tx w K mg) : mg "frozen" = some (.ref (He.ga K "frozen")) := T.glo 14
theorem Tx.g_check_source (T : Tx w K mg) : mg "check_source" = some (.ref (He.ga K "check_source")) := T.glo 15
theorem Tx.g_set_by (T : Tx w K mg) : mg "set_by" = some (.ref (He.ga K "set_by")) := T.glo 16
theorem Tx.g_read_by (T : Tx w K mg) : mg "read_by" = some (.ref (He.ga K "read_by")) := T.glo 17
theorem Tx.g_next_rows (T : Tx w K mg) : mg "next_rows" = some (.ref (He.ga K "next_rows")) := T.glo 18
theorem Tx.g_wanted_rows (T : Tx w K mg) : mg "wanted_rows" = some (.ref (He.ga K "wanted_rows")) := T.glo 19
theorem Tx.g_wanted_by_next (T : Tx w K mg) : mg "wanted_by_next" = some (.ref (He.ga K "wanted_by_next")) := T.glo 20
theorem Tx.g_wanted_at (T : Tx w K mg) : mg "wanted_at" = some (.ref (He.ga K "wanted_at")) := T.glo 21
theorem Tx.g_wanted_behind (T : Tx w K mg) : mg "wanted_behind" = some (.ref (He.ga K "wanted_behind")) := T.glo 22
theorem Tx.g_checked_function (T : Tx w K mg) : mg "checked_function" = some (.ref (He.ga K "checked_function")) := T.glo 23
theorem Tx.g_wanted (T : Tx w K mg) : mg "wanted" = some (.ref (He.ga K "wanted")) := T.glo 24
theorem Tx.g_wanted_at_call (T : Tx w K mg) : mg "wanted_at_call" = some (.ref (He.ga K "wanted_at_call")) := T.glo 25
theorem Tx.g_is_frame (T : Tx w K mg) : mg "is_frame" = some (.ref (He.ga K "is_frame")) := T.glo 26
theorem Tx.g_are_frames (T : Tx w K mg) : mg "are_frames" = some (.ref (He.ga K "are_frames")) := T.glo 27
theorem Tx.g_is_heap (T : Tx w K mg) : mg "is_heap" = some (.ref (He.ga K "is_heap")) := T.glo 28
theorem Tx.g_bounded (T : Tx w K mg) : mg "bounded" = some (.ref (He.ga K "bounded")) := T.glo 29
theorem Tx.g_referred (T : Tx w K mg) : mg "referred" = some (.ref (He.ga K "referred")) := T.glo 30
theorem Tx.g_going_on (T : Tx w K mg) : mg "going_on" = some (.ref (He.ga K "going_on")) := T.glo 31
theorem Tx.g_law_well (T : Tx w K mg) : mg "_law_well" = some (.ref (He.ga K "_law_well")) := T.glo 32
theorem Tx.g_law_draw (T : Tx w K mg) : mg "_law_draw" = some (.ref (He.ga K "_law_draw")) := T.glo 33
theorem Tx.g_law_one (T : Tx w K mg) : mg "_law_one" = some (.ref (He.ga K "_law_one")) := T.glo 34
theorem Tx.g_law_plain (T : Tx w K mg) : mg "_law_plain" = some (.ref (He.ga K "_law_plain")) := T.glo 35
theorem Tx.g_law_function (T : Tx w K mg) : mg "_law_function" = some (.ref (He.ga K "_law_function")) := T.glo 36
theorem Tx.g_law_classes (T : Tx w K mg) : mg "_law_classes" = some (.ref (He.ga K "_law_classes")) := T.glo 37
theorem Tx.g_law_turned (T : Tx w K mg) : mg "_law_turned" = some (.ref (He.ga K "_law_turned")) := T.glo 38
theorem Tx.g_law_told (T : Tx w K mg) : mg "_law_told" = some (.ref (He.ga K "_law_told")) := T.glo 39
theorem Tx.g_law_right (T : Tx w K mg) : mg "_law_right" = some (.ref (He.ga K "_law_right")) := T.glo 40
theorem Tx.g_law (T : Tx w K mg) : mg "law" = some (.ref (He.ga K "law")) := T.glo 41
theorem Tx.g_Function (T : Tx w K mg) : mg "Function" = some (.ref (He.ga K "Function")) := T.glo 42
theorem Tx.g_Source (T : Tx w K mg) : mg "Source" = some (.ref (He.ga K "Source")) := T.glo 43
theorem Tx.g_State (T : Tx w K mg) : mg "State" = some (.ref (He.ga K "State")) := T.glo 44
theorem Tx.g_Machine (T : Tx w K mg) : mg "Machine" = some (.ref (He.ga K "Machine")) := T.glo 45
theorem Tx.b_isinstance (T : Tx w K mg) : mg "isinstance" = none := T.free 46
theorem Tx.b_int (T : Tx w K mg) : mg "int" = none := T.free 47
theorem Tx.b_bool (T : Tx w K mg) : mg "bool" = none := T.free 48
theorem Tx.b_str (T : Tx w K mg) : mg "str" = none := T.free 49
theorem Tx.b_list (T : Tx w K mg) : mg "list" = none := T.free 50
theorem Tx.b_tuple (T : Tx w K mg) : mg "tuple" = none := T.free 51
theorem Tx.b_dict (T : Tx w K mg) : mg "dict" = none := T.free 52
theorem Tx.b_len (T : Tx w K mg) : mg "len" = none := T.free 53
theorem Tx.b_all (T : Tx w K mg) : mg "all" = none := T.free 54
theorem Tx.b_abs (T : Tx w K mg) : mg "abs" = none := T.free 55
theorem Tx.b_sorted (T : Tx w K mg) : mg "sorted" = none := T.free 56
theorem Tx.b_set (T : Tx w K mg) : mg "set" = none := T.free 57
theorem Tx.b_range (T : Tx w K mg) : mg "range" = none := T.free 58
theorem Tx.b_enumerate (T : Tx w K mg) : mg "enumerate" = none := T.free 59
theorem Tx.b_zip (T : Tx w K mg) : mg "zip" = none := T.free 60
theorem Tx.b_max (T : Tx w K mg) : mg "max" = none := T.free 61
theorem Tx.i_MOST_LETTERS (T : Tx w K mg) : ∃ t, mg "MOST_LETTERS" = some (.int 8 t) := T.int 62
theorem Tx.i_MOST_CLASSES (T : Tx w K mg) : ∃ t, mg "MOST_CLASSES" = some (.int 6 t) := T.int 63
theorem Tx.i_MOST_FIELDS (T : Tx w K mg) : ∃ t, mg "MOST_FIELDS" = some (.int 4 t) := T.int 64
theorem Tx.i_MOST_FUNCTIONS (T : Tx w K mg) : ∃ t, mg "MOST_FUNCTIONS" = some (.int 6 t) := T.int 65
theorem Tx.i_MOST_PARAMETERS (T : Tx w K mg) : ∃ t, mg "MOST_PARAMETERS" = some (.int 4 t) := T.int 66
theorem Tx.i_MOST_OTHERS (T : Tx w K mg) : ∃ t, mg "MOST_OTHERS" = some (.int 8 t) := T.int 67
theorem Tx.i_MOST_ROWS_source (T : Tx w K mg) : ∃ t, mg "MOST_ROWS_source" = some (.int 40 t) := T.int 68
theorem Tx.i_GREATEST (T : Tx w K mg) : ∃ t, mg "GREATEST" = some (.int 1000000000 t) := T.int 69
theorem Tx.i_MOST_ROWS_machine (T : Tx w K mg) : ∃ t, mg "MOST_ROWS_machine" = some (.int 2000 t) := T.int 70
theorem Tx.i_MOST_VALUE (T : Tx w K mg) : ∃ t, mg "MOST_VALUE" = some (.int (10 ^ 60) t) := T.int 71
theorem Tx.i_MOST_FRAMES (T : Tx w K mg) : ∃ t, mg "MOST_FRAMES" = some (.int 50 t) := T.int 72
theorem Tx.s_NUMBER (T : Tx w K mg) : ∃ t, mg "NUMBER" = some (.str "number" t) := T.str 73
theorem Tx.s_OBJECT (T : Tx w K mg) : ∃ t, mg "OBJECT" = some (.str "object" t) := T.str 74
theorem Tx.s_LETTERS (T : Tx w K mg) : ∃ t, mg "LETTERS" = some (.str "abcdefghijklmnopqrstuvwxyz" t) := T.str 75
theorem Tx.s_FIGURES (T : Tx w K mg) : ∃ t, mg "FIGURES" = some (.str "0123456789" t) := T.str 76
theorem Tx.g_KINDS (T : Tx w K mg) : mg "KINDS" = some (.ref (He.ga K "KINDS")) := T.glo 77
theorem Tx.g_SETTING (T : Tx w K mg) : mg "SETTING" = some (.ref (He.ga K "SETTING")) := T.glo 78
theorem Tx.g_ARITHMETIC (T : Tx w K mg) : mg "ARITHMETIC" = some (.ref (He.ga K "ARITHMETIC")) := T.glo 79
theorem Tx.g_LASTS (T : Tx w K mg) : mg "LASTS" = some (.ref (He.ga K "LASTS")) := T.glo 80
theorem Tx.g_LENGTHS (T : Tx w K mg) : mg "LENGTHS" = some (.ref (He.ga K "LENGTHS")) := T.glo 81
theorem Tx.c_Function (T : Tx w K mg) : Cls K (He.ga K "Function") := T.cls 82
theorem Tx.m_Function (T : Tx w K mg) : Mk K (He.ga K "Function") (He.ma K (He.ga K "Function") "__init__") := T.mkr 83
theorem Tx.n_Function_title (T : Tx w K mg) : NoAttr K (He.ga K "Function") "title" := T.noat 84
theorem Tx.n_Function_inputs (T : Tx w K mg) : NoAttr K (He.ga K "Function") "inputs" := T.noat 85
theorem Tx.n_Function_extras (T : Tx w K mg) : NoAttr K (He.ga K "Function") "extras" := T.noat 86
theorem Tx.n_Function_kind_of (T : Tx w K mg) : NoAttr K (He.ga K "Function") "kind_of" := T.noat 87
theorem Tx.n_Function_result_kind (T : Tx w K mg) : NoAttr K (He.ga K "Function") "result_kind" := T.noat 88
theorem Tx.n_Function_row_list (T : Tx w K mg) : NoAttr K (He.ga K "Function") "row_list" := T.noat 89
theorem Tx.h_Function_call_at (T : Tx w K mg) : Meth K (He.ga K "Function") "call_at" (He.ma K (He.ga K "Function") "call_at") := T.meth 90
theorem Tx.c_Source (T : Tx w K mg) : Cls K (He.ga K "Source") := T.cls 91
theorem Tx.m_Source (T : Tx w K mg) : Mk K (He.ga K "Source") (He.ma K (He.ga K "Source") "__init__") := T.mkr 92
theorem Tx.n_Source_class_rows (T : Tx w K mg) : NoAttr K (He.ga K "Source") "class_rows" := T.noat 93
theorem Tx.n_Source_field_kinds (T : Tx w K mg) : NoAttr K (He.ga K "Source") "field_kinds" := T.noat 94
theorem Tx.n_Source_kept_functions (T : Tx w K mg) : NoAttr K (He.ga K "Source") "kept_functions" := T.noat 95
theorem Tx.h_Source_agrees (T : Tx w K mg) : Meth K (He.ga K "Source") "agrees" (He.ma K (He.ga K "Source") "agrees") := T.meth 96
theorem Tx.h_Source_set_functions (T : Tx w K mg) : Meth K (He.ga K "Source") "set_functions" (He.ma K (He.ga K "Source") "set_functions") := T.meth 97
theorem Tx.h_Source_is_row (T : Tx w K mg) : Meth K (He.ga K "Source") "is_row" (He.ma K (He.ga K "Source") "is_row") := T.meth 98
theorem Tx.h_Source_kind_in (T : Tx w K mg) : Meth K (He.ga K "Source") "kind_in" (He.ma K (He.ga K "Source") "kind_in") := T.meth 99
theorem Tx.h_Source_is_number_row (T : Tx w K mg) : Meth K (He.ga K "Source") "is_number_row" (He.ma K (He.ga K "Source") "is_number_row") := T.meth 100
theorem Tx.h_Source_is_object_row (T : Tx w K mg) : Meth K (He.ga K "Source") "is_object_row" (He.ma K (He.ga K "Source") "is_object_row") := T.meth 101
theorem Tx.h_Source_is_call (T : Tx w K mg) : Meth K (He.ga K "Source") "is_call" (He.ma K (He.ga K "Source") "is_call") := T.meth 102
theorem Tx.h_Source_is_plain_row (T : Tx w K mg) : Meth K (He.ga K "Source") "is_plain_row" (He.ma K (He.ga K "Source") "is_plain_row") := T.meth 103
theorem Tx.c_State (T : Tx w K mg) : Cls K (He.ga K "State") := T.cls 104
theorem Tx.m_State (T : Tx w K mg) : Mk K (He.ga K "State") (He.ma K (He.ga K "State") "__init__") := T.mkr 105
theorem Tx.n_State_source (T : Tx w K mg) : NoAttr K (He.ga K "State") "source" := T.noat 106
theorem Tx.n_State_frame_rows (T : Tx w K mg) : NoAttr K (He.ga K "State") "frame_rows" := T.noat 107
theorem Tx.n_State_held_objects (T : Tx w K mg) : NoAttr K (He.ga K "State") "held_objects" := T.noat 108
theorem Tx.c_Machine (T : Tx w K mg) : Cls K (He.ga K "Machine") := T.cls 109
theorem Tx.m_Machine (T : Tx w K mg) : Mk K (He.ga K "Machine") (He.ma K (He.ga K "Machine") "__init__") := T.mkr 110
theorem Tx.n_Machine_source (T : Tx w K mg) : NoAttr K (He.ga K "Machine") "source" := T.noat 111
theorem Tx.n_Machine_stack (T : Tx w K mg) : NoAttr K (He.ga K "Machine") "stack" := T.noat 112
theorem Tx.n_Machine_objects (T : Tx w K mg) : NoAttr K (He.ga K "Machine") "objects" := T.noat 113
theorem Tx.n_Machine_born (T : Tx w K mg) : NoAttr K (He.ga K "Machine") "born" := T.noat 114
theorem Tx.n_Machine_written (T : Tx w K mg) : NoAttr K (He.ga K "Machine") "written" := T.noat 115
theorem Tx.n_Machine_result (T : Tx w K mg) : NoAttr K (He.ga K "Machine") "result" := T.noat 116
theorem Tx.n_Machine_row_count (T : Tx w K mg) : NoAttr K (He.ga K "Machine") "row_count" := T.noat 117
theorem Tx.h_Machine_enter (T : Tx w K mg) : Meth K (He.ga K "Machine") "enter" (He.ma K (He.ga K "Machine") "enter") := T.meth 118
theorem Tx.h_Machine_row_here (T : Tx w K mg) : Meth K (He.ga K "Machine") "row_here" (He.ma K (He.ga K "Machine") "row_here") := T.meth 119
theorem Tx.h_Machine_fields_of (T : Tx w K mg) : Meth K (He.ga K "Machine") "fields_of" (He.ma K (He.ga K "Machine") "fields_of") := T.meth 120
theorem Tx.h_Machine_blank_field (T : Tx w K mg) : Meth K (He.ga K "Machine") "blank_field" (He.ma K (He.ga K "Machine") "blank_field") := T.meth 121
theorem Tx.h_Machine_seen (T : Tx w K mg) : Meth K (He.ga K "Machine") "seen" (He.ma K (He.ga K "Machine") "seen") := T.meth 122
theorem Tx.h_Machine_make (T : Tx w K mg) : Meth K (He.ga K "Machine") "make" (He.ma K (He.ga K "Machine") "make") := T.meth 123
theorem Tx.h_Machine_give_back (T : Tx w K mg) : Meth K (He.ga K "Machine") "give_back" (He.ma K (He.ga K "Machine") "give_back") := T.meth 124
theorem Tx.h_Machine_value_of (T : Tx w K mg) : Meth K (He.ga K "Machine") "value_of" (He.ma K (He.ga K "Machine") "value_of") := T.meth 125
theorem Tx.h_Machine_do_row (T : Tx w K mg) : Meth K (He.ga K "Machine") "do_row" (He.ma K (He.ga K "Machine") "do_row") := T.meth 126
theorem Tx.h_Machine_step (T : Tx w K mg) : Meth K (He.ga K "Machine") "step" (He.ma K (He.ga K "Machine") "step") := T.meth 127
theorem Tx.h_Machine_steps (T : Tx w K mg) : Meth K (He.ga K "Machine") "steps" (He.ma K (He.ga K "Machine") "steps") := T.meth 128
theorem Tx.h_Machine_rows (T : Tx w K mg) : Meth K (He.ga K "Machine") "rows" (He.ma K (He.ga K "Machine") "rows") := T.meth 129
theorem Tx.h_Machine_ended (T : Tx w K mg) : Meth K (He.ga K "Machine") "ended" (He.ma K (He.ga K "Machine") "ended") := T.meth 130
theorem Tx.h_Machine_log (T : Tx w K mg) : Meth K (He.ga K "Machine") "log" (He.ma K (He.ga K "Machine") "log") := T.meth 131
theorem Tx.h_Machine_frames (T : Tx w K mg) : Meth K (He.ga K "Machine") "frames" (He.ma K (He.ga K "Machine") "frames") := T.meth 132
theorem Tx.h_Machine_heap (T : Tx w K mg) : Meth K (He.ga K "Machine") "heap" (He.ma K (He.ga K "Machine") "heap") := T.meth 133
theorem Tx.d_is_integer (T : Tx w K mg) : ∃ fd, FnP K d_is_integer (He.fAd K (d_is_integer).at_) fd := T.def_ 0
theorem Tx.d_is_between (T : Tx w K mg) : ∃ fd, FnP K d_is_between (He.fAd K (d_is_between).at_) fd := T.def_ 1
theorem Tx.d_is_name (T : Tx w K mg) : ∃ fd, FnP K d_is_name (He.fAd K (d_is_name).at_) fd := T.def_ 2
theorem Tx.d_is_word (T : Tx w K mg) : ∃ fd, FnP K d_is_word (He.fAd K (d_is_word).at_) fd := T.def_ 3
theorem Tx.d_is_list (T : Tx w K mg) : ∃ fd, FnP K d_is_list (He.fAd K (d_is_list).at_) fd := T.def_ 4
theorem Tx.d_is_tuple (T : Tx w K mg) : ∃ fd, FnP K d_is_tuple (He.fAd K (d_is_tuple).at_) fd := T.def_ 5
theorem Tx.d_is_declared (T : Tx w K mg) : ∃ fd, FnP K d_is_declared (He.fAd K (d_is_declared).at_) fd := T.def_ 6
theorem Tx.d_are_declared (T : Tx w K mg) : ∃ fd, FnP K d_are_declared (He.fAd K (d_are_declared).at_) fd := T.def_ 7
theorem Tx.d_reckoned (T : Tx w K mg) : ∃ fd, FnP K d_reckoned (He.fAd K (d_reckoned).at_) fd := T.def_ 8
theorem Tx.d_is_object (T : Tx w K mg) : ∃ fd, FnP K d_is_object (He.fAd K (d_is_object).at_) fd := T.def_ 9
theorem Tx.d_has_kind (T : Tx w K mg) : ∃ fd, FnP K d_has_kind (He.fAd K (d_has_kind).at_) fd := T.def_ 10
theorem Tx.d_blank (T : Tx w K mg) : ∃ fd, FnP K d_blank (He.fAd K (d_blank).at_) fd := T.def_ 11
theorem Tx.d_is_class (T : Tx w K mg) : ∃ fd, FnP K d_is_class (He.fAd K (d_is_class).at_) fd := T.def_ 12
theorem Tx.d_is_head (T : Tx w K mg) : ∃ fd, FnP K d_is_head (He.fAd K (d_is_head).at_) fd := T.def_ 13
theorem Tx.d_Function_init (T : Tx w K mg) : ∃ fd, FnP K d_Function_init (He.fAd K (d_Function_init).at_) fd := T.def_ 14
theorem Tx.d_Function_call_at (T : Tx w K mg) : ∃ fd, FnP K d_Function_call_at (He.fAd K (d_Function_call_at).at_) fd := T.def_ 15
theorem Tx.d_frozen (T : Tx w K mg) : ∃ fd, FnP K d_frozen (He.fAd K (d_frozen).at_) fd := T.def_ 16
theorem Tx.d_Source_init (T : Tx w K mg) : ∃ fd, FnP K d_Source_init (He.fAd K (d_Source_init).at_) fd := T.def_ 17
theorem Tx.d_Source_agrees (T : Tx w K mg) : ∃ fd, FnP K d_Source_agrees (He.fAd K (d_Source_agrees).at_) fd := T.def_ 18
theorem Tx.d_Source_set_functions (T : Tx w K mg) : ∃ fd, FnP K d_Source_set_functions (He.fAd K (d_Source_set_functions).at_) fd := T.def_ 19
theorem Tx.d_Source_is_row (T : Tx w K mg) : ∃ fd, FnP K d_Source_is_row (He.fAd K (d_Source_is_row).at_) fd := T.def_ 20
theorem Tx.d_Source_kind_in (T : Tx w K mg) : ∃ fd, FnP K d_Source_kind_in (He.fAd K (d_Source_kind_in).at_) fd := T.def_ 21
theorem Tx.d_Source_is_number_row (T : Tx w K mg) : ∃ fd, FnP K d_Source_is_number_row (He.fAd K (d_Source_is_number_row).at_) fd := T.def_ 22
theorem Tx.d_Source_is_object_row (T : Tx w K mg) : ∃ fd, FnP K d_Source_is_object_row (He.fAd K (d_Source_is_object_row).at_) fd := T.def_ 23
theorem Tx.d_Source_is_call (T : Tx w K mg) : ∃ fd, FnP K d_Source_is_call (He.fAd K (d_Source_is_call).at_) fd := T.def_ 24
theorem Tx.d_Source_is_plain_row (T : Tx w K mg) : ∃ fd, FnP K d_Source_is_plain_row (He.fAd K (d_Source_is_plain_row).at_) fd := T.def_ 25
theorem Tx.d_check_source (T : Tx w K mg) : ∃ fd, FnP K d_check_source (He.fAd K (d_check_source).at_) fd := T.def_ 26
theorem Tx.d_set_by (T : Tx w K mg) : ∃ fd, FnP K d_set_by (He.fAd K (d_set_by).at_) fd := T.def_ 27
theorem Tx.d_read_by (T : Tx w K mg) : ∃ fd, FnP K d_read_by (He.fAd K (d_read_by).at_) fd := T.def_ 28
theorem Tx.d_next_rows (T : Tx w K mg) : ∃ fd, FnP K d_next_rows (He.fAd K (d_next_rows).at_) fd := T.def_ 29
theorem Tx.d_wanted_rows (T : Tx w K mg) : ∃ fd, FnP K d_wanted_rows (He.fAd K (d_wanted_rows).at_) fd := T.def_ 30
theorem Tx.d_wanted_by_next (T : Tx w K mg) : ∃ fd, FnP K d_wanted_by_next (He.fAd K (d_wanted_by_next).at_) fd := T.def_ 31
theorem Tx.d_wanted_at (T : Tx w K mg) : ∃ fd, FnP K d_wanted_at (He.fAd K (d_wanted_at).at_) fd := T.def_ 32
theorem Tx.d_wanted_behind (T : Tx w K mg) : ∃ fd, FnP K d_wanted_behind (He.fAd K (d_wanted_behind).at_) fd := T.def_ 33
theorem Tx.d_checked_function (T : Tx w K mg) : ∃ fd, FnP K d_checked_function (He.fAd K (d_checked_function).at_) fd := T.def_ 34
theorem Tx.d_wanted (T : Tx w K mg) : ∃ fd, FnP K d_wanted (He.fAd K (d_wanted).at_) fd := T.def_ 35
theorem Tx.d_wanted_at_call (T : Tx w K mg) : ∃ fd, FnP K d_wanted_at_call (He.fAd K (d_wanted_at_call).at_) fd := T.def_ 36
theorem Tx.d_is_frame (T : Tx w K mg) : ∃ fd, FnP K d_is_frame (He.fAd K (d_is_frame).at_) fd := T.def_ 37
theorem Tx.d_are_frames (T : Tx w K mg) : ∃ fd, FnP K d_are_frames (He.fAd K (d_are_frames).at_) fd := T.def_ 38
theorem Tx.d_is_heap (T : Tx w K mg) : ∃ fd, FnP K d_is_heap (He.fAd K (d_is_heap).at_) fd := T.def_ 39
theorem Tx.d_bounded (T : Tx w K mg) : ∃ fd, FnP K d_bounded (He.fAd K (d_bounded).at_) fd := T.def_ 40
theorem Tx.d_referred (T : Tx w K mg) : ∃ fd, FnP K d_referred (He.fAd K (d_referred).at_) fd := T.def_ 41
theorem Tx.d_State_init (T : Tx w K mg) : ∃ fd, FnP K d_State_init (He.fAd K (d_State_init).at_) fd := T.def_ 42
theorem Tx.d_Machine_init (T : Tx w K mg) : ∃ fd, FnP K d_Machine_init (He.fAd K (d_Machine_init).at_) fd := T.def_ 43
theorem Tx.d_Machine_enter (T : Tx w K mg) : ∃ fd, FnP K d_Machine_enter (He.fAd K (d_Machine_enter).at_) fd := T.def_ 44
theorem Tx.d_Machine_row_here (T : Tx w K mg) : ∃ fd, FnP K d_Machine_row_here (He.fAd K (d_Machine_row_here).at_) fd := T.def_ 45
theorem Tx.d_Machine_fields_of (T : Tx w K mg) : ∃ fd, FnP K d_Machine_fields_of (He.fAd K (d_Machine_fields_of).at_) fd := T.def_ 46
theorem Tx.d_Machine_blank_field (T : Tx w K mg) : ∃ fd, FnP K d_Machine_blank_field (He.fAd K (d_Machine_blank_field).at_) fd := T.def_ 47
theorem Tx.d_Machine_seen (T : Tx w K mg) : ∃ fd, FnP K d_Machine_seen (He.fAd K (d_Machine_seen).at_) fd := T.def_ 48
theorem Tx.d_Machine_make (T : Tx w K mg) : ∃ fd, FnP K d_Machine_make (He.fAd K (d_Machine_make).at_) fd := T.def_ 49
theorem Tx.d_Machine_give_back (T : Tx w K mg) : ∃ fd, FnP K d_Machine_give_back (He.fAd K (d_Machine_give_back).at_) fd := T.def_ 50
theorem Tx.d_Machine_value_of (T : Tx w K mg) : ∃ fd, FnP K d_Machine_value_of (He.fAd K (d_Machine_value_of).at_) fd := T.def_ 51
theorem Tx.d_Machine_do_row (T : Tx w K mg) : ∃ fd, FnP K d_Machine_do_row (He.fAd K (d_Machine_do_row).at_) fd := T.def_ 52
theorem Tx.d_Machine_step (T : Tx w K mg) : ∃ fd, FnP K d_Machine_step (He.fAd K (d_Machine_step).at_) fd := T.def_ 53
theorem Tx.d_Machine_steps (T : Tx w K mg) : ∃ fd, FnP K d_Machine_steps (He.fAd K (d_Machine_steps).at_) fd := T.def_ 54
theorem Tx.d_Machine_rows (T : Tx w K mg) : ∃ fd, FnP K d_Machine_rows (He.fAd K (d_Machine_rows).at_) fd := T.def_ 55
theorem Tx.d_Machine_ended (T : Tx w K mg) : ∃ fd, FnP K d_Machine_ended (He.fAd K (d_Machine_ended).at_) fd := T.def_ 56
theorem Tx.d_Machine_log (T : Tx w K mg) : ∃ fd, FnP K d_Machine_log (He.fAd K (d_Machine_log).at_) fd := T.def_ 57
theorem Tx.d_Machine_frames (T : Tx w K mg) : ∃ fd, FnP K d_Machine_frames (He.fAd K (d_Machine_frames).at_) fd := T.def_ 58
theorem Tx.d_Machine_heap (T : Tx w K mg) : ∃ fd, FnP K d_Machine_heap (He.fAd K (d_Machine_heap).at_) fd := T.def_ 59
theorem Tx.d_going_on (T : Tx w K mg) : ∃ fd, FnP K d_going_on (He.fAd K (d_going_on).at_) fd := T.def_ 60
theorem Tx.d_law_well (T : Tx w K mg) : ∃ fd, FnP K d_law_well (He.fAd K (d_law_well).at_) fd := T.def_ 61
theorem Tx.d_law_draw (T : Tx w K mg) : ∃ fd, FnP K d_law_draw (He.fAd K (d_law_draw).at_) fd := T.def_ 62
theorem Tx.d_law_one (T : Tx w K mg) : ∃ fd, FnP K d_law_one (He.fAd K (d_law_one).at_) fd := T.def_ 63
theorem Tx.d_law_plain (T : Tx w K mg) : ∃ fd, FnP K d_law_plain (He.fAd K (d_law_plain).at_) fd := T.def_ 64
theorem Tx.d_law_function (T : Tx w K mg) : ∃ fd, FnP K d_law_function (He.fAd K (d_law_function).at_) fd := T.def_ 65
theorem Tx.d_law_classes (T : Tx w K mg) : ∃ fd, FnP K d_law_classes (He.fAd K (d_law_classes).at_) fd := T.def_ 66
theorem Tx.d_law_turned (T : Tx w K mg) : ∃ fd, FnP K d_law_turned (He.fAd K (d_law_turned).at_) fd := T.def_ 67
theorem Tx.d_law_told (T : Tx w K mg) : ∃ fd, FnP K d_law_told (He.fAd K (d_law_told).at_) fd := T.def_ 68
theorem Tx.d_law_right (T : Tx w K mg) : ∃ fd, FnP K d_law_right (He.fAd K (d_law_right).at_) fd := T.def_ 69
theorem Tx.d_law (T : Tx w K mg) : ∃ fd, FnP K d_law (He.fAd K (d_law).at_) fd := T.def_ 70
end
end K18
set_option Elab.async false
set_option linter.all false
set_option maxRecDepth 100000
set_option maxHeartbeats 4000000
namespace K18
open PySem
/-! the mirror: rows, frames, machines; what is wanted; the lockstep -/
inductive NV | a | b | c
  deriving DecidableEq
inductive OV | o | p
  deriving DecidableEq
/-- a variable: a number's or an object's -/
inductive Vr | n (x : NV) | o (s : OV)
  deriving DecidableEq
inductive Row
  | num (x : NV) | cpN (x y : NV) | add (x y z : NV) | sub (x y z : NV) | less (x y z : NV)
  | same (x : NV) (s t : OV) | nil (s : OV) | cpO (s t : OV) | new (s : OV)
  | getI (x : NV) (s : OV) | putI (s : OV) (y : NV) | getN (s t : OV) | putN (s t : OV)
  | call (x y : NV) (s : OV) | seeN (x : NV) | seeO (s : OV) | ifz (x : NV) (r : Nat) | jump (r : Nat) | ret (x : NV)
  deriving DecidableEq
/-- what a row reads, sets, where it goes -/
def Row.reads : Row → List Vr
  | .num _ => [] | .cpN _ y => [.n y] | .add _ y z => [.n y, .n z] | .sub _ y z => [.n y, .n z] | .less _ y z => [.n y, .n z]
  | .same _ s t => [.o s, .o t] | .nil _ => [] | .cpO _ t => [.o t] | .new _ => []
  | .getI _ s => [.o s] | .putI s y => [.o s, .n y] | .getN _ t => [.o t] | .putN s t => [.o s, .o t]
  | .call _ y s => [.n y, .o s] | .seeN x => [.n x] | .seeO s => [.o s] | .ifz x _ => [.n x] | .jump _ => [] | .ret x => [.n x]
def Row.sets : Row → Option Vr
  | .num x => some (.n x) | .cpN x _ => some (.n x) | .add x _ _ => some (.n x) | .sub x _ _ => some (.n x) | .less x _ _ => some (.n x)
  | .same x _ _ => some (.n x) | .nil s => some (.o s) | .cpO s _ => some (.o s) | .new s => some (.o s)
  | .getI x _ => some (.n x) | .putI _ _ => none | .getN s _ => some (.o s) | .putN _ _ => none
  | .call x _ _ => some (.n x) | .seeN _ => none | .seeO _ => none | .ifz _ _ => none | .jump _ => none | .ret _ => none
def Row.nexts (at_ : Nat) : Row → List Nat
  | .ret _ => [] | .jump r => [r] | .ifz _ r => [at_ + 1, r] | _ => [at_ + 1]
/-- a program: the rows of g (false) and f (true) -/
abbrev Prg := Bool → List Row
/-- wanted at a row -/
inductive Want (rows : List Row) : Nat → Vr → Prop
  | read {at_ : Nat} {r : Row} {v : Vr} : rows[at_]? = some r → v ∈ r.reads → Want rows at_ v
  | step {at_ b : Nat} {r : Row} {v : Vr} : rows[at_]? = some r → r.sets ≠ some v → b ∈ r.nexts at_ → Want rows b v → Want rows at_ v
structure Fr where
  fn : Bool
  at_ : Nat
  num : NV → Int
  obj : OV → Option Nat
structure Ob where
  item : Int
  next : Option Nat
inductive Lg | num (i : Int) | obj | nil
structure Mch where
  stack : List Fr
  obs : List Ob
  born : Nat
  log : List Lg
  res : Option Int
  cnt : Nat
def Fr.setN (f : Fr) (x : NV) (i : Int) : Fr := { f with num := fun y => if y = x then i else f.num y }
def Fr.setO (f : Fr) (s : OV) (n : Option Nat) : Fr := { f with obj := fun t => if t = s then n else f.obj t }
def Fr.go (f : Fr) (r : Nat) : Fr := { f with at_ := r }
def Fr.nx (f : Fr) : Fr := f.go (f.at_ + 1)
def fEnter (i : Int) (o : Option Nat) : Fr := ⟨true, 0, fun y => if y = .a then i else 0, fun t => if t = .o then o else none⟩
def Mch.top (m : Mch) (f : Fr) (rest : List Fr) : Mch := { m with stack := f :: rest }
def callVar (P : Prg) (c : Fr) : NV := match (P c.fn)[c.at_]? with
  | some (.call x _ _) => x
  | _ => .a
def Mch.item (m : Mch) : Option Nat → Int
  | none => 0
  | some n => match m.obs[n]? with | some o => o.item | none => 0
def Mch.next (m : Mch) : Option Nat → Option Nat
  | none => none
  | some n => match m.obs[n]? with | some o => o.next | none => none
def Mch.putI (m : Mch) (o : Option Nat) (i : Int) : Mch := match o with
  | none => m
  | some n => { m with obs := m.obs.modify n fun o => { o with item := i } }
def Mch.putN (m : Mch) (o : Option Nat) (x : Option Nat) : Mch := match o with
  | none => m
  | some n => { m with obs := m.obs.modify n fun o => { o with next := x } }
def Mch.see (m : Mch) (e : Lg) : Mch := { m with log := m.log ++ [e] }
def Mch.tick (m : Mch) : Mch := { m with cnt := m.cnt + 1 }
def Mch.make (m : Mch) : Mch := { m with obs := m.obs ++ [⟨0, none⟩], born := m.born + 1 }
def b01 (b : Bool) : Int := if b then 1 else 0
/-- a row that is no call and no return, on the innermost frame t -/
def doRow (m : Mch) (t : Fr) (rest : List Fr) : Row → Mch
  | .num x => m.top (t.setN x 5).nx rest
  | .cpN x y => m.top (t.setN x (t.num y)).nx rest
  | .add x y z => m.top (t.setN x (t.num y + t.num z)).nx rest
  | .sub x y z => m.top (t.setN x (t.num y - t.num z)).nx rest
  | .less x y z => m.top (t.setN x (b01 (decide (t.num y < t.num z)))).nx rest
  | .same x s u => m.top (t.setN x (b01 (decide (t.obj s = t.obj u)))).nx rest
  | .nil s => m.top (t.setO s none).nx rest
  | .cpO s u => m.top (t.setO s (t.obj u)).nx rest
  | .new s => m.make.top (t.setO s (some m.born)).nx rest
  | .getI x s => m.top (t.setN x (m.item (t.obj s))).nx rest
  | .putI s y => (m.putI (t.obj s) (t.num y)).top t.nx rest
  | .getN s u => m.top (t.setO s (m.next (t.obj u))).nx rest
  | .putN s u => (m.putN (t.obj s) (t.obj u)).top t.nx rest
  | .seeN x => (m.see (.num (t.num x))).top t.nx rest
  | .seeO s => (m.see (match t.obj s with | none => .nil | some _ => .obj)).top t.nx rest
  | .ifz x r => m.top (if t.num x = 0 then t.go r else t.nx) rest
  | .jump r => m.top (t.go r) rest
  | .call _ _ _ => m
  | .ret _ => m
def giveBack (P : Prg) (m : Mch) (rest : List Fr) (i : Int) : Mch := match rest with
  | [] => { m with stack := [], res := some i }
  | c :: r => m.top (c.setN (callVar P c) i).nx r
def stepAt (P : Prg) (m : Mch) (t : Fr) (rest : List Fr) : Row → Mch
  | .call _ y s => (m.top (fEnter (t.num y) (t.obj s)) (t :: rest)).tick
  | .ret x => (giveBack P m rest (t.num x)).tick
  | r => (doRow m t rest r).tick
def step (P : Prg) (m : Mch) : Mch := match m.stack with
  | [] => m
  | t :: rest => match (P t.fn)[t.at_]? with
    | none => m
    | some r => stepAt P m t rest r
def steps (P : Prg) : Nat → Mch → Mch
  | 0, m => m
  | n + 1, m => steps P n (step P m)

/-! what stays true -/
structure PrgOk (P : Prg) : Prop where
  ne : ∀ b, P b ≠ []
  len : ∀ b, (P b).length ≤ 10
  goI : ∀ b (i : Nat) x r, (P b)[i]? = some (.ifz x r) → r < (P b).length
  goJ : ∀ b (i : Nat) r, (P b)[i]? = some (.jump r) → r < (P b).length
  last : ∀ b r, (P b)[(P b).length - 1]? = some r → (∃ k, r = .jump k) ∨ ∃ x, r = .ret x
def Bd (k : Nat) (i : Int) : Prop := -(5 * 2 ^ k) ≤ i ∧ i ≤ 5 * 2 ^ k
structure FrOk (P : Prg) (k n : Nat) (f : Fr) : Prop where
  at_ : f.at_ < (P f.fn).length
  num : ∀ x, Bd k (f.num x)
  obj : ∀ s j, f.obj s = some j → j < n
def Calls (P : Prg) (f : Fr) : Prop := ∃ x y s, (P f.fn)[f.at_]? = some (.call x y s)
/-- each frame but the innermost stands at a call; calls are of f -/
inductive Chain (P : Prg) : List Fr → Prop
  | one (f : Fr) : Chain P [f]
  | cons {f g : Fr} {r : List Fr} : f.fn = true → Calls P g → Chain P (g :: r) → Chain P (f :: g :: r)
structure Good (P : Prg) (k : Nat) (m : Mch) : Prop where
  fr : ∀ f ∈ m.stack, FrOk P k m.obs.length f
  ch : m.stack = [] ∨ Chain P m.stack
  ob : ∀ o ∈ m.obs, Bd k o.item ∧ ∀ j, o.next = some j → j < m.obs.length
  born : m.born = m.obs.length
  res : m.res = none ↔ m.stack ≠ []
theorem Bd.mono {k l : Nat} {i : Int} (h : Bd k i) (hl : k ≤ l) : Bd l i := by
  have h2 : (2 : Nat) ^ k ≤ 2 ^ l := Nat.pow_le_pow_right (by omega) hl
  have e1 : ((2 : Int) ^ k) = ((2 ^ k : Nat) : Int) := by simp
  have e2 : ((2 : Int) ^ l) = ((2 ^ l : Nat) : Int) := by simp
  unfold Bd at h ⊢
  rw [e1] at h
  rw [e2]
  omega
theorem Bd.five (k : Nat) : Bd k 5 := by
  have h2 : (2 : Nat) ^ 0 ≤ 2 ^ k := Nat.pow_le_pow_right (by omega) (Nat.zero_le _)
  have e1 : ((2 : Int) ^ k) = ((2 ^ k : Nat) : Int) := by simp
  unfold Bd
  rw [e1]
  omega
theorem Bd.small (k : Nat) {i : Int} (h1 : -5 ≤ i) (h2 : i ≤ 5) : Bd k i := by
  have h := Bd.five k
  unfold Bd at h ⊢
  omega
theorem Bd.add {k : Nat} {i j : Int} (h : Bd k i) (h' : Bd k j) : Bd (k + 1) (i + j) := by
  unfold Bd at *
  rw [Int.pow_succ]
  omega
theorem Bd.sub {k : Nat} {i j : Int} (h : Bd k i) (h' : Bd k j) : Bd (k + 1) (i - j) := by
  unfold Bd at *
  rw [Int.pow_succ]
  omega
theorem Bd.b01 (k : Nat) (b : Bool) : Bd k (b01 b) := by
  cases b
  · exact Bd.small k (by decide) (by decide)
  · exact Bd.small k (by decide) (by decide)
theorem Bd.most {k : Nat} {i : Int} (h : Bd k i) (hk : k ≤ 190) : -(10 ^ 60) ≤ i ∧ i ≤ 10 ^ 60 := by
  have h' := h.mono hk
  unfold Bd at h'
  have e : (5 : Int) * 2 ^ 190 ≤ 10 ^ 60 := by decide
  omega
end K18
set_option Elab.async false
set_option linter.all false
set_option maxRecDepth 100000
set_option maxHeartbeats 4000000
namespace K18
open PySem
/-! ## what stays true behind a row -/
theorem PrgOk.next {P : Prg} (h : PrgOk P) {b : Bool} {i : Nat} {r : Row} (e : (P b)[i]? = some r) (h1 : ∀ k, r ≠ .jump k) (h2 : ∀ x, r ≠ .ret x) : i + 1 < (P b).length := by
  obtain ⟨hi, er⟩ := List.getElem?_eq_some_iff.mp e
  have : i ≠ (P b).length - 1 := by
    intro q
    subst q
    rcases h.last b r e with ⟨k, z⟩ | ⟨x, z⟩
    · exact h1 k z
    · exact h2 x z
  omega
theorem FrOk.mono {P : Prg} {k l n n' : Nat} {f : Fr} (h : FrOk P k n f) (hk : k ≤ l) (hn : n ≤ n') : FrOk P l n' f :=
  ⟨h.at_, fun x => (h.num x).mono hk, fun s j e => Nat.lt_of_lt_of_le (h.obj s j e) hn⟩
theorem FrOk.setN {P : Prg} {k n : Nat} {f : Fr} (h : FrOk P k n f) (x : NV) {i : Int} (hi : Bd k i) : FrOk P k n (f.setN x i) :=
  ⟨h.at_, fun y => by
    show Bd k (if y = x then i else f.num y)
    split
    · exact hi
    · exact h.num y, h.obj⟩
theorem FrOk.setO {P : Prg} {k n : Nat} {f : Fr} (h : FrOk P k n f) (s : OV) {o : Option Nat} (ho : ∀ j, o = some j → j < n) : FrOk P k n (f.setO s o) :=
  ⟨h.at_, h.num, fun t j e => by
    have e : (if t = s then o else f.obj t) = some j := e
    split at e
    · exact ho j e
    · exact h.obj t j e⟩
theorem FrOk.go {P : Prg} {k n : Nat} {f : Fr} (h : FrOk P k n f) {r : Nat} (hr : r < (P f.fn).length) : FrOk P k n (f.go r) := ⟨hr, h.num, h.obj⟩
theorem Chain.head {P : Prg} {f g : Fr} {r : List Fr} (h : Chain P (f :: r)) (e : g.fn = f.fn) : Chain P (g :: r) := by
  cases h with
  | one => exact .one g
  | cons a b c => exact .cons (e.trans a) b c
/-- a row that leaves the frames but the innermost as they are -/
theorem Good.top {P : Prg} {k : Nat} {m m' : Mch} {t f : Fr} {rest : List Fr} (g : Good P k m) (hs : m.stack = t :: rest) (h' : m'.stack = f :: rest) (hf : f.fn = t.fn) (ok : FrOk P (k + 1) m'.obs.length f)
    (hl : m.obs.length ≤ m'.obs.length) (ob : ∀ o ∈ m'.obs, Bd (k + 1) o.item ∧ ∀ j, o.next = some j → j < m'.obs.length) (hb : m'.born = m'.obs.length) (hr : m'.res = m.res) : Good P (k + 1) m' := by
  refine ⟨fun q hq => ?_, .inr ?_, ob, hb, ?_⟩
  · rw [h'] at hq
    rcases List.mem_cons.mp hq with e | hq
    · rw [e]; exact ok
    · exact (g.fr q (by rw [hs]; exact List.mem_cons_of_mem _ hq)).mono (Nat.le_succ _) hl
  · rw [h']
    rcases g.ch with e | c
    · rw [hs] at e; cases e
    · rw [hs] at c; exact c.head hf
  · rw [hr, g.res, hs, h']
    simp
theorem Good.obk {P : Prg} {k : Nat} {m : Mch} (g : Good P k m) : ∀ o ∈ m.obs, Bd (k + 1) o.item ∧ ∀ j, o.next = some j → j < m.obs.length :=
  fun o ho => ⟨(g.ob o ho).1.mono (Nat.le_succ _), (g.ob o ho).2⟩
theorem Good.item {P : Prg} {k : Nat} {m : Mch} (g : Good P k m) (o : Option Nat) : Bd k (m.item o) := by
  cases o with
  | none =>
    show Bd k 0
    exact Bd.small k (by decide) (by decide)
  | some n =>
    show Bd k (match m.obs[n]? with | some o => o.item | none => 0)
    cases e : m.obs[n]? with
    | none => exact Bd.small k (by decide) (by decide)
    | some o => exact (g.ob o (List.mem_of_getElem? e)).1
theorem Good.next {P : Prg} {k : Nat} {m : Mch} (g : Good P k m) (o : Option Nat) : ∀ j, m.next o = some j → j < m.obs.length := by
  cases o with
  | none => intro j e; cases e
  | some n =>
    intro j e
    have e : (match m.obs[n]? with | some o => o.next | none => none) = some j := e
    cases q : m.obs[n]? with
    | none => rw [q] at e; cases e
    | some o => rw [q] at e; exact (g.ob o (List.mem_of_getElem? q)).2 j e
theorem mem_modify {α : Type} {f : α → α} : ∀ {l : List α} {n : Nat} {x : α}, x ∈ l.modify n f → x ∈ l ∨ ∃ y ∈ l, x = f y
  | [], n, x, h => by simp at h
  | a :: l, 0, x, h => by
    have h : x ∈ f a :: l := by simpa using h
    rcases List.mem_cons.mp h with e | h
    · exact .inr ⟨a, List.mem_cons_self, e⟩
    · exact .inl (List.mem_cons_of_mem _ h)
  | a :: l, n + 1, x, h => by
    have h : x ∈ a :: l.modify n f := by simpa using h
    rcases List.mem_cons.mp h with e | h
    · exact .inl (by rw [e]; exact List.mem_cons_self)
    · rcases mem_modify h with h | ⟨y, hy, e⟩
      · exact .inl (List.mem_cons_of_mem _ h)
      · exact .inr ⟨y, List.mem_cons_of_mem _ hy, e⟩
theorem putI_len (m : Mch) (o : Option Nat) (i : Int) : (m.putI o i).obs.length = m.obs.length := by cases o <;> simp [Mch.putI]
theorem putN_len (m : Mch) (o : Option Nat) (i : Option Nat) : (m.putN o i).obs.length = m.obs.length := by cases o <;> simp [Mch.putN]
theorem putI_ob {P : Prg} {k : Nat} {m : Mch} (g : Good P k m) (o : Option Nat) {i : Int} (hi : Bd k i) : ∀ q ∈ (m.putI o i).obs, Bd (k + 1) q.item ∧ ∀ j, q.next = some j → j < (m.putI o i).obs.length := by
  rw [putI_len]
  intro q hq
  cases o with
  | none => exact g.obk q hq
  | some n =>
    rcases mem_modify (show q ∈ m.obs.modify n _ from hq) with h | ⟨y, hy, e⟩
    · exact g.obk q h
    · rw [e]; exact ⟨hi.mono (Nat.le_succ _), (g.obk y hy).2⟩
theorem putN_ob {P : Prg} {k : Nat} {m : Mch} (g : Good P k m) (o : Option Nat) {x : Option Nat} (hx : ∀ j, x = some j → j < m.obs.length) : ∀ q ∈ (m.putN o x).obs, Bd (k + 1) q.item ∧ ∀ j, q.next = some j → j < (m.putN o x).obs.length := by
  rw [putN_len]
  intro q hq
  cases o with
  | none => exact g.obk q hq
  | some n =>
    rcases mem_modify (show q ∈ m.obs.modify n _ from hq) with h | ⟨y, hy, e⟩
    · exact g.obk q h
    · rw [e]; exact ⟨(g.obk y hy).1, hx⟩
theorem putI_eq (m : Mch) (o : Option Nat) (i : Int) : (m.putI o i).born = m.born ∧ (m.putI o i).res = m.res ∧ (m.putI o i).stack = m.stack := by cases o <;> exact ⟨rfl, rfl, rfl⟩
theorem putN_eq (m : Mch) (o : Option Nat) (i : Option Nat) : (m.putN o i).born = m.born ∧ (m.putN o i).res = m.res ∧ (m.putN o i).stack = m.stack := by cases o <;> exact ⟨rfl, rfl, rfl⟩
/-- frames that an ordinary row leaves -/
theorem Good.doRow {P : Prg} (h : PrgOk P) {k : Nat} {m : Mch} (g : Good P k m) {t : Fr} {rest : List Fr} (hs : m.stack = t :: rest) {r : Row} (e : (P t.fn)[t.at_]? = some r) (hc : ∀ x y s, r ≠ .call x y s) (hr : ∀ x, r ≠ .ret x) : Good P (k + 1) (doRow m t rest r) := by
  have ft : FrOk P k m.obs.length t := g.fr t (by rw [hs]; exact List.mem_cons_self)
  have f1 : FrOk P (k + 1) m.obs.length t := ft.mono (Nat.le_succ _) (Nat.le_refl _)
  have nx : (∀ k, r ≠ .jump k) → t.at_ + 1 < (P t.fn).length := fun hj => h.next e hj hr
  have obk := g.obk
  cases r with
  | num x => exact g.top hs rfl rfl ((f1.setN x (Bd.five _)).go (nx (by simp))) (Nat.le_refl _) obk g.born rfl
  | cpN x y => exact g.top hs rfl rfl ((f1.setN x (f1.num y)).go (nx (by simp))) (Nat.le_refl _) obk g.born rfl
  | add x y z => exact g.top hs rfl rfl ((f1.setN x ((ft.num y).add (ft.num z))).go (nx (by simp))) (Nat.le_refl _) obk g.born rfl
  | sub x y z => exact g.top hs rfl rfl ((f1.setN x ((ft.num y).sub (ft.num z))).go (nx (by simp))) (Nat.le_refl _) obk g.born rfl
  | less x y z => exact g.top hs rfl rfl ((f1.setN x (Bd.b01 _ _)).go (nx (by simp))) (Nat.le_refl _) obk g.born rfl
  | same x s u => exact g.top hs rfl rfl ((f1.setN x (Bd.b01 _ _)).go (nx (by simp))) (Nat.le_refl _) obk g.born rfl
  | nil s => exact g.top hs rfl rfl ((f1.setO s (fun j z => by cases z)).go (nx (by simp))) (Nat.le_refl _) obk g.born rfl
  | cpO s u => exact g.top hs rfl rfl ((f1.setO s (fun j z => f1.obj u j z)).go (nx (by simp))) (Nat.le_refl _) obk g.born rfl
  | new s =>
    have hl : m.obs.length ≤ (m.obs ++ [(⟨0, none⟩ : Ob)]).length := by simp
    refine g.top (m' := m.make.top (t.setO s (some m.born)).nx rest) hs rfl rfl (((f1.mono (Nat.le_refl _) hl).setO s (fun j z => ?_)).go (nx (by simp))) hl (fun q hq => ?_) ?_ rfl
    · cases z
      rw [g.born]
      simp
    · rcases List.mem_append.mp hq with hq | hq
      · exact ⟨(obk q hq).1, fun j z => Nat.lt_of_lt_of_le ((obk q hq).2 j z) hl⟩
      · have e : q = (⟨0, none⟩ : Ob) := by simpa using hq
        rw [e]
        exact ⟨Bd.small _ (by decide) (by decide), fun j z => by cases z⟩
    · show m.born + 1 = (m.obs ++ [(⟨0, none⟩ : Ob)]).length
      rw [g.born]
      simp
  | getI x s => exact g.top hs rfl rfl ((f1.setN x ((g.item _).mono (Nat.le_succ _))).go (nx (by simp))) (Nat.le_refl _) obk g.born rfl
  | putI s y =>
    have l := putI_len m (t.obj s) (t.num y)
    obtain ⟨b, r, _⟩ := putI_eq m (t.obj s) (t.num y)
    refine g.top hs rfl rfl ((f1.mono (Nat.le_refl _) (Nat.le_of_eq l.symm)).go (nx (by simp))) (Nat.le_of_eq l.symm) (putI_ob g _ (ft.num y)) ?_ r
    show (m.putI (t.obj s) (t.num y)).born = (m.putI (t.obj s) (t.num y)).obs.length
    rw [b, l, g.born]
  | getN s u => exact g.top hs rfl rfl ((f1.setO s (g.next _)).go (nx (by simp))) (Nat.le_refl _) obk g.born rfl
  | putN s u =>
    have l := putN_len m (t.obj s) (t.obj u)
    obtain ⟨b, r, _⟩ := putN_eq m (t.obj s) (t.obj u)
    refine g.top hs rfl rfl ((f1.mono (Nat.le_refl _) (Nat.le_of_eq l.symm)).go (nx (by simp))) (Nat.le_of_eq l.symm) (putN_ob g _ (fun j z => ft.obj u j z)) ?_ r
    show (m.putN (t.obj s) (t.obj u)).born = (m.putN (t.obj s) (t.obj u)).obs.length
    rw [b, l, g.born]
  | call x y s => exact absurd rfl (hc x y s)
  | seeN x => exact g.top hs rfl rfl (f1.go (nx (by simp))) (Nat.le_refl _) obk g.born rfl
  | seeO s => exact g.top hs rfl rfl (f1.go (nx (by simp))) (Nat.le_refl _) obk g.born rfl
  | ifz x r =>
    have n1 := nx (by simp)
    have n2 := h.goI _ _ _ _ e
    refine g.top hs (f := if t.num x = 0 then t.go r else t.nx) rfl ?_ ?_ (Nat.le_refl _) obk g.born rfl
    · split <;> rfl
    · split
      · exact f1.go n2
      · exact f1.go n1
  | jump r => exact g.top hs rfl rfl (f1.go (h.goJ _ _ _ e)) (Nat.le_refl _) obk g.born rfl
  | ret x => exact absurd rfl (hr x)
theorem Good.tick {P : Prg} {k : Nat} {m : Mch} (g : Good P k m) : Good P k m.tick := ⟨g.fr, g.ch, g.ob, g.born, g.res⟩
theorem Good.more {P : Prg} {k : Nat} {m : Mch} (g : Good P k m) : Good P (k + 1) m :=
  ⟨fun f hf => (g.fr f hf).mono (Nat.le_succ _) (Nat.le_refl _), g.ch, g.obk, g.born, g.res⟩
theorem Good.call {P : Prg} (h : PrgOk P) {k : Nat} {m : Mch} (g : Good P k m) {t : Fr} {rest : List Fr} (hs : m.stack = t :: rest) {x y : NV} {s : OV} (e : (P t.fn)[t.at_]? = some (.call x y s)) : Good P (k + 1) (m.top (fEnter (t.num y) (t.obj s)) (t :: rest)) := by
  have g1 := g.more
  have ft : FrOk P (k + 1) m.obs.length t := g1.fr t (by rw [hs]; exact List.mem_cons_self)
  refine ⟨fun f hf => ?_, .inr ?_, g1.ob, g1.born, ?_⟩
  · rcases List.mem_cons.mp (show f ∈ fEnter (t.num y) (t.obj s) :: t :: rest from hf) with z | hf
    · rw [z]
      refine ⟨?_, fun x => ?_, fun u j z => ?_⟩
      · have := h.ne true
        show 0 < (P true).length
        exact List.length_pos_iff.mpr this
      · show Bd (k + 1) (if x = .a then t.num y else 0)
        split
        · exact ft.num y
        · exact Bd.small _ (by decide) (by decide)
      · have z : (if u = .o then t.obj s else none) = some j := z
        split at z
        · exact ft.obj s j z
        · cases z
    · exact g1.fr f (by rw [hs]; exact hf)
  · refine .cons rfl ⟨x, y, s, e⟩ ?_
    rcases g.ch with q | c
    · rw [hs] at q; cases q
    · rw [← hs]; exact c
  · show m.res = none ↔ fEnter (t.num y) (t.obj s) :: t :: rest ≠ []
    rw [g.res, hs]
    simp
theorem Good.back {P : Prg} (h : PrgOk P) {k : Nat} {m : Mch} (g : Good P k m) {t : Fr} {rest : List Fr} (hs : m.stack = t :: rest) (x : NV) : Good P (k + 1) (giveBack P m rest (t.num x)) := by
  have g1 := g.more
  have ft : FrOk P (k + 1) m.obs.length t := g1.fr t (by rw [hs]; exact List.mem_cons_self)
  cases rest with
  | nil =>
    refine ⟨fun f hf => ?_, .inl rfl, g1.ob, g1.born, ?_⟩
    · cases hf
    · show some (t.num x) = none ↔ ([] : List Fr) ≠ []
      simp
  | cons c r =>
    have fc : FrOk P (k + 1) m.obs.length c := g1.fr c (by rw [hs]; simp)
    have hc : Chain P (t :: c :: r) := by
      rcases g.ch with q | z
      · rw [hs] at q; cases q
      · rw [← hs]; exact z
    cases hc with
    | cons a b c' =>
      obtain ⟨x', y', s', e⟩ := b
      have n := h.next e (by simp) (by simp)
      refine ⟨fun f hf => ?_, .inr (c'.head (g := (c.setN (callVar P c) (t.num x)).nx) rfl), g1.ob, g1.born, ?_⟩
      · rcases List.mem_cons.mp (show f ∈ (c.setN (callVar P c) (t.num x)).nx :: r from hf) with z | hf
        · rw [z]; exact (fc.setN _ (ft.num x)).go n
        · exact g1.fr f (by rw [hs]; exact List.mem_cons_of_mem _ (List.mem_cons_of_mem _ hf))
      · show m.res = none ↔ (c.setN (callVar P c) (t.num x)).nx :: r ≠ []
        rw [g.res, hs]
        simp
theorem Good.step {P : Prg} (h : PrgOk P) {k : Nat} {m : Mch} (g : Good P k m) : Good P (k + 1) (step P m) := by
  unfold K18.step
  cases hs : m.stack with
  | nil => exact g.more
  | cons t rest =>
    have ft : FrOk P k m.obs.length t := g.fr t (by rw [hs]; exact List.mem_cons_self)
    obtain ⟨r, e⟩ : ∃ r, (P t.fn)[t.at_]? = some r := ⟨(P t.fn)[t.at_]'ft.at_, List.getElem?_eq_getElem ft.at_⟩
    show Good P (k + 1) (match (P t.fn)[t.at_]? with | none => m | some r => stepAt P m t rest r)
    rw [e]
    show Good P (k + 1) (stepAt P m t rest r)
    cases r with
    | call x y s => exact (g.call h hs e).tick
    | ret x => exact (g.back h hs x).tick
    | _ => exact (g.doRow h hs e (by simp) (by simp)).tick
theorem Good.steps {P : Prg} (h : PrgOk P) : ∀ (n : Nat) {k : Nat} {m : Mch}, Good P k m → Good P (k + n) (K18.steps P n m)
  | 0, k, m, g => g
  | n + 1, k, m, g => by
    have := Good.steps h n (g.step h)
    rw [show k + 1 + n = k + (n + 1) by omega] at this
    exact this
/-! ## sizes -/
theorem step_sizes (P : Prg) (m : Mch) : (step P m).stack.length ≤ m.stack.length + 1 ∧ (step P m).obs.length ≤ m.obs.length + 1 ∧ (step P m).log.length ≤ m.log.length + 1 := by
  unfold step
  cases hs : m.stack with
  | nil => simp [hs]
  | cons t rest =>
    show (match (P t.fn)[t.at_]? with | none => m | some r => stepAt P m t rest r).stack.length ≤ _ ∧ (match (P t.fn)[t.at_]? with | none => m | some r => stepAt P m t rest r).obs.length ≤ _ ∧ (match (P t.fn)[t.at_]? with | none => m | some r => stepAt P m t rest r).log.length ≤ _
    cases (P t.fn)[t.at_]? with
    | none => simp [hs]
    | some r =>
      cases r with
      | ret x => cases rest <;> simp [stepAt, giveBack, Mch.tick, Mch.top]
      | putI s y => simp [stepAt, doRow, Mch.tick, Mch.top, putI_len]; cases t.obj s <;> simp [Mch.putI]
      | putN s u => simp [stepAt, doRow, Mch.tick, Mch.top, putN_len]; cases t.obj s <;> simp [Mch.putN]
      | _ => simp [stepAt, doRow, Mch.tick, Mch.top, Mch.make, Mch.see]
theorem steps_sizes (P : Prg) : ∀ (n : Nat) (m : Mch), (steps P n m).stack.length ≤ m.stack.length + n ∧ (steps P n m).obs.length ≤ m.obs.length + n ∧ (steps P n m).log.length ≤ m.log.length + n
  | 0, m => ⟨Nat.le_refl _, Nat.le_refl _, Nat.le_refl _⟩
  | n + 1, m => by
    obtain ⟨a, b, c⟩ := steps_sizes P n (step P m)
    obtain ⟨a', b', c'⟩ := step_sizes P m
    exact ⟨by show (steps P n (step P m)).stack.length ≤ _; omega, by show (steps P n (step P m)).obs.length ≤ _; omega, by show (steps P n (step P m)).log.length ≤ _; omega⟩
/-! ## the lockstep -/
def agree (f g : Fr) : Vr → Prop
  | .n x => f.num x = g.num x
  | .o s => f.obj s = g.obj s
structure TopAgr (P : Prg) (f g : Fr) : Prop where
  fn : f.fn = g.fn
  at_ : f.at_ = g.at_
  v : ∀ v, Want (P f.fn) f.at_ v → agree f g v
structure WaitAgr (P : Prg) (f g : Fr) : Prop where
  fn : f.fn = g.fn
  at_ : f.at_ = g.at_
  c : ∃ x y s, (P f.fn)[f.at_]? = some (.call x y s) ∧ ∀ v, Want (P f.fn) (f.at_ + 1) v → v ≠ .n x → agree f g v
inductive Waits (P : Prg) : List Fr → List Fr → Prop
  | nil : Waits P [] []
  | cons {f g : Fr} {r s : List Fr} : WaitAgr P f g → Waits P r s → Waits P (f :: r) (g :: s)
/-- two machines that agree in what is wanted -/
structure Sim (P : Prg) (m n : Mch) : Prop where
  obs : m.obs = n.obs
  born : m.born = n.born
  log : m.log = n.log
  res : m.res = n.res
  cnt : m.cnt = n.cnt
  st : (m.stack = [] ∧ n.stack = []) ∨ ∃ f r g s, m.stack = f :: r ∧ n.stack = g :: s ∧ TopAgr P f g ∧ Waits P r s
theorem TopAgr.read {P : Prg} {f g : Fr} (h : TopAgr P f g) {r : Row} (e : (P f.fn)[f.at_]? = some r) {v : Vr} (hv : v ∈ r.reads) : agree f g v := h.v v (.read e hv)
theorem TopAgr.setN {P : Prg} {f g : Fr} (h : TopAgr P f g) {r : Row} (e : (P f.fn)[f.at_]? = some r) {x : NV} {b : Nat} {i j : Int} (hs : r.sets = some (.n x)) (hb : b ∈ r.nexts f.at_) (hi : i = j) : TopAgr P ((f.setN x i).go b) ((g.setN x j).go b) := by
  refine ⟨h.fn, rfl, fun v hv => ?_⟩
  by_cases hx : v = .n x
  · subst hx
    show (if x = x then i else f.num x) = (if x = x then j else g.num x)
    rw [if_pos rfl, if_pos rfl, hi]
  · have a := h.v v (.step e (by rw [hs]; exact fun z => hx (Option.some.inj z).symm) hb hv)
    cases v with
    | n y =>
      have hy : y ≠ x := fun z => hx (by rw [z])
      show (if y = x then i else f.num y) = (if y = x then j else g.num y)
      rw [if_neg hy, if_neg hy]
      exact a
    | o s => exact a
theorem TopAgr.setO {P : Prg} {f g : Fr} (h : TopAgr P f g) {r : Row} (e : (P f.fn)[f.at_]? = some r) {x : OV} {b : Nat} {i j : Option Nat} (hs : r.sets = some (.o x)) (hb : b ∈ r.nexts f.at_) (hi : i = j) : TopAgr P ((f.setO x i).go b) ((g.setO x j).go b) := by
  refine ⟨h.fn, rfl, fun v hv => ?_⟩
  by_cases hx : v = .o x
  · subst hx
    show (if x = x then i else f.obj x) = (if x = x then j else g.obj x)
    rw [if_pos rfl, if_pos rfl, hi]
  · have a := h.v v (.step e (by rw [hs]; exact fun z => hx (Option.some.inj z).symm) hb hv)
    cases v with
    | n y => exact a
    | o s =>
      have hy : s ≠ x := fun z => hx (by rw [z])
      show (if s = x then i else f.obj s) = (if s = x then j else g.obj s)
      rw [if_neg hy, if_neg hy]
      exact a
theorem TopAgr.goTo {P : Prg} {f g : Fr} (h : TopAgr P f g) {r : Row} (e : (P f.fn)[f.at_]? = some r) {b : Nat} (hs : r.sets = none) (hb : b ∈ r.nexts f.at_) : TopAgr P (f.go b) (g.go b) := by
  refine ⟨h.fn, rfl, fun v hv => ?_⟩
  have a := h.v v (.step e (by rw [hs]; exact fun z => by cases z) hb hv)
  cases v <;> exact a
theorem nx_go (f : Fr) : f.nx = f.go (f.at_ + 1) := rfl
section
variable {P : Prg} {m n : Mch} {f g : Fr} {r s : List Fr}
theorem Sim.top (a : Sim P m n) {m' n' : Mch} (ho : m'.obs = n'.obs) (hb : m'.born = n'.born) (hl : m'.log = n'.log) (hr : m'.res = m.res) (hr' : n'.res = n.res) (hc : m'.cnt = m.cnt) (hc' : n'.cnt = n.cnt) {f' g' : Fr} (t : TopAgr P f' g') (w : Waits P r s)
    (h1 : m'.stack = f' :: r) (h2 : n'.stack = g' :: s) : Sim P m' n' :=
  ⟨ho, hb, hl, by rw [hr, hr', a.res], by rw [hc, hc', a.cnt], .inr ⟨f', r, g', s, h1, h2, t, w⟩⟩
theorem Sim.doRow (a : Sim P m n) (t : TopAgr P f g) (w : Waits P r s) {q : Row} (e : (P f.fn)[f.at_]? = some q) (hc : ∀ x y z, q ≠ .call x y z) (hr : ∀ x, q ≠ .ret x) : Sim P (doRow m f r q) (doRow n g s q) := by
  have at1 : f.at_ + 1 = g.at_ + 1 := by rw [t.at_]
  cases q with
  | num x => exact a.top a.obs a.born a.log rfl rfl rfl rfl (by have := t.setN e (x := x) (b := f.at_ + 1) (i := 5) (j := 5) rfl (by simp [Row.nexts]) rfl; rw [nx_go, nx_go]; show TopAgr P ((f.setN x 5).go (f.at_ + 1)) ((g.setN x 5).go (g.at_ + 1)); rw [← at1]; exact this) w rfl rfl
  | cpN x y => 
    have h1 : f.num y = g.num y := t.read e (v := .n y) (by simp [Row.reads])
    exact a.top a.obs a.born a.log rfl rfl rfl rfl (by have := t.setN e (x := x) (b := f.at_ + 1) rfl (by simp [Row.nexts]) h1; rw [nx_go, nx_go]; show TopAgr P ((f.setN x _).go (f.at_ + 1)) ((g.setN x _).go (g.at_ + 1)); rw [← at1]; exact this) w rfl rfl
  | add x y z =>
    have h1 : f.num y = g.num y := t.read e (v := .n y) (by simp [Row.reads])
    have h2 : f.num z = g.num z := t.read e (v := .n z) (by simp [Row.reads])
    exact a.top a.obs a.born a.log rfl rfl rfl rfl (by have := t.setN e (x := x) (b := f.at_ + 1) (i := f.num y + f.num z) (j := g.num y + g.num z) rfl (by simp [Row.nexts]) (by rw [h1, h2]); rw [nx_go, nx_go]; show TopAgr P ((f.setN x _).go (f.at_ + 1)) ((g.setN x _).go (g.at_ + 1)); rw [← at1]; exact this) w rfl rfl
  | sub x y z =>
    have h1 : f.num y = g.num y := t.read e (v := .n y) (by simp [Row.reads])
    have h2 : f.num z = g.num z := t.read e (v := .n z) (by simp [Row.reads])
    exact a.top a.obs a.born a.log rfl rfl rfl rfl (by have := t.setN e (x := x) (b := f.at_ + 1) (i := f.num y - f.num z) (j := g.num y - g.num z) rfl (by simp [Row.nexts]) (by rw [h1, h2]); rw [nx_go, nx_go]; show TopAgr P ((f.setN x _).go (f.at_ + 1)) ((g.setN x _).go (g.at_ + 1)); rw [← at1]; exact this) w rfl rfl
  | less x y z =>
    have h1 : f.num y = g.num y := t.read e (v := .n y) (by simp [Row.reads])
    have h2 : f.num z = g.num z := t.read e (v := .n z) (by simp [Row.reads])
    exact a.top a.obs a.born a.log rfl rfl rfl rfl (by have := t.setN e (x := x) (b := f.at_ + 1) (i := b01 (decide (f.num y < f.num z))) (j := b01 (decide (g.num y < g.num z))) rfl (by simp [Row.nexts]) (by rw [h1, h2]); rw [nx_go, nx_go]; show TopAgr P ((f.setN x _).go (f.at_ + 1)) ((g.setN x _).go (g.at_ + 1)); rw [← at1]; exact this) w rfl rfl
  | same x y z =>
    have h1 : f.obj y = g.obj y := t.read e (v := .o y) (by simp [Row.reads])
    have h2 : f.obj z = g.obj z := t.read e (v := .o z) (by simp [Row.reads])
    exact a.top a.obs a.born a.log rfl rfl rfl rfl (by have := t.setN e (x := x) (b := f.at_ + 1) (i := b01 (decide (f.obj y = f.obj z))) (j := b01 (decide (g.obj y = g.obj z))) rfl (by simp [Row.nexts]) (by rw [h1, h2]); rw [nx_go, nx_go]; show TopAgr P ((f.setN x _).go (f.at_ + 1)) ((g.setN x _).go (g.at_ + 1)); rw [← at1]; exact this) w rfl rfl
  | nil x => exact a.top a.obs a.born a.log rfl rfl rfl rfl (by have := t.setO e (x := x) (b := f.at_ + 1) (i := none) (j := none) rfl (by simp [Row.nexts]) rfl; rw [nx_go, nx_go]; show TopAgr P ((f.setO x _).go (f.at_ + 1)) ((g.setO x _).go (g.at_ + 1)); rw [← at1]; exact this) w rfl rfl
  | cpO x y =>
    have h1 : f.obj y = g.obj y := t.read e (v := .o y) (by simp [Row.reads])
    exact a.top a.obs a.born a.log rfl rfl rfl rfl (by have := t.setO e (x := x) (b := f.at_ + 1) rfl (by simp [Row.nexts]) h1; rw [nx_go, nx_go]; show TopAgr P ((f.setO x _).go (f.at_ + 1)) ((g.setO x _).go (g.at_ + 1)); rw [← at1]; exact this) w rfl rfl
  | new x => exact a.top (by show m.obs ++ _ = n.obs ++ _; rw [a.obs]) (by show m.born + 1 = n.born + 1; rw [a.born]) a.log rfl rfl rfl rfl (by have := t.setO e (x := x) (b := f.at_ + 1) (i := some m.born) (j := some n.born) rfl (by simp [Row.nexts]) (by rw [a.born]); rw [nx_go, nx_go]; show TopAgr P ((f.setO x _).go (f.at_ + 1)) ((g.setO x _).go (g.at_ + 1)); rw [← at1]; exact this) w rfl rfl
  | getI x y =>
    have h1 : f.obj y = g.obj y := t.read e (v := .o y) (by simp [Row.reads])
    have h2 : m.item (f.obj y) = n.item (g.obj y) := by rw [h1]; unfold Mch.item; rw [a.obs]
    exact a.top a.obs a.born a.log rfl rfl rfl rfl (by have := t.setN e (x := x) (b := f.at_ + 1) rfl (by simp [Row.nexts]) h2; rw [nx_go, nx_go]; show TopAgr P ((f.setN x _).go (f.at_ + 1)) ((g.setN x _).go (g.at_ + 1)); rw [← at1]; exact this) w rfl rfl
  | putI x y =>
    have h1 : f.obj x = g.obj x := t.read e (v := .o x) (by simp [Row.reads])
    have h2 : f.num y = g.num y := t.read e (v := .n y) (by simp [Row.reads])
    refine a.top (m' := (m.putI (f.obj x) (f.num y)).top f.nx r) (n' := (n.putI (g.obj x) (g.num y)).top g.nx s) ?_ ?_ ?_ ?_ ?_ ?_ ?_ (by have := t.goTo e (b := f.at_ + 1) rfl (by simp [Row.nexts]); rw [nx_go, nx_go, ← at1]; exact this) w rfl rfl
    · show (m.putI (f.obj x) (f.num y)).obs = (n.putI (g.obj x) (g.num y)).obs
      rw [h1, h2]; cases g.obj x <;> simp [Mch.putI, a.obs]
    · show (m.putI (f.obj x) (f.num y)).born = (n.putI (g.obj x) (g.num y)).born
      rw [(putI_eq _ _ _).1, (putI_eq _ _ _).1, a.born]
    · show (m.putI (f.obj x) (f.num y)).log = (n.putI (g.obj x) (g.num y)).log
      cases f.obj x <;> cases g.obj x <;> exact a.log
    · exact (putI_eq _ _ _).2.1
    · exact (putI_eq _ _ _).2.1
    · show (m.putI (f.obj x) (f.num y)).cnt = m.cnt
      cases f.obj x <;> rfl
    · show (n.putI (g.obj x) (g.num y)).cnt = n.cnt
      cases g.obj x <;> rfl
  | getN x y =>
    have h1 : f.obj y = g.obj y := t.read e (v := .o y) (by simp [Row.reads])
    have h2 : m.next (f.obj y) = n.next (g.obj y) := by rw [h1]; unfold Mch.next; rw [a.obs]
    exact a.top a.obs a.born a.log rfl rfl rfl rfl (by have := t.setO e (x := x) (b := f.at_ + 1) rfl (by simp [Row.nexts]) h2; rw [nx_go, nx_go]; show TopAgr P ((f.setO x _).go (f.at_ + 1)) ((g.setO x _).go (g.at_ + 1)); rw [← at1]; exact this) w rfl rfl
  | putN x y =>
    have h1 : f.obj x = g.obj x := t.read e (v := .o x) (by simp [Row.reads])
    have h2 : f.obj y = g.obj y := t.read e (v := .o y) (by simp [Row.reads])
    refine a.top (m' := (m.putN (f.obj x) (f.obj y)).top f.nx r) (n' := (n.putN (g.obj x) (g.obj y)).top g.nx s) ?_ ?_ ?_ ?_ ?_ ?_ ?_ (by have := t.goTo e (b := f.at_ + 1) rfl (by simp [Row.nexts]); rw [nx_go, nx_go, ← at1]; exact this) w rfl rfl
    · show (m.putN (f.obj x) (f.obj y)).obs = (n.putN (g.obj x) (g.obj y)).obs
      rw [h1, h2]; cases g.obj x <;> simp [Mch.putN, a.obs]
    · show (m.putN (f.obj x) (f.obj y)).born = (n.putN (g.obj x) (g.obj y)).born
      rw [(putN_eq _ _ _).1, (putN_eq _ _ _).1, a.born]
    · show (m.putN (f.obj x) (f.obj y)).log = (n.putN (g.obj x) (g.obj y)).log
      cases f.obj x <;> cases g.obj x <;> exact a.log
    · exact (putN_eq _ _ _).2.1
    · exact (putN_eq _ _ _).2.1
    · show (m.putN (f.obj x) (f.obj y)).cnt = m.cnt
      cases f.obj x <;> rfl
    · show (n.putN (g.obj x) (g.obj y)).cnt = n.cnt
      cases g.obj x <;> rfl
  | call x y z => exact absurd rfl (hc x y z)
  | seeN x =>
    have h1 : f.num x = g.num x := t.read e (v := .n x) (by simp [Row.reads])
    exact a.top a.obs a.born (by show m.log ++ _ = n.log ++ _; rw [a.log, h1]) rfl rfl rfl rfl (by have := t.goTo e (b := f.at_ + 1) rfl (by simp [Row.nexts]); rw [nx_go, nx_go, ← at1]; exact this) w rfl rfl
  | seeO x =>
    have h1 : f.obj x = g.obj x := t.read e (v := .o x) (by simp [Row.reads])
    exact a.top a.obs a.born (by show m.log ++ _ = n.log ++ _; rw [a.log, h1]) rfl rfl rfl rfl (by have := t.goTo e (b := f.at_ + 1) rfl (by simp [Row.nexts]); rw [nx_go, nx_go, ← at1]; exact this) w rfl rfl
  | ifz x b =>
    have h1 : f.num x = g.num x := t.read e (v := .n x) (by simp [Row.reads])
    refine a.top (m' := m.top (if f.num x = 0 then f.go b else f.nx) r) (n' := n.top (if g.num x = 0 then g.go b else g.nx) s) a.obs a.born a.log rfl rfl rfl rfl ?_ w rfl rfl
    rw [← h1]
    split
    · exact t.goTo e rfl (by simp [Row.nexts])
    · have := t.goTo e (b := f.at_ + 1) rfl (by simp [Row.nexts])
      rw [nx_go, nx_go, ← at1]
      exact this
  | jump b => exact a.top a.obs a.born a.log rfl rfl rfl rfl (t.goTo e rfl (by simp [Row.nexts])) w rfl rfl
  | ret x => exact absurd rfl (hr x)
theorem Sim.tick (a : Sim P m n) : Sim P m.tick n.tick := ⟨a.obs, a.born, a.log, a.res, by show m.cnt + 1 = n.cnt + 1; rw [a.cnt], a.st⟩
theorem topAgr_refl {f : Fr} : TopAgr P f f := ⟨rfl, rfl, fun v _ => by cases v <;> exact rfl⟩
theorem Sim.step (a : Sim P m n) : Sim P (step P m) (step P n) := by
  rcases a.st with ⟨h1, h2⟩ | ⟨f, r, g, s, h1, h2, t, w⟩
  · unfold K18.step
    rw [h1, h2]
    exact a
  · unfold K18.step
    rw [h1, h2]
    show Sim P (match (P f.fn)[f.at_]? with | none => m | some q => stepAt P m f r q) (match (P g.fn)[g.at_]? with | none => n | some q => stepAt P n g s q)
    rw [← t.fn, ← t.at_]
    cases e : (P f.fn)[f.at_]? with
    | none => exact a
    | some q =>
      show Sim P (stepAt P m f r q) (stepAt P n g s q)
      cases q with
      | call x y z =>
        have h3 : f.num y = g.num y := t.read e (v := .n y) (by simp [Row.reads])
        have h4 : f.obj z = g.obj z := t.read e (v := .o z) (by simp [Row.reads])
        refine Sim.tick ⟨a.obs, a.born, a.log, a.res, a.cnt, .inr ⟨fEnter (f.num y) (f.obj z), f :: r, fEnter (g.num y) (g.obj z), g :: s, rfl, rfl, by rw [h3, h4]; exact topAgr_refl, .cons ⟨t.fn, t.at_, x, y, z, e, fun v hv hx => ?_⟩ w⟩⟩
        exact t.v v (.step e (show some (Vr.n x) ≠ some v from fun q => hx (Option.some.inj q).symm) (show f.at_ + 1 ∈ [f.at_ + 1] by simp) hv)
      | ret x =>
        have h3 : f.num x = g.num x := t.read e (v := .n x) (by simp [Row.reads])
        refine Sim.tick ?_
        cases w with
        | nil => exact ⟨a.obs, a.born, a.log, by show some (f.num x) = some (g.num x); rw [h3], a.cnt, .inl ⟨rfl, rfl⟩⟩
        | @cons c d r' s' wc ws =>
          obtain ⟨x', y', z', e', hv⟩ := wc.c
          have ec : callVar P c = x' := by unfold callVar; rw [e']
          have ed : callVar P d = x' := by unfold callVar; rw [← wc.fn, ← wc.at_, e']
          refine ⟨a.obs, a.born, a.log, a.res, a.cnt, .inr ⟨(c.setN (callVar P c) (f.num x)).nx, r', (d.setN (callVar P d) (g.num x)).nx, s', rfl, rfl, ⟨wc.fn, by show c.at_ + 1 = d.at_ + 1; rw [wc.at_], fun v hw => ?_⟩, ws⟩⟩
          rw [ec, ed, h3]
          by_cases hx : v = .n x'
          · subst hx
            show (if x' = x' then g.num x else c.num x') = (if x' = x' then g.num x else d.num x')
            rw [if_pos rfl, if_pos rfl]
          · have q := hv v hw hx
            cases v with
            | n y =>
              have hy : y ≠ x' := fun z => hx (by rw [z])
              show (if y = x' then g.num x else c.num y) = (if y = x' then g.num x else d.num y)
              rw [if_neg hy, if_neg hy]
              exact q
            | o s => exact q
      | _ => exact (a.doRow t w e (by simp) (by simp)).tick
theorem Sim.steps : ∀ (k : Nat) {m n : Mch}, Sim P m n → Sim P (steps P k m) (steps P k n)
  | 0, _, _, a => a
  | k + 1, _, _, a => Sim.steps k a.step
end
end K18
set_option Elab.async false
set_option linter.all false
set_option maxRecDepth 100000
set_option maxHeartbeats 4000000
namespace K18
open PySem PySem.Spec PyProof.Rows L2
/-! base lemmas of this proof -/
section
variable {P : Program} {w : World} {K : PySem.W.Frag} {mg : Str → Option Value} {base : Heap}
theorem Ok.of {d : He.DefD} {N ps : List Str} {k : Nat} {sp : Sp} (F : ∃ fd, FnP K d (He.fAd K d.at_) fd) (S : FnScope N ps d.scope)
    (hb : ∀ (kV doc pm : Value) (an : Option Addr) (cdv ct : Value) (us : List Value), us.length = ps.length → bindArgs (PySem.W.fnOf d.name d.qual d.params d.body d.scope .none kV doc pm an cdv ct) ⟨us, []⟩ = pure (ps.zip us))
    (len : ∀ vs H Q E, sp vs H Q E → vs.length = ps.length)
    (hbody : ∀ (cdv : Value) (A : Around) (outer : List Env) (s : Shared) (H : Hp) (vs : List V) (Q : VK) (E : XK), Room k (A.deeper (envOfC d.qual d.scope s.heap.objs.size (He.fAd K d.at_) cdv)) → sp vs H Q E →
      ∃ t, PSs (cxOf CX0 P w K mg base N d.qual d.scope (He.fAd K d.at_) cdv A outer s H E).nox d.body t ∧ t { nx := fun _ H' => Q .non H', rt := Q } (start N vs) H) : Ok P w K mg base (k + 1) d ps sp := by
  obtain ⟨fd, F⟩ := F
  refine ⟨fd, F.ok S len fun cdv A outer s H vs Q E hr h => ?_, F.bindsN hb, F.kp⟩
  obtain ⟨t, h1, h2⟩ := hbody cdv A outer s H vs Q E hr h
  exact ⟨t, h1.nox, h2⟩
theorem Ok.mono {d : He.DefD} {ps : List Str} {j k : Nat} {sp : Sp} (o : Ok P w K mg base j d ps sp) (h : j ≤ k) : Ok P w K mg base k d ps sp := by
  obtain ⟨fd, a, b, c⟩ := o.ex
  exact ⟨fd, a.mono h, b, c⟩
theorem Ok.imp {d : He.DefD} {ps : List Str} {k : Nat} {sp sp' : Sp} (o : Ok P w K mg base k d ps sp) (h : ∀ vs H Q E, sp' vs H Q E → sp vs H Q E) : Ok P w K mg base k d ps sp' := by
  obtain ⟨fd, a, b, c⟩ := o.ex
  exact ⟨fd, a.imp h, b, c⟩
end
section
variable {X : Cx} {k : Nat} {d : He.DefD} {ps : List Str} {sp : Sp} {x m : Str} {p pos apos : Pos} {e o : Expr} {es : List Expr} {ta : TE} {t : TA} {C : Addr}
theorem pe_G (G : Ok X.prog X.w X.K X.mg X.base k d ps sp) (hr : Room k X.A) (hm : X.mg x = some (.ref (He.fAd X.K d.at_))) (ha : PA X (e :: es) t) (hg : Gl X x := by rfl)
    (hdb : (x == ("__debug__" : Str)) = false := by decide) (he : starEach (e :: es) X.env = (false, eval e X.env) :: starEach es X.env := by rfl) (hpl : (backTo pos (starEach es X.env)).any (·.1) = false := by rfl) :
    PE X (.Call (.Name x p) (e :: es) [] pos) (tCall sp [] E0 t) := by
  obtain ⟨fd, a, b, c⟩ := G.ex
  exact pe_call a hr hg hm c b .nil pass0 ha hdb he hpl
theorem pe_G0 (G : Ok X.prog X.w X.K X.mg X.base k d ps sp) (hr : Room k X.A) (hm : X.mg x = some (.ref (He.fAd X.K d.at_))) (hg : Gl X x := by rfl)
    (hdb : (x == ("__debug__" : Str)) = false := by decide) : PE X (.Call (.Name x p) [] [] pos) (tCall sp [] E0 tNil) := by
  obtain ⟨fd, a, b, c⟩ := G.ex
  exact pe_call0 a hr hg hm c b .nil pass0 hdb
theorem pe_M {f : Addr} (G : Ok X.prog X.w X.K X.mg X.base k d ps sp) (hr : Room k X.A) (c : Cls X.K C) (hm : Meth X.K C m f) (hf : f = He.fAd X.K d.at_) (he : PE X o ta) (ha : PA X (e :: es) t) {pl : Sem Bool}
    (hst : starEach (e :: es) X.env = (false, eval e X.env) :: starEach es X.env := by rfl) (hpl : (backTo pos (starEach es X.env)).any (·.1) = false := by rfl)
    (ht : eval (.Call (.Attribute o m apos) (e :: es) [] pos) X.env = (do
      let ov ← eval o X.env
      standAt apos.atName
      let (f, first) ← holding [ov] (getMethod ov m pl)
      callWith pos f first (backTo pos (starEach (e :: es) X.env)) (backToKw pos (keywordEach [] X.env))) := by rfl) :
    PE X (.Call (.Attribute o m apos) (e :: es) [] pos) (tMeth C m sp [] E0 ta t) := by
  subst hf
  obtain ⟨fd, a, b, kp⟩ := G.ex
  exact pe_meth (pl := pl) he c hm a hr b .nil pass0 ha hst hpl ht
theorem pe_M0 {f : Addr} (G : Ok X.prog X.w X.K X.mg X.base k d ps sp) (hr : Room k X.A) (c : Cls X.K C) (hm : Meth X.K C m f) (hf : f = He.fAd X.K d.at_) (he : PE X o ta) {pl : Sem Bool}
    (ht : eval (.Call (.Attribute o m apos) [] [] pos) X.env = (do
      let ov ← eval o X.env
      standAt apos.atName
      let (f, first) ← holding [ov] (getMethod ov m pl)
      callWith pos f first (backTo pos (starEach [] X.env)) (backToKw pos (keywordEach [] X.env))) := by rfl) :
    PE X (.Call (.Attribute o m apos) [] [] pos) (tMeth C m sp [] E0 ta tNil) := by
  subst hf
  obtain ⟨fd, a, b, kp⟩ := G.ex
  exact pe_meth0 (pl := pl) he c hm a hr b .nil pass0 ht
theorem pe_K {f : Addr} (M : Mk X.K C f) (G : Ok X.prog X.w X.K X.mg X.base k d ps sp) (hf : f = He.fAd X.K d.at_) (hr : Room (k + 1) X.A) (hm : X.mg x = some (.ref C)) (ha : PA X (e :: es) t) (hg : Gl X x := by rfl)
    (hdb : (x == ("__debug__" : Str)) = false := by decide) (he : starEach (e :: es) X.env = (false, eval e X.env) :: starEach es X.env := by rfl) (hpl : (backTo pos (starEach es X.env)).any (·.1) = false := by rfl) :
    PE X (.Call (.Name x p) (e :: es) [] pos) (tMake C sp [] E0 t) := by
  subst hf
  obtain ⟨fd, a, b, kp⟩ := G.ex
  exact pe_make M a hr hg hm b .nil pass0 ha hdb he hpl
/-- isinstance(x, T), T a built-in class -/
def rIs (K : PySem.W.Frag) : List V → Hp → VK → Prop := fun xs H Q => ∃ (x : V) (ty t : String) (b : Bool), xs = [x, .ty ty] ∧ TyX K H x (.type t) ∧ kitB t ty = some b ∧ Q (.bl b) H
theorem call_is : CallR X (.builtin "isinstance") (rIs X.K) := by
  intro pins s σ H xs us Q I r h
  obtain ⟨x, ty, t, b, e, h1, h2, h3⟩ := h
  exact call_isi pins s σ H xs us Q I r ⟨x, .ty ty, .type t, .type ty, b, e, .ty ty, h1, kit_ty h2, h3⟩
theorem pe_is {a : Expr} {tn : Str} {ty : String} {p2 : Pos} (hi : X.mg "isinstance" = none) (hm : X.mg tn = none) (hv : bootBuiltins tn = some (.type ty)) (ha : PE X a ta) (hg : Gl X "isinstance" := by rfl) (hg2 : Gl X tn := by rfl)
    (hn : tn ≠ "__name__" := by decide) (hd : (tn == ("__debug__" : Str)) = false := by decide)
    (he : starEach [a, .Name tn p2] X.env = (false, eval a X.env) :: starEach [.Name tn p2] X.env := by rfl) (he2 : starEach [.Name tn p2] X.env = (false, eval (.Name tn p2) X.env) :: starEach [] X.env := by rfl)
    (hpl : (backTo pos (starEach [.Name tn p2] X.env)).any (·.1) = false := by rfl) :
    PE X (.Call (.Name "isinstance" p) [a, .Name tn p2] [] pos) (tCB (rIs X.K) (tCons ta (tCons (tC (.ty ty)) tNil))) :=
  pe_callB call_is hg hi (by decide +kernel) (pa_cons ha (pa_cons (pe_bltn hg2 hm hv rfl hn hd) pa_nil he2) he) (by decide) (by decide) he hpl
theorem bt_abs : bootBuiltins "abs" = some (.builtin "abs") := by decide +kernel
theorem bt_sorted : bootBuiltins "sorted" = some (.builtin "sorted") := by decide +kernel
theorem bt_all : bootBuiltins "all" = some (.builtin "all") := by decide +kernel
theorem bt_max : bootBuiltins "max" = some (.builtin "max") := by decide +kernel
theorem bt_set : bootBuiltins "set" = some (.type "set") := by decide +kernel
theorem bt_int : bootBuiltins "int" = some (.type "int") := by decide +kernel
theorem bt_bool : bootBuiltins "bool" = some (.type "bool") := by decide +kernel
theorem bt_str : bootBuiltins "str" = some (.type "str") := by decide +kernel
theorem bt_list : bootBuiltins "list" = some (.type "list") := by decide +kernel
theorem bt_tuple : bootBuiltins "tuple" = some (.type "tuple") := by decide +kernel
theorem bt_dict : bootBuiltins "dict" = some (.type "dict") := by decide +kernel
end
/-! what is readable stays readable -/
def kindKvs : List (Key × V) := [(Sum.inr "a", .str "number"), (Sum.inr "o", .str "object"), (Sum.inr "b", .str "number"), (Sum.inr "c", .str "number"), (Sum.inr "p", .str "object")]
/-- all that was tracked is as it was, but dicts (other than those of the variables' kinds) may be locked -/
def Le (H H' : Hp) : Prop := ∀ a o, H a = some o → H' a = some o ∨ ((∃ kvs, o = .dK kvs ∧ kvs ≠ kindKvs) ∧ ∃ ob, H' a = some (.frz ob o))
theorem Le.refl (H : Hp) : Le H H := fun _ _ e => .inl e
theorem Le.of {H H' : Hp} (e : Same H H') : Le H H' := fun a o h => .inl (e a o h)
theorem Le.trans {H H1 H2 : Hp} (a : Le H H1) (b : Le H1 H2) : Le H H2 := fun x o e => by
  rcases a x o e with h | ⟨hk, ob, h⟩
  · exact b x o h
  · rcases b x _ h with h' | ⟨⟨kvs, z, _⟩, _⟩
    · exact .inr ⟨hk, ob, h'⟩
    · cases z
theorem Le.tup {H H' : Hp} (l : Le H H') {a : Addr} {xs : List V} (h : H a = some (.tup xs)) : H' a = some (.tup xs) := by
  rcases l a _ h with h | ⟨⟨_, z, _⟩, _⟩
  · exact h
  · cases z
theorem Le.lst {H H' : Hp} (l : Le H H') {a : Addr} {xs : List V} (h : H a = some (.lst xs)) : H' a = some (.lst xs) := by
  rcases l a _ h with h | ⟨⟨_, z, _⟩, _⟩
  · exact h
  · cases z
theorem Le.ins {H H' : Hp} (l : Le H H') {a C dx : Addr} {fs : List (Str × V)} (h : H a = some (.ins C dx fs)) : H' a = some (.ins C dx fs) := by
  rcases l a _ h with h | ⟨⟨_, z, _⟩, _⟩
  · exact h
  · cases z
theorem Le.dk {H H' : Hp} (l : Le H H') {a : Addr} {kvs : List (Key × V)} (h : Rd H a (.dK kvs)) : Rd H' a (.dK kvs) := by
  rcases h with h | ⟨o, h⟩
  · rcases l a _ h with h | ⟨_, ob, h⟩
    · exact .inl h
    · exact .inr ⟨ob, h⟩
  · rcases l a _ h with h | ⟨⟨_, z, _⟩, _⟩
    · exact .inr ⟨o, h⟩
    · cases z
theorem Le.kd {H H' : Hp} (l : Le H H') {a : Addr} (h : H a = some (.dK kindKvs)) : H' a = some (.dK kindKvs) := by
  rcases l a _ h with h | ⟨⟨kvs, z, q⟩, _⟩
  · exact h
  · cases z
    exact absurd rfl q
theorem Le.lock {H : Hp} {d : Addr} {kvs : List (Key × V)} (h : H d = some (.dK kvs)) (hk : kvs ≠ kindKvs) (od : Obj) : Le H (upd H d (.frz od (.dK kvs))) := fun a o e => by
  by_cases q : a = d
  · subst q
    rw [h] at e
    cases e
    exact .inr ⟨⟨kvs, rfl, hk⟩, od, upd_same⟩
  · exact .inl (by rw [upd_ne q]; exact e)
theorem same_new {H : Hp} {p : Addr} {o : HO} (h : H p = none) : Same H (upd H p o) := fun b u e => by
  rw [upd_ne (ne_of_none e h)]
  exact e
/-- something that H does not know is written -/
theorem _root_.L2.Same.put {H H' : Hp} (e : Same H H') {p : Addr} {o : HO} (h : H p = none) : Same H (upd H' p o) := fun b u q => by
  rw [upd_ne (ne_of_none q h)]
  exact e b u q
theorem none_upd {H : Hp} {a b : Addr} {o : HO} (h : upd H a o b = none) : H b = none := by
  unfold upd at h
  split at h
  · cases h
  · exact h
theorem le_line {n : Nat} (h : n ≤ 1000) : n ≤ sizeLine := Nat.le_trans h (by decide)
theorem lt_line {n : Nat} (h : n < 1000) : n < sizeLine := Nat.lt_of_lt_of_le h (by decide)
/-- the lock is taken off -/
theorem same_unlock {H H' : Hp} {d : Addr} {u : HO} {od : Obj} (h : H d = some u) (e : Same (upd H d (.frz od u)) H') : Same H (upd H' d u) := fun b o q => by
  by_cases z : b = d
  · subst z
    rw [h] at q
    cases q
    exact upd_same
  · rw [upd_ne z]
    exact e b o (by rw [upd_ne z]; exact q)
end K18
set_option Elab.async false
set_option linter.all false
set_option maxRecDepth 100000
set_option maxHeartbeats 4000000
namespace K18
open PySem PySem.Spec PyProof.Rows L2
/-! how the mirror's things stand in the heap -/
def NV.s : NV → Str | .a => "a" | .b => "b" | .c => "c"
def OV.s : OV → Str | .o => "o" | .p => "p"
def Vr.s : Vr → Str | .n x => x.s | .o s => s.s
def fnS : Bool → Str | true => "f" | false => "g"
/-- the parts of a row; q: where a call's arguments stand -/
def Row.parts (q : V) : Row → List V
  | .num x => [.str "number", .str x.s, .int 5]
  | .cpN x y => [.str "copy", .str x.s, .str y.s]
  | .add x y z => [.str "add", .str x.s, .str y.s, .str z.s]
  | .sub x y z => [.str "sub", .str x.s, .str y.s, .str z.s]
  | .less x y z => [.str "less", .str x.s, .str y.s, .str z.s]
  | .same x s t => [.str "same", .str x.s, .str s.s, .str t.s]
  | .nil s => [.str "nil", .str s.s]
  | .cpO s t => [.str "copy", .str s.s, .str t.s]
  | .new s => [.str "new", .str s.s, .str "cell"]
  | .getI x s => [.str "get", .str x.s, .str s.s, .str "item"]
  | .putI s y => [.str "put", .str s.s, .str "item", .str y.s]
  | .getN s t => [.str "get", .str s.s, .str t.s, .str "next"]
  | .putN s t => [.str "put", .str s.s, .str "next", .str t.s]
  | .call x _ _ => [.str "call", .str x.s, .str "f", q]
  | .seeN x => [.str "see", .str x.s]
  | .seeO s => [.str "see", .str s.s]
  | .ifz x r => [.str "if", .str x.s, .int (r : Int)]
  | .jump r => [.str "jump", .int (r : Int)]
  | .ret x => [.str "return", .str x.s]
/-- a call's arguments: a list (as handed in) or a tuple (as kept) -/
def ArgAt (l : Bool) (H : Hp) (q : V) : Row → Prop
  | .call _ y s => ∃ a, q = .ref a ∧ H a = some (if l then .lst [.str y.s, .str s.s] else .tup [.str y.s, .str s.s])
  | _ => q = .non
def RowAt (l : Bool) (H : Hp) (t : Addr) (r : Row) : Prop := ∃ q, H t = some (.tup (r.parts q)) ∧ ArgAt l H q r
/-- an object's value: nil, or ("object", n) -/
def RepO (H : Hp) (v : V) : Option Nat → Prop
  | none => v = .non
  | some n => ∃ t, v = .ref t ∧ H t = some (.tup [.str "object", .int (n : Int)])
def RepOK (H : Hp) (v : V) : Prop := ∃ o, RepO H v o
/-- a list of pairs of names and kinds -/
def PairsAt (H : Hp) (a : Addr) (ds : List (Str × Str)) : Prop := ∃ ts : List Addr, H a = some (.lst (ts.map V.ref)) ∧ Paired (fun t d => H t = some (.tup [.str d.1, .str d.2])) ts ds
def dIn : List (Str × Str) := [("a", "number"), ("o", "object")]
def dEx : List (Str × Str) := [("b", "number"), ("c", "number"), ("p", "object")]
def dFd : List (Str × Str) := [("item", "number"), ("next", "object")]
def fieldKvs : List (Key × V) := [(Sum.inr "item", .str "number"), (Sum.inr "next", .str "object")]
def fnFs (b : Bool) (i e kd rl : Addr) : List (Str × V) := [("title", .str (fnS b)), ("inputs", .ref i), ("extras", .ref e), ("kind_of", .ref kd), ("result_kind", .str "number"), ("row_list", .ref rl)]
structure FunAt (K : PySem.W.Frag) (H : Hp) (f : Addr) (b : Bool) (rows : List Row) : Prop where
  ex : ∃ dx i e kd rl rs, H f = some (.ins (He.ga K "Function") dx (fnFs b i e kd rl)) ∧ PairsAt H i dIn ∧ H kd = some (.dK kindKvs) ∧ H rl = some (.lst (rs.map V.ref)) ∧ Paired (RowAt false H) rs rows
structure SrcAt (K : PySem.W.Frag) (H : Hp) (s : Addr) (P : Prg) : Prop where
  ex : ∃ dx cr fk kf ca ff fg, H s = some (.ins (He.ga K "Source") dx [("class_rows", .ref cr), ("field_kinds", .ref fk), ("kept_functions", .ref kf)]) ∧ Rd H cr (.dK [(Sum.inr "cell", .ref ca)]) ∧ PairsAt H ca dFd ∧
    Rd H fk (.dK fieldKvs) ∧ Rd H kf (.dK [(Sum.inr "f", .ref ff), (Sum.inr "g", .ref fg)]) ∧ FunAt K H ff true (P true) ∧ FunAt K H fg false (P false)
section
variable {H H' : Hp} {K : PySem.W.Frag}
theorem ArgAt.le {l : Bool} {q : V} {r : Row} (e : Le H H') (h : ArgAt l H q r) : ArgAt l H' q r := by
  cases r with
  | call x y s =>
    obtain ⟨a, h1, h2⟩ := h
    refine ⟨a, h1, ?_⟩
    cases l
    · exact e.tup h2
    · exact e.lst h2
  | _ => exact h
theorem RowAt.le {l : Bool} {t : Addr} {r : Row} (e : Le H H') (h : RowAt l H t r) : RowAt l H' t r := by
  obtain ⟨q, h1, h2⟩ := h
  exact ⟨q, e.tup h1, h2.le e⟩
theorem RepO.le {v : V} {o : Option Nat} (e : Le H H') (h : RepO H v o) : RepO H' v o := by
  cases o with
  | none => exact h
  | some n =>
    obtain ⟨t, h1, h2⟩ := h
    exact ⟨t, h1, e.tup h2⟩
theorem PairsAt.le {a : Addr} {ds : List (Str × Str)} (e : Le H H') (h : PairsAt H a ds) : PairsAt H' a ds := by
  obtain ⟨ts, h1, h2⟩ := h
  exact ⟨ts, e.lst h1, Paired.mapP h2 fun _ _ q => e.tup q⟩
theorem FunAt.le {f : Addr} {b : Bool} {rows : List Row} (e : Le H H') (h : FunAt K H f b rows) : FunAt K H' f b rows := by
  obtain ⟨dx, i, x, kd, rl, rs, h1, h2, h3, h4, h5⟩ := h.ex
  exact ⟨dx, i, x, kd, rl, rs, e.ins h1, h2.le e, e.kd h3, e.lst h4, Paired.mapP h5 fun _ _ q => q.le e⟩
theorem SrcAt.le {s : Addr} {P : Prg} (e : Le H H') (h : SrcAt K H s P) : SrcAt K H' s P := by
  obtain ⟨dx, cr, fk, kf, ca, ff, fg, h1, h2, h3, h4, h5, h6, h7⟩ := h.ex
  exact ⟨dx, cr, fk, kf, ca, ff, fg, e.ins h1, e.dk h2, h3.le e, e.dk h4, e.dk h5, h6.le e, h7.le e⟩
end
/-! data of objects' values -/
def oData : Option Nat → PyData
  | none => .none
  | some n => .tuple [.str "object", .int (n : Int)]
theorem RepO.dp {K : PySem.W.Frag} {H : Hp} {v : V} {o : Option Nat} (h : RepO H v o) : Dp K H v (oData o) := by
  cases o with
  | none =>
    cases (show v = .non from h)
    exact .non
  | some n =>
    obtain ⟨t, rfl, ht⟩ := h
    exact .tup (SqT.of ht) (.cons (.str _) (.cons (.int _) .nil))
theorem oData_shaped (o : Option Nat) : SeqAt.shaped (oData o) = true := by
  cases o with
  | none => rfl
  | some n => kernel_rfl
theorem oData_eqv (o u : Option Nat) : PyData.eqv (oData o) (oData u) = decide (o = u) := by
  cases o with
  | none => cases u <;> simp [oData, PyData.eqv]
  | some n =>
    cases u with
    | none => simp [oData, PyData.eqv]
    | some k =>
      simp only [oData, PyData.eqv, PyData.eqvAll, Bool.and_true, beq_self_eq_true, Bool.true_and]
      by_cases e : n = k
      · subst e; simp
      · have e' : ¬ ((n : Int) = (k : Int)) := by omega
        simp [e, e']
/-! small helpers -/
theorem ifD_t {c A B : Prop} [Decidable c] (h : c) (a : A) : if decide c = true then A else B := by
  rw [decide_eq_true h]
  exact a
theorem ifD_f {c A B : Prop} [Decidable c] (h : ¬ c) (b : B) : if decide c = true then A else B := by
  rw [decide_eq_false h]
  exact b
theorem ifB {c : Bool} {A B : Prop} (h : c = true) (a : A) : if c = true then A else B := by
  rw [h]
  exact a
theorem ifBf {c : Bool} {A B : Prop} (h : c = false) (b : B) : if c = true then A else B := by
  rw [h]
  exact b
theorem qb {Q : VK} {b c : Bool} {H : Hp} (e : b = c) (k : Q (.bl c) H) : Q (.bl b) H := by
  rw [e]
  exact k
theorem qi {Q : VK} {b c : Int} {H : Hp} (e : b = c) (k : Q (.int c) H) : Q (.int b) H := by
  rw [e]
  exact k
theorem inV_str (z : Str) (zs : List Str) : inV (.str z) (zs.map V.str) = decide (z ∈ zs) := by
  unfold inV
  induction zs with
  | nil => simp
  | cons a r ih =>
    rw [List.map_cons, List.any_cons, ih]
    show ((a == z) || decide (z ∈ r)) = decide (z ∈ a :: r)
    by_cases e : a = z
    · subst e; simp
    · have e' : ¬ z = a := fun q => e q.symm
      simp [e, e', List.mem_cons]
theorem flat_strs (zs : List Str) : (zs.map V.str).all flatV = true := by
  induction zs with
  | nil => rfl
  | cons a r ih => simpa [flatV] using ih
section
variable {X : Cx} {x : Str} {pos : Pos}
/-- a text, an int, an object of the module, by its name -/
theorem pe_gs {z : Str} (h : ∃ t, X.mg x = some (.str z t)) (hg : Gl X x := by rfl) (hd : (x == ("__debug__" : Str)) = false := by decide) : PE X (.Name x pos) (tC (.str z)) := by
  obtain ⟨t, e⟩ := h
  exact pe_glob hg e ⟨_, rfl⟩ hd
theorem pe_gi {z : Int} (h : ∃ t, X.mg x = some (.int z t)) (hg : Gl X x := by rfl) (hd : (x == ("__debug__" : Str)) = false := by decide) : PE X (.Name x pos) (tC (.int z)) := by
  obtain ⟨t, e⟩ := h
  exact pe_glob hg e ⟨_, rfl⟩ hd
theorem pe_gr {a : Addr} (h : X.mg x = some (.ref a)) (hg : Gl X x := by rfl) (hd : (x == ("__debug__" : Str)) = false := by decide) : PE X (.Name x pos) (tC (.ref a)) :=
  pe_glob hg h rfl hd
end
/-- a value and the heap behind it, everything kept -/
def Rt (v : V) (H : Hp) (Q : VK) : Prop := ∀ H', Same H H' → Q v H'
theorem Rt.go {v : V} {H H' : Hp} {Q : VK} (k : Rt v H Q) (e : Same H H') : Q v H' := k H' e
end K18
set_option Elab.async false
set_option linter.all false
set_option maxRecDepth 100000
set_option maxHeartbeats 4000000
namespace K18
open PySem PySem.Spec PyProof.Rows L2
section
variable {P : Program} {w : World} {K : PySem.W.Frag} {mg : Str → Option Value} {base : Heap}
/-! is_integer -/
def spIsInt : Sp := fun vs H Q _ => ∃ i : Int, vs = [.int i] ∧ Q (.bl true) H
theorem sc_is_integer : FnScope ["thing"] ["thing"] d_is_integer.scope := ⟨rfl, rfl, rfl, by decide +kernel, rfl, by decide +kernel, by decide +kernel⟩
theorem k_is_integer (T : Tx w K mg) : Ok P w K mg base 1 d_is_integer ["thing"] spIsInt := by
  refine Ok.of T.d_is_integer sc_is_integer (fun _ _ _ _ _ _ us hl => match us, hl with | [_], _ => rfl) (fun vs H Q E h => ?_) (fun cdv A outer s H vs Q E hr h => ?_)
  · obtain ⟨i, rfl, _⟩ := h
    rfl
  · obtain ⟨i, rfl, k⟩ := h
    refine ⟨_, pss_one (ps_ret (pe_and (pe_is T.b_isinstance T.b_int bt_int (pv 0)) (pe_one (pe_not (pe_is T.b_isinstance T.b_bool bt_bool (pv 0)))))), ?_⟩
    exact ⟨_, rfl, _, _, _, _, rfl, .base (.int i), by decide +kernel, true, rfl, iteT ⟨_, rfl, _, _, _, _, rfl, .base (.int i), by decide +kernel, false, rfl, k⟩⟩
/-! is_between -/
def spBetween : Sp := fun vs H Q _ => ∃ i a b : Int, vs = [.int i, .int a, .int b] ∧ Q (.bl (decide (a ≤ i) && decide (i ≤ b))) H
theorem sc_is_between : FnScope ["thing", "least", "most"] ["thing", "least", "most"] d_is_between.scope := ⟨rfl, rfl, rfl, by decide +kernel, rfl, by decide +kernel, by decide +kernel⟩
theorem k_is_between (T : Tx w K mg) : Ok P w K mg base 2 d_is_between ["thing", "least", "most"] spBetween := by
  refine Ok.of T.d_is_between sc_is_between (fun _ _ _ _ _ _ us hl => match us, hl with | [_, _, _], _ => rfl) (fun vs H Q E h => ?_) (fun cdv A outer s H vs Q E hr h => ?_)
  · obtain ⟨i, a, b, rfl, _⟩ := h
    rfl
  · obtain ⟨i, a, b, rfl, k⟩ := h
    refine ⟨_, pss_one (ps_ret (pe_and (pe_G (k_is_integer T) hr T.g_is_integer (pa_cons (pv 0) pa_nil)) (pe_one (pe_chain op_le op_le (pv 1) (pv 0) (pv 2))))), ?_⟩
    refine ⟨_, rfl, i, rfl, true, rfl, iteT ⟨_, rfl, _, rfl, a, i, rfl, rfl, _, rfl, ?_⟩⟩
    by_cases h : a ≤ i
    · simp only [h, decide_true, Bool.true_and] at k ⊢
      exact ⟨_, rfl, _, _, rfl, rfl, k⟩
    · simp only [h, decide_false, Bool.false_and] at k ⊢
      exact k
/-! is_word -/
def spWord (K : PySem.W.Frag) : Sp := fun vs H Q _ => ∃ (z : Str) (q : Addr) (zs : List Str), vs = [.str z, .ref q] ∧ SqT K H q (zs.map V.str) ∧ Q (.bl (decide (z ∈ zs))) H
theorem sc_is_word : FnScope ["thing", "words"] ["thing", "words"] d_is_word.scope := ⟨rfl, rfl, rfl, by decide +kernel, rfl, by decide +kernel, by decide +kernel⟩
theorem k_is_word (T : Tx w K mg) : Ok P w K mg base 1 d_is_word ["thing", "words"] (spWord K) := by
  refine Ok.of T.d_is_word sc_is_word (fun _ _ _ _ _ _ us hl => match us, hl with | [_, _], _ => rfl) (fun vs H Q E h => ?_) (fun cdv A outer s H vs Q E hr h => ?_)
  · obtain ⟨_, _, _, rfl, _⟩ := h
    rfl
  · obtain ⟨z, q, zs, rfl, hq, k⟩ := h
    refine ⟨_, pss_one (ps_ret (pe_and (pe_is T.b_isinstance T.b_str bt_str (pv 0)) (pe_one (pe_cmpR op_in_seq (pv 0) (pv 1) rfl)))), ?_⟩
    refine ⟨_, rfl, _, _, _, _, rfl, .base (.str z), by decide +kernel, true, rfl, iteT ⟨_, rfl, _, rfl, q, _, rfl, .inr hq, rfl, flat_strs _, ?_⟩⟩
    show Q (.bl (inV (.str z) (zs.map V.str))) H
    rw [inV_str]
    exact k
/-! is_list -/
def spIsList : Sp := fun vs H Q _ => ∃ (a : Addr) (xs : List V) (l m : Int), vs = [.ref a, .int l, .int m] ∧ H a = some (.lst xs) ∧ Q (.bl (decide (l ≤ xs.length) && decide ((xs.length : Int) ≤ m))) H
theorem sc_is_list : FnScope ["thing", "least", "most"] ["thing", "least", "most"] d_is_list.scope := ⟨rfl, rfl, rfl, by decide +kernel, rfl, by decide +kernel, by decide +kernel⟩
theorem k_is_list (T : Tx w K mg) : Ok P w K mg base 1 d_is_list ["thing", "least", "most"] spIsList := by
  refine Ok.of T.d_is_list sc_is_list (fun _ _ _ _ _ _ us hl => match us, hl with | [_, _, _], _ => rfl) (fun vs H Q E h => ?_) (fun cdv A outer s H vs Q E hr h => ?_)
  · obtain ⟨_, _, _, _, rfl, _⟩ := h
    rfl
  · obtain ⟨a, xs, l, m, rfl, ha, k⟩ := h
    refine ⟨_, pss_one (ps_ret (pe_and (pe_is T.b_isinstance T.b_list bt_list (pv 0)) (pe_one (pe_chain op_le op_le (pv 1) (pe_callB call_len_seq (by rfl) T.b_len PySem.boot_len (pa_cons (pv 0) pa_nil)) (pv 2))))), ?_⟩
    refine ⟨_, rfl, _, _, _, _, rfl, .base (.lst ha), by decide +kernel, true, rfl, iteT ⟨_, rfl, _, rfl, a, xs, rfl, .inl (SqL.of ha), _, _, rfl, rfl, _, rfl, ?_⟩⟩
    by_cases h : l ≤ xs.length
    · simp only [h, decide_true, Bool.true_and] at k ⊢
      exact ⟨_, rfl, _, _, rfl, rfl, k⟩
    · simp only [h, decide_false, Bool.false_and] at k ⊢
      exact k
/-! is_tuple -/
def spIsTup : Sp := fun vs H Q _ => ∃ (a : Addr) (xs : List V) (n : Int), vs = [.ref a, .int n] ∧ H a = some (.tup xs) ∧ Q (.bl (decide ((xs.length : Int) = n))) H
theorem sc_is_tuple : FnScope ["thing", "many"] ["thing", "many"] d_is_tuple.scope := ⟨rfl, rfl, rfl, by decide +kernel, rfl, by decide +kernel, by decide +kernel⟩
theorem dec_i (i j : Int) : decide (V.int i = V.int j) = decide (i = j) := by simp
theorem dec_s (i j : Str) : decide (V.str i = V.str j) = decide (i = j) := by simp
theorem k_is_tuple (T : Tx w K mg) : Ok P w K mg base 1 d_is_tuple ["thing", "many"] spIsTup := by
  refine Ok.of T.d_is_tuple sc_is_tuple (fun _ _ _ _ _ _ us hl => match us, hl with | [_, _], _ => rfl) (fun vs H Q E h => ?_) (fun cdv A outer s H vs Q E hr h => ?_)
  · obtain ⟨_, _, _, rfl, _⟩ := h
    rfl
  · obtain ⟨a, xs, n, rfl, ha, k⟩ := h
    refine ⟨_, pss_one (ps_ret (pe_and (pe_is T.b_isinstance T.b_tuple bt_tuple (pv 0)) (pe_one (pe_cmpR op_eq (pe_callB call_len_seq (by rfl) T.b_len PySem.boot_len (pa_cons (pv 0) pa_nil)) (pv 1) (nomark _))))), ?_⟩
    refine ⟨_, rfl, _, _, _, _, rfl, .base (.tup ha), by decide +kernel, true, rfl, iteT ⟨_, rfl, a, xs, rfl, .inr (SqT.of ha), _, rfl, rfl, ?_⟩⟩
    rw [dec_i]
    exact k
/-! reckoned -/
def spReck : Sp := fun vs H Q _ =>
  (∃ i j : Int, vs = [.str "add", .int i, .int j] ∧ Q (.int (i + j)) H) ∨ (∃ i j : Int, vs = [.str "sub", .int i, .int j] ∧ Q (.int (i - j)) H) ∨
  (∃ i j : Int, vs = [.str "less", .int i, .int j] ∧ Q (.int (b01 (decide (i < j)))) H) ∨
  (∃ (u v : V) (x y : Option Nat), vs = [.str "same", u, v] ∧ RepO H u x ∧ RepO H v y ∧ Q (.int (b01 (decide (x = y)))) H)
theorem sc_reckoned : FnScope ["word", "one", "other"] ["word", "one", "other"] d_reckoned.scope := ⟨rfl, rfl, rfl, by decide +kernel, rfl, by decide +kernel, by decide +kernel⟩
theorem k_reckoned (T : Tx w K mg) : Ok P w K mg base 1 d_reckoned ["word", "one", "other"] spReck := by
  refine Ok.of T.d_reckoned sc_reckoned (fun _ _ _ _ _ _ us hl => match us, hl with | [_, _, _], _ => rfl) (fun vs H Q E h => ?_) (fun cdv A outer s H vs Q E hr h => ?_)
  · rcases h with ⟨_, _, rfl, _⟩ | ⟨_, _, rfl, _⟩ | ⟨_, _, rfl, _⟩ | ⟨_, _, _, _, rfl, _⟩ <;> rfl
  · have hu := hr.units
    refine ⟨_, pss_cons (ps_if (pt_cmpR op_eq (pv 0) pe_str (nomark _)) (pss_one (ps_ret (pe_op op_add (pv 1) (pv 2)))) pss_nil)
      (pss_cons (ps_if (pt_cmpR op_eq (pv 0) pe_str (nomark _)) (pss_one (ps_ret (pe_op op_sub (pv 1) (pv 2)))) pss_nil)
      (pss_cons (ps_if (pt_cmpR op_eq (pv 0) pe_str (nomark _)) pss_never pss_nil)
      (pss_one (ps_ret (pe_ifExp (pt_cmpR op_eq (pv 0) pe_str (nomark _)) (pe_callTy call_int1 (by rfl) T.b_int bt_int (pa_cons (pe_cmpR op_lt (pv 1) (pv 2) (nomark _)) pa_nil))
        (pe_callTy call_int1 (by rfl) T.b_int bt_int (pa_cons (pe_cmpR (op_eqD hu) (pv 1) (pv 2) (nomark _)) pa_nil))))))), ?_⟩
    rcases h with ⟨i, j, rfl, k⟩ | ⟨i, j, rfl, k⟩ | ⟨i, j, rfl, k⟩ | ⟨u, v, x, y, rfl, hu', hv', k⟩
    · exact ⟨_, rfl, rfl, _, rfl, ifD_t (by decide +kernel) ⟨_, rfl, _, rfl, i, j, rfl, rfl, k⟩⟩
    · refine ⟨_, rfl, rfl, _, rfl, ifD_f (by decide +kernel) ?_⟩
      exact ⟨_, rfl, rfl, _, rfl, ifD_t (by decide +kernel) ⟨_, rfl, _, rfl, i, j, rfl, rfl, k⟩⟩
    · refine ⟨_, rfl, rfl, _, rfl, ifD_f (by decide +kernel) ?_⟩
      refine ⟨_, rfl, rfl, _, rfl, ifD_f (by decide +kernel) ?_⟩
      refine ⟨_, rfl, rfl, _, rfl, ifD_f (by decide +kernel) ?_⟩
      exact ⟨_, rfl, rfl, _, rfl, ifD_t (by decide +kernel) ⟨_, rfl, _, rfl, i, j, rfl, rfl, .inr ⟨_, rfl, k⟩⟩⟩
    · refine ⟨_, rfl, rfl, _, rfl, ifD_f (by decide +kernel) ?_⟩
      refine ⟨_, rfl, rfl, _, rfl, ifD_f (by decide +kernel) ?_⟩
      refine ⟨_, rfl, rfl, _, rfl, ifD_f (by decide +kernel) ?_⟩
      refine ⟨_, rfl, rfl, _, rfl, ifD_f (by decide +kernel) ?_⟩
      refine ⟨_, rfl, _, rfl, oData x, oData y, hu'.dp, hv'.dp, oData_shaped _, oData_shaped _, .inr ⟨_, rfl, ?_⟩⟩
      rw [oData_eqv]
      exact k
/-! is_object -/
def spIsObj : Sp := fun vs H Q _ => (∃ i : Int, vs = [.int i] ∧ Q (.bl false) H) ∨ ∃ v o, vs = [v] ∧ RepO H v o ∧ Q (.bl o.isSome) H
theorem sc_is_object : FnScope ["value"] ["value"] d_is_object.scope := ⟨rfl, rfl, rfl, by decide +kernel, rfl, by decide +kernel, by decide +kernel⟩
theorem k_is_object (T : Tx w K mg) : Ok P w K mg base 2 d_is_object ["value"] spIsObj := by
  refine Ok.of T.d_is_object sc_is_object (fun _ _ _ _ _ _ us hl => match us, hl with | [_], _ => rfl) (fun vs H Q E h => ?_) (fun cdv A outer s H vs Q E hr h => ?_)
  · rcases h with ⟨_, rfl, _⟩ | ⟨_, _, rfl, _⟩ <;> rfl
  · refine ⟨_, pss_cons (ps_if (PW.pt (pw_or (pt_not (pt_val (pe_is T.b_isinstance T.b_tuple bt_tuple (pv 0)))) (pw_or1 (pt_cmpR op_ne (pe_callB call_len_seq (by rfl) T.b_len PySem.boot_len (pa_cons (pv 0) pa_nil)) pe_int (nomark _)))))
        (pss_one (ps_ret pe_bl)) pss_nil)
      (pss_one (ps_ret (pe_and (pe_is T.b_isinstance T.b_str bt_str (pe_ix ix_tup (pv 0) pe_int (fun _ _ => rfl))) (pe_and (pe_cmpR op_eq (pe_ix ix_tup (pv 0) pe_int (fun _ _ => rfl)) (pe_gs T.s_OBJECT) (nomark _))
        (pe_and (pe_G (k_is_integer T) hr T.g_is_integer (pa_cons (pe_ix ix_tup (pv 0) pe_int (fun _ _ => rfl)) pa_nil)) (pe_one (pe_cmpR op_ge (pe_ix ix_tup (pv 0) pe_int (fun _ _ => rfl)) pe_int (nomark _)))))))), ?_⟩
    rcases h with ⟨i, rfl, k⟩ | ⟨v, o, rfl, hv, k⟩
    · exact ⟨_, rfl, _, _, _, _, rfl, .base (.int i), by decide +kernel, false, rfl, iteT (iteT k)⟩
    · cases o with
      | none =>
        cases (show v = .non from hv)
        exact ⟨_, rfl, _, _, _, _, rfl, .base .non, by decide +kernel, false, rfl, iteT (iteT k)⟩
      | some n =>
        obtain ⟨t, rfl, ht⟩ := hv
        have h0 : SqT K H t [.str "object", .int (n : Int)] := SqT.of ht
        refine ⟨_, rfl, _, _, _, _, rfl, .base (.tup ht), by decide +kernel, true, rfl, iteF ⟨_, rfl, t, _, rfl, .inr h0, rfl, _, rfl, iteF ?_⟩⟩
        refine ⟨_, rfl, _, _, _, _, rfl, rfl, h0, rfl, _, _, _, _, rfl, .base (.str _), by decide +kernel, true, rfl, iteT ?_⟩
        refine ⟨_, rfl, _, _, _, _, rfl, rfl, h0, rfl, rfl, _, rfl, ifD_t rfl ?_⟩
        refine ⟨_, rfl, _, _, _, _, rfl, rfl, h0, rfl, _, rfl, true, rfl, iteT ?_⟩
        refine ⟨_, rfl, _, _, _, _, rfl, rfl, h0, rfl, _, _, rfl, rfl, ?_⟩
        exact qb (decide_eq_true (Int.natCast_nonneg n)) k
/-! has_kind -/
def spKind : Sp := fun vs H Q _ => (∃ i : Int, vs = [.int i, .str "number"] ∧ Q (.bl true) H) ∨ ∃ v o, vs = [v, .str "object"] ∧ RepO H v o ∧ Q (.bl true) H
theorem sc_has_kind : FnScope ["value", "kind"] ["value", "kind"] d_has_kind.scope := ⟨rfl, rfl, rfl, by decide +kernel, rfl, by decide +kernel, by decide +kernel⟩
theorem k_has_kind (T : Tx w K mg) : Ok P w K mg base 3 d_has_kind ["value", "kind"] spKind := by
  refine Ok.of T.d_has_kind sc_has_kind (fun _ _ _ _ _ _ us hl => match us, hl with | [_, _], _ => rfl) (fun vs H Q E h => ?_) (fun cdv A outer s H vs Q E hr h => ?_)
  · rcases h with ⟨_, rfl, _⟩ | ⟨_, _, rfl, _⟩ <;> rfl
  · refine ⟨_, pss_one (ps_ret (pe_ifExp (pt_cmpR op_eq (pv 1) (pe_gs T.s_NUMBER) (nomark _)) (pe_G (k_is_integer T) (hr.mono (by decide)) T.g_is_integer (pa_cons (pv 0) pa_nil))
      (pe_or (pe_cmp (pc_isN (pv 0)) rfl) (pe_one (pe_G (k_is_object T) hr T.g_is_object (pa_cons (pv 0) pa_nil)))))), ?_⟩
    rcases h with ⟨i, rfl, k⟩ | ⟨v, o, rfl, hv, k⟩
    · exact ⟨_, rfl, rfl, _, rfl, ifD_t rfl ⟨_, rfl, i, rfl, k⟩⟩
    · refine ⟨_, rfl, rfl, _, rfl, ifD_f (by decide +kernel) ⟨_, rfl, _, rfl, ?_⟩⟩
      cases o with
      | none =>
        cases (show v = .non from hv)
        exact ifD_t rfl k
      | some n =>
        obtain ⟨t, rfl, ht⟩ := id hv
        exact ifD_f (by intro z; cases z) ⟨_, rfl, .inr ⟨_, _, rfl, hv, k⟩⟩
/-! blank -/
def spBlank : Sp := fun vs H Q _ => (vs = [.str "number"] ∧ Q (.int 0) H) ∨ (vs = [.str "object"] ∧ Q .non H)
theorem sc_blank : FnScope ["kind"] ["kind"] d_blank.scope := ⟨rfl, rfl, rfl, by decide +kernel, rfl, by decide +kernel, by decide +kernel⟩
theorem k_blank (T : Tx w K mg) : Ok P w K mg base 1 d_blank ["kind"] spBlank := by
  refine Ok.of T.d_blank sc_blank (fun _ _ _ _ _ _ us hl => match us, hl with | [_], _ => rfl) (fun vs H Q E h => ?_) (fun cdv A outer s H vs Q E hr h => ?_)
  · rcases h with ⟨rfl, _⟩ | ⟨rfl, _⟩ <;> rfl
  · refine ⟨_, pss_one (ps_ret (pe_ifExp (pt_cmpR op_eq (pv 0) (pe_gs T.s_NUMBER) (nomark _)) pe_int pe_non)), ?_⟩
    rcases h with ⟨rfl, k⟩ | ⟨rfl, k⟩
    · exact ⟨_, rfl, rfl, _, rfl, ifD_t rfl k⟩
    · exact ⟨_, rfl, rfl, _, rfl, ifD_f (by decide +kernel) k⟩
end
end K18
set_option Elab.async false
set_option linter.all false
set_option maxRecDepth 100000
set_option maxHeartbeats 4000000
namespace K18
open PySem PySem.Spec PyProof.Rows L2
/-! rules of one's own -/
section
variable {X : Cx} {pins : List (Addr × Obj)} {σ : L2.St} {H : Hp} {s : Shared} {a : Addr} {kvs : List (Key × V)} {A : Around} {E : Value → Shared → Prop}
/-- the same dict, its keys seen beside None -/
theorem dictOf_none {P : Program} {w : World} {h : Heap} {vs : List (Key × Value)} (d : h.DictOf (mixKind P w) a vs) : h.DictOf (noneKind P w) a (vs.map fun p => (some p.1, p.2)) := by
  obtain ⟨o, es, ep, ho, hx, hdt, hk, hp, hn⟩ := d
  refine ⟨o, es, ep, ho, hx, hdt, fun e he => ?_, ?_, ?_⟩
  · obtain ⟨k, h1, h2⟩ := hk e he
    exact ⟨some k, h1, h2⟩
  · have go : ∀ {l : List DictEntry} {vs : List (Key × Value)}, Pairs (mixKind P w) l vs → Pairs (noneKind P w) l (vs.map fun p => (some p.1, p.2)) := by
      intro l vs q
      induction q with
      | nil => exact .nil
      | cons h1 h2 _ ih => exact .cons h1 h2 ih
    exact go hp
  · rw [List.map_map]
    have e : (vs.map ((fun (p : Option Key × Value) => p.1) ∘ fun p => (some p.1, p.2))) = (vs.map (·.1)).map some := by rw [List.map_map]; rfl
    rw [e]
    have go : ∀ {l : List Key}, l.Nodup → (l.map some).Nodup := by
      intro l q
      induction l with
      | nil => exact List.nodup_nil
      | cons x r ih =>
        obtain ⟨q1, q2⟩ := List.nodup_cons.mp q
        refine List.nodup_cons.mpr ⟨fun m => ?_, ih q2⟩
        obtain ⟨y, hy, e⟩ := List.mem_map.mp m
        cases e
        exact q1 hy
    exact go hn
/-- d.pop(None, x): d's keys are ints and texts -/
theorem d_popN {r : Value} {Q : Value → Shared → Prop} (I : Inv X pins σ H s) (e : H a = some (.dK kvs)) (h : ∀ s', Inv X pins σ H s' → Q r s') : wpAny (model X.prog X.w) A (call (.builtin "dict.pop") [.ref a, .none, r]) Q E s := by
  obtain ⟨z, hd, vs, rel, dd⟩ := dk_of I.hok e
  have dn := dictOf_none dd
  have hn : valueAt (vs.map fun p => ((some p.1 : Option Key), p.2)) none = none := by
    unfold valueAt
    rw [Option.map_eq_none_iff, List.find?_eq_none]
    intro p hp
    obtain ⟨q, _, rfl⟩ := List.mem_map.mp hp
    simp
  exact call_meetsIn PySem.F.slot_dict_pop dn.typeIs PySem.F.entry_dict_pop (PySem.F.args_dict_pop_3 _ _ _) (meets_dict_pop_default (noneKind X.prog X.w) (k := none) (key := .none) a rfl hd rfl r) ⟨_, dn, hn, h _ (I.tok _)⟩
end
/-- d.pop(k, x), k a key or None -/
def tDPopN (td ty tx : TE) : TE := fun σ H Q => td σ H fun x H1 => ∃ a, x = .ref a ∧ IsD H1 a ∧ ty σ H1 fun y H2 => tx σ H2 fun z H3 => ∃ kvs, H3 a = some (.dK kvs) ∧ ((y = .non ∧ Q z H3) ∨ ∃ k, y = kV k ∧
  (∀ v, valV kvs k = some v → Q v (upd H3 a (.dK (dropK kvs k)))) ∧ (valV kvs k = none → Q z H3))
section
variable {X : Cx} {o e f : Expr} {apos cpos : Pos} {td ty tx : TE}
theorem pe_dpopN (ho : PE X o td) (he : PE X e ty) (hf : PE X f tx) (m : M2 X o "pop" apos e f cpos) : PE X (.Call (.Attribute o "pop" apos) [e, f] [] cpos) (tDPopN td ty tx) := by
  refine ⟨fun pins s σ H Q I h => ?_⟩
  refine wpAny_Call_method m.base m.few m.line PySem.F.plainAttrs_dict PySem.F.slot_dict_pop PySem.F.type_dict_pop (thn (ho.run pins s σ H _ I h) fun u s1 ⟨x, H1, I1, rx, a, ex, d, q1⟩ => ?_)
  subst ex
  obtain rfl : u = Value.ref a := rx
  obtain ⟨t1, t2, _⟩ := isD_at I1 d
  refine ⟨t1, t2, ?_⟩
  rw [m.trees]
  refine Calls.callWith_builtin rfl (Calls.evalArgs_plain (Calls.spliced_cons (thn (he.run pins s1 σ H1 _ I1 q1) fun iv s2 ⟨y, H2, I2, ry, q2⟩ =>
    Calls.spliced_cons (thn (hf.run pins s2 σ H2 _ I2 q2) fun fv s3 ⟨z, H3, I3, rz, kvs, ea, q3⟩ => Calls.spliced_nil ?_))))
  rcases q3 with ⟨ey, q⟩ | ⟨k, ey, q3, q4⟩
  · subst ey
    obtain rfl : iv = Value.none := ry
    exact d_popN I3 ea fun s4 I4 => ⟨z, H3, I4, rz, q⟩
  · subst ey
    cases l : valV kvs k with
    | some v => exact d_pop I3 ea ry l (.inr ⟨fv, rfl⟩) fun w' s4 I4 rw' => ⟨v, _, I4, rw', q3 v l⟩
    | none => exact d_popD I3 ea ry l fun s4 I4 => ⟨z, H3, I4, rz, q4 l⟩
end
/-! d.update(e), e a dict or a list of pairs -/
theorem raw_pairs {h : Heap} : ∀ {ps : List Addr} {prs : List (Key × Value)}, (∀ (j : Nat) (q : Key × Value), prs[j]? = some q → ∃ (b : Addr) (u : Value), ps[j]? = some b ∧ IsTup h b #[u, q.2] ∧ keyIs q.1 u = true) → prs.length = ps.length →
    ∃ raw : List (Value × Value), raw.length = ps.length ∧ ∀ (j : Nat), j < ps.length → ∃ (b : Addr) (u : Value) (k : Key) (y : Value), ps[j]? = some b ∧ prs[j]? = some (k, y) ∧ raw[j]? = some (u, y) ∧ IsTup h b #[u, y] ∧ keyIs k u = true
  | [], prs, _, _ => ⟨[], rfl, fun j hj => by simp at hj⟩
  | p :: r, [], _, hl => by simp at hl
  | p :: r, q :: prs, hp, hl => by
    obtain ⟨raw, h1, h2⟩ := raw_pairs (ps := r) (prs := prs) (fun j q' e => by
      obtain ⟨b, u, a1, a2, a3⟩ := hp (j + 1) q' (by simpa using e)
      exact ⟨b, u, by simpa using a1, a2, a3⟩) (by simpa using hl)
    obtain ⟨b, u, a1, a2, a3⟩ := hp 0 q rfl
    refine ⟨(u, q.2) :: raw, by simp [h1], fun j hj => ?_⟩
    cases j with
    | zero => exact ⟨b, u, q.1, q.2, a1, rfl, rfl, a2, a3⟩
    | succ j =>
      obtain ⟨b', u', k, y, b1, b2, b3, b4, b5⟩ := h2 j (by simpa using hj)
      exact ⟨b', u', k, y, by simpa using b1, by simpa using b2, by simpa using b3, b4, b5⟩
section
variable {X : Cx}
def rUpdD : V → List V → Hp → VK → Prop := fun x vs H Q => ∃ a b kvs more, x = .ref a ∧ vs = [.ref b] ∧ a ≠ b ∧ H a = some (.dK kvs) ∧ Rd H b (.dK more) ∧ kvs.length + more.length ≤ sizeLine ∧ Q .non (upd H a (.dK (mergeK kvs more)))
theorem mt_updD : MtR X "dict.update" rUpdD := by
  intro pins s σ H x xs v us Q I rx rv h
  obtain ⟨a, b, kvs, more, e1, e2, hne, ha, hb, hl, q⟩ := h
  subst e1 e2
  obtain rfl : v = Value.ref a := rx
  obtain ⟨u, eu, ru⟩ := vals1 rv
  subst eu
  obtain rfl : u = Value.ref b := ru
  obtain ⟨z, hd, va, ra, da⟩ := dk_of I.hok ha
  obtain ⟨z', hd', vb, rb, db⟩ := dk_rd I.hok hb
  have la := ra.length
  have lb := rb.length
  refine call_meetsIn PySem.F.slot_dict_update da.typeIs PySem.F.entry_dict_update (PySem.F.args_dict_update_2 _ _) (meets_dict_update (mixKind X.prog X.w) a b hne hd') ⟨va, vb, da, db, (by omega), fun h' hm _ hs => ?_⟩
  have hq : ∃ o, h'.get? a = some o := by obtain ⟨o, _, _, q, _⟩ := hm; exact ⟨o, q⟩
  have hlen := length_mergeK more kvs
  exact ⟨.non, _, d_write (t' := s.toks) I (by rw [ha]; trivial) hs hq (dk_new (Nat.le_trans hlen hl) hd (KV.merge rb ra) hm), rfl, q⟩
def rUpdP : V → List V → Hp → VK → Prop := fun x vs H Q => ∃ a l ps kvs more, x = .ref a ∧ vs = [.ref l] ∧ H a = some (.dK kvs) ∧ H l = some (.lst (ps.map V.ref)) ∧ Paired (fun p (kv : Key × V) => H p = some (.tup [kV kv.1, kv.2])) ps more ∧
  kvs.length + more.length ≤ sizeLine ∧ Q .non (upd H a (.dK (mergeK kvs more)))
theorem mt_updP (hcalm : X.calm = true) : MtR X "dict.update" rUpdP := by
  intro pins s σ H x xs v us Q I rx rv h
  obtain ⟨a, l, ps, kvs, more, e1, e2, ha, hl, hp, hz, q⟩ := h
  subst e1 e2
  obtain rfl : v = Value.ref a := rx
  obtain ⟨u, eu, ru⟩ := vals1 rv
  subst eu
  obtain rfl : u = Value.ref l := ru
  obtain ⟨z, hd, va, ra, da⟩ := dk_of I.hok ha
  have la := ra.length
  obtain ⟨prs, rp, lp, hprs⟩ := pairs_of I (Paired.mapP hp fun p kv e => SqT.of (K := X.K) e)
  obtain ⟨its, rl, ⟨o, n, ho, hc, hdn, hdat⟩, _⟩ := I.list (SqL.of hl)
  have eits := refs_at rl
  subst eits
  have lm := rp.length
  obtain ⟨raw, lraw, hraw⟩ := raw_pairs hprs (by omega)
  have nea : ∀ b ∈ ps, a ≠ b := fun b hb => by
    obtain ⟨j, hj, e⟩ := List.mem_iff_getElem.mp hb
    obtain ⟨kv, _, ekv⟩ := paired_get hp (i := j) (a := b) (by rw [List.getElem?_eq_getElem hj, e])
    exact ne_of ha ekv (by intro z; cases z)
  have PA := PairArg.list (prog := X.prog) (w := X.w) l (ps.map Value.ref).toArray (fun j => ps.getD j 0) raw
  refine call_update_pairs (knd := mixKind X.prog X.w) (acc := va) (kvs := prs) PA (I.ok.hd hcalm) ⟨⟨o, n, ho, hc, hdn, hdat⟩, ?_, fun j k v e => ?_⟩ ?_ ⟨(by omega), fun j key v e => ?_⟩ da (by omega) fun h' tk hm hk' => ?_
  · simp [lraw]
  · have hj : j < ps.length := by rw [← lraw]; exact (List.getElem?_eq_some_iff.mp e).1
    obtain ⟨b, u, kk, y, a1, a2, b1, b2, b3⟩ := hraw j hj
    rw [e] at b1
    cases b1
    have eb : ps.getD j 0 = b := by rw [List.getD_eq_getElem?_getD, a1]; rfl
    refine ⟨?_, ?_⟩
    · show _ = some (Value.ref (ps.getD j 0))
      rw [eb]; simp [a1]
    · show PairAt s.heap (ps.getD j 0) k v
      rw [eb]
      exact .inl b2
  · simp only [List.mem_cons, List.mem_map, List.mem_range, not_or]
    refine ⟨ne_of ha hl (by intro z; cases z), ?_⟩
    rintro ⟨j, hj, e⟩
    have hj' : j < ps.length := by omega
    have : ps.getD j 0 ∈ ps := by rw [List.getD_eq_getElem?_getD, List.getElem?_eq_getElem hj']; exact List.getElem_mem hj'
    exact nea _ this e.symm
  · have hj : j < ps.length := by rw [← lraw]; exact (List.getElem?_eq_some_iff.mp e).1
    obtain ⟨b, u, kk, y, a1, a2, b1, b2, b3⟩ := hraw j hj
    rw [show raw[j]? = some (key, v) from e] at b1
    cases b1
    exact ⟨kk, a2, b3⟩
  · have hq : ∃ o, h'.get? a = some o := by obtain ⟨o, _, _, q, _⟩ := hm; exact ⟨o, q⟩
    have hlen := length_mergeK more kvs
    exact ⟨.non, _, I.write (t' := tk) (by rw [ha]; trivial) (.inl rfl) (fun b u hb e => hk' b u hb (by simp) e) hq (dk_new (Nat.le_trans hlen hz) hd (KV.merge rp ra) hm), rfl, q⟩
end
end K18
set_option Elab.async false
set_option linter.all false
set_option maxRecDepth 100000
set_option maxHeartbeats 4000000
namespace K18
open PySem PySem.Spec PyProof.Rows
/-! max(.., default = d): one word for all turns; o is the best so far -/
section
variable {prog : Program} {w : World} {A : Around} {E : Value → Shared → Prop} {R : Result → Shared → Prop} {I : Addr} {fp wr : List Addr} {G : Array GenState → Array GenState → Prop} {n : Nat} {P : Nat → Value → Prop} {St : Nat → Shared → Prop}
def bestOb (o : Option Value) (c : Nat) : Obj := { cls := .type "list", dict := none, data := .seq (match o with | none => #[] | some v => #[v, v]) c, slots := #[] }
theorem best_go (kn : Str) (d : Value) (W : WalksS prog w A.in1 I fp wr G n P St) (bt : Nat → Nat → Bool) (hc : CmpOf prog w A.in1 .Gt P bt) {S : Addr} (ns : S ∉ fp) :
    ∀ (k j : Nat) (s : Shared) (o : Option Value) (c : Nat), n = j + k → St j s → s.heap.get? S = some (bestOb o c) → (o = none → j = 0) → (∀ v, o = some v → 0 < j ∧ P (argBest bt (j - 1)) v) →
    (∀ r s', Moved (S :: wr) G s s' → (n = 0 ∧ r = d) ∨ (0 < n ∧ P (argBest bt (n - 1)) r) → R (.ok (.ret r)) s') → codeAny (model prog w) A (.builtin "max.loop" ⟨[.ref I, .none, .ref S], [(kn, d)]⟩) R s := by
  have nw : S ∉ wr := fun q => ns (W.sub S q)
  have up : ∀ {s s' : Shared}, Moved wr G s s' → Moved (S :: wr) G s s' := fun q => q.mono fun b hb => List.mem_cons_of_mem S hb
  have other : ∀ {h : Heap} {f : Obj → Obj} {b : Addr} {x : Obj}, b ∉ S :: wr → h.get? b = some x → (h.update S f).get? b = some x := fun {h f b x} hb e => (Heap.get?_update_other h f (fun q => hb (by rw [q]; exact List.mem_cons_self))).trans e
  intro k
  induction k with
  | zero =>
    intro j s o c hn st hS h0 hv fin
    subst hn
    apply codeAny_builtin F.entry_max_loop
    rw [Around.under_plainId F.plain_max_loop _]
    cases o with
    | none =>
      have hj := h0 rfl
      subst hj
      show wpAny _ A.in1 (seqItems? (.ref S) >>= _) _ _ s
      apply wpAny_bind; apply wpAny_seqItems hS rfl
      show wpAny _ A.in1 (tryCatch (pyNext (.ref I)) _ >>= _) _ _ s
      apply wpAny_bind; apply wpAny_tryCatch; apply W.done s _ _ st; intro s1 m1
      apply wpAny_bind; apply wpAny_rule
      exact wpAny_pure (fin d s1 (up m1) (.inl ⟨rfl, rfl⟩))
    | some v =>
      obtain ⟨hj, pv⟩ := hv v rfl
      show wpAny _ A.in1 (seqItems? (.ref S) >>= _) _ _ s
      apply wpAny_bind; apply wpAny_seqItems hS rfl
      show wpAny _ A.in1 (tryCatch (pyNext (.ref I)) _ >>= _) _ _ s
      apply wpAny_bind; apply wpAny_tryCatch; apply W.done s _ _ st; intro s1 m1
      show wpAny _ A.in1 (updateSeq S (fun _ => #[]) >>= _) _ _ _
      apply wpAny_bind; apply wpAny_updateSeq (m1.heap S _ nw hS) rfl; apply wpAny_bind; apply wpAny_letGo; apply wpAny_pure
      exact fin v _ ((up m1).then_heap (tk := s1.toks) (Nat.le_refl _) fun b x hb e => other hb e) (.inr ⟨hj, pv⟩)
  | succ k ih =>
    intro j s o c hn st hS h0 hv fin
    have lt : j < n := by omega
    apply codeAny_builtin F.entry_max_loop
    rw [Around.under_plainId F.plain_max_loop _]
    have again : ∀ (s1 s2 : Shared) (o' : Option Value) (c' : Nat), Moved (S :: wr) G s s1 → St (j + 1) s1 → (∃ h', s2 = { s1 with heap := h' } ∧ ∀ b x, b ∉ [S] → s1.heap.get? b = some x → h'.get? b = some x) → s2.heap.get? S = some (bestOb o' c') →
        (∃ v', o' = some v' ∧ P (argBest bt j) v') → codeAny (model prog w) A (.builtin "max.loop" ⟨[.ref I, .none, .ref S], [(kn, d)]⟩) R s2 := by
      rintro s1 s2 o' c' m1 st1 ⟨h', rfl, kp⟩ hS2 ⟨v', rfl, pv'⟩
      refine ih (j + 1) _ (some v') c' (by omega) (W.frame (j + 1) s1 h' s1.toks st1 (Nat.le_refl _) fun b hb x e => kp b x (fun q => ns (by rw [← List.mem_singleton.mp q]; exact hb)) e) hS2 (fun q => nomatch q) (fun v q => ⟨Nat.succ_pos j, by cases q; exact pv'⟩) fun r s' m2 q => ?_
      exact fin r s' (Moved.trans W.gtrans (m1.then_heap (tk := s1.toks) (Nat.le_refl _) fun b x hb e => kp b x (fun q => hb (by rw [List.mem_singleton.mp q]; exact List.mem_cons_self)) e) m2) q
    cases o with
    | none =>
      have hj := h0 rfl
      subst hj
      show wpAny _ A.in1 (seqItems? (.ref S) >>= _) _ _ s
      apply wpAny_bind; apply wpAny_seqItems hS rfl
      show wpAny _ A.in1 (tryCatch (pyNext (.ref I)) _ >>= _) _ _ s
      apply wpAny_bind; apply wpAny_tryCatch; apply W.item 0 s _ _ lt st; intro v s1 pv st1 m1
      have hS1 := m1.heap S _ nw hS
      show wpAny _ A.in1 (updateSeq S (fun _ => #[v, v]) >>= _) _ _ _
      apply wpAny_bind; apply wpAny_updateSeq hS1 rfl
      exact wpAny_pure ⟨plainId_quiet F.plain_max_loop _, again s1 _ (some v) _ (up m1) st1 ⟨_, rfl, fun b x hb e => (Heap.get?_update_other _ _ (fun q => hb (by rw [q]; exact List.mem_cons_self))).trans e⟩ (Heap.get?_update_self _ hS1 rfl) ⟨v, rfl, pv⟩⟩
    | some vb =>
      obtain ⟨hj, pb⟩ := hv vb rfl
      have ej : j - 1 + 1 = j := by omega
      show wpAny _ A.in1 (seqItems? (.ref S) >>= _) _ _ s
      apply wpAny_bind; apply wpAny_seqItems hS rfl
      show wpAny _ A.in1 (tryCatch (pyNext (.ref I)) _ >>= _) _ _ s
      apply wpAny_bind; apply wpAny_tryCatch; apply W.item j s _ _ lt st; intro v s1 pv st1 m1
      have hS1 := m1.heap S _ nw hS
      have eb : argBest bt j = if bt j (argBest bt (j - 1)) = true then j else argBest bt (j - 1) := by
        rw [← ej]
        show (if bt (j - 1 + 1) (argBest bt (j - 1)) = true then j - 1 + 1 else argBest bt (j - 1)) = _
        rw [ej]
      show wpAny _ A.in1 (tryCatch (holding [v, v] (richCompare .Gt v vb >>= _)) _ >>= _) _ _ _
      apply wpAny_bind; apply wpAny_tryCatch; apply wpAny_holding; apply wpAny_bind; apply hc j (argBest bt (j - 1)) v vb _ _ _ pv pb
      apply wpAny_bind; apply wpAny_holding; apply wpAny_truthy_bool
      apply wpAny_bind; apply wpAny_letGo; apply wpAny_pure
      cases hb : bt j (argBest bt (j - 1)) with
      | true =>
        rw [hb] at eb
        simp only [if_true]
        apply wpAny_bind; apply wpAny_updateSeq hS1 rfl; apply wpAny_bind; apply wpAny_letGo
        exact wpAny_pure ⟨plainId_quiet F.plain_max_loop _, again s1 _ (some v) _ (up m1) st1 ⟨_, rfl, fun b x hb e => (Heap.get?_update_other _ _ (fun q => hb (by rw [q]; exact List.mem_cons_self))).trans e⟩ (Heap.get?_update_self _ hS1 rfl) ⟨v, rfl, by rw [eb]; exact pv⟩⟩
      | false =>
        rw [hb] at eb
        simp only [Bool.false_eq_true, if_false]
        apply wpAny_bind; apply wpAny_letGo
        exact wpAny_pure ⟨plainId_quiet F.plain_max_loop _, again s1 s1 (some vb) _ (up m1) st1 ⟨s1.heap, rfl, fun b x _ e => e⟩ hS1 ⟨vb, rfl, by rw [eb]; exact pb⟩⟩
theorem args_maxD (a v : Value) : argsOk "max" ⟨[a], [(Str.ofString "default", v)]⟩ := by unfold argsOk; kernel_rfl
theorem call_maxD {l : Addr} {its : List Value} {ns : List Int} {s : Shared} {d : Value} {Q : Value → Shared → Prop} (hh : A.handled = none) (hl : s.heap.IsList l its.toArray) (hi : IntsAre its ns)
    (h0 : ns = [] → ∀ h' tk, (∀ b o, s.heap.get? b = some o → h'.get? b = some o) → Q d { s with heap := h', toks := tk })
    (h1 : ∀ h' tk M t', (∀ b o, s.heap.get? b = some o → h'.get? b = some o) → M ∈ ns → (∀ a, a ∈ ns → a ≤ M) → Q (.int M t') { s with heap := h', toks := tk }) :
    wpAny (model prog w) A (call (.builtin "max") [.ref l] [(Str.ofString "default", d)]) Q E s := by
  obtain ⟨xs, e⟩ := hi.allInts.items
  have hn : numsOf (intItems xs).toList = ns := by rw [← e]; exact hi.numsOf
  rw [nums_intItems] at hn
  subst hn
  rw [e] at hl
  apply kmk_tree PySem.F.kind_max PySem.F.plain_max PySem.F.entry_max (args_maxD _ _)
  show wpAny _ A.in1 (Builtin.Builtins.bindParams "max" ["key", "default"] 0 ⟨[], [(Str.ofString "default", d)]⟩ >>= _) _ _ s
  apply wpAny_bind; apply wpAny_of_eq (show Builtin.Builtins.bindParams "max" ["key", "default"] 0 ⟨[], [(Str.ofString "default", d)]⟩ = pure [none, some d] from rfl)
  apply wpAny_bind; apply wpAny_pure
  apply wpAny_bind; apply iter_intList hl; rintro s2 rfl st hfp hlI
  apply wpAny_bind; refine wpAny_newObj_type ?_
  refine wpAny_pure ⟨plainId_quiet F.plain_max_loop _, ?_⟩
  have W := (Walks.list (prog := prog) (w := w) (A := A.in1) hh s.heap.objs.size l hlI (intItems xs)).toS
  have kS : ∀ b o, s.heap.get? b = some o → (s.heap.push { cls := .type "list_iterator", data := .fields #[.ref l, .int 0 0] }).get? b = some o := fun b o e => Heap.get?_push_of_some _ e
  refine best_go (o := none) _ d W (fun i j => decide (numAt xs i > numAt xs j)) (CmpOf.ints_gt (numAt xs) fun _ _ => intItems_at) (fun q => Nat.lt_irrefl _ (hfp _ q)) _ 0 _ _ (Nat.zero_add _).symm
    (W.frame 0 _ _ _ st (Nat.le_refl _) fun b _ o e => Heap.get?_push_of_some _ e) (Heap.get?_push_size _ rfl) (fun _ => rfl) (fun v q => nomatch q) fun r s' m q => ?_
  have keep : ∀ b o, s.heap.get? b = some o → s'.heap.get? b = some o := fun b o e => by
    have hb := Heap.lt_size e
    refine m.heap b o (fun z => ?_) (Heap.get?_push_of_some _ (kS b o e))
    rcases List.mem_cons.mp z with z | z
    · rw [z] at hb
      have : s.heap.objs.size < (s.heap.push { cls := .type "list_iterator", data := .fields #[.ref l, .int 0 0] }).objs.size := by rw [Heap.size_push]; exact Nat.lt_succ_self _
      exact absurd (Nat.lt_trans hb this) (Nat.lt_irrefl _)
    · rw [List.mem_singleton.mp z] at hb
      exact Nat.lt_irrefl _ hb
  have es : s' = { s with heap := s'.heap, toks := s'.toks } := by
    have := m.eq_with
    exact this
  rw [es]
  rcases q with ⟨hz, rfl⟩ | ⟨hp, pv⟩
  · refine h0 ?_ _ _ keep
    have hz : (intItems xs).size = 0 := hz
    have : xs.size = 0 := by simpa [intItems] using hz
    have : xs.toList.length = 0 := by simpa using this
    rw [List.length_eq_zero_iff.mp this]; rfl
  · obtain ⟨t, rfl⟩ := intItems_at pv
    have hsz : (intItems xs).size = xs.size := by simp [intItems]
    obtain ⟨g1, g2⟩ := argBest_gt (numAt xs) ((intItems xs).size - 1)
    refine h1 _ _ _ t keep ?_ fun a ha => ?_
    · rw [numAt_eq]; exact PySem.getD_mem (by rw [List.length_map, Array.length_toList, ← hsz]; omega)
    · obtain ⟨j, hj, rfl⟩ := mem_getD ha
      rw [List.length_map, Array.length_toList] at hj
      rw [← numAt_eq]; exact g2 j (by omega)
end
open L2
section
variable {X : Cx}
def rMaxD (K : PySem.W.Frag) : List V → List V → Hp → VK → Prop := fun vs zs H Q => ∃ (a : Addr) (ns : List Int) (d : V), vs = [V.ref a] ∧ zs = [d] ∧ SqL K H a (ns.map V.int) ∧ (ns = [] → Q d H) ∧ ∀ m, m ∈ ns → (∀ y, y ∈ ns → y ≤ m) → Q (.int m) H
theorem cr_maxD (hc : X.calm = true) : CallRK X (.builtin "max") [Str.ofString "default"] (rMaxD X.K) := by
  intro pins s σ H vs zs us ws Q I r rz h
  obtain ⟨a, ns, d, e1, e2, hq, q0, q1⟩ := h
  subst e1 e2
  obtain ⟨u, eu, ru⟩ := vals1 r
  obtain ⟨x, ex, rx⟩ := vals1 rz
  subst eu ex
  obtain rfl : u = Value.ref a := ru
  obtain ⟨its, rv, p, hz⟩ := I.list hq
  exact call_maxD (I.ok.hd hc) p.isList (Vals.ints rv) (fun e h' tk k => ⟨d, H, I.kept k, rx, q0 e⟩) fun h' tk M t' k hm hle => ⟨.int M, H, I.kept k, ⟨t', rfl⟩, q1 M hm hle⟩
end
end K18
set_option Elab.async false
set_option linter.all false
set_option maxRecDepth 100000
set_option maxHeartbeats 4000000
namespace K18
open PySem PySem.Spec PyProof.Rows L2
/-! tuple(d) of a dict -/
section
variable {prog : Program} {w : World} {A : Around} {E : Value → Shared → Prop} {s : Shared} {T : String} {r d : Addr} {n : Nat} {P : Nat → Value → Prop} {OK : Heap → Prop}
theorem collect_src {Q : List Value → Shared → Prop} (K : PySem.W.KdlSrc prog w T r d n P OK) (hh : A.handled = none) (hok : OK s.heap) (hn : n ≤ sizeLine)
    (hQ : ∀ (h' : Heap) (tk : Nat) (acc : Array Value), (∀ b o, s.heap.get? b = some o → h'.get? b = some o) → ItemsOf P acc n → Q acc.toList { s with heap := h', toks := tk }) :
    wpAny (model prog w) A (collect (.ref r)) Q E s := by
  have there := K.there _ hok
  have hS : (s.heap.push { cls := .type "list", data := .seq ([] : List Value).toArray }).get? s.heap.objs.size = some { cls := .type "list", data := .seq #[] 0 } := Heap.get?_push_size _ rfl
  unfold collect
  apply wpAny_bind; apply wpAny_runValue; apply codeAny_builtin F.entry_proto_collect
  rw [Around.under_plainId F.plain_proto_collect _]
  show wpAny _ A.in1 (newList [] >>= fun l => again (.builtin "list.__iadd__" ⟨[l, .ref r], []⟩)) _ _ s
  apply wpAny_bind; refine wpAny_newObj_type (wpAny_pure ⟨plainId_quiet F.plain_list_iadd _, ?_⟩)
  apply codeAny_builtin F.entry_list_iadd
  rw [Around.under_plainId F.plain_list_iadd _]
  show wpAny _ A.in1 (Builtin.List.listExtendWith (.ref s.heap.objs.size) (.ref r) (.ref s.heap.objs.size)) _ _ _
  have main := PySem.W.kdl_extend (A := A) (s := { s with heap := s.heap.push { cls := .type "list", data := .seq ([] : List Value).toArray } }) (R := fun (rr : Result) s' => rr = .ok (.ret (.ref s.heap.objs.size)) ∧ ∃ (h' : Heap) (tk : Nat) (acc : Array Value) (c' : Nat),
      s' = { s with heap := h', toks := tk } ∧ (∀ b o, s.heap.get? b = some o → h'.get? b = some o) ∧ h'.get? s.heap.objs.size = some { cls := .type "list", dict := none, data := .seq acc c', slots := #[] } ∧ ItemsOf P acc n)
    K hh (K.keep _ _ hok fun b _ o e => Heap.get?_push_of_some _ e) s.heap.objs.size (Nat.ne_of_gt there.1) (Nat.ne_of_gt there.2) (.ref s.heap.objs.size) 0 hS
    (fun h' tk acc c' hk e hi => ⟨rfl, h', tk, acc, c', rfl, fun b o q => hk b o (Nat.ne_of_lt (Heap.lt_size q)) (Heap.get?_push_of_some _ q), e, hi⟩) hn
  refine wpAny_mono main (fun fin s' h => ?_) fun e s' h => absurd h.1 (by simp)
  cases fin with
  | done f =>
    obtain ⟨e, h', tk, acc, c', rfl, hk, hS', hi⟩ := h
    cases e
    show wpAny _ A (load s.heap.objs.size >>= _) _ _ _
    exact wpAny_bind (wpAny_load hS' (wpAny_pure (hQ h' tk acc hk hi)))
  | again c' =>
    refine ⟨h.1, codeAny_mono h.2 fun rr s'' hr' => ?_⟩
    obtain ⟨rfl, h', tk, acc, c', rfl, hk, hS', hi⟩ := hr'
    show wpAny _ A (load s.heap.objs.size >>= _) _ _ _
    exact wpAny_bind (wpAny_load hS' (wpAny_pure (hQ h' tk acc hk hi)))
theorem call_tuple_src {Q : Value → Shared → Prop} (K : PySem.W.KdlSrc prog w "dict" r d n P OK) (hh : A.handled = none) (hok : OK s.heap) (hn : n ≤ sizeLine)
    (hQ : ∀ (h' : Heap) (tk : Nat) (acc : Array Value), (∀ b o, s.heap.get? b = some o → h'.get? b = some o) → ItemsOf P acc n → Q (.ref h'.objs.size) { s with heap := h'.push { cls := .type "tuple", data := .seq acc }, toks := tk }) :
    wpAny (model prog w) A (call (.type "tuple") [.ref r]) Q E s := by
  refine callType_codes (Q₁ := fun obj s1 => s1.TypeIs obj "tuple" ∧ Q obj s1) F.called_tuple (F.typeCall_tuple_1 _) F.entry_object_init ?_ fun obj s1 h1 => ?_
  · apply codeAny_of_tree
    show wpAny _ A.in1.in1 (do checkBuiltinCall "tuple.__new__" ⟨[.type "tuple", .ref r], []⟩; again (.builtin "tuple.__new__" ⟨[.type "tuple", .ref r], []⟩)) _ _ s
    refine wpAny_bind (wpAny_of_eq (F.newCall_tuple_1 _) (wpAny_pure ⟨plainId_quiet F.plain_tuple_new _, codeAny_builtin F.entry_tuple_new ?_⟩))
    rw [Around.under_plainId F.plain_tuple_new _]
    have f1 := sub_tuple_self
    have f2 := init_tuple_lookup
    have f3 := madeHere_tuple
    have ty := K.type s hok
    have h1 : A.in1.in1.handled = none := hh
    wp_walk using wpAny_typeOf ty, collect_src (A := A.in1.in1) K h1 hok hn
    intro h' tk acc hk hacc
    show wpAny _ _ (Builtin.Tuple.tupleExact acc.toList.toArray >>= fun v => ret v) _ _ _
    have ea : acc.toList.toArray = acc := by simp
    unfold Builtin.Tuple.tupleExact
    rw [ea]
    refine wpAny_bind (wpAny_newObj_type ?_ (by show acc.size ≤ sizeLine; rw [hacc.1]; exact hn))
    exact wpAny_pure ⟨⟨_, Heap.get?_push_size _ rfl, rfl⟩, hQ h' tk acc hk hacc⟩
  · exact ⟨h1.1, F.args_object_init_2 obj _, object_init_meets F.called_tuple.init.lookup F.called_tuple.made (by decide) prog w A.in1 _ s1 ⟨h1.1, rfl, h1.2⟩⟩
end
/-- tuple(d): a new tuple of its keys -/
def rTupD : List V → Hp → VK → Prop := fun xs H Q => ∃ p kvs, xs = [.ref p] ∧ Rd H p (.dK kvs) ∧ ∀ q, H q = none → Q (.ref q) (upd H q (.tup (kvs.map fun kv => kV kv.1)))
theorem call_tupD {X : Cx} (hc : X.calm = true) : CallR X (.type "tuple") rTupD := by
  intro pins s σ H xs us Q I r h
  obtain ⟨p, kvs, e, hk, q⟩ := h
  subst e
  obtain ⟨u, eu, rx⟩ := vals1 r
  subst eu
  obtain rfl : u = Value.ref p := rx
  obtain ⟨z, lo, vs, rk, hd⟩ := dk_rd I.hok hk
  obtain ⟨ep, hat⟩ := hd.dictAt
  have hl : kvs.length = vs.length := Paired.length rk
  refine call_tuple_src (PySem.W.kdl_dict (knd := mixKind X.prog X.w) (kvs := vs) (ep := ep) lo) (I.ok.hd hc) hat (by rw [← hl]; exact z) fun h' tk acc keep hacc => ?_
  have I1 : Inv X pins σ H { s with heap := h', toks := tk } := I.kept keep
  refine ⟨.ref h'.objs.size, upd H h'.objs.size (.tup (kvs.map fun kv => kV kv.1)), I1.laid (t' := tk) (fun b u e => Heap.get?_push_of_some _ e) (Nat.le_refl _) (show ObjOk X.prog X.w _ _ _ (.tup (kvs.map fun kv => kV kv.1)) from ⟨?_, acc.toList, ?_, ?_⟩), rfl, q _ (I1.hok.fresh (Nat.le_refl _))⟩
  · rw [List.length_map]; exact z
  · have el : acc.toList.length = acc.size := by simp
    refine vals_of_at (by rw [List.length_map, el, hacc.1, hl]) fun j x w h1 h2 => ?_
    obtain ⟨k, y, hky, hi⟩ := hacc.2 j w (by rw [← Array.getElem?_toList]; exact h2)
    have e1 : (kvs.map (·.1))[j]? = some k := by
      rw [KV.keys rk, List.getElem?_map, hky]
      rfl
    have e3 : (kvs.map fun kv => kV kv.1) = (kvs.map (·.1)).map kV := by rw [List.map_map]; rfl
    rw [e3, List.getElem?_map, e1] at h1
    cases h1
    exact keyIs_rel hi
  · refine ⟨_, Heap.get?_push_size _ rfl, rfl, 0, ?_⟩
    simp
/-! xs == [] -/
def rEqNil (K : PySem.W.Frag) : R2 := fun x y H Q => ∃ a b xs, x = .ref a ∧ y = .ref b ∧ SqL K H a xs ∧ SqL K H b [] ∧ Q (.bl xs.isEmpty) H
theorem op_eqNil {X : Cx} (hu : X.A.units < cLine) : OpR X (compareOp .Eq) (rEqNil X.K) := by
  intro pins s σ H x y v u Q I rx ry h
  obtain ⟨a, b, xs, e1, e2, ha, hb, q⟩ := h
  subst e1 e2
  obtain rfl : v = Value.ref a := rx
  obtain rfl : u = Value.ref b := ry
  obtain ⟨its, ra, pa, _⟩ := I.list ha
  obtain ⟨jts, rb, pb, _⟩ := I.list hb
  cases rb
  cases xs with
  | nil =>
    cases ra
    exact PySem.SeqAt.eq_listAt (e := fun _ => true) pa.isList pb.isList rfl hu (fun j h1 _ => by simp at h1) ⟨.bl true, H, I, rfl, q⟩
  | cons x xs =>
    cases ra with
    | cons r t => exact PySem.SeqAt.eq_list_lengthsAt pa.isList pb.isList (by simp) hu ⟨.bl false, H, I, rfl, q⟩
/-! xs[i] op= e -/
def gIxL (K : PySem.W.Frag) : V → V → Hp → VK → Prop := fun o i H Q => ∃ p xs k v, o = .ref p ∧ i = .int k ∧ SqL K H p xs ∧ 0 ≤ k ∧ xs[k.toNat]? = some v ∧ Q v H
theorem get_list {X : Cx} : PGet X (gIxL X.K) := by
  intro pins s σ H o i ov iv Q I ro ri h
  obtain ⟨p, xs, k, v, rfl, rfl, hq, h0, he, q⟩ := h
  obtain rfl : ov = Value.ref p := ro
  obtain ⟨t, rfl⟩ := ri
  obtain ⟨its, r, pl, hz⟩ := I.list hq
  obtain ⟨u, eu, ru⟩ := r.get he
  have hl := r.length
  have hlt := (List.getElem?_eq_some_iff.mp he).1
  have hn := line63
  exact wpAny_getItem_list pl.isList h0 (by omega) (by simpa using eu) ⟨v, H, I, ru, q⟩
end K18
set_option Elab.async false
set_option linter.all false
set_option maxRecDepth 100000
set_option maxHeartbeats 4000000
namespace K18
open PySem PySem.Spec PyProof.Rows L2
/-! a machine in the heap -/
structure FA where
  l : Addr
  d : Addr
  ov : OV → V
structure OA where
  t : Addr
  d : Addr
  nv : V
structure MA where
  dx : Addr
  st : Addr
  ob : Addr
  wr : Addr
  rv : V
  fs : List FA
  os : List OA
def varKvs (num : NV → Int) (ov : OV → V) : List (Key × V) := [(Sum.inr "a", .int (num .a)), (Sum.inr "o", ov .o), (Sum.inr "b", .int (num .b)), (Sum.inr "c", .int (num .c)), (Sum.inr "p", ov .p)]
def mFs (src st ob : Addr) (born : Nat) (wr : Addr) (rv : V) (cnt : Nat) : List (Str × V) :=
  [("source", .ref src), ("stack", .ref st), ("objects", .ref ob), ("born", .int (born : Int)), ("written", .ref wr), ("result", rv), ("row_count", .int (cnt : Int))]
def ResAt (H : Hp) (v : V) : Option Int → Prop
  | none => v = .non
  | some i => ∃ t, v = .ref t ∧ H t = some (.tup [.str "done", .int i])
def LgAt (H : Hp) (v : V) : Lg → Prop
  | .num i => ∃ t, v = .ref t ∧ H t = some (.tup [.str "number", .int i])
  | .obj => ∃ t, v = .ref t ∧ H t = some (.tup [.str "object", .str "cell"])
  | .nil => ∃ t, v = .ref t ∧ H t = some (.tup [.str "nil"])
structure FrAt (H : Hp) (a : FA) (f : Fr) : Prop where
  l : H a.l = some (.lst [.str (fnS f.fn), .int (f.at_ : Int), .ref a.d])
  d : H a.d = some (.dK (varKvs f.num a.ov))
  o : ∀ s, RepO H (a.ov s) (f.obj s)
structure ObAt (H : Hp) (a : OA) (o : Ob) : Prop where
  t : H a.t = some (.tup [.str "cell", .ref a.d])
  d : H a.d = some (.dK [(Sum.inr "item", .int o.item), (Sum.inr "next", a.nv)])
  n : RepO H a.nv o.next
def objK : Nat → List OA → List (Key × V)
  | _, [] => []
  | n, a :: r => (Sum.inl (n : Int), .ref a.t) :: objK (n + 1) r
structure MachAt (K : PySem.W.Frag) (H : Hp) (p src : Addr) (A : MA) (m : Mch) : Prop where
  ins : H p = some (.ins (He.ga K "Machine") A.dx (mFs src A.st A.ob m.born A.wr A.rv m.cnt))
  res : ResAt H A.rv m.res
  st : H A.st = some (.lst (A.fs.reverse.map fun a => V.ref a.l))
  fs : Paired (FrAt H) A.fs m.stack
  ob : H A.ob = some (.dK (objK 0 A.os))
  os : Paired (ObAt H) A.os m.obs
  wr : ∃ ws, H A.wr = some (.lst ws) ∧ Paired (LgAt H) ws m.log
  ndL : (A.st :: A.wr :: A.fs.map (·.l)).Nodup
  ndD : (A.ob :: (A.fs.map (·.d) ++ A.os.map (·.d))).Nodup
/-- what a machine may write -/
def MA.fp (p : Addr) (A : MA) : List Addr := p :: A.st :: A.wr :: A.ob :: (A.fs.map (·.l) ++ A.fs.map (·.d) ++ A.os.map (·.d))
/-- tuples stay -/
def Tk (H H' : Hp) : Prop := ∀ a xs, H a = some (.tup xs) → H' a = some (.tup xs)
theorem RepO.tk {H H' : Hp} {v : V} {o : Option Nat} (e : Tk H H') (h : RepO H v o) : RepO H' v o := by
  cases o with
  | none => exact h
  | some n =>
    obtain ⟨t, h1, h2⟩ := h
    exact ⟨t, h1, e _ _ h2⟩
theorem ResAt.tk {H H' : Hp} {v : V} {o : Option Int} (e : Tk H H') (h : ResAt H v o) : ResAt H' v o := by
  cases o with
  | none => exact h
  | some n =>
    obtain ⟨t, h1, h2⟩ := h
    exact ⟨t, h1, e _ _ h2⟩
theorem LgAt.tk {H H' : Hp} {v : V} {o : Lg} (e : Tk H H') (h : LgAt H v o) : LgAt H' v o := by
  cases o with
  | nil =>
    obtain ⟨t, h1, h2⟩ := h
    exact ⟨t, h1, e _ _ h2⟩
  | num i =>
    obtain ⟨t, h1, h2⟩ := h
    exact ⟨t, h1, e _ _ h2⟩
  | obj =>
    obtain ⟨t, h1, h2⟩ := h
    exact ⟨t, h1, e _ _ h2⟩
theorem lgs_tk {H H' : Hp} {ws : List V} {l : List Lg} (e : Tk H H') (h : Paired (LgAt H) ws l) : Paired (LgAt H') ws l := Paired.mapP h fun _ _ q => q.tk e
theorem Paired.mapM {α β : Type} {F G : α → β → Prop} : ∀ {l : List α} {k : List β}, Paired F l k → (∀ a b, a ∈ l → F a b → G a b) → Paired G l k
  | _, _, .nil, _ => .nil
  | _, _, .cons r t, f => .cons (f _ _ List.mem_cons_self r) (Paired.mapM t fun a b m => f a b (List.mem_cons_of_mem _ m))
theorem Paired.mem {α β : Type} {F : α → β → Prop} : ∀ {l : List α} {k : List β}, Paired F l k → ∀ a ∈ l, ∃ b ∈ k, F a b
  | _, _, .nil, a, m => by cases m
  | _, _, .cons r t, a, m => by
    rcases List.mem_cons.mp m with e | m
    · rw [e]; exact ⟨_, List.mem_cons_self, r⟩
    · obtain ⟨b, hb, q⟩ := Paired.mem t a m
      exact ⟨b, List.mem_cons_of_mem _ hb, q⟩
theorem Paired.len {α β : Type} {F : α → β → Prop} : ∀ {l : List α} {k : List β}, Paired F l k → l.length = k.length
  | _, _, .nil => rfl
  | _, _, .cons _ t => congrArg Nat.succ (Paired.len t)
/-- a place that holds no tuple -/
def NoT (H : Hp) (x : Addr) : Prop := ∀ xs, H x ≠ some (.tup xs)
theorem tk_upd {H : Hp} {x : Addr} {o : HO} (h : NoT H x) : Tk H (upd H x o) := fun a xs e => by
  have : a ≠ x := fun q => h xs (by rw [← q]; exact e)
  rw [upd_ne this]
  exact e
theorem Tk.trans {H H1 H2 : Hp} (a : Tk H H1) (b : Tk H1 H2) : Tk H H2 := fun x xs e => b x xs (a x xs e)
theorem Tk.of {H H1 : Hp} (a : Same H H1) : Tk H H1 := fun x xs e => a x _ e
theorem FrAt.keep {H H' : Hp} {a : FA} {f : Fr} (h : FrAt H a f) (tk : Tk H H') (hl : H' a.l = H a.l) (hd : H' a.d = H a.d) : FrAt H' a f := ⟨hl.trans h.l, hd.trans h.d, fun s => (h.o s).tk tk⟩
theorem ObAt.keep {H H' : Hp} {a : OA} {f : Ob} (h : ObAt H a f) (tk : Tk H H') (hd : H' a.d = H a.d) : ObAt H' a f := ⟨tk _ _ h.t, hd.trans h.d, h.n.tk tk⟩
section
variable {K : PySem.W.Frag} {H H' : Hp} {p src : Addr} {A : MA} {m : Mch}
theorem mem_fp {x : Addr} : x ∈ A.fp p ↔ x = p ∨ x = A.st ∨ x = A.wr ∨ x = A.ob ∨ (∃ a ∈ A.fs, a.l = x) ∨ (∃ a ∈ A.fs, a.d = x) ∨ ∃ a ∈ A.os, a.d = x := by
  unfold MA.fp
  simp only [List.mem_cons, List.mem_append, List.mem_map, or_assoc]
/-- what its places hold -/
theorem MachAt.there (M : MachAt K H p src A m) {x : Addr} (hx : x ∈ A.fp p) : (∃ C dx fs, H x = some (.ins C dx fs)) ∨ (∃ xs, H x = some (.lst xs)) ∨ ∃ kvs, H x = some (.dK kvs) := by
  rcases mem_fp.mp hx with e | e | e | e | ⟨a, ha, e⟩ | ⟨a, ha, e⟩ | ⟨a, ha, e⟩
  · exact .inl ⟨_, _, _, by rw [e]; exact M.ins⟩
  · exact .inr (.inl ⟨_, by rw [e]; exact M.st⟩)
  · obtain ⟨ws, h, _⟩ := M.wr
    exact .inr (.inl ⟨_, by rw [e]; exact h⟩)
  · exact .inr (.inr ⟨_, by rw [e]; exact M.ob⟩)
  · obtain ⟨f, _, q⟩ := Paired.mem M.fs a ha
    exact .inr (.inl ⟨_, by rw [← e]; exact q.l⟩)
  · obtain ⟨f, _, q⟩ := Paired.mem M.fs a ha
    exact .inr (.inr ⟨_, by rw [← e]; exact q.d⟩)
  · obtain ⟨f, _, q⟩ := Paired.mem M.os a ha
    exact .inr (.inr ⟨_, by rw [← e]; exact q.d⟩)
theorem MachAt.noT (M : MachAt K H p src A m) {x : Addr} (hx : x ∈ A.fp p) : NoT H x := fun xs e => by
  rcases M.there hx with ⟨_, _, _, q⟩ | ⟨_, q⟩ | ⟨_, q⟩ <;> (rw [e] at q; cases q)
theorem MachAt.ne0 (M : MachAt K H p src A m) {x : Addr} (hx : x ∈ A.fp p) : H x ≠ none := fun e => by
  rcases M.there hx with ⟨_, _, _, q⟩ | ⟨_, q⟩ | ⟨_, q⟩ <;> (rw [e] at q; cases q)
/-- it stands wherever its places and the tuples stand -/
theorem MachAt.frame (M : MachAt K H p src A m) (tk : Tk H H') (k : ∀ x ∈ A.fp p, H' x = H x) : MachAt K H' p src A m := by
  have k1 : ∀ x, (x = p ∨ x = A.st ∨ x = A.wr ∨ x = A.ob ∨ (∃ a ∈ A.fs, a.l = x) ∨ (∃ a ∈ A.fs, a.d = x) ∨ ∃ a ∈ A.os, a.d = x) → H' x = H x := fun x hx => k x (mem_fp.mpr hx)
  obtain ⟨ws, w1, w2⟩ := M.wr
  refine ⟨(k1 _ (by simp)).trans M.ins, M.res.tk tk, (k1 _ (by simp)).trans M.st, Paired.mapM M.fs fun a f ha q => q.keep tk (k1 _ ?_) (k1 _ ?_), (k1 _ (by simp)).trans M.ob, Paired.mapM M.os fun a f ha q => q.keep tk (k1 _ ?_), ⟨ws, (k1 _ (by simp)).trans w1, lgs_tk tk w2⟩, M.ndL, M.ndD⟩
  · exact .inr (.inr (.inr (.inr (.inl ⟨a, ha, rfl⟩))))
  · exact .inr (.inr (.inr (.inr (.inr (.inl ⟨a, ha, rfl⟩)))))
  · exact .inr (.inr (.inr (.inr (.inr (.inr ⟨a, ha, rfl⟩)))))
theorem MachAt.same (M : MachAt K H p src A m) (e : Same H H') : MachAt K H' p src A m := M.frame (Tk.of e) fun x hx => by
  cases q : H x with
  | none => exact absurd q (M.ne0 hx)
  | some o => exact e x o q
end
/-- from H to H' only what stands at S, and what is new, is touched; S' are the places behind it -/
structure Mv (H H' : Hp) (S S' : List Addr) : Prop where
  keep : ∀ a o, H a = some o → a ∉ S → H' a = some o
  new : ∀ a ∈ S', a ∈ S ∨ H a = none
  tk : Tk H H'
theorem Mv.refl (H : Hp) (S : List Addr) : Mv H H S S := ⟨fun _ _ e _ => e, fun _ h => .inl h, fun _ _ e => e⟩
theorem Mv.of {H H' : Hp} (e : Same H H') (S : List Addr) : Mv H H' S S := ⟨fun a o h _ => e a o h, fun _ h => .inl h, Tk.of e⟩
theorem Mv.trans {H H1 H2 : Hp} {S S1 S2 : List Addr} (a : Mv H H1 S S1) (b : Mv H1 H2 S1 S2) : Mv H H2 S S2 := by
  refine ⟨fun x o e hx => b.keep x o (a.keep x o e hx) fun h => ?_, fun x hx => ?_, a.tk.trans b.tk⟩
  · rcases a.new x h with q | q
    · exact hx q
    · rw [e] at q; cases q
  · rcases b.new x hx with h | h
    · exact a.new x h
    · by_cases q : x ∈ S
      · exact .inl q
      · cases e : H x with
        | none => exact .inr rfl
        | some o => rw [a.keep x o e q] at h; cases h
/-- a place of S is written -/
theorem mv_upd {H : Hp} {S : List Addr} {x : Addr} {o : HO} (hx : x ∈ S) (n : NoT H x) : Mv H (upd H x o) S S :=
  ⟨fun a u e ha => by rw [upd_ne (fun q => ha (by rw [q]; exact hx))]; exact e, fun _ h => .inl h, tk_upd n⟩
theorem Mv.sub {H H' : Hp} {S S1 S2 : List Addr} (a : Mv H H' S S1) (h : ∀ x ∈ S2, x ∈ S1) : Mv H H' S S2 := ⟨a.keep, fun x hx => a.new x (h x hx), a.tk⟩
theorem Mv.same {H0 H H' : Hp} {S S1 : List Addr} (a : Mv H H' S S1) (e : Same H0 H) (d : ∀ x ∈ S, H0 x = none) : Same H0 H' := fun x o q => a.keep x o (e x o q) fun h => by
  rw [d x h] at q
  cases q
theorem Mv.above {H0 H H' : Hp} {S S1 : List Addr} (a : Mv H H' S S1) (e : Same H0 H) (d : ∀ x ∈ S, H0 x = none) : ∀ x ∈ S1, H0 x = none := fun x hx => by
  rcases a.new x hx with h | h
  · exact d x h
  · exact e.free h
end K18
set_option Elab.async false
set_option linter.all false
set_option maxRecDepth 100000
set_option maxHeartbeats 4000000
namespace K18
open PySem PySem.Spec PyProof.Rows L2
/-! a machine written, place by place -/
section
variable {K : PySem.W.Frag} {H H' : Hp} {p src : Addr} {A : MA} {m : Mch}
theorem frs_upd {x : Addr} {o : HO} {fs : List FA} {st : List Fr} (h : Paired (FrAt H) fs st) (n : NoT H x) (hl : ∀ a ∈ fs, a.l ≠ x) (hd : ∀ a ∈ fs, a.d ≠ x) : Paired (FrAt (upd H x o)) fs st :=
  Paired.mapM h fun a f ha q => q.keep (tk_upd n) (upd_ne (hl a ha)) (upd_ne (hd a ha))
theorem obs_upd {x : Addr} {o : HO} {os : List OA} {st : List Ob} (h : Paired (ObAt H) os st) (n : NoT H x) (hd : ∀ a ∈ os, a.d ≠ x) : Paired (ObAt (upd H x o)) os st :=
  Paired.mapM h fun a f ha q => q.keep (tk_upd n) (upd_ne (hd a ha))
theorem lst_ne {x y : Addr} {xs : List V} {kvs : List (Key × V)} (h : H x = some (.lst xs)) (h' : H y = some (.dK kvs)) : x ≠ y := ne_of h h' (by intro z; cases z)
/-- kinds of the places -/
theorem MachAt.kl (M : MachAt K H p src A m) : ∀ a ∈ A.fs, ∃ xs, H a.l = some (.lst xs) := fun a ha => by
  obtain ⟨f, _, q⟩ := Paired.mem M.fs a ha
  exact ⟨_, q.l⟩
theorem MachAt.kd (M : MachAt K H p src A m) : ∀ a ∈ A.fs, ∃ xs, H a.d = some (.dK xs) := fun a ha => by
  obtain ⟨f, _, q⟩ := Paired.mem M.fs a ha
  exact ⟨_, q.d⟩
theorem MachAt.ko (M : MachAt K H p src A m) : ∀ a ∈ A.os, ∃ xs, H a.d = some (.dK xs) := fun a ha => by
  obtain ⟨f, _, q⟩ := Paired.mem M.os a ha
  exact ⟨_, q.d⟩
/-- the innermost frame's place in the text -/
theorem MachAt.setAt (M : MachAt K H p src A m) {f : FA} {r : List FA} {t : Fr} {rest : List Fr} (hA : A.fs = f :: r) (hm : m.stack = t :: rest) (k : Nat) :
    MachAt K (upd H f.l (.lst [.str (fnS t.fn), .int (k : Int), .ref f.d])) p src A (m.top (t.go k) rest) := by
  have fs := M.fs
  rw [hA, hm] at fs
  obtain ⟨ws, w1, w2⟩ := M.wr
  have ndL := M.ndL
  rw [hA] at ndL
  simp only [List.map_cons, List.nodup_cons, List.mem_cons, List.mem_map, not_or, not_exists, not_and] at ndL
  obtain ⟨⟨n1, n2, n3⟩, ⟨n4, n5⟩, n6, n7⟩ := ndL
  cases fs with
  | cons q qs =>
    have nt : NoT H f.l := fun xs e => by rw [q.l] at e; cases e
    refine ⟨?_, M.res.tk (tk_upd nt), ?_, ?_, ?_, obs_upd M.os nt fun a ha => ?_, ⟨ws, ?_, lgs_tk (tk_upd nt) w2⟩, M.ndL, M.ndD⟩
    · rw [upd_ne (ne_of M.ins q.l (by intro z; cases z))]; exact M.ins
    · rw [upd_ne (fun z => n2 z)]; exact M.st
    · rw [hA]
      refine .cons ⟨upd_same, ?_, fun s => (q.o s).tk (tk_upd nt)⟩ (frs_upd qs nt (fun a ha => n6 a ha) fun a ha => ?_)
      · rw [upd_ne (Ne.symm (lst_ne q.l q.d))]; exact q.d
      · obtain ⟨kvs, e⟩ := M.kd a (by rw [hA]; exact List.mem_cons_of_mem _ ha)
        exact Ne.symm (lst_ne q.l e)
    · rw [upd_ne (Ne.symm (lst_ne q.l M.ob))]; exact M.ob
    · obtain ⟨kvs, e⟩ := M.ko a ha
      exact Ne.symm (lst_ne q.l e)
    · rw [upd_ne (fun z => n4 z)]; exact w1
/-- the innermost frame's variables -/
theorem MachAt.setVs (M : MachAt K H p src A m) {f : FA} {r : List FA} {t : Fr} {rest : List Fr} (hA : A.fs = f :: r) (hm : m.stack = t :: rest) (num : NV → Int) (obj : OV → Option Nat) (ov : OV → V) (ho : ∀ s, RepO H (ov s) (obj s)) :
    MachAt K (upd H f.d (.dK (varKvs num ov))) p src { A with fs := { f with ov := ov } :: r } (m.top { t with num := num, obj := obj } rest) := by
  have fs := M.fs
  rw [hA, hm] at fs
  obtain ⟨ws, w1, w2⟩ := M.wr
  have ndD := M.ndD
  rw [hA] at ndD
  simp only [List.map_cons, List.cons_append, List.nodup_cons, List.mem_cons, List.mem_append, List.mem_map, not_or, not_exists, not_and] at ndD
  obtain ⟨⟨n1, n2, n3⟩, ⟨n4, n5⟩, n6⟩ := ndD
  cases fs with
  | cons q qs =>
    have nt : NoT H f.d := fun xs e => by rw [q.d] at e; cases e
    refine ⟨?_, M.res.tk (tk_upd nt), ?_, ?_, ?_, obs_upd M.os nt fun a ha => n5 a ha, ⟨ws, ?_, lgs_tk (tk_upd nt) w2⟩, ?_, ?_⟩
    · rw [upd_ne (ne_of M.ins q.d (by intro z; cases z))]; exact M.ins
    · rw [upd_ne (lst_ne M.st q.d), M.st, hA]; simp only [List.reverse_cons, List.map_append, List.map_cons, List.map_nil]
    · refine .cons ⟨?_, upd_same, fun s => (ho s).tk (tk_upd nt)⟩ (frs_upd qs nt (fun a ha => ?_) fun a ha => n4 a ha)
      · rw [upd_ne (lst_ne q.l q.d)]; exact q.l
      · obtain ⟨xs, e⟩ := M.kl a (by rw [hA]; exact List.mem_cons_of_mem _ ha)
        exact lst_ne e q.d
    · rw [upd_ne (fun z => n1 z)]; exact M.ob
    · rw [upd_ne (lst_ne w1 q.d)]; exact w1
    · have := M.ndL; rw [hA] at this; exact this
    · have := M.ndD; rw [hA] at this; exact this
/-- a frame is laid on -/
theorem MachAt.push (M : MachAt K H p src A m) {f : FA} {t : Fr} (hf : FrAt H f t) (hl : f.l ∉ A.fp p) (hd : f.d ∉ A.fp p) :
    MachAt K (upd H A.st (.lst ((A.fs.reverse.map fun a => V.ref a.l) ++ [.ref f.l]))) p src { A with fs := f :: A.fs } (m.top t m.stack) := by
  obtain ⟨ws, w1, w2⟩ := M.wr
  have nt : NoT H A.st := fun xs e => by rw [M.st] at e; cases e
  have ndL := M.ndL
  simp only [List.nodup_cons, List.mem_cons, List.mem_map, not_or, not_exists, not_and] at ndL
  obtain ⟨⟨n1, n2⟩, n3, n4⟩ := ndL
  rw [mem_fp] at hl hd
  simp only [not_or, not_exists, not_and] at hl hd
  refine ⟨?_, M.res.tk (tk_upd nt), ?_, .cons (hf.keep (tk_upd nt) (upd_ne hl.2.1) (upd_ne hd.2.1)) (frs_upd M.fs nt (fun a ha => n2 a ha) fun a ha => ?_), ?_, obs_upd M.os nt fun a ha => ?_, ⟨ws, ?_, lgs_tk (tk_upd nt) w2⟩, ?_, ?_⟩
  · rw [upd_ne (ne_of M.ins M.st (by intro z; cases z))]; exact M.ins
  · rw [upd_same]; simp only [List.reverse_cons, List.map_append, List.map_cons, List.map_nil]
  · obtain ⟨kvs, e⟩ := M.kd a ha
    exact Ne.symm (lst_ne M.st e)
  · rw [upd_ne (Ne.symm (lst_ne M.st M.ob))]; exact M.ob
  · obtain ⟨kvs, e⟩ := M.ko a ha
    exact Ne.symm (lst_ne M.st e)
  · rw [upd_ne (fun z => n1 z.symm)]; exact w1
  · simp only [List.map_cons, List.nodup_cons, List.mem_cons, List.mem_map, not_or, not_exists, not_and]
    exact ⟨⟨n1, fun z => hl.2.1 z.symm, n2⟩, ⟨fun z => hl.2.2.1 z.symm, n3⟩, fun a ha => hl.2.2.2.2.1 a ha, n4⟩
  · have ndD := M.ndD
    simp only [List.nodup_cons, List.mem_append, List.mem_map, not_or, not_exists, not_and] at ndD
    simp only [List.map_cons, List.cons_append, List.nodup_cons, List.mem_cons, List.mem_append, List.mem_map, not_or, not_exists, not_and]
    exact ⟨⟨fun z => hd.2.2.2.1 z.symm, ndD.1.1, ndD.1.2⟩, ⟨fun a ha => hd.2.2.2.2.2.1 a ha, fun a ha => hd.2.2.2.2.2.2 a ha⟩, ndD.2⟩
/-- the innermost frame is taken off -/
theorem MachAt.pop (M : MachAt K H p src A m) {f : FA} {r : List FA} {t : Fr} {rest : List Fr} (hA : A.fs = f :: r) (hm : m.stack = t :: rest) :
    MachAt K (upd H A.st (.lst (r.reverse.map fun a => V.ref a.l))) p src { A with fs := r } { m with stack := rest } := by
  have fs := M.fs
  rw [hA, hm] at fs
  obtain ⟨ws, w1, w2⟩ := M.wr
  have nt : NoT H A.st := fun xs e => by rw [M.st] at e; cases e
  have ndL := M.ndL
  rw [hA] at ndL
  simp only [List.map_cons, List.nodup_cons, List.mem_cons, List.mem_map, not_or, not_exists, not_and] at ndL
  obtain ⟨⟨n1, n2, n3⟩, ⟨n4, n5⟩, n6, n7⟩ := ndL
  have ndD := M.ndD
  rw [hA] at ndD
  simp only [List.map_cons, List.cons_append, List.nodup_cons, List.mem_cons, List.mem_append, List.mem_map, not_or, not_exists, not_and] at ndD
  cases fs with
  | cons q qs =>
    refine ⟨?_, M.res.tk (tk_upd nt), upd_same, frs_upd qs nt (fun a ha => n3 a ha) fun a ha => ?_, ?_, obs_upd M.os nt fun a ha => ?_, ⟨ws, ?_, lgs_tk (tk_upd nt) w2⟩, ?_, ?_⟩
    · rw [upd_ne (ne_of M.ins M.st (by intro z; cases z))]; exact M.ins
    · obtain ⟨kvs, e⟩ := M.kd a (by rw [hA]; exact List.mem_cons_of_mem _ ha)
      exact Ne.symm (lst_ne M.st e)
    · rw [upd_ne (Ne.symm (lst_ne M.st M.ob))]; exact M.ob
    · obtain ⟨kvs, e⟩ := M.ko a ha
      exact Ne.symm (lst_ne M.st e)
    · rw [upd_ne (fun z => n1 z.symm)]; exact w1
    · simp only [List.nodup_cons, List.mem_cons, List.mem_map, not_or, not_exists, not_and]
      exact ⟨⟨n1, n3⟩, n5, n7⟩
    · simp only [List.nodup_cons, List.mem_append, List.mem_map, not_or, not_exists, not_and]
      exact ⟨⟨ndD.1.2.1, ndD.1.2.2⟩, ndD.2.2⟩
/-- an entry of the log -/
theorem MachAt.addLog (M : MachAt K H p src A m) {ws : List V} {v : V} {e : Lg} (hw : H A.wr = some (.lst ws)) (hv : LgAt H v e) : MachAt K (upd H A.wr (.lst (ws ++ [v]))) p src A (m.see e) := by
  obtain ⟨ws', w1, w2⟩ := M.wr
  rw [hw] at w1
  cases w1
  have nt : NoT H A.wr := fun xs e => by rw [hw] at e; cases e
  have ndL := M.ndL
  simp only [List.nodup_cons, List.mem_cons, List.mem_map, not_or, not_exists, not_and] at ndL
  obtain ⟨⟨n1, n2⟩, n3, n4⟩ := ndL
  refine ⟨?_, M.res.tk (tk_upd nt), ?_, frs_upd M.fs nt (fun a ha => n3 a ha) fun a ha => ?_, ?_, obs_upd M.os nt fun a ha => ?_, ⟨_, upd_same, Paired.snoc (lgs_tk (tk_upd nt) w2) (hv.tk (tk_upd nt))⟩, M.ndL, M.ndD⟩
  · rw [upd_ne (ne_of M.ins hw (by intro z; cases z))]; exact M.ins
  · rw [upd_ne (fun z => n1 z)]; exact M.st
  · obtain ⟨kvs, e⟩ := M.kd a ha
    exact Ne.symm (lst_ne hw e)
  · rw [upd_ne (Ne.symm (lst_ne hw M.ob))]; exact M.ob
  · obtain ⟨kvs, e⟩ := M.ko a ha
    exact Ne.symm (lst_ne hw e)
theorem objK_snoc (a : OA) : ∀ (os : List OA) (n : Nat), objK n (os ++ [a]) = objK n os ++ [(Sum.inl ((n + os.length : Nat) : Int), .ref a.t)]
  | [], n => rfl
  | b :: r, n => by
    show (Sum.inl (n : Int), V.ref b.t) :: objK (n + 1) (r ++ [a]) = _
    rw [objK_snoc a r (n + 1)]
    show _ = (Sum.inl (n : Int), V.ref b.t) :: (objK (n + 1) r ++ _)
    rw [List.length_cons]
    have : n + 1 + r.length = n + (r.length + 1) := by omega
    rw [this]
theorem objK_len : ∀ (os : List OA) (n : Nat), (objK n os).length = os.length
  | [], _ => rfl
  | _ :: r, n => congrArg Nat.succ (objK_len r (n + 1))
theorem objK_out : ∀ (os : List OA) (n : Nat) (k : Int), (k < n ∨ (n + os.length : Nat) ≤ k) → valV (objK n os) (Sum.inl k : Key) = none
  | [], _, _, _ => rfl
  | b :: r, n, k, h => by
    rw [List.length_cons] at h
    have e : ¬ ((Sum.inl (n : Int) : Key) = Sum.inl k) := by
      intro q
      have q : (n : Int) = k := Sum.inl.inj q
      omega
    show valV ((Sum.inl (n : Int), V.ref b.t) :: objK (n + 1) r) _ = none
    rw [valV_neg e]
    exact objK_out r (n + 1) k (by omega)
theorem objK_at : ∀ (os : List OA) (n i : Nat) (a : OA), os[i]? = some a → valV (objK n os) (Sum.inl ((n + i : Nat) : Int) : Key) = some (.ref a.t)
  | [], _, _, _, h => by simp at h
  | b :: r, n, 0, a, h => by
    have e : b = a := Option.some.inj h
    subst e
    exact valV_pos (p := ((Sum.inl (n : Int) : Key), V.ref b.t)) rfl
  | b :: r, n, i + 1, a, h => by
    have e : ¬ ((Sum.inl (n : Int) : Key) = Sum.inl ((n + (i + 1) : Nat) : Int)) := by
      intro q
      have q := Sum.inl.inj q
      omega
    show valV ((Sum.inl (n : Int), V.ref b.t) :: objK (n + 1) r) _ = _
    rw [valV_neg e]
    have := objK_at r (n + 1) i a (by simpa using h)
    rw [show n + 1 + i = n + (i + 1) by omega] at this
    exact this
/-- a new object -/
theorem MachAt.addOb (M : MachAt K H p src A m) {a : OA} {o : Ob} (ha : ObAt H a o) (hd : a.d ∉ A.fp p) :
    MachAt K (upd H A.ob (.dK (objK 0 (A.os ++ [a])))) p src { A with os := A.os ++ [a] } { m with obs := m.obs ++ [o] } := by
  obtain ⟨ws, w1, w2⟩ := M.wr
  have nt : NoT H A.ob := fun xs e => by rw [M.ob] at e; cases e
  have ndD := M.ndD
  simp only [List.nodup_cons, List.mem_append, List.mem_map, not_or, not_exists, not_and] at ndD
  obtain ⟨⟨n1, n2⟩, n3⟩ := ndD
  rw [mem_fp] at hd
  simp only [not_or, not_exists, not_and] at hd
  refine ⟨?_, M.res.tk (tk_upd nt), ?_, frs_upd M.fs nt (fun a ha => ?_) fun a ha => n1 a ha, upd_same, Paired.snoc (obs_upd M.os nt fun a ha => n2 a ha) (ha.keep (tk_upd nt) (upd_ne hd.2.2.2.1)), ⟨ws, ?_, lgs_tk (tk_upd nt) w2⟩, M.ndL, ?_⟩
  · rw [upd_ne (ne_of M.ins M.ob (by intro z; cases z))]; exact M.ins
  · rw [upd_ne (lst_ne M.st M.ob)]; exact M.st
  · obtain ⟨kvs, e⟩ := M.kl a ha
    exact lst_ne e M.ob
  · rw [upd_ne (lst_ne w1 M.ob)]; exact w1
  · have q : A.ob :: (A.fs.map (·.d) ++ (A.os ++ [a]).map (·.d)) = (A.ob :: (A.fs.map (·.d) ++ A.os.map (·.d))) ++ [a.d] := by simp
    rw [q]
    refine nd_snoc M.ndD fun z => ?_
    simp only [List.mem_cons, List.mem_append, List.mem_map] at z
    rcases z with z | ⟨b, hb, z⟩ | ⟨b, hb, z⟩
    · exact hd.2.2.2.1 z
    · exact hd.2.2.2.2.2.1 b hb z
    · exact hd.2.2.2.2.2.2 b hb z
theorem Paired.set {α β : Type} {F : α → β → Prop} {x : α} {y : β} (r : F x y) : ∀ {xs : List α} {ys : List β} (i : Nat), Paired F xs ys → Paired F (xs.set i x) (ys.set i y)
  | _, _, _, .nil => .nil
  | _, _, 0, .cons _ t => .cons r t
  | _, _, i + 1, .cons q t => .cons q (Paired.set r i t)
theorem objK_set {a b : OA} (e : b.t = a.t) : ∀ (os : List OA) (n i : Nat), os[i]? = some a → objK n (os.set i b) = objK n os
  | [], _, _, h => by simp at h
  | c :: r, n, 0, h => by
    have q : c = a := Option.some.inj h
    subst q
    show (Sum.inl (n : Int), V.ref b.t) :: objK (n + 1) r = (Sum.inl (n : Int), V.ref c.t) :: objK (n + 1) r
    rw [e]
  | c :: r, n, i + 1, h => by
    show (Sum.inl (n : Int), V.ref c.t) :: objK (n + 1) (r.set i b) = (Sum.inl (n : Int), V.ref c.t) :: objK (n + 1) r
    rw [objK_set e r (n + 1) i (by simpa using h)]
/-- an object's fields -/
theorem MachAt.setOb (M : MachAt K H p src A m) {a : OA} {o : Ob} {i : Nat} (hi : A.os[i]? = some a) (hq : ObAt H a o) (o' : Ob) (nv : V) (hn : RepO H nv o'.next) :
    MachAt K (upd H a.d (.dK [(Sum.inr "item", .int o'.item), (Sum.inr "next", nv)])) p src { A with os := A.os.set i { a with nv := nv } } { m with obs := m.obs.set i o' } := by
  obtain ⟨ws, w1, w2⟩ := M.wr
  have nt : NoT H a.d := fun xs e => by rw [hq.d] at e; cases e
  have ma : a ∈ A.os := List.mem_of_getElem? hi
  have ndD := M.ndD
  simp only [List.nodup_cons, List.mem_append, List.mem_map, not_or, not_exists, not_and] at ndD
  obtain ⟨⟨n1, n2⟩, n3⟩ := ndD
  rw [List.nodup_append] at n3
  obtain ⟨n4, n5, n6⟩ := n3
  have hsplit : ∀ j b, A.os[j]? = some b → j ≠ i → b.d ≠ a.d := fun j b hj hne e => by
    have e1 : (A.os.map (·.d))[j]? = some a.d := by rw [List.getElem?_map, hj, ← e]; rfl
    have e2 : (A.os.map (·.d))[i]? = some a.d := by rw [List.getElem?_map, hi]; rfl
    exact hne (nd_ix n5 e1 e2)
  refine ⟨?_, M.res.tk (tk_upd nt), ?_, frs_upd M.fs nt (fun b hb => ?_) fun b hb => ?_, ?_, ?_, ⟨ws, ?_, lgs_tk (tk_upd nt) w2⟩, M.ndL, ?_⟩
  · rw [upd_ne (ne_of M.ins hq.d (by intro z; cases z))]; exact M.ins
  · rw [upd_ne (lst_ne M.st hq.d)]; exact M.st
  · obtain ⟨kvs, e⟩ := M.kl b hb
    exact lst_ne e hq.d
  · exact n6 _ (List.mem_map.mpr ⟨b, hb, rfl⟩) _ (List.mem_map.mpr ⟨a, ma, rfl⟩)
  · rw [upd_ne (fun z => n2 a ma z.symm)]
    show H A.ob = some (.dK (objK 0 (A.os.set i { a with nv := nv })))
    rw [objK_set (a := a) (b := { a with nv := nv }) rfl A.os 0 i hi]; exact M.ob
  · have go : ∀ {os : List OA} {obs : List Ob} (i : Nat), Paired (ObAt H) os obs → os[i]? = some a → (∀ j b, os[j]? = some b → j ≠ i → b.d ≠ a.d) →
        Paired (ObAt (upd H a.d (.dK [(Sum.inr "item", .int o'.item), (Sum.inr "next", nv)]))) (os.set i { a with nv := nv }) (obs.set i o') := by
      intro os obs i h
      induction h generalizing i with
      | nil => intro e _; simp at e
      | @cons b q l1 l2 r t ih =>
        intro e hne
        cases i with
        | zero =>
          have e' : b = a := Option.some.inj e
          refine .cons ⟨tk_upd nt _ _ hq.t, upd_same, hn.tk (tk_upd nt)⟩ (obs_upd t nt fun c hc => ?_)
          obtain ⟨j, hj, ej⟩ := List.mem_iff_getElem.mp hc
          exact hne (j + 1) c (by rw [List.getElem?_cons_succ, List.getElem?_eq_getElem hj, ej]) (by omega)
        | succ i => exact .cons (r.keep (tk_upd nt) (upd_ne (hne 0 b rfl (by omega)))) (ih i (by simpa using e) fun j c hj hji => hne (j + 1) c (by simpa using hj) (by omega))
    exact go i M.os hi hsplit
  · rw [upd_ne (lst_ne w1 hq.d)]; exact w1
  · have e : (A.os.set i { a with nv := nv }).map (·.d) = A.os.map (·.d) := by
      rw [List.map_set]
      have e2 : (A.os.map (·.d))[i]? = some a.d := by rw [List.getElem?_map, hi]; rfl
      obtain ⟨h1, h2⟩ := List.getElem?_eq_some_iff.mp e2
      show (A.os.map (·.d)).set i a.d = A.os.map (·.d)
      rw [← h2]
      exact List.set_getElem_self h1
    show (A.ob :: (A.fs.map (·.d) ++ (A.os.set i { a with nv := nv }).map (·.d))).Nodup
    rw [e]
    exact M.ndD
/-- the machine's own fields -/
theorem MachAt.setIns (M : MachAt K H p src A m) (born cnt : Nat) (rv : V) (res : Option Int) (hr : ResAt H rv res) :
    MachAt K (upd H p (.ins (He.ga K "Machine") A.dx (mFs src A.st A.ob born A.wr rv cnt))) p src { A with rv := rv } { m with born := born, res := res, cnt := cnt } := by
  obtain ⟨ws, w1, w2⟩ := M.wr
  have nt : NoT H p := fun xs e => by rw [M.ins] at e; cases e
  refine ⟨upd_same, hr.tk (tk_upd nt), ?_, frs_upd M.fs nt (fun b hb => ?_) fun b hb => ?_, ?_, obs_upd M.os nt fun b hb => ?_, ⟨ws, ?_, lgs_tk (tk_upd nt) w2⟩, M.ndL, M.ndD⟩
  · rw [upd_ne (Ne.symm (ne_of M.ins M.st (by intro z; cases z)))]; exact M.st
  · obtain ⟨kvs, e⟩ := M.kl b hb
    exact Ne.symm (ne_of M.ins e (by intro z; cases z))
  · obtain ⟨kvs, e⟩ := M.kd b hb
    exact Ne.symm (ne_of M.ins e (by intro z; cases z))
  · rw [upd_ne (Ne.symm (ne_of M.ins M.ob (by intro z; cases z)))]; exact M.ob
  · obtain ⟨kvs, e⟩ := M.ko b hb
    exact Ne.symm (ne_of M.ins e (by intro z; cases z))
  · rw [upd_ne (Ne.symm (ne_of M.ins w1 (by intro z; cases z)))]; exact w1
end
end K18
set_option Elab.async false
set_option linter.all false
set_option maxRecDepth 100000
set_option maxHeartbeats 4000000
namespace K18
open PySem PySem.Spec PyProof.Rows L2
/-! dict comprehensions over any walk -/
section
variable {J : It} {n : Nat} {Gd : Hp → Prop} {Y : Nat → Hp → V → Hp → Prop}
theorem dc_it (w : Walk J n Gd Y) {g : TG} {tt : TT} {tk tv : TE} {vs : List Nat} {σ : L2.St} {H1 : Hp} {D : Addr} {Qd : Hp → Prop} (Iv : Nat → Hp → Prop)
    (beg : Iv 0 (upd H1 D (.dK []))) (std : ∀ j H, j ≤ n → Iv j H → Gd H)
    (trn : ∀ j x H H', j < n → Iv j H → Y j H x H' → g x (wipe σ vs) H' fun σ2 H2 => wipe σ2 vs = wipe σ vs ∧ tt σ2 H2 fun b H3 =>
      if b = true then tk σ2 H3 fun y H4 => tv σ2 H4 fun z H5 => ∃ kvs k, y = kV k ∧ H5 D = some (.dK kvs) ∧ kvs.length < sizeLine ∧ Iv (j + 1) (upd H5 D (.dK (putK kvs k z))) else Iv (j + 1) H3)
    (fin : ∀ H, Iv n H → Qd H) :
    ∃ W : Nat → Nat → Hp → Prop, (∃ m, W 0 m (upd H1 D (.dK []))) ∧ ∀ j m H, W j m H →
      (J.stop j H ∧ Qd H) ∨ (J.go j H ∧ ∃ Nx : Hp → Prop, (∀ H', Nx H' → ∃ m', m' < m ∧ W (j + 1) m' H') ∧ ∀ x H', J.yld j H x H' → g x (wipe σ vs) H' fun σ2 H2 => wipe σ2 vs = wipe σ vs ∧ tt σ2 H2 fun b H3 =>
        if b = true then tk σ2 H3 fun y H4 => tv σ2 H4 fun z H5 => ∃ kvs k, y = kV k ∧ H5 D = some (.dK kvs) ∧ kvs.length < sizeLine ∧ Nx (upd H5 D (.dK (putK kvs k z))) else Nx H3) := by
  refine ⟨fun j m H => m + j = n ∧ Iv j H, ⟨n, rfl, beg⟩, fun j m H hw => ?_⟩
  obtain ⟨e, iv⟩ := hw
  have good := std j H (by omega) iv
  rcases Nat.eq_zero_or_pos m with z | z
  · have ej : j = n := by omega
    subst ej
    exact .inl ⟨w.stops H good, fin H iv⟩
  · exact .inr ⟨w.goes j H (by omega) good, Iv (j + 1), fun H' iv' => ⟨m - 1, by omega, by omega, iv'⟩, fun x H' y => trn j x H H' (by omega) iv (w.yields j H x H' (by omega) good y)⟩
end
/-! within a block: the frame's parts by name -/
section
variable {X : Cx}
theorem pe_fldK {e : Expr} {ta : TE} {f : Str} {pos : Pos} (K : PySem.W.Frag) (hK : X.K = K) (he : PE X e ta) (hb : attributeBase e f X.env (eval e X.env) = eval e X.env) : PE X (.Attribute e f pos) (tFld K ta f) := by
  subst hK
  exact pe_fld he hb
end
/-! y = {..} on one line, y a local -/
section
variable {X : Cx}
theorem swD_true {kx vx : Expr} {gs : List Comprehension} {sc : Scope} {cp np : Pos} {y : Str} {ln : Nat} {env : Env} (fk : env.scope.kind = .function) (yl : env.scope.names.lookup y = some .local) (same : (np.line == cp.line) = true)
    (none_ : (sc.names.any fun (n, k) => n == y && (k == .local || k == .cell)) = false) : swapsWith (.DictComp kx vx gs sc cp) (some (.Name y np)) ln env = pure true := by
  have q1 : env.kindOf y = some .local := yl
  have q2 : env.blockKind = .function := by
    unfold Env.blockKind
    rw [fk]
    rfl
  simp only [swapsWith, q1, q2, none_, Expr.pos, same]
  rfl
theorem ps_setDc {j : Nat} {y : Str} {np : Pos} {kx vx tg iter : Expr} {ifs : List Expr} {sc : Scope} {own : List (Str × Nat)} {cp sp : Pos} {wi : TI} {g : TG} {tt : TT} {tk tv : TE} (calm : X.calm = true) (nd : X.N.Nodup) (slot : X.N[j]? = some y) (yl : X.env.scope.names.lookup y = some .local)
    (sw : swapsWith (.DictComp kx vx [⟨tg, iter, ifs, 0⟩] sc cp) (some (.Name y np)) sp.line X.env = pure true) (it : PI X tg iter wi) (ok : BlkOk X.N X.env.scope sc own)
    (hg : ∀ (s : Shared) (H : Hp) (C : Addr) (cl : List (Str × Addr)) (fp : List Addr), PG (X.blk s H sc (compEnvC sc cl C X.env) fp) tg g) (hi : ∀ (s : Shared) (H : Hp) (C : Addr) (cl : List (Str × Addr)) (fp : List Addr), PTs (X.blk s H sc (compEnvC sc cl C X.env) fp) ifs tt)
    (hk : ∀ (s : Shared) (H : Hp) (C : Addr) (cl : List (Str × Addr)) (fp : List Addr), PE (X.blk s H sc (compEnvC sc cl C X.env) fp) kx tk)
    (hv : ∀ (s : Shared) (H : Hp) (C : Addr) (cl : List (Str × Addr)) (fp : List Addr), PE (X.blk s H sc (compEnvC sc cl C X.env) fp) vx tv) (fo : ∀ x, foldedSetIterable iter X.env x = pure x := by intro _; rfl) :
    PS X (.Assign [.Name y np] (.DictComp kx vx [⟨tg, iter, ifs, 0⟩] sc cp) sp) (tAsg (tDc wi g tt tk tv (own.map (·.2))) (gName j)) := by
  constructor
  intro pins s σ H D I h
  rw [exec_Assign_Name_used _ _ _ _ sw]
  apply wpAny_bind
  apply wpAny_standAt
  apply wpAny_bind
  show wpAny _ X.A (do let _ ← comprehension (.DictComp kx vx [⟨tg, iter, ifs, 0⟩] sc cp) sc X.env (firstIterPos [⟨tg, iter, ifs, 0⟩] cp) newDict false (eval iter X.env) (some (assign (.Name y np) X.env))) _ _ s
  have h' : tDc wi g tt tk tv (own.map (·.2)) σ H (fun x H1 => gName j x σ H1 D.nx) := h
  apply wpAny_bind
  refine thn (dc_core (Qf := fun _ s' => SP X pins D .next s') calm nd I it ok hg hi hk hv fo h' ?_) fun _ s' hq => wpAny_pure (wpAny_pure hq)
  intro a C s' m H' I' q ns fpk
  show wpAny _ _ (assign (.Name y np) X.env (.ref a)) _ _ _
  apply wpAny_assign_Name
  refine store_ok2 (v := V.ref a) I' nd slot (.inl yl) rfl (fun s2 I2 hs => ?_) (.inr yl)
  obtain ⟨b, sb, hb⟩ := hs
  obtain ⟨f0, f1, f2, f3, f4, f5⟩ := fpk
  have ne : C ≠ b := by
    rcases hb with z | z
    · exact z ▸ f1
    · exact fun e => f4 y b z e.symm
  exact ⟨m, ns.sameBut sb ne, fun h3 sb3 => ⟨_, H', I2.turned (t' := s2.toks) (fun d o hd e => (sb3.2 d hd).trans e) f0 f1 f3 f4 f5, q⟩⟩
end
section
variable {P : Program} {w : World} {K : PySem.W.Frag} {mg : Str → Option Value} {base : Heap}
variable {H H' : Hp} {p src : Addr} {A : MA} {m : Mch} {G : Prg}
theorem MachAt.stk (M : MachAt K H p src A m) {f : FA} {r : List FA} (hA : A.fs = f :: r) : H A.st = some (.lst ((r.reverse.map fun a => V.ref a.l) ++ [.ref f.l])) := by
  rw [M.st, hA]
  simp only [List.reverse_cons, List.map_append, List.map_cons, List.map_nil]
theorem MachAt.head (M : MachAt K H p src A m) {t : Fr} {rest : List Fr} (hm : m.stack = t :: rest) : ∃ f r, A.fs = f :: r ∧ FrAt H f t ∧ Paired (FrAt H) r rest := by
  have h := M.fs
  rw [hm] at h
  cases e : A.fs with
  | nil => rw [e] at h; cases h
  | cons f r =>
    rw [e] at h
    cases h with
    | cons a b => exact ⟨f, r, rfl, a, b⟩
theorem MachAt.nil (M : MachAt K H p src A m) (hm : m.stack = []) : A.fs = [] := by
  have h := M.fs
  rw [hm] at h
  cases e : A.fs with
  | nil => rfl
  | cons f r => rw [e] at h; cases h
theorem MachAt.len (M : MachAt K H p src A m) : A.fs.length = m.stack.length := Paired.len M.fs
theorem Mv.more {S S1 S2 : List Addr} (a : Mv H H' S S1) (h : ∀ x ∈ S2, x ∈ S1 ∨ H x = none) : Mv H H' S S2 := ⟨a.keep, fun x hx => by
  rcases h x hx with q | q
  · exact a.new x q
  · exact .inr q, a.tk⟩
theorem MachAt.out (M : MachAt K H p src A m) {x : Addr} (h : H x = none) : x ∉ A.fp p := fun q => M.ne0 q h
theorem SrcAt.fns (S : SrcAt K H src G) : ∃ dx cr fk kf ff fg, H src = some (.ins (He.ga K "Source") dx [("class_rows", .ref cr), ("field_kinds", .ref fk), ("kept_functions", .ref kf)]) ∧
    Rd H kf (.dK [(Sum.inr "f", .ref ff), (Sum.inr "g", .ref fg)]) ∧ FunAt K H ff true (G true) ∧ FunAt K H fg false (G false) := by
  obtain ⟨dx, cr, fk, kf, ca, ff, fg, h1, h2, h3, h4, h5, h6, h7⟩ := S.ex
  exact ⟨dx, cr, fk, kf, ff, fg, h1, h5, h6, h7⟩
/-- source.kept_functions[name] -/
theorem rd_kept (T : Tx w K mg) (S : SrcAt K H src G) (b : Bool) : ∃ f, FunAt K H f b (G b) ∧ ∀ {to ti : TE} {σ : L2.St}, (∀ Q, Q (.ref src) H → to σ H Q) → (∀ Q, Q (.str (fnS b)) H → ti σ H Q) → ∀ {Q : VK}, Q (.ref f) H → tDGet (tFld K to "kept_functions") ti σ H Q := by
  obtain ⟨dx, cr, fk, kf, ff, fg, h1, h5, h6, h7⟩ := S.fns
  cases b with
  | true => exact ⟨ff, h6, fun ho hi Q q => ho _ ⟨_, _, _, _, _, rfl, h1, T.c_Source, T.n_Source_kept_functions, rfl, hi _ ⟨kf, .ref ff, rfl, .inl ⟨_, Sum.inr "f", h5, rfl, rfl⟩, q⟩⟩⟩
  | false => exact ⟨fg, h7, fun ho hi Q q => ho _ ⟨_, _, _, _, _, rfl, h1, T.c_Source, T.n_Source_kept_functions, rfl, hi _ ⟨kf, .ref fg, rfl, .inl ⟨_, Sum.inr "g", h5, rfl, (by kernel_rfl)⟩, q⟩⟩⟩
theorem SrcAt.kept (S : SrcAt K H src G) (b : Bool) : ∃ dx cr fk kf f, H src = some (.ins (He.ga K "Source") dx [("class_rows", .ref cr), ("field_kinds", .ref fk), ("kept_functions", .ref kf)]) ∧ DGet H kf (.str (fnS b)) (some (.ref f)) ∧ FunAt K H f b (G b) := by
  obtain ⟨dx, cr, fk, kf, ff, fg, h1, h5, h6, h7⟩ := S.fns
  cases b with
  | true => exact ⟨dx, cr, fk, kf, ff, h1, .inl ⟨_, Sum.inr "f", h5, rfl, rfl⟩, h6⟩
  | false => exact ⟨dx, cr, fk, kf, fg, h1, .inl ⟨_, Sum.inr "g", h5, rfl, (by kernel_rfl)⟩, h7⟩
/-- self.source -/
theorem rd_src (T : Tx w K mg) (M : MachAt K H p src A m) {σ : L2.St} {i : Nat} {Q : VK} (q : Q (.ref src) H) (h : σ[i]? = some (some (.ref p)) := by rfl) : tFld K (tVar i) "source" σ H Q := ⟨_, h, p, _, _, _, _, rfl, M.ins, T.c_Machine, T.n_Machine_source, rfl, q⟩
/-! enter -/
def blankKvs : List (Key × V) := [(Sum.inr "a", .int 0), (Sum.inr "o", .non), (Sum.inr "b", .int 0), (Sum.inr "c", .int 0), (Sum.inr "p", .non)]
def spEnter (K : PySem.W.Frag) : Sp := fun vs H Q _ => ∃ (p l src : Addr) (A : MA) (m : Mch) (G : Prg) (b : Bool) (i : Int) (v : V) (o : Option Nat), vs = [.ref p, .str (fnS b), .ref l] ∧ MachAt K H p src A m ∧ SrcAt K H src G ∧
  H l = some (.lst [.int i, v]) ∧ RepO H v o ∧ m.stack.length < 1000 ∧ ∀ H' A', MachAt K H' p src A' (m.top { fEnter i o with fn := b } m.stack) → Mv H H' (A.fp p) (A'.fp p) → Q .non H'
theorem sc_Machine_enter : FnScope ["self", "name", "values", "function", "variables", "value", "variable", "kind"] ["self", "name", "values"] d_Machine_enter.scope := ⟨rfl, rfl, rfl, by decide +kernel, rfl, by decide +kernel, by decide +kernel⟩
theorem k_Machine_enter (T : Tx w K mg) : Ok P w K mg base 2 d_Machine_enter ["self", "name", "values"] (spEnter K) := by
  refine Ok.of T.d_Machine_enter sc_Machine_enter (fun _ _ _ _ _ _ us hl => match us, hl with | [_, _, _], _ => rfl) (fun vs H Q E h => ?_) (fun cdv A outer s H vs Q E hr h => ?_)
  · obtain ⟨p, l, src, A, m, G, b, i, v, o, rfl, _⟩ := h
    rfl
  · obtain ⟨p, l, src, Am, m, G, b, i, v, o, rfl, M, S, hl, ho, hlen, k⟩ := h
    refine ⟨_, (pss_cons (ps_set (i := 3) sc_Machine_enter.nd rfl (.inr rfl) (pe_dget (hu_of hr) (pe_fld (pe_fld (pv 0) rfl) rfl) (pv 1) (fun _ _ => rfl)))
      (pss_cons (ps_lock (ps_setDc (j := 4) (own := [("variable", 6)]) (g := (gName 6)) (tt := tYes) (by rfl) sc_Machine_enter.nd rfl rfl (swD_true rfl rfl rfl (by decide +kernel)) (pi_keys (pe_fld (pv 3) rfl)) (blkOk_by (own := [("variable", 6)]) (N := ["self", "name", "values", "function", "variables", "value", "variable", "kind"]) (sc := d_Machine_enter.scope) (by decide +kernel)) (fun _ _ _ _ _ => (pg_name (i := 6) sc_Machine_enter.nd rfl (.inl rfl))) (fun _ _ _ _ _ => pts_nil) (fun _ _ _ _ _ => (pv 6)) (fun _ _ _ _ _ => (pe_G (k_blank T) (hr.mono (by decide)) T.g_blank (pa_cons (pe_dget (hu_of hr) (pe_fldK K rfl (pv 3) rfl) (pv 6) (fun _ _ => rfl)) pa_nil)))))
      (pss_cons (ps_for PassesOwn.never rfl (pi_zip (by rfl) T.b_zip (pa_cons (pe_fld (pv 3) rfl) (pa_cons (pv 2) pa_nil))) (pg_tup rfl (pgs_cons (pg_tup rfl (pgs_cons (pg_name (i := 6) sc_Machine_enter.nd rfl (.inl rfl)) (pgs_cons (pg_name (i := 7) sc_Machine_enter.nd rfl (.inl rfl)) pgs_nil))) (pgs_cons (pg_name (i := 5) sc_Machine_enter.nd rfl (.inl rfl)) pgs_nil))) (pss_one (ps_dput (hu_of hr) (pv 4) (pv 6) (pv 5) rfl)))
      (pss_one (ps_expr (pe_bm PySem.F.plainAttrs_list PySem.F.slot_list_append PySem.F.type_list_append mt_append (pe_fld (pv 0) rfl) (pa_cons (pe_lst (pa_cons (pv 1) (pa_cons pe_int (pa_cons (pv 4) pa_nil)))) pa_nil))))))), ?_⟩
    obtain ⟨f, F, rd⟩ := rd_kept T S b
    refine rd (fun Q q => rd_src T M q) (fun Q q => ⟨_, rfl, q⟩) ?_
    obtain ⟨dx, ii, ei, kd, rl, rs, f1, f2, f3, f4, f5⟩ := F.ex
    -- the variables
    have e1 : ∀ od, (upd H kd (.frz od (.dK kindKvs))) f = some (.ins (He.ga K "Function") dx (fnFs b ii ei kd rl)) := fun od => by
      rw [upd_ne (ne_of f1 f3 (by intro z; cases z))]
      exact f1
    refine ⟨kd, _, f3, trivial, fun od => ⟨_, rfl, f, _, _, _, _, rfl, e1 od, T.c_Function, T.n_Function_kind_of, rfl, kd, od, rfl, .inl ⟨kindKvs, upd_same, fun D hD => ?_⟩⟩⟩
    have nD : H D = none := none_upd hD
    have kD : kd ≠ D := ne_of_none f3 nD
    have fD : f ≠ D := ne_of_none f1 nD
    refine dc_it walk_keys (fun j H' => H' = upd (upd H kd (.frz od (.dK kindKvs))) D (.dK (blankKvs.take j))) rfl (fun j H' _ e => by rw [e, upd_ne kD]; exact upd_same) (fun j x H1 H' hj e y => ?_) (fun H' e => ?_)
    · obtain ⟨rfl, kk, vv, hk, rfl⟩ := y
      subst e
      have hkd : Rd (upd (upd H kd (.frz od (.dK kindKvs))) D (.dK (blankKvs.take j))) kd (.dK kindKvs) := .inr ⟨od, by rw [upd_ne kD]; exact upd_same⟩
      have hf : (upd (upd H kd (.frz od (.dK kindKvs))) D (.dK (blankKvs.take j))) f = some (.ins (He.ga K "Function") dx (fnFs b ii ei kd rl)) := by
        rw [upd_ne fD]; exact e1 od
      have key : valV kindKvs kk = some vv ∧ (blankKvs.take j).length < sizeLine ∧ ∃ z', (vv = .str "number" ∧ z' = .int 0 ∨ vv = .str "object" ∧ z' = .non) ∧ putK (blankKvs.take j) kk z' = blankKvs.take (j + 1) := by
        match j, hj with
        | 0, _ => cases hk; exact ⟨rfl, lt_line (by decide), _, .inl ⟨rfl, rfl⟩, rfl⟩
        | 1, _ => cases hk; exact ⟨by kernel_rfl, lt_line (by decide), _, .inr ⟨rfl, rfl⟩, by kernel_rfl⟩
        | 2, _ => cases hk; exact ⟨by kernel_rfl, lt_line (by decide), _, .inl ⟨rfl, rfl⟩, by kernel_rfl⟩
        | 3, _ => cases hk; exact ⟨by kernel_rfl, lt_line (by decide), _, .inl ⟨rfl, rfl⟩, by kernel_rfl⟩
        | 4, _ => cases hk; exact ⟨by kernel_rfl, lt_line (by decide), _, .inr ⟨rfl, rfl⟩, by kernel_rfl⟩
        | j + 5, h => exact absurd h (by simp [kindKvs])
      obtain ⟨e2, e4, z', e3, e5⟩ := key
      refine ⟨rfl, kV kk, rfl, _, rfl, f, _, _, _, _, rfl, hf, T.c_Function, T.n_Function_kind_of, rfl, _, rfl, kd, vv, rfl, .inl ⟨_, kk, hkd, rfl, e2.symm⟩, ?_⟩
      rcases e3 with ⟨rfl, rfl⟩ | ⟨rfl, rfl⟩
      · exact .inl ⟨rfl, _, kk, rfl, upd_same, e4, by rw [e5, upd_upd]⟩
      · exact .inr ⟨rfl, _, kk, rfl, upd_same, e4, by rw [e5, upd_upd]⟩
    subst e
    refine ⟨by rw [upd_ne kD]; exact upd_same, ?_⟩
    have s2 : Same H (upd (upd (upd H kd (.frz od (.dK kindKvs))) D (.dK (blankKvs.take kindKvs.length))) kd (.dK kindKvs)) := same_unlock f3 (same_new hD)
    have hD2 : (upd (upd (upd H kd (.frz od (.dK kindKvs))) D (.dK (blankKvs.take kindKvs.length))) kd (.dK kindKvs)) D = some (.dK blankKvs) := by
      rw [upd_ne (Ne.symm kD)]; exact upd_same
    generalize (upd (upd (upd H kd (.frz od (.dK kindKvs))) D (.dK (blankKvs.take kindKvs.length))) kd (.dK kindKvs)) = H2 at s2 hD2
    -- the parameters
    obtain ⟨ts, i1, i2⟩ := f2
    match ts, i2 with
    | [t0, t1], .cons h0 (.cons h1 .nil) =>
      refine ⟨_, rfl, f, _, _, _, _, rfl, s2 _ _ f1, T.c_Function, T.n_Function_inputs, rfl, _, rfl, ii, l, _, _, rfl, SqL.of (s2 _ _ i1), SqL.of (s2 _ _ hl), ?_⟩
      refine for_it (walk_zip (n := 2) rfl) (fun j σ H' => Same H H' ∧ (∃ s5 s6 s7, σ = [some (.ref p), some (.str (fnS b)), some (.ref l), some (.ref f), some (.ref D), s5, s6, s7]) ∧
        H' D = some (.dK (match j with | 0 => blankKvs | 1 => putK blankKvs (Sum.inr "a") (.int i) | _ => putK (putK blankKvs (Sum.inr "a") (.int i)) (Sum.inr "o") v))) ?_ (fun j σ H' _ q => ⟨SqL.of (q.1 _ _ i1), SqL.of (q.1 _ _ hl)⟩) (fun j x σ H1 H' hj q y => ?_) (fun σ H' q => ?_)
      · exact ⟨s2, ⟨_, _, _, rfl⟩, hD2⟩
      · obtain ⟨sm, ⟨s5, s6, s7, rfl⟩, hd⟩ := q
        obtain ⟨t, x1, x2, rfl, nt, rfl, y1, y2⟩ := y
        have nt' : H t = none := sm.free nt
        have sm' : Same H (upd H1 t (.tup [x1, x2])) := sm.put nt'
        have tD : D ≠ t := ne_of_none hd nt
        match j, hj with
        | 0, _ =>
          cases y1; cases y2
          refine ⟨t, _, rfl, SqT.of upd_same, rfl, _, _, rfl, ⟨t0, _, rfl, SqT.of (sm' _ _ h0), rfl, _, _, rfl, _, _, rfl, rfl, _, _, rfl, rfl, ?_⟩⟩
          refine ⟨_, rfl, _, rfl, _, rfl, D, _, rfl, DPut.k (k := Sum.inr "a") (by rw [upd_ne tD]; exact hd) (by show 5 < sizeLine; decide), ?_⟩
          exact ⟨sm'.put nD, ⟨_, _, _, rfl⟩, upd_same⟩
        | 1, _ =>
          cases y1; cases y2
          refine ⟨t, _, rfl, SqT.of upd_same, rfl, _, _, rfl, ⟨t1, _, rfl, SqT.of (sm' _ _ h1), rfl, _, _, rfl, _, _, rfl, rfl, _, _, rfl, rfl, ?_⟩⟩
          refine ⟨_, rfl, _, rfl, _, rfl, D, _, rfl, DPut.k (k := Sum.inr "o") (by rw [upd_ne tD]; exact hd) (by show 5 < sizeLine; decide), ?_⟩
          exact ⟨sm'.put nD, ⟨_, _, _, rfl⟩, upd_same⟩
      · obtain ⟨sm, ⟨s5, s6, s7, rfl⟩, hd⟩ := q
        have M3 := M.same sm
        refine ⟨_, rfl, p, _, _, _, _, rfl, M3.ins, T.c_Machine, T.n_Machine_stack, rfl, .inl ⟨rfl, _, SqL.of M3.st⟩, ?_⟩
        refine ⟨_, rfl, ⟨_, rfl, ⟨(by show 3 ≤ sizeLine; decide), fun fl hfl => ?_⟩⟩⟩
        have nfl : H fl = none := sm.free hfl
        have flD : D ≠ fl := ne_of_none hd hfl
        have s4 : Same H (upd H' fl (.lst [.str (fnS b), .int 0, .ref D])) := sm.put nfl
        have M4 := M.same s4
        have F4 : FrAt (upd H' fl (.lst [.str (fnS b), .int 0, .ref D])) ⟨fl, D, fun s => if s = .o then v else .non⟩ { fEnter i o with fn := b } := by
          refine ⟨upd_same, by rw [upd_ne flD]; exact hd, fun s => ?_⟩
          cases s
          · exact ho.le (Le.of s4)
          · rfl
        refine ⟨_, _, _, rfl, rfl, M4.st, ?_, ?_⟩
        · rw [List.length_map, List.length_reverse, M.len]
          exact Nat.lt_of_lt_of_le hlen (by decide)
        · refine k _ _ (M4.push F4 (M.out nfl) (M.out nD)) ?_
          refine Mv.more ((Mv.of s4 _).trans (mv_upd (by simp [mem_fp]) (M4.noT (by simp [mem_fp])))) fun x hx => ?_
          rw [mem_fp] at hx ⊢
          rcases hx with e | e | e | e | ⟨a, ha, e⟩ | ⟨a, ha, e⟩ | e
          · exact .inl (.inl e)
          · exact .inl (.inr (.inl e))
          · exact .inl (.inr (.inr (.inl e)))
          · exact .inl (.inr (.inr (.inr (.inl e))))
          · rcases List.mem_cons.mp ha with q | q
            · right; rw [← e, q]; exact nfl
            · exact .inl (.inr (.inr (.inr (.inr (.inl ⟨a, q, e⟩)))))
          · rcases List.mem_cons.mp ha with q | q
            · right; rw [← e, q]; exact nD
            · exact .inl (.inr (.inr (.inr (.inr (.inr (.inl ⟨a, q, e⟩))))))
          · exact .inl (.inr (.inr (.inr (.inr (.inr (.inr e))))))
end
end K18
set_option Elab.async false
set_option linter.all false
set_option maxRecDepth 100000
set_option pp.deepTerms false
set_option pp.maxSteps 400
set_option maxHeartbeats 4000000
namespace K18
open PySem PySem.Spec PyProof.Rows L2
theorem Paired.getR {α β : Type} {F : α → β → Prop} : ∀ {l : List α} {k : List β} {i : Nat} {b : β}, Paired F l k → k[i]? = some b → ∃ a, l[i]? = some a ∧ F a b
  | _, _, _, _, .nil, e => by simp at e
  | _, _, 0, _, .cons r _, e => ⟨_, rfl, by cases e; exact r⟩
  | _, _, i + 1, _, .cons _ t, e => by
    obtain ⟨a, h1, h2⟩ := Paired.getR (i := i) t (by simpa using e)
    exact ⟨a, by simpa using h1, h2⟩
theorem Paired.getL {α β : Type} {F : α → β → Prop} : ∀ {l : List α} {k : List β} {i : Nat} {a : α}, Paired F l k → l[i]? = some a → ∃ b, k[i]? = some b ∧ F a b
  | _, _, _, _, .nil, e => by simp at e
  | _, _, 0, _, .cons r _, e => ⟨_, rfl, by cases e; exact r⟩
  | _, _, i + 1, _, .cons _ t, e => by
    obtain ⟨a, h1, h2⟩ := Paired.getL (i := i) t (by simpa using e)
    exact ⟨a, by simpa using h1, h2⟩
section
variable {P : Program} {w : World} {K : PySem.W.Frag} {mg : Str → Option Value} {base : Heap}
variable {H H' : Hp} {p src : Addr} {A : MA} {m : Mch} {G : Prg}
/-- self.f of a machine -/
theorem rd_mf (T : Tx w K mg) (M : MachAt K H p src A m) {σ : L2.St} {i : Nat} {f : Str} {v : V} (n : NoAttr K (He.ga K "Machine") f) {Q : VK} (q : Q v H) (h : σ[i]? = some (some (.ref p)) := by rfl) (l : (mFs src A.st A.ob m.born A.wr A.rv m.cnt).lookup f = some v := by rfl) : tFld K (tVar i) f σ H Q :=
  ⟨_, h, p, _, _, _, _, rfl, M.ins, T.c_Machine, n, l, q⟩
theorem fp_sub {A A' : MA} (h1 : A'.st = A.st) (h2 : A'.wr = A.wr) (h3 : A'.ob = A.ob) (h4 : ∀ a ∈ A'.fs, ∃ b ∈ A.fs, b.l = a.l ∧ b.d = a.d) (h5 : ∀ a ∈ A'.os, ∃ b ∈ A.os, b.d = a.d) : ∀ x ∈ A'.fp p, x ∈ A.fp p := fun x hx => by
  rw [mem_fp] at hx ⊢
  rcases hx with e | e | e | e | ⟨a, ha, e⟩ | ⟨a, ha, e⟩ | ⟨a, ha, e⟩
  · exact .inl e
  · exact .inr (.inl (e.trans h1))
  · exact .inr (.inr (.inl (e.trans h2)))
  · exact .inr (.inr (.inr (.inl (e.trans h3))))
  · obtain ⟨b, hb, q, _⟩ := h4 a ha
    exact .inr (.inr (.inr (.inr (.inl ⟨b, hb, q.trans e⟩))))
  · obtain ⟨b, hb, _, q⟩ := h4 a ha
    exact .inr (.inr (.inr (.inr (.inr (.inl ⟨b, hb, q.trans e⟩)))))
  · obtain ⟨b, hb, q⟩ := h5 a ha
    exact .inr (.inr (.inr (.inr (.inr (.inr ⟨b, hb, q.trans e⟩)))))
/-! row_here -/
def spRowHere (K : PySem.W.Frag) : Sp := fun vs H Q _ => ∃ (p src : Addr) (A : MA) (m : Mch) (G : Prg), vs = [.ref p] ∧ MachAt K H p src A m ∧ SrcAt K H src G ∧
  ((m.stack = [] ∧ Rt .non H Q) ∨ ∃ t rest r, m.stack = t :: rest ∧ (G t.fn)[t.at_]? = some r ∧ ∀ H' a, Same H H' → RowAt false H' a r → Q (.ref a) H')
theorem sc_Machine_row_here : FnScope ["self", "name", "at", "variables"] ["self"] d_Machine_row_here.scope := ⟨rfl, rfl, rfl, by decide +kernel, rfl, by decide +kernel, by decide +kernel⟩
theorem k_Machine_row_here (T : Tx w K mg) : Ok P w K mg base 1 d_Machine_row_here ["self"] (spRowHere K) := by
  refine Ok.of T.d_Machine_row_here sc_Machine_row_here (fun _ _ _ _ _ _ us hl => match us, hl with | [_], _ => rfl) (fun vs H Q E h => ?_) (fun cdv A outer s H vs Q E hr h => ?_)
  · obtain ⟨p, src, A, m, G, rfl, _⟩ := h
    rfl
  · obtain ⟨p, src, Am, m, G, rfl, M, S, k⟩ := h
    refine ⟨_, (pss_cons (ps_if (pt_cmpR (op_eqNil (Nat.lt_of_le_of_lt (Nat.le_add_right _ 64) hr.units)) (pe_fld (pv 0) rfl) (pe_lst pa_nil) (nomark _)) (pss_one (ps_ret pe_non)) pss_nil)
      (pss_cons (ps_asg (pe_ix ix_list (pe_fld (pv 0) rfl) (pe_un un_neg pe_int) (fun _ _ => rfl)) (pg_unl rfl (pgs_cons (pg_name (i := 1) sc_Machine_row_here.nd rfl (.inl rfl)) (pgs_cons (pg_name (i := 2) sc_Machine_row_here.nd rfl (.inl rfl)) (pgs_cons (pg_name (i := 3) sc_Machine_row_here.nd rfl (.inl rfl)) pgs_nil)))))
      (pss_one (ps_ret (pe_ix ix_list (pe_fld (pe_dget (hu_of hr) (pe_fld (pe_fld (pv 0) rfl) rfl) (pv 1) (fun _ _ => rfl)) rfl) (pv 2) (fun _ _ => rfl)))))), ?_⟩
    refine ⟨_, rfl, _, _, _, _, _, rfl, M.ins, T.c_Machine, T.n_Machine_stack, (by rfl), Nat.zero_le _, fun b hb => ⟨Am.st, b, _, rfl, rfl, SqL.of (by rw [upd_ne (ne_of_none M.st hb)]; exact M.st), SqL.of upd_same, _, rfl, ?_⟩⟩
    have sm : Same H (upd H b (.lst [])) := same_new hb
    generalize (upd H b (.lst [])) = H1 at sm
    have M1 := M.same sm
    have S1 := S.le (Le.of sm)
    rcases k with ⟨hm, k⟩ | ⟨t, rest, r, hm, hg, k⟩
    · rw [M.nil hm]
      exact k H1 sm
    · obtain ⟨f, fr, hA, F, _⟩ := M1.head hm
      refine ifBf (by rw [hA]; simp) ?_
      refine ⟨_, rfl, _, _, _, _, _, rfl, M1.ins, T.c_Machine, T.n_Machine_stack, (by rfl), 1, rfl, Am.st, _, -1, _, rfl, rfl, SqL.of (M1.stk hA), atI_last _ _, ?_⟩
      refine ⟨f.l, _, rfl, SqL.of F.l, rfl, _, _, rfl, _, _, rfl, _, _, rfl, rfl, ?_⟩
      obtain ⟨fa, Fa, rd⟩ := rd_kept T S1 t.fn
      refine rd (fun Q q => rd_src T M1 q) (fun Q q => ⟨_, rfl, q⟩) ?_
      obtain ⟨dx, ii, ei, kd, rl, rs, f1, f2, f3, f4, f5⟩ := Fa.ex
      obtain ⟨ra, hra, hrow⟩ := Paired.getR f5 hg
      exact ⟨fa, _, _, _, _, rfl, f1, T.c_Function, T.n_Function_row_list, rfl, _, rfl, rl, _, (t.at_ : Int), _, rfl, rfl, SqL.of f4, atI_nat (by rw [List.getElem?_map, hra]; rfl), k H1 ra sm hrow⟩
/-! fields_of, blank_field, seen -/
theorem MachAt.obAt (M : MachAt K H p src A m) {n : Nat} {o : Ob} (h : m.obs[n]? = some o) : ∃ a, A.os[n]? = some a ∧ ObAt H a o ∧ valV (objK 0 A.os) (Sum.inl (n : Int) : Key) = some (.ref a.t) := by
  obtain ⟨a, h1, h2⟩ := Paired.getR M.os h
  refine ⟨a, h1, h2, ?_⟩
  have := objK_at A.os 0 n a h1
  rwa [Nat.zero_add] at this
/-- self.objects[value[1]] -/
theorem rd_obj (T : Tx w K mg) (M : MachAt K H p src A m) {n : Nat} {a : OA} (hv : valV (objK 0 A.os) (Sum.inl (n : Int) : Key) = some (.ref a.t)) {σ : L2.St} {i j : Nat} {t : Addr} (ht : H t = some (.tup [.str "object", .int (n : Int)])) {Q : VK} (q : Q (.ref a.t) H) (h : σ[i]? = some (some (.ref p)) := by rfl) (hj : σ[j]? = some (some (.ref t)) := by rfl) : tDGet (tFld K (tVar i) "objects") (tOp (rIxT K) (tVar j) (tC (.int 1))) σ H Q :=
  rd_mf (σ := σ) (i := i) (f := "objects") (v := .ref A.ob) T M T.n_Machine_objects (Q := _) (h := h) (q := ⟨_, hj, t, _, 1, _, rfl, rfl, SqT.of ht, rfl, A.ob, _, rfl, .inl ⟨_, Sum.inl (n : Int), .inl M.ob, rfl, hv.symm⟩, q⟩)
def spFieldsOf (K : PySem.W.Frag) : Sp := fun vs H Q _ => ∃ (p src : Addr) (A : MA) (m : Mch) (v : V) (f : Str), vs = [.ref p, v, .str f] ∧ MachAt K H p src A m ∧ (f = "item" ∨ f = "next") ∧
  ((v = .non ∧ Q .non H) ∨ ∃ n o a t, v = .ref t ∧ H t = some (.tup [.str "object", .int ((n : Nat) : Int)]) ∧ m.obs[n]? = some o ∧ A.os[n]? = some a ∧ Q (.ref a.d) H)
theorem sc_Machine_fields_of : FnScope ["self", "value", "field"] ["self", "value", "field"] d_Machine_fields_of.scope := ⟨rfl, rfl, rfl, by decide +kernel, rfl, by decide +kernel, by decide +kernel⟩
theorem k_Machine_fields_of (T : Tx w K mg) : Ok P w K mg base 1 d_Machine_fields_of ["self", "value", "field"] (spFieldsOf K) := by
  refine Ok.of T.d_Machine_fields_of sc_Machine_fields_of (fun _ _ _ _ _ _ us hl => match us, hl with | [_, _, _], _ => rfl) (fun vs H Q E h => ?_) (fun cdv A outer s H vs Q E hr h => ?_)
  · obtain ⟨p, src, A, m, v, f, rfl, _⟩ := h
    rfl
  · obtain ⟨p, src, Am, m, v, f, rfl, M, hf, k⟩ := h
    refine ⟨_, (pss_cons (ps_if (PW.pt (pw_or (pt_cmp (pc_isN (pv 1))) (pw_or1 (pt_cmp (pc_dnotin (hu_of hr) (pv 2) (pe_ix ix_tup (pe_dget (hu_of hr) (pe_fld (pv 0) rfl) (pe_ix ix_tup (pv 1) pe_int (fun _ _ => rfl)) (fun _ _ => rfl)) pe_int (fun _ _ => rfl))))))) (pss_one (ps_ret pe_non)) pss_nil)
      (pss_one (ps_ret (pe_ix ix_tup (pe_dget (hu_of hr) (pe_fld (pv 0) rfl) (pe_ix ix_tup (pv 1) pe_int (fun _ _ => rfl)) (fun _ _ => rfl)) pe_int (fun _ _ => rfl))))), ?_⟩
    rcases k with ⟨rfl, k⟩ | ⟨n, o, a, t, rfl, ht, ho, ha, k⟩
    · exact ⟨_, rfl, _, rfl, ifD_t rfl (iteT k)⟩
    · refine ⟨_, rfl, _, rfl, ifD_f (by intro z; cases z) ?_⟩
      obtain ⟨a', ha', O, hv⟩ := M.obAt ho
      rw [ha] at ha'
      cases ha'
      have hg : ∃ v, valV [((Sum.inr "item" : Key), V.int o.item), (Sum.inr "next", a.nv)] (Sum.inr f) = some v := by
        rcases hf with rfl | rfl
        · exact ⟨_, rfl⟩
        · exact ⟨a.nv, by kernel_rfl⟩
      obtain ⟨v, hg⟩ := hg
      refine ⟨_, rfl, rd_obj T M hv ht ?_⟩
      refine ⟨a.t, _, 1, _, rfl, rfl, SqT.of O.t, rfl, a.d, some v, rfl, .inl ⟨_, Sum.inr f, .inl O.d, rfl, hg.symm⟩, _, rfl, iteF ?_⟩
      refine rd_obj T M hv ht ?_
      exact ⟨a.t, _, 1, _, rfl, rfl, SqT.of O.t, rfl, k⟩
def spBlankField (K : PySem.W.Frag) : Sp := fun vs H Q _ => ∃ (p src : Addr) (A : MA) (m : Mch) (G : Prg) (f : Str), vs = [.ref p, .str f] ∧ MachAt K H p src A m ∧ SrcAt K H src G ∧ ((f = "item" ∧ Q (.int 0) H) ∨ (f = "next" ∧ Q .non H))
theorem sc_Machine_blank_field : FnScope ["self", "field"] ["self", "field"] d_Machine_blank_field.scope := ⟨rfl, rfl, rfl, by decide +kernel, rfl, by decide +kernel, by decide +kernel⟩
theorem k_Machine_blank_field (T : Tx w K mg) : Ok P w K mg base 2 d_Machine_blank_field ["self", "field"] (spBlankField K) := by
  refine Ok.of T.d_Machine_blank_field sc_Machine_blank_field (fun _ _ _ _ _ _ us hl => match us, hl with | [_, _], _ => rfl) (fun vs H Q E h => ?_) (fun cdv A outer s H vs Q E hr h => ?_)
  · obtain ⟨p, src, A, m, G, f, rfl, _⟩ := h
    rfl
  · obtain ⟨p, src, Am, m, G, f, rfl, M, S, k⟩ := h
    refine ⟨_, (pss_one (ps_ret (pe_G (k_blank T) (hr.mono (by decide)) T.g_blank (pa_cons (pe_dget (hu_of hr) (pe_fld (pe_fld (pv 0) rfl) rfl) (pv 1) (fun _ _ => rfl)) pa_nil)))), ?_⟩
    obtain ⟨dx, cr, fk, kf, ca, ff, fg, h1, h2, h3, h4, h5, h6, h7⟩ := S.ex
    rcases k with ⟨rfl, k⟩ | ⟨rfl, k⟩
    · exact ⟨_, rfl, _, _, _, _, _, rfl, M.ins, T.c_Machine, T.n_Machine_source, (by rfl), _, _, _, _, _, rfl, h1, T.c_Source, T.n_Source_field_kinds, (by kernel_rfl), _, rfl, fk, _, rfl, .inl ⟨_, Sum.inr "item", h4, rfl, rfl⟩, .inl ⟨rfl, k⟩⟩
    · exact ⟨_, rfl, _, _, _, _, _, rfl, M.ins, T.c_Machine, T.n_Machine_source, (by rfl), _, _, _, _, _, rfl, h1, T.c_Source, T.n_Source_field_kinds, (by kernel_rfl), _, rfl, fk, .str "object", rfl, .inl ⟨_, Sum.inr "next", h4, rfl, by kernel_rfl⟩, .inr ⟨rfl, k⟩⟩
def seeO (o : Option Nat) : Lg := match o with | none => .nil | some _ => .obj
def spSeen (K : PySem.W.Frag) : Sp := fun vs H Q _ => ∃ (p src : Addr) (A : MA) (m : Mch) (v : V), vs = [.ref p, v] ∧ MachAt K H p src A m ∧
  ((∃ i, v = .int i ∧ ∀ H' u, Same H H' → LgAt H' u (.num i) → Q u H') ∨ ∃ o, RepO H v o ∧ (∀ n, o = some n → n < m.obs.length) ∧ ∀ H' u, Same H H' → LgAt H' u (seeO o) → Q u H')
theorem sc_Machine_seen : FnScope ["self", "value"] ["self", "value"] d_Machine_seen.scope := ⟨rfl, rfl, rfl, by decide +kernel, rfl, by decide +kernel, by decide +kernel⟩
theorem k_Machine_seen (T : Tx w K mg) : Ok P w K mg base 3 d_Machine_seen ["self", "value"] (spSeen K) := by
  refine Ok.of T.d_Machine_seen sc_Machine_seen (fun _ _ _ _ _ _ us hl => match us, hl with | [_, _], _ => rfl) (fun vs H Q E h => ?_) (fun cdv A outer s H vs Q E hr h => ?_)
  · obtain ⟨p, src, A, m, v, rfl, _⟩ := h
    rfl
  · obtain ⟨p, src, Am, m, v, rfl, M, k⟩ := h
    refine ⟨_, (pss_cons (ps_if (pt_cmp (pc_isN (pv 1))) (pss_one (ps_ret (pe_tup (pa_cons pe_str pa_nil)))) pss_nil)
      (pss_one (ps_ret (pe_ifExp (pt_val (pe_G (k_is_object T) (hr.mono (by decide)) T.g_is_object (pa_cons (pv 1) pa_nil))) (pe_tup (pa_cons pe_str (pa_cons (pe_ix ix_tup (pe_dget (hu_of hr) (pe_fld (pv 0) rfl) (pe_ix ix_tup (pv 1) pe_int (fun _ _ => rfl)) (fun _ _ => rfl)) pe_int (fun _ _ => rfl)) pa_nil))) (pe_tup (pa_cons pe_str (pa_cons (pv 1) pa_nil))))))), ?_⟩
    rcases k with ⟨i, rfl, k⟩ | ⟨o, hv, hb, k⟩
    · refine ⟨_, rfl, _, rfl, ifD_f (by intro z; cases z) ?_⟩
      refine ⟨_, rfl, .inl ⟨i, rfl, _, rfl, iteF ⟨_, rfl, (by show 2 ≤ sizeLine; decide), fun t ht => k _ _ (same_new ht) ⟨t, rfl, upd_same⟩⟩⟩⟩
    · cases o with
      | none =>
        cases (show v = .non from hv)
        exact ⟨_, rfl, _, rfl, ifD_t rfl ⟨(by show 1 ≤ sizeLine; decide), fun t ht => k _ _ (same_new ht) ⟨t, rfl, upd_same⟩⟩⟩
      | some n =>
        obtain ⟨t, rfl, ht⟩ := id hv
        refine ⟨_, rfl, _, rfl, ifD_f (by intro z; cases z) ?_⟩
        obtain ⟨a, ha, O, hv'⟩ := M.obAt (List.getElem?_eq_getElem (hb n rfl))
        refine ⟨_, rfl, .inr ⟨_, some n, rfl, hv, _, rfl, iteT (rd_obj T M hv' ht ?_)⟩⟩
        exact ⟨a.t, _, 0, _, rfl, rfl, SqT.of O.t, rfl, (by show 2 ≤ sizeLine; decide), fun t ht => k _ _ (same_new ht) ⟨t, rfl, upd_same⟩⟩
/-! bounded -/
def spBounded : Sp := fun vs H Q _ => ∃ i : Int, vs = [.int i] ∧ -(10 ^ 60) ≤ i ∧ i ≤ 10 ^ 60 ∧ Q (.int i) H
theorem sc_bounded : FnScope ["number"] ["number"] d_bounded.scope := ⟨rfl, rfl, rfl, by decide +kernel, rfl, by decide +kernel, by decide +kernel⟩
theorem k_bounded (T : Tx w K mg) : Ok P w K mg base 1 d_bounded ["number"] spBounded := by
  refine Ok.of T.d_bounded sc_bounded (fun _ _ _ _ _ _ us hl => match us, hl with | [_], _ => rfl) (fun vs H Q E h => ?_) (fun cdv A outer s H vs Q E hr h => ?_)
  · obtain ⟨i, rfl, _⟩ := h
    rfl
  · obtain ⟨i, rfl, h1, h2, k⟩ := h
    refine ⟨_, (pss_cons (ps_if (pt_cmpR op_gt (pe_callB call_abs (by rfl) T.b_abs bt_abs (pa_cons (pv 0) pa_nil)) (pe_gi T.i_MOST_VALUE) (nomark _)) pss_never pss_nil)
      (pss_one (ps_ret (pv 0)))), ?_⟩
    refine ⟨_, rfl, i, rfl, _, _, rfl, rfl, _, rfl, ifD_f ?_ ⟨_, rfl, k⟩⟩
    split <;> omega
/-! a machine beside what stands for good -/
structure On (K : PySem.W.Frag) (H0 H : Hp) (p src : Addr) (A : MA) (m : Mch) (G : Prg) : Prop where
  m : MachAt K H p src A m
  s : SrcAt K H0 src G
  e : Same H0 H
  d : ∀ x ∈ A.fp p, H0 x = none
theorem On.sr {H0 : Hp} (o : On K H0 H p src A m G) : SrcAt K H src G := o.s.le (Le.of o.e)
theorem On.mv {H0 : Hp} {A' : MA} {m' : Mch} (o : On K H0 H p src A m G) (M : MachAt K H' p src A' m') (v : Mv H H' (A.fp p) (A'.fp p)) : On K H0 H' p src A' m' G := ⟨M, o.s, v.same o.e o.d, v.above o.e o.d⟩
theorem On.same {H0 : Hp} (o : On K H0 H p src A m G) (e : Same H H') : On K H0 H' p src A m G := ⟨o.m.same e, o.s, o.e.trans e, o.d⟩
/-! make -/
def blankFd : List (Key × V) := [(Sum.inr "item", .int 0), (Sum.inr "next", .non)]
def spMake (K : PySem.W.Frag) : Sp := fun vs H Q _ => ∃ (H0 : Hp) (p src : Addr) (A : MA) (m : Mch) (G : Prg), vs = [.ref p, .str "cell"] ∧ On K H0 H p src A m G ∧ m.born = m.obs.length ∧ m.obs.length < 1000 ∧
  ∀ H' A' v, MachAt K H' p src A' m.make → Mv H H' (A.fp p) (A'.fp p) → A'.fs = A.fs → RepO H' v (some m.born) → Q v H'
theorem MachAt.fpNe (M : MachAt K H p src A m) : ∀ x, x ∈ A.fp p → ∀ y, H y = none → x ≠ y := fun x hx y hy e => M.ne0 hx (by rw [e]; exact hy)
theorem mk_out {A : MA} {m : Mch} (M : MachAt K H p src A m) (hb : m.born = m.obs.length) : putK (objK 0 A.os) (Sum.inl (m.born : Int) : Key) = fun v => objK 0 A.os ++ [(Sum.inl (m.born : Int), v)] := by
  funext v
  have h : valV (objK 0 A.os) (Sum.inl (m.born : Int) : Key) = none := objK_out A.os 0 _ (.inr (by rw [hb, Paired.len M.os]; omega))
  unfold putK
  rw [if_neg]
  intro z
  rw [List.any_eq_true] at z
  obtain ⟨q, hq, e⟩ := z
  unfold valV at h
  rw [Option.map_eq_none_iff, List.find?_eq_none] at h
  exact h q hq e
theorem sc_Machine_make : FnScope ["self", "title", "number", "field", "kind"] ["self", "title"] d_Machine_make.scope := ⟨rfl, rfl, rfl, by decide +kernel, rfl, by decide +kernel, by decide +kernel⟩
theorem k_Machine_make (T : Tx w K mg) : Ok P w K mg base 2 d_Machine_make ["self", "title"] (spMake K) := by
  refine Ok.of T.d_Machine_make sc_Machine_make (fun _ _ _ _ _ _ us hl => match us, hl with | [_, _], _ => rfl) (fun vs H Q E h => ?_) (fun cdv A outer s H vs Q E hr h => ?_)
  · obtain ⟨H0, p, src, A, m, G, rfl, _⟩ := h
    rfl
  · obtain ⟨H0, p, src, Am, m, G, rfl, O, hb, hlen, k⟩ := h
    have M := O.m
    refine ⟨_, (pss_cons (ps_set (i := 2) sc_Machine_make.nd rfl (.inl rfl) (pe_fld (pv 0) rfl))
      (pss_cons (ps_fldaug (pv 0) pe_int in_add)
      (pss_cons (ps_dput (hu_of hr) (pe_fld (pv 0) rfl) (pv 2) (pe_tup (pa_cons (pv 1) (pa_cons (pe_dc (own := [("field", 3), ("kind", 4)]) (g := (gTup K 2 (gCons (gName 3) (gCons (gName 4) gNil)))) (tt := tYes) (by rfl) sc_Machine_make.nd  (pi_list (pe_dget (hu_of hr) (pe_fld (pe_fld (pv 0) rfl) rfl) (pv 1) (fun _ _ => rfl))) (blkOk_by (own := [("field", 3), ("kind", 4)]) (N := ["self", "title", "number", "field", "kind"]) (sc := d_Machine_make.scope) (by decide +kernel)) (fun _ _ _ _ _ => (pg_tup rfl (pgs_cons (pg_name (i := 3) sc_Machine_make.nd rfl (.inl rfl)) (pgs_cons (pg_name (i := 4) sc_Machine_make.nd rfl (.inl rfl)) pgs_nil)))) (fun _ _ _ _ _ => pts_nil) (fun _ _ _ _ _ => (pv 3)) (fun _ _ _ _ _ => (pe_G (k_blank T) (hr.mono (by decide)) T.g_blank (pa_cons (pv 4) pa_nil)))) pa_nil))) rfl)
      (pss_one (ps_ret (pe_tup (pa_cons pe_str (pa_cons (pv 2) pa_nil)))))))), ?_⟩
    refine ⟨_, rfl, _, _, _, _, _, rfl, M.ins, T.c_Machine, T.n_Machine_born, (by rfl), ?_⟩
    -- self.born += 1
    refine ⟨_, rfl, p, _, _, _, _, rfl, M.ins, T.c_Machine, T.n_Machine_born, rfl, _, _, rfl, rfl, ?_⟩
    refine ⟨_, _, M.ins, (by show 7 < 1000; decide), ?_⟩
    have M1 := M.setIns (m.born + 1) m.cnt Am.rv m.res M.res
    have v1 : Mv H (upd H p (.ins (He.ga K "Machine") Am.dx (mFs src Am.st Am.ob (m.born + 1) Am.wr Am.rv m.cnt))) (Am.fp p) (Am.fp p) := mv_upd (by simp [mem_fp]) (M.noT (by simp [mem_fp]))
    have O1 := O.mv M1 v1
    have S1 := O1.sr
    have e1 : putF "born" (.int ((m.born : Int) + 1)) (mFs src Am.st Am.ob m.born Am.wr Am.rv m.cnt) = mFs src Am.st Am.ob (m.born + 1) Am.wr Am.rv m.cnt := by kernel_rfl
    rw [e1]
    generalize (upd H p (.ins (He.ga K "Machine") Am.dx (mFs src Am.st Am.ob (m.born + 1) Am.wr Am.rv m.cnt))) = H1 at M1 v1 O1 S1
    -- the fields
    obtain ⟨dx, cr, fk, kf, ca, ff, fg, h1, h2, h3, h4, h5, h6, h7⟩ := S1.ex
    obtain ⟨ts, i1, i2⟩ := h3
    match ts, i2 with
    | [t0, t1], .cons h0 (.cons h1' .nil) =>
      refine ⟨_, rfl, _, rfl, _, _, _, _, _, rfl, M1.ins, T.c_Machine, T.n_Machine_source, (by rfl), _, _, _, _, _, rfl, h1, T.c_Source, T.n_Source_class_rows, (by kernel_rfl), _, rfl, cr, _, rfl, .inl ⟨_, Sum.inr "cell", h2, rfl, rfl⟩, ca, rfl, ⟨_, SqL.of i1⟩, fun D hD => ?_⟩
      have nD1 : H1 D = none := hD
      refine dc_it (walk_list (xs := [.ref t0, .ref t1])) (fun j H' => H' = upd H1 D (.dK (blankFd.take j))) rfl (fun j H' _ e => by rw [e]; exact (same_new nD1).seq (SqL.of i1)) (fun j x H2 H' hj e y => ?_) (fun H' e => ?_)
      · obtain ⟨rfl, y⟩ := y
        subst e
        match j, hj with
        | 0, _ =>
          cases y
          exact ⟨t0, _, rfl, SqT.of (same_new nD1 _ _ h0), rfl, _, _, rfl, _, _, rfl, rfl, rfl, _, rfl, _, rfl, .inl ⟨rfl, [], Sum.inr "item", rfl, upd_same, (by show 0 < sizeLine; decide), by rw [upd_upd]; rfl⟩⟩
        | 1, _ =>
          cases y
          exact ⟨t1, _, rfl, SqT.of (same_new nD1 _ _ h1'), rfl, _, _, rfl, _, _, rfl, rfl, rfl, _, rfl, _, rfl, .inr ⟨rfl, [(Sum.inr "item", .int 0)], Sum.inr "next", rfl, upd_same, (by show 1 < sizeLine; decide), by rw [upd_upd]; congr 2⟩⟩
      · subst e
        have s2 : Same H1 (upd H1 D (.dK (blankFd.take [V.ref t0, V.ref t1].length))) := same_new nD1
        have hD2 : (upd H1 D (.dK (blankFd.take [V.ref t0, V.ref t1].length))) D = some (.dK blankFd) := upd_same
        generalize (upd H1 D (.dK (blankFd.take [V.ref t0, V.ref t1].length))) = H2 at s2 hD2
        refine ⟨(by show 2 ≤ sizeLine; decide), fun t ht => ?_⟩
        have nt1 : H1 t = none := s2.free ht
        have s3 : Same H1 (upd H2 t (.tup [.str "cell", .ref D])) := s2.put nt1
        have Ob3 : ObAt (upd H2 t (.tup [.str "cell", .ref D])) ⟨t, D, .non⟩ ⟨0, none⟩ := ⟨upd_same, by rw [upd_ne (ne_of_none hD2 ht)]; exact hD2, rfl⟩
        generalize (upd H2 t (.tup [.str "cell", .ref D])) = H3 at s3 Ob3
        have M3 := M1.same s3
        refine ⟨_, rfl, _, _, _, _, _, rfl, M3.ins, T.c_Machine, T.n_Machine_objects, (by rfl), _, rfl, Am.ob, _, rfl, DPut.k (k := Sum.inl (m.born : Int)) M3.ob ?_, ?_⟩
        · rw [objK_len]
          show Am.os.length < sizeLine
          rw [Paired.len M.os]
          exact lt_line hlen
        have e2 : putK (objK 0 Am.os) (Sum.inl (m.born : Int) : Key) (.ref t) = objK 0 (Am.os ++ [⟨t, D, .non⟩]) := by
          rw [mk_out M hb, objK_snoc, Nat.zero_add, Paired.len M.os, hb]
        rw [e2]
        have M4 := M3.addOb Ob3 (M1.out nD1)
        have v4 : Mv H1 (upd H3 Am.ob (.dK (objK 0 (Am.os ++ [⟨t, D, .non⟩])))) (Am.fp p) (MA.fp p { Am with os := Am.os ++ [⟨t, D, .non⟩] }) := by
          refine Mv.more ((Mv.of s3 _).trans (mv_upd (by simp [mem_fp]) (M3.noT (by simp [mem_fp])))) fun x hx => ?_
          rw [mem_fp] at hx ⊢
          rcases hx with e | e | e | e | e | e | ⟨a, ha, e⟩
          · exact .inl (.inl e)
          · exact .inl (.inr (.inl e))
          · exact .inl (.inr (.inr (.inl e)))
          · exact .inl (.inr (.inr (.inr (.inl e))))
          · exact .inl (.inr (.inr (.inr (.inr (.inl e)))))
          · exact .inl (.inr (.inr (.inr (.inr (.inr (.inl e))))))
          · rcases List.mem_append.mp ha with q | q
            · exact .inl (.inr (.inr (.inr (.inr (.inr (.inr ⟨a, q, e⟩))))))
            · right
              rw [List.mem_singleton.mp q] at e
              rw [← e]; exact nD1
        refine ⟨_, rfl, (by show 2 ≤ sizeLine; decide), fun t' ht' => ?_⟩
        exact k _ _ _ (M4.same (same_new ht')) ((v1.trans v4).trans (Mv.of (same_new ht') _)) rfl ⟨t', rfl, upd_same⟩
end
end K18
set_option Elab.async false
set_option linter.all false
set_option maxRecDepth 100000
set_option pp.deepTerms false
set_option pp.maxSteps 400
set_option maxHeartbeats 4000000
namespace K18
open PySem PySem.Spec PyProof.Rows L2
theorem var_n (num : NV → Int) (ov : OV → V) (x : NV) : valV (varKvs num ov) (Sum.inr x.s : Key) = some (.int (num x)) := by
  cases x <;> kernel_rfl
theorem var_o (num : NV → Int) (ov : OV → V) (s : OV) : valV (varKvs num ov) (Sum.inr s.s : Key) = some (ov s) := by
  cases s <;> kernel_rfl
theorem put_n (num : NV → Int) (ov : OV → V) (x : NV) (i : Int) : putK (varKvs num ov) (Sum.inr x.s : Key) (.int i) = varKvs (fun y => if y = x then i else num y) ov := by
  cases x <;> kernel_rfl
theorem put_o (num : NV → Int) (ov : OV → V) (s : OV) (v : V) : putK (varKvs num ov) (Sum.inr s.s : Key) v = varKvs num (fun t => if t = s then v else ov t) := by
  cases s <;> kernel_rfl
section
variable {P : Program} {w : World} {K : PySem.W.Frag} {mg : Str → Option Value} {base : Heap}
variable {H H' : Hp} {p src : Addr} {A : MA} {m : Mch} {G : Prg}
theorem mv_st (M : MachAt K H p src A m) (o : HO) : Mv H (upd H A.st o) (A.fp p) (A.fp p) := mv_upd (by simp [mem_fp]) (M.noT (by simp [mem_fp]))
theorem mv_p (M : MachAt K H p src A m) (o : HO) : Mv H (upd H p o) (A.fp p) (A.fp p) := mv_upd (by simp [mem_fp]) (M.noT (by simp [mem_fp]))
theorem mv_wr (M : MachAt K H p src A m) (o : HO) : Mv H (upd H A.wr o) (A.fp p) (A.fp p) := mv_upd (by simp [mem_fp]) (M.noT (by simp [mem_fp]))
theorem mv_fl (M : MachAt K H p src A m) {f : FA} (h : f ∈ A.fs) (o : HO) : Mv H (upd H f.l o) (A.fp p) (A.fp p) := by
  have : f.l ∈ A.fp p := mem_fp.mpr (.inr (.inr (.inr (.inr (.inl ⟨f, h, rfl⟩)))))
  exact mv_upd this (M.noT this)
theorem mv_fd (M : MachAt K H p src A m) {f : FA} (h : f ∈ A.fs) (o : HO) : Mv H (upd H f.d o) (A.fp p) (A.fp p) := by
  have : f.d ∈ A.fp p := mem_fp.mpr (.inr (.inr (.inr (.inr (.inr (.inl ⟨f, h, rfl⟩))))))
  exact mv_upd this (M.noT this)
theorem mv_od (M : MachAt K H p src A m) {f : OA} (h : f ∈ A.os) (o : HO) : Mv H (upd H f.d o) (A.fp p) (A.fp p) := by
  have : f.d ∈ A.fp p := mem_fp.mpr (.inr (.inr (.inr (.inr (.inr (.inr ⟨f, h, rfl⟩))))))
  exact mv_upd this (M.noT this)
theorem fp_ov {f : FA} {fr : List FA} (hA : A.fs = f :: fr) (ov : OV → V) : ∀ x ∈ MA.fp p { A with fs := { f with ov := ov } :: fr }, x ∈ A.fp p :=
  fp_sub rfl rfl rfl (fun a ha => by
    rcases List.mem_cons.mp ha with e | e
    · exact ⟨f, by rw [hA]; exact List.mem_cons_self, by rw [e], by rw [e]⟩
    · exact ⟨a, by rw [hA]; exact List.mem_cons_of_mem _ e, rfl, rfl⟩) fun a ha => ⟨a, ha, rfl⟩
/-! give_back -/
def spGive (K : PySem.W.Frag) : Sp := fun vs H Q _ => ∃ (H0 : Hp) (p src : Addr) (A : MA) (m : Mch) (G : Prg) (t : Fr) (rest : List Fr) (i : Int), vs = [.ref p, .int i] ∧ On K H0 H p src A m G ∧ m.stack = t :: rest ∧ (∀ c r, rest = c :: r → Calls G c) ∧
  ∀ H' A', MachAt K H' p src A' (giveBack G m rest i) → Mv H H' (A.fp p) (A'.fp p) → Q .non H'
theorem sc_Machine_give_back : FnScope ["self", "value", "frame", "row"] ["self", "value"] d_Machine_give_back.scope := ⟨rfl, rfl, rfl, by decide +kernel, rfl, by decide +kernel, by decide +kernel⟩
theorem k_Machine_give_back (T : Tx w K mg) : Ok P w K mg base 1 d_Machine_give_back ["self", "value"] (spGive K) := by
  refine Ok.of T.d_Machine_give_back sc_Machine_give_back (fun _ _ _ _ _ _ us hl => match us, hl with | [_, _], _ => rfl) (fun vs H Q E h => ?_) (fun cdv A outer s H vs Q E hr h => ?_)
  · obtain ⟨H0, p, src, A, m, G, t, rest, i, rfl, _⟩ := h
    rfl
  · obtain ⟨H0, p, src, Am, m, G, t, rest, i, rfl, O, hm, hcl, k⟩ := h
    have M := O.m
    refine ⟨_, (pss_cons (ps_expr (pe_bm0 PySem.F.plainAttrs_list PySem.F.slot_list_pop PySem.F.type_list_pop mt_pop (pe_fld (pv 0) rfl)))
      (pss_cons (ps_if (pt_cmpR (op_eqNil (Nat.lt_of_le_of_lt (Nat.le_add_right _ 64) hr.units)) (pe_fld (pv 0) rfl) (pe_lst pa_nil) (nomark _)) (pss_cons (ps_fld (pv 0) (pe_tup (pa_cons pe_str (pa_cons (pv 1) pa_nil))) rfl)
      (pss_one ps_retN)) pss_nil)
      (pss_cons (ps_set (i := 2) sc_Machine_give_back.nd rfl (.inl rfl) (pe_ix ix_list (pe_fld (pv 0) rfl) (pe_un un_neg pe_int) (fun _ _ => rfl)))
      (pss_cons (ps_set (i := 3) sc_Machine_give_back.nd rfl (.inl rfl) (pe_ix ix_list (pe_fld (pe_dget (hu_of hr) (pe_fld (pe_fld (pv 0) rfl) rfl) (pe_ix ix_list (pv 2) pe_int (fun _ _ => rfl)) (fun _ _ => rfl)) rfl) (pe_ix ix_list (pv 2) pe_int (fun _ _ => rfl)) (fun _ _ => rfl)))
      (pss_cons (ps_dput (hu_of hr) (pe_ix ix_list (pv 2) pe_int (fun _ _ => rfl)) (pe_ix ix_tup (pv 3) pe_int (fun _ _ => rfl)) (pv 1) rfl)
      (pss_one (ps_augS (pv 2) pe_int get_list pe_int ip_add set_list))))))), ?_⟩
    obtain ⟨f, fr, hA, F, Fr'⟩ := M.head hm
    refine ⟨_, rfl, _, _, _, _, _, rfl, M.ins, T.c_Machine, T.n_Machine_stack, (by rfl), ?_, Am.st, _, .ref f.l, rfl, rfl, M.stk hA, by simp, ?_⟩
    · exact .inl ⟨rfl, _, SqL.of (M.stk hA)⟩
    rw [List.dropLast_concat]
    have M1 := M.pop hA hm
    have v1 := (mv_st M (.lst (fr.reverse.map fun a => V.ref a.l))).sub (S2 := MA.fp p { Am with fs := fr }) (fp_sub rfl rfl rfl (fun a ha => ⟨a, by rw [hA]; exact List.mem_cons_of_mem _ ha, rfl, rfl⟩) fun a ha => ⟨a, ha, rfl⟩)
    generalize (upd H Am.st (.lst (fr.reverse.map fun a => V.ref a.l))) = H1 at M1 v1
    refine ⟨_, rfl, _, _, _, _, _, rfl, M1.ins, T.c_Machine, T.n_Machine_stack, (by rfl), Nat.zero_le _, fun b hb => ⟨Am.st, b, _, rfl, rfl, SqL.of (by rw [upd_ne (ne_of_none M1.st hb)]; exact M1.st), SqL.of upd_same, _, rfl, ?_⟩⟩
    have s2 : Same H1 (upd H1 b (.lst [])) := same_new hb
    generalize (upd H1 b (.lst [])) = H2 at s2
    have M2 := M1.same s2
    have v2 := v1.trans (Mv.of s2 _)
    have O2 := O.mv M2 v2
    cases rest with
    | nil =>
      cases Fr'
      refine ifB rfl ?_
      refine ⟨_, rfl, (by show 2 ≤ sizeLine; decide), fun t ht => ?_⟩
      have M3 := M2.same (same_new (o := .tup [.str "done", .int i]) ht)
      have R3 : ResAt (upd H2 t (.tup [.str "done", .int i])) (.ref t) (some i) := ⟨t, rfl, upd_same⟩
      have v3 := v2.trans (Mv.of (same_new (o := .tup [.str "done", .int i]) ht) _)
      generalize (upd H2 t (.tup [.str "done", .int i])) = H3 at M3 v3 R3
      refine ⟨_, rfl, p, _, _, _, rfl, M3.ins, T.c_Machine, T.n_Machine_result, (by show 7 < 1000; decide), ?_⟩
      exact k _ _ (M3.setIns m.born m.cnt (.ref t) (some i) R3) (v3.trans (mv_p M3 _))
    | cons c r =>
      obtain ⟨x, y, sv, hg⟩ := hcl c r rfl
      cases fr with
      | nil => cases Fr'
      | cons fc fr =>
        refine ifBf (by simp) ?_
        obtain ⟨fc', fr', hA2, F2, _⟩ := M2.head rfl
        cases hA2
        refine ⟨_, rfl, _, _, _, _, _, rfl, M2.ins, T.c_Machine, T.n_Machine_stack, (by rfl), 1, rfl, Am.st, _, -1, _, rfl, rfl, SqL.of (M2.stk rfl), atI_last _ _, ?_⟩
        obtain ⟨dxs, cr, fk, kf, fa, hs, dg, Fa⟩ := O2.sr.kept c.fn
        obtain ⟨dx, ii, ei, kd, rl, rs, f1, f2, f3, f4, f5⟩ := Fa.ex
        obtain ⟨ra, hra, q, hrow, _⟩ := Paired.getR f5 hg
        refine ⟨_, rfl, _, _, _, _, _, rfl, M2.ins, T.c_Machine, T.n_Machine_source, (by rfl), _, _, _, _, _, rfl, hs, T.c_Source, T.n_Source_kept_functions, (by kernel_rfl), _, rfl, fc.l, _, 0, _, rfl, rfl, SqL.of F2.l, rfl, kf, .ref fa, rfl, dg, _, _, _, _, _, rfl, f1, T.c_Function, T.n_Function_row_list, (by kernel_rfl), _, rfl, fc.l, _, 1, _, rfl, rfl, SqL.of F2.l, rfl, rl, _, (c.at_ : Int), _, rfl, rfl, SqL.of f4, atI_nat (by rw [List.getElem?_map, hra]; rfl), ?_⟩
        refine ⟨_, rfl, _, rfl, fc.l, _, 2, _, rfl, rfl, SqL.of F2.l, rfl, _, rfl, ra, _, 1, _, rfl, rfl, SqT.of hrow, rfl, fc.d, _, rfl, DPut.k (k := Sum.inr x.s) F2.d (by show 5 < sizeLine; decide), ?_⟩
        rw [put_n]
        have M3 := M2.setVs (f := fc) (r := fr) (t := c) (rest := r) rfl rfl (fun y => if y = x then i else c.num y) c.obj fc.ov F2.o
        have v3 := v2.trans (mv_fd M2 (f := fc) List.mem_cons_self (.dK (varKvs (fun y => if y = x then i else c.num y) fc.ov)))
        generalize (upd H2 fc.d (.dK (varKvs (fun y => if y = x then i else c.num y) fc.ov))) = H3 at M3 v3
        obtain ⟨f3', fr3, hA3, F3, _⟩ := M3.head rfl
        cases hA3
        refine ⟨_, rfl, fc.l, _, 1, _, rfl, rfl, SqL.of F3.l, by decide, rfl, _, _, rfl, rfl, fc.l, _, 1, 1, rfl, rfl, F3.l, rfl, ?_⟩
        have M4 := M3.setAt (f := fc) (r := fr) (t := { c with num := fun y => if y = x then i else c.num y, obj := c.obj }) (rest := r) rfl rfl (c.at_ + 1)
        have e : giveBack G m (c :: r) i = m.top (c.setN x i).nx r := by
          simp only [giveBack, callVar, hg]
        refine k _ _ (by rw [e]; exact M4) (v3.trans (mv_fl M3 (f := fc) List.mem_cons_self _))
/-! value_of -/
inductive Rs | i (n : Int) | o (x : Option Nat)
def rowRs (m : Mch) (t : Fr) : Row → Option Rs
  | .num _ => some (.i 5)
  | .cpN _ y => some (.i (t.num y))
  | .add _ y z => some (.i (t.num y + t.num z))
  | .sub _ y z => some (.i (t.num y - t.num z))
  | .less _ y z => some (.i (b01 (decide (t.num y < t.num z))))
  | .same _ s u => some (.i (b01 (decide (t.obj s = t.obj u))))
  | .nil _ => some (.o none)
  | .cpO _ u => some (.o (t.obj u))
  | .new _ => some (.o (some m.born))
  | .getI _ s => some (.i (m.item (t.obj s)))
  | .getN _ u => some (.o (m.next (t.obj u)))
  | _ => none
def rowM (m : Mch) : Row → Mch
  | .new _ => m.make
  | _ => m
def Vl (H : Hp) (v : V) : Rs → Prop
  | .i n => v = .int n
  | .o x => RepO H v x
def spValue (K : PySem.W.Frag) : Sp := fun vs H Q _ => ∃ (H0 : Hp) (p src : Addr) (A : MA) (m : Mch) (G : Prg) (t : Fr) (rest : List Fr) (f : FA) (fr : List FA) (r : Row) (ra : Addr) (rs : Rs) (j : Nat), vs = [.ref p, .ref ra, .ref f.d] ∧ On K H0 H p src A m G ∧ m.stack = t :: rest ∧ A.fs = f :: fr ∧
  Good G j m ∧ j < 190 ∧ RowAt false H ra r ∧ rowRs m t r = some rs ∧ m.obs.length < 1000 ∧ ∀ H' A' v, MachAt K H' p src A' (rowM m r) → Mv H H' (A.fp p) (A'.fp p) → A'.fs = A.fs → Vl H' v rs → Q v H'
theorem item_at {m : Mch} {n : Nat} {o : Ob} (h : m.obs[n]? = some o) : m.item (some n) = o.item := by simp only [Mch.item, h]
theorem next_at {m : Mch} {n : Nat} {o : Ob} (h : m.obs[n]? = some o) : m.next (some n) = o.next := by simp only [Mch.next, h]
theorem sc_Machine_value_of : FnScope ["self", "row", "variables", "word", "fields"] ["self", "row", "variables"] d_Machine_value_of.scope := ⟨rfl, rfl, rfl, by decide +kernel, rfl, by decide +kernel, by decide +kernel⟩
theorem k_Machine_value_of (T : Tx w K mg) : Ok P w K mg base 3 d_Machine_value_of ["self", "row", "variables"] (spValue K) := by
  refine Ok.of T.d_Machine_value_of sc_Machine_value_of (fun _ _ _ _ _ _ us hl => match us, hl with | [_, _, _], _ => rfl) (fun vs H Q E h => ?_) (fun cdv A outer s H vs Q E hr h => ?_)
  · obtain ⟨H0, p, src, A, m, G, t, rest, f, fr, r, ra, rs, j, rfl, _⟩ := h
    rfl
  · obtain ⟨H0, p, src, Am, m, G, t, rest, f, fr, r, ra, rs, j, rfl, O, hm, hA, Gd, hj, hrow, hrs, hlen, k⟩ := h
    have M := O.m
    refine ⟨_, (pss_cons (ps_set (i := 3) sc_Machine_value_of.nd rfl (.inl rfl) (pe_ix ix_tup (pv 1) pe_int (fun _ _ => rfl)))
      (pss_cons (ps_if (pt_cmpR op_eq (pv 3) pe_str (nomark _)) (pss_one (ps_ret (pe_ix ix_tup (pv 1) pe_int (fun _ _ => rfl)))) pss_nil)
      (pss_cons (ps_if (pt_cmpR op_eq (pv 3) pe_str (nomark _)) (pss_one (ps_ret pe_non)) pss_nil)
      (pss_cons (ps_if (pt_cmpR op_eq (pv 3) pe_str (nomark _)) (pss_one (ps_ret (pe_M (k_Machine_make T) (hr.mono (by decide)) T.c_Machine T.h_Machine_make rfl (pv 0) (pa_cons (pe_ix ix_tup (pv 1) pe_int (fun _ _ => rfl)) pa_nil)))) pss_nil)
      (pss_cons (ps_if (pt_cmpR op_eq (pv 3) pe_str (nomark _)) (pss_cons (ps_set (i := 4) sc_Machine_value_of.nd rfl (.inl rfl) (pe_M (k_Machine_fields_of T) (hr.mono (by decide)) T.c_Machine T.h_Machine_fields_of rfl (pv 0) (pa_cons (pe_dget (hu_of hr) (pv 2) (pe_ix ix_tup (pv 1) pe_int (fun _ _ => rfl)) (fun _ _ => rfl)) (pa_cons (pe_ix ix_tup (pv 1) pe_int (fun _ _ => rfl)) pa_nil))))
      (pss_one (ps_ret (pe_ifExp (pt_cmp (pc_isN (pv 4))) (pe_M (k_Machine_blank_field T) (hr.mono (by decide)) T.c_Machine T.h_Machine_blank_field rfl (pv 0) (pa_cons (pe_ix ix_tup (pv 1) pe_int (fun _ _ => rfl)) pa_nil)) (pe_dget (hu_of hr) (pv 4) (pe_ix ix_tup (pv 1) pe_int (fun _ _ => rfl)) (fun _ _ => rfl)))))) pss_nil)
      (pss_cons (ps_if (pt_cmpR op_eq (pv 3) pe_str (nomark _)) (pss_one (ps_ret (pe_dget (hu_of hr) (pv 2) (pe_ix ix_tup (pv 1) pe_int (fun _ _ => rfl)) (fun _ _ => rfl)))) pss_nil)
      (pss_one (ps_ret (pe_G (k_bounded T) (hr.mono (by decide)) T.g_bounded (pa_cons (pe_G (k_reckoned T) (hr.mono (by decide)) T.g_reckoned (pa_cons (pv 3) (pa_cons (pe_dget (hu_of hr) (pv 2) (pe_ix ix_tup (pv 1) pe_int (fun _ _ => rfl)) (fun _ _ => rfl)) (pa_cons (pe_dget (hu_of hr) (pv 2) (pe_ix ix_tup (pv 1) pe_int (fun _ _ => rfl)) (fun _ _ => rfl)) pa_nil)))) pa_nil)))))))))), ?_⟩
    obtain ⟨f', fr', hA', F, _⟩ := M.head hm
    rw [hA] at hA'
    cases hA'
    obtain ⟨q, hrow, _⟩ := hrow
    have Ft := Gd.fr t (by rw [hm]; exact List.mem_cons_self)
    cases r with
    | num x =>
      cases hrs
      refine ⟨_, rfl, ra, _, 0, _, rfl, rfl, SqT.of hrow, rfl, ?_⟩
      refine ⟨_, rfl, rfl, _, rfl, ifD_t rfl ⟨_, rfl, ra, _, 2, _, rfl, rfl, SqT.of hrow, rfl, k H Am _ M (Mv.refl _ _) rfl rfl⟩⟩
    | nil s =>
      cases hrs
      refine ⟨_, rfl, ra, _, 0, _, rfl, rfl, SqT.of hrow, rfl, ?_⟩
      refine ⟨_, rfl, rfl, _, rfl, ifD_f (by decide +kernel) ?_⟩
      refine ⟨_, rfl, rfl, _, rfl, ifD_t rfl (k H Am _ M (Mv.refl _ _) rfl rfl)⟩
    | new s =>
      cases hrs
      refine ⟨_, rfl, ra, _, 0, _, rfl, rfl, SqT.of hrow, rfl, ?_⟩
      refine ⟨_, rfl, rfl, _, rfl, ifD_f (by decide +kernel) ?_⟩
      refine ⟨_, rfl, rfl, _, rfl, ifD_f (by decide +kernel) ?_⟩
      refine ⟨_, rfl, rfl, _, rfl, ifD_t rfl ?_⟩
      refine ⟨_, rfl, p, _, _, rfl, M.ins, by kernel_rfl, _, rfl, ra, _, 2, _, rfl, rfl, SqT.of hrow, rfl, ?_⟩
      exact ⟨H0, p, src, Am, m, G, rfl, O, Gd.born, hlen, fun H' A' v M' v' e rv => k H' A' v M' v' e rv⟩
    | getI x s =>
      cases hrs
      refine ⟨_, rfl, ra, _, 0, _, rfl, rfl, SqT.of hrow, rfl, ?_⟩
      refine ⟨_, rfl, rfl, _, rfl, ifD_f (by decide +kernel) ?_⟩
      refine ⟨_, rfl, rfl, _, rfl, ifD_f (by decide +kernel) ?_⟩
      refine ⟨_, rfl, rfl, _, rfl, ifD_f (by decide +kernel) ?_⟩
      refine ⟨_, rfl, rfl, _, rfl, ifD_t rfl ?_⟩
      refine ⟨_, rfl, p, _, _, rfl, M.ins, by kernel_rfl, _, rfl, _, rfl, ra, _, 2, _, rfl, rfl, SqT.of hrow, rfl, f.d, f.ov s, rfl, .inl ⟨_, Sum.inr s.s, .inl F.d, rfl, (var_o _ _ _).symm⟩, _, rfl, ra, _, 3, _, rfl, rfl, SqT.of hrow, rfl, ?_⟩
      have hv := F.o s
      have hb := Ft.obj s
      cases ho : t.obj s with
      | none =>
        rw [ho] at hv
        refine ⟨p, src, Am, m, _, _, rfl, M, .inl rfl, .inl ⟨hv, ?_⟩⟩
        refine ⟨_, rfl, _, rfl, ifD_t rfl ?_⟩
        refine ⟨_, rfl, p, _, _, rfl, M.ins, by kernel_rfl, _, rfl, ra, _, 3, _, rfl, rfl, SqT.of hrow, rfl, p, src, Am, m, G, _, rfl, M, O.sr, .inl ⟨rfl, ?_⟩⟩
        exact k H Am _ M (Mv.refl _ _) rfl (by rw [ho]; rfl)
      | some n =>
        rw [ho] at hv
        obtain ⟨ta, hv1, hv2⟩ := hv
        have hn := List.getElem?_eq_getElem (hb n ho)
        obtain ⟨a, ha, Oa, _⟩ := M.obAt hn
        refine ⟨p, src, Am, m, _, _, rfl, M, .inl rfl, .inr ⟨n, _, a, ta, hv1, hv2, hn, ha, ?_⟩⟩
        refine ⟨_, rfl, _, rfl, ifD_f (by intro z; cases z) ?_⟩
        refine ⟨_, rfl, _, rfl, ra, _, 3, _, rfl, rfl, SqT.of hrow, rfl, a.d, _, rfl, .inl ⟨_, Sum.inr "item", .inl Oa.d, rfl, rfl⟩, ?_⟩
        exact k H Am _ M (Mv.refl _ _) rfl (by rw [ho, item_at hn]; rfl)
    | getN x s =>
      cases hrs
      refine ⟨_, rfl, ra, _, 0, _, rfl, rfl, SqT.of hrow, rfl, ?_⟩
      refine ⟨_, rfl, rfl, _, rfl, ifD_f (by decide +kernel) ?_⟩
      refine ⟨_, rfl, rfl, _, rfl, ifD_f (by decide +kernel) ?_⟩
      refine ⟨_, rfl, rfl, _, rfl, ifD_f (by decide +kernel) ?_⟩
      refine ⟨_, rfl, rfl, _, rfl, ifD_t rfl ?_⟩
      refine ⟨_, rfl, p, _, _, rfl, M.ins, by kernel_rfl, _, rfl, _, rfl, ra, _, 2, _, rfl, rfl, SqT.of hrow, rfl, f.d, f.ov s, rfl, .inl ⟨_, Sum.inr s.s, .inl F.d, rfl, (var_o _ _ _).symm⟩, _, rfl, ra, _, 3, _, rfl, rfl, SqT.of hrow, rfl, ?_⟩
      have hv := F.o s
      have hb := Ft.obj s
      cases ho : t.obj s with
      | none =>
        rw [ho] at hv
        refine ⟨p, src, Am, m, _, _, rfl, M, .inr rfl, .inl ⟨hv, ?_⟩⟩
        refine ⟨_, rfl, _, rfl, ifD_t rfl ?_⟩
        refine ⟨_, rfl, p, _, _, rfl, M.ins, by kernel_rfl, _, rfl, ra, _, 3, _, rfl, rfl, SqT.of hrow, rfl, p, src, Am, m, G, _, rfl, M, O.sr, .inr ⟨rfl, ?_⟩⟩
        exact k H Am _ M (Mv.refl _ _) rfl (by rw [ho]; rfl)
      | some n =>
        rw [ho] at hv
        obtain ⟨ta, hv1, hv2⟩ := hv
        have hn := List.getElem?_eq_getElem (hb n ho)
        obtain ⟨a, ha, Oa, _⟩ := M.obAt hn
        refine ⟨p, src, Am, m, _, _, rfl, M, .inr rfl, .inr ⟨n, _, a, ta, hv1, hv2, hn, ha, ?_⟩⟩
        refine ⟨_, rfl, _, rfl, ifD_f (by intro z; cases z) ?_⟩
        refine ⟨_, rfl, _, rfl, ra, _, 3, _, rfl, rfl, SqT.of hrow, rfl, a.d, a.nv, rfl, .inl ⟨_, Sum.inr "next", .inl Oa.d, rfl, by kernel_rfl⟩, ?_⟩
        exact k H Am _ M (Mv.refl _ _) rfl (by rw [ho, next_at hn]; exact Oa.n)
    | cpN x y =>
      cases hrs
      refine ⟨_, rfl, ra, _, 0, _, rfl, rfl, SqT.of hrow, rfl, ?_⟩
      refine ⟨_, rfl, rfl, _, rfl, ifD_f (by decide +kernel) ?_⟩
      refine ⟨_, rfl, rfl, _, rfl, ifD_f (by decide +kernel) ?_⟩
      refine ⟨_, rfl, rfl, _, rfl, ifD_f (by decide +kernel) ?_⟩
      refine ⟨_, rfl, rfl, _, rfl, ifD_f (by decide +kernel) ?_⟩
      refine ⟨_, rfl, rfl, _, rfl, ifD_t rfl ?_⟩
      exact ⟨_, rfl, _, rfl, ra, _, 2, _, rfl, rfl, SqT.of hrow, rfl, f.d, _, rfl, .inl ⟨_, Sum.inr y.s, .inl F.d, rfl, (var_n _ _ _).symm⟩, k H Am _ M (Mv.refl _ _) rfl rfl⟩
    | cpO x y =>
      cases hrs
      refine ⟨_, rfl, ra, _, 0, _, rfl, rfl, SqT.of hrow, rfl, ?_⟩
      refine ⟨_, rfl, rfl, _, rfl, ifD_f (by decide +kernel) ?_⟩
      refine ⟨_, rfl, rfl, _, rfl, ifD_f (by decide +kernel) ?_⟩
      refine ⟨_, rfl, rfl, _, rfl, ifD_f (by decide +kernel) ?_⟩
      refine ⟨_, rfl, rfl, _, rfl, ifD_f (by decide +kernel) ?_⟩
      refine ⟨_, rfl, rfl, _, rfl, ifD_t rfl ?_⟩
      exact ⟨_, rfl, _, rfl, ra, _, 2, _, rfl, rfl, SqT.of hrow, rfl, f.d, _, rfl, .inl ⟨_, Sum.inr y.s, .inl F.d, rfl, (var_o _ _ _).symm⟩, k H Am _ M (Mv.refl _ _) rfl (F.o y)⟩
    | add x y z =>
      cases hrs
      refine ⟨_, rfl, ra, _, 0, _, rfl, rfl, SqT.of hrow, rfl, ?_⟩
      iterate 5 refine ⟨_, rfl, rfl, _, rfl, ifD_f (by decide +kernel) ?_⟩
      refine ⟨_, rfl, _, rfl, _, rfl, ra, _, 2, _, rfl, rfl, SqT.of hrow, rfl, f.d, _, rfl, .inl ⟨_, Sum.inr y.s, .inl F.d, rfl, (var_n _ _ _).symm⟩, _, rfl, _, rfl, ra, _, 3, _, rfl, rfl, SqT.of hrow, rfl, f.d, _, rfl, .inl ⟨_, Sum.inr z.s, .inl F.d, rfl, (var_n _ _ _).symm⟩, ?_⟩
      have b := ((Ft.num y).add (Ft.num z)).most (by omega)
      exact .inl ⟨_, _, rfl, _, rfl, b.1, b.2, k H Am _ M (Mv.refl _ _) rfl rfl⟩
    | sub x y z =>
      cases hrs
      refine ⟨_, rfl, ra, _, 0, _, rfl, rfl, SqT.of hrow, rfl, ?_⟩
      iterate 5 refine ⟨_, rfl, rfl, _, rfl, ifD_f (by decide +kernel) ?_⟩
      refine ⟨_, rfl, _, rfl, _, rfl, ra, _, 2, _, rfl, rfl, SqT.of hrow, rfl, f.d, _, rfl, .inl ⟨_, Sum.inr y.s, .inl F.d, rfl, (var_n _ _ _).symm⟩, _, rfl, _, rfl, ra, _, 3, _, rfl, rfl, SqT.of hrow, rfl, f.d, _, rfl, .inl ⟨_, Sum.inr z.s, .inl F.d, rfl, (var_n _ _ _).symm⟩, ?_⟩
      have b := ((Ft.num y).sub (Ft.num z)).most (by omega)
      exact .inr (.inl ⟨_, _, rfl, _, rfl, b.1, b.2, k H Am _ M (Mv.refl _ _) rfl rfl⟩)
    | less x y z =>
      cases hrs
      refine ⟨_, rfl, ra, _, 0, _, rfl, rfl, SqT.of hrow, rfl, ?_⟩
      iterate 5 refine ⟨_, rfl, rfl, _, rfl, ifD_f (by decide +kernel) ?_⟩
      refine ⟨_, rfl, _, rfl, _, rfl, ra, _, 2, _, rfl, rfl, SqT.of hrow, rfl, f.d, _, rfl, .inl ⟨_, Sum.inr y.s, .inl F.d, rfl, (var_n _ _ _).symm⟩, _, rfl, _, rfl, ra, _, 3, _, rfl, rfl, SqT.of hrow, rfl, f.d, _, rfl, .inl ⟨_, Sum.inr z.s, .inl F.d, rfl, (var_n _ _ _).symm⟩, ?_⟩
      have b := (Bd.b01 j (decide (t.num y < t.num z))).most (by omega)
      exact .inr (.inr (.inl ⟨_, _, rfl, _, rfl, b.1, b.2, k H Am _ M (Mv.refl _ _) rfl rfl⟩))
    | same x y z =>
      cases hrs
      refine ⟨_, rfl, ra, _, 0, _, rfl, rfl, SqT.of hrow, rfl, ?_⟩
      iterate 5 refine ⟨_, rfl, rfl, _, rfl, ifD_f (by decide +kernel) ?_⟩
      refine ⟨_, rfl, _, rfl, _, rfl, ra, _, 2, _, rfl, rfl, SqT.of hrow, rfl, f.d, _, rfl, .inl ⟨_, Sum.inr y.s, .inl F.d, rfl, (var_o _ _ _).symm⟩, _, rfl, _, rfl, ra, _, 3, _, rfl, rfl, SqT.of hrow, rfl, f.d, _, rfl, .inl ⟨_, Sum.inr z.s, .inl F.d, rfl, (var_o _ _ _).symm⟩, ?_⟩
      have b := (Bd.b01 j (decide (t.obj y = t.obj z))).most (by omega)
      exact .inr (.inr (.inr ⟨_, _, _, _, rfl, F.o y, F.o z, _, rfl, b.1, b.2, k H Am _ M (Mv.refl _ _) rfl rfl⟩))
    | putI s y => cases hrs
    | putN s y => cases hrs
    | call x y s => cases hrs
    | seeN x => cases hrs
    | seeO x => cases hrs
    | ifz x l => cases hrs
    | jump l => cases hrs
    | ret x => cases hrs
end
end K18
set_option Elab.async false
set_option linter.all false
set_option maxRecDepth 100000
set_option pp.deepTerms false
set_option pp.maxSteps 400
set_option maxHeartbeats 4000000
namespace K18
open PySem PySem.Spec PyProof.Rows L2
def Row.word : Row → Str
  | .num _ => "number" | .cpN _ _ => "copy" | .add _ _ _ => "add" | .sub _ _ _ => "sub" | .less _ _ _ => "less" | .same _ _ _ => "same" | .nil _ => "nil" | .cpO _ _ => "copy" | .new _ => "new"
  | .getI _ _ => "get" | .putI _ _ => "put" | .getN _ _ => "get" | .putN _ _ => "put" | .call _ _ _ => "call" | .seeN _ => "see" | .seeO _ => "see" | .ifz _ _ => "if" | .jump _ => "jump" | .ret _ => "return"
theorem word_at (r : Row) (q : V) : atI (r.parts q) 0 = some (.str r.word) := by cases r <;> rfl
theorem iteNF {c A B : Prop} [Decidable c] (hc : ¬ c) (h : A) : if (!decide c) = true then A else B := by
  rw [decide_eq_false hc]
  exact iteT h
theorem modify_set {α : Type} (f : α → α) : ∀ {l : List α} {n : Nat} {x : α}, l[n]? = some x → l.modify n f = l.set n (f x)
  | [], _, _, h => by simp at h
  | y :: r, 0, x, h => by
    have e : y = x := Option.some.inj h
    subst e
    simp
  | y :: r, n + 1, x, h => by
    have := modify_set f (l := r) (n := n) (x := x) (by simpa using h)
    simp [this]
/-- what a row of a value does -/
theorem val_row {m : Mch} {t : Fr} {rest : List Fr} {r : Row} {rs : Rs} (h : rowRs m t r = some rs) (q : V) : r.word ≠ "jump" ∧ r.word ≠ "if" ∧ r.word ≠ "see" ∧ r.word ≠ "put" ∧
    ((∃ x n, rs = .i n ∧ atI (r.parts q) 1 = some (.str (NV.s x)) ∧ doRow m t rest r = (rowM m r).top (t.setN x n).nx rest) ∨ ∃ s o, rs = .o o ∧ atI (r.parts q) 1 = some (.str (OV.s s)) ∧ doRow m t rest r = (rowM m r).top (t.setO s o).nx rest) := by
  cases r <;> cases h <;> refine ⟨by (dsimp only [Row.word]; decide +kernel), by (dsimp only [Row.word]; decide +kernel), by (dsimp only [Row.word]; decide +kernel), by (dsimp only [Row.word]; decide +kernel), ?_⟩
  all_goals first
    | exact .inl ⟨_, _, rfl, rfl, rfl⟩
    | exact .inr ⟨_, _, rfl, rfl, rfl⟩
structure Small (m : Mch) : Prop where
  st : m.stack.length < 50
  ob : m.obs.length < 1000
  lg : m.log.length < 1000
section
variable {P : Program} {w : World} {K : PySem.W.Frag} {mg : Str → Option Value} {base : Heap}
variable {H H' : Hp} {p src : Addr} {A : MA} {m : Mch} {G : Prg}
def spDoRow (K : PySem.W.Frag) : Sp := fun vs H Q _ => ∃ (H0 : Hp) (p src : Addr) (A : MA) (m : Mch) (G : Prg) (t : Fr) (rest : List Fr) (r : Row) (ra : Addr) (j : Nat), vs = [.ref p, .ref ra] ∧ On K H0 H p src A m G ∧ m.stack = t :: rest ∧
  Good G j m ∧ j < 190 ∧ Small m ∧ RowAt false H ra r ∧ (∀ x y s, r ≠ .call x y s) ∧ (∀ x, r ≠ .ret x) ∧ ∀ H' A', MachAt K H' p src A' (doRow m t rest r) → Mv H H' (A.fp p) (A'.fp p) → Q .non H'
set_option maxHeartbeats 8000000 in
theorem sc_Machine_do_row : FnScope ["self", "row", "frame", "variables", "fields"] ["self", "row"] d_Machine_do_row.scope := ⟨rfl, rfl, rfl, by decide +kernel, rfl, by decide +kernel, by decide +kernel⟩
theorem k_Machine_do_row (T : Tx w K mg) : Ok P w K mg base 4 d_Machine_do_row ["self", "row"] (spDoRow K) := by
  refine Ok.of T.d_Machine_do_row sc_Machine_do_row (fun _ _ _ _ _ _ us hl => match us, hl with | [_, _], _ => rfl) (fun vs H Q E h => ?_) (fun cdv A outer s H vs Q E hr h => ?_)
  · obtain ⟨H0, p, src, A, m, G, t, rest, r, ra, j, rfl, _⟩ := h
    rfl
  · obtain ⟨H0, p, src, Am, m, G, t, rest, r, ra, j, rfl, O, hm, Gd, hj, Sm, hrow, nc, nr, k⟩ := h
    have M := O.m
    refine ⟨_, (pss_cons (ps_set (i := 2) sc_Machine_do_row.nd rfl (.inl rfl) (pe_ix ix_list (pe_fld (pv 0) rfl) (pe_un un_neg pe_int) (fun _ _ => rfl)))
      (pss_cons (ps_set (i := 3) sc_Machine_do_row.nd rfl (.inl rfl) (pe_ix ix_list (pv 2) pe_int (fun _ _ => rfl)))
      (pss_cons (ps_if (PW.pt (pw_or (pt_cmpR op_eq (pe_ix ix_tup (pv 1) pe_int (fun _ _ => rfl)) pe_str (nomark _)) (pw_or1 (PW.pt (pw_and (pt_cmpR op_eq (pe_ix ix_tup (pv 1) pe_int (fun _ _ => rfl)) pe_str (nomark _)) (pw_and1 (pt_cmpR op_eq (pe_dget (hu_of hr) (pv 3) (pe_ix ix_tup (pv 1) pe_int (fun _ _ => rfl)) (fun _ _ => rfl)) pe_int (nomark _)))))))) (pss_cons (ps_asg (pe_ix ix_tup (pv 1) (pe_un un_neg pe_int) (fun _ _ => rfl)) (pg_sub (pv 2) pe_int set_list))
      (pss_one ps_retN)) pss_nil)
      (pss_cons (ps_if (pt_cmpR op_eq (pe_ix ix_tup (pv 1) pe_int (fun _ _ => rfl)) pe_str (nomark _)) (pss_one (ps_expr (pe_bm PySem.F.plainAttrs_list PySem.F.slot_list_append PySem.F.type_list_append mt_append (pe_fld (pv 0) rfl) (pa_cons (pe_M (k_Machine_seen T) (hr.mono (by decide)) T.c_Machine T.h_Machine_seen rfl (pv 0) (pa_cons (pe_dget (hu_of hr) (pv 3) (pe_ix ix_tup (pv 1) pe_int (fun _ _ => rfl)) (fun _ _ => rfl)) pa_nil)) pa_nil)))) (pss_one (ps_if (pt_cmpR op_eq (pe_ix ix_tup (pv 1) pe_int (fun _ _ => rfl)) pe_str (nomark _)) (pss_cons (ps_set (i := 4) sc_Machine_do_row.nd rfl (.inl rfl) (pe_M (k_Machine_fields_of T) (hr.mono (by decide)) T.c_Machine T.h_Machine_fields_of rfl (pv 0) (pa_cons (pe_dget (hu_of hr) (pv 3) (pe_ix ix_tup (pv 1) pe_int (fun _ _ => rfl)) (fun _ _ => rfl)) (pa_cons (pe_ix ix_tup (pv 1) pe_int (fun _ _ => rfl)) pa_nil))))
      (pss_one (ps_if (pt_cmp (pc_notN (pv 4))) (pss_one (ps_dput (hu_of hr) (pv 4) (pe_ix ix_tup (pv 1) pe_int (fun _ _ => rfl)) (pe_dget (hu_of hr) (pv 3) (pe_ix ix_tup (pv 1) pe_int (fun _ _ => rfl)) (fun _ _ => rfl)) rfl)) pss_nil))) (pss_one (ps_if (pt_cmpR op_ne (pe_ix ix_tup (pv 1) pe_int (fun _ _ => rfl)) pe_str (nomark _)) (pss_one (ps_dput (hu_of hr) (pv 3) (pe_ix ix_tup (pv 1) pe_int (fun _ _ => rfl)) (pe_M (k_Machine_value_of T) (hr.mono (by decide)) T.c_Machine T.h_Machine_value_of rfl (pv 0) (pa_cons (pv 1) (pa_cons (pv 3) pa_nil))) rfl)) pss_nil)))))
      (pss_one (ps_augS (pv 2) pe_int get_list pe_int ip_add set_list)))))), ?_⟩
    obtain ⟨f, fr, hA, F, _⟩ := M.head hm
    obtain ⟨q, hrow, hq⟩ := hrow
    have Ft := Gd.fr t (by rw [hm]; exact List.mem_cons_self)
    have fm : f ∈ Am.fs := by rw [hA]; exact List.mem_cons_self
    refine ⟨_, rfl, _, _, _, _, _, rfl, M.ins, T.c_Machine, T.n_Machine_stack, (by rfl), 1, rfl, Am.st, _, -1, _, rfl, rfl, SqL.of (M.stk hA), atI_last _ _, ?_⟩
    refine ⟨_, rfl, f.l, _, 2, _, rfl, rfl, SqL.of F.l, rfl, ?_⟩
    -- a row of a value
    cases hrs : rowRs m t r with
    | some rs =>
      obtain ⟨w1, w2, w3, w4, w5⟩ := val_row (rest := rest) hrs q
      refine ⟨_, rfl, ra, _, 0, _, rfl, rfl, SqT.of hrow, word_at r q, rfl, _, rfl, ifD_f (by intro z; exact w1 (V.str.inj z)) ?_⟩
      refine ⟨_, rfl, ra, _, 0, _, rfl, rfl, SqT.of hrow, word_at r q, rfl, _, rfl, ifD_f (by intro z; exact w2 (V.str.inj z)) ?_⟩
      refine ⟨_, rfl, ra, _, 0, _, rfl, rfl, SqT.of hrow, word_at r q, rfl, _, rfl, ifD_f (by intro z; exact w3 (V.str.inj z)) ?_⟩
      refine ⟨_, rfl, ra, _, 0, _, rfl, rfl, SqT.of hrow, word_at r q, rfl, _, rfl, ifD_f (by intro z; exact w4 (V.str.inj z)) ?_⟩
      refine ⟨_, rfl, ra, _, 0, _, rfl, rfl, SqT.of hrow, word_at r q, rfl, _, rfl, iteNF (by intro z; exact w2 (V.str.inj z)) ?_⟩
      refine ⟨_, rfl, p, _, _, rfl, M.ins, by kernel_rfl, _, rfl, _, rfl, ?_⟩
      refine ⟨H0, p, src, Am, m, G, t, rest, f, fr, r, ra, rs, j, rfl, O, hm, hA, Gd, hj, ⟨q, hrow, hq⟩, hrs, Sm.ob, fun H1 A1 v M1 v1 eA vl => ?_⟩
      have hm1 : (rowM m r).stack = t :: rest := by cases r <;> exact hm
      have hA1 : A1.fs = f :: fr := by rw [eA]; exact hA
      obtain ⟨f', fr', hA', F1, _⟩ := M1.head hm1
      rw [hA1] at hA'
      cases hA'
      have hrow1 : H1 ra = some (.tup (r.parts q)) := v1.tk _ _ hrow
      rcases w5 with ⟨x, n, rfl, e1, e2⟩ | ⟨x, n, rfl, e1, e2⟩
      · cases vl
        refine ⟨_, rfl, _, rfl, ra, _, 1, _, rfl, rfl, SqT.of hrow1, e1, f.d, _, rfl, DPut.k (k := Sum.inr x.s) F1.d (by show 5 < sizeLine; decide), ?_⟩
        rw [put_n]
        have M2 := M1.setVs hA1 hm1 (fun y => if y = x then n else t.num y) t.obj f.ov F1.o
        have v2 := (v1.trans (mv_fd M1 (f := f) (by rw [hA1]; exact List.mem_cons_self) (.dK (varKvs (fun y => if y = x then n else t.num y) f.ov)))).sub (fp_ov hA1 f.ov)
        generalize (upd H1 f.d (.dK (varKvs (fun y => if y = x then n else t.num y) f.ov))) = H2 at M2 v2
        obtain ⟨f2, fr2, hA2, F2, _⟩ := M2.head rfl
        cases hA2
        refine ⟨_, rfl, f.l, _, 1, _, rfl, rfl, SqL.of F2.l, by decide, rfl, _, _, rfl, rfl, f.l, _, 1, 1, rfl, rfl, F2.l, rfl, ?_⟩
        have M3 := M2.setAt (f := f) (r := fr) (t := { t with num := fun y => if y = x then n else t.num y, obj := t.obj }) (rest := rest) rfl rfl (t.at_ + 1)
        exact k _ _ (by rw [e2]; exact M3) (v2.trans (mv_fl M2 (f := f) List.mem_cons_self _))
      · refine ⟨_, rfl, _, rfl, ra, _, 1, _, rfl, rfl, SqT.of hrow1, e1, f.d, _, rfl, DPut.k (k := Sum.inr x.s) F1.d (by show 5 < sizeLine; decide), ?_⟩
        rw [put_o]
        have ho : ∀ s, RepO H1 ((fun u => if u = x then v else f.ov u) s) ((fun u => if u = x then n else t.obj u) s) := fun s => by
          show RepO H1 (if s = x then v else f.ov s) (if s = x then n else t.obj s)
          by_cases z : s = x
          · rw [if_pos z, if_pos z]; exact vl
          · rw [if_neg z, if_neg z]; exact F1.o s
        have M2 := M1.setVs hA1 hm1 t.num (fun u => if u = x then n else t.obj u) (fun u => if u = x then v else f.ov u) ho
        have v2 := (v1.trans (mv_fd M1 (f := f) (by rw [hA1]; exact List.mem_cons_self) (.dK (varKvs t.num (fun u => if u = x then v else f.ov u))))).sub (fp_ov hA1 (fun u => if u = x then v else f.ov u))
        generalize (upd H1 f.d (.dK (varKvs t.num (fun u => if u = x then v else f.ov u)))) = H2 at M2 v2
        obtain ⟨f2, fr2, hA2, F2, _⟩ := M2.head rfl
        cases hA2
        refine ⟨_, rfl, f.l, _, 1, _, rfl, rfl, SqL.of F2.l, by decide, rfl, _, _, rfl, rfl, f.l, _, 1, 1, rfl, rfl, F2.l, rfl, ?_⟩
        have M3 := M2.setAt (f := { f with ov := fun u => if u = x then v else f.ov u }) (r := fr) (t := { t with num := t.num, obj := fun u => if u = x then n else t.obj u }) (rest := rest) rfl rfl (t.at_ + 1)
        exact k _ _ (by rw [e2]; exact M3) (v2.trans (mv_fl M2 (f := { f with ov := fun u => if u = x then v else f.ov u }) List.mem_cons_self _))
    | none =>
      cases r with
      | num x => cases hrs
      | cpN x y => cases hrs
      | add x y z => cases hrs
      | sub x y z => cases hrs
      | less x y z => cases hrs
      | same x y z => cases hrs
      | nil s => cases hrs
      | cpO s u => cases hrs
      | new s => cases hrs
      | getI x s => cases hrs
      | getN s u => cases hrs
      | call x y s => exact absurd rfl (nc x y s)
      | ret x => exact absurd rfl (nr x)
      | jump l =>
        refine ⟨_, rfl, ra, _, 0, _, rfl, rfl, SqT.of hrow, rfl, rfl, _, rfl, ifD_t rfl ?_⟩
        refine ⟨_, rfl, 1, rfl, ra, _, -1, _, rfl, rfl, SqT.of hrow, rfl, _, rfl, f.l, _, 1, 1, rfl, rfl, F.l, rfl, ?_⟩
        exact k _ _ (M.setAt hA hm l) (mv_fl M fm _)
      | ifz x l =>
        refine ⟨_, rfl, ra, _, 0, _, rfl, rfl, SqT.of hrow, rfl, rfl, _, rfl, ifD_f (by decide +kernel) ?_⟩
        refine ⟨_, rfl, ra, _, 0, _, rfl, rfl, SqT.of hrow, rfl, rfl, _, rfl, ifD_t rfl ?_⟩
        refine ⟨_, rfl, _, rfl, ra, _, 1, _, rfl, rfl, SqT.of hrow, rfl, f.d, _, rfl, .inl ⟨_, Sum.inr x.s, .inl F.d, rfl, (var_n _ _ _).symm⟩, rfl, _, rfl, ?_⟩
        by_cases z : t.num x = 0
        · refine ifD_t (by rw [z]) ?_
          refine ⟨_, rfl, 1, rfl, ra, _, -1, _, rfl, rfl, SqT.of hrow, rfl, _, rfl, f.l, _, 1, 1, rfl, rfl, F.l, rfl, ?_⟩
          have e : doRow m t rest (.ifz x l) = m.top (t.go l) rest := by simp only [doRow, z, if_true]
          exact k _ _ (by rw [e]; exact M.setAt hA hm l) (mv_fl M fm _)
        · refine ifD_f (fun e => z (V.int.inj e)) ?_
          refine ⟨_, rfl, ra, _, 0, _, rfl, rfl, SqT.of hrow, rfl, rfl, _, rfl, ifD_f (by decide +kernel) ?_⟩
          refine ⟨_, rfl, ra, _, 0, _, rfl, rfl, SqT.of hrow, rfl, rfl, _, rfl, ifD_f (by decide +kernel) ?_⟩
          refine ⟨_, rfl, ra, _, 0, _, rfl, rfl, SqT.of hrow, rfl, rfl, _, rfl, iteNS rfl ?_⟩
          refine ⟨_, rfl, f.l, _, 1, _, rfl, rfl, SqL.of F.l, by decide, rfl, _, _, rfl, rfl, f.l, _, 1, 1, rfl, rfl, F.l, rfl, ?_⟩
          have e : doRow m t rest (.ifz x l) = m.top t.nx rest := by simp only [doRow, z, if_false]
          exact k _ _ (by rw [e]; exact M.setAt hA hm (t.at_ + 1)) (mv_fl M fm _)
      | seeN x =>
        refine ⟨_, rfl, ra, _, 0, _, rfl, rfl, SqT.of hrow, rfl, rfl, _, rfl, ifD_f (by decide +kernel) ?_⟩
        refine ⟨_, rfl, ra, _, 0, _, rfl, rfl, SqT.of hrow, rfl, rfl, _, rfl, ifD_f (by decide +kernel) ?_⟩
        refine ⟨_, rfl, ra, _, 0, _, rfl, rfl, SqT.of hrow, rfl, rfl, _, rfl, ifD_t rfl ?_⟩
        obtain ⟨ws, w1, w2⟩ := M.wr
        refine ⟨_, rfl, _, _, _, _, _, rfl, M.ins, T.c_Machine, T.n_Machine_written, (by rfl), ?_, ?_⟩
        · exact .inl ⟨rfl, _, SqL.of w1⟩
        refine ⟨_, rfl, p, _, _, rfl, M.ins, by kernel_rfl, _, rfl, _, rfl, ra, _, 1, _, rfl, rfl, SqT.of hrow, rfl, f.d, _, rfl, .inl ⟨_, Sum.inr x.s, .inl F.d, rfl, (var_n _ _ _).symm⟩, ?_⟩
        refine ⟨p, src, Am, m, _, rfl, M, .inl ⟨_, rfl, fun H1 u s1 hu => ?_⟩⟩
        have M1 := (M.same s1).addLog (s1 _ _ w1) hu
        have v1 := (Mv.of s1 (Am.fp p)).trans (mv_wr (M.same s1) (.lst (ws ++ [u])))
        refine ⟨Am.wr, ws, u, rfl, rfl, s1 _ _ w1, by rw [Paired.len w2]; exact lt_line Sm.lg, ?_⟩
        generalize (upd H1 Am.wr (.lst (ws ++ [u]))) = H2 at M1 v1
        obtain ⟨f2, fr2, hA2, F2, _⟩ := M1.head hm
        rw [hA] at hA2
        cases hA2
        refine ⟨_, rfl, f.l, _, 1, _, rfl, rfl, SqL.of F2.l, by decide, rfl, _, _, rfl, rfl, f.l, _, 1, 1, rfl, rfl, F2.l, rfl, ?_⟩
        exact k _ _ (M1.setAt hA hm (t.at_ + 1)) (v1.trans (mv_fl M1 fm _))
      | seeO s =>
        refine ⟨_, rfl, ra, _, 0, _, rfl, rfl, SqT.of hrow, rfl, rfl, _, rfl, ifD_f (by decide +kernel) ?_⟩
        refine ⟨_, rfl, ra, _, 0, _, rfl, rfl, SqT.of hrow, rfl, rfl, _, rfl, ifD_f (by decide +kernel) ?_⟩
        refine ⟨_, rfl, ra, _, 0, _, rfl, rfl, SqT.of hrow, rfl, rfl, _, rfl, ifD_t rfl ?_⟩
        obtain ⟨ws, w1, w2⟩ := M.wr
        refine ⟨_, rfl, _, _, _, _, _, rfl, M.ins, T.c_Machine, T.n_Machine_written, (by rfl), ?_, ?_⟩
        · exact .inl ⟨rfl, _, SqL.of w1⟩
        refine ⟨_, rfl, p, _, _, rfl, M.ins, by kernel_rfl, _, rfl, _, rfl, ra, _, 1, _, rfl, rfl, SqT.of hrow, rfl, f.d, _, rfl, .inl ⟨_, Sum.inr s.s, .inl F.d, rfl, (var_o _ _ _).symm⟩, ?_⟩
        refine ⟨p, src, Am, m, _, rfl, M, .inr ⟨_, F.o s, Ft.obj s, fun H1 u s1 hu => ?_⟩⟩
        have M1 := (M.same s1).addLog (s1 _ _ w1) hu
        have v1 := (Mv.of s1 (Am.fp p)).trans (mv_wr (M.same s1) (.lst (ws ++ [u])))
        refine ⟨Am.wr, ws, u, rfl, rfl, s1 _ _ w1, by rw [Paired.len w2]; exact lt_line Sm.lg, ?_⟩
        generalize (upd H1 Am.wr (.lst (ws ++ [u]))) = H2 at M1 v1
        obtain ⟨f2, fr2, hA2, F2, _⟩ := M1.head hm
        rw [hA] at hA2
        cases hA2
        refine ⟨_, rfl, f.l, _, 1, _, rfl, rfl, SqL.of F2.l, by decide, rfl, _, _, rfl, rfl, f.l, _, 1, 1, rfl, rfl, F2.l, rfl, ?_⟩
        exact k _ _ (M1.setAt hA hm (t.at_ + 1)) (v1.trans (mv_fl M1 fm _))
      | putI s y =>
        refine ⟨_, rfl, ra, _, 0, _, rfl, rfl, SqT.of hrow, rfl, rfl, _, rfl, ifD_f (by decide +kernel) ?_⟩
        refine ⟨_, rfl, ra, _, 0, _, rfl, rfl, SqT.of hrow, rfl, rfl, _, rfl, ifD_f (by decide +kernel) ?_⟩
        refine ⟨_, rfl, ra, _, 0, _, rfl, rfl, SqT.of hrow, rfl, rfl, _, rfl, ifD_f (by decide +kernel) ?_⟩
        refine ⟨_, rfl, ra, _, 0, _, rfl, rfl, SqT.of hrow, rfl, rfl, _, rfl, ifD_t rfl ?_⟩
        refine ⟨_, rfl, p, _, _, rfl, M.ins, by kernel_rfl, _, rfl, _, rfl, ra, _, 1, _, rfl, rfl, SqT.of hrow, rfl, f.d, _, rfl, .inl ⟨_, Sum.inr s.s, .inl F.d, rfl, (var_o _ _ _).symm⟩, _, rfl, ra, _, 2, _, rfl, rfl, SqT.of hrow, rfl, ?_⟩
        have hv := F.o s
        have hb := Ft.obj s
        cases ho : t.obj s with
        | none =>
          rw [ho] at hv
          refine ⟨p, src, Am, m, _, _, rfl, M, .inl rfl, .inl ⟨hv, ?_⟩⟩
          refine ⟨_, rfl, _, rfl, iteNS rfl ?_⟩
          refine ⟨_, rfl, f.l, _, 1, _, rfl, rfl, SqL.of F.l, by decide, rfl, _, _, rfl, rfl, f.l, _, 1, 1, rfl, rfl, F.l, rfl, ?_⟩
          have e : doRow m t rest (.putI s y) = m.top t.nx rest := by simp only [doRow, ho, Mch.putI]
          exact k _ _ (by rw [e]; exact M.setAt hA hm (t.at_ + 1)) (mv_fl M fm _)
        | some n =>
          rw [ho] at hv
          obtain ⟨ta, hv1, hv2⟩ := hv
          obtain ⟨o, hn⟩ : ∃ o, m.obs[n]? = some o := ⟨_, List.getElem?_eq_getElem (hb n ho)⟩
          obtain ⟨a, ha, Oa, _⟩ := M.obAt hn
          refine ⟨p, src, Am, m, _, _, rfl, M, .inl rfl, .inr ⟨n, _, a, ta, hv1, hv2, hn, ha, ?_⟩⟩
          refine ⟨_, rfl, _, rfl, iteNF (by intro z; cases z) ?_⟩
          refine ⟨_, rfl, _, rfl, ra, _, 3, _, rfl, rfl, SqT.of hrow, rfl, f.d, _, rfl, .inl ⟨_, Sum.inr y.s, .inl F.d, rfl, (var_n _ _ _).symm⟩, _, rfl, _, rfl, ra, _, 2, _, rfl, rfl, SqT.of hrow, rfl, a.d, _, rfl, DPut.k (k := Sum.inr "item") Oa.d (by show 2 < sizeLine; decide), ?_⟩
          have M1 := M.setOb ha Oa ⟨t.num y, o.next⟩ a.nv Oa.n
          have v1 := (mv_od M (List.mem_of_getElem? ha) (.dK [(Sum.inr "item", .int (t.num y)), (Sum.inr "next", a.nv)])).sub (S2 := MA.fp p { Am with os := Am.os.set n { a with nv := a.nv } }) (fp_sub rfl rfl rfl (fun b hb => ⟨b, hb, rfl, rfl⟩) fun b hb => by
            rcases List.mem_or_eq_of_mem_set hb with z | z
            · exact ⟨b, z, rfl⟩
            · exact ⟨a, List.mem_of_getElem? ha, by rw [z]⟩)
          have e0 : putK [((Sum.inr "item" : Key), V.int o.item), (Sum.inr "next", a.nv)] (Sum.inr "item") (.int (t.num y)) = [((Sum.inr "item" : Key), .int (t.num y)), (Sum.inr "next", a.nv)] := by kernel_rfl
          rw [e0]
          generalize (upd H a.d (.dK [(Sum.inr "item", .int (t.num y)), (Sum.inr "next", a.nv)])) = H2 at M1 v1
          obtain ⟨f2, fr2, hA2, F2, _⟩ := M1.head hm
          have hA2' : Am.fs = f2 :: fr2 := hA2
          rw [hA] at hA2'
          cases hA2'
          refine ⟨_, rfl, f.l, _, 1, _, rfl, rfl, SqL.of F2.l, by decide, rfl, _, _, rfl, rfl, f.l, _, 1, 1, rfl, rfl, F2.l, rfl, ?_⟩
          have e : doRow m t rest (.putI s y) = ({ m with obs := m.obs.set n ⟨t.num y, o.next⟩ } : Mch).top t.nx rest := by
            simp only [doRow, ho, Mch.putI, modify_set _ hn]
          exact k _ _ (by rw [e]; exact M1.setAt hA hm (t.at_ + 1)) (v1.trans (mv_fl M1 fm _))
      | putN s y =>
        refine ⟨_, rfl, ra, _, 0, _, rfl, rfl, SqT.of hrow, rfl, rfl, _, rfl, ifD_f (by decide +kernel) ?_⟩
        refine ⟨_, rfl, ra, _, 0, _, rfl, rfl, SqT.of hrow, rfl, rfl, _, rfl, ifD_f (by decide +kernel) ?_⟩
        refine ⟨_, rfl, ra, _, 0, _, rfl, rfl, SqT.of hrow, rfl, rfl, _, rfl, ifD_f (by decide +kernel) ?_⟩
        refine ⟨_, rfl, ra, _, 0, _, rfl, rfl, SqT.of hrow, rfl, rfl, _, rfl, ifD_t rfl ?_⟩
        refine ⟨_, rfl, p, _, _, rfl, M.ins, by kernel_rfl, _, rfl, _, rfl, ra, _, 1, _, rfl, rfl, SqT.of hrow, rfl, f.d, _, rfl, .inl ⟨_, Sum.inr s.s, .inl F.d, rfl, (var_o _ _ _).symm⟩, _, rfl, ra, _, 2, _, rfl, rfl, SqT.of hrow, rfl, ?_⟩
        have hv := F.o s
        have hb := Ft.obj s
        cases ho : t.obj s with
        | none =>
          rw [ho] at hv
          refine ⟨p, src, Am, m, _, _, rfl, M, .inr rfl, .inl ⟨hv, ?_⟩⟩
          refine ⟨_, rfl, _, rfl, iteNS rfl ?_⟩
          refine ⟨_, rfl, f.l, _, 1, _, rfl, rfl, SqL.of F.l, by decide, rfl, _, _, rfl, rfl, f.l, _, 1, 1, rfl, rfl, F.l, rfl, ?_⟩
          have e : doRow m t rest (.putN s y) = m.top t.nx rest := by simp only [doRow, ho, Mch.putN]
          exact k _ _ (by rw [e]; exact M.setAt hA hm (t.at_ + 1)) (mv_fl M fm _)
        | some n =>
          rw [ho] at hv
          obtain ⟨ta, hv1, hv2⟩ := hv
          obtain ⟨o, hn⟩ : ∃ o, m.obs[n]? = some o := ⟨_, List.getElem?_eq_getElem (hb n ho)⟩
          obtain ⟨a, ha, Oa, _⟩ := M.obAt hn
          refine ⟨p, src, Am, m, _, _, rfl, M, .inr rfl, .inr ⟨n, _, a, ta, hv1, hv2, hn, ha, ?_⟩⟩
          refine ⟨_, rfl, _, rfl, iteNF (by intro z; cases z) ?_⟩
          refine ⟨_, rfl, _, rfl, ra, _, 3, _, rfl, rfl, SqT.of hrow, rfl, f.d, _, rfl, .inl ⟨_, Sum.inr y.s, .inl F.d, rfl, (var_o _ _ _).symm⟩, _, rfl, _, rfl, ra, _, 2, _, rfl, rfl, SqT.of hrow, rfl, a.d, _, rfl, DPut.k (k := Sum.inr "next") Oa.d (by show 2 < sizeLine; decide), ?_⟩
          have M1 := M.setOb ha Oa ⟨o.item, t.obj y⟩ (f.ov y) (F.o y)
          have v1 := (mv_od M (List.mem_of_getElem? ha) (.dK [(Sum.inr "item", .int o.item), (Sum.inr "next", f.ov y)])).sub (S2 := MA.fp p { Am with os := Am.os.set n { a with nv := f.ov y } }) (fp_sub rfl rfl rfl (fun b hb => ⟨b, hb, rfl, rfl⟩) fun b hb => by
            rcases List.mem_or_eq_of_mem_set hb with z | z
            · exact ⟨b, z, rfl⟩
            · exact ⟨a, List.mem_of_getElem? ha, by rw [z]⟩)
          have e0 : putK [((Sum.inr "item" : Key), V.int o.item), (Sum.inr "next", a.nv)] (Sum.inr "next") (f.ov y) = [((Sum.inr "item" : Key), .int o.item), (Sum.inr "next", f.ov y)] := by kernel_rfl
          rw [e0]
          generalize (upd H a.d (.dK [(Sum.inr "item", .int o.item), (Sum.inr "next", f.ov y)])) = H2 at M1 v1
          obtain ⟨f2, fr2, hA2, F2, _⟩ := M1.head hm
          have hA2' : Am.fs = f2 :: fr2 := hA2
          rw [hA] at hA2'
          cases hA2'
          refine ⟨_, rfl, f.l, _, 1, _, rfl, rfl, SqL.of F2.l, by decide, rfl, _, _, rfl, rfl, f.l, _, 1, 1, rfl, rfl, F2.l, rfl, ?_⟩
          have e : doRow m t rest (.putN s y) = ({ m with obs := m.obs.set n ⟨o.item, t.obj y⟩ } : Mch).top t.nx rest := by
            simp only [doRow, ho, Mch.putN, modify_set _ hn]
          exact k _ _ (by rw [e]; exact M1.setAt hA hm (t.at_ + 1)) (v1.trans (mv_fl M1 fm _))
end
end K18
set_option Elab.async false
set_option linter.all false
set_option maxRecDepth 100000
set_option pp.deepTerms false
set_option pp.maxSteps 400
set_option maxHeartbeats 4000000
namespace K18
open PySem PySem.Spec PyProof.Rows L2
section
variable {P : Program} {w : World} {K : PySem.W.Frag} {mg : Str → Option Value} {base : Heap}
variable {H H' : Hp} {p src : Addr} {A : MA} {m : Mch} {G : Prg}
theorem put_cnt (a b c d : Addr) (n : Nat) (rv : V) (k : Nat) : putF "row_count" (.int ((k : Int) + 1)) (mFs a b c n d rv k) = mFs a b c n d rv (k + 1) := by kernel_rfl
def spStep (K : PySem.W.Frag) : Sp := fun vs H Q _ => ∃ (H0 : Hp) (p src : Addr) (A : MA) (m : Mch) (G : Prg) (j : Nat), vs = [.ref p] ∧ On K H0 H p src A m G ∧ Good G j m ∧ j < 190 ∧ Small m ∧
  ∀ H' A' b, MachAt K H' p src A' (step G m) → Mv H H' (A.fp p) (A'.fp p) → Q (.bl b) H'
theorem step_eq {m : Mch} {t : Fr} {rest : List Fr} {r : Row} (h : m.stack = t :: rest) (hg : (G t.fn)[t.at_]? = some r) : step G m = stepAt G m t rest r := by
  simp only [step, h, hg]
theorem sc_Machine_step : FnScope ["self", "row", "variables", "name"] ["self"] d_Machine_step.scope := ⟨rfl, rfl, rfl, by decide +kernel, rfl, by decide +kernel, by decide +kernel⟩
theorem k_Machine_step (T : Tx w K mg) : Ok P w K mg base 5 d_Machine_step ["self"] (spStep K) := by
  refine Ok.of T.d_Machine_step sc_Machine_step (fun _ _ _ _ _ _ us hl => match us, hl with | [_], _ => rfl) (fun vs H Q E h => ?_) (fun cdv A outer s H vs Q E hr h => ?_)
  · obtain ⟨H0, p, src, A, m, G, j, rfl, _⟩ := h
    rfl
  · obtain ⟨H0, p, src, Am, m, G, j, rfl, O, Gd, hj, Sm, k⟩ := h
    have M := O.m
    refine ⟨_, (pss_cons (ps_set (i := 1) sc_Machine_step.nd rfl (.inl rfl) (pe_M0 (k_Machine_row_here T) (hr.mono (by decide)) T.c_Machine T.h_Machine_row_here rfl (pv 0)))
      (pss_cons (ps_if (pt_cmp (pc_isN (pv 1))) (pss_one (ps_ret pe_bl)) pss_nil)
      (pss_cons (ps_set (i := 2) sc_Machine_step.nd rfl (.inr rfl) (pe_ix ix_list (pe_ix ix_list (pe_fld (pv 0) rfl) (pe_un un_neg pe_int) (fun _ _ => rfl)) pe_int (fun _ _ => rfl)))
      (pss_cons (ps_if (pt_cmpR op_eq (pe_ix ix_tup (pv 1) pe_int (fun _ _ => rfl)) pe_str (nomark _)) (pss_cons (ps_if (pt_cmpR op_eq (pe_callB call_len_seq (by rfl) T.b_len PySem.boot_len (pa_cons (pe_fld (pv 0) rfl) pa_nil)) (pe_gi T.i_MOST_FRAMES) (nomark _)) pss_never pss_nil)
      (pss_one (ps_expr (pe_M (k_Machine_enter T) (hr.mono (by decide)) T.c_Machine T.h_Machine_enter rfl (pv 0) (pa_cons (pe_ix ix_tup (pv 1) pe_int (fun _ _ => rfl)) (pa_cons (pe_lc (own := [("name", 3)]) (g := (gName 3)) (tt := tYes) (by rfl) sc_Machine_step.nd  (pi_tup (pe_ix ix_tup (pv 1) pe_int (fun _ _ => rfl))) (blkOk_by (own := [("name", 3)]) (N := ["self", "row", "variables", "name"]) (sc := d_Machine_step.scope) (by decide +kernel)) (fun _ _ _ _ _ => (pg_name (i := 3) sc_Machine_step.nd rfl (.inl rfl))) (fun _ _ _ _ _ => pts_nil) (fun _ _ _ _ _ => (pe_dget (hu_of hr) (pv 2) (pv 3) (fun _ _ => rfl)))) pa_nil)))))) (pss_one (ps_if (pt_cmpR op_eq (pe_ix ix_tup (pv 1) pe_int (fun _ _ => rfl)) pe_str (nomark _)) (pss_one (ps_expr (pe_M (k_Machine_give_back T) (hr.mono (by decide)) T.c_Machine T.h_Machine_give_back rfl (pv 0) (pa_cons (pe_dget (hu_of hr) (pv 2) (pe_ix ix_tup (pv 1) pe_int (fun _ _ => rfl)) (fun _ _ => rfl)) pa_nil)))) (pss_one (ps_expr (pe_M (k_Machine_do_row T) (hr.mono (by decide)) T.c_Machine T.h_Machine_do_row rfl (pv 0) (pa_cons (pv 1) pa_nil)))))))
      (pss_cons (ps_fldaug (pv 0) pe_int in_add)
      (pss_one (ps_ret pe_bl))))))), ?_⟩
    cases hm : m.stack with
    | nil =>
      refine ⟨_, rfl, p, _, _, rfl, M.ins, by kernel_rfl, p, src, Am, m, G, rfl, M, O.sr, .inl ⟨hm, fun H1 s1 => ?_⟩⟩
      refine ⟨_, rfl, _, rfl, ifD_t rfl ?_⟩
      have e : step G m = m := by simp only [step, hm]
      exact k H1 Am false (by rw [e]; exact M.same s1) (Mv.of s1 _)
    | cons t rest =>
      have Ft := Gd.fr t (by rw [hm]; exact List.mem_cons_self)
      obtain ⟨r, hg⟩ : ∃ r, (G t.fn)[t.at_]? = some r := ⟨_, List.getElem?_eq_getElem Ft.at_⟩
      refine ⟨_, rfl, p, _, _, rfl, M.ins, by kernel_rfl, p, src, Am, m, G, rfl, M, O.sr, .inr ⟨t, rest, r, hm, hg, fun H1 ra s1 hrow => ?_⟩⟩
      refine ⟨_, rfl, _, rfl, ifD_f (by intro z; cases z) ?_⟩
      have O1 := O.same s1
      have M1 := O1.m
      obtain ⟨f, fr, hA, F, _⟩ := M1.head hm
      refine ⟨_, rfl, _, _, _, _, _, rfl, M1.ins, T.c_Machine, T.n_Machine_stack, (by rfl), 1, rfl, Am.st, _, -1, _, rfl, rfl, SqL.of (M1.stk hA), atI_last _ _, f.l, _, 2, _, rfl, rfl, SqL.of F.l, rfl, ?_⟩
      obtain ⟨q, hr1, hq⟩ := id hrow
      have plain : (∀ x y s, r ≠ .call x y s) → (∀ x, r ≠ .ret x) → (r.word ≠ "call" ∧ r.word ≠ "return") ∧ stepAt G m t rest r = (doRow m t rest r).tick := fun n1 n2 => by
        cases r with
        | call x y s => exact absurd rfl (n1 x y s)
        | ret x => exact absurd rfl (n2 x)
        | _ => exact ⟨⟨by (dsimp only [Row.word]; decide +kernel), by (dsimp only [Row.word]; decide +kernel)⟩, rfl⟩
      by_cases hc : ∃ x y s, r = .call x y s
      · obtain ⟨x, y, s, rfl⟩ := hc
        obtain ⟨qa, rfl, hqa⟩ := hq
        refine ⟨_, rfl, ra, _, 0, _, rfl, rfl, SqT.of hr1, rfl, rfl, _, rfl, ifD_t rfl ?_⟩
        refine ⟨_, rfl, _, _, _, _, _, rfl, M1.ins, T.c_Machine, T.n_Machine_stack, (by rfl), Am.st, _, rfl, .inl (SqL.of M1.st), rfl, _, rfl, ifD_f (fun e => ?_) ?_⟩
        · have e1 := V.int.inj e
          rw [List.length_map, List.length_reverse, M.len] at e1
          have := Sm.st
          omega
        refine ⟨_, rfl, p, _, _, rfl, M1.ins, by kernel_rfl, _, rfl, ra, _, 2, _, rfl, rfl, SqT.of hr1, rfl, _, rfl, ra, _, 3, _, rfl, rfl, SqT.of hr1, rfl, qa, rfl, ⟨_, SqT.of hqa⟩, fun D hD => ?_⟩
        have nD : H1 D = none := hD
        have fD : f.d ≠ D := ne_of_none F.d nD
        refine lc_it (walk_tup (xs := [.str y.s, .str s.s])) (fun j H' => H' = upd H1 D (.lst ([V.int (t.num y), f.ov s].take j))) rfl (fun j H' _ e => by rw [e]; exact SqT.of (same_new nD _ _ hqa)) (fun j x' H2 H' hj' e yy => ?_) (fun H' e => ?_)
        · obtain ⟨rfl, yy⟩ := yy
          subst e
          match j, hj' with
          | 0, _ =>
            cases yy
            exact ⟨rfl, _, rfl, _, rfl, f.d, _, rfl, .inl ⟨_, Sum.inr y.s, .inl (by rw [upd_ne fD]; exact F.d), rfl, (var_n _ _ _).symm⟩, [], upd_same, (by show 0 < sizeLine; decide), by rw [upd_upd]; rfl⟩
          | 1, _ =>
            cases yy
            exact ⟨rfl, _, rfl, _, rfl, f.d, _, rfl, .inl ⟨_, Sum.inr s.s, .inl (by rw [upd_ne fD]; exact F.d), rfl, (var_o _ _ _).symm⟩, [.int (t.num y)], upd_same, (by show 1 < sizeLine; decide), by rw [upd_upd]; rfl⟩
        · subst e
          have s2 : Same H1 (upd H1 D (.lst ([V.int (t.num y), f.ov s].take [V.str y.s, V.str s.s].length))) := same_new nD
          have hD2 : (upd H1 D (.lst ([V.int (t.num y), f.ov s].take [V.str y.s, V.str s.s].length))) D = some (.lst [V.int (t.num y), f.ov s]) := upd_same
          generalize (upd H1 D (.lst ([V.int (t.num y), f.ov s].take [V.str y.s, V.str s.s].length))) = H2 at s2 hD2
          have O2 := O1.same s2
          refine ⟨p, D, src, Am, m, G, true, t.num y, f.ov s, t.obj s, rfl, O2.m, O2.sr, hD2, (F.o s).le (Le.of s2), Nat.lt_trans Sm.st (by decide), fun H' A' M' v' => ?_⟩
          refine ⟨_, rfl, p, _, _, _, _, rfl, M'.ins, T.c_Machine, T.n_Machine_row_count, rfl, _, _, rfl, rfl, _, _, M'.ins, (by show 7 < 1000; decide), ?_⟩
          rw [put_cnt]
          have M3 := M'.setIns m.born (m.cnt + 1) A'.rv m.res M'.res
          refine k _ _ _ ?_ ((Mv.of (s1.trans s2) _).trans (v'.trans (mv_p M' _)))
          rw [step_eq hm hg]
          rw [hm] at M3
          exact M3
      · by_cases hr' : ∃ x, r = .ret x
        · obtain ⟨x, rfl⟩ := hr'
          refine ⟨_, rfl, ra, _, 0, _, rfl, rfl, SqT.of hr1, rfl, rfl, _, rfl, ifD_f (by decide +kernel) ?_⟩
          refine ⟨_, rfl, ra, _, 0, _, rfl, rfl, SqT.of hr1, rfl, rfl, _, rfl, ifD_t rfl ?_⟩
          refine ⟨_, rfl, p, _, _, rfl, M1.ins, by kernel_rfl, _, rfl, _, rfl, ra, _, 1, _, rfl, rfl, SqT.of hr1, rfl, f.d, _, rfl, .inl ⟨_, Sum.inr x.s, .inl F.d, rfl, (var_n _ _ _).symm⟩, ?_⟩
          refine ⟨H0, p, src, Am, m, G, t, rest, t.num x, rfl, O1, hm, ?_, fun H' A' M' v' => ?_⟩
          · rintro c r' rfl
            rcases Gd.ch with z | z
            · rw [hm] at z; cases z
            · rw [hm] at z
              cases z with
              | cons _ c' _ => exact c'
          refine ⟨_, rfl, p, _, _, _, _, rfl, M'.ins, T.c_Machine, T.n_Machine_row_count, rfl, _, _, rfl, rfl, _, _, M'.ins, (by show 7 < 1000; decide), ?_⟩
          rw [put_cnt]
          have M3 := M'.setIns (giveBack G m rest (t.num x)).born ((giveBack G m rest (t.num x)).cnt + 1) A'.rv (giveBack G m rest (t.num x)).res M'.res
          refine k _ _ _ ?_ ((Mv.of s1 _).trans (v'.trans (mv_p M' _)))
          rw [step_eq hm hg]
          exact M3
        · have n1 : ∀ x y s, r ≠ .call x y s := fun x y s e => hc ⟨x, y, s, e⟩
          have n2 : ∀ x, r ≠ .ret x := fun x e => hr' ⟨x, e⟩
          obtain ⟨⟨w1, w2⟩, e3⟩ := plain n1 n2
          refine ⟨_, rfl, ra, _, 0, _, rfl, rfl, SqT.of hr1, word_at r q, rfl, _, rfl, ifD_f (by intro z; exact w1 (V.str.inj z)) ?_⟩
          refine ⟨_, rfl, ra, _, 0, _, rfl, rfl, SqT.of hr1, word_at r q, rfl, _, rfl, ifD_f (by intro z; exact w2 (V.str.inj z)) ?_⟩
          refine ⟨_, rfl, p, _, _, rfl, M1.ins, by kernel_rfl, _, rfl, ?_⟩
          refine ⟨H0, p, src, Am, m, G, t, rest, r, ra, j, rfl, O1, hm, Gd, hj, Sm, hrow, n1, n2, fun H' A' M' v' => ?_⟩
          refine ⟨_, rfl, p, _, _, _, _, rfl, M'.ins, T.c_Machine, T.n_Machine_row_count, rfl, _, _, rfl, rfl, _, _, M'.ins, (by show 7 < 1000; decide), ?_⟩
          rw [put_cnt]
          have M3 := M'.setIns (doRow m t rest r).born ((doRow m t rest r).cnt + 1) A'.rv (doRow m t rest r).res M'.res
          refine k _ _ _ ?_ ((Mv.of s1 _).trans (v'.trans (mv_p M' _)))
          rw [step_eq hm hg, e3]
          exact M3
/-! steps -/
theorem steps_succ (G : Prg) : ∀ (n : Nat) (m : Mch), steps G (n + 1) m = step G (steps G n m)
  | 0, _ => rfl
  | n + 1, m => steps_succ G n (step G m)
def spSteps (K : PySem.W.Frag) : Sp := fun vs H Q _ => ∃ (H0 : Hp) (p src : Addr) (A : MA) (m : Mch) (G : Prg) (j n : Nat), vs = [.ref p, .int (n : Int)] ∧ On K H0 H p src A m G ∧ PrgOk G ∧ Good G j m ∧ n ≤ 100 ∧ j + n < 190 ∧ m.stack.length + n ≤ 50 ∧ m.obs.length + n < 1000 ∧ m.log.length + n < 1000 ∧
  ∀ H' A' v, MachAt K H' p src A' (steps G n m) → Mv H H' (A.fp p) (A'.fp p) → Q v H'
theorem sc_Machine_steps : FnScope ["self", "many", "turn"] ["self", "many"] d_Machine_steps.scope := ⟨rfl, rfl, rfl, by decide +kernel, rfl, by decide +kernel, by decide +kernel⟩
theorem k_Machine_steps (T : Tx w K mg) : Ok P w K mg base 6 d_Machine_steps ["self", "many"] (spSteps K) := by
  refine Ok.of T.d_Machine_steps sc_Machine_steps (fun _ _ _ _ _ _ us hl => match us, hl with | [_, _], _ => rfl) (fun vs H Q E h => ?_) (fun cdv A outer s H vs Q E hr h => ?_)
  · obtain ⟨H0, p, src, A, m, G, j, n, rfl, _⟩ := h
    rfl
  · obtain ⟨H0, p, src, Am, m, G, j, n, rfl, O, pk, Gd, hn, hj, z1, z2, z3, k⟩ := h
    have M := O.m
    refine ⟨_, (pss_cons (ps_if (pt_not (pt_val (pe_G (k_is_between T) (hr.mono (by decide)) T.g_is_between (pa_cons (pv 1) (pa_cons pe_int (pa_cons (pe_gi T.i_MOST_ROWS_machine) pa_nil)))))) pss_never pss_nil)
      (pss_one (ps_ret (pe_callB call_len_seq (by rfl) T.b_len PySem.boot_len (pa_cons (pe_lc (own := [("turn", 2)]) (g := (gName 2)) (by rfl) sc_Machine_steps.nd  (pi_range1 (by rfl) T.b_range (pa_cons (pv 1) pa_nil)) (blkOk_by (own := [("turn", 2)]) (N := ["self", "many", "turn"]) (sc := d_Machine_steps.scope) (by decide +kernel)) (fun _ _ _ _ _ => (pg_name (i := 2) sc_Machine_steps.nd rfl (.inl rfl))) (fun _ _ _ _ _ => (pts_one (pt_val (pe_M0 (k_Machine_step T) (hr.mono (by decide)) T.c_Machine T.h_Machine_step rfl (pv 0))))) (fun _ _ _ _ _ => pe_int)) pa_nil))))), ?_⟩
    refine ⟨_, rfl, _, 0, 2000, rfl, _, rfl, ?_⟩
    refine ifBf ?_ ?_
    · rw [decide_eq_true (by omega : (0 : Int) ≤ n), decide_eq_true (by omega : (n : Int) ≤ 2000)]; rfl
    refine ⟨_, rfl, (n : Int), rfl, by omega, by omega, fun D hD => ?_⟩
    refine lc_it (walk_range (lo := 0) (n := (n : Int).toNat)) (fun i H' => ∃ A' acc, MachAt K H' p src A' (steps G i m) ∧ Mv H H' (Am.fp p) (A'.fp p) ∧ D ∉ A'.fp p ∧ H' D = some (.lst acc) ∧ acc.length ≤ i) ?_ (fun _ _ _ _ => trivial) (fun i x H1 H' hi e y => ?_) (fun H' e => ?_)
    · exact ⟨Am, [], M.same (same_new hD), Mv.of (same_new hD) _, M.out hD, upd_same, Nat.le_refl _⟩
    · obtain ⟨rfl, rfl⟩ := y
      obtain ⟨A1, acc, M1, v1, nD, hD1, hl⟩ := e
      have hi' : i < n := by omega
      obtain ⟨y1, y2, y3⟩ := steps_sizes G i m
      refine ⟨rfl, _, rfl, p, _, _, rfl, M1.ins, by kernel_rfl, ?_⟩
      refine ⟨H0, p, src, A1, steps G i m, G, j + i, rfl, O.mv M1 v1, Gd.steps pk i, by omega, ⟨by omega, by omega, by omega⟩, fun H2 A2 b M2 v2 => ⟨b, rfl, ?_⟩⟩
      rw [← steps_succ] at M2
      have nD2 : D ∉ A2.fp p := fun z => by
        rcases v2.new D z with q | q
        · exact nD q
        · rw [hD1] at q; cases q
      have hD2 : H2 D = some (.lst acc) := v2.keep _ _ hD1 nD
      cases b with
      | false => exact ⟨A2, acc, M2, v1.trans v2, nD2, hD2, by omega⟩
      | true =>
        refine ⟨acc, hD2, lt_line (by omega), A2, acc ++ [.int 1], M2.frame (tk_upd fun xs z => by rw [hD2] at z; cases z) (fun x hx => upd_ne fun z => nD2 (by rw [← z]; exact hx)), ?_, nD2, upd_same, by simp; omega⟩
        have v3 := v1.trans v2
        refine ⟨fun a o q hq => ?_, v3.new, v3.tk.trans (tk_upd fun xs z => by rw [hD2] at z; cases z)⟩
        rw [upd_ne (ne_of_none q hD)]
        exact v3.keep a o q hq
    · obtain ⟨A', acc, M', v', nD, hD', _⟩ := e
      refine ⟨D, _, rfl, .inl (SqL.of hD'), ?_⟩
      have e : (n : Int).toNat = n := by omega
      rw [e] at M'
      exact k _ _ _ M' v'
end
end K18
set_option Elab.async false
set_option linter.all false
set_option maxRecDepth 100000
set_option pp.deepTerms false
set_option pp.maxSteps 400
set_option maxHeartbeats 4000000
namespace K18
open PySem PySem.Spec PyProof.Rows L2
/-! snapshots of frames and objects -/
structure SF where
  t : Addr
  d : Addr
  ov : OV → V
structure SFAt (H : Hp) (a : SF) (f : Fr) : Prop where
  t : H a.t = some (.tup [.str (fnS f.fn), .int (f.at_ : Int), .ref a.d])
  d : H a.d = some (.dK (varKvs f.num a.ov))
  o : ∀ s, RepO H (a.ov s) (f.obj s)
structure FrsAt (H : Hp) (l : Addr) (sf : List SF) (fs : List Fr) : Prop where
  l : H l = some (.lst (sf.map fun a => V.ref a.t))
  f : Paired (SFAt H) sf fs
  nd : (sf.map (·.d)).Nodup
structure HpAt (H : Hp) (l : Addr) (os : List OA) (obs : List Ob) : Prop where
  d : H l = some (.dK (objK 0 os))
  o : Paired (ObAt H) os obs
  nd : (os.map (·.d)).Nodup
section
variable {H H' : Hp}
theorem SFAt.same {a : SF} {f : Fr} (e : Same H H') (h : SFAt H a f) : SFAt H' a f := ⟨e _ _ h.t, e _ _ h.d, fun s => (h.o s).le (Le.of e)⟩
theorem ObAt.same {a : OA} {f : Ob} (e : Same H H') (h : ObAt H a f) : ObAt H' a f := ⟨e _ _ h.t, e _ _ h.d, h.n.le (Le.of e)⟩
theorem sfs_same {l : List SF} {k : List Fr} (e : Same H H') (h : Paired (SFAt H) l k) : Paired (SFAt H') l k := Paired.mapP h fun _ _ q => q.same e
theorem obs_same {l : List OA} {k : List Ob} (e : Same H H') (h : Paired (ObAt H) l k) : Paired (ObAt H') l k := Paired.mapP h fun _ _ q => q.same e
theorem FrsAt.same {l : Addr} {sf : List SF} {fs : List Fr} (e : Same H H') (h : FrsAt H l sf fs) : FrsAt H' l sf fs := ⟨e _ _ h.l, sfs_same e h.f, h.nd⟩
theorem HpAt.same {l : Addr} {sf : List OA} {fs : List Ob} (e : Same H H') (h : HpAt H l sf fs) : HpAt H' l sf fs := ⟨e _ _ h.d, obs_same e h.o, h.nd⟩
end
theorem Paired.rev {α β : Type} {F : α → β → Prop} : ∀ {l : List α} {k : List β}, Paired F l k → Paired F l.reverse k.reverse
  | _, _, .nil => .nil
  | _, _, .cons r t => by
    rw [List.reverse_cons, List.reverse_cons]
    exact Paired.snoc (Paired.rev t) r
theorem objK_ix : ∀ (os : List OA) (n i : Nat), (objK n os)[i]? = os[i]?.map fun a => ((Sum.inl ((n + i : Nat) : Int) : Key), V.ref a.t)
  | [], _, _ => by simp [objK]
  | b :: r, n, 0 => by simp [objK]
  | b :: r, n, i + 1 => by
    show (objK (n + 1) r)[i]? = r[i]?.map _
    rw [objK_ix r (n + 1) i]
    have : n + 1 + i = n + (i + 1) := by omega
    rw [this]
theorem putK_new {kvs : List (Key × V)} {k : Key} (h : valV kvs k = none) (v : V) : putK kvs k v = kvs ++ [(k, v)] := by
  unfold putK
  rw [if_neg]
  intro z
  rw [List.any_eq_true] at z
  obtain ⟨q, hq, e⟩ := z
  unfold valV at h
  rw [Option.map_eq_none_iff, List.find?_eq_none] at h
  exact h q hq e
theorem objK_put (os : List OA) (a : OA) : putK (objK 0 os) (Sum.inl (os.length : Int) : Key) (.ref a.t) = objK 0 (os ++ [a]) := by
  rw [putK_new (objK_out os 0 _ (.inr (by omega))), objK_snoc, Nat.zero_add]
theorem take_snoc {α : Type} {l : List α} {i : Nat} {x : α} (h : l[i]? = some x) : l.take (i + 1) = l.take i ++ [x] := by
  rw [List.take_succ, h]; rfl
/-- a dict of objects that is being made at D -/
structure ObsIv (HL : Hp) (D : Addr) (obs : List Ob) (i : Nat) (os : List OA) (H : Hp) : Prop where
  e : Same HL H
  d : H D = some (.dK (objK 0 os))
  p : Paired (ObAt H) os (obs.take i)
  n : ∀ b ∈ os, b.d ≠ D
  nd : (os.map (·.d)).Nodup
  fr : ∀ b ∈ os, HL b.d = none
theorem Paired.none {α β : Type} {F : α → β → Prop} {l : List α} {k : List β} {g : α → Addr} {H : Hp} {x : Addr} (h : Paired F l k) (q : ∀ a b, F a b → ∃ o, H (g a) = some o) (hx : H x = none) : x ∉ l.map g := fun z => by
  obtain ⟨a, ha, e⟩ := List.mem_map.mp z
  obtain ⟨b, _, f⟩ := Paired.mem h a ha
  obtain ⟨o, ho⟩ := q a b f
  rw [e, hx] at ho
  cases ho
theorem ObsIv.len {HL H : Hp} {D : Addr} {obs : List Ob} {i : Nat} {os : List OA} (iv : ObsIv HL D obs i os H) (hi : i ≤ obs.length) : os.length = i := by
  rw [Paired.len iv.p, List.length_take]
  omega
theorem ObsIv.step {HL H H3 : Hp} {D : Addr} {obs : List Ob} {i : Nat} {os : List OA} {o : Ob} {a : OA} (iv : ObsIv HL D obs i os H) (nD : HL D = none) (ho : obs[i]? = some o) (e : Same H H3) (h : ObAt H3 a o) (hn : a.d ≠ D) (fresh : H a.d = none) :
    ObsIv HL D obs (i + 1) (os ++ [a]) (upd H3 D (.dK (putK (objK 0 os) (Sum.inl (i : Int)) (.ref a.t)))) := by
  have hd3 := e _ _ iv.d
  have li := iv.len (Nat.le_of_lt (List.getElem?_eq_some_iff.mp ho).1)
  have e1 : putK (objK 0 os) (Sum.inl (i : Int)) (.ref a.t) = objK 0 (os ++ [a]) := by rw [← li]; exact objK_put os a
  rw [e1]
  have up : ∀ {b : OA} {f : Ob}, b.d ≠ D → ObAt H3 b f → ObAt (upd H3 D (.dK (objK 0 (os ++ [a])))) b f := fun {b f} hb q => ⟨by rw [upd_ne (ne_of q.t hd3 (by intro z; cases z))]; exact q.t, by rw [upd_ne hb]; exact q.d, q.n.tk (tk_upd fun xs z => by rw [hd3] at z; cases z)⟩
  refine ⟨(iv.e.trans e).put nD, upd_same, ?_, fun b hb => ?_, ?_, fun b hb => ?_⟩
  · rw [take_snoc ho]
    exact Paired.snoc (Paired.mapM (obs_same e iv.p) fun b f hb q => up (iv.n b hb) q) (up hn h)
  · rcases List.mem_append.mp hb with q | q
    · exact iv.n b q
    · rw [List.mem_singleton.mp q]; exact hn
  · rw [List.map_append]
    exact nd_snoc iv.nd (Paired.none iv.p (fun a b q => ⟨_, q.d⟩) fresh)
  · rcases List.mem_append.mp hb with q | q
    · exact iv.fr b q
    · rw [List.mem_singleton.mp q]; exact iv.e.free fresh
section
variable {P : Program} {w : World} {K : PySem.W.Frag} {mg : Str → Option Value} {base : Heap}
variable {H H' : Hp} {p src : Addr} {A : MA} {m : Mch} {G : Prg}
def spRows (K : PySem.W.Frag) : Sp := fun vs H Q _ => ∃ (p src : Addr) (A : MA) (m : Mch), vs = [.ref p] ∧ MachAt K H p src A m ∧ Q (.int (m.cnt : Int)) H
theorem sc_Machine_rows : FnScope ["self"] ["self"] d_Machine_rows.scope := ⟨rfl, rfl, rfl, by decide +kernel, rfl, by decide +kernel, by decide +kernel⟩
theorem k_Machine_rows (T : Tx w K mg) : Ok P w K mg base 1 d_Machine_rows ["self"] (spRows K) := by
  refine Ok.of T.d_Machine_rows sc_Machine_rows (fun _ _ _ _ _ _ us hl => match us, hl with | [_], _ => rfl) (fun vs H Q E h => ?_) (fun cdv A outer s H vs Q E hr h => ?_)
  · obtain ⟨p, src, A, m, rfl, _⟩ := h
    rfl
  · obtain ⟨p, src, Am, m, rfl, M, k⟩ := h
    refine ⟨_, (pss_one (ps_ret (pe_fld (pv 0) rfl))), ?_⟩
    exact ⟨_, rfl, _, _, _, _, _, rfl, M.ins, T.c_Machine, T.n_Machine_row_count, (by rfl), k⟩
def spEnded (K : PySem.W.Frag) : Sp := fun vs H Q _ => ∃ (p src : Addr) (A : MA) (m : Mch), vs = [.ref p] ∧ MachAt K H p src A m ∧ Q A.rv H
theorem sc_Machine_ended : FnScope ["self"] ["self"] d_Machine_ended.scope := ⟨rfl, rfl, rfl, by decide +kernel, rfl, by decide +kernel, by decide +kernel⟩
theorem k_Machine_ended (T : Tx w K mg) : Ok P w K mg base 1 d_Machine_ended ["self"] (spEnded K) := by
  refine Ok.of T.d_Machine_ended sc_Machine_ended (fun _ _ _ _ _ _ us hl => match us, hl with | [_], _ => rfl) (fun vs H Q E h => ?_) (fun cdv A outer s H vs Q E hr h => ?_)
  · obtain ⟨p, src, A, m, rfl, _⟩ := h
    rfl
  · obtain ⟨p, src, Am, m, rfl, M, k⟩ := h
    refine ⟨_, (pss_one (ps_ret (pe_fld (pv 0) rfl))), ?_⟩
    exact ⟨_, rfl, _, _, _, _, _, rfl, M.ins, T.c_Machine, T.n_Machine_result, (by rfl), k⟩
def spLog (K : PySem.W.Frag) : Sp := fun vs H Q _ => ∃ (p src : Addr) (A : MA) (m : Mch), vs = [.ref p] ∧ MachAt K H p src A m ∧ ∀ H' l ws, Same H H' → H' l = some (.lst ws) → Paired (LgAt H') ws m.log → Q (.ref l) H'
theorem sc_Machine_log : FnScope ["self"] ["self"] d_Machine_log.scope := ⟨rfl, rfl, rfl, by decide +kernel, rfl, by decide +kernel, by decide +kernel⟩
theorem k_Machine_log (T : Tx w K mg) : Ok P w K mg base 1 d_Machine_log ["self"] (spLog K) := by
  refine Ok.of T.d_Machine_log sc_Machine_log (fun _ _ _ _ _ _ us hl => match us, hl with | [_], _ => rfl) (fun vs H Q E h => ?_) (fun cdv A outer s H vs Q E hr h => ?_)
  · obtain ⟨p, src, A, m, rfl, _⟩ := h
    rfl
  · obtain ⟨p, src, Am, m, rfl, M, k⟩ := h
    refine ⟨_, (pss_one (ps_ret (pe_callTy call_list_of (by rfl) T.b_list bt_list (pa_cons (pe_fld (pv 0) rfl) pa_nil)))), ?_⟩
    obtain ⟨ws, w1, w2⟩ := M.wr
    exact ⟨_, rfl, _, _, _, _, _, rfl, M.ins, T.c_Machine, T.n_Machine_written, (by rfl), Am.wr, ws, rfl, .inl (SqL.of w1), fun l hl => k _ l ws (same_new hl) upd_same (lgs_tk (Tk.of (same_new hl)) w2)⟩
def spFrames (K : PySem.W.Frag) : Sp := fun vs H Q _ => ∃ (p src : Addr) (A : MA) (m : Mch), vs = [.ref p] ∧ MachAt K H p src A m ∧ m.stack.length < 1000 ∧ ∀ H' l sf, Same H H' → FrsAt H' l sf m.stack.reverse → Q (.ref l) H'
theorem sc_Machine_frames : FnScope ["self", "name", "row", "variables"] ["self"] d_Machine_frames.scope := ⟨rfl, rfl, rfl, by decide +kernel, rfl, by decide +kernel, by decide +kernel⟩
theorem k_Machine_frames (T : Tx w K mg) : Ok P w K mg base 1 d_Machine_frames ["self"] (spFrames K) := by
  refine Ok.of T.d_Machine_frames sc_Machine_frames (fun _ _ _ _ _ _ us hl => match us, hl with | [_], _ => rfl) (fun vs H Q E h => ?_) (fun cdv A outer s H vs Q E hr h => ?_)
  · obtain ⟨p, src, A, m, rfl, _⟩ := h
    rfl
  · obtain ⟨p, src, Am, m, rfl, M, hlen, k⟩ := h
    refine ⟨_, (pss_one (ps_ret (pe_lc (own := [("name", 1), ("row", 2), ("variables", 3)]) (g := (gUnl K 3 (gCons (gName 1) (gCons (gName 2) (gCons (gName 3) gNil))))) (tt := tYes) (by rfl) sc_Machine_frames.nd  (pi_list (pe_fld (pv 0) rfl)) (blkOk_by (own := [("name", 1), ("row", 2), ("variables", 3)]) (N := ["self", "name", "row", "variables"]) (sc := d_Machine_frames.scope) (by decide +kernel)) (fun _ _ _ _ _ => (pg_unl rfl (pgs_cons (pg_name (i := 1) sc_Machine_frames.nd rfl (.inl rfl)) (pgs_cons (pg_name (i := 2) sc_Machine_frames.nd rfl (.inl rfl)) (pgs_cons (pg_name (i := 3) sc_Machine_frames.nd rfl (.inl rfl)) pgs_nil))))) (fun _ _ _ _ _ => pts_nil) (fun _ _ _ _ _ => (pe_tup (pa_cons (pv 1) (pa_cons (pv 2) (pa_cons (pe_callTy call_dictD (by rfl) T.b_dict bt_dict (pa_cons (pv 3) pa_nil)) pa_nil)))))))), ?_⟩
    have fs := Paired.rev M.fs
    refine ⟨_, rfl, _, _, _, _, _, rfl, M.ins, T.c_Machine, T.n_Machine_stack, (by rfl), Am.st, rfl, ⟨_, SqL.of M.st⟩, fun D hD => ?_⟩
    refine lc_it (walk_list (xs := Am.fs.reverse.map fun a => V.ref a.l)) (fun i H' => ∃ sf, Same H H' ∧ H' D = some (.lst (sf.map fun a => V.ref a.t)) ∧ Paired (SFAt H') sf (m.stack.reverse.take i) ∧ (sf.map (·.d)).Nodup) ?_ (fun i H' _ e => ?_) (fun i x H1 H' hi e y => ?_) (fun H' e => ?_)
    · exact ⟨[], same_new hD, upd_same, .nil, List.nodup_nil⟩
    · obtain ⟨sf, sm, _, _, _⟩ := e
      exact SqL.of (sm _ _ M.st)
    · obtain ⟨rfl, y⟩ := y
      obtain ⟨sf, sm, hd, hp, hnd⟩ := e
      rw [List.length_map] at hi
      obtain ⟨a, ha⟩ : ∃ a, Am.fs.reverse[i]? = some a := ⟨_, List.getElem?_eq_getElem hi⟩
      rw [List.getElem?_map, ha] at y
      cases y
      obtain ⟨t, ht, F⟩ := Paired.getL fs ha
      have nD : H D = none := hD
      have hdd := sm _ _ F.d
      refine ⟨a.l, _, rfl, SqL.of (sm _ _ F.l), rfl, _, _, rfl, _, _, rfl, _, _, rfl, rfl, rfl, _, rfl, _, rfl, _, rfl, a.d, _, rfl, .inl hdd, fun d hd1 => ⟨(by show 3 ≤ sizeLine; decide), fun tt htt => ?_⟩⟩
      have s1 : Same H' (upd H' d (.dK (varKvs t.num a.ov))) := same_new hd1
      have s2 : Same (upd H' d (.dK (varKvs t.num a.ov))) (upd (upd H' d (.dK (varKvs t.num a.ov))) tt (.tup [.str (fnS t.fn), .int (t.at_ : Int), .ref d])) := same_new htt
      have q1 : (upd (upd H' d (.dK (varKvs t.num a.ov))) tt (.tup [.str (fnS t.fn), .int (t.at_ : Int), .ref d])) d = some (.dK (varKvs t.num a.ov)) := s2 _ _ upd_same
      have q2 : (upd (upd H' d (.dK (varKvs t.num a.ov))) tt (.tup [.str (fnS t.fn), .int (t.at_ : Int), .ref d])) tt = some (.tup [.str (fnS t.fn), .int (t.at_ : Int), .ref d]) := upd_same
      have s3 := s1.trans s2
      generalize (upd (upd H' d (.dK (varKvs t.num a.ov))) tt (.tup [.str (fnS t.fn), .int (t.at_ : Int), .ref d])) = H3 at s3 q1 q2
      have hd3 := s3 _ _ hd
      have S3 : SFAt H3 ⟨tt, d, a.ov⟩ t := ⟨q2, q1, fun s => (F.o s).le (Le.of (sm.trans s3))⟩
      have up : ∀ {b : SF} {f : Fr}, SFAt H3 b f → SFAt (upd H3 D (.lst ((sf.map fun a => V.ref a.t) ++ [.ref tt]))) b f := fun {b f} h => ⟨by rw [upd_ne (ne_of h.t hd3 (by intro z; cases z))]; exact h.t, by rw [upd_ne (ne_of h.d hd3 (by intro z; cases z))]; exact h.d, fun s => (h.o s).tk (tk_upd fun xs z => by rw [hd3] at z; cases z)⟩
      refine ⟨_, hd3, ?_, sf ++ [⟨tt, d, a.ov⟩], ?_, ?_, ?_, ?_⟩
      · rw [List.length_map, Paired.len hp, List.length_take, List.length_reverse]
        exact lt_line (by omega)
      · exact (sm.trans s3).put nD
      · rw [upd_same, List.map_append]; rfl
      · rw [take_snoc ht]
        exact Paired.snoc (Paired.mapP (sfs_same s3 hp) fun _ _ q => up q) (up S3)
      · rw [List.map_append]
        exact nd_snoc hnd (Paired.none hp (fun a b q => ⟨_, q.d⟩) hd1)
    · obtain ⟨sf, sm, hd, hp, hnd⟩ := e
      refine k H' D sf sm ⟨hd, ?_, hnd⟩
      rw [List.length_map, List.length_reverse, M.len, ← List.length_reverse, List.take_length] at hp
      exact hp
theorem objK_ne {os : List OA} (n : Nat) : objK n os ≠ kindKvs := by
  cases os with
  | nil => intro z; cases z
  | cons a r => intro z; cases z
def spHeap (K : PySem.W.Frag) : Sp := fun vs H Q _ => ∃ (p src : Addr) (A : MA) (m : Mch), vs = [.ref p] ∧ MachAt K H p src A m ∧ m.obs.length < 1000 ∧ ∀ H' l os, Same H H' → HpAt H' l os m.obs → Q (.ref l) H'
theorem sc_Machine_heap : FnScope ["self", "number", "title", "fields"] ["self"] d_Machine_heap.scope := ⟨rfl, rfl, rfl, by decide +kernel, rfl, by decide +kernel, by decide +kernel⟩
theorem k_Machine_heap (T : Tx w K mg) : Ok P w K mg base 1 d_Machine_heap ["self"] (spHeap K) := by
  refine Ok.of T.d_Machine_heap sc_Machine_heap (fun _ _ _ _ _ _ us hl => match us, hl with | [_], _ => rfl) (fun vs H Q E h => ?_) (fun cdv A outer s H vs Q E hr h => ?_)
  · obtain ⟨p, src, A, m, rfl, _⟩ := h
    rfl
  · obtain ⟨p, src, Am, m, rfl, M, hlen, k⟩ := h
    refine ⟨_, (pss_one (ps_ret (pe_lock (pe_dc (own := [("number", 1), ("title", 2), ("fields", 3)]) (g := (gTup K 2 (gCons (gName 1) (gCons (gTup K 2 (gCons (gName 2) (gCons (gName 3) gNil))) gNil)))) (tt := tYes) (by rfl) sc_Machine_heap.nd  (pi_items (pe_fld (pv 0) rfl)) (blkOk_by (own := [("number", 1), ("title", 2), ("fields", 3)]) (N := ["self", "number", "title", "fields"]) (sc := d_Machine_heap.scope) (by decide +kernel)) (fun _ _ _ _ _ => (pg_tup rfl (pgs_cons (pg_name (i := 1) sc_Machine_heap.nd rfl (.inl rfl)) (pgs_cons (pg_tup rfl (pgs_cons (pg_name (i := 2) sc_Machine_heap.nd rfl (.inl rfl)) (pgs_cons (pg_name (i := 3) sc_Machine_heap.nd rfl (.inl rfl)) pgs_nil))) pgs_nil)))) (fun _ _ _ _ _ => pts_nil) (fun _ _ _ _ _ => (pv 1)) (fun _ _ _ _ _ => (pe_tup (pa_cons (pv 2) (pa_cons (pe_callTy call_dictD (by rfl) T.b_dict bt_dict (pa_cons (pv 3) pa_nil)) pa_nil)))))))), ?_⟩
    have e1 : ∀ od, (upd H Am.ob (.frz od (.dK (objK 0 Am.os)))) p = some (.ins (He.ga K "Machine") Am.dx (mFs src Am.st Am.ob m.born Am.wr Am.rv m.cnt)) := fun od => by
      rw [upd_ne (ne_of M.ins M.ob (by intro z; cases z))]
      exact M.ins
    refine ⟨Am.ob, _, M.ob, trivial, fun od => ⟨_, rfl, p, _, _, _, _, rfl, e1 od, T.c_Machine, T.n_Machine_objects, rfl, Am.ob, od, _, rfl, upd_same, fun D hD => ?_⟩⟩
    have os : Paired (ObAt (upd H Am.ob (.frz od (.dK (objK 0 Am.os))))) Am.os m.obs := obs_upd M.os (fun xs z => by rw [M.ob] at z; cases z) fun a ha z => by
      have := M.ndD
      simp only [List.nodup_cons, List.mem_append, List.mem_map, not_or, not_exists, not_and] at this
      exact this.1.2 a ha z
    have hL : (upd H Am.ob (.frz od (.dK (objK 0 Am.os)))) Am.ob = some (.frz od (.dK (objK 0 Am.os))) := upd_same
    have nD : H D = none := none_upd hD
    refine dc_it walk_items (fun i H' => ∃ os', ObsIv (upd H Am.ob (.frz od (.dK (objK 0 Am.os)))) D m.obs i os' H') ?_ (fun i H' _ e => ?_) (fun i x H1 H' hi e y => ?_) (fun H' e => ?_)
    · exact ⟨[], same_new hD, upd_same, .nil, fun b hb => (by cases hb), List.nodup_nil, fun b hb => (by cases hb)⟩
    · obtain ⟨os', iv⟩ := e
      exact iv.e _ _ hL
    · obtain ⟨os', iv⟩ := e
      obtain ⟨t, x1, x2, rfl, nt, rfl, y1, y2⟩ := y
      rw [objK_len] at hi
      obtain ⟨a, ha⟩ : ∃ a, Am.os[i]? = some a := ⟨_, List.getElem?_eq_getElem hi⟩
      have hk : (objK 0 Am.os)[i]? = some (Sum.inl (i : Int), .ref a.t) := by rw [objK_ix, ha, Nat.zero_add]; rfl
      have y1 : (objK 0 Am.os)[i]?.map (fun kv => kV kv.1) = some x1 := y1
      have y2 : (objK 0 Am.os)[i]?.map Prod.snd = some x2 := y2
      rw [hk] at y1 y2
      cases y1; cases y2
      obtain ⟨o, ho, F⟩ := Paired.getL os ha
      have li := iv.len (Nat.le_of_lt (List.getElem?_eq_some_iff.mp ho).1)
      have s1 : Same H1 (upd H1 t (.tup [kV (Sum.inl (i : Int)), .ref a.t])) := same_new nt
      have sm1 := iv.e.trans s1
      refine ⟨t, _, rfl, SqT.of upd_same, rfl, _, _, rfl, _, _, rfl, ⟨a.t, _, rfl, SqT.of (sm1 _ _ F.t), rfl, _, _, rfl, _, _, rfl, rfl, rfl, rfl, _, rfl, _, rfl, _, rfl, a.d, _, rfl, .inl (sm1 _ _ F.d), fun d hd1 => ⟨(by show 2 ≤ sizeLine; decide), fun tt htt => ?_⟩⟩⟩
      generalize (upd H1 t (.tup [kV (Sum.inl (i : Int)), .ref a.t])) = H2 at s1 sm1 hd1 htt ⊢
      have s2 : Same H2 (upd H2 d (.dK [(Sum.inr "item", .int o.item), (Sum.inr "next", a.nv)])) := same_new hd1
      have s3 : Same (upd H2 d (.dK [(Sum.inr "item", .int o.item), (Sum.inr "next", a.nv)])) (upd (upd H2 d (.dK [(Sum.inr "item", .int o.item), (Sum.inr "next", a.nv)])) tt (.tup [.str "cell", .ref d])) := same_new htt
      have q1 := s3 _ _ (upd_same (H := H2) (a := d) (o := .dK [(Sum.inr "item", .int o.item), (Sum.inr "next", a.nv)]))
      have q2 : (upd (upd H2 d (.dK [(Sum.inr "item", .int o.item), (Sum.inr "next", a.nv)])) tt (.tup [.str "cell", .ref d])) tt = some (.tup [.str "cell", .ref d]) := upd_same
      have s4 := (s1.trans s2).trans s3
      generalize (upd (upd H2 d (.dK [(Sum.inr "item", .int o.item), (Sum.inr "next", a.nv)])) tt (.tup [.str "cell", .ref d])) = H3 at s4 q1 q2
      have S3 : ObAt H3 ⟨tt, d, a.nv⟩ o := ⟨q2, q1, F.n.le (Le.of (iv.e.trans s4))⟩
      have dD : d ≠ D := fun z => by
        have h1 := s1 _ _ iv.d
        rw [z] at hd1
        rw [hd1] at h1
        cases h1
      exact ⟨_, Sum.inl (i : Int), rfl, s4 _ _ iv.d, by rw [objK_len, li]; exact lt_line (Nat.lt_trans (by rw [← Paired.len os]; exact hi) hlen), _, iv.step hD ho s4 S3 dD (s1.free hd1)⟩
    · obtain ⟨os', iv⟩ := e
      rw [objK_len, Paired.len os] at iv
      have hob := iv.e _ _ hL
      have sm := same_unlock M.ob iv.e
      have nDo : D ≠ Am.ob := fun z => by rw [z, upd_same] at hD; cases hD
      refine ⟨hob, k _ D os' sm ⟨by rw [upd_ne nDo]; exact iv.d, ?_, iv.nd⟩⟩
      have hp := iv.p
      rw [List.take_length] at hp
      exact Paired.mapM hp fun b f hb q => ⟨by rw [upd_ne (ne_of q.t hob (by intro z; cases z))]; exact q.t, by rw [upd_ne (ne_of q.d hob (by intro z; cases z))]; exact q.d, q.n.tk (tk_upd fun xs z => by rw [hob] at z; cases z)⟩
end
end K18
set_option Elab.async false
set_option linter.all false
set_option maxRecDepth 100000
set_option pp.deepTerms false
set_option pp.maxSteps 400
set_option maxHeartbeats 4000000
namespace K18
open PySem PySem.Spec PyProof.Rows L2
theorem insC_of {K : PySem.W.Frag} {x : Str} (c : Cls K (He.ga K x)) (h : clsX K x = true) : C8.InsC K (He.ga K x) := by
  unfold clsX at h
  obtain ⟨h1, h2⟩ := He.ba h
  obtain ⟨h2, h3⟩ := He.ba h2
  obtain ⟨h3, h4⟩ := He.ba h3
  obtain ⟨h4, h5⟩ := He.ba h4
  exact ⟨c, He.eqO_ok h1, of_decide_eq_true h2, of_decide_eq_true h3, of_decide_eq_true h4, of_decide_eq_true h5⟩
section
variable {X : Cx} {C : Addr} {a : Expr} {ta : TE} {x : Str} {p p2 pos : Pos}
theorem pe_isC (ic : C8.InsC X.K C) (hi : X.mg "isinstance" = none) (hm : X.mg x = some (.ref C)) (ha : PE X a ta) (hg : Gl X "isinstance" := by rfl) (hg2 : Gl X x := by rfl) (hd : (x == ("__debug__" : Str)) = false := by decide)
    (he : starEach [a, .Name x p2] X.env = (false, eval a X.env) :: starEach [.Name x p2] X.env := by rfl) (he2 : starEach [.Name x p2] X.env = (false, eval (.Name x p2) X.env) :: starEach [] X.env := by rfl)
    (hpl : (backTo pos (starEach [.Name x p2] X.env)).any (·.1) = false := by rfl) :
    PE X (.Call (.Name "isinstance" p) [a, .Name x p2] [] pos) (tCB (fun xs H Q => ∃ a dx fs, xs = [.ref a, .ref C] ∧ H a = some (.ins C dx fs) ∧ Q (.bl true) H) (tCons ta (tCons (tC (.ref C)) tNil))) :=
  pe_callB (C8.call_isC ic) hg hi (by decide +kernel) (pa_cons ha (pa_cons (pe_glob hg2 hm rfl hd) pa_nil he2) he) (by decide) (by decide) he hpl
end
section
variable {P : Program} {w : World} {K : PySem.W.Frag} {mg : Str → Option Value} {base : Heap}
variable {H H' : Hp} {p src : Addr} {A : MA} {m : Mch} {G : Prg}
theorem Tx.iSource (T : Tx w K mg) : C8.InsC K (He.ga K "Source") := insC_of T.c_Source T.xs
theorem Tx.iState (T : Tx w K mg) : C8.InsC K (He.ga K "State") := insC_of T.c_State T.xt
def spCheck (K : PySem.W.Frag) : Sp := fun vs H Q _ => ∃ src dx fs, vs = [.ref src] ∧ H src = some (.ins (He.ga K "Source") dx fs) ∧ Q .non H
theorem sc_check_source : FnScope ["source"] ["source"] d_check_source.scope := ⟨rfl, rfl, rfl, by decide +kernel, rfl, by decide +kernel, by decide +kernel⟩
theorem k_check_source (T : Tx w K mg) : Ok P w K mg base 1 d_check_source ["source"] (spCheck K) := by
  refine Ok.of T.d_check_source sc_check_source (fun _ _ _ _ _ _ us hl => match us, hl with | [_], _ => rfl) (fun vs H Q E h => ?_) (fun cdv A outer s H vs Q E hr h => ?_)
  · obtain ⟨src, dx, fs, rfl, _⟩ := h
    rfl
  · obtain ⟨src, dx, fs, rfl, hs, k⟩ := h
    refine ⟨_, (pss_one (ps_if (pt_not (pt_val (pe_isC T.iSource T.b_isinstance T.g_Source (pv 0)))) pss_never pss_nil)), ?_⟩
    exact ⟨_, rfl, src, dx, fs, rfl, hs, _, rfl, k⟩
end
end K18
set_option Elab.async false
set_option linter.all false
set_option maxRecDepth 100000
set_option pp.deepTerms false
set_option pp.maxSteps 400
set_option maxHeartbeats 4000000
namespace K18
open PySem PySem.Spec PyProof.Rows L2
def mch0 (b : Bool) (i : Int) : Mch := { stack := [{ fEnter i none with fn := b }], obs := [], born := 0, log := [], res := none, cnt := 0 }
section
variable {P : Program} {w : World} {K : PySem.W.Frag} {mg : Str → Option Value} {base : Heap}
variable {H H' : Hp} {p src : Addr} {A : MA} {m : Mch} {G : Prg}
def spMInit (K : PySem.W.Frag) : Sp := fun vs H Q _ => ∃ (H0 : Hp) (x dx src l : Addr) (G : Prg) (b : Bool) (i : Int), vs = [.ref x, .ref src, .str (fnS b), .ref l] ∧ H x = some (.ins (He.ga K "Machine") dx []) ∧ Same H0 H ∧ H0 x = none ∧ SrcAt K H0 src G ∧ H0 l = some (.lst [.int i, .non]) ∧
  ∀ H' A', MachAt K H' x src A' (mch0 b i) → Same H0 H' → (∀ y ∈ A'.fp x, H0 y = none) → Q .non H'
theorem sc_Machine_init : FnScope ["self", "source", "name", "arguments", "kinds", "value", "kind", "variable"] ["self", "source", "name", "arguments"] d_Machine_init.scope := ⟨rfl, rfl, rfl, by decide +kernel, rfl, by decide +kernel, by decide +kernel⟩
theorem k_Machine_init (T : Tx w K mg) : Ok P w K mg base 4 d_Machine_init ["self", "source", "name", "arguments"] (spMInit K) := by
  refine Ok.of T.d_Machine_init sc_Machine_init (fun _ _ _ _ _ _ us hl => match us, hl with | [_, _, _, _], _ => rfl) (fun vs H Q E h => ?_) (fun cdv A outer s H vs Q E hr h => ?_)
  · obtain ⟨H0, x, dx, src, l, G, b, i, rfl, _⟩ := h
    rfl
  · obtain ⟨H0, x, dx, src, l, G, b, i, rfl, hx, e0, nx, S0, hl0, k⟩ := h
    refine ⟨_, (pss_cons (ps_expr (pe_G (k_check_source T) (hr.mono (by decide)) T.g_check_source (pa_cons (pv 1) pa_nil)))
      (pss_cons (ps_if (PW.pt (pw_or (pt_not (pt_val (pe_is T.b_isinstance T.b_str bt_str (pv 2)))) (pw_or1 (pt_cmp (pc_dnotin (hu_of hr) (pv 2) (pe_fld (pv 1) rfl)))))) pss_never pss_nil)
      (pss_cons (ps_setLc (i := 4) (own := [("variable", 7), ("kind", 6)]) (g := (gTup K 2 (gCons (gName 7) (gCons (gName 6) gNil)))) (tt := tYes) (by rfl) sc_Machine_init.nd rfl rfl (sw_true rfl rfl rfl (by decide +kernel)) (pi_list (pe_fld (pe_dget (hu_of hr) (pe_fld (pv 1) rfl) (pv 2) (fun _ _ => rfl)) rfl)) (blkOk_by (own := [("variable", 7), ("kind", 6)]) (N := ["self", "source", "name", "arguments", "kinds", "value", "kind", "variable"]) (sc := d_Machine_init.scope) (by decide +kernel)) (fun _ _ _ _ _ => (pg_tup rfl (pgs_cons (pg_name (i := 7) sc_Machine_init.nd rfl (.inl rfl)) (pgs_cons (pg_name (i := 6) sc_Machine_init.nd rfl (.inl rfl)) pgs_nil)))) (fun _ _ _ _ _ => pts_nil) (fun _ _ _ _ _ => (pv 6)))
      (pss_cons (ps_if (PW.pt (pw_or (pt_not (pt_val (pe_is T.b_isinstance T.b_list bt_list (pv 3)))) (pw_or1 (pt_cmpR op_ne (pe_callB call_len_seq (by rfl) T.b_len PySem.boot_len (pa_cons (pv 3) pa_nil)) (pe_callB call_len_seq (by rfl) T.b_len PySem.boot_len (pa_cons (pv 4) pa_nil)) (nomark _))))) pss_never pss_nil)
      (pss_cons (ps_for PassesOwn.never rfl (pi_zip (by rfl) T.b_zip (pa_cons (pv 3) (pa_cons (pv 4) pa_nil))) (pg_tup rfl (pgs_cons (pg_name (i := 5) sc_Machine_init.nd rfl (.inl rfl)) (pgs_cons (pg_name (i := 6) sc_Machine_init.nd rfl (.inl rfl)) pgs_nil))) (pss_one (ps_if (PW.pt (pw_or (pt_not (pt_val (pe_G (k_has_kind T) (hr.mono (by decide)) T.g_has_kind (pa_cons (pv 5) (pa_cons (pv 6) pa_nil))))) (pw_or1 (pt_val (pe_G (k_is_object T) (hr.mono (by decide)) T.g_is_object (pa_cons (pv 5) pa_nil)))))) pss_never pss_nil)))
      (pss_cons (ps_fld (pv 0) (pv 1) rfl)
      (pss_cons (ps_fld (pv 0) (pe_lst pa_nil) rfl)
      (pss_cons (ps_fld (pv 0) pe_dnewK rfl)
      (pss_cons (ps_fld (pv 0) pe_int rfl)
      (pss_cons (ps_fld (pv 0) (pe_lst pa_nil) rfl)
      (pss_cons (ps_fld (pv 0) pe_non rfl)
      (pss_cons (ps_fld (pv 0) pe_int rfl)
      (pss_one (ps_expr (pe_M (k_Machine_enter T) (hr.mono (by decide)) T.c_Machine T.h_Machine_enter rfl (pv 0) (pa_cons (pv 2) (pa_cons (pe_callTy call_list_of (by rfl) T.b_list bt_list (pa_cons (pv 3) pa_nil)) pa_nil))))))))))))))))), ?_⟩
    have S := S0.le (Le.of e0)
    have hl := e0 _ _ hl0
    obtain ⟨dxs, cr, fk, kf, f, hs, dg, F⟩ := S.kept b
    obtain ⟨dxf, ii, ei, kd, rl, rs, f1, f2, f3, f4, f5⟩ := F.ex
    obtain ⟨ts, i1, i2⟩ := f2
    refine ⟨_, rfl, src, _, _, rfl, hs, ?_⟩
    refine ⟨_, rfl, _, _, _, _, rfl, .base (.str _), by decide +kernel, true, rfl, iteF ?_⟩
    refine ⟨_, rfl, _, rfl, _, _, _, _, _, rfl, hs, T.c_Source, T.n_Source_kept_functions, (by kernel_rfl), kf, _, rfl, dg, _, rfl, iteF ?_⟩
    match ts, i2 with
    | [t0, t1], .cons h0 (.cons h1 .nil) =>
      refine ⟨_, rfl, _, _, _, _, _, rfl, hs, T.c_Source, T.n_Source_kept_functions, (by kernel_rfl), _, rfl, kf, .ref f, rfl, dg, _, _, _, _, _, rfl, f1, T.c_Function, T.n_Function_inputs, (by kernel_rfl), ii, rfl, ⟨_, SqL.of i1⟩, fun D hD => ?_⟩
      refine lc_it (walk_list (xs := [.ref t0, .ref t1])) (fun j H' => H' = upd H D (.lst ([V.str "number", .str "object"].take j))) rfl (fun j H' _ e => by rw [e]; exact (same_new hD).seq (SqL.of i1)) (fun j x H2 H' hj e y => ?_) (fun H' e => ?_)
      · obtain ⟨rfl, y⟩ := y
        subst e
        match j, hj with
        | 0, _ =>
          cases y
          exact ⟨t0, _, rfl, SqT.of (same_new hD _ _ h0), rfl, _, _, rfl, _, _, rfl, rfl, rfl, _, rfl, [], upd_same, (by show 0 < sizeLine; decide), by rw [upd_upd]; rfl⟩
        | 1, _ =>
          cases y
          exact ⟨t1, _, rfl, SqT.of (same_new hD _ _ h1), rfl, _, _, rfl, _, _, rfl, rfl, rfl, _, rfl, [.str "number"], upd_same, (by show 1 < sizeLine; decide), by rw [upd_upd]; rfl⟩
      · subst e
        have s2 : Same H (upd H D (.lst ([V.str "number", .str "object"].take [V.ref t0, V.ref t1].length))) := same_new hD
        have hD2 : (upd H D (.lst ([V.str "number", .str "object"].take [V.ref t0, V.ref t1].length))) D = some (.lst [.str "number", .str "object"]) := upd_same
        generalize (upd H D (.lst ([V.str "number", .str "object"].take [V.ref t0, V.ref t1].length))) = H2 at s2 hD2
        refine ⟨_, rfl, _, _, _, _, rfl, .base (.lst (s2 _ _ hl)), by decide +kernel, true, rfl, iteF ?_⟩
        refine ⟨_, rfl, l, _, rfl, .inl (SqL.of (s2 _ _ hl)), _, rfl, D, _, rfl, .inl (SqL.of hD2), rfl, _, rfl, iteNS rfl ?_⟩
        refine ⟨_, rfl, _, rfl, l, D, _, _, rfl, SqL.of (s2 _ _ hl), SqL.of hD2, ?_⟩
        refine for_it (walk_zip (n := 2) rfl) (fun j σ H' => Same H2 H' ∧ ∃ s5 s6 s7, σ = [some (.ref x), some (.ref src), some (.str (fnS b)), some (.ref l), some (.ref D), s5, s6, s7]) ?_ (fun j σ H' _ q => ⟨SqL.of (q.1 _ _ (s2 _ _ hl)), SqL.of (q.1 _ _ hD2)⟩) (fun j y σ H1 H' hj q yy => ?_) (fun σ H' q => ?_)
        · exact ⟨Same.refl _, _, _, _, rfl⟩
        · obtain ⟨sm, s5, s6, s7, rfl⟩ := q
          obtain ⟨t, x1, x2, rfl, nt, rfl, y1, y2⟩ := yy
          have sm' : Same H2 (upd H1 t (.tup [x1, x2])) := sm.trans (same_new nt)
          match j, hj with
          | 0, _ =>
            cases y1; cases y2
            refine ⟨t, _, rfl, SqT.of upd_same, rfl, _, _, rfl, _, _, rfl, rfl, ?_⟩
            refine ⟨_, rfl, _, rfl, .inl ⟨i, rfl, true, rfl, iteF ⟨_, rfl, .inl ⟨i, rfl, false, rfl, iteF ?_⟩⟩⟩⟩
            exact ⟨sm', _, _, _, rfl⟩
          | 1, _ =>
            cases y1; cases y2
            refine ⟨t, _, rfl, SqT.of upd_same, rfl, _, _, rfl, _, _, rfl, rfl, ?_⟩
            refine ⟨_, rfl, _, rfl, .inr ⟨.non, none, rfl, rfl, true, rfl, iteF ⟨_, rfl, .inr ⟨.non, none, rfl, rfl, false, rfl, iteF ?_⟩⟩⟩⟩
            exact ⟨sm', _, _, _, rfl⟩
        · obtain ⟨sm, s5, s6, s7, rfl⟩ := q
          have e3 : Same H0 H' := (e0.trans s2).trans sm
          have hx3 := sm _ _ (s2 _ _ hx)
          -- the fields
          refine ⟨_, rfl, _, rfl, x, _, _, _, rfl, hx3, T.c_Machine, T.n_Machine_source, (by show 0 < 1000; decide), ?_⟩
          have q4 : (upd H' x (.ins (He.ga K "Machine") dx (putF "source" (.ref src) []))) x = some (.ins (He.ga K "Machine") dx [("source", .ref src)]) := upd_same
          have e4 : Same H0 (upd H' x (.ins (He.ga K "Machine") dx (putF "source" (.ref src) []))) := e3.put nx
          generalize (upd H' x (.ins (He.ga K "Machine") dx (putF "source" (.ref src) []))) = H4 at q4 e4
          refine ⟨Nat.zero_le _, fun a1 n1 => ?_⟩
          have x1 : x ≠ a1 := ne_of_none q4 n1
          refine ⟨_, rfl, x, _, _, _, rfl, (by rw [upd_ne x1]; exact q4), T.c_Machine, T.n_Machine_stack, (by show 1 < 1000; decide), ?_⟩
          have q5 : (upd (upd H4 a1 (.lst [])) x (.ins (He.ga K "Machine") dx (putF "stack" (.ref a1) [("source", .ref src)]))) x = some (.ins (He.ga K "Machine") dx [("source", .ref src), ("stack", .ref a1)]) := by rw [upd_same]; kernel_rfl
          have e5 : Same H0 (upd (upd H4 a1 (.lst [])) x (.ins (He.ga K "Machine") dx (putF "stack" (.ref a1) [("source", .ref src)]))) := (e4.put (e4.free n1)).put nx
          have z5 : (upd (upd H4 a1 (.lst [])) x (.ins (He.ga K "Machine") dx (putF "stack" (.ref a1) [("source", .ref src)]))) a1 = some (.lst []) := by rw [upd_ne (Ne.symm x1)]; exact upd_same
          generalize (upd (upd H4 a1 (.lst [])) x (.ins (He.ga K "Machine") dx (putF "stack" (.ref a1) [("source", .ref src)]))) = H5 at q5 e5 z5
          intro a2 n2
          have x2 : x ≠ a2 := ne_of_none q5 n2
          have a12 : a1 ≠ a2 := ne_of_none z5 n2
          refine ⟨_, rfl, x, _, _, _, rfl, (by rw [upd_ne x2]; exact q5), T.c_Machine, T.n_Machine_objects, (by show 2 < 1000; decide), ?_⟩
          have q6 : (upd (upd H5 a2 (.dK [])) x (.ins (He.ga K "Machine") dx (putF "objects" (.ref a2) [("source", .ref src), ("stack", .ref a1)]))) x = some (.ins (He.ga K "Machine") dx [("source", .ref src), ("stack", .ref a1), ("objects", .ref a2)]) := by rw [upd_same]; kernel_rfl
          have e6 : Same H0 (upd (upd H5 a2 (.dK [])) x (.ins (He.ga K "Machine") dx (putF "objects" (.ref a2) [("source", .ref src), ("stack", .ref a1)]))) := (e5.put (e5.free n2)).put nx
          have z6 : (upd (upd H5 a2 (.dK [])) x (.ins (He.ga K "Machine") dx (putF "objects" (.ref a2) [("source", .ref src), ("stack", .ref a1)]))) a1 = some (.lst []) := by rw [upd_ne (Ne.symm x1), upd_ne a12]; exact z5
          have y6 : (upd (upd H5 a2 (.dK [])) x (.ins (He.ga K "Machine") dx (putF "objects" (.ref a2) [("source", .ref src), ("stack", .ref a1)]))) a2 = some (.dK []) := by rw [upd_ne (Ne.symm x2)]; exact upd_same
          generalize (upd (upd H5 a2 (.dK [])) x (.ins (He.ga K "Machine") dx (putF "objects" (.ref a2) [("source", .ref src), ("stack", .ref a1)]))) = H6 at q6 e6 z6 y6
          refine ⟨_, rfl, x, _, _, _, rfl, q6, T.c_Machine, T.n_Machine_born, (by show 3 < 1000; decide), ?_⟩
          have q7 : (upd H6 x (.ins (He.ga K "Machine") dx (putF "born" (.int 0) [("source", .ref src), ("stack", .ref a1), ("objects", .ref a2)]))) x = some (.ins (He.ga K "Machine") dx [("source", .ref src), ("stack", .ref a1), ("objects", .ref a2), ("born", .int 0)]) := by rw [upd_same]; kernel_rfl
          have e7 : Same H0 (upd H6 x (.ins (He.ga K "Machine") dx (putF "born" (.int 0) [("source", .ref src), ("stack", .ref a1), ("objects", .ref a2)]))) := e6.put nx
          have z7 : (upd H6 x (.ins (He.ga K "Machine") dx (putF "born" (.int 0) [("source", .ref src), ("stack", .ref a1), ("objects", .ref a2)]))) a1 = some (.lst []) := by rw [upd_ne (Ne.symm x1)]; exact z6
          have y7 : (upd H6 x (.ins (He.ga K "Machine") dx (putF "born" (.int 0) [("source", .ref src), ("stack", .ref a1), ("objects", .ref a2)]))) a2 = some (.dK []) := by rw [upd_ne (Ne.symm x2)]; exact y6
          generalize (upd H6 x (.ins (He.ga K "Machine") dx (putF "born" (.int 0) [("source", .ref src), ("stack", .ref a1), ("objects", .ref a2)]))) = H7 at q7 e7 z7 y7
          refine ⟨Nat.zero_le _, fun a3 n3 => ?_⟩
          have x3 : x ≠ a3 := ne_of_none q7 n3
          have a13 : a1 ≠ a3 := ne_of_none z7 n3
          have a23 : a2 ≠ a3 := ne_of_none y7 n3
          refine ⟨_, rfl, x, _, _, _, rfl, (by rw [upd_ne x3]; exact q7), T.c_Machine, T.n_Machine_written, (by show 4 < 1000; decide), ?_⟩
          have q8 : (upd (upd H7 a3 (.lst [])) x (.ins (He.ga K "Machine") dx (putF "written" (.ref a3) [("source", .ref src), ("stack", .ref a1), ("objects", .ref a2), ("born", .int 0)]))) x = some (.ins (He.ga K "Machine") dx [("source", .ref src), ("stack", .ref a1), ("objects", .ref a2), ("born", .int 0), ("written", .ref a3)]) := by rw [upd_same]; kernel_rfl
          have e8 : Same H0 (upd (upd H7 a3 (.lst [])) x (.ins (He.ga K "Machine") dx (putF "written" (.ref a3) [("source", .ref src), ("stack", .ref a1), ("objects", .ref a2), ("born", .int 0)]))) := (e7.put (e7.free n3)).put nx
          have z8 : (upd (upd H7 a3 (.lst [])) x (.ins (He.ga K "Machine") dx (putF "written" (.ref a3) [("source", .ref src), ("stack", .ref a1), ("objects", .ref a2), ("born", .int 0)]))) a1 = some (.lst []) := by rw [upd_ne (Ne.symm x1), upd_ne a13]; exact z7
          have y8 : (upd (upd H7 a3 (.lst [])) x (.ins (He.ga K "Machine") dx (putF "written" (.ref a3) [("source", .ref src), ("stack", .ref a1), ("objects", .ref a2), ("born", .int 0)]))) a2 = some (.dK []) := by rw [upd_ne (Ne.symm x2), upd_ne a23]; exact y7
          have w8 : (upd (upd H7 a3 (.lst [])) x (.ins (He.ga K "Machine") dx (putF "written" (.ref a3) [("source", .ref src), ("stack", .ref a1), ("objects", .ref a2), ("born", .int 0)]))) a3 = some (.lst []) := by rw [upd_ne (Ne.symm x3)]; exact upd_same
          generalize (upd (upd H7 a3 (.lst [])) x (.ins (He.ga K "Machine") dx (putF "written" (.ref a3) [("source", .ref src), ("stack", .ref a1), ("objects", .ref a2), ("born", .int 0)]))) = H8 at q8 e8 z8 y8 w8
          refine ⟨_, rfl, x, _, _, _, rfl, q8, T.c_Machine, T.n_Machine_result, (by show 5 < 1000; decide), ?_⟩
          have q9 : (upd H8 x (.ins (He.ga K "Machine") dx (putF "result" .non [("source", .ref src), ("stack", .ref a1), ("objects", .ref a2), ("born", .int 0), ("written", .ref a3)]))) x = some (.ins (He.ga K "Machine") dx [("source", .ref src), ("stack", .ref a1), ("objects", .ref a2), ("born", .int 0), ("written", .ref a3), ("result", .non)]) := by rw [upd_same]; kernel_rfl
          refine ⟨_, rfl, x, _, _, _, rfl, q9, T.c_Machine, T.n_Machine_row_count, (by show 6 < 1000; decide), ?_⟩
          rw [upd_upd]
          have qa : (upd H8 x (.ins (He.ga K "Machine") dx (putF "row_count" (.int 0) [("source", .ref src), ("stack", .ref a1), ("objects", .ref a2), ("born", .int 0), ("written", .ref a3), ("result", .non)]))) x = some (.ins (He.ga K "Machine") dx (mFs src a1 a2 0 a3 .non 0)) := by rw [upd_same]; kernel_rfl
          have ea : Same H0 (upd H8 x (.ins (He.ga K "Machine") dx (putF "row_count" (.int 0) [("source", .ref src), ("stack", .ref a1), ("objects", .ref a2), ("born", .int 0), ("written", .ref a3), ("result", .non)]))) := e8.put nx
          have M : MachAt K (upd H8 x (.ins (He.ga K "Machine") dx (putF "row_count" (.int 0) [("source", .ref src), ("stack", .ref a1), ("objects", .ref a2), ("born", .int 0), ("written", .ref a3), ("result", .non)]))) x src ⟨dx, a1, a2, a3, .non, [], []⟩ { stack := [], obs := [], born := 0, log := [], res := none, cnt := 0 } :=
            ⟨qa, rfl, by rw [upd_ne (Ne.symm x1)]; exact z8, .nil, by rw [upd_ne (Ne.symm x2)]; exact y8, .nil, ⟨[], by rw [upd_ne (Ne.symm x3)]; exact w8, .nil⟩, by simp [a13], by simp⟩
          have fpn : ∀ y ∈ MA.fp x (⟨dx, a1, a2, a3, .non, [], []⟩ : MA), H0 y = none := fun y hy => by
            rw [mem_fp] at hy
            rcases hy with e | e | e | e | ⟨a, ha, _⟩ | ⟨a, ha, _⟩ | ⟨a, ha, _⟩
            · rw [e]; exact nx
            · rw [e]; exact e4.free n1
            · rw [e]; exact e7.free n3
            · rw [e]; exact e5.free n2
            · cases ha
            · cases ha
            · cases ha
          generalize (upd H8 x (.ins (He.ga K "Machine") dx (putF "row_count" (.int 0) [("source", .ref src), ("stack", .ref a1), ("objects", .ref a2), ("born", .int 0), ("written", .ref a3), ("result", .non)]))) = Ha at qa ea M
          refine ⟨_, rfl, x, _, _, rfl, M.ins, by kernel_rfl, _, rfl, _, rfl, l, _, rfl, .inl (SqL.of (ea _ _ hl0)), fun l2 nl2 => ?_⟩
          have eb := same_new (o := .lst [.int i, .non]) nl2
          refine ⟨x, l2, src, _, _, G, b, i, .non, none, rfl, M.same eb, S0.le (Le.of (ea.trans eb)), upd_same, rfl, (by show 0 < 1000; decide), fun H' A' M' v' => ?_⟩
          exact k H' A' M' (v'.same (ea.trans eb) fpn) (v'.above (ea.trans eb) fpn)
end
end K18
set_option Elab.async false
set_option linter.all false
set_option maxRecDepth 100000
set_option pp.deepTerms false
set_option pp.maxSteps 400
set_option maxHeartbeats 4000000
namespace K18
open PySem PySem.Spec PyProof.Rows L2
structure StAt (K : PySem.W.Frag) (H : Hp) (x src : Addr) (fs : List Fr) (obs : List Ob) : Prop where
  ex : ∃ dx fr ho sf os, H x = some (.ins (He.ga K "State") dx [("source", .ref src), ("frame_rows", .ref fr), ("held_objects", .ref ho)]) ∧ FrsAt H fr sf fs ∧ HpAt H ho os obs
/-- a stack that is being made at D -/
structure StkIv (HL : Hp) (D : Addr) (fs : List Fr) (i : Nat) (fa : List FA) (H : Hp) : Prop where
  e : Same HL H
  d : H D = some (.lst (fa.map fun a => V.ref a.l))
  p : Paired (FrAt H) fa (fs.take i)
  nl : (fa.map (·.l)).Nodup
  nd : (fa.map (·.d)).Nodup
  fr : ∀ a ∈ fa, HL a.l = none ∧ HL a.d = none ∧ a.l ≠ D
theorem StkIv.step {HL H H3 : Hp} {D : Addr} {fs : List Fr} {i : Nat} {fa : List FA} {f : Fr} {a : FA} (iv : StkIv HL D fs i fa H) (nD : HL D = none) (hf : fs[i]? = some f) (e : Same H H3) (h : FrAt H3 a f) (hn : a.l ≠ D) (n1 : H a.l = none) (n2 : H a.d = none) :
    StkIv HL D fs (i + 1) (fa ++ [a]) (upd H3 D (.lst ((fa.map fun a => V.ref a.l) ++ [.ref a.l]))) := by
  have hd3 := e _ _ iv.d
  have nt : NoT H3 D := fun xs z => by rw [hd3] at z; cases z
  have up : ∀ {b : FA} {g : Fr}, b.l ≠ D → FrAt H3 b g → FrAt (upd H3 D (.lst ((fa.map fun a => V.ref a.l) ++ [.ref a.l]))) b g := fun {b g} hb q => q.keep (tk_upd nt) (upd_ne hb) (upd_ne (ne_of q.d hd3 (by intro z; cases z)))
  refine ⟨(iv.e.trans e).put nD, by rw [upd_same, List.map_append]; rfl, ?_, ?_, ?_, fun b hb => ?_⟩
  · rw [take_snoc hf]
    exact Paired.snoc (Paired.mapM iv.p fun b g hb q => up (iv.fr b hb).2.2 (q.keep (Tk.of e) ((e _ _ q.l).trans q.l.symm) ((e _ _ q.d).trans q.d.symm))) (up hn h)
  · rw [List.map_append]
    exact nd_snoc iv.nl (Paired.none iv.p (fun a b q => ⟨_, q.l⟩) n1)
  · rw [List.map_append]
    exact nd_snoc iv.nd (Paired.none iv.p (fun a b q => ⟨_, q.d⟩) n2)
  · rcases List.mem_append.mp hb with q | q
    · exact iv.fr b q
    · rw [List.mem_singleton.mp q]; exact ⟨iv.e.free n1, iv.e.free n2, hn⟩
section
variable {P : Program} {w : World} {K : PySem.W.Frag} {mg : Str → Option Value} {base : Heap}
variable {H H' : Hp} {p src : Addr} {A : MA} {m : Mch} {G : Prg}
def mchOf (fs : List Fr) (obs : List Ob) : Mch := { stack := fs.reverse, obs := obs, born := obs.length, log := [], res := none, cnt := 0 }
theorem objK_keys : ∀ (os : List OA) (n : Nat) (i : Nat) (k : Key) (v : V), (objK n os)[i]? = some (k, v) → k = Sum.inl ((n + i : Nat) : Int)
  | [], _, _, _, _, h => by simp [objK] at h
  | _ :: _, n, 0, k, v, h => by
    have := Option.some.inj h
    cases this
    simp
  | _ :: r, n, i + 1, k, v, h => by
    have := objK_keys r (n + 1) i k v (by simpa [objK] using h)
    rw [this]
    congr 2
    omega
/-- all but what stands at x is kept -/
def But (x : Addr) (H H' : Hp) : Prop := ∀ a o, H a = some o → a ≠ x → H' a = some o
theorem but_upd (H : Hp) (x : Addr) (o : HO) : But x H (upd H x o) := fun a u e h => by rw [upd_ne h]; exact e
theorem But.trans {x : Addr} {H1 H2 H3 : Hp} (a : But x H1 H2) (b : But x H2 H3) : But x H1 H3 := fun c o e h => b c o (a c o e h) h
theorem But.of {x : Addr} {H1 H2 : Hp} (a : Same H1 H2) : But x H1 H2 := fun c o e _ => a c o e
theorem nd_rev {α : Type} {l : List α} : l.reverse.Nodup ↔ l.Nodup := (List.reverse_perm l).nodup_iff
def bornL (n : Nat) : List Int := (List.range n).map fun (j : Nat) => (j : Int) + 1
def spGoing (K : PySem.W.Frag) : Sp := fun vs H Q _ => ∃ (y src : Addr) (G : Prg) (fs : List Fr) (obs : List Ob), vs = [.ref y] ∧ StAt K H y src fs obs ∧ SrcAt K H src G ∧ fs ≠ [] ∧ fs.length < 1000 ∧ obs.length < 1000 ∧
  ∀ H' x A', MachAt K H' x src A' (mchOf fs obs) → Same H H' → (∀ z ∈ A'.fp x, H z = none) → Q (.ref x) H'
theorem sc_going_on : FnScope ["state", "title", "kinds", "machine", "variable", "kind", "name", "row", "variables", "number", "held"] ["state"] d_going_on.scope := ⟨rfl, rfl, rfl, by decide +kernel, rfl, by decide +kernel, by decide +kernel⟩
theorem k_going_on (T : Tx w K mg) : Ok P w K mg base 6 d_going_on ["state"] (spGoing K) := by
  refine Ok.of T.d_going_on sc_going_on (fun _ _ _ _ _ _ us hl => match us, hl with | [_], _ => rfl) (fun vs H Q E h => ?_) (fun cdv A outer s H vs Q E hr h => ?_)
  · obtain ⟨y, src, G, fs, obs, rfl, _⟩ := h
    rfl
  · obtain ⟨y, src, G, fs, obs, rfl, St, S, hne, hfl, hol, k⟩ := h
    refine ⟨_, (pss_cons (ps_if (pt_not (pt_val (pe_isC T.iState T.b_isinstance T.g_State (pv 0)))) pss_never pss_nil)
      (pss_cons (ps_set (i := 1) sc_going_on.nd rfl (.inl rfl) (pe_ix ix_tup (pe_ix ix_list (pe_fld (pv 0) rfl) pe_int (fun _ _ => rfl)) pe_int (fun _ _ => rfl)))
      (pss_cons (ps_setLc (i := 2) (own := [("variable", 4), ("kind", 5)]) (g := (gTup K 2 (gCons (gName 4) (gCons (gName 5) gNil)))) (tt := tYes) (by rfl) sc_going_on.nd rfl rfl (sw_true rfl rfl rfl (by decide +kernel)) (pi_list (pe_fld (pe_dget (hu_of hr) (pe_fld (pe_fld (pv 0) rfl) rfl) (pv 1) (fun _ _ => rfl)) rfl)) (blkOk_by (own := [("variable", 4), ("kind", 5)]) (N := ["state", "title", "kinds", "machine", "variable", "kind", "name", "row", "variables", "number", "held"]) (sc := d_going_on.scope) (by decide +kernel)) (fun _ _ _ _ _ => (pg_tup rfl (pgs_cons (pg_name (i := 4) sc_going_on.nd rfl (.inl rfl)) (pgs_cons (pg_name (i := 5) sc_going_on.nd rfl (.inl rfl)) pgs_nil)))) (fun _ _ _ _ _ => pts_nil) (fun _ _ _ _ _ => (pv 5)))
      (pss_cons (ps_set (i := 3) sc_going_on.nd rfl (.inl rfl) (pe_K T.m_Machine (k_Machine_init T) rfl (hr.mono (by decide)) T.g_Machine (pa_cons (pe_fld (pv 0) rfl) (pa_cons (pv 1) (pa_cons (pe_lc (own := [("kind", 5)]) (g := (gName 5)) (tt := tYes) (by rfl) sc_going_on.nd  (pi_list (pv 2)) (blkOk_by (own := [("kind", 5)]) (N := ["state", "title", "kinds", "machine", "variable", "kind", "name", "row", "variables", "number", "held"]) (sc := d_going_on.scope) (by decide +kernel)) (fun _ _ _ _ _ => (pg_name (i := 5) sc_going_on.nd rfl (.inl rfl))) (fun _ _ _ _ _ => pts_nil) (fun _ _ _ _ _ => (pe_G (k_blank T) (hr.mono (by decide)) T.g_blank (pa_cons (pv 5) pa_nil)))) pa_nil)))))
      (pss_cons (ps_fld (pv 3) (pe_lc (own := [("name", 6), ("row", 7), ("variables", 8)]) (g := (gTup K 3 (gCons (gName 6) (gCons (gName 7) (gCons (gName 8) gNil))))) (tt := tYes) (by rfl) sc_going_on.nd  (pi_list (pe_fld (pv 0) rfl)) (blkOk_by (own := [("name", 6), ("row", 7), ("variables", 8)]) (N := ["state", "title", "kinds", "machine", "variable", "kind", "name", "row", "variables", "number", "held"]) (sc := d_going_on.scope) (by decide +kernel)) (fun _ _ _ _ _ => (pg_tup rfl (pgs_cons (pg_name (i := 6) sc_going_on.nd rfl (.inl rfl)) (pgs_cons (pg_name (i := 7) sc_going_on.nd rfl (.inl rfl)) (pgs_cons (pg_name (i := 8) sc_going_on.nd rfl (.inl rfl)) pgs_nil))))) (fun _ _ _ _ _ => pts_nil) (fun _ _ _ _ _ => (pe_lst (pa_cons (pv 6) (pa_cons (pv 7) (pa_cons (pe_callTy call_dictD (by rfl) T.b_dict bt_dict (pa_cons (pv 8) pa_nil)) pa_nil)))))) rfl)
      (pss_cons (ps_fld (pv 3) (pe_lock (pe_dc (own := [("number", 9), ("held", 10)]) (g := (gTup K 2 (gCons (gName 9) (gCons (gName 10) gNil)))) (tt := tYes) (by rfl) sc_going_on.nd  (pi_items (pe_fld (pv 0) rfl)) (blkOk_by (own := [("number", 9), ("held", 10)]) (N := ["state", "title", "kinds", "machine", "variable", "kind", "name", "row", "variables", "number", "held"]) (sc := d_going_on.scope) (by decide +kernel)) (fun _ _ _ _ _ => (pg_tup rfl (pgs_cons (pg_name (i := 9) sc_going_on.nd rfl (.inl rfl)) (pgs_cons (pg_name (i := 10) sc_going_on.nd rfl (.inl rfl)) pgs_nil)))) (fun _ _ _ _ _ => pts_nil) (fun _ _ _ _ _ => (pv 9)) (fun _ _ _ _ _ => (pe_tup (pa_cons (pe_ix (r := rIxT K) ix_tup (pv 10) pe_int (fun _ _ => rfl)) (pa_cons (pe_callTy call_dictD (by rfl) T.b_dict bt_dict (pa_cons (pe_ix (r := rIxT K) ix_tup (pv 10) pe_int (fun _ _ => rfl)) pa_nil)) pa_nil)))))) rfl)
      (pss_cons (ps_fld (pv 3) (pe_callBK (cr_maxD rfl) (by rfl) T.b_max bt_max (pa_cons (pe_lock (pe_lc (own := [("number", 9)]) (g := (gName 9)) (tt := tYes) (by rfl) sc_going_on.nd  (pi_keys (pe_fld (pv 0) rfl)) (blkOk_by (own := [("number", 9)]) (N := ["state", "title", "kinds", "machine", "variable", "kind", "name", "row", "variables", "number", "held"]) (sc := d_going_on.scope) (by decide +kernel)) (fun _ _ _ _ _ => (pg_name (i := 9) sc_going_on.nd rfl (.inl rfl))) (fun _ _ _ _ _ => pts_nil) (fun _ _ _ _ _ => (pe_op op_add (pv 9) pe_int)))) pa_nil) (pk_cons pe_int pk_nil)) rfl)
      (pss_one (ps_ret (pv 3)))))))))), ?_⟩
    obtain ⟨dx, fr, ho, sf, os, hy, F, O⟩ := St.ex
    match fs, sf, F, hne, hfl, k with
    | f0 :: fr', s0 :: sr, F, hne, hfl, k =>
      refine ⟨_, rfl, y, dx, _, rfl, hy, _, rfl, iteF ?_⟩
      have F0 : SFAt H s0 f0 := by
        cases F.f with
        | cons a b => exact a
      refine ⟨_, rfl, _, _, _, _, _, rfl, hy, T.c_State, T.n_State_frame_rows, rfl, fr, _, 0, _, rfl, rfl, SqL.of F.l, atI_nat (j := 0) rfl, s0.t, _, 0, _, rfl, rfl, SqT.of F0.t, rfl, ?_⟩
      obtain ⟨dxs, cr, fk, kf, f, hs, dg, Fn⟩ := S.kept f0.fn
      obtain ⟨dxf, ii, ei, kd, rl, rs, f1, f2, f3, f4, f5⟩ := Fn.ex
      obtain ⟨ts, i1, i2⟩ := f2
      match ts, i2 with
      | [t0, t1], .cons h0 (.cons h1 .nil) =>
        refine ⟨_, rfl, _, _, _, _, _, rfl, hy, T.c_State, T.n_State_source, rfl, _, _, _, _, _, rfl, hs, T.c_Source, T.n_Source_kept_functions, (by kernel_rfl), _, rfl, kf, .ref f, rfl, dg, _, _, _, _, _, rfl, f1, T.c_Function, T.n_Function_inputs, (by kernel_rfl), ii, rfl, ⟨_, SqL.of i1⟩, fun D hD => ?_⟩
        refine lc_it (walk_list (xs := [.ref t0, .ref t1])) (fun j H' => H' = upd H D (.lst ([V.str "number", .str "object"].take j))) rfl (fun j H' _ e => by rw [e]; exact (same_new hD).seq (SqL.of i1)) (fun j x H2 H' hj e y => ?_) (fun H' e => ?_)
        · obtain ⟨rfl, y⟩ := y
          subst e
          match j, hj with
          | 0, _ =>
            cases y
            exact ⟨t0, _, rfl, SqT.of (same_new hD _ _ h0), rfl, _, _, rfl, _, _, rfl, rfl, rfl, _, rfl, [], upd_same, (by show 0 < sizeLine; decide), by rw [upd_upd]; rfl⟩
          | 1, _ =>
            cases y
            exact ⟨t1, _, rfl, SqT.of (same_new hD _ _ h1), rfl, _, _, rfl, _, _, rfl, rfl, rfl, _, rfl, [.str "number"], upd_same, (by show 1 < sizeLine; decide), by rw [upd_upd]; rfl⟩
        · subst e
          have s2 : Same H (upd H D (.lst ([V.str "number", .str "object"].take [V.ref t0, V.ref t1].length))) := same_new hD
          have hD2 : (upd H D (.lst ([V.str "number", .str "object"].take [V.ref t0, V.ref t1].length))) D = some (.lst [.str "number", .str "object"]) := upd_same
          generalize (upd H D (.lst ([V.str "number", .str "object"].take [V.ref t0, V.ref t1].length))) = H2 at s2 hD2
          -- Machine(..)
          refine ⟨_, rfl, _, _, _, _, _, rfl, s2 _ _ hy, T.c_State, T.n_State_source, rfl, _, rfl, _, rfl, D, rfl, ⟨_, SqL.of hD2⟩, fun D2 hD2' => ?_⟩
          refine lc_it (walk_list (xs := [.str "number", .str "object"])) (fun j H' => H' = upd H2 D2 (.lst ([V.int 0, .non].take j))) rfl (fun j H' _ e => by rw [e]; exact (same_new hD2').seq (SqL.of hD2)) (fun j x H3 H' hj e y => ?_) (fun H' e => ?_)
          · obtain ⟨rfl, y⟩ := y
            subst e
            match j, hj with
            | 0, _ =>
              cases y
              exact ⟨rfl, _, rfl, .inl ⟨rfl, [], upd_same, (by show 0 < sizeLine; decide), by rw [upd_upd]; rfl⟩⟩
            | 1, _ =>
              cases y
              exact ⟨rfl, _, rfl, .inr ⟨rfl, [.int 0], upd_same, (by show 1 < sizeLine; decide), by rw [upd_upd]; rfl⟩⟩
          · subst e
            have s3 : Same H2 (upd H2 D2 (.lst ([V.int 0, .non].take [V.str "number", V.str "object"].length))) := same_new hD2'
            have hA3 : (upd H2 D2 (.lst ([V.int 0, .non].take [V.str "number", V.str "object"].length))) D2 = some (.lst [.int 0, .non]) := upd_same
            generalize (upd H2 D2 (.lst ([V.int 0, .non].take [V.str "number", V.str "object"].length))) = H3 at s3 hA3
            have s03 := s2.trans s3
            intro x dxm nx ndx hne2
            have sM : Same H3 (upd (upd H3 dxm (.own x)) x (.ins (He.ga K "Machine") dxm [])) := ((Same.refl H3).put ndx).put nx
            refine ⟨H3, x, dxm, src, D2, G, f0.fn, 0, rfl, upd_same, sM, nx, S.le (Le.of s03), hA3, fun H4 A4 M4 e4 fp4 => ⟨rfl, ?_⟩⟩
            have s04 := s03.trans e4
            have n4 : ∀ z ∈ A4.fp x, H z = none := fun z hz => s03.free (fp4 z hz)
            have nx0 : H x = none := s03.free nx
            -- machine.stack
            refine ⟨_, rfl, _, _, _, _, _, rfl, s04 _ _ hy, T.c_State, T.n_State_frame_rows, rfl, fr, rfl, ⟨_, SqL.of (s04 _ _ F.l)⟩, fun L hL => ?_⟩
            refine lc_it (walk_list (xs := (s0 :: sr).map fun a => V.ref a.t)) (fun j H' => ∃ fa, StkIv H4 L (f0 :: fr') j fa H') ?_ (fun j H' _ e => ?_) (fun j x' H5 H' hj e yy => ?_) (fun H'0 e => ?_)
            · exact ⟨[], same_new hL, upd_same, .nil, List.nodup_nil, List.nodup_nil, fun a ha => by cases ha⟩
            · obtain ⟨fa, iv⟩ := e
              exact SqL.of (iv.e _ _ (s04 _ _ F.l))
            · obtain ⟨rfl, yy⟩ := yy
              obtain ⟨fa, iv⟩ := e
              rw [List.length_map] at hj
              obtain ⟨a, ha⟩ : ∃ a, (s0 :: sr)[j]? = some a := ⟨_, List.getElem?_eq_getElem hj⟩
              rw [List.getElem?_map, ha] at yy
              cases yy
              obtain ⟨t, ht, Ft⟩ := Paired.getL F.f ha
              have s05 := s04.trans iv.e
              refine ⟨a.t, _, rfl, SqT.of (s05 _ _ Ft.t), rfl, _, _, rfl, _, _, rfl, _, _, rfl, rfl, rfl, _, rfl, _, rfl, _, rfl, a.d, _, rfl, .inl (s05 _ _ Ft.d), fun d hd1 => ⟨(by show 3 ≤ sizeLine; decide), fun l hl1 => ?_⟩⟩
              have q1 : Same H' (upd H' d (.dK (varKvs t.num a.ov))) := same_new hd1
              have q2 : Same (upd H' d (.dK (varKvs t.num a.ov))) (upd (upd H' d (.dK (varKvs t.num a.ov))) l (.lst [.str (fnS t.fn), .int (t.at_ : Int), .ref d])) := same_new hl1
              have q3 := q1.trans q2
              have g1 : (upd (upd H' d (.dK (varKvs t.num a.ov))) l (.lst [.str (fnS t.fn), .int (t.at_ : Int), .ref d])) d = some (.dK (varKvs t.num a.ov)) := q2 _ _ upd_same
              have F6 : FrAt (upd (upd H' d (.dK (varKvs t.num a.ov))) l (.lst [.str (fnS t.fn), .int (t.at_ : Int), .ref d])) ⟨l, d, a.ov⟩ t := ⟨upd_same, g1, fun s => (Ft.o s).le (Le.of (s05.trans q3))⟩
              have hlen : fa.length ≤ 1000 := by
                have e1 := Paired.len iv.p
                have e2 := List.length_take_le j (f0 :: fr')
                have e3 := Paired.len F.f
                omega
              refine ⟨_, q3 _ _ iv.d, ?_, _, iv.step hL ht q3 F6 (fun z => ?_) (q1.free hl1) hd1⟩
              · rw [List.length_map]
                have e1 := Paired.len iv.p
                have e2 := List.length_take_le j (f0 :: fr')
                have e3 := Paired.len F.f
                exact lt_line (by omega)
              · have g3 := q1 _ _ iv.d
                rw [← z] at g3
                exact absurd hl1 (by rw [g3]; intro w; cases w)
            obtain ⟨fa, iv⟩ := e
            rw [List.length_map, Paired.len F.f] at iv
            have Lx : x ≠ L := ne_of_none M4.ins hL
            have hins : H4 x = some (.ins (He.ga K "Machine") A4.dx (mFs src A4.st A4.ob 0 A4.wr A4.rv 0)) := M4.ins
            refine ⟨_, rfl, x, _, _, _, rfl, iv.e _ _ hins, T.c_Machine, T.n_Machine_stack, (by show 7 < 1000; decide), ?_⟩
            have p5 : (upd H'0 x (.ins (He.ga K "Machine") A4.dx (putF "stack" (.ref L) (mFs src A4.st A4.ob 0 A4.wr A4.rv 0)))) x = some (.ins (He.ga K "Machine") A4.dx (mFs src L A4.ob 0 A4.wr A4.rv 0)) := by rw [upd_same]; kernel_rfl
            have b5 := but_upd H'0 x (.ins (He.ga K "Machine") A4.dx (putF "stack" (.ref L) (mFs src A4.st A4.ob 0 A4.wr A4.rv 0)))
            have k5 : Tk H'0 (upd H'0 x (.ins (He.ga K "Machine") A4.dx (putF "stack" (.ref L) (mFs src A4.st A4.ob 0 A4.wr A4.rv 0)))) := tk_upd fun xs z => by rw [iv.e _ _ M4.ins] at z; cases z
            have s05 : Same H (upd H'0 x (.ins (He.ga K "Machine") A4.dx (putF "stack" (.ref L) (mFs src A4.st A4.ob 0 A4.wr A4.rv 0)))) := (s04.trans iv.e).put nx0
            generalize (upd H'0 x (.ins (He.ga K "Machine") A4.dx (putF "stack" (.ref L) (mFs src A4.st A4.ob 0 A4.wr A4.rv 0)))) = H5 at p5 b5 k5 s05
            -- machine.objects
            have hho := s05 _ _ O.d
            have yho : y ≠ ho := ne_of (s05 _ _ hy) hho (by intro z; cases z)
            refine ⟨ho, _, hho, trivial, fun od => ⟨_, rfl, _, _, _, _, _, rfl, (by rw [upd_ne yho]; exact s05 _ _ hy), T.c_State, T.n_State_held_objects, rfl, ho, od, _, rfl, upd_same, fun D3 hD3 => ?_⟩⟩
            have os5 : Paired (ObAt (upd H5 ho (.frz od (.dK (objK 0 os))))) os obs := Paired.mapM O.o fun a b ha q => by
              refine ⟨by rw [upd_ne (ne_of (s05 _ _ q.t) hho (by intro z; cases z))]; exact s05 _ _ q.t, ?_, q.n.tk ((Tk.of s05).trans (tk_upd fun xs z => by rw [hho] at z; cases z))⟩
              rw [upd_ne (fun z => ?_)]
              · exact s05 _ _ q.d
              · have h1 := q.d
                rw [z, O.d] at h1
                have h2 := congrArg (fun o => match o with | some (HO.dK kvs) => kvs.head? | _ => none) h1
                cases os with
                | nil => cases ha
                | cons c r => cases h2
            have nD3 : H5 D3 = none := none_upd hD3
            refine dc_it walk_items (fun i H' => ∃ os', ObsIv (upd H5 ho (.frz od (.dK (objK 0 os)))) D3 obs i os' H') ?_ (fun i H' _ e => ?_) (fun i x' H6 H' hi e yy => ?_) (fun H' e => ?_)
            · exact ⟨[], same_new hD3, upd_same, .nil, fun b hb => (by cases hb), List.nodup_nil, fun b hb => (by cases hb)⟩
            · obtain ⟨os', ov⟩ := e
              exact ov.e _ _ upd_same
            · obtain ⟨os', ov⟩ := e
              obtain ⟨t, x1, x2, rfl, nt, rfl, y1, y2⟩ := yy
              rw [objK_len] at hi
              obtain ⟨a, ha⟩ : ∃ a, os[i]? = some a := ⟨_, List.getElem?_eq_getElem hi⟩
              have hk : (objK 0 os)[i]? = some (Sum.inl (i : Int), .ref a.t) := by rw [objK_ix, ha, Nat.zero_add]; rfl
              have y1 : (objK 0 os)[i]?.map (fun kv => kV kv.1) = some x1 := y1
              have y2 : (objK 0 os)[i]?.map Prod.snd = some x2 := y2
              rw [hk] at y1 y2
              cases y1; cases y2
              obtain ⟨o, hob, Fo⟩ := Paired.getL os5 ha
              have li := ov.len (Nat.le_of_lt (List.getElem?_eq_some_iff.mp hob).1)
              have q1 : Same H6 (upd H6 t (.tup [kV (Sum.inl (i : Int)), .ref a.t])) := same_new nt
              have sm1 := ov.e.trans q1
              refine ⟨t, _, rfl, SqT.of upd_same, rfl, _, _, rfl, _, _, rfl, rfl, rfl, _, rfl, ?_⟩
              generalize (upd H6 t (.tup [kV (Sum.inl (i : Int)), .ref a.t])) = H7 at q1 sm1
              refine ⟨_, rfl, a.t, _, 0, _, rfl, rfl, SqT.of (sm1 _ _ Fo.t), rfl, _, rfl, a.t, _, 1, _, rfl, rfl, SqT.of (sm1 _ _ Fo.t), rfl, a.d, _, rfl, .inl (sm1 _ _ Fo.d), fun d hd1 => ⟨(by show 2 ≤ sizeLine; decide), fun tt htt => ?_⟩⟩
              have q2 : Same H7 (upd H7 d (.dK [(Sum.inr "item", .int o.item), (Sum.inr "next", a.nv)])) := same_new hd1
              have q3 : Same (upd H7 d (.dK [(Sum.inr "item", .int o.item), (Sum.inr "next", a.nv)])) (upd (upd H7 d (.dK [(Sum.inr "item", .int o.item), (Sum.inr "next", a.nv)])) tt (.tup [.str "cell", .ref d])) := same_new htt
              have g1 := q3 _ _ (upd_same (H := H7) (a := d) (o := .dK [(Sum.inr "item", .int o.item), (Sum.inr "next", a.nv)]))
              have g2 : (upd (upd H7 d (.dK [(Sum.inr "item", .int o.item), (Sum.inr "next", a.nv)])) tt (.tup [.str "cell", .ref d])) tt = some (.tup [.str "cell", .ref d]) := upd_same
              have q4 := (q1.trans q2).trans q3
              generalize (upd (upd H7 d (.dK [(Sum.inr "item", .int o.item), (Sum.inr "next", a.nv)])) tt (.tup [.str "cell", .ref d])) = H8 at q4 g1 g2
              have S8 : ObAt H8 ⟨tt, d, a.nv⟩ o := ⟨g2, g1, Fo.n.le (Le.of (ov.e.trans q4))⟩
              have dD : d ≠ D3 := fun z => by
                have h1 := q1 _ _ ov.d
                rw [z] at hd1
                rw [hd1] at h1
                cases h1
              exact ⟨_, Sum.inl (i : Int), rfl, q4 _ _ ov.d, by rw [objK_len, li]; exact lt_line (by have := Paired.len O.o; omega), _, ov.step hD3 hob q4 S8 dD (q1.free hd1)⟩
            obtain ⟨os', ov⟩ := e
            rw [objK_len, Paired.len O.o] at ov
            have hofz := ov.e _ _ upd_same
            refine ⟨hofz, ?_⟩
            have s6 : Same H5 (upd H' ho (.dK (objK 0 os))) := same_unlock hho ov.e
            have nD3h : D3 ≠ ho := fun z => by rw [z, upd_same] at hD3; cases hD3
            have hob6 : (upd H' ho (.dK (objK 0 os))) D3 = some (.dK (objK 0 os')) := by rw [upd_ne nD3h]; exact ov.d
            have ob6 : Paired (ObAt (upd H' ho (.dK (objK 0 os)))) os' obs := by
              have hp := ov.p
              rw [List.take_length] at hp
              exact Paired.mapM hp fun b f hb q => ⟨by rw [upd_ne (ne_of q.t hofz (by intro z; cases z))]; exact q.t, by rw [upd_ne (ne_of q.d hofz (by intro z; cases z))]; exact q.d, q.n.tk (tk_upd fun xs z => by rw [hofz] at z; cases z)⟩
            generalize (upd H' ho (.dK (objK 0 os))) = H6 at s6 hob6 ob6
            refine ⟨_, rfl, x, _, _, _, rfl, s6 _ _ p5, T.c_Machine, T.n_Machine_objects, (by show 7 < 1000; decide), ?_⟩
            have p7 : (upd H6 x (.ins (He.ga K "Machine") A4.dx (putF "objects" (.ref D3) (mFs src L A4.ob 0 A4.wr A4.rv 0)))) x = some (.ins (He.ga K "Machine") A4.dx (mFs src L D3 0 A4.wr A4.rv 0)) := by rw [upd_same]; kernel_rfl
            have b7 := but_upd H6 x (.ins (He.ga K "Machine") A4.dx (putF "objects" (.ref D3) (mFs src L A4.ob 0 A4.wr A4.rv 0)))
            have k7 : Tk H6 (upd H6 x (.ins (He.ga K "Machine") A4.dx (putF "objects" (.ref D3) (mFs src L A4.ob 0 A4.wr A4.rv 0)))) := tk_upd fun xs z => by rw [s6 _ _ p5] at z; cases z
            have s07 : Same H (upd H6 x (.ins (He.ga K "Machine") A4.dx (putF "objects" (.ref D3) (mFs src L A4.ob 0 A4.wr A4.rv 0)))) := (s05.trans s6).put nx0
            generalize (upd H6 x (.ins (He.ga K "Machine") A4.dx (putF "objects" (.ref D3) (mFs src L A4.ob 0 A4.wr A4.rv 0)))) = H7 at p7 b7 k7 s07
            -- machine.born
            have hho7 := s07 _ _ O.d
            refine ⟨ho, _, hho7, trivial, fun od2 => ⟨_, rfl, _, _, _, _, _, rfl, (by rw [upd_ne yho]; exact s07 _ _ hy), T.c_State, T.n_State_held_objects, rfl, ho, od2, rfl, .inl ⟨_, upd_same, fun D4 hD4 => ?_⟩⟩⟩
            have nD4 : H7 D4 = none := none_upd hD4
            have hoD4 : ho ≠ D4 := ne_of_none hho7 nD4
            refine lc_it walk_keys (fun i H' => H' = upd (upd H7 ho (.frz od2 (.dK (objK 0 os)))) D4 (.lst ((bornL i).map V.int))) rfl (fun i H' _ e => by rw [e, upd_ne hoD4]; exact upd_same) (fun i x' H8 H' hi e yy => ?_) (fun H' e => ?_)
            · obtain ⟨rfl, kk, vv, hk, rfl⟩ := yy
              subst e
              have ek := objK_keys os 0 i kk vv hk
              rw [Nat.zero_add] at ek
              subst ek
              rw [objK_len] at hi
              refine ⟨rfl, _, rfl, _, _, rfl, rfl, _, upd_same, ?_, ?_⟩
              · rw [List.length_map, bornL, List.length_map, List.length_range]
                exact lt_line (by have := Paired.len O.o; omega)
              · rw [upd_upd, bornL, bornL, List.range_succ, List.map_append, List.map_append]; rfl
            subst e
            refine ⟨by rw [upd_ne hoD4]; exact upd_same, ?_⟩
            rw [objK_len]
            have s8 : Same H7 (upd (upd (upd H7 ho (.frz od2 (.dK (objK 0 os)))) D4 (.lst ((bornL os.length).map V.int))) ho (.dK (objK 0 os))) := same_unlock hho7 (same_new hD4)
            have hD8 : (upd (upd (upd H7 ho (.frz od2 (.dK (objK 0 os)))) D4 (.lst ((bornL os.length).map V.int))) ho (.dK (objK 0 os))) D4 = some (.lst ((bornL os.length).map V.int)) := by rw [upd_ne (Ne.symm hoD4)]; exact upd_same
            generalize (upd (upd (upd H7 ho (.frz od2 (.dK (objK 0 os)))) D4 (.lst ((bornL os.length).map V.int))) ho (.dK (objK 0 os))) = H8 at s8 hD8
            have len := Paired.len O.o
            have rvn : A4.rv = .non := M4.res
            obtain ⟨ws, w1, w2⟩ := M4.wr
            cases w2
            have fin : ∀ Hf, Hf x = some (.ins (He.ga K "Machine") A4.dx (mFs src L D3 obs.length A4.wr A4.rv 0)) → But x H8 Hf → Tk H8 Hf → Same H Hf → Q (.ref x) Hf := fun Hf px bx kx sf => by
              have bH' : But x H'0 Hf := ((b5.trans (But.of s6)).trans (b7.trans (But.of s8))).trans bx
              have kH' : Tk H'0 Hf := ((k5.trans (Tk.of s6)).trans (k7.trans (Tk.of s8))).trans kx
              have b6 : But x H6 Hf := (b7.trans (But.of s8)).trans bx
              have k6 : Tk H6 Hf := (k7.trans (Tk.of s8)).trans kx
              have D3x : D3 ≠ x := fun z => by rw [z, p5] at nD3; cases nD3
              have wx : A4.wr ≠ x := ne_of w1 M4.ins (by intro z; cases z)
              have lx : ∀ a ∈ fa, a.l ≠ x ∧ a.d ≠ x := fun a ha => ⟨fun z => (by have := (iv.fr a ha).1; rw [z, M4.ins] at this; cases this), fun z => (by have := (iv.fr a ha).2.1; rw [z, M4.ins] at this; cases this)⟩
              have ox : ∀ b ∈ os', b.d ≠ x := fun b hb z => by
                have := ov.fr b hb
                rw [z, upd_ne (ne_of p5 hho (by intro z; cases z)), p5] at this
                cases this
              have ip := iv.p
              rw [List.take_length] at ip
              refine k Hf x ⟨A4.dx, L, D3, A4.wr, A4.rv, fa.reverse, os'⟩ ⟨px, rvn, ?_, ?_, ?_, ?_, ⟨[], ?_, .nil⟩, ?_, ?_⟩ sf ?_
              · show Hf L = some (.lst (fa.reverse.reverse.map fun a => V.ref a.l))
                rw [List.reverse_reverse]
                exact bH' _ _ iv.d (Ne.symm Lx)
              · exact Paired.rev (Paired.mapM ip fun a b ha q => ⟨bH' _ _ q.l (lx a ha).1, bH' _ _ q.d (lx a ha).2, fun s => (q.o s).tk kH'⟩)
              · exact b6 _ _ hob6 D3x
              · exact Paired.mapM ob6 fun a b ha q => ⟨k6 _ _ q.t, b6 _ _ q.d (ox a ha), q.n.tk k6⟩
              · exact bH' _ _ (iv.e _ _ w1) wx
              · rw [List.nodup_cons, List.nodup_cons, List.map_reverse, List.mem_cons, List.mem_reverse, nd_rev]
                refine ⟨fun z => ?_, fun z => ?_, iv.nl⟩
                · rcases z with z | z
                  · rw [show L = A4.wr from z, w1] at hL; cases hL
                  · obtain ⟨a, ha, e⟩ := List.mem_map.mp z
                    exact (iv.fr a ha).2.2 e
                · rw [List.mem_reverse] at z
                  obtain ⟨a, ha, e⟩ := List.mem_map.mp z
                  have := (iv.fr a ha).1
                  rw [e, w1] at this
                  cases this
              · have fa5 : ∀ a ∈ fa, ∃ o, H5 a.d = some o := fun a ha => by
                  obtain ⟨b, _, q⟩ := Paired.mem ip a ha
                  exact ⟨_, b5 _ _ q.d (lx a ha).2⟩
                rw [List.nodup_cons, List.map_reverse, List.mem_append, List.mem_reverse]
                refine ⟨fun z => ?_, ?_⟩
                · rcases z with z | z
                  · obtain ⟨a, ha, e⟩ := List.mem_map.mp z
                    obtain ⟨o, q⟩ := fa5 a ha
                    rw [e, nD3] at q
                    cases q
                  · obtain ⟨b, hb, e⟩ := List.mem_map.mp z
                    exact ov.n b hb e
                · rw [List.nodup_append, nd_rev]
                  refine ⟨iv.nd, ov.nd, fun c hc d hd e => ?_⟩
                  rw [List.mem_reverse] at hc
                  obtain ⟨a, ha, e1⟩ := List.mem_map.mp hc
                  obtain ⟨b, hb, e2⟩ := List.mem_map.mp hd
                  obtain ⟨o, q⟩ := fa5 a ha
                  have := none_upd (ov.fr b hb)
                  rw [e2, ← e, ← e1, q] at this
                  cases this
              · intro z hz
                rw [mem_fp] at hz
                rcases hz with e | e | e | e | ⟨a, ha, e⟩ | ⟨a, ha, e⟩ | ⟨a, ha, e⟩
                · rw [e]; exact nx0
                · rw [e]; exact s04.free hL
                · rw [e]; exact n4 _ (by simp [mem_fp])
                · rw [e]; exact s05.free nD3
                · rw [← e]; exact s04.free (iv.fr a (List.mem_reverse.mp ha)).1
                · rw [← e]; exact s04.free (iv.fr a (List.mem_reverse.mp ha)).2.1
                · rw [← e]; exact s05.free (none_upd (ov.fr a ha))
            have p8 := s8 _ _ p7
            have fin2 : ∀ i : Int, i = (obs.length : Int) → Q (.ref x) (upd H8 x (.ins (He.ga K "Machine") A4.dx (putF "born" (.int i) (mFs src L D3 0 A4.wr A4.rv 0)))) := fun i ei => by
              refine fin _ ?_ (but_upd _ _ _) (tk_upd fun xs z => by rw [p8] at z; cases z) ((s07.trans s8).put nx0)
              rw [upd_same, ei]
              kernel_rfl
            refine ⟨D4, bornL os.length, .int 0, rfl, rfl, SqL.of hD8, fun e => ?_, fun mx hm hmax => ?_⟩
            · refine ⟨_, rfl, x, _, _, _, rfl, p8, T.c_Machine, T.n_Machine_born, (by show 7 < 1000; decide), _, rfl, fin2 0 ?_⟩
              have := congrArg List.length e
              rw [bornL, List.length_map, List.length_range, len] at this
              rw [this]; rfl
            · refine ⟨_, rfl, x, _, _, _, rfl, p8, T.c_Machine, T.n_Machine_born, (by show 7 < 1000; decide), _, rfl, fin2 mx ?_⟩
              obtain ⟨j, hj, rfl⟩ := List.mem_map.mp hm
              rw [List.mem_range] at hj
              have hh := hmax ((os.length - 1 : Nat) + 1 : Int) (List.mem_map.mpr ⟨os.length - 1, List.mem_range.mpr (by omega), rfl⟩)
              omega
    | _, [], F, hne, _, _ =>
      cases F.f
      exact absurd rfl hne
end
end K18
set_option Elab.async false
set_option linter.all false
set_option maxRecDepth 100000
set_option pp.deepTerms false
set_option pp.maxSteps 600
set_option maxHeartbeats 4000000
namespace K18
open PySem PySem.Spec PyProof.Rows L2
/-! a != b, both sets of keys: the same keys -/
theorem entry_ne : entryFor table "set.__ne__" = some Builtin.«frozenset.__ne__» := entryFor_alias (id' := "frozenset.__ne__") (by kernel_rfl) rfl (by decide +kernel) (by kernel_rfl)
section
variable {prog : Program} {w : World} {A : Around} {E : Value → Shared → Prop} {s : Shared}
theorem quiet_scan {x : Value} (h : x.scannable = true) : Builtin.Frozenset.quietEq x = pure true := by
  cases x <;> first | rfl | (simp [Value.scannable] at h)
theorem size_set {a : Addr} {S : Key → Bool} {n : Nat} {Q : Nat → Shared → Prop} (ha : s.heap.SetOf (mixKind prog w) a S n) (h : Q n s) : wpAny (model prog w) A (Builtin.Frozenset.sizeOf a) Q E s := by
  obtain ⟨o, es, ep, t, ho, hx, hd, he, hm, hb, hf, hn⟩ := ha
  unfold Builtin.Frozenset.sizeOf
  refine wpAny_bind (wpAny_setEntries_of ho hd hf ?_)
  rw [hn]
  exact wpAny_pure h
theorem walk_quiet {a b : Addr} {o : Obj} {es : Array (Int × Value)} {ep : Nat} {t : SetTable} {S : Key → Bool} {n : Nat} {Q : List (Int × Value) → Shared → Prop} (ho : s.heap.get? a = some o) (hd : o.data = .set es ep t) (hf : t.fits es.size = true) (he : ElemsOf (mixKind prog w) es.toList)
    (hb : s.heap.SetOf (mixKind prog w) b S n) (h : Q es.toList s) : wpAny (model prog w) A (Builtin.Frozenset.walkUnseen a b) Q E s := by
  obtain ⟨o2, es2, ep2, t2, ho2, hx2, hd2, he2, hm2, hb2, hf2, hn2⟩ := hb
  unfold Builtin.Frozenset.walkUnseen
  refine wpAny_bind (wpAny_setEntries_of ho hd hf ?_)
  refine wpAny_bind (wpAny_setEntries_of ho2 hd2 hf2 ?_)
  refine wpAny_bind ?_
  refine wpAny_forIn_list _ (fun rest q s' => s' = s ∧ q = (none, ()) ∧ ∀ e ∈ rest, e.2.scannable = true) _ ?_ ?_ _ _ ⟨rfl, rfl, fun e me => ?_⟩
  · rintro x rest q s' ⟨rfl, rfl, hr⟩
    have hq := quiet_scan (hr x List.mem_cons_self)
    obtain ⟨x1, x2⟩ := x
    dsimp only at hq ⊢
    rw [hq]
    refine wpAny_bind (wpAny_pure ?_)
    exact wpAny_pure ⟨rfl, rfl, fun e me => hr e (List.mem_cons_of_mem _ me)⟩
  · rintro q s' ⟨rfl, rfl, _⟩
    exact wpAny_pure h
  · rcases List.mem_append.mp me with q | q
    · exact (he e q).2
    · exact (he2 e q).2
theorem subset_same {id : String} {a b : Addr} {S : Key → Bool} {n : Nat} {Q : Bool → Shared → Prop} (ha : s.heap.SetOf (mixKind prog w) a S n) (hb : s.heap.SetOf (mixKind prog w) b S n) (h : Q true s) :
    wpAny (model prog w) A (Builtin.Frozenset.subsetOf id a b) Q E s := by
  have ha0 := ha
  obtain ⟨o, es, ep, t, ho, hx, hd, he, hm, hbd, hf, hn⟩ := ha
  unfold Builtin.Frozenset.subsetOf
  refine wpAny_bind (size_set ha0 (wpAny_bind (size_set hb ?_)))
  rw [if_neg (Nat.lt_irrefl n)]
  refine wpAny_bind (wpAny_setEpoch_of ho hd hf ?_)
  refine wpAny_bind (walk_quiet ho hd hf he hb ?_)
  refine wpAny_bind ?_
  refine wpAny_forIn_list _ (fun rest q s' => s' = s ∧ q = (none, ()) ∧ ∀ e ∈ rest, e ∈ es.toList) _ ?_ ?_ _ _ ⟨rfl, rfl, fun e me => me⟩
  · rintro x rest q s' ⟨rfl, rfl, hr⟩
    have mx := hr x List.mem_cons_self
    obtain ⟨⟨k, hk, hh⟩, hs⟩ := he x mx
    have hS : S k = true := (hm k).mpr ⟨x, mx, hk⟩
    obtain ⟨hx1, hx2⟩ := x
    dsimp only at hk hh hs ⊢
    rw [hh]
    refine wpAny_bind (wpAny_holding (wpAny_setFind_of hk hs hb fun r hr' => ?_))
    rw [hS] at hr'
    cases r with
    | none => cases hr'
    | some j =>
      rw [if_neg (by simp)]
      refine wpAny_bind ?_
      unfold Builtin.Frozenset.unchanged
      refine wpAny_bind (wpAny_setEpoch_of ho hd hf ?_)
      rw [if_neg (by simp)]
      refine wpAny_pure ?_
      exact wpAny_pure ⟨rfl, rfl, fun e me => hr e (List.mem_cons_of_mem _ me)⟩
  · rintro q s' ⟨rfl, rfl, _⟩
    exact wpAny_pure h
theorem set_ne_same {a b : Addr} {S : Key → Bool} {n : Nat} {Q : Value → Shared → Prop} (ha : s.heap.SetOf (mixKind prog w) a S n) (hb : s.heap.SetOf (mixKind prog w) b S n) (hu : A.units < cLine) (h : Q (.bool false) s) :
    wpAny (model prog w) A (compareOp .NotEq (.ref a) (.ref b)) Q E s := by
  refine wpAny_richCompare_same_room (op := .NotEq) ha.typeIs hb.typeIs PySem.F.slot_set_ne (wpAny_call_entry PySem.F.slot_set_ne ha.typeIs entry_ne ?_ (PySem.F.args_set_ne_2 _ _)) hu
  unfold Builtin.«frozenset.__ne__»
  show wpAny _ _ (Builtin.Frozenset.slot1 "__ne__" ⟨[.ref a, .ref b], []⟩ >>= _) _ _ s
  refine wpAny_bind ?_
  show wpAny _ _ (pure (Value.ref a, Value.ref b)) _ _ s
  refine wpAny_pure ?_
  show wpAny _ _ (Builtin.Frozenset.isAnySet (.ref b) >>= _) _ _ s
  refine wpAny_bind ?_
  unfold Builtin.Frozenset.isAnySet
  refine wpAny_bind (wpAny_isInstance (T := "set") hb.typeIs PySem.F.sub_set_set ?_)
  refine wpAny_pure ?_
  rw [if_neg (by simp)]
  refine wpAny_bind (wpAny_pure ?_)
  refine wpAny_bind (wpAny_pure ?_)
  refine wpAny_bind (size_set ha (wpAny_bind (size_set hb ?_)))
  show wpAny _ _ ((if (n != n) = true then pure false else _) >>= _) _ _ _
  refine wpAny_bind ?_
  rw [if_neg (by simp)]
  refine wpAny_bind ?_
  refine wpAny_bind (wpAny_isInstance (T := "set") ha.typeIs PySem.F.sub_set_frozenset ?_)
  refine wpAny_pure ?_
  rw [if_neg (by simp)]
  refine subset_same ha hb ?_
  refine wpAny_pure ⟨_, rfl, ?_, ?_⟩
  · exact fun x => nomatch x
  · exact h
end
def rNeSet (P : Program) (w : World) : R2 := fun x y H Q => ∃ a b S n, x = .ref a ∧ y = .ref b ∧ H a = some (SetK P w a S n) ∧ H b = some (SetK P w b S n) ∧ Q (.bl false) H
theorem op_neSet {X : Cx} (hu : X.A.units < cLine) : OpR X (compareOp .NotEq) (rNeSet X.prog X.w) := by
  intro pins s σ H x y v u Q I rx ry h
  obtain ⟨a, b, S, n, rfl, rfl, ha, hb, q⟩ := h
  cases rx
  cases ry
  exact set_ne_same (setK_get I ha) (setK_get I hb) hu ⟨.bl false, H, I, rfl, q⟩
end K18
set_option Elab.async false
set_option linter.all false
set_option maxRecDepth 100000
set_option pp.deepTerms false
set_option pp.maxSteps 600
set_option maxHeartbeats 4000000
namespace K18
open PySem PySem.Spec PyProof.Rows L2
/-! set(d): d's keys -/
theorem key_scans {k : Key} {u : Value} (h : keyIs k u = true) : u.scannable = true := by
  rcases keyIs_shape h with ⟨i, t, rfl, rfl⟩ | ⟨x, t, rfl, rfl⟩ <;> rfl
abbrev setOb0 (w : World) : Obj := { cls := .type "set", dict := none, data := .set #[] 0 (.fresh 0 0 (!w.params.followText "set-order")) }
def inK (l : List Key) : Key → Bool := fun k => l.any fun j => decide (j = k)
theorem inK_mem {l : List Key} {k : Key} : inK l k = true ↔ k ∈ l := by
  unfold inK
  rw [List.any_eq_true]
  constructor
  · rintro ⟨x, hx, e⟩
    rw [← of_decide_eq_true e]
    exact hx
  · exact fun h => ⟨k, h, decide_eq_true rfl⟩
theorem inK_out {l : List Key} {k : Key} (h : k ∉ l) : inK l k = false := by
  cases e : inK l k with
  | false => rfl
  | true => exact absurd (inK_mem.mp e) h
theorem inK_snoc {l : List Key} {k j : Key} : inK (l ++ [k]) j = (inK l j || decide (j = k)) := by
  unfold inK
  rw [List.any_append, List.any_cons, List.any_nil, Bool.or_false]
  congr 1
  exact decide_eq_decide.mpr ⟨fun e => e.symm, fun e => e.symm⟩
theorem setOf_eq {prog : Program} {w : World} {h : Heap} {a : Addr} {S S' : Key → Bool} {n n' : Nat} (q : h.SetOf (mixKind prog w) a S n) (e : ∀ k, S k = S' k) (en : n = n') : h.SetOf (mixKind prog w) a S' n' := by
  have z : S = S' := funext e
  rw [← z, ← en]
  exact q
theorem take_snoc' {α : Type} {l : List α} {i : Nat} {x : α} (h : l[i]? = some x) : l.take (i + 1) = l.take i ++ [x] := by
  rw [List.take_succ, h]; rfl
theorem relay5 (b : Bool) : (SetTable.fresh 0 0 b).relaid (#[].map (fun e : Int × Value => e.1)) 10 = some ({ mask := 15, place := #[], dummies := #[], finger := 0, led := b, moves := 1, plain := true }, #[]) := by
  cases b <;> kernel_rfl
section
variable {prog : Program} {w : World} {A : Around} {E : Value → Shared → Prop} {s : Shared}
/-- room for n more in a new set -/
theorem room_new {S : Addr} {n : Nat} {Q : Unit → Shared → Prop} (hS : s.heap.get? S = some (setOb0 w)) (hn : n ≤ 5)
    (h : ∀ h', h'.SetOf (mixKind prog w) S (fun _ => false) 0 → (∀ b o, b ≠ S → s.heap.get? b = some o → h'.get? b = some o) → Q () { s with heap := h' }) :
    wpAny (model prog w) A (setRoomFor S n) Q E s := by
  have fits0 : (SetTable.fresh 0 0 (!w.params.followText "set-order")).fits (#[] : Array (Int × Value)).size = true := by rfl
  have new0 : s.heap.SetOf (mixKind prog w) S (fun _ => false) 0 := ⟨_, #[], 0, _, hS, ⟨rfl, rfl, rfl⟩, rfl, (fun e he => by simp at he), (fun k => by simp), (by decide), fits0, rfl⟩
  unfold setRoomFor
  refine wpAny_bind (wpAny_setState_of hS rfl fits0 ?_)
  by_cases h5 : n = 5
  · subst h5
    have e : (SetTable.fresh 0 0 (!w.params.followText "set-order")).roomFor 5 = some 10 := by rfl
    simp only [e]
    unfold setRelay
    refine wpAny_bind (wpAny_setState_of hS rfl fits0 ?_)
    dsimp only
    rw [if_neg (by decide), relay5]
    refine wpAny_bind (wpAny_pure (a := ((#[] : Array (Int × Value)), ({ mask := 15, place := #[], dummies := #[], finger := 0, led := (!w.params.followText "set-order"), moves := 1, plain := true } : SetTable))) ?_)
    obtain ⟨g1, g2⟩ := SetOf_store (knd := mixKind prog w) (S' := fun _ => false) (es' := #[]) (t' := { mask := 15, place := #[], dummies := #[], finger := 0, led := (!w.params.followText "set-order"), moves := 1, plain := true }) hS ⟨rfl, rfl, rfl⟩ rfl (fun e he => by simp at he) (fun k => by simp) (by decide) (by rfl)
    refine wpAny_storeSet_of hS rfl (h _ g2 fun b o hb e => ?_) (by show 0 ≤ sizeLine; exact Nat.zero_le _)
    exact (Heap.get?_update_other _ _ (fun q => hb q.symm)).trans e
  · have e : (SetTable.fresh 0 0 (!w.params.followText "set-order")).roomFor n = none := by
      show (if (0 + n) * 5 ≥ 7 * 3 then _ else none) = none
      rw [if_neg (by omega)]
    simp only [e]
    have q := h s.heap new0 fun b o _ e => e
    exact wpAny_pure q
/-- the keys are laid in, one by one -/
theorem fill_keys {d S : Addr} {vs : List (Key × Value)} {Q : Unit → Shared → Prop} (nm : String) (dd : s.heap.DictOf (mixKind prog w) d vs) (hsm : (d == sysModules) = false) (hne : d ≠ S) (hn : vs.length ≤ 5) (hS : s.heap.get? S = some (setOb0 w))
    (h : ∀ h', h'.SetOf (mixKind prog w) S (inK (vs.map Prod.fst)) vs.length → (∀ b o, b ≠ S → s.heap.get? b = some o → h'.get? b = some o) → Q () { s with heap := h' }) :
    wpAny (model prog w) A (Builtin.Frozenset.updateFrom nm S (.ref d)) Q E s := by
  obtain ⟨od, es, ep, ho, hx, hd, hk, hp, hnd⟩ := dd
  have ty : s.TypeIs (.ref d) "dict" := ⟨od, ho, hx.1⟩
  have hl : es.size = vs.length := by rw [← hp.length]; simp
  unfold Builtin.Frozenset.updateFrom
  refine wpAny_bind ?_
  unfold Builtin.Frozenset.isAnySet
  refine wpAny_bind (wpAny_isInstance (T := "dict") ty PySem.F.sub_dict_set ?_)
  refine wpAny_isInstance (T := "dict") ty PySem.F.sub_dict_frozenset ?_
  rw [if_neg (by simp)]
  refine wpAny_bind (wpAny_typeOf ty ?_)
  rw [if_pos (by simp)]
  refine wpAny_bind (wpAny_rule ?_)
  refine wpAny_bind (wpAny_pure ?_)
  rw [if_neg (by rw [hsm]; simp)]
  refine wpAny_bind (wpAny_dictEpoch ho hd ?_)
  refine wpAny_bind (wpAny_dictEntries ho hd ?_)
  refine wpAny_bind (room_new (prog := prog) hS (by omega) fun h0 n0 k0 => ?_)
  have ho0 : h0.get? d = some od := k0 _ _ hne ho
  refine wpAny_bind (wpAny_dictEntries (s := { s with heap := h0 }) ho0 hd ?_)
  refine wpAny_bind ?_
  rw [Std.Legacy.Range.forIn_eq_forIn_range']
  simp only [Std.Legacy.Range.size, Nat.sub_zero, Nat.add_sub_cancel, Nat.div_one]
  refine wpAny_forIn_list _ (fun rest q s' => ∃ i h', rest = List.range' i (es.size - i) ∧ i ≤ es.size ∧ s' = { s with heap := h' } ∧ h'.SetOf (mixKind prog w) S (inK ((vs.map Prod.fst).take i)) i ∧ ∀ b o, b ≠ S → s.heap.get? b = some o → h'.get? b = some o) _ ?_ ?_ _ _ ⟨0, h0, by simp, Nat.zero_le _, rfl, ?_, k0⟩
  · rintro x rest q s' ⟨i, h', hr, hi, rfl, so, kp⟩
    have hlt : i < es.size := by
      rcases Nat.lt_or_ge i es.size with z | z
      · exact z
      · rw [Nat.sub_eq_zero_of_le z] at hr; simp at hr
    have e1 : es.size - i = (es.size - (i + 1)) + 1 := by omega
    rw [e1, List.range'_succ] at hr
    injection hr with hx hrest
    subst hx
    have hoi : h'.get? d = some od := kp _ _ hne ho
    have hltv : x < vs.length := by omega
    obtain ⟨k, v, hkv⟩ : ∃ k v, vs[x] = (k, v) := ⟨_, _, rfl⟩
    obtain ⟨hkey, _⟩ := hp.get? (i := x) (e := es[x]) (k := k) (v := v) (by rw [Array.getElem?_toList]; exact Array.getElem?_eq_getElem hlt) (by rw [List.getElem?_eq_getElem hltv, hkv])
    obtain ⟨k', hk', hh⟩ := hk es[x] (Array.getElem_mem hlt)
    have ekk : k' = k := (mixKind prog w).inj _ _ _ hk' hkey
    rw [ekk] at hh
    refine wpAny_bind (wpAny_dictEntries (s := { s with heap := h' }) hoi hd ?_)
    rw [Array.getElem?_eq_getElem hlt]
    dsimp only
    rw [hh]
    refine wpAny_bind (wpAny_holding (wpAny_setAddHashed_of (s := { s with heap := h' }) hkey (key_scans hkey) so (by have : scanBound = 4096 := rfl; omega) fun h2 sb so2 => ?_))
    have kd2 : h2.get? d = some od := (sb.2 d hne).trans hoi
    refine wpAny_bind (wpAny_dictEpoch (s := { s with heap := h2 }) kd2 hd ?_)
    rw [if_neg (by simp)]
    have hke : (vs.map Prod.fst)[x]? = some k := by rw [List.getElem?_map, List.getElem?_eq_getElem hltv, hkv]; rfl
    have hnk : k ∉ (vs.map Prod.fst).take x := fun z => by
      obtain ⟨j, hj, ej⟩ := List.mem_iff_getElem.mp z
      rw [List.length_take] at hj
      have e2 : (vs.map Prod.fst)[j]? = some k := by
        rw [List.getElem_take] at ej
        rw [List.getElem?_eq_getElem (by omega), ej]
      have := nd_ix hnd e2 hke
      omega
    refine wpAny_pure ⟨x + 1, h2, hrest, hlt, rfl, ?_, fun b o hb e => (sb.2 b hb).trans (kp b o hb e)⟩
    refine setOf_eq so2 (fun j => ?_) ?_
    · rw [take_snoc' hke, inK_snoc]
    · rw [inK_out hnk]; rfl
  · rintro q s' ⟨i, h', hr, hi, rfl, so, kp⟩
    have hin : i = es.size := by
      rcases Nat.lt_or_ge i es.size with z | z
      · have e : es.size - i = (es.size - (i + 1)) + 1 := by omega
        rw [e, List.range'_succ] at hr
        cases hr
      · omega
    subst hin
    refine wpAny_pure (h h' ?_ kp)
    rw [hl, List.take_of_length_le (by rw [List.length_map]; exact Nat.le_refl _)] at so
    exact so
  · exact setOf_eq n0 (fun k => rfl) rfl
theorem call_set_dict {d : Addr} {vs : List (Key × Value)} {Q : Value → Shared → Prop} (dd : s.heap.DictOf (mixKind prog w) d vs) (hsm : (d == sysModules) = false) (hn : vs.length ≤ 5)
    (h : ∀ h', h'.SetOf (mixKind prog w) s.heap.objs.size (inK (vs.map Prod.fst)) vs.length → (∀ b o, s.heap.get? b = some o → h'.get? b = some o) → Q (.ref s.heap.objs.size) { s with heap := h' }) :
    wpAny (model prog w) A (call (.type "set") [.ref d]) Q E s := by
  have hd : s.heap.get? d ≠ none := by obtain ⟨o, _, _, ho, _⟩ := dd; rw [ho]; intro z; cases z
  have hne : d ≠ s.heap.objs.size := by
    obtain ⟨o, _, _, ho, _⟩ := dd
    exact Nat.ne_of_lt (Heap.lt_size ho)
  have hS : (s.heap.push (setOb0 w)).get? s.heap.objs.size = some (setOb0 w) := Heap.get?_push_size _ rfl
  have old : ∀ b o, s.heap.get? b = some o → (s.heap.push (setOb0 w)).get? b = some o := fun b o e => Heap.get?_push_of_some _ e
  have dd1 : (s.heap.push (setOb0 w)).DictOf (mixKind prog w) d vs := by
    obtain ⟨o, es, ep, ho, r⟩ := dd
    exact ⟨o, es, ep, old _ _ ho, r⟩
  have ty : Shared.TypeIs { s with heap := s.heap.push (setOb0 w) } (.ref s.heap.objs.size) "set" := ⟨_, hS, rfl⟩
  -- what __init__ does
  have initial : wpAny (model prog w) A.in1.in1 (Builtin.«set.__init__» ⟨[.ref s.heap.objs.size, .ref d], []⟩) (fun fin s' => fin = .done (.ret .none) ∧ Q (.ref s.heap.objs.size) s') (fun _ _ => False) { s with heap := s.heap.push (setOb0 w) } := by
    have fits0 : (SetTable.fresh 0 0 (!w.params.followText "set-order")).fits (#[] : Array (Int × Value)).size = true := by rfl
    unfold Builtin.«set.__init__» noKeywords
    generalize hU : Builtin.Frozenset.updateFrom = U
    wp_walk
    subst hU
    exact fill_keys _ dd1 hsm hne hn hS fun h' so kp => wpAny_pure ⟨rfl, h h' so fun b o e => kp b o (Nat.ne_of_lt (Heap.lt_size e)) (old _ _ e)⟩
  obtain ⟨mc, mt, mro⟩ := PySem.F.called_set.mro
  have made := PySem.F.called_set.made
  have sub := PySem.F.called_set.sub
  apply wpAny_call
  apply codeAny_of_tree
  show wpAny _ _ (callAny (.type "set") _) _ _ _
  apply wpAny_pure
  refine ⟨Code.quiet_builtin _ (by decide +kernel), codeAny_builtin PySem.F.entry_type_call ?_⟩
  rw [Around.under_plain (weight_type_call_type "set" [.ref d] []) rfl]
  have t1 := PySem.F.called_set.notType
  have t2 := PySem.F.called_set.canCreate
  have t3 := PySem.F.typeCall_set_1 (.ref d)
  repeat (any_goals (first | assumption | wp_step))
  refine codeAny_mono (code_set_led1 (.ref d) (E := E) (Q₁ := fun obj s1 => obj = .ref s.heap.objs.size ∧ s1 = { s with heap := s.heap.push (setOb0 w) }) ⟨rfl, rfl⟩) fun r s1 hr => ?_
  match r, hr with
  | .error e, hr => exact hr
  | .ok (.ret obj), hr =>
    obtain ⟨rfl, rfl⟩ := hr
    have l1 := PySem.F.called_set.init.lookup
    have l2 := PySem.F.called_set.init.bind (.ref s.heap.objs.size)
    repeat (any_goals (first | assumption | wp_step))
    refine codeAny_mono (codeAny_call_builtin (R := wants (fun r s2 => r = .none ∧ Q (.ref s.heap.objs.size) s2) E) PySem.F.called_set.init.plain PySem.F.entry_set_init (check_set_init_1 ty (wpAny_mono initial (fun fin s2 q => ?_) fun e2 s3 q3 => (show False from q3).elim))) fun r2 s2 hr2 => ?_
    · obtain ⟨rfl, q⟩ := q
      exact ⟨rfl, q⟩
    · match r2, hr2 with
      | .error e, hr2 => exact hr2
      | .ok (.ret v), hr2 =>
        obtain ⟨rfl, q⟩ := hr2
        repeat (any_goals (first | assumption | wp_step))
      | .ok .next, hr2 => exact (show False from hr2).elim
      | .ok .brk, hr2 => exact (show False from hr2).elim
      | .ok .cont, hr2 => exact (show False from hr2).elim
  | .ok .next, hr => exact (show False from hr).elim
  | .ok .brk, hr => exact (show False from hr).elim
  | .ok .cont, hr => exact (show False from hr).elim
end
/-- set(d): a new set of its keys -/
def rSetD (P : Program) (w : World) : List V → Hp → VK → Prop := fun xs H Q => ∃ p kvs, xs = [.ref p] ∧ Rd H p (.dK kvs) ∧ kvs.length ≤ 5 ∧ ∀ q, H q = none → Q (.ref q) (upd H q (SetK P w q (inK (kvs.map Prod.fst)) kvs.length))
theorem call_setD {X : Cx} : CallR X (.type "set") (rSetD X.prog X.w) := by
  intro pins s σ H xs us Q I r h
  obtain ⟨p, kvs, rfl, hk, hn, q⟩ := h
  obtain ⟨u, eu, rx⟩ := vals1 r
  subst eu
  obtain rfl : u = Value.ref p := rx
  obtain ⟨z, lo, vs, rk, hd⟩ := dk_rd I.hok hk
  have hl : kvs.length = vs.length := Paired.length rk
  have hkeys : vs.map Prod.fst = kvs.map Prod.fst := (KV.keys rk).symm
  refine call_set_dict hd lo (by omega) fun h' so kp => ?_
  rw [hkeys, ← hl] at so
  exact ⟨.ref s.heap.objs.size, upd H s.heap.objs.size (SetK X.prog X.w s.heap.objs.size (inK (kvs.map Prod.fst)) kvs.length), I.laid (t' := s.toks) kp (Nat.le_refl _) (setK_new so), rfl, q _ (I.hok.fresh (Nat.le_refl _))⟩
end K18
set_option Elab.async false
set_option linter.all false
set_option maxRecDepth 100000
set_option pp.deepTerms false
set_option pp.maxSteps 600
set_option maxHeartbeats 4000000
namespace K18
open PySem PySem.Spec PyProof.Rows L2
/-! {e for tg in iter}, e a text or an int: the new set stands at D -/
def tKs (P : Program) (w : World) (wi : TI) (g : TG) (tt : TT) (te : TE) (vs : List Nat) : TE := fun σ H Q => wi σ H fun J H1 => ∀ D, H1 D = none → ∃ W : Nat → Nat → Hp → Prop, (∃ m, W 0 m (upd H1 D (SetK P w D (fun _ => false) 0))) ∧ ∀ j m H, W j m H →
  (J.stop j H ∧ Q (.ref D) H) ∨ (J.go j H ∧ ∃ Nx : Hp → Prop, (∀ H', Nx H' → ∃ m', m' < m ∧ W (j + 1) m' H') ∧ ∀ x H', J.yld j H x H' → g x (wipe σ vs) H' fun σ2 H2 => wipe σ2 vs = wipe σ vs ∧ tt σ2 H2 fun b H3 =>
    if b = true then te σ2 H3 fun y H4 => ∃ (k : Key) (S : Key → Bool) (n : Nat), y = kV k ∧ H4 D = some (SetK P w D S n) ∧ n + 1 < scanBound ∧ Nx (upd H4 D (SetK P w D (fun j => S j || decide (j = k)) (if S k = true then n else n + 1))) else Nx H3)
section
variable {X : Cx}
/-- D.add(k) as the comprehension does it -/
theorem lay_key {pins : List (Addr × Obj)} {s : Shared} {σ : L2.St} {H : Hp} {D : Addr} {S : Key → Bool} {n : Nat} {k : Key} {u : Value} {E : Value → Shared → Prop} {Q : Value → Shared → Prop} (I : Inv X pins σ H s) (hD : H D = some (SetK X.prog X.w D S n)) (hn : n + 1 < scanBound) (hu : RelV (kV k) u)
    (h : ∀ r s', Inv X pins σ (upd H D (SetK X.prog X.w D (fun j => S j || decide (j = k)) (if S k = true then n else n + 1))) s' → Q r s') : wpAny (model X.prog X.w) X.A (call (.builtin "set.add") [.ref D, u]) Q E s := by
  refine call_set_add (kV_is hu) (key_scan hu) (setK_get I hD) hn fun h' sb new => h _ _ ?_
  have there : ∃ u, h'.get? D = some u := by
    obtain ⟨o, _, _, _, ho, _⟩ := new
    exact ⟨o, ho⟩
  exact I.write (e := D) (t' := s.toks + 1) (by rw [hD]; trivial) (.inl rfl) (fun b u hb e => (sb.2 b hb).trans e) there (setK_new new)
theorem pe_ks {el tg iter : Expr} {ifs : List Expr} {sc : Scope} {own : List (PySem.Str × Nat)} {cp : Pos} {wi : TI} {g : TG} {tt : TT} {te : TE} (calm : X.calm = true) (nd : X.N.Nodup) (it : PI X tg iter wi) (ok : BlkOk X.N X.env.scope sc own)
    (hg : ∀ (s : Shared) (H : Hp) (C : Addr) (cl : List (PySem.Str × Addr)) (fp : List Addr), PG (X.blk s H sc (compEnvC sc cl C X.env) fp) tg g) (hi : ∀ (s : Shared) (H : Hp) (C : Addr) (cl : List (PySem.Str × Addr)) (fp : List Addr), PTs (X.blk s H sc (compEnvC sc cl C X.env) fp) ifs tt)
    (hv : ∀ (s : Shared) (H : Hp) (C : Addr) (cl : List (PySem.Str × Addr)) (fp : List Addr), PE (X.blk s H sc (compEnvC sc cl C X.env) fp) el te) (fo : ∀ x, foldedSetIterable iter X.env x = pure x := by intro _; rfl) :
    PE X (.SetComp el [⟨tg, iter, ifs, 0⟩] sc cp) (tKs X.prog X.w wi g tt te (own.map (·.2))) := by
  constructor
  intro pins s σ H Q I h
  rw [PpSet.eval_SetComp]
  have frees : ∀ y ∈ sc.names, y.2 = .free → ∃ c, X.env.cells.lookup y.1 = some c := fun y hy e => (ok.free y hy e).elim (fun q => I.ok.has _ (.inl q)) fun q => I.ok.has _ (.inr q)
  refine wpAny_comprehension_free (use := none) rfl fo (closure_ok frees) ok.kind (fun y hy e => by rw [ok.uniq y hy, e]) (thn (it.run pins s σ H _ I h) fun _ sA hA => thn hA fun _ sB hB => ?_)
  obtain ⟨itr, fp, tn, J, HB, eI, IB, T, stB, fpB, q⟩ := hB
  subst eI
  refine PpSet.newSet_ok (newEnv_comp ?_)
  generalize hD : sB.heap.objs.size = D
  have freeD : HB D = none := IB.hok.fresh (Nat.le_of_eq hD)
  obtain ⟨W, ⟨m0, w0⟩, turn⟩ := q D freeD
  generalize hSC : ({ sB with heap := sB.heap.push (setOb0 X.w) } : Shared) = sC
  have heapC : sC.heap = sB.heap.push (setOb0 X.w) := by rw [← hSC]
  have IC : Inv X pins σ (upd HB D (SetK X.prog X.w D (fun _ => false) 0)) sC := by
    rw [← hSC]
    have at_ : (sB.heap.push (setOb0 X.w)).get? D = some (setOb0 X.w) := by rw [← hD]; exact Heap.get?_push_size _ rfl
    exact IB.laid (t' := sB.toks) (fun b o e => Heap.get?_push_of_some _ e) (Nat.le_of_eq hD) (setK_new ⟨_, #[], 0, _, at_, ⟨rfl, rfl, rfl⟩, rfl, (fun e he => by simp at he), (fun k => by simp), (by decide), (by rfl), rfl⟩)
  have below : ∀ b ∈ fp, b < sB.heap.objs.size := fun b hb => by
    obtain ⟨o, e, _⟩ := T.obj _ _ stB b hb
    exact Heap.lt_size e
  have fpC : ∀ b ∈ fp, FpOk X pins (upd HB D (SetK X.prog X.w D (fun _ => false) 0)) b ∧ b < sC.heap.objs.size := fun b hb => by
    have lt := below b hb
    refine ⟨⟨?_, (fpB b hb).2⟩, ?_⟩
    · rw [upd_ne (by rw [← hD]; exact Nat.ne_of_lt lt)]
      exact (fpB b hb).1
    · rw [heapC, Heap.size_push]
      exact Nat.lt_succ_of_lt lt
  have stC : tn 0 sC.heap := T.keep _ _ _ stB fun b _ o e => by rw [heapC]; exact Heap.get?_push_of_some _ e
  have IZ := block_start IC ok nd fpC
  have vg := hg sC (upd HB D (SetK X.prog X.w D (fun _ => false) 0)) sC.heap.objs.size (cellsFrom (sC.heap.objs.size + 1) sc.names (cloFrom X.env.cells sc.names [])) fp
  have vi := hi sC (upd HB D (SetK X.prog X.w D (fun _ => false) 0)) sC.heap.objs.size (cellsFrom (sC.heap.objs.size + 1) sc.names (cloFrom X.env.cells sc.names [])) fp
  have vv := hv sC (upd HB D (SetK X.prog X.w D (fun _ => false) 0)) sC.heap.objs.size (cellsFrom (sC.heap.objs.size + 1) sc.names (cloFrom X.env.cells sc.names [])) fp
  show codeAny _ _ (.compStart (.SetComp el [⟨tg, iter, ifs, 0⟩] sc cp) 0 (.ref itr) (.ref D) (compEnvC sc (cellsFrom (sC.heap.objs.size + 1) sc.names (cloFrom X.env.cells sc.names [])) sC.heap.objs.size X.env)) (compPost (model X.prog X.w) X.A X.xe none (EP X pins σ Q) (.ref D) sC.heap.objs.size) { sC with heap := pushCells (sC.heap.push { cls := .type "dict", data := .dict #[] }) sc.names }
  have outside : ∀ b ∈ fp, (upd HB D (SetK X.prog X.w D (fun _ => false) 0)) b = none := fun b hb => (fpC b hb).1.1
  generalize hEnv : compEnvC sc (cellsFrom (sC.heap.objs.size + 1) sc.names (cloFrom X.env.cells sc.names [])) sC.heap.objs.size X.env = ev at IZ vg vi vv ⊢
  have evL : ev.locals = sC.heap.objs.size := by rw [← hEnv]; rfl
  generalize hHC : upd HB D (SetK X.prog X.w D (fun _ => false) 0) = HC at IC IZ vg vi vv w0 outside fpC
  generalize hSZ : ({ sC with heap := pushCells (sC.heap.push { cls := .type "dict", data := .dict #[] }) sc.names } : Shared) = sZ at IZ ⊢
  have stZ : tn 0 sZ.heap := T.keep _ _ _ stC fun b _ o e => by rw [← hSZ]; exact pushCells_keeps _ _ _ _ (Heap.get?_push_of_some _ e)
  have asks : ∀ {σ' : L2.St} {H' : Hp} {s' : Shared}, Inv (X.blk sC HC sc ev fp) [] σ' H' s' → (∀ b ∈ fp, H' b = none) → ∀ b ∈ fp, FpOk (X.blk sC HC sc ev fp) [] H' b := fun {σ' H' s'} J' no b hb =>
    ⟨no b hb, (J'.ok.exf b hb).1, J'.ok.exfs b hb, .inl hb, fun x c e => (J'.ok.exf b hb).2 x c e, fun p hp => absurd (show p ∈ ([] : List (Addr × Obj)) ++ [] from hp) (by simp)⟩
  have all : codeAny (model X.prog X.w) X.A (.compLoop (.SetComp el [⟨tg, iter, ifs, 0⟩] sc cp) 0 (.ref itr) (.ref D) ev) (compPost (model X.prog X.w) X.A X.xe none (EP X pins σ Q) (.ref D) sC.heap.objs.size) sZ := by
    refine PpSet.compLoopS_any (fun n s' => ∃ j H', Inv (X.blk sC HC sc ev fp) [] (wipe σ (own.map (·.2))) H' s' ∧ tn j s'.heap ∧ (∀ b ∈ fp, H' b = none) ∧ W j n H') ?_ m0 ⟨0, HC, IZ, stZ, outside, w0⟩
    rintro n s1 ⟨j, H1, I1, st1, no1, w1⟩
    rcases turn j n H1 w1 with ⟨ends, qq⟩ | ⟨goes, Nx, hNx, step⟩
    · refine thnF (T.done (X.blk sC HC sc ev fp) rfl rfl rfl calm j [] s1 _ H1 (fun _ _ => False) I1 (asks I1 no1) st1 ends) fun r s2 hr => ?_
      obtain ⟨hr, I2⟩ := hr
      subst hr
      have Iout : Inv X pins σ H1 s2 := IC.call' (ch := fp) I2.os I2.base I2.hok I2.bare fun b hb => ⟨(fpC b hb).1.2.2.2.1, (fpC b hb).1.2.1, (fpC b hb).1.2.2.2.2.1, (fpC b hb).1.2.2.2.2.2⟩
      have noC : H1 sC.heap.objs.size = none := by
        have z : H1 ev.locals = none := I2.free
        rwa [evL] at z
      obtain ⟨mm, ns, _⟩ := I2.loc
      have ns : s2.heap.Ns ev.locals mm := ns
      rw [evL] at ns
      obtain ⟨f0, f1, f2, f3, f4, f5⟩ := IC.fpOk (Nat.le_refl _) noC
      exact ⟨mm, ns, fun h'' sb => ⟨.ref D, H1, Iout.turned (t' := s2.toks) (fun b o hb e => (sb.2 b hb).trans e) f0 f1 f3 f4 f5, rfl, qq⟩⟩
    · refine thnF (T.item (X.blk sC HC sc ev fp) rfl rfl rfl calm j [] s1 _ H1 (fun _ _ => False) I1 (asks I1 no1) st1 goes) fun r s2 hr => ?_
      obtain ⟨u, hr, h2⟩ := hr
      subst hr
      refine thnF h2 fun _ s3 hx => ?_
      obtain ⟨x, H3, I3, rx, yx, st3, no3⟩ := hx
      refine thnF (vg.run _ s3 _ H3 x u _ (I3.pinned (asks I3 no3) (T.obj _ _ st3)) rx (step x H3 yx)) fun _ s4 h4 => ?_
      obtain ⟨σ4, H4, I4, hw4, q4⟩ := h4
      refine thnF (vi.run _ s4 σ4 H4 _ I4 q4) fun b s5 h5 => ?_
      obtain ⟨H5, I5, q5⟩ := h5
      have over : ∀ {s' : Shared} {H' : Hp}, Inv (X.blk sC HC sc ev fp) ([] ++ pinsAt fp s3.heap) σ4 H' s' → Nx H' → ∃ m, m < n ∧ ∃ i H', Inv (X.blk sC HC sc ev fp) [] (wipe σ (own.map (·.2))) H' s' ∧ tn i s'.heap ∧ (∀ b ∈ fp, H' b = none) ∧ W i m H' := fun {s' H'} I' nx => by
        obtain ⟨m', lt', w'⟩ := hNx H' nx
        have kept : ∀ b ∈ fp, ∀ o, s3.heap.get? b = some o → s'.heap.get? b = some o ∧ H' b = none := fun b hb o e => by
          have z := I'.pin (b, o) (List.mem_append_right _ (List.mem_append_right _ (mem_pinsAt hb e)))
          exact ⟨z.1, z.2.1⟩
        have len : (wipe σ (own.map (·.2))).length = σ4.length := by rw [← hw4, wipe_length]
        refine ⟨m', lt', j + 1, H', (I'.unpinned (pins := [])).weak len (fun i v e => ?_), T.keep _ _ _ st3 fun b hb o e => (kept b hb o e).1, fun b hb => ?_, w'⟩
        · rw [← hw4] at e
          exact (wipe_some e).1
        · obtain ⟨o, e, _⟩ := T.obj _ _ st3 b hb
          exact (kept b hb o e).2
      cases b with
      | false =>
        rw [if_neg (by simp)] at q5
        rw [if_neg (by simp)]
        exact over I5 q5
      | true =>
        rw [if_pos rfl] at q5
        rw [if_pos rfl]
        refine thnF (vv.run _ s5 σ4 H5 _ I5 q5) fun z s6 h6 => ?_
        obtain ⟨y, H6, I6, r6, k, S, n0, ey, hD6, room, nx⟩ := h6
        subst ey
        exact lay_key (X := X.blk sC HC sc ev fp) I6 hD6 room r6 fun _ s7 I7 => over I7 nx
  exact PpSet.codeAny_compStart_set all (T.self X.A 0 _ _ _ stZ all)
end
end K18
set_option Elab.async false
set_option linter.all false
set_option maxRecDepth 100000
set_option pp.deepTerms false
set_option pp.maxSteps 600
set_option maxHeartbeats 4000000
namespace K18
open PySem PySem.Spec PyProof.Rows L2
/-! walks, told once for all -/
section
variable {J : It} {n : Nat} {Gd : Hp → Prop} {Y : Nat → Hp → V → Hp → Prop}
/-- B: what a turn does, up to what it is to reach -/
theorem any_it (w : Walk J n Gd Y) {B : (Hp → Prop) → V → Hp → Prop} {Hs : Hp} {Qd : Hp → Prop} (Iv : Nat → Hp → Prop) (beg : Iv 0 Hs) (std : ∀ j H, j ≤ n → Iv j H → Gd H)
    (trn : ∀ j x H H', j < n → Iv j H → Y j H x H' → B (Iv (j + 1)) x H') (fin : ∀ H, Iv n H → Qd H) :
    ∃ W : Nat → Nat → Hp → Prop, (∃ m, W 0 m Hs) ∧ ∀ j m H, W j m H → (J.stop j H ∧ Qd H) ∨ (J.go j H ∧ ∃ Nx : Hp → Prop, (∀ H', Nx H' → ∃ m', m' < m ∧ W (j + 1) m' H') ∧ ∀ x H', J.yld j H x H' → B Nx x H') := by
  refine ⟨fun j m H => m + j = n ∧ Iv j H, ⟨n, rfl, beg⟩, fun j m H hw => ?_⟩
  obtain ⟨e, iv⟩ := hw
  have good := std j H (by omega) iv
  rcases Nat.eq_zero_or_pos m with z | z
  · have ej : j = n := by omega
    subst ej
    exact .inl ⟨w.stops H good, fin H iv⟩
  · exact .inr ⟨w.goes j H (by omega) good, Iv (j + 1), fun H' iv' => ⟨m - 1, by omega, by omega, iv'⟩, fun x H' y => trn j x H H' (by omega) iv (w.yields j H x H' (by omega) good y)⟩
end
/-! many dicts locked -/
def lockN : Nat → TE → TE
  | 0, t => t
  | n + 1, t => tLockE (lockN n t)
theorem pe_lockN {X : Cx} {e : Expr} {t : TE} (h : PE X e t) : ∀ n, PE X e (lockN n t)
  | 0 => h
  | n + 1 => pe_lock (pe_lockN h n)
abbrev Lks := List (Addr × Obj × HO)
def lkH : Lks → Hp → Hp
  | [], H => H
  | x :: r, H => lkH r (upd H x.1 (.frz x.2.1 x.2.2))
def lkQ : Lks → VK → VK
  | [], Q => Q
  | x :: r, Q => lkQ r fun v H' => H' x.1 = some (.frz x.2.1 x.2.2) ∧ Q v (upd H' x.1 x.2.2)
theorem lkH_out : ∀ {l : Lks} {H : Hp} {a : Addr}, a ∉ l.map (·.1) → lkH l H a = H a
  | [], _, _, _ => rfl
  | x :: r, H, a, h => by
    simp only [List.map_cons, List.mem_cons, not_or] at h
    show lkH r (upd H x.1 _) a = H a
    rw [lkH_out h.2, upd_ne h.1]
theorem lkH_in : ∀ {l : Lks} {H : Hp} {x : Addr × Obj × HO}, (l.map (·.1)).Nodup → x ∈ l → lkH l H x.1 = some (.frz x.2.1 x.2.2)
  | [], _, _, _, h => by cases h
  | y :: r, H, x, nd, h => by
    simp only [List.map_cons, List.nodup_cons] at nd
    show lkH r (upd H y.1 _) x.1 = _
    rcases List.mem_cons.mp h with e | e
    · subst e
      rw [lkH_out nd.1]
      exact upd_same
    · exact lkH_in nd.2 e
/-- what was locked is told; the locks come off again -/
theorem lockN_by {t : TE} {σ : L2.St} : ∀ (us : List (Addr × HO)) {H : Hp} {Q : VK}, (us.map (·.1)).Nodup → (∀ u ∈ us, H u.1 = some u.2 ∧ Mut (some u.2)) →
    (∀ l : Lks, l.map (fun x => (x.1, x.2.2)) = us → t σ (lkH l H) (lkQ l Q)) → lockN us.length t σ H Q
  | [], _, _, _, _, h => h [] rfl
  | u :: r, H, Q, nd, hu, h => by
    simp only [List.map_cons, List.nodup_cons] at nd
    refine ⟨u.1, u.2, (hu u List.mem_cons_self).1, (hu u List.mem_cons_self).2, fun od => ?_⟩
    refine lockN_by r nd.2 (fun v hv => ⟨?_, (hu v (List.mem_cons_of_mem _ hv)).2⟩) fun l hl => h ((u.1, od, u.2) :: l) (by rw [List.map_cons, hl])
    rw [upd_ne (fun z => nd.1 (by rw [← z]; exact List.mem_map.mpr ⟨v, hv, rfl⟩))]
    exact (hu v (List.mem_cons_of_mem _ hv)).1
theorem lkQ_by : ∀ {l : Lks} {H H' : Hp} {Q : VK} {v : V}, (l.map (·.1)).Nodup → (∀ x ∈ l, H x.1 = some x.2.2) → Same (lkH l H) H' → (∀ H'', Same H H'' → (∀ a o, a ∉ l.map (·.1) → H' a = some o → H'' a = some o) → Q v H'') → lkQ l Q v H'
  | [], _, H', _, _, _, _, e, k => k H' e fun _ _ _ q => q
  | x :: r, H, H', Q, v, nd, hu, e, k => by
    simp only [List.map_cons, List.nodup_cons] at nd
    refine lkQ_by (l := r) (H := upd H x.1 (.frz x.2.1 x.2.2)) nd.2 (fun y hy => ?_) e fun H'' s'' k'' => ⟨s'' _ _ upd_same, k _ (same_unlock (hu x List.mem_cons_self) s'') fun a o ha q => ?_⟩
    · rw [upd_ne (fun z => nd.1 (by rw [← z]; exact List.mem_map.mpr ⟨y, hy, rfl⟩))]
      exact hu y (List.mem_cons_of_mem _ hy)
    · simp only [List.map_cons, List.mem_cons, not_or] at ha
      rw [upd_ne ha.1]
      exact k'' a o ha.2 q
/-! the same for statements -/
def lockSN : Nat → TS → TS
  | 0, t => t
  | n + 1, t => tLock (lockSN n t)
theorem ps_lockN {X : Cx} {st : Stmt} {t : TS} (h : PS X st t) : ∀ n, PS X st (lockSN n t)
  | 0 => h
  | n + 1 => ps_lock (ps_lockN h n)
def lkD : Lks → Ends → Ends
  | [], D => D
  | x :: r, D => lkD r ⟨fun σ' H' => H' x.1 = some (.frz x.2.1 x.2.2) ∧ D.nx σ' (upd H' x.1 x.2.2), fun v H' => H' x.1 = some (.frz x.2.1 x.2.2) ∧ D.rt v (upd H' x.1 x.2.2), fun σ' H' => H' x.1 = some (.frz x.2.1 x.2.2) ∧ D.bk σ' (upd H' x.1 x.2.2), fun σ' H' => H' x.1 = some (.frz x.2.1 x.2.2) ∧ D.ct σ' (upd H' x.1 x.2.2)⟩
theorem lockSN_by {t : TS} {σ : L2.St} : ∀ (us : List (Addr × HO)) {H : Hp} {D : Ends}, (us.map (·.1)).Nodup → (∀ u ∈ us, H u.1 = some u.2 ∧ Mut (some u.2)) →
    (∀ l : Lks, l.map (fun x => (x.1, x.2.2)) = us → t (lkD l D) σ (lkH l H)) → lockSN us.length t D σ H
  | [], _, _, _, _, h => h [] rfl
  | u :: r, H, D, nd, hu, h => by
    simp only [List.map_cons, List.nodup_cons] at nd
    refine ⟨u.1, u.2, (hu u List.mem_cons_self).1, (hu u List.mem_cons_self).2, fun od => ?_⟩
    refine lockSN_by r nd.2 (fun v hv => ⟨?_, (hu v (List.mem_cons_of_mem _ hv)).2⟩) fun l hl => h ((u.1, od, u.2) :: l) (by rw [List.map_cons, hl])
    rw [upd_ne (fun z => nd.1 (by rw [← z]; exact List.mem_map.mpr ⟨v, hv, rfl⟩))]
    exact (hu v (List.mem_cons_of_mem _ hv)).1
theorem lkD_by : ∀ {l : Lks} {H H' : Hp} {D : Ends} {σ' : L2.St}, (l.map (·.1)).Nodup → (∀ x ∈ l, H x.1 = some x.2.2) → Same (lkH l H) H' → (∀ H'', Same H H'' → (∀ a o, a ∉ l.map (·.1) → H' a = some o → H'' a = some o) → D.nx σ' H'') → (lkD l D).nx σ' H'
  | [], _, H', _, _, _, _, e, k => k H' e fun _ _ _ q => q
  | x :: r, H, H', D, σ', nd, hu, e, k => by
    simp only [List.map_cons, List.nodup_cons] at nd
    refine lkD_by (l := r) (H := upd H x.1 (.frz x.2.1 x.2.2)) nd.2 (fun y hy => ?_) e fun H'' s'' k'' => ⟨s'' _ _ upd_same, k _ (same_unlock (hu x List.mem_cons_self) s'') fun a o ha q => ?_⟩
    · rw [upd_ne (fun z => nd.1 (by rw [← z]; exact List.mem_map.mpr ⟨y, hy, rfl⟩))]
      exact hu y (List.mem_cons_of_mem _ hy)
    · simp only [List.map_cons, List.mem_cons, not_or] at ha
      rw [upd_ne ha.1]
      exact k'' a o ha.2 q
/-! isinstance within a block -/
theorem pe_isK {X : Cx} {a : Expr} {ta : TE} {tn : PySem.Str} {ty : String} {p p2 pos : Pos} (K : PySem.W.Frag) (hK : X.K = K) (hi : X.mg "isinstance" = none) (hm : X.mg tn = none) (hv : bootBuiltins tn = some (.type ty)) (ha : PE X a ta) (hg : Gl X "isinstance" := by rfl) (hg2 : Gl X tn := by rfl)
    (hn : tn ≠ "__name__" := by decide) (hd : (tn == ("__debug__" : PySem.Str)) = false := by decide)
    (he : starEach [a, .Name tn p2] X.env = (false, eval a X.env) :: starEach [.Name tn p2] X.env := by rfl) (he2 : starEach [.Name tn p2] X.env = (false, eval (.Name tn p2) X.env) :: starEach [] X.env := by rfl)
    (hpl : (backTo pos (starEach [.Name tn p2] X.env)).any (·.1) = false := by rfl) :
    PE X (.Call (.Name "isinstance" p) [a, .Name tn p2] [] pos) (tCB (rIs K) (tCons ta (tCons (tC (.ty ty)) tNil))) := by
  subst hK
  exact pe_is hi hm hv ha hg hg2 hn hd he he2 hpl
/-! sets, the program and the world by name -/
theorem call_setDP {X : Cx} (P : Program) (w : World) (hP : X.prog = P) (hw : X.w = w) : CallR X (.type "set") (rSetD P w) := by
  subst hP hw
  exact call_setD
theorem op_neSetP {X : Cx} (P : Program) (w : World) (hP : X.prog = P) (hw : X.w = w) (hu : X.A.units < cLine) : OpR X (compareOp .NotEq) (rNeSet P w) := by
  subst hP hw
  exact op_neSet hu
theorem pe_ksP {X : Cx} {el tg iter : Expr} {ifs : List Expr} {sc : Scope} {own : List (PySem.Str × Nat)} {cp : Pos} {wi : TI} {g : TG} {tt : TT} {te : TE} (P : Program) (w : World) (hP : X.prog = P) (hw : X.w = w) (calm : X.calm = true) (nd : X.N.Nodup) (it : PI X tg iter wi) (ok : BlkOk X.N X.env.scope sc own)
    (hg : ∀ (s : Shared) (H : Hp) (C : Addr) (cl : List (PySem.Str × Addr)) (fp : List Addr), PG (X.blk s H sc (compEnvC sc cl C X.env) fp) tg g) (hi : ∀ (s : Shared) (H : Hp) (C : Addr) (cl : List (PySem.Str × Addr)) (fp : List Addr), PTs (X.blk s H sc (compEnvC sc cl C X.env) fp) ifs tt)
    (hv : ∀ (s : Shared) (H : Hp) (C : Addr) (cl : List (PySem.Str × Addr)) (fp : List Addr), PE (X.blk s H sc (compEnvC sc cl C X.env) fp) el te) (fo : ∀ x, foldedSetIterable iter X.env x = pure x := by intro _; rfl) :
    PE X (.SetComp el [⟨tg, iter, ifs, 0⟩] sc cp) (tKs P w wi g tt te (own.map (·.2))) := by
  subst hP hw
  exact pe_ks calm nd it ok hg hi hv fo
/-! xs != [], xs empty -/
theorem nil_ne {K : PySem.W.Frag} {H : Hp} {a b : Addr} {Q : VK} (ha : SqL K H a []) (hb : SqL K H b []) (k : Q (.bl false) H) : rNeD K (.ref a) (.ref b) H Q :=
  ⟨.list [], .list [], .lst ha .nil, .lst hb .nil, by kernel_rfl, by kernel_rfl, k⟩
end K18
set_option Elab.async false
set_option linter.all false
set_option maxRecDepth 100000
set_option pp.deepTerms false
set_option pp.maxSteps 400
set_option maxHeartbeats 4000000
namespace K18
open PySem PySem.Spec PyProof.Rows L2
/-- what a value of a frame or of an object is -/
def ValOk (H : Hp) (n : Nat) (v : V) : Prop := (∃ i, v = .int i) ∨ ∃ o, RepO H v o ∧ ∀ j, o = some j → j < n
theorem ValOk.same {H H' : Hp} {n : Nat} {v : V} (e : Same H H') (h : ValOk H n v) : ValOk H' n v := by
  rcases h with h | ⟨o, h1, h2⟩
  · exact .inl h
  · exact .inr ⟨o, h1.le (Le.of e), h2⟩
theorem ValOk.tk {H H' : Hp} {n : Nat} {v : V} (e : Tk H H') (h : ValOk H n v) : ValOk H' n v := by
  rcases h with h | ⟨o, h1, h2⟩
  · exact .inl h
  · exact .inr ⟨o, h1.tk e, h2⟩
section
variable {P : Program} {w : World} {K : PySem.W.Frag} {mg : Str → Option Value} {base : Heap}
variable {H H' : Hp} {p src : Addr} {A : MA} {m : Mch} {G : Prg}
/-! is_frame -/
def varNames : List Str := ["a", "o", "b", "c", "p"]
def varKind (s : Str) : V := if s = "o" ∨ s = "p" then .str "object" else .str "number"
theorem varKvs_get (num : NV → Int) (ov : OV → V) (i : Nat) (hi : i < 5) : ∃ (k : Str) (v : V), (varKvs num ov)[i]? = some (Sum.inr k, v) ∧ ((∃ x, v = .int (num x) ∧ valV kindKvs (Sum.inr k) = some (.str "number")) ∨ ∃ s, v = ov s ∧ valV kindKvs (Sum.inr k) = some (.str "object")) := by
  match i, hi with
  | 0, _ => exact ⟨_, _, rfl, .inl ⟨.a, rfl, by kernel_rfl⟩⟩
  | 1, _ => exact ⟨_, _, rfl, .inr ⟨.o, rfl, by kernel_rfl⟩⟩
  | 2, _ => exact ⟨_, _, rfl, .inl ⟨.b, rfl, by kernel_rfl⟩⟩
  | 3, _ => exact ⟨_, _, rfl, .inl ⟨.c, rfl, by kernel_rfl⟩⟩
  | 4, _ => exact ⟨_, _, rfl, .inr ⟨.p, rfl, by kernel_rfl⟩⟩
theorem varKvs_ne (num : NV → Int) (ov : OV → V) : varKvs num ov ≠ kindKvs := by
  intro z
  have := congrArg (fun l : List (Key × V) => l.head?.map (·.2)) z
  cases this
def spIsFrame (K : PySem.W.Frag) : Sp := fun vs H Q _ => ∃ (src : Addr) (G : Prg) (a : SF) (f : Fr), vs = [.ref src, .ref a.t] ∧ SrcAt K H src G ∧ SFAt H a f ∧ f.at_ < (G f.fn).length ∧ (G f.fn).length ≤ 1000 ∧ Rt (.bl true) H Q
theorem sc_is_frame : FnScope ["source", "frame", "function", "name", "value"] ["source", "frame"] d_is_frame.scope := ⟨rfl, rfl, rfl, by decide +kernel, rfl, by decide +kernel, by decide +kernel⟩
theorem k_is_frame (T : Tx w K mg) : Ok P w K mg base 4 d_is_frame ["source", "frame"] (spIsFrame K) := by
  refine Ok.of T.d_is_frame sc_is_frame (fun _ _ _ _ _ _ us hl => match us, hl with | [_, _], _ => rfl) (fun vs H Q E h => ?_) (fun cdv A outer s H vs Q E hr h => ?_)
  · obtain ⟨src, G, a, f, rfl, _⟩ := h
    rfl
  · obtain ⟨src, G, a, f, rfl, S, F, hat, hlen, k⟩ := h
    refine ⟨_, (pss_cons (ps_if (PW.pt (pw_or (pt_not (pt_val (pe_is T.b_isinstance T.b_tuple bt_tuple (pv 1)))) (pw_or (pt_cmpR op_ne (pe_callB call_len_seq (by rfl) T.b_len PySem.boot_len (pa_cons (pv 1) pa_nil)) pe_int (nomark _)) (pw_or1 (pt_not (pt_val (pe_is T.b_isinstance T.b_str bt_str (pe_ix ix_tup (pv 1) pe_int (fun _ _ => rfl))))))))) (pss_one (ps_ret pe_bl)) pss_nil)
      (pss_cons (ps_set (i := 2) sc_is_frame.nd rfl (.inr rfl) (pe_dget1 (hu_of hr) (pe_fld (pv 0) rfl) (pe_ix ix_tup (pv 1) pe_int (fun _ _ => rfl)) ⟨rfl, rfl, rfl, rfl⟩))
      (pss_cons (ps_if (PW.pt (pw_or (pt_cmp (pc_isN (pv 2))) (pw_or (pt_not (pt_val (pe_G (k_is_between T) (hr.mono (by decide)) T.g_is_between (pa_cons (pe_ix ix_tup (pv 1) pe_int (fun _ _ => rfl)) (pa_cons pe_int (pa_cons (pe_op op_sub (pe_callB call_len_seq (by rfl) T.b_len PySem.boot_len (pa_cons (pe_fld (pv 2) rfl) pa_nil)) pe_int) pa_nil)))))) (pw_or1 (pt_not (pt_val (pe_is T.b_isinstance T.b_dict bt_dict (pe_ix ix_tup (pv 1) pe_int (fun _ _ => rfl))))))))) (pss_one (ps_ret pe_bl)) pss_nil)
      (pss_cons (ps_if (PW.pt (pw_or (pt_not (pt_val (pe_callB (cr_all rfl) (by rfl) T.b_all bt_all (pa_cons (pe_lock (pe_lc (own := [("name", 3)]) (g := (gName 3)) (tt := tYes) (by rfl) sc_is_frame.nd  (pi_keys (pe_ix ix_tup (pv 1) pe_int (fun _ _ => rfl))) (blkOk_by (own := [("name", 3)]) (N := ["source", "frame", "function", "name", "value"]) (sc := d_is_frame.scope) (by decide +kernel)) (fun _ _ _ _ _ => (pg_name (i := 3) sc_is_frame.nd rfl (.inl rfl))) (fun _ _ _ _ _ => pts_nil) (fun _ _ _ _ _ => (pe_isK K rfl T.b_isinstance T.b_str bt_str (pv 3))))) pa_nil)))) (pw_or1 (pt_cmpR (op_neSetP P w rfl rfl (Nat.lt_of_le_of_lt (Nat.le_add_right _ 64) hr.units)) (pe_callTy (call_setDP P w rfl rfl) (by rfl) T.b_set bt_set (pa_cons (pe_ix ix_tup (pv 1) pe_int (fun _ _ => rfl)) pa_nil)) (pe_callTy (call_setDP P w rfl rfl) (by rfl) T.b_set bt_set (pa_cons (pe_fld (pv 2) rfl) pa_nil)) (nomark _))))) (pss_one (ps_ret pe_bl)) pss_nil)
      (pss_one (ps_ret (pe_callB (cr_all rfl) (by rfl) T.b_all bt_all (pa_cons (pe_lock (pe_lc (own := [("name", 3), ("value", 4)]) (g := (gTup K 2 (gCons (gName 3) (gCons (gName 4) gNil)))) (tt := tYes) (by rfl) sc_is_frame.nd  (pi_items (pe_ix ix_tup (pv 1) pe_int (fun _ _ => rfl))) (blkOk_by (own := [("name", 3), ("value", 4)]) (N := ["source", "frame", "function", "name", "value"]) (sc := d_is_frame.scope) (by decide +kernel)) (fun _ _ _ _ _ => (pg_tup rfl (pgs_cons (pg_name (i := 3) sc_is_frame.nd rfl (.inl rfl)) (pgs_cons (pg_name (i := 4) sc_is_frame.nd rfl (.inl rfl)) pgs_nil)))) (fun _ _ _ _ _ => pts_nil) (fun _ _ _ _ _ => (pe_G (k_has_kind T) (hr.mono (by decide)) T.g_has_kind (pa_cons (pv 4) (pa_cons (pe_dget (hu_of hr) (pe_fldK K rfl (pv 2) rfl) (pv 3) (fun _ _ => rfl)) pa_nil)))))) pa_nil)))))))), ?_⟩
    obtain ⟨dxs, cr, fk, kf, fa, hs, dg, Fa⟩ := S.kept f.fn
    obtain ⟨dx, ii, ei, kd, rl, rs, f1, f2, f3, f4, f5⟩ := Fa.ex
    have isd : IsD H kf := by
      obtain ⟨dxs', cr', fk', kf', ff, fg, h1, h5, _⟩ := S.fns
      rw [hs] at h1
      cases h1
      exact .inl ⟨_, h5⟩
    refine ⟨_, rfl, _, _, _, _, rfl, .base (.tup F.t), by decide +kernel, true, rfl, iteF ?_⟩
    refine ⟨_, rfl, a.t, _, rfl, .inr (SqT.of F.t), rfl, _, rfl, iteNS rfl ?_⟩
    refine ⟨_, rfl, a.t, _, 0, _, rfl, rfl, SqT.of F.t, rfl, _, _, _, _, rfl, .base (.str _), by decide +kernel, true, rfl, iteF ?_⟩
    refine ⟨_, rfl, _, _, _, _, _, rfl, hs, T.c_Source, T.n_Source_kept_functions, (by kernel_rfl), kf, rfl, isd, _, rfl, a.t, _, 0, _, rfl, rfl, SqT.of F.t, rfl, _, dg, ?_⟩
    refine ⟨_, rfl, _, rfl, ifD_f (by intro z; cases z) ?_⟩
    have hrl : rs.length = (G f.fn).length := Paired.len f5
    refine ⟨_, rfl, a.t, _, 1, _, rfl, rfl, SqT.of F.t, rfl, _, rfl, _, _, _, _, _, rfl, f1, T.c_Function, T.n_Function_row_list, (by kernel_rfl), rl, _, rfl, .inl (SqL.of f4), _, _, rfl, rfl, _, _, _, rfl, _, rfl, ?_⟩
    refine ifBf ?_ ?_
    · rw [List.length_map, hrl, decide_eq_true (by omega : (0 : Int) ≤ (f.at_ : Int)), decide_eq_true (by omega : (f.at_ : Int) ≤ ((G f.fn).length : Int) - 1)]; rfl
    refine ⟨_, rfl, a.t, _, 2, _, rfl, rfl, SqT.of F.t, rfl, _, _, _, _, rfl, .base (.dK F.d), by decide +kernel, true, rfl, iteF ?_⟩
    -- the names
    have eL : ∀ od, (upd H a.d (.frz od (.dK (varKvs f.num a.ov)))) a.t = some (.tup [.str (fnS f.fn), .int (f.at_ : Int), .ref a.d]) := fun od => by
      rw [upd_ne (ne_of F.t F.d (by intro z; cases z))]
      exact F.t
    refine ⟨a.d, _, F.d, trivial, fun od => ⟨_, rfl, a.t, _, 2, _, rfl, rfl, SqT.of (eL od), rfl, a.d, od, rfl, .inl ⟨_, upd_same, fun D hD => ?_⟩⟩⟩
    have nD : H D = none := none_upd hD
    have dD : a.d ≠ D := ne_of_none F.d nD
    refine lc_it walk_keys (fun j H' => H' = upd (upd H a.d (.frz od (.dK (varKvs f.num a.ov)))) D (.lst ((List.replicate j true).map V.bl))) rfl (fun j H' _ e => by rw [e, upd_ne dD]; exact upd_same) (fun j x H1 H' hj e y => ?_) (fun H' e => ?_)
    · obtain ⟨rfl, kk, vv, hk, rfl⟩ := y
      subst e
      obtain ⟨k1, v1, hk1, _⟩ := varKvs_get f.num a.ov j hj
      rw [hk1] at hk
      cases hk
      refine ⟨rfl, _, rfl, _, _, _, true, rfl, .base (.str _), by decide +kernel, _, upd_same, ?_, ?_⟩
      · rw [List.length_map, List.length_replicate]
        exact lt_line (Nat.lt_trans hj (by show 5 < 1000; decide))
      · rw [upd_upd, List.replicate_succ', List.map_append]; rfl
    subst e
    refine ⟨by rw [upd_ne dD]; exact upd_same, ?_⟩
    have s2 : Same H (upd (upd (upd H a.d (.frz od (.dK (varKvs f.num a.ov)))) D (.lst ((List.replicate (varKvs f.num a.ov).length true).map V.bl))) a.d (.dK (varKvs f.num a.ov))) := same_unlock F.d (same_new hD)
    have hD2 : (upd (upd (upd H a.d (.frz od (.dK (varKvs f.num a.ov)))) D (.lst ((List.replicate (varKvs f.num a.ov).length true).map V.bl))) a.d (.dK (varKvs f.num a.ov))) D = some (.lst ((List.replicate 5 true).map V.bl)) := by rw [upd_ne (Ne.symm dD)]; exact upd_same
    generalize (upd (upd (upd H a.d (.frz od (.dK (varKvs f.num a.ov)))) D (.lst ((List.replicate (varKvs f.num a.ov).length true).map V.bl))) a.d (.dK (varKvs f.num a.ov))) = H2 at s2 hD2
    refine ⟨D, List.replicate 5 true, rfl, SqL.of hD2, true, rfl, iteF ?_⟩
    -- set(..) != set(..)
    refine ⟨_, rfl, a.t, _, 2, _, rfl, rfl, SqT.of (s2 _ _ F.t), rfl, a.d, _, rfl, .inl (s2 _ _ F.d), (by show 5 ≤ 5; decide), fun q1 n1 => ?_⟩
    have s3 := s2.trans (same_new (o := SetK P w q1 (inK ((varKvs f.num a.ov).map Prod.fst)) (varKvs f.num a.ov).length) n1)
    refine ⟨_, rfl, _, _, _, _, _, rfl, s3 _ _ f1, T.c_Function, T.n_Function_kind_of, rfl, kd, _, rfl, .inl (s3 _ _ f3), (by show 5 ≤ 5; decide), fun q2 n2 => ?_⟩
    have q12 : q1 ≠ q2 := ne_of_none upd_same n2
    refine ⟨q1, q2, inK (kindKvs.map Prod.fst), 5, rfl, rfl, by rw [upd_ne q12]; exact upd_same, upd_same, _, rfl, iteF ?_⟩
    have s4 := s3.trans (same_new (o := SetK P w q2 (inK (kindKvs.map Prod.fst)) kindKvs.length) n2)
    generalize (upd (upd H2 q1 (SetK P w q1 (inK ((varKvs f.num a.ov).map Prod.fst)) (varKvs f.num a.ov).length)) q2 (SetK P w q2 (inK (kindKvs.map Prod.fst)) kindKvs.length)) = H3 at s4
    -- the kinds
    have F3 := F.same s4
    have eL3 : ∀ od, (upd H3 a.d (.frz od (.dK (varKvs f.num a.ov)))) a.t = some (.tup [.str (fnS f.fn), .int (f.at_ : Int), .ref a.d]) := fun od => by
      rw [upd_ne (ne_of F3.t F3.d (by intro z; cases z))]
      exact F3.t
    refine ⟨a.d, _, F3.d, trivial, fun od2 => ⟨_, rfl, a.t, _, 2, _, rfl, rfl, SqT.of (eL3 od2), rfl, a.d, od2, _, rfl, upd_same, fun L hL => ?_⟩⟩
    have hl0 : (upd H3 a.d (.frz od2 (.dK (varKvs f.num a.ov)))) a.d = some (.frz od2 (.dK (varKvs f.num a.ov))) := upd_same
    have fd : fa ≠ a.d := ne_of (s4 _ _ f1) F3.d (by intro z; cases z)
    have kdd : kd ≠ a.d := fun z => by
      have h1 := s4 _ _ f3
      rw [z, F3.d] at h1
      cases h1
    have hf0 : (upd H3 a.d (.frz od2 (.dK (varKvs f.num a.ov)))) fa = some (.ins (He.ga K "Function") dx (fnFs f.fn ii ei kd rl)) := by rw [upd_ne fd]; exact s4 _ _ f1
    have hk0 : (upd H3 a.d (.frz od2 (.dK (varKvs f.num a.ov)))) kd = some (.dK kindKvs) := by rw [upd_ne kdd]; exact s4 _ _ f3
    have ho0 : ∀ s, RepO (upd H3 a.d (.frz od2 (.dK (varKvs f.num a.ov)))) (a.ov s) (f.obj s) := fun s => (F3.o s).tk (tk_upd fun xs z => by rw [F3.d] at z; cases z)
    generalize hHL : (upd H3 a.d (.frz od2 (.dK (varKvs f.num a.ov)))) = HL at hL hl0 hf0 hk0 ho0
    refine lc_it walk_items (fun j H' => Same HL H' ∧ H' L = some (.lst ((List.replicate j true).map V.bl))) ⟨same_new hL, upd_same⟩ (fun j H' _ e => e.1 _ _ hl0) (fun j x H1 H' hj e y => ?_) (fun H' e => ?_)
    · obtain ⟨sm, hd⟩ := e
      obtain ⟨t, x1, x2, rfl, nt, rfl, y1, y2⟩ := y
      obtain ⟨k1, v1, hk1, hv1⟩ := varKvs_get f.num a.ov j hj
      have y1 : (varKvs f.num a.ov)[j]?.map (fun kv => kV kv.1) = some x1 := y1
      have y2 : (varKvs f.num a.ov)[j]?.map Prod.snd = some x2 := y2
      rw [hk1] at y1 y2
      cases y1; cases y2
      have q1 : Same H1 (upd H1 t (.tup [kV (Sum.inr k1), v1])) := same_new nt
      have sm1 := sm.trans q1
      have hd1 := q1 _ _ hd
      have fin : Same HL (upd (upd H1 t (.tup [kV (Sum.inr k1), v1])) L (.lst (((List.replicate j true).map V.bl) ++ [.bl true]))) ∧ (upd (upd H1 t (.tup [kV (Sum.inr k1), v1])) L (.lst (((List.replicate j true).map V.bl) ++ [.bl true]))) L = some (.lst ((List.replicate (j + 1) true).map V.bl)) :=
        ⟨sm1.put hL, by rw [upd_same, List.replicate_succ', List.map_append]; rfl⟩
      have hlen : ((List.replicate j true).map V.bl).length < sizeLine := by
        rw [List.length_map, List.length_replicate]
        exact lt_line (Nat.lt_trans hj (by show 5 < 1000; decide))
      rcases hv1 with ⟨xx, rfl, hkk⟩ | ⟨ss, rfl, hkk⟩
      · exact ⟨t, _, rfl, SqT.of upd_same, rfl, _, _, rfl, _, _, rfl, rfl, rfl, _, rfl, _, rfl, _, _, _, _, _, rfl, sm1 _ _ hf0, T.c_Function, T.n_Function_kind_of, rfl, _, rfl, kd, _, rfl, .inl ⟨_, Sum.inr k1, .inl (sm1 _ _ hk0), rfl, hkk.symm⟩, .inl ⟨_, rfl, _, hd1, hlen, fin⟩⟩
      · exact ⟨t, _, rfl, SqT.of upd_same, rfl, _, _, rfl, _, _, rfl, rfl, rfl, _, rfl, _, rfl, _, _, _, _, _, rfl, sm1 _ _ hf0, T.c_Function, T.n_Function_kind_of, rfl, _, rfl, kd, _, rfl, .inl ⟨_, Sum.inr k1, .inl (sm1 _ _ hk0), rfl, hkk.symm⟩, .inr ⟨_, _, rfl, (ho0 ss).le (Le.of sm1), _, hd1, hlen, fin⟩⟩
    · obtain ⟨sm, hd⟩ := e
      have Ld : L ≠ a.d := fun z => by rw [z, hl0] at hL; cases hL
      have sE : Same H3 (upd H' a.d (.dK (varKvs f.num a.ov))) := same_unlock F3.d (by rw [hHL]; exact sm)
      refine ⟨sm _ _ hl0, L, List.replicate 5 true, rfl, SqL.of (by rw [upd_ne Ld]; exact hd), ?_⟩
      exact k _ (s4.trans sE)
/-! are_frames -/
theorem cut_one (xs : List V) : cutV xs (some 1) none = xs.drop 1 := by
  unfold cutV
  rw [show HT.sIx xs.length 0 (some 1) = min 1 xs.length from HT.sIx_nat xs.length 0 1, HT.sIx_none]
  cases xs with
  | nil => rfl
  | cons x r =>
    have e : min 1 (x :: r).length = 1 := by rw [List.length_cons]; omega
    rw [e]
    exact List.take_of_length_le (by rw [List.length_drop]; exact Nat.le_refl _)
/-- frames, the outermost first: each at a row, each but the last at the call of the next -/
structure FrsOk (G : Prg) (fs : List Fr) : Prop where
  ne : fs ≠ []
  few : fs.length ≤ 50
  at_ : ∀ f ∈ fs, f.at_ < (G f.fn).length ∧ (G f.fn).length ≤ 1000
  ca : ∀ i f g, fs[i]? = some f → fs[i + 1]? = some g → Calls G f ∧ g.fn = true
def spAreFrames (K : PySem.W.Frag) : Sp := fun vs H Q _ => ∃ (src : Addr) (G : Prg) (l : Addr) (sf : List SF) (fs : List Fr), vs = [.ref src, .ref l] ∧ SrcAt K H src G ∧ FrsAt H l sf fs ∧ FrsOk G fs ∧ Rt (.bl true) H Q
theorem sc_are_frames : FnScope ["source", "frames", "outer", "inner", "row", "frame"] ["source", "frames"] d_are_frames.scope := ⟨rfl, rfl, rfl, by decide +kernel, rfl, by decide +kernel, by decide +kernel⟩
theorem k_are_frames (T : Tx w K mg) : Ok P w K mg base 5 d_are_frames ["source", "frames"] (spAreFrames K) := by
  refine Ok.of T.d_are_frames sc_are_frames (fun _ _ _ _ _ _ us hl => match us, hl with | [_, _], _ => rfl) (fun vs H Q E h => ?_) (fun cdv A outer s H vs Q E hr h => ?_)
  · obtain ⟨src, G, l, sf, fs, rfl, _⟩ := h
    rfl
  · obtain ⟨src, G, l, sf, fs, rfl, S, F, ok, k⟩ := h
    refine ⟨_, (pss_cons (ps_if (PW.pt (pw_or (pt_not (pt_val (pe_is T.b_isinstance T.b_list bt_list (pv 1)))) (pw_or1 (pt_not (pt_chain op_le op_le pe_int (pe_callB call_len_seq (by rfl) T.b_len PySem.boot_len (pa_cons (pv 1) pa_nil)) (pe_gi T.i_MOST_FRAMES)))))) (pss_one (ps_ret pe_bl)) pss_nil)
      (pss_cons (ps_if (pt_not (pt_val (pe_callB (cr_all rfl) (by rfl) T.b_all bt_all (pa_cons (pe_lc (own := [("frame", 5)]) (g := (gName 5)) (tt := tYes) (by rfl) sc_are_frames.nd  (pi_list (pv 1)) (blkOk_by (own := [("frame", 5)]) (N := ["source", "frames", "outer", "inner", "row", "frame"]) (sc := d_are_frames.scope) (by decide +kernel)) (fun _ _ _ _ _ => (pg_name (i := 5) sc_are_frames.nd rfl (.inl rfl))) (fun _ _ _ _ _ => pts_nil) (fun _ _ _ _ _ => (pe_G (k_is_frame T) (hr.mono (by decide)) T.g_is_frame (pa_cons (pv 0) (pa_cons (pv 5) pa_nil))))) pa_nil)))) (pss_one (ps_ret pe_bl)) pss_nil)
      (pss_cons (ps_for PassesOwn.never rfl (pi_zip (by rfl) T.b_zip (pa_cons (pv 1) (pa_cons (pe_slice sl_list (pv 1) (po_some pe_int) po_none) pa_nil))) (pg_tup rfl (pgs_cons (pg_name (i := 2) sc_are_frames.nd rfl (.inl rfl)) (pgs_cons (pg_name (i := 3) sc_are_frames.nd rfl (.inl rfl)) pgs_nil))) (pss_cons (ps_set (i := 4) sc_are_frames.nd rfl (.inl rfl) (pe_ix ix_list (pe_fld (pe_dget (hu_of hr) (pe_fld (pv 0) rfl) (pe_ix ix_tup (pv 2) pe_int (fun _ _ => rfl)) (fun _ _ => rfl)) rfl) (pe_ix ix_tup (pv 2) pe_int (fun _ _ => rfl)) (fun _ _ => rfl)))
      (pss_one (ps_if (PW.pt (pw_or (pt_cmpR op_ne (pe_ix ix_tup (pv 4) pe_int (fun _ _ => rfl)) pe_str (nomark _)) (pw_or1 (pt_cmpR op_ne (pe_ix ix_tup (pv 4) pe_int (fun _ _ => rfl)) (pe_ix ix_tup (pv 3) pe_int (fun _ _ => rfl)) (nomark _))))) (pss_one (ps_ret pe_bl)) pss_nil))))
      (pss_one (ps_ret pe_bl))))), ?_⟩
    have hn : sf.length = fs.length := Paired.len F.f
    have h1 : 1 ≤ fs.length := by
      cases fs with
      | nil => exact absurd rfl ok.ne
      | cons a r => simp
    have h2 := ok.few
    refine ⟨_, rfl, _, _, _, _, rfl, .base (.lst F.l), by decide +kernel, true, rfl, iteF ?_⟩
    refine ⟨_, rfl, l, _, rfl, .inl (SqL.of F.l), _, _, rfl, rfl, _, rfl, ?_⟩
    rw [List.length_map, hn]
    refine ifB (decide_eq_true (by omega)) ?_
    refine ⟨_, _, rfl, rfl, _, rfl, ?_⟩
    refine ifBf (by rw [decide_eq_true (by omega : (fs.length : Int) ≤ 50)]; rfl) ?_
    -- all frames
    refine ⟨_, rfl, l, rfl, ⟨_, SqL.of F.l⟩, fun D hD => ?_⟩
    refine lc_it (walk_list (xs := sf.map fun a => V.ref a.t)) (fun j H' => Same H H' ∧ H' D = some (.lst ((List.replicate j true).map V.bl))) ⟨same_new hD, upd_same⟩ (fun j H' _ e => SqL.of (e.1 _ _ F.l)) (fun j x H1 H' hj e y => ?_) (fun H' e => ?_)
    · obtain ⟨sm, hd⟩ := e
      obtain ⟨rfl, y⟩ := y
      rw [List.length_map] at hj
      obtain ⟨a, ha⟩ : ∃ a, sf[j]? = some a := ⟨_, List.getElem?_eq_getElem hj⟩
      rw [List.getElem?_map, ha] at y
      cases y
      obtain ⟨f, hf, Ff⟩ := Paired.getL F.f ha
      have okf := ok.at_ f (List.mem_of_getElem? hf)
      refine ⟨rfl, _, rfl, _, rfl, src, G, a, f, rfl, S.le (Le.of sm), Ff.same sm, okf.1, okf.2, fun H2 s2 => ⟨_, s2 _ _ hd, ?_, (sm.trans s2).put hD, ?_⟩⟩
      · rw [List.length_map, List.length_replicate]
        exact lt_line (by omega)
      · rw [upd_same, List.replicate_succ', List.map_append]; rfl
    obtain ⟨sm, hd⟩ := e
    refine ⟨D, _, rfl, SqL.of hd, _, rfl, ifBf (by simp) ?_⟩
    -- the calls
    have F1 := F.same sm
    refine ⟨_, rfl, _, rfl, 1, rfl, l, _, rfl, SqL.of F1.l, fun c hc => ?_⟩
    have s2 := sm.trans (same_new (o := .lst (cutV (sf.map fun a => V.ref a.t) (some 1) none)) hc)
    have hcut : (upd H' c (.lst (cutV (sf.map fun a => V.ref a.t) (some 1) none))) c = some (.lst ((sf.map fun a => V.ref a.t).drop 1)) := by rw [upd_same, cut_one]
    generalize (upd H' c (.lst (cutV (sf.map fun a => V.ref a.t) (some 1) none))) = H2 at s2 hcut
    refine ⟨l, c, _, _, rfl, SqL.of (s2 _ _ F.l), SqL.of hcut, ?_⟩
    refine for_it (walk_zip (n := sf.length - 1) (by rw [List.length_drop, List.length_map]; omega)) (fun j σ H' => Same H2 H' ∧ ∃ s2 s3 s4 s5, σ = [some (.ref src), some (.ref l), s2, s3, s4, s5]) ⟨Same.refl _, _, _, _, _, rfl⟩ (fun j σ H' _ e => ⟨SqL.of (e.1 _ _ (s2 _ _ F.l)), SqL.of (e.1 _ _ hcut)⟩) (fun j x σ H1 H' hj e y => ?_) (fun σ H' e => ?_)
    · obtain ⟨sm3, v2, v3, v4, v5, rfl⟩ := e
      obtain ⟨t, x1, x2, rfl, nt, rfl, y1, y2⟩ := y
      have y1 : (sf.map fun a => V.ref a.t)[j]? = some x1 := y1
      have y2 : ((sf.map fun a => V.ref a.t).drop 1)[j]? = some x2 := y2
      rw [List.getElem?_drop] at y2
      obtain ⟨a, ha⟩ : ∃ a, sf[j]? = some a := ⟨_, List.getElem?_eq_getElem (by omega)⟩
      obtain ⟨b, hb⟩ : ∃ b, sf[1 + j]? = some b := ⟨_, List.getElem?_eq_getElem (by omega)⟩
      rw [List.getElem?_map, ha] at y1
      rw [List.getElem?_map, hb] at y2
      cases y1; cases y2
      obtain ⟨f, hf, Ff⟩ := Paired.getL F.f ha
      obtain ⟨g, hg, Fg⟩ := Paired.getL F.f hb
      obtain ⟨⟨cx, cy, cs, hrow⟩, gt⟩ := ok.ca j f g hf (by rw [Nat.add_comm]; exact hg)
      have s4 : Same H (upd H1 t (.tup [.ref a.t, .ref b.t])) := (s2.trans sm3).trans (same_new nt)
      have s5 : Same H2 (upd H1 t (.tup [.ref a.t, .ref b.t])) := sm3.trans (same_new nt)
      have ht : (upd H1 t (.tup [.ref a.t, .ref b.t])) t = some (.tup [.ref a.t, .ref b.t]) := upd_same
      generalize (upd H1 t (.tup [.ref a.t, .ref b.t])) = H3 at s4 s5 ht
      have Fa := Ff.same s4
      have Fb := Fg.same s4
      obtain ⟨dxs, cr, fk, kf, fa, hs, dg, Fn⟩ := (S.le (Le.of s4)).kept f.fn
      obtain ⟨dx, ii, ei, kd, rl, rs, f1, f2, f3, f4, f5⟩ := Fn.ex
      obtain ⟨ra, hra, q, hr1, _⟩ := Paired.getR f5 hrow
      refine ⟨t, _, rfl, SqT.of ht, rfl, _, _, rfl, _, _, rfl, rfl, ?_⟩
      refine ⟨_, rfl, _, _, _, _, _, rfl, hs, T.c_Source, T.n_Source_kept_functions, (by kernel_rfl), _, rfl, a.t, _, 0, _, rfl, rfl, SqT.of Fa.t, rfl, kf, .ref fa, rfl, dg, _, _, _, _, _, rfl, f1, T.c_Function, T.n_Function_row_list, (by kernel_rfl), _, rfl, a.t, _, 1, _, rfl, rfl, SqT.of Fa.t, rfl, rl, _, (f.at_ : Int), _, rfl, rfl, SqL.of f4, atI_nat (by rw [List.getElem?_map, hra]; rfl), ?_⟩
      refine ⟨_, rfl, ra, _, 0, _, rfl, rfl, SqT.of hr1, rfl, rfl, _, rfl, iteNS rfl ?_⟩
      refine ⟨_, rfl, ra, _, 2, _, rfl, rfl, SqT.of hr1, rfl, _, rfl, b.t, _, 0, _, rfl, rfl, SqT.of Fb.t, rfl, rfl, _, rfl, iteNS (by rw [gt]; rfl) ?_⟩
      exact ⟨s5, _, _, _, _, rfl⟩
    · obtain ⟨sm3, _⟩ := e
      exact k _ (s2.trans sm3)
end
end K18
set_option Elab.async false
set_option linter.all false
set_option maxRecDepth 100000
set_option pp.deepTerms false
set_option pp.maxSteps 400
set_option maxHeartbeats 4000000
namespace K18
open PySem PySem.Spec PyProof.Rows L2
section
variable {w : World} {P : Program} {J : It} {n : Nat} {Gd : Hp → Prop} {Y : Nat → Hp → V → Hp → Prop}
/-- the dicts of a heap's objects are not the heap's own dict -/
theorem HpAt.dne {H : Hp} {l : Addr} {os : List OA} {obs : List Ob} (h : HpAt H l os obs) : ∀ a ∈ os, a.d ≠ l := fun a ha z => by
  obtain ⟨o, _, q⟩ := Paired.mem h.o a ha
  have h1 := q.d
  rw [z, h.d] at h1
  cases os with
  | nil => cases ha
  | cons c r => cases h1
theorem HpAt.locked {H : Hp} {l : Addr} {os : List OA} {obs : List Ob} (h : HpAt H l os obs) (od : Obj) : Paired (ObAt (upd H l (.frz od (.dK (objK 0 os))))) os obs := Paired.mapM h.o fun a b ha q =>
  ⟨by rw [upd_ne (ne_of q.t h.d (by intro z; cases z))]; exact q.t, by rw [upd_ne (h.dne a ha)]; exact q.d, q.n.tk (tk_upd fun xs z => by rw [h.d] at z; cases z)⟩
end
section
variable {P : Program} {w : World} {K : PySem.W.Frag} {mg : Str → Option Value} {base : Heap}
variable {H H' : Hp} {p src : Addr} {A : MA} {m : Mch} {G : Prg}
theorem fdKvs_get (i : Int) (nv : V) (j : Nat) (hj : j < 2) : ∃ (k : Str) (v : V), ([((Sum.inr "item" : Key), V.int i), (Sum.inr "next", nv)])[j]? = some (Sum.inr k, v) := by
  match j, hj with
  | 0, _ => exact ⟨_, _, rfl⟩
  | 1, _ => exact ⟨_, _, rfl⟩
def spIsHeap (K : PySem.W.Frag) : Sp := fun vs H Q _ => ∃ (src : Addr) (G : Prg) (l : Addr) (os : List OA) (obs : List Ob), vs = [.ref src, .ref l] ∧ SrcAt K H src G ∧ HpAt H l os obs ∧ obs.length < 1000 ∧ Rt (.bl true) H Q
theorem sc_is_heap : FnScope ["source", "heap", "held", "fields", "number", "name", "kind"] ["source", "heap"] d_is_heap.scope := ⟨rfl, rfl, rfl, by decide +kernel, rfl, by decide +kernel, by decide +kernel⟩
theorem k_is_heap (T : Tx w K mg) : Ok P w K mg base 4 d_is_heap ["source", "heap"] (spIsHeap K) := by
  refine Ok.of T.d_is_heap sc_is_heap (fun _ _ _ _ _ _ us hl => match us, hl with | [_, _], _ => rfl) (fun vs H Q E h => ?_) (fun cdv A outer s H vs Q E hr h => ?_)
  · obtain ⟨src, G, l, os, obs, rfl, _⟩ := h
    rfl
  · obtain ⟨src, G, l, os, obs, rfl, S, O, hlen, k⟩ := h
    refine ⟨_, (pss_cons (ps_if (PW.pt (pw_or (pt_not (pt_val (pe_is T.b_isinstance T.b_dict bt_dict (pv 1)))) (pw_or1 (pt_not (pt_val (pe_callB (cr_all rfl) (by rfl) T.b_all bt_all (pa_cons (pe_lock (pe_lc (own := [("number", 4)]) (g := (gName 4)) (tt := tYes) (by rfl) sc_is_heap.nd  (pi_keys (pv 1)) (blkOk_by (own := [("number", 4)]) (N := ["source", "heap", "held", "fields", "number", "name", "kind"]) (sc := d_is_heap.scope) (by decide +kernel)) (fun _ _ _ _ _ => (pg_name (i := 4) sc_is_heap.nd rfl (.inl rfl))) (fun _ _ _ _ _ => pts_nil) (fun _ _ _ _ _ => (pe_and (pe_G (k_is_integer T) (hr.mono (by decide)) T.g_is_integer (pa_cons (pv 4) pa_nil)) (pe_one (pe_cmpR op_ge (pv 4) pe_int (nomark _))))))) pa_nil))))))) (pss_one (ps_ret pe_bl)) pss_nil)
      (pss_cons (ps_lock (ps_for PassesOwn.never rfl (pi_values (pv 1)) (pg_name (i := 2) sc_is_heap.nd rfl (.inr rfl)) (pss_cons (ps_if (PW.pt (pw_or (pt_not (pt_val (pe_is T.b_isinstance T.b_tuple bt_tuple (pv 2)))) (pw_or (pt_cmpR op_ne (pe_callB call_len_seq (by rfl) T.b_len PySem.boot_len (pa_cons (pv 2) pa_nil)) pe_int (nomark _)) (pw_or1 (pt_not (pt_val (pe_is T.b_isinstance T.b_str bt_str (pe_ix ix_tup (pv 2) pe_int (fun _ _ => rfl))))))))) (pss_one (ps_ret pe_bl)) pss_nil)
      (pss_cons (ps_set (i := 3) sc_is_heap.nd rfl (.inl rfl) (pe_dget1 (hu_of hr) (pe_fld (pv 0) rfl) (pe_ix ix_tup (pv 2) pe_int (fun _ _ => rfl)) ⟨rfl, rfl, rfl, rfl⟩))
      (pss_cons (ps_if (PW.pt (pw_or (pt_cmp (pc_isN (pv 3))) (pw_or (pt_not (pt_val (pe_is T.b_isinstance T.b_dict bt_dict (pe_ix ix_tup (pv 2) pe_int (fun _ _ => rfl))))) (pw_or1 (pt_not (pt_val (pe_callB (cr_all rfl) (by rfl) T.b_all bt_all (pa_cons (pe_lock (pe_lc (own := [("name", 5)]) (g := (gName 5)) (tt := tYes) (by rfl) sc_is_heap.nd  (pi_keys (pe_ix ix_tup (pv 2) pe_int (fun _ _ => rfl))) (blkOk_by (own := [("name", 5)]) (N := ["source", "heap", "held", "fields", "number", "name", "kind"]) (sc := d_is_heap.scope) (by decide +kernel)) (fun _ _ _ _ _ => (pg_name (i := 5) sc_is_heap.nd rfl (.inl rfl))) (fun _ _ _ _ _ => pts_nil) (fun _ _ _ _ _ => (pe_isK K rfl T.b_isinstance T.b_str bt_str (pv 5))))) pa_nil)))))))) (pss_one (ps_ret pe_bl)) pss_nil)
      (pss_cons (ps_if (pt_cmpR (op_neSetP P w rfl rfl (Nat.lt_of_le_of_lt (Nat.le_add_right _ 64) hr.units)) (pe_callTy (call_setDP P w rfl rfl) (by rfl) T.b_set bt_set (pa_cons (pe_ix ix_tup (pv 2) pe_int (fun _ _ => rfl)) pa_nil)) ((pe_ksP P w rfl rfl (own := [("name", 5), ("kind", 6)]) (g := (gTup K 2 (gCons (gName 5) (gCons (gName 6) gNil)))) (tt := tYes) (by rfl) sc_is_heap.nd  (pi_list (pv 3)) (blkOk_by (own := [("name", 5), ("kind", 6)]) (N := ["source", "heap", "held", "fields", "number", "name", "kind"]) (sc := d_is_heap.scope) (by decide +kernel)) (fun _ _ _ _ _ => (pg_tup rfl (pgs_cons (pg_name (i := 5) sc_is_heap.nd rfl (.inl rfl)) (pgs_cons (pg_name (i := 6) sc_is_heap.nd rfl (.inl rfl)) pgs_nil)))) (fun _ _ _ _ _ => pts_nil) (fun _ _ _ _ _ => (pv 5)))) (nomark _)) (pss_one (ps_ret pe_bl)) pss_nil)
      (pss_one (ps_if (pt_not (pt_val (pe_callB (cr_all rfl) (by rfl) T.b_all bt_all (pa_cons ((pe_lc (own := [("name", 5), ("kind", 6)]) (g := (gTup K 2 (gCons (gName 5) (gCons (gName 6) gNil)))) (tt := tYes) (by rfl) sc_is_heap.nd  (pi_list (pv 3)) (blkOk_by (own := [("name", 5), ("kind", 6)]) (N := ["source", "heap", "held", "fields", "number", "name", "kind"]) (sc := d_is_heap.scope) (by decide +kernel)) (fun _ _ _ _ _ => (pg_tup rfl (pgs_cons (pg_name (i := 5) sc_is_heap.nd rfl (.inl rfl)) (pgs_cons (pg_name (i := 6) sc_is_heap.nd rfl (.inl rfl)) pgs_nil)))) (fun _ _ _ _ _ => pts_nil) (fun _ _ _ _ _ => (pe_G (k_has_kind T) (hr.mono (by decide)) T.g_has_kind (pa_cons (pe_dget (hu_of hr) (pe_ix (r := rIxT K) ix_tup (pv 2) pe_int (fun _ _ => rfl)) (pv 5) (fun _ _ => rfl)) (pa_cons (pv 6) pa_nil)))))) pa_nil)))) (pss_one (ps_ret pe_bl)) pss_nil))))))))
      (pss_one (ps_ret pe_bl)))), ?_⟩
    have hn : os.length = obs.length := Paired.len O.o
    refine ⟨_, rfl, _, _, _, _, rfl, .base (.dK O.d), by decide +kernel, true, rfl, iteF ?_⟩
    -- the numbers
    refine ⟨l, _, O.d, trivial, fun od => ⟨_, rfl, l, od, rfl, .inl ⟨_, upd_same, fun D hD => ?_⟩⟩⟩
    have nD : H D = none := none_upd hD
    have lD : l ≠ D := ne_of_none O.d nD
    refine lc_it walk_keys (fun j H' => H' = upd (upd H l (.frz od (.dK (objK 0 os)))) D (.lst ((List.replicate j true).map V.bl))) rfl (fun j H' _ e => by rw [e, upd_ne lD]; exact upd_same) (fun j x H1 H' hj e y => ?_) (fun H' e => ?_)
    · obtain ⟨rfl, kk, vv, hk, rfl⟩ := y
      subst e
      have ek := objK_keys os 0 j kk vv hk
      rw [Nat.zero_add] at ek
      subst ek
      rw [objK_len] at hj
      refine ⟨rfl, _, rfl, _, rfl, true, rfl, iteT ⟨_, rfl, _, _, rfl, rfl, _, upd_same, ?_, ?_⟩⟩
      · rw [List.length_map, List.length_replicate]
        exact lt_line (by omega)
      · rw [upd_upd, List.replicate_succ', List.map_append]
        show upd _ _ (HO.lst (_ ++ [V.bl (decide ((0 : Int) ≤ (j : Int)))])) = _
        rw [decide_eq_true (Int.natCast_nonneg j)]; rfl
    subst e
    refine ⟨by rw [upd_ne lD]; exact upd_same, ?_⟩
    rw [objK_len]
    have s2 : Same H (upd (upd (upd H l (.frz od (.dK (objK 0 os)))) D (.lst ((List.replicate os.length true).map V.bl))) l (.dK (objK 0 os))) := same_unlock O.d (same_new hD)
    have hD2 : (upd (upd (upd H l (.frz od (.dK (objK 0 os)))) D (.lst ((List.replicate os.length true).map V.bl))) l (.dK (objK 0 os))) D = some (.lst ((List.replicate os.length true).map V.bl)) := by rw [upd_ne (Ne.symm lD)]; exact upd_same
    generalize (upd (upd (upd H l (.frz od (.dK (objK 0 os)))) D (.lst ((List.replicate os.length true).map V.bl))) l (.dK (objK 0 os))) = H2 at s2 hD2
    refine ⟨D, _, rfl, SqL.of hD2, _, rfl, ifBf (by simp) ?_⟩
    -- each object
    have O2 := O.same s2
    refine ⟨l, _, O2.d, trivial, fun od2 => ⟨_, rfl, l, od2, _, rfl, upd_same, ?_⟩⟩
    have os2 := O2.locked od2
    have hl2 : (upd H2 l (.frz od2 (.dK (objK 0 os)))) l = some (.frz od2 (.dK (objK 0 os))) := upd_same
    have S2 : SrcAt K (upd H2 l (.frz od2 (.dK (objK 0 os)))) src G := (S.le (Le.of s2)).le (Le.lock O2.d (objK_ne 0) od2)
    generalize hHL : (upd H2 l (.frz od2 (.dK (objK 0 os)))) = HL at os2 hl2 S2
    obtain ⟨dxs, cr, fk, kf, ca, ff, fg, c1, c2, c3, _⟩ := S2.ex
    obtain ⟨ts, i1, i2⟩ := c3
    refine for_it walk_values (fun j σ H' => Same HL H' ∧ ∃ s2 s3 s4 s5 s6, σ = [some (.ref src), some (.ref l), s2, s3, s4, s5, s6]) ⟨Same.refl _, _, _, _, _, _, rfl⟩ (fun j σ H' _ e => e.1 _ _ hl2) (fun j x σ H1 H' hj e y => ?_) (fun σ H' e => ?_)
    · obtain ⟨sm, v2, v3, v4, v5, v6, rfl⟩ := e
      obtain ⟨rfl, kk, hk⟩ := y
      rw [objK_len] at hj
      obtain ⟨a, ha⟩ : ∃ a, os[j]? = some a := ⟨_, List.getElem?_eq_getElem hj⟩
      have hk' : (objK 0 os)[j]? = some (Sum.inl (j : Int), .ref a.t) := by rw [objK_ix, ha, Nat.zero_add]; rfl
      rw [hk'] at hk
      cases hk
      obtain ⟨o, ho, Oa⟩ := Paired.getL os2 ha
      have O1 := Oa.same sm
      refine ⟨_, rfl, _, _, _, _, rfl, .base (.tup O1.t), by decide +kernel, true, rfl, iteF ?_⟩
      refine ⟨_, rfl, a.t, _, rfl, .inr (SqT.of O1.t), rfl, _, rfl, iteNS rfl ?_⟩
      refine ⟨_, rfl, a.t, _, 0, _, rfl, rfl, SqT.of O1.t, rfl, _, _, _, _, rfl, .base (.str _), by decide +kernel, true, rfl, iteF ?_⟩
      refine ⟨_, rfl, _, _, _, _, _, rfl, sm _ _ c1, T.c_Source, T.n_Source_class_rows, rfl, cr, rfl, .inl ⟨_, (Le.of sm).dk c2⟩, _, rfl, a.t, _, 0, _, rfl, rfl, SqT.of O1.t, rfl, some (.ref ca), .inl ⟨_, Sum.inr "cell", (Le.of sm).dk c2, rfl, rfl⟩, ?_⟩
      refine ⟨_, rfl, _, rfl, ifD_f (by intro z; cases z) ?_⟩
      refine ⟨_, rfl, a.t, _, 1, _, rfl, rfl, SqT.of O1.t, rfl, _, _, _, _, rfl, .base (.dK O1.d), by decide +kernel, true, rfl, iteF ?_⟩
      -- its names
      have eL : ∀ od, (upd H' a.d (.frz od (.dK [(Sum.inr "item", .int o.item), (Sum.inr "next", a.nv)]))) a.t = some (.tup [.str "cell", .ref a.d]) := fun od => by
        rw [upd_ne (ne_of O1.t O1.d (by intro z; cases z))]
        exact O1.t
      refine ⟨a.d, _, O1.d, trivial, fun od3 => ⟨_, rfl, a.t, _, 1, _, rfl, rfl, SqT.of (eL od3), rfl, a.d, od3, rfl, .inl ⟨_, upd_same, fun D3 hD3 => ?_⟩⟩⟩
      have nD3 : H' D3 = none := none_upd hD3
      have dD3 : a.d ≠ D3 := ne_of_none O1.d nD3
      refine lc_it walk_keys (fun i H4 => H4 = upd (upd H' a.d (.frz od3 (.dK [(Sum.inr "item", .int o.item), (Sum.inr "next", a.nv)]))) D3 (.lst ((List.replicate i true).map V.bl))) rfl (fun i H4 _ e => by rw [e, upd_ne dD3]; exact upd_same) (fun i x H4 H5 hi e y => ?_) (fun H4 e => ?_)
      · obtain ⟨rfl, kk, vv, hk, rfl⟩ := y
        subst e
        obtain ⟨k1, v1, hk1⟩ := fdKvs_get o.item a.nv i hi
        rw [hk1] at hk
        cases hk
        refine ⟨rfl, _, rfl, _, _, _, true, rfl, .base (.str _), by decide +kernel, _, upd_same, ?_, ?_⟩
        · rw [List.length_map, List.length_replicate]
          exact lt_line (Nat.lt_trans hi (by show 2 < 1000; decide))
        · rw [upd_upd, List.replicate_succ', List.map_append]; rfl
      subst e
      refine ⟨by rw [upd_ne dD3]; exact upd_same, ?_⟩
      have s5 : Same H' (upd (upd (upd H' a.d (.frz od3 (.dK [(Sum.inr "item", .int o.item), (Sum.inr "next", a.nv)]))) D3 (.lst ((List.replicate [((Sum.inr "item" : Key), V.int o.item), (Sum.inr "next", a.nv)].length true).map V.bl))) a.d (.dK [(Sum.inr "item", .int o.item), (Sum.inr "next", a.nv)])) := same_unlock O1.d (same_new hD3)
      have hD5 : (upd (upd (upd H' a.d (.frz od3 (.dK [(Sum.inr "item", .int o.item), (Sum.inr "next", a.nv)]))) D3 (.lst ((List.replicate [((Sum.inr "item" : Key), V.int o.item), (Sum.inr "next", a.nv)].length true).map V.bl))) a.d (.dK [(Sum.inr "item", .int o.item), (Sum.inr "next", a.nv)])) D3 = some (.lst ((List.replicate 2 true).map V.bl)) := by rw [upd_ne (Ne.symm dD3)]; exact upd_same
      generalize (upd (upd (upd H' a.d (.frz od3 (.dK [(Sum.inr "item", .int o.item), (Sum.inr "next", a.nv)]))) D3 (.lst ((List.replicate [((Sum.inr "item" : Key), V.int o.item), (Sum.inr "next", a.nv)].length true).map V.bl))) a.d (.dK [(Sum.inr "item", .int o.item), (Sum.inr "next", a.nv)])) = H5 at s5 hD5
      refine ⟨D3, List.replicate 2 true, rfl, SqL.of hD5, true, rfl, iteF ?_⟩
      -- set(..) != {..}
      have sm5 := sm.trans s5
      refine ⟨_, rfl, a.t, _, 1, _, rfl, rfl, SqT.of (s5 _ _ O1.t), rfl, a.d, _, rfl, .inl (s5 _ _ O1.d), (by show 2 ≤ 5; decide), fun q1 n1 => ?_⟩
      have s6 := sm5.trans (same_new (o := SetK P w q1 (inK ([((Sum.inr "item" : Key), V.int o.item), (Sum.inr "next", a.nv)].map Prod.fst)) 2) n1)
      have hq1 : (upd H5 q1 (SetK P w q1 (inK ([((Sum.inr "item" : Key), V.int o.item), (Sum.inr "next", a.nv)].map Prod.fst)) 2)) q1 = some (SetK P w q1 (inK [Sum.inr "item", Sum.inr "next"]) 2) := upd_same
      generalize (upd H5 q1 (SetK P w q1 (inK ([((Sum.inr "item" : Key), V.int o.item), (Sum.inr "next", a.nv)].map Prod.fst)) 2)) = H6 at s6 hq1
      match ts, i2 with
      | [t0, t1], .cons h0 (.cons h1 .nil) =>
        refine ⟨_, rfl, ca, rfl, ⟨_, SqL.of (s6 _ _ i1)⟩, fun D4 hD4 => ?_⟩
        have grow : ∀ (l : List Key) (k : Key) (n : Nat), inK l k = false → SetK P w D4 (fun j => inK l j || decide (j = k)) (if inK l k = true then n else n + 1) = SetK P w D4 (inK (l ++ [k])) (n + 1) := fun l k n e => by
          rw [if_neg (by rw [e]; simp)]
          congr 1
          funext j
          exact inK_snoc.symm
        refine any_it (walk_list (xs := [.ref t0, .ref t1])) (fun i H' => H' = upd H6 D4 (SetK P w D4 (inK ([(Sum.inr "item" : Key), Sum.inr "next"].take i)) i)) rfl (fun i H' _ e => by rw [e]; exact (same_new hD4).seq (SqL.of (s6 _ _ i1))) (fun i x H7 H8 hi e y => ?_) (fun H7 e => ?_)
        · obtain ⟨rfl, y⟩ := y
          subst e
          match i, hi with
          | 0, _ =>
            cases y
            exact ⟨t0, _, rfl, SqT.of (same_new hD4 _ _ (s6 _ _ h0)), rfl, _, _, rfl, _, _, rfl, rfl, rfl, _, rfl, Sum.inr "item", _, _, rfl, upd_same, by decide, by rw [upd_upd]; exact congrArg (upd H6 D4) (grow [] (Sum.inr "item") 0 rfl)⟩
          | 1, _ =>
            cases y
            exact ⟨t1, _, rfl, SqT.of (same_new hD4 _ _ (s6 _ _ h1)), rfl, _, _, rfl, _, _, rfl, rfl, rfl, _, rfl, Sum.inr "next", _, _, rfl, upd_same, by decide, by rw [upd_upd]; exact congrArg (upd H6 D4) (grow [Sum.inr "item"] (Sum.inr "next") 1 (by kernel_rfl))⟩
        subst e
        have q14 : q1 ≠ D4 := ne_of_none hq1 hD4
        refine ⟨q1, D4, inK [Sum.inr "item", Sum.inr "next"], 2, rfl, rfl, by rw [upd_ne q14]; exact hq1, upd_same, _, rfl, iteF ?_⟩
        have s7 := s6.trans (same_new (o := SetK P w D4 (inK ([(Sum.inr "item" : Key), Sum.inr "next"].take [V.ref t0, V.ref t1].length)) [V.ref t0, V.ref t1].length) hD4)
        generalize (upd H6 D4 (SetK P w D4 (inK ([(Sum.inr "item" : Key), Sum.inr "next"].take [V.ref t0, V.ref t1].length)) [V.ref t0, V.ref t1].length)) = H7 at s7
        -- the kinds
        have O7 := Oa.same s7
        refine ⟨_, rfl, ca, rfl, ⟨_, SqL.of (s7 _ _ i1)⟩, fun D5 hD5' => ?_⟩
        refine lc_it (walk_list (xs := [.ref t0, .ref t1])) (fun i H' => H' = upd H7 D5 (.lst ((List.replicate i true).map V.bl))) rfl (fun i H' _ e => by rw [e]; exact (same_new hD5').seq (SqL.of (s7 _ _ i1))) (fun i x H8 H9 hi e y => ?_) (fun H8 e => ?_)
        · obtain ⟨rfl, y⟩ := y
          subst e
          have sn : Same H7 (upd H7 D5 (.lst ((List.replicate i true).map V.bl))) := same_new hD5'
          have O8 := O7.same sn
          match i, hi with
          | 0, _ =>
            cases y
            exact ⟨t0, _, rfl, SqT.of (sn _ _ (s7 _ _ h0)), rfl, _, _, rfl, _, _, rfl, rfl, rfl, _, rfl, a.t, _, 1, _, rfl, rfl, SqT.of O8.t, rfl, _, rfl, a.d, _, rfl, .inl ⟨_, Sum.inr "item", .inl O8.d, rfl, rfl⟩, _, rfl, .inl ⟨_, rfl, [], upd_same, (by show 0 < sizeLine; decide), by rw [upd_upd]; rfl⟩⟩
          | 1, _ =>
            cases y
            exact ⟨t1, _, rfl, SqT.of (sn _ _ (s7 _ _ h1)), rfl, _, _, rfl, _, _, rfl, rfl, rfl, _, rfl, a.t, _, 1, _, rfl, rfl, SqT.of O8.t, rfl, _, rfl, a.d, a.nv, rfl, .inl ⟨_, Sum.inr "next", .inl O8.d, rfl, by kernel_rfl⟩, _, rfl, .inr ⟨_, _, rfl, O8.n, [.bl true], upd_same, (by show 1 < sizeLine; decide), by rw [upd_upd]; rfl⟩⟩
        subst e
        refine ⟨D5, List.replicate 2 true, rfl, SqL.of upd_same, true, rfl, iteF ?_⟩
        exact ⟨s7.trans (same_new hD5'), _, _, _, _, _, rfl⟩
    · obtain ⟨sm, _⟩ := e
      exact ⟨sm _ _ hl2, k _ (s2.trans (same_unlock O2.d (by rw [hHL]; exact sm)))⟩
end
end K18
set_option Elab.async false
set_option linter.all false
set_option maxRecDepth 100000
set_option pp.deepTerms false
set_option pp.maxSteps 400
set_option maxHeartbeats 4000000
namespace K18
open PySem PySem.Spec PyProof.Rows L2
theorem ps_lockM {X : Cx} {st : Stmt} {t : TS} (n : Nat) (h : PS X st t) : PS X st (lockSN n t) := ps_lockN h n
theorem pe_lockM {X : Cx} {e : Expr} {t : TE} (n : Nat) (h : PE X e t) : PE X e (lockN n t) := pe_lockN h n
/-- the frames' dicts -/
def usF : List SF → List Fr → List (Addr × HO)
  | a :: r, f :: s => (a.d, .dK (varKvs f.num a.ov)) :: usF r s
  | _, _ => []
def usO : List OA → List Ob → List (Addr × HO)
  | a :: r, o :: s => (a.d, .dK [(Sum.inr "item", .int o.item), (Sum.inr "next", a.nv)]) :: usO r s
  | _, _ => []
theorem usF_keys {H : Hp} : ∀ {sf : List SF} {fs : List Fr}, Paired (SFAt H) sf fs → (usF sf fs).map (·.1) = sf.map (·.d)
  | _, _, .nil => rfl
  | _, _, .cons _ t => by simp only [usF, List.map_cons, usF_keys t]
theorem usO_keys {H : Hp} : ∀ {sf : List OA} {fs : List Ob}, Paired (ObAt H) sf fs → (usO sf fs).map (·.1) = sf.map (·.d)
  | _, _, .nil => rfl
  | _, _, .cons _ t => by simp only [usO, List.map_cons, usO_keys t]
theorem usF_at {H : Hp} : ∀ {sf : List SF} {fs : List Fr}, Paired (SFAt H) sf fs → ∀ u ∈ usF sf fs, H u.1 = some u.2 ∧ Mut (some u.2)
  | _, _, .nil => fun u hu => by cases hu
  | _, _, .cons q t => fun u hu => by
    rcases List.mem_cons.mp hu with e | e
    · subst e; exact ⟨q.d, trivial⟩
    · exact usF_at t u e
theorem usO_at {H : Hp} : ∀ {sf : List OA} {fs : List Ob}, Paired (ObAt H) sf fs → ∀ u ∈ usO sf fs, H u.1 = some u.2 ∧ Mut (some u.2)
  | _, _, .nil => fun u hu => by cases hu
  | _, _, .cons q t => fun u hu => by
    rcases List.mem_cons.mp hu with e | e
    · subst e; exact ⟨q.d, trivial⟩
    · exact usO_at t u e
theorem usF_mem : ∀ {sf : List SF} {fs : List Fr} {i : Nat} {a : SF} {f : Fr}, sf[i]? = some a → fs[i]? = some f → (a.d, HO.dK (varKvs f.num a.ov)) ∈ usF sf fs
  | [], _, _, _, _, h, _ => by simp at h
  | _ :: _, [], _, _, _, _, h => by simp at h
  | b :: r, g :: s, 0, a, f, h1, h2 => by
    cases h1; cases h2
    exact List.mem_cons_self
  | b :: r, g :: s, i + 1, a, f, h1, h2 => List.mem_cons_of_mem _ (usF_mem (i := i) (by simpa using h1) (by simpa using h2))
theorem usO_mem : ∀ {sf : List OA} {fs : List Ob} {i : Nat} {a : OA} {f : Ob}, sf[i]? = some a → fs[i]? = some f → (a.d, HO.dK [(Sum.inr "item", .int f.item), (Sum.inr "next", a.nv)]) ∈ usO sf fs
  | [], _, _, _, _, h, _ => by simp at h
  | _ :: _, [], _, _, _, _, h => by simp at h
  | b :: r, g :: s, 0, a, f, h1, h2 => by
    cases h1; cases h2
    exact List.mem_cons_self
  | b :: r, g :: s, i + 1, a, f, h1, h2 => List.mem_cons_of_mem _ (usO_mem (i := i) (by simpa using h1) (by simpa using h2))
/-- what the locked heap still tells -/
theorem lks_keys {l : Lks} {us : List (Addr × HO)} (h : l.map (fun x => (x.1, x.2.2)) = us) : l.map (·.1) = us.map (·.1) := by
  rw [← h, List.map_map]; rfl
theorem lks_at {l : Lks} {us : List (Addr × HO)} {H : Hp} (h : l.map (fun x => (x.1, x.2.2)) = us) (hu : ∀ u ∈ us, H u.1 = some u.2 ∧ Mut (some u.2)) : ∀ x ∈ l, H x.1 = some x.2.2 := fun x hx => (hu (x.1, x.2.2) (by rw [← h]; exact List.mem_map.mpr ⟨x, hx, rfl⟩)).1
theorem lks_in {l : Lks} {us : List (Addr × HO)} {H : Hp} {u : Addr × HO} (h : l.map (fun x => (x.1, x.2.2)) = us) (nd : (us.map (·.1)).Nodup) (hu : u ∈ us) : ∃ od, lkH l H u.1 = some (.frz od u.2) := by
  rw [← h] at hu
  obtain ⟨x, hx, rfl⟩ := List.mem_map.mp hu
  exact ⟨x.2.1, lkH_in (by rw [lks_keys h]; exact nd) hx⟩
theorem lks_out {l : Lks} {us : List (Addr × HO)} {H : Hp} {x : Addr} (h : l.map (fun x => (x.1, x.2.2)) = us) (n : x ∉ us.map (·.1)) : lkH l H x = H x := lkH_out (by rw [lks_keys h]; exact n)
section
variable {P : Program} {w : World} {K : PySem.W.Frag} {mg : Str → Option Value} {base : Heap}
variable {H H' : Hp} {p src : Addr} {A : MA} {m : Mch} {G : Prg}
theorem notF {sf : List SF} {fs : List Fr} (h : Paired (SFAt H) sf fs) {x : Addr} {o : HO} (hx : H x = some o) (no : ∀ kvs, o ≠ .dK kvs) : x ∉ (usF sf fs).map (·.1) := fun z => by
  rw [usF_keys h] at z
  obtain ⟨a, ha, e⟩ := List.mem_map.mp z
  obtain ⟨f, _, q⟩ := Paired.mem h a ha
  have h1 := q.d
  rw [e, hx] at h1
  exact no _ (Option.some.inj h1)
theorem notO {sf : List OA} {fs : List Ob} (h : Paired (ObAt H) sf fs) {x : Addr} {o : HO} (hx : H x = some o) (no : ∀ kvs, o ≠ .dK kvs) : x ∉ (usO sf fs).map (·.1) := fun z => by
  rw [usO_keys h] at z
  obtain ⟨a, ha, e⟩ := List.mem_map.mp z
  obtain ⟨f, _, q⟩ := Paired.mem h a ha
  have h1 := q.d
  rw [e, hx] at h1
  exact no _ (Option.some.inj h1)
/-- the values are numbers, or objects that are there -/
structure Refs (n : Nat) (fs : List Fr) (obs : List Ob) : Prop where
  fr : ∀ f ∈ fs, ∀ s j, f.obj s = some j → j < n
  ob : ∀ o ∈ obs, ∀ j, o.next = some j → j < n
theorem var_ok {a : SF} {f : Fr} {n : Nat} (h : SFAt H a f) (hf : ∀ s j, f.obj s = some j → j < n) (i : Nat) (k : Key) (v : V) (e : (varKvs f.num a.ov)[i]? = some (k, v)) : ValOk H n v := by
  match i, e with
  | 0, e => cases e; exact .inl ⟨_, rfl⟩
  | 1, e => cases e; exact .inr ⟨_, h.o .o, hf .o⟩
  | 2, e => cases e; exact .inl ⟨_, rfl⟩
  | 3, e => cases e; exact .inl ⟨_, rfl⟩
  | 4, e => cases e; exact .inr ⟨_, h.o .p, hf .p⟩
  | j + 5, e => simp [varKvs] at e
theorem fd_ok {a : OA} {o : Ob} {n : Nat} (h : ObAt H a o) (hf : ∀ j, o.next = some j → j < n) (i : Nat) (k : Key) (v : V) (e : ([((Sum.inr "item" : Key), V.int o.item), (Sum.inr "next", a.nv)])[i]? = some (k, v)) : ValOk H n v := by
  match i, e with
  | 0, e => cases e; exact .inl ⟨_, rfl⟩
  | 1, e => cases e; exact .inr ⟨_, h.n, hf⟩
  | j + 2, e => simp at e
def spReferred (K : PySem.W.Frag) : Sp := fun vs H Q _ => ∃ (l hd : Addr) (sf : List SF) (fs : List Fr) (os : List OA) (obs : List Ob) (n : Nat), vs = [.ref l, .ref hd] ∧ FrsAt H l sf fs ∧ HpAt H hd os obs ∧ Refs n fs obs ∧ fs.length ≤ 50 ∧ obs.length ≤ 300 ∧
  ∀ H' r vs, Same H H' → H' r = some (.lst vs) → vs.length < 1000 → (∀ v ∈ vs, ValOk H' n v) → Q (.ref r) H'
theorem sc_referred : FnScope ["frames", "heap", "found", "frame", "value", "held"] ["frames", "heap"] d_referred.scope := ⟨rfl, rfl, rfl, by decide +kernel, rfl, by decide +kernel, by decide +kernel⟩
theorem k_referred (T : Tx w K mg) : Ok P w K mg base 1 d_referred ["frames", "heap"] (spReferred K) := by
  refine Ok.of T.d_referred sc_referred (fun _ _ _ _ _ _ us hl => match us, hl with | [_, _], _ => rfl) (fun vs H Q E h => ?_) (fun cdv A outer s H vs Q E hr h => ?_)
  · obtain ⟨l, hd, sf, fs, os, obs, n, rfl, _⟩ := h
    rfl
  · obtain ⟨l, hd, sf, fs, os, obs, n, rfl, F, O, R, hf, ho, k⟩ := h
    have ndF : ((usF sf fs).map (·.1)).Nodup := by rw [usF_keys F.f]; exact F.nd
    have ndO : ((usO os obs).map (·.1)).Nodup := by rw [usO_keys O.o]; exact O.nd
    have hnF := Paired.len F.f
    have hnO := Paired.len O.o
    refine ⟨_, (pss_cons (ps_lockM (usF sf fs).length (ps_setLc2 (i := 2) (own := [("frame", 3), ("value", 4)]) (vs1 := [4]) (g := (gName 3)) (tt := tYes) (g1 := (gName 4)) (tt1 := tYes) (by rfl) sc_referred.nd rfl rfl (sw_true rfl rfl rfl (by decide +kernel)) (pi_list (pv 0)) (blkOk_by (own := [("frame", 3), ("value", 4)]) (N := ["frames", "heap", "found", "frame", "value", "held"]) (sc := d_referred.scope) (by decide +kernel)) (by decide) (fun _ _ _ _ _ => (pg_name (i := 3) sc_referred.nd rfl (.inl rfl))) (fun _ _ _ _ _ => pts_nil) (fun _ _ _ _ _ => (pi_values (pe_ix (r := rIxT K) ix_tup (pv 3) pe_int (fun _ _ => rfl)))) (fun _ _ _ _ _ => (pg_name (i := 4) sc_referred.nd rfl (.inl rfl))) (fun _ _ _ _ _ => pts_nil) (fun _ _ _ _ _ => (pv 4))))
      (pss_one (ps_ret (pe_op op_cat (pv 2) (pe_lockM (usO os obs).length (pe_lock (pe_lc2 (own := [("held", 5), ("value", 4)]) (vs1 := [4]) (g := (gName 5)) (tt := tYes) (g1 := (gName 4)) (tt1 := tYes) (by rfl) sc_referred.nd  (pi_values (pv 1)) (blkOk_by (own := [("held", 5), ("value", 4)]) (N := ["frames", "heap", "found", "frame", "value", "held"]) (sc := d_referred.scope) (by decide +kernel)) (by decide) (fun _ _ _ _ _ => (pg_name (i := 5) sc_referred.nd rfl (.inl rfl))) (fun _ _ _ _ _ => pts_nil) (fun _ _ _ _ _ => (pi_values (pe_ix (r := rIxT K) ix_tup (pv 5) pe_int (fun _ _ => rfl)))) (fun _ _ _ _ _ => (pg_name (i := 4) sc_referred.nd rfl (.inl rfl))) (fun _ _ _ _ _ => pts_nil) (fun _ _ _ _ _ => (pv 4))))))))), ?_⟩
    refine lockSN_by (usF sf fs) ndF (usF_at F.f) fun lk hlk => ?_
    have FL : ∀ (x : Addr) (o : HO), H x = some o → (∀ kvs, o ≠ .dK kvs) → lkH lk H x = some o := fun x o hx no => (lks_out hlk (notF F.f hx no)).trans hx
    have atF := lks_at hlk (usF_at F.f)
    have inF : ∀ (i : Nat) (a : SF) (f : Fr), sf[i]? = some a → fs[i]? = some f → ∃ od, lkH lk H a.d = some (.frz od (.dK (varKvs f.num a.ov))) := fun i a f h1 h2 => lks_in hlk ndF (usF_mem h1 h2)
    have kF := lks_keys hlk
    generalize hHL : lkH lk H = HL at FL inF
    refine ⟨_, rfl, l, rfl, ⟨_, SqL.of (FL _ _ F.l (fun _ z => by cases z))⟩, fun D hD => ?_⟩
    refine any_it (walk_list (xs := sf.map fun a => V.ref a.t)) (fun i H' => ∃ vs, Same HL H' ∧ H' D = some (.lst vs) ∧ (∀ v ∈ vs, ValOk H n v) ∧ vs.length ≤ 5 * i) ?_ (fun i H' _ e => ?_) (fun i x H1 H' hi e y => ?_) (fun H' e => ?_)
    · exact ⟨[], same_new hD, upd_same, fun v hv => (by cases hv), Nat.le_refl _⟩
    · obtain ⟨vs, sm, _⟩ := e
      exact SqL.of (sm _ _ (FL _ _ F.l (fun _ z => by cases z)))
    · obtain ⟨vs, sm, hd1, hv, hl⟩ := e
      obtain ⟨rfl, y⟩ := y
      rw [List.length_map] at hi
      obtain ⟨a, ha⟩ : ∃ a, sf[i]? = some a := ⟨_, List.getElem?_eq_getElem hi⟩
      rw [List.getElem?_map, ha] at y
      cases y
      obtain ⟨f, hfi, Ff⟩ := Paired.getL F.f ha
      obtain ⟨od, hod⟩ := inF i a f ha hfi
      refine ⟨rfl, _, rfl, a.t, _, 2, _, rfl, rfl, SqT.of (sm _ _ (FL _ _ Ff.t (fun _ z => by cases z))), rfl, a.d, od, _, rfl, sm _ _ hod, ?_⟩
      refine any_it walk_values (fun j H' => ∃ vs, Same HL H' ∧ H' D = some (.lst vs) ∧ (∀ v ∈ vs, ValOk H n v) ∧ vs.length ≤ 5 * i + j) ⟨vs, sm, hd1, hv, hl⟩ (fun j H' _ e => ?_) (fun j x H1 H2 hj e y => ?_) (fun H2 e => ?_)
      · obtain ⟨vs, sm, _⟩ := e
        exact sm _ _ hod
      · obtain ⟨vs, sm, hd1, hv, hl⟩ := e
        obtain ⟨rfl, kk, hk⟩ := y
        have hj5 : j < 5 := hj
        refine ⟨rfl, _, rfl, vs, hd1, lt_line (by omega), vs ++ [x], sm.put hD, upd_same, fun v hv' => ?_, by rw [List.length_append]; simp only [List.length_cons, List.length_nil]; omega⟩
        rcases List.mem_append.mp hv' with q | q
        · exact hv v q
        · rw [List.mem_singleton.mp q]
          exact var_ok Ff (R.fr f (List.mem_of_getElem? hfi)) j kk x hk
      · obtain ⟨vs, sm, hd1, hv, hl⟩ := e
        exact ⟨vs, sm, hd1, hv, hl⟩
    obtain ⟨vs, sm, hd1, hv, hl⟩ := e
    rw [List.length_map] at hl
    subst hHL
    refine lkD_by (by rw [kF]; exact ndF) atF sm fun H1 s1 k1 => ?_
    have nDF : D ∉ lk.map (·.1) := fun z => by
      obtain ⟨x, hx, e⟩ := List.mem_map.mp z
      rw [← e, lkH_in (by rw [kF]; exact ndF) hx] at hD
      cases hD
    have hD1 := k1 _ _ nDF hd1
    -- the objects'
    have O1 := O.same s1
    refine ⟨_, rfl, ?_⟩
    refine lockN_by (usO os obs) ndO (usO_at O1.o) fun lo hlo => ?_
    have OL : ∀ (x : Addr) (o : HO), H1 x = some o → (∀ kvs, o ≠ .dK kvs) → lkH lo H1 x = some o := fun x o hx no => (lks_out hlo (notO O1.o hx no)).trans hx
    have atO := lks_at hlo (usO_at O1.o)
    have inO : ∀ (i : Nat) (a : OA) (f : Ob), os[i]? = some a → obs[i]? = some f → ∃ od, lkH lo H1 a.d = some (.frz od (.dK [(Sum.inr "item", .int f.item), (Sum.inr "next", a.nv)])) := fun i a f h1 h2 => lks_in hlo ndO (usO_mem h1 h2)
    have kO := lks_keys hlo
    have hdL : lkH lo H1 hd = some (.dK (objK 0 os)) := by
      rw [lks_out hlo, O1.d]
      rw [usO_keys O1.o]
      intro z
      obtain ⟨a, ha, e⟩ := List.mem_map.mp z
      exact O1.dne a ha e
    refine ⟨hd, _, hdL, trivial, fun od => ?_⟩
    have hn0 : (upd (lkH lo H1) hd (.frz od (.dK (objK 0 os)))) hd = some (.frz od (.dK (objK 0 os))) := upd_same
    have OM : ∀ (x : Addr) (o : HO), H1 x = some o → (∀ kvs, o ≠ .dK kvs) → (upd (lkH lo H1) hd (.frz od (.dK (objK 0 os)))) x = some o := fun x o hx no => by
      rw [upd_ne (fun z => ?_)]
      · exact OL x o hx no
      · have h1 := OL x o hx no
        rw [z, hdL] at h1
        exact no _ (Option.some.inj h1).symm
    have inM : ∀ (i : Nat) (a : OA) (f : Ob), os[i]? = some a → obs[i]? = some f → ∃ od2, (upd (lkH lo H1) hd (.frz od (.dK (objK 0 os)))) a.d = some (.frz od2 (.dK [(Sum.inr "item", .int f.item), (Sum.inr "next", a.nv)])) := fun i a f h1 h2 => by
      obtain ⟨od2, q⟩ := inO i a f h1 h2
      exact ⟨od2, by rw [upd_ne (O1.dne a (List.mem_of_getElem? h1))]; exact q⟩
    generalize hHM : (upd (lkH lo H1) hd (.frz od (.dK (objK 0 os)))) = HM at hn0 OM inM
    refine ⟨_, rfl, hd, od, _, rfl, hn0, fun D2 hD2 => ?_⟩
    refine any_it walk_values (fun i H' => ∃ ws, Same HM H' ∧ H' D2 = some (.lst ws) ∧ (∀ v ∈ ws, ValOk H1 n v) ∧ ws.length ≤ 2 * i) ?_ (fun i H' _ e => ?_) (fun i x H3 H' hi e y => ?_) (fun H' e => ?_)
    · exact ⟨[], same_new hD2, upd_same, fun v hv => (by cases hv), Nat.le_refl _⟩
    · obtain ⟨ws, sm2, _⟩ := e
      exact sm2 _ _ hn0
    · obtain ⟨ws, sm2, hd2, hw, hl2⟩ := e
      obtain ⟨rfl, kk, hk⟩ := y
      rw [objK_len] at hi
      obtain ⟨a, ha⟩ : ∃ a, os[i]? = some a := ⟨_, List.getElem?_eq_getElem hi⟩
      have hk' : (objK 0 os)[i]? = some (Sum.inl (i : Int), .ref a.t) := by rw [objK_ix, ha, Nat.zero_add]; rfl
      rw [hk'] at hk
      cases hk
      obtain ⟨o, hoi, Oo⟩ := Paired.getL O1.o ha
      obtain ⟨od2, hod⟩ := inM i a o ha hoi
      refine ⟨rfl, _, rfl, a.t, _, 1, _, rfl, rfl, SqT.of (sm2 _ _ (OM _ _ Oo.t (fun _ z => by cases z))), rfl, a.d, od2, _, rfl, sm2 _ _ hod, ?_⟩
      refine any_it walk_values (fun j H' => ∃ ws, Same HM H' ∧ H' D2 = some (.lst ws) ∧ (∀ v ∈ ws, ValOk H1 n v) ∧ ws.length ≤ 2 * i + j) ⟨ws, sm2, hd2, hw, hl2⟩ (fun j H' _ e => ?_) (fun j x H3 H4 hj e y => ?_) (fun H4 e => ?_)
      · obtain ⟨ws, sm2, _⟩ := e
        exact sm2 _ _ hod
      · obtain ⟨ws, sm2, hd2, hw, hl2⟩ := e
        obtain ⟨rfl, kk, hk⟩ := y
        have hj2 : j < 2 := hj
        refine ⟨rfl, _, rfl, ws, hd2, lt_line (by omega), ws ++ [x], sm2.put hD2, upd_same, fun v hv' => ?_, by rw [List.length_append]; simp only [List.length_cons, List.length_nil]; omega⟩
        rcases List.mem_append.mp hv' with q | q
        · exact hw v q
        · rw [List.mem_singleton.mp q]
          exact fd_ok Oo (R.ob o (List.mem_of_getElem? hoi)) j kk x hk
      · obtain ⟨ws, sm2, hd2, hw, hl2⟩ := e
        exact ⟨ws, sm2, hd2, hw, hl2⟩
    obtain ⟨ws, sm2, hd2, hw, hl2⟩ := e
    rw [objK_len] at hl2
    have D2h : D2 ≠ hd := fun z => by rw [z, hn0] at hD2; cases hD2
    have sU : Same (lkH lo H1) (upd H' hd (.dK (objK 0 os))) := same_unlock hdL (by rw [hHM]; exact sm2)
    refine ⟨sm2 _ _ hn0, lkQ_by (by rw [kO]; exact ndO) atO sU fun H5 s5 k5 => ?_⟩
    have nDO : D2 ∉ lo.map (·.1) := fun z => by
      obtain ⟨x, hx, e⟩ := List.mem_map.mp z
      have h1 := lkH_in (H := H1) (by rw [kO]; exact ndO) hx
      rw [e] at h1
      rw [← hHM, upd_ne D2h, h1] at hD2
      cases hD2
    have hD5 := k5 _ _ nDO (by rw [upd_ne D2h]; exact hd2)
    refine ⟨D, D2, vs, ws, rfl, rfl, s5 _ _ hD1, hD5, le_line (by omega), fun r hr => ?_⟩
    have s05 := s1.trans s5
    refine k _ r _ (s05.trans (same_new hr)) upd_same (by rw [List.length_append]; omega) fun v hv' => ?_
    rcases List.mem_append.mp hv' with q | q
    · exact (hv v q).same (s05.trans (same_new hr))
    · exact ((hw v q).same s5).same (same_new hr)
end
end K18
set_option Elab.async false
set_option linter.all false
set_option maxRecDepth 100000
set_option pp.deepTerms false
set_option pp.maxSteps 400
set_option maxHeartbeats 4000000
namespace K18
open PySem PySem.Spec PyProof.Rows L2
theorem perm_le : ∀ {l k : List Int}, l.Perm k → l.Pairwise (· ≤ ·) → k.Pairwise (· ≤ ·) → l = k
  | [], k, p, _, _ => (List.nil_perm.mp p).symm
  | a :: r, [], p, _, _ => absurd p (by intro z; have := z.length_eq; simp at this)
  | a :: r, b :: s, p, h1, h2 => by
    have ma : a ∈ b :: s := p.mem_iff.mp List.mem_cons_self
    have mb : b ∈ a :: r := p.mem_iff.mpr List.mem_cons_self
    obtain ⟨p1, p2⟩ := List.pairwise_cons.mp h1
    obtain ⟨q1, q2⟩ := List.pairwise_cons.mp h2
    have e : a = b := by
      rcases List.mem_cons.mp ma with e | m1
      · exact e
      · rcases List.mem_cons.mp mb with e | m2
        · exact e.symm
        · have := p1 b m2
          have := q1 a m1
          omega
    subst e
    rw [perm_le (p.cons_inv) p2 q2]
def upN (n : Nat) : List Int := (List.range n).map fun (j : Nat) => (j : Int)
theorem upN_sorted (n : Nat) : (upN n).Pairwise (· ≤ ·) := by
  unfold upN
  rw [List.pairwise_map]
  exact List.Pairwise.imp (fun h => by omega) List.pairwise_lt_range
theorem objK_fst : ∀ (os : List OA) (n : Nat), (objK n os).map (·.1) = ((List.range os.length).map fun (j : Nat) => ((n + j : Nat) : Int)).map Sum.inl
  | [], _ => rfl
  | a :: r, n => by
    show (Sum.inl (n : Int) : Key) :: (objK (n + 1) r).map (·.1) = _
    rw [objK_fst r (n + 1), List.length_cons, List.range_succ_eq_map, List.map_cons, List.map_cons, List.map_map, List.map_map, List.map_map]
    congr 1
    apply List.map_congr_left
    intro j _
    show (Sum.inl ((n + 1 + j : Nat) : Int) : Key) = Sum.inl ((n + (j + 1) : Nat) : Int)
    congr 2
    omega
theorem FrsAt.but {H H' : Hp} {x l C dx : Addr} {fs0 : List (Str × V)} {sf : List SF} {fs : List Fr} (hx : H x = some (.ins C dx fs0)) (b : But x H H') (tk : Tk H H') (h : FrsAt H l sf fs) : FrsAt H' l sf fs :=
  ⟨b _ _ h.l (ne_of h.l hx (by intro z; cases z)), Paired.mapP h.f fun a f q => ⟨tk _ _ q.t, b _ _ q.d (ne_of q.d hx (by intro z; cases z)), fun s => (q.o s).tk tk⟩, h.nd⟩
theorem HpAt.but {H H' : Hp} {x l C dx : Addr} {fs0 : List (Str × V)} {sf : List OA} {fs : List Ob} (hx : H x = some (.ins C dx fs0)) (b : But x H H') (tk : Tk H H') (h : HpAt H l sf fs) : HpAt H' l sf fs :=
  ⟨b _ _ h.d (ne_of h.d hx (by intro z; cases z)), Paired.mapP h.o fun a f q => ⟨tk _ _ q.t, b _ _ q.d (ne_of q.d hx (by intro z; cases z)), q.n.tk tk⟩, h.nd⟩
theorem tk_ins {H : Hp} {x C dx : Addr} {fs0 : List (Str × V)} {o : HO} (hx : H x = some (.ins C dx fs0)) : Tk H (upd H x o) := tk_upd fun xs z => by rw [hx] at z; cases z
section
variable {P : Program} {w : World} {K : PySem.W.Frag} {mg : Str → Option Value} {base : Heap}
variable {H H' : Hp} {p src : Addr} {A : MA} {m : Mch} {G : Prg}
def spSInit (K : PySem.W.Frag) : Sp := fun vs H Q _ => ∃ (H0 : Hp) (x dx src l hd : Addr) (G : Prg) (sf : List SF) (fs : List Fr) (os : List OA) (obs : List Ob), vs = [.ref x, .ref src, .ref l, .ref hd] ∧ H x = some (.ins (He.ga K "State") dx []) ∧ Same H0 H ∧ H0 x = none ∧
  SrcAt K H0 src G ∧ FrsAt H0 l sf fs ∧ HpAt H0 hd os obs ∧ FrsOk G fs ∧ Refs obs.length fs obs ∧ obs.length < 64 ∧ ∀ H', StAt K H' x src fs obs → Same H0 H' → Q .non H'
theorem sc_State_init : FnScope ["self", "source", "frames", "heap", "number", "value", "name", "row", "variables"] ["self", "source", "frames", "heap"] d_State_init.scope := ⟨rfl, rfl, rfl, by decide +kernel, rfl, by decide +kernel, by decide +kernel⟩
theorem k_State_init (T : Tx w K mg) : Ok P w K mg base 6 d_State_init ["self", "source", "frames", "heap"] (spSInit K) := by
  refine Ok.of T.d_State_init sc_State_init (fun _ _ _ _ _ _ us hl => match us, hl with | [_, _, _, _], _ => rfl) (fun vs H Q E h => ?_) (fun cdv A outer s H vs Q E hr h => ?_)
  · obtain ⟨H0, x, dx, src, l, hd, G, sf, fs, os, obs, rfl, _⟩ := h
    rfl
  · obtain ⟨H0, x, dx, src, l, hd, G, sf, fs, os, obs, rfl, hx, e0, nx, S0, F0, O0, ok, R, hob, k⟩ := h
    refine ⟨_, (pss_cons (ps_expr (pe_G (k_check_source T) (hr.mono (by decide)) T.g_check_source (pa_cons (pv 1) pa_nil)))
      (pss_cons (ps_if (pt_not (pt_val (pe_G (k_are_frames T) (hr.mono (by decide)) T.g_are_frames (pa_cons (pv 1) (pa_cons (pv 2) pa_nil))))) pss_never pss_nil)
      (pss_cons (ps_if (pt_not (pt_val (pe_G (k_is_heap T) (hr.mono (by decide)) T.g_is_heap (pa_cons (pv 1) (pa_cons (pv 3) pa_nil))))) pss_never pss_nil)
      (pss_cons (ps_if (pt_cmpR (op_neD hr.units) (pe_lc (own := [("value", 5)]) (g := (gName 5)) (by rfl) sc_State_init.nd  (pi_list (pe_G (k_referred T) (hr.mono (by decide)) T.g_referred (pa_cons (pv 2) (pa_cons (pv 3) pa_nil)))) (blkOk_by (own := [("value", 5)]) (N := ["self", "source", "frames", "heap", "number", "value", "name", "row", "variables"]) (sc := d_State_init.scope) (by decide +kernel)) (fun _ _ _ _ _ => (pg_name (i := 5) sc_State_init.nd rfl (.inl rfl))) (fun _ _ _ _ _ => (pts_one (PW.pt (pw_and (pt_val (pe_G (k_is_object T) (hr.mono (by decide)) T.g_is_object (pa_cons (pv 5) pa_nil))) (pw_and1 (pt_cmp (pc_dnotin (hu_of hr) (pe_ix (r := rIxT K) ix_tup (pv 5) pe_int (fun _ _ => rfl)) (pv 3)))))))) (fun _ _ _ _ _ => (pv 5))) (pe_lst pa_nil) (nomark _)) pss_never pss_nil)
      (pss_cons (ps_fld (pv 0) (pv 1) rfl)
      (pss_cons (ps_fld (pv 0) (pe_lc (own := [("name", 6), ("row", 7), ("variables", 8)]) (g := (gTup K 3 (gCons (gName 6) (gCons (gName 7) (gCons (gName 8) gNil))))) (tt := tYes) (by rfl) sc_State_init.nd  (pi_list (pv 2)) (blkOk_by (own := [("name", 6), ("row", 7), ("variables", 8)]) (N := ["self", "source", "frames", "heap", "number", "value", "name", "row", "variables"]) (sc := d_State_init.scope) (by decide +kernel)) (fun _ _ _ _ _ => (pg_tup rfl (pgs_cons (pg_name (i := 6) sc_State_init.nd rfl (.inl rfl)) (pgs_cons (pg_name (i := 7) sc_State_init.nd rfl (.inl rfl)) (pgs_cons (pg_name (i := 8) sc_State_init.nd rfl (.inl rfl)) pgs_nil))))) (fun _ _ _ _ _ => pts_nil) (fun _ _ _ _ _ => (pe_tup (pa_cons (pv 6) (pa_cons (pv 7) (pa_cons (pe_callTy call_dictD (by rfl) T.b_dict bt_dict (pa_cons (pv 8) pa_nil)) pa_nil)))))) rfl)
      (pss_one (ps_fld (pv 0) (pe_dc (own := [("number", 4)]) (g := (gName 4)) (tt := tYes) (by rfl) sc_State_init.nd  (pi_list (pe_callB (call_sortedDI rfl) (by rfl) T.b_sorted bt_sorted (pa_cons (pv 3) pa_nil))) (blkOk_by (own := [("number", 4)]) (N := ["self", "source", "frames", "heap", "number", "value", "name", "row", "variables"]) (sc := d_State_init.scope) (by decide +kernel)) (fun _ _ _ _ _ => (pg_name (i := 4) sc_State_init.nd rfl (.inl rfl))) (fun _ _ _ _ _ => pts_nil) (fun _ _ _ _ _ => (pv 4)) (fun _ _ _ _ _ => (pe_tup (pa_cons (pe_ix (r := rIxT K) ix_tup (pe_dget (hu_of hr) (pv 3) (pv 4) (fun _ _ => rfl)) pe_int (fun _ _ => rfl)) (pa_cons (pe_callTy call_dictD (by rfl) T.b_dict bt_dict (pa_cons (pe_ix (r := rIxT K) ix_tup (pe_dget (hu_of hr) (pv 3) (pv 4) (fun _ _ => rfl)) pe_int (fun _ _ => rfl)) pa_nil)) pa_nil))))) rfl)))))))), ?_⟩
    obtain ⟨dxs, cr, fk, kf, ff, fg, hs, _⟩ := (S0.le (Le.of e0)).fns
    refine ⟨_, rfl, src, _, _, rfl, hs, ?_⟩
    refine ⟨_, rfl, _, rfl, src, G, l, sf, fs, rfl, S0.le (Le.of e0), F0.same e0, ok, fun H1 s1 => ⟨true, rfl, iteF ?_⟩⟩
    have e1 := e0.trans s1
    refine ⟨_, rfl, _, rfl, src, G, hd, os, obs, rfl, S0.le (Le.of e1), O0.same e1, Nat.lt_trans hob (by decide), fun H2 s2 => ⟨true, rfl, iteF ?_⟩⟩
    have e2 := e1.trans s2
    have O2 := O0.same e2
    refine ⟨_, rfl, _, rfl, l, hd, sf, fs, os, obs, obs.length, rfl, F0.same e2, O2, R, ok.few, by omega, fun H3 r vs s3 hr3 hlen hv => ⟨r, rfl, ⟨_, SqL.of hr3⟩, fun D hD => ?_⟩⟩
    have O3 := O2.same s3
    refine lc_it (walk_list (xs := vs)) (fun i H' => H' = upd H3 D (.lst [])) rfl (fun i H' _ e => by rw [e]; exact (same_new hD).seq (SqL.of hr3)) (fun i v H4 H5 hi e y => ?_) (fun H4 e => ?_)
    · obtain ⟨rfl, y⟩ := y
      subst e
      have sn : Same H3 (upd H3 D (.lst [])) := same_new hD
      refine ⟨rfl, ?_⟩
      rcases hv v (List.mem_of_getElem? y) with ⟨i, rfl⟩ | ⟨o, ho, hb⟩
      · exact ⟨_, rfl, .inl ⟨i, rfl, false, rfl, iteF (iteF rfl)⟩⟩
      · cases o with
        | none =>
          cases (show v = .non from ho)
          exact ⟨_, rfl, .inr ⟨.non, none, rfl, rfl, false, rfl, iteF (iteF rfl)⟩⟩
        | some n =>
          obtain ⟨t, rfl, ht⟩ := id ho
          obtain ⟨o, hoi⟩ : ∃ o, obs[n]? = some o := ⟨_, List.getElem?_eq_getElem (hb n rfl)⟩
          obtain ⟨a, ha, Oa⟩ := Paired.getR (O3.same sn).o hoi
          have hk := objK_at os 0 n a ha
          rw [Nat.zero_add] at hk
          exact ⟨_, rfl, .inr ⟨_, some n, rfl, ho.le (Le.of sn), true, rfl, iteT ⟨_, rfl, t, _, 1, _, rfl, rfl, SqT.of (sn _ _ ht), rfl, _, rfl, hd, some (.ref a.t), rfl, .inl ⟨_, Sum.inl (n : Int), .inl (O3.same sn).d, rfl, hk.symm⟩, false, rfl, iteF rfl⟩⟩⟩
    subst e
    refine ⟨Nat.zero_le _, fun b hb => nil_ne (SqL.of (by rw [upd_ne (ne_of_none upd_same hb)]; exact upd_same)) (SqL.of upd_same) ⟨false, rfl, iteF ?_⟩⟩
    have e4 : Same H0 (upd (upd H3 D (.lst [])) b (.lst [])) := ((e2.trans s3).trans (same_new hD)).trans (same_new hb)
    have hx4 : (upd (upd H3 D (.lst [])) b (.lst [])) x = some (.ins (He.ga K "State") dx []) := (same_new hb) _ _ ((same_new hD) _ _ (s3 _ _ (s2 _ _ (s1 _ _ hx))))
    generalize (upd (upd H3 D (.lst [])) b (.lst [])) = H4 at e4 hx4
    -- self.source
    refine ⟨_, rfl, _, rfl, x, _, _, _, rfl, hx4, T.c_State, T.n_State_source, (by show 0 < 1000; decide), ?_⟩
    have q5 : (upd H4 x (.ins (He.ga K "State") dx (putF "source" (.ref src) []))) x = some (.ins (He.ga K "State") dx [("source", .ref src)]) := upd_same
    have e5 : Same H0 (upd H4 x (.ins (He.ga K "State") dx (putF "source" (.ref src) []))) := e4.put nx
    generalize (upd H4 x (.ins (He.ga K "State") dx (putF "source" (.ref src) []))) = H5 at q5 e5
    -- self.frame_rows
    have F5 := F0.same e5
    refine ⟨_, rfl, l, rfl, ⟨_, SqL.of F5.l⟩, fun L hL => ?_⟩
    refine lc_it (walk_list (xs := sf.map fun a => V.ref a.t)) (fun i H' => ∃ sg, Same H5 H' ∧ H' L = some (.lst (sg.map fun a => V.ref a.t)) ∧ Paired (SFAt H') sg (fs.take i) ∧ (sg.map (·.d)).Nodup ∧ ∀ a ∈ sg, H5 a.t = none ∧ H5 a.d = none) ?_ (fun i H' _ e => ?_) (fun i v H6 H7 hi e y => ?_) (fun H6 e => ?_)
    · exact ⟨[], same_new hL, upd_same, .nil, List.nodup_nil, fun a ha => by cases ha⟩
    · obtain ⟨sg, sm, _⟩ := e
      exact SqL.of (sm _ _ F5.l)
    · obtain ⟨rfl, y⟩ := y
      obtain ⟨sg, sm, hd6, hp, hnd, hfr⟩ := e
      rw [List.length_map] at hi
      obtain ⟨a, ha⟩ : ∃ a, sf[i]? = some a := ⟨_, List.getElem?_eq_getElem hi⟩
      rw [List.getElem?_map, ha] at y
      cases y
      obtain ⟨t, ht, Ft⟩ := Paired.getL F5.f ha
      refine ⟨a.t, _, rfl, SqT.of (sm _ _ Ft.t), rfl, _, _, rfl, _, _, rfl, _, _, rfl, rfl, rfl, _, rfl, _, rfl, _, rfl, a.d, _, rfl, .inl (sm _ _ Ft.d), fun d hd1 => ⟨(by show 3 ≤ sizeLine; decide), fun tt htt => ?_⟩⟩
      have q1 : Same H7 (upd H7 d (.dK (varKvs t.num a.ov))) := same_new hd1
      have q2 : Same (upd H7 d (.dK (varKvs t.num a.ov))) (upd (upd H7 d (.dK (varKvs t.num a.ov))) tt (.tup [.str (fnS t.fn), .int (t.at_ : Int), .ref d])) := same_new htt
      have g1 : (upd (upd H7 d (.dK (varKvs t.num a.ov))) tt (.tup [.str (fnS t.fn), .int (t.at_ : Int), .ref d])) d = some (.dK (varKvs t.num a.ov)) := q2 _ _ upd_same
      have g2 : (upd (upd H7 d (.dK (varKvs t.num a.ov))) tt (.tup [.str (fnS t.fn), .int (t.at_ : Int), .ref d])) tt = some (.tup [.str (fnS t.fn), .int (t.at_ : Int), .ref d]) := upd_same
      have q3 := q1.trans q2
      have ntt := q1.free htt
      generalize (upd (upd H7 d (.dK (varKvs t.num a.ov))) tt (.tup [.str (fnS t.fn), .int (t.at_ : Int), .ref d])) = H8 at q3 g1 g2
      have hd8 := q3 _ _ hd6
      have S8 : SFAt H8 ⟨tt, d, a.ov⟩ t := ⟨g2, g1, fun s => (Ft.o s).le (Le.of (sm.trans q3))⟩
      have up : ∀ {b : SF} {f : Fr}, SFAt H8 b f → SFAt (upd H8 L (.lst ((sg.map fun a => V.ref a.t) ++ [.ref tt]))) b f := fun {b f} h => ⟨by rw [upd_ne (ne_of h.t hd8 (by intro z; cases z))]; exact h.t, by rw [upd_ne (ne_of h.d hd8 (by intro z; cases z))]; exact h.d, fun s => (h.o s).tk (tk_upd fun xs z => by rw [hd8] at z; cases z)⟩
      refine ⟨_, hd8, ?_, sg ++ [⟨tt, d, a.ov⟩], ?_, ?_, ?_, ?_, fun b hb => ?_⟩
      · rw [List.length_map, Paired.len hp]
        exact lt_line (Nat.lt_of_le_of_lt (List.length_take_le i fs) (by have := Paired.len F5.f; have := ok.few; omega))
      · exact (sm.trans q3).put hL
      · rw [upd_same, List.map_append]; rfl
      · rw [take_snoc ht]
        exact Paired.snoc (Paired.mapP (sfs_same q3 hp) fun _ _ q => up q) (up S8)
      · rw [List.map_append]
        exact nd_snoc hnd (Paired.none hp (fun a b q => ⟨_, q.d⟩) hd1)
      · rcases List.mem_append.mp hb with q | q
        · exact hfr b q
        · rw [List.mem_singleton.mp q]; exact ⟨sm.free ntt, sm.free hd1⟩
    obtain ⟨sg, sm, hd6, hp, hnd, hfr⟩ := e
    rw [List.length_map, Paired.len F5.f, List.take_length] at hp
    have hx6 := sm _ _ q5
    have FR6 : FrsAt H6 L sg fs := ⟨hd6, hp, hnd⟩
    refine ⟨_, rfl, x, _, _, _, rfl, hx6, T.c_State, T.n_State_frame_rows, (by show 1 < 1000; decide), ?_⟩
    have q7 : (upd H6 x (.ins (He.ga K "State") dx (putF "frame_rows" (.ref L) [("source", .ref src)]))) x = some (.ins (He.ga K "State") dx [("source", .ref src), ("frame_rows", .ref L)]) := by rw [upd_same]; kernel_rfl
    have e7 : Same H0 (upd H6 x (.ins (He.ga K "State") dx (putF "frame_rows" (.ref L) [("source", .ref src)]))) := (e5.trans sm).put nx
    have FR7 := FR6.but hx6 (but_upd H6 x (.ins (He.ga K "State") dx (putF "frame_rows" (.ref L) [("source", .ref src)]))) (tk_ins hx6)
    generalize (upd H6 x (.ins (He.ga K "State") dx (putF "frame_rows" (.ref L) [("source", .ref src)]))) = H7 at q7 e7 FR7
    -- self.held_objects
    have O7 := O0.same e7
    refine ⟨_, rfl, hd, _, (List.range os.length).map (fun (j : Nat) => ((0 + j : Nat) : Int)), rfl, .inl O7.d, objK_fst os 0, by rw [List.length_map, List.length_range, Paired.len O7.o]; exact hob, fun ys q py sy nq => ?_⟩
    have ey : ys = upN os.length := by
      refine perm_le py sy ?_ |>.trans ?_
      · rw [List.pairwise_map]
        exact List.Pairwise.imp (fun h => by omega) List.pairwise_lt_range
      · unfold upN
        apply List.map_congr_left
        intro j _
        rw [Nat.zero_add]
    subst ey
    have s8 : Same H7 (upd H7 q (.lst ((upN os.length).map V.int))) := same_new nq
    have hq8 : (upd H7 q (.lst ((upN os.length).map V.int))) q = some (.lst ((upN os.length).map V.int)) := upd_same
    generalize (upd H7 q (.lst ((upN os.length).map V.int))) = H8 at s8 hq8
    have O8 := O7.same s8
    refine ⟨q, rfl, ⟨_, SqL.of hq8⟩, fun D8 hD8 => ?_⟩
    refine dc_it (walk_list (xs := (upN os.length).map V.int)) (fun i H' => ∃ os', ObsIv H8 D8 obs i os' H') ?_ (fun i H' _ e => ?_) (fun i v H9 Ha hi e y => ?_) (fun H9 e => ?_)
    · exact ⟨[], same_new hD8, upd_same, .nil, fun b hb => (by cases hb), List.nodup_nil, fun b hb => (by cases hb)⟩
    · obtain ⟨os', ov⟩ := e
      exact SqL.of (ov.e _ _ hq8)
    · obtain ⟨rfl, y⟩ := y
      obtain ⟨os', ov⟩ := e
      rw [List.length_map, upN, List.length_map, List.length_range] at hi
      obtain ⟨a, ha⟩ : ∃ a, os[i]? = some a := ⟨_, List.getElem?_eq_getElem hi⟩
      have yv : ((upN os.length).map V.int)[i]? = some (.int (i : Int)) := by
        rw [List.getElem?_map, upN, List.getElem?_map, List.getElem?_range hi]; rfl
      rw [yv] at y
      cases y
      obtain ⟨o, hoi, Oo⟩ := Paired.getL O8.o ha
      have hk := objK_at os 0 i a ha
      rw [Nat.zero_add] at hk
      have li := ov.len (Nat.le_of_lt (List.getElem?_eq_some_iff.mp hoi).1)
      have Oh := ov.e _ _ O8.d
      have Ot := ov.e _ _ Oo.t
      refine ⟨rfl, _, rfl, _, rfl, _, rfl, hd, .ref a.t, rfl, .inl ⟨_, Sum.inl (i : Int), .inl Oh, rfl, hk.symm⟩, a.t, _, 0, _, rfl, rfl, SqT.of Ot, rfl, _, rfl, _, rfl, hd, .ref a.t, rfl, .inl ⟨_, Sum.inl (i : Int), .inl Oh, rfl, hk.symm⟩, a.t, _, 1, _, rfl, rfl, SqT.of Ot, rfl, a.d, _, rfl, .inl (ov.e _ _ Oo.d), fun d hd1 => ⟨(by show 2 ≤ sizeLine; decide), fun tt htt => ?_⟩⟩
      have p2 : Same Ha (upd Ha d (.dK [(Sum.inr "item", .int o.item), (Sum.inr "next", a.nv)])) := same_new hd1
      have p3 : Same (upd Ha d (.dK [(Sum.inr "item", .int o.item), (Sum.inr "next", a.nv)])) (upd (upd Ha d (.dK [(Sum.inr "item", .int o.item), (Sum.inr "next", a.nv)])) tt (.tup [.str "cell", .ref d])) := same_new htt
      have g1 := p3 _ _ (upd_same (H := Ha) (a := d) (o := .dK [(Sum.inr "item", .int o.item), (Sum.inr "next", a.nv)]))
      have g2 : (upd (upd Ha d (.dK [(Sum.inr "item", .int o.item), (Sum.inr "next", a.nv)])) tt (.tup [.str "cell", .ref d])) tt = some (.tup [.str "cell", .ref d]) := upd_same
      have p4 := p2.trans p3
      generalize (upd (upd Ha d (.dK [(Sum.inr "item", .int o.item), (Sum.inr "next", a.nv)])) tt (.tup [.str "cell", .ref d])) = Hb at p4 g1 g2
      have Sb : ObAt Hb ⟨tt, d, a.nv⟩ o := ⟨g2, g1, Oo.n.le (Le.of (ov.e.trans p4))⟩
      have dD : d ≠ D8 := fun z => by
        have h1 := ov.d
        rw [z] at hd1
        rw [hd1] at h1
        cases h1
      exact ⟨_, Sum.inl (i : Int), rfl, p4 _ _ ov.d, by rw [objK_len, li]; exact lt_line (by have := Paired.len O8.o; omega), _, ov.step hD8 hoi p4 Sb dD hd1⟩
    obtain ⟨os', ov⟩ := e
    rw [List.length_map, upN, List.length_map, List.length_range, Paired.len O8.o] at ov
    have hx9 := ov.e _ _ (s8 _ _ q7)
    have hp9 := ov.p
    rw [List.take_length] at hp9
    have HP9 : HpAt H9 D8 os' obs := ⟨ov.d, hp9, ov.nd⟩
    have FR9 := (FR7.same s8).same ov.e
    refine ⟨_, rfl, x, _, _, _, rfl, hx9, T.c_State, T.n_State_held_objects, (by show 2 < 1000; decide), ?_⟩
    have bz := but_upd H9 x (.ins (He.ga K "State") dx (putF "held_objects" (.ref D8) [("source", .ref src), ("frame_rows", .ref L)]))
    have tz : Tk H9 (upd H9 x (.ins (He.ga K "State") dx (putF "held_objects" (.ref D8) [("source", .ref src), ("frame_rows", .ref L)]))) := tk_ins hx9
    have ez : Same H0 (upd H9 x (.ins (He.ga K "State") dx (putF "held_objects" (.ref D8) [("source", .ref src), ("frame_rows", .ref L)]))) := ((e7.trans s8).trans ov.e).put nx
    refine k _ ⟨dx, L, D8, sg, os', ?_, FR9.but hx9 bz tz, HP9.but hx9 bz tz⟩ ez
    rw [upd_same]; kernel_rfl
end
end K18
set_option Elab.async false
set_option linter.all false
set_option maxRecDepth 100000
set_option pp.deepTerms false
set_option pp.maxSteps 400
set_option maxHeartbeats 4000000
namespace K18
open PySem PySem.Spec PyProof.Rows L2
def lettersS : Str := "abcdefghijklmnopqrstuvwxyz"
def figuresS : Str := "0123456789"
def inS (j i : Str) : Bool := !(Builtin.Str.occurrences j i 0 j.length 1).isEmpty
def nameB (z : Str) : Bool := decide (1 ≤ z.length) && (decide (z.length ≤ 8) && ((match atI z.cps.toList 0 with | some c => inS lettersS ⟨#[c]⟩ | none => false) && z.cps.toList.all fun c => inS (lettersS ++ figuresS) ⟨#[c]⟩))
theorem nameB_by {z : Str} (h : nameB z = true) : 1 ≤ z.length ∧ z.length ≤ 8 ∧ (∃ c, atI z.cps.toList 0 = some c ∧ inS lettersS ⟨#[c]⟩ = true) ∧ ∀ (i : Nat) (c : Nat), z.cps[i]? = some c → inS (lettersS ++ figuresS) ⟨#[c]⟩ = true := by
  unfold nameB at h
  obtain ⟨h1, h2⟩ := He.ba h
  obtain ⟨h2, h3⟩ := He.ba h2
  obtain ⟨h3, h4⟩ := He.ba h3
  refine ⟨of_decide_eq_true h1, of_decide_eq_true h2, ?_, fun i c hc => ?_⟩
  · cases e : atI z.cps.toList 0 with
    | none => rw [e] at h3; cases h3
    | some c => rw [e] at h3; exact ⟨c, rfl, h3⟩
  · rw [List.all_eq_true] at h4
    exact h4 c (List.mem_of_getElem? (by rw [Array.getElem?_toList]; exact hc))
section
variable {P : Program} {w : World} {K : PySem.W.Frag} {mg : Str → Option Value} {base : Heap}
variable {H H' : Hp} {p src : Addr} {A : MA} {m : Mch} {G : Prg}
def spName : Sp := fun vs H Q _ => ∃ z : Str, vs = [.str z] ∧ nameB z = true ∧ Rt (.bl true) H Q
theorem sc_is_name : FnScope ["thing", "sign"] ["thing"] d_is_name.scope := ⟨rfl, rfl, rfl, by decide +kernel, rfl, by decide +kernel, by decide +kernel⟩
theorem k_is_name (T : Tx w K mg) : Ok P w K mg base 1 d_is_name ["thing"] spName := by
  refine Ok.of T.d_is_name sc_is_name (fun _ _ _ _ _ _ us hl => match us, hl with | [_], _ => rfl) (fun vs H Q E h => ?_) (fun cdv A outer s H vs Q E hr h => ?_)
  · obtain ⟨z, rfl, _⟩ := h
    rfl
  · obtain ⟨z, rfl, hz, k⟩ := h
    refine ⟨_, (pss_cons (ps_if (PW.pt (pw_or (pt_not (pt_val (pe_is T.b_isinstance T.b_str bt_str (pv 0)))) (pw_or (pt_not (pt_chain op_le op_le pe_int (pe_callB call_len_str (by rfl) T.b_len PySem.boot_len (pa_cons (pv 0) pa_nil)) (pe_gi T.i_MOST_LETTERS))) (pw_or1 (pt_cmpR op_notin_str (pe_ix ix_str (pv 0) pe_int (fun _ _ => rfl)) (pe_gs T.s_LETTERS) (by rfl)))))) (pss_one (ps_ret pe_bl)) pss_nil)
      (pss_one (ps_ret (pe_callB (cr_all rfl) (by rfl) T.b_all bt_all (pa_cons (pe_lc (own := [("sign", 1)]) (g := (gName 1)) (tt := tYes) (by rfl) sc_is_name.nd  (pi_str (pv 0)) (blkOk_by (own := [("sign", 1)]) (N := ["thing", "sign"]) (sc := d_is_name.scope) (by decide +kernel)) (fun _ _ _ _ _ => (pg_name (i := 1) sc_is_name.nd rfl (.inl rfl))) (fun _ _ _ _ _ => pts_nil) (fun _ _ _ _ _ => (pe_cmpR op_in_str (pv 1) (pe_op op_add_str (pe_gs T.s_LETTERS) (pe_gs T.s_FIGURES)) rfl))) pa_nil))))), ?_⟩
    obtain ⟨h1, h2, ⟨c, hc, hin⟩, hall⟩ := nameB_by hz
    have zl : z.length ≤ sizeLine := le_line (by omega)
    refine ⟨_, rfl, _, _, _, _, rfl, .base (.str _), by decide +kernel, true, rfl, iteF ?_⟩
    refine ⟨_, rfl, z, rfl, zl, _, _, rfl, rfl, _, rfl, ?_⟩
    refine ifB (decide_eq_true (by omega)) ?_
    refine ⟨_, _, rfl, rfl, _, rfl, ?_⟩
    refine ifBf (by rw [decide_eq_true (by omega : (z.length : Int) ≤ 8)]; rfl) ?_
    refine ⟨_, rfl, z, 0, c, rfl, rfl, zl, hc, _, _, rfl, rfl, _, rfl, ifBf ?_ ?_⟩
    · show (!(inS lettersS ⟨#[c]⟩)) = false
      rw [hin]; rfl
    refine ⟨_, rfl, z, rfl, fun D hD => ?_⟩
    refine lc_it walk_str (fun j H' => H' = upd H D (.lst ((List.replicate j true).map V.bl))) rfl (fun _ _ _ _ => trivial) (fun j x H1 H' hj e y => ?_) (fun H' e => ?_)
    · obtain ⟨rfl, c, hc, rfl⟩ := y
      subst e
      have hj8 : j < 8 := Nat.lt_of_lt_of_le hj h2
      refine ⟨rfl, _, rfl, lettersS, figuresS, rfl, rfl, (by show 36 ≤ sizeLine; decide), _, _, rfl, rfl, _, upd_same, ?_, ?_⟩
      · rw [List.length_map, List.length_replicate]
        exact lt_line (by omega)
      · rw [upd_upd, List.replicate_succ', List.map_append]
        show upd _ _ (HO.lst (_ ++ [V.bl (inS (lettersS ++ figuresS) ⟨#[c]⟩)])) = _
        rw [hall j c hc]; rfl
    subst e
    refine ⟨D, _, rfl, SqL.of upd_same, ?_⟩
    exact qb (by simp) (k _ (same_new hD))
/-! is_declared, are_declared -/
def kindsS : List Str := ["number", "object"]
def spDecl : Sp := fun vs H Q _ => ∃ (t : Addr) (n k : Str), vs = [.ref t] ∧ H t = some (.tup [.str n, .str k]) ∧ nameB n = true ∧ k ∈ kindsS ∧ Rt (.bl true) H Q
theorem sc_is_declared : FnScope ["thing"] ["thing"] d_is_declared.scope := ⟨rfl, rfl, rfl, by decide +kernel, rfl, by decide +kernel, by decide +kernel⟩
theorem k_is_declared (T : Tx w K mg) : Ok P w K mg base 2 d_is_declared ["thing"] spDecl := by
  refine Ok.of T.d_is_declared sc_is_declared (fun _ _ _ _ _ _ us hl => match us, hl with | [_], _ => rfl) (fun vs H Q E h => ?_) (fun cdv A outer s H vs Q E hr h => ?_)
  · obtain ⟨t, n, kd, rfl, _⟩ := h
    rfl
  · obtain ⟨t, n, kd, rfl, ht, hn, hk, k⟩ := h
    refine ⟨_, (pss_one (ps_ret (pe_and (pe_G (k_is_tuple T) (hr.mono (by decide)) T.g_is_tuple (pa_cons (pv 0) (pa_cons pe_int pa_nil))) (pe_and (pe_G (k_is_name T) (hr.mono (by decide)) T.g_is_name (pa_cons (pe_ix ix_tup (pv 0) pe_int (fun _ _ => rfl)) pa_nil)) (pe_one (pe_G (k_is_word T) (hr.mono (by decide)) T.g_is_word (pa_cons (pe_ix ix_tup (pv 0) pe_int (fun _ _ => rfl)) (pa_cons (pe_gr T.g_KINDS) pa_nil)))))))), ?_⟩
    refine ⟨_, rfl, t, _, 2, rfl, ht, _, rfl, ifD_t rfl ?_⟩
    refine ⟨_, rfl, t, _, 0, _, rfl, rfl, SqT.of ht, rfl, n, rfl, hn, fun H1 s1 => ⟨_, rfl, iteT ?_⟩⟩
    refine ⟨_, rfl, t, _, 1, _, rfl, rfl, SqT.of (s1 _ _ ht), rfl, kd, _, kindsS, rfl, T.kinds H1, ?_⟩
    exact qb (decide_eq_true hk) (k _ s1)
def spAreDecl : Sp := fun vs H Q _ => ∃ (a : Addr) (ds : List (Str × Str)) (lo hi : Int), vs = [.ref a, .int lo, .int hi] ∧ PairsAt H a ds ∧ (∀ d ∈ ds, nameB d.1 = true ∧ d.2 ∈ kindsS) ∧ (ds.map (·.1)).Nodup ∧ lo ≤ ds.length ∧ (ds.length : Int) ≤ hi ∧ ds.length < 1000 ∧ Rt (.bl true) H Q
theorem sc_are_declared : FnScope ["thing", "least", "most", "one"] ["thing", "least", "most"] d_are_declared.scope := ⟨rfl, rfl, rfl, by decide +kernel, rfl, by decide +kernel, by decide +kernel⟩
theorem k_are_declared (T : Tx w K mg) : Ok P w K mg base 3 d_are_declared ["thing", "least", "most"] spAreDecl := by
  refine Ok.of T.d_are_declared sc_are_declared (fun _ _ _ _ _ _ us hl => match us, hl with | [_, _, _], _ => rfl) (fun vs H Q E h => ?_) (fun cdv A outer s H vs Q E hr h => ?_)
  · obtain ⟨a, ds, lo, hi, rfl, _⟩ := h
    rfl
  · obtain ⟨a, ds, lo, hi, rfl, ⟨ts, ha, hp⟩, hok, hnd, hlo, hhi, hl, k⟩ := h
    refine ⟨_, (pss_cons (ps_if (PW.pt (pw_or (pt_not (pt_val (pe_G (k_is_list T) (hr.mono (by decide)) T.g_is_list (pa_cons (pv 0) (pa_cons (pv 1) (pa_cons (pv 2) pa_nil)))))) (pw_or1 (pt_not (pt_val (pe_callB (cr_all rfl) (by rfl) T.b_all bt_all (pa_cons (pe_lc (own := [("one", 3)]) (g := (gName 3)) (tt := tYes) (by rfl) sc_are_declared.nd  (pi_list (pv 0)) (blkOk_by (own := [("one", 3)]) (N := ["thing", "least", "most", "one"]) (sc := d_are_declared.scope) (by decide +kernel)) (fun _ _ _ _ _ => (pg_name (i := 3) sc_are_declared.nd rfl (.inl rfl))) (fun _ _ _ _ _ => pts_nil) (fun _ _ _ _ _ => (pe_G (k_is_declared T) (hr.mono (by decide)) T.g_is_declared (pa_cons (pv 3) pa_nil)))) pa_nil))))))) (pss_one (ps_ret pe_bl)) pss_nil)
      (pss_one (ps_ret (pe_cmpR op_eq (pe_callB call_lenD (by rfl) T.b_len PySem.boot_len (pa_cons (pe_dc (own := [("one", 3)]) (g := (gName 3)) (tt := tYes) (by rfl) sc_are_declared.nd  (pi_list (pv 0)) (blkOk_by (own := [("one", 3)]) (N := ["thing", "least", "most", "one"]) (sc := d_are_declared.scope) (by decide +kernel)) (fun _ _ _ _ _ => (pg_name (i := 3) sc_are_declared.nd rfl (.inl rfl))) (fun _ _ _ _ _ => pts_nil) (fun _ _ _ _ _ => (pe_ix (r := rIxT K) ix_tup (pv 3) pe_int (fun _ _ => rfl))) (fun _ _ _ _ _ => pe_bl)) pa_nil)) (pe_callB call_len_seq (by rfl) T.b_len PySem.boot_len (pa_cons (pv 0) pa_nil)) (nomark _))))), ?_⟩
    have hn : ts.length = ds.length := Paired.len hp
    refine ⟨_, rfl, _, rfl, _, rfl, a, _, lo, hi, rfl, ha, _, rfl, ifBf ?_ ?_⟩
    · rw [List.length_map, hn, decide_eq_true hlo, decide_eq_true hhi]; rfl
    refine ⟨_, rfl, a, rfl, ⟨_, SqL.of ha⟩, fun D hD => ?_⟩
    refine lc_it (walk_list (xs := ts.map V.ref)) (fun j H' => Same H H' ∧ H' D = some (.lst ((List.replicate j true).map V.bl))) ⟨same_new hD, upd_same⟩ (fun j H' _ e => SqL.of (e.1 _ _ ha)) (fun j x H1 H' hj e y => ?_) (fun H' e => ?_)
    · obtain ⟨sm, hd⟩ := e
      obtain ⟨rfl, y⟩ := y
      rw [List.length_map] at hj
      obtain ⟨t, ht⟩ : ∃ t, ts[j]? = some t := ⟨_, List.getElem?_eq_getElem hj⟩
      rw [List.getElem?_map, ht] at y
      cases y
      obtain ⟨d, hd', hT⟩ := Paired.getL hp ht
      have okd := hok d (List.mem_of_getElem? hd')
      refine ⟨rfl, _, rfl, t, d.1, d.2, rfl, sm _ _ hT, okd.1, okd.2, fun H2 s2 => ⟨_, s2 _ _ hd, ?_, (sm.trans s2).put hD, ?_⟩⟩
      · rw [List.length_map, List.length_replicate]
        exact lt_line (by omega)
      · rw [upd_same, List.replicate_succ', List.map_append]; rfl
    obtain ⟨sm, hd⟩ := e
    refine ⟨D, _, rfl, SqL.of hd, _, rfl, ifBf (by simp) ?_⟩
    -- different names
    refine ⟨_, rfl, a, rfl, ⟨_, SqL.of (sm _ _ ha)⟩, fun D2 hD2 => ?_⟩
    refine dc_it (walk_list (xs := ts.map V.ref)) (fun j H1 => H1 = upd H' D2 (.dK ((ds.take j).map fun d => (Sum.inr d.1, .bl true)))) rfl (fun j H1 _ e => by rw [e]; exact (same_new hD2).seq (SqL.of (sm _ _ ha))) (fun j x H1 H2 hj e y => ?_) (fun H1 e => ?_)
    · obtain ⟨rfl, y⟩ := y
      subst e
      rw [List.length_map] at hj
      obtain ⟨t, ht⟩ : ∃ t, ts[j]? = some t := ⟨_, List.getElem?_eq_getElem hj⟩
      rw [List.getElem?_map, ht] at y
      cases y
      obtain ⟨d, hd', hT⟩ := Paired.getL hp ht
      have hT2 := (same_new (o := .dK ((ds.take j).map fun d => ((Sum.inr d.1 : Key), V.bl true))) hD2) _ _ (sm _ _ hT)
      refine ⟨rfl, _, rfl, t, _, 0, _, rfl, rfl, SqT.of hT2, rfl, _, Sum.inr d.1, rfl, upd_same, ?_, ?_⟩
      · rw [List.length_map, List.length_take]
        exact lt_line (by omega)
      · rw [upd_upd, take_snoc hd', List.map_append, putK_new]
        · rfl
        · unfold valV
          rw [Option.map_eq_none_iff, List.find?_eq_none]
          intro q hq e
          obtain ⟨d', hd2, rfl⟩ := List.mem_map.mp hq
          obtain ⟨i, hi, ei⟩ := List.mem_iff_getElem.mp hd2
          rw [List.length_take] at hi
          rw [List.getElem_take] at ei
          have e1 : (ds.map (·.1))[i]? = some d.1 := by
            rw [List.getElem?_map, List.getElem?_eq_getElem (by omega), ei]
            exact congrArg some (Sum.inr.inj (of_decide_eq_true e))
          have e2 : (ds.map (·.1))[j]? = some d.1 := by rw [List.getElem?_map, hd']; rfl
          have := nd_ix hnd e1 e2
          omega
    subst e
    refine ⟨D2, _, rfl, upd_same, ?_⟩
    have sE := sm.trans (same_new (o := .dK ((ds.take (ts.map V.ref).length).map fun d => ((Sum.inr d.1 : Key), V.bl true))) hD2)
    refine ⟨_, rfl, a, _, rfl, .inl (SqL.of (sE _ _ ha)), rfl, qb (decide_eq_true ?_) (k _ sE)⟩
    rw [List.length_map, List.length_map, hn, List.take_length]
/-! is_class, is_head -/
theorem names_ok : nameB "a" = true ∧ nameB "o" = true ∧ nameB "b" = true ∧ nameB "c" = true ∧ nameB "p" = true ∧ nameB "item" = true ∧ nameB "next" = true ∧ nameB "cell" = true ∧ nameB "f" = true ∧ nameB "g" = true := by
  refine ⟨?_, ?_, ?_, ?_, ?_, ?_, ?_, ?_, ?_, ?_⟩ <;> kernel_rfl
theorem fnS_ok (b : Bool) : nameB (fnS b) = true := by
  cases b
  · exact names_ok.2.2.2.2.2.2.2.2.2
  · exact names_ok.2.2.2.2.2.2.2.2.1
theorem dIn_ok : ∀ d ∈ dIn, nameB d.1 = true ∧ d.2 ∈ kindsS := by
  obtain ⟨h1, h2, _⟩ := names_ok
  intro d hd
  rcases List.mem_cons.mp hd with rfl | hd
  · exact ⟨h1, List.mem_cons_self⟩
  · rw [List.mem_singleton.mp hd]; exact ⟨h2, List.mem_cons_of_mem _ List.mem_cons_self⟩
theorem dEx_ok : ∀ d ∈ dEx, nameB d.1 = true ∧ d.2 ∈ kindsS := by
  obtain ⟨_, _, h3, h4, h5, _⟩ := names_ok
  intro d hd
  rcases List.mem_cons.mp hd with rfl | hd
  · exact ⟨h3, List.mem_cons_self⟩
  · rcases List.mem_cons.mp hd with rfl | hd
    · exact ⟨h4, List.mem_cons_self⟩
    · rw [List.mem_singleton.mp hd]; exact ⟨h5, List.mem_cons_of_mem _ List.mem_cons_self⟩
theorem dFd_ok : ∀ d ∈ dFd, nameB d.1 = true ∧ d.2 ∈ kindsS := by
  obtain ⟨_, _, _, _, _, h6, h7, _⟩ := names_ok
  intro d hd
  rcases List.mem_cons.mp hd with rfl | hd
  · exact ⟨h6, List.mem_cons_self⟩
  · rw [List.mem_singleton.mp hd]; exact ⟨h7, List.mem_cons_of_mem _ List.mem_cons_self⟩
theorem dIn_nd : (dIn.map (·.1)).Nodup := by decide +kernel
theorem dEx_nd : (dEx.map (·.1)).Nodup := by decide +kernel
theorem dFd_nd : (dFd.map (·.1)).Nodup := by decide +kernel
def spIsClass : Sp := fun vs H Q _ => ∃ (t a : Addr), vs = [.ref t] ∧ H t = some (.tup [.str "cell", .ref a]) ∧ PairsAt H a dFd ∧ Rt (.bl true) H Q
theorem sc_is_class : FnScope ["thing"] ["thing"] d_is_class.scope := ⟨rfl, rfl, rfl, by decide +kernel, rfl, by decide +kernel, by decide +kernel⟩
theorem k_is_class (T : Tx w K mg) : Ok P w K mg base 4 d_is_class ["thing"] spIsClass := by
  refine Ok.of T.d_is_class sc_is_class (fun _ _ _ _ _ _ us hl => match us, hl with | [_], _ => rfl) (fun vs H Q E h => ?_) (fun cdv A outer s H vs Q E hr h => ?_)
  · obtain ⟨t, a, rfl, _⟩ := h
    rfl
  · obtain ⟨t, a, rfl, ht, ha, k⟩ := h
    refine ⟨_, (pss_one (ps_ret (pe_and (pe_G (k_is_tuple T) (hr.mono (by decide)) T.g_is_tuple (pa_cons (pv 0) (pa_cons pe_int pa_nil))) (pe_and (pe_G (k_is_name T) (hr.mono (by decide)) T.g_is_name (pa_cons (pe_ix ix_tup (pv 0) pe_int (fun _ _ => rfl)) pa_nil)) (pe_one (pe_G (k_are_declared T) (hr.mono (by decide)) T.g_are_declared (pa_cons (pe_ix ix_tup (pv 0) pe_int (fun _ _ => rfl)) (pa_cons pe_int (pa_cons (pe_gi T.i_MOST_FIELDS) pa_nil))))))))), ?_⟩
    refine ⟨_, rfl, t, _, 2, rfl, ht, _, rfl, ifD_t rfl ?_⟩
    refine ⟨_, rfl, t, _, 0, _, rfl, rfl, SqT.of ht, rfl, "cell", rfl, names_ok.2.2.2.2.2.2.2.1, fun H1 s1 => ⟨_, rfl, iteT ?_⟩⟩
    refine ⟨_, rfl, t, _, 1, _, rfl, rfl, SqT.of (s1 _ _ ht), rfl, a, dFd, 0, 4, rfl, ha.le (Le.of s1), dFd_ok, dFd_nd, by decide, by decide, by decide, fun H2 s2 => ?_⟩
    exact k _ (s1.trans s2)
def spIsHead : Sp := fun vs H Q _ => ∃ (t : Addr) (b : Bool) (i e rl : Addr) (rs : List V), vs = [.ref t] ∧ H t = some (.tup [.str (fnS b), .ref i, .ref e, .str "number", .ref rl]) ∧ PairsAt H i dIn ∧ PairsAt H e dEx ∧ H rl = some (.lst rs) ∧ 1 ≤ rs.length ∧ rs.length ≤ 40 ∧ Rt (.bl true) H Q
theorem sc_is_head : FnScope ["thing", "names", "one", "name"] ["thing"] d_is_head.scope := ⟨rfl, rfl, rfl, by decide +kernel, rfl, by decide +kernel, by decide +kernel⟩
theorem k_is_head (T : Tx w K mg) : Ok P w K mg base 4 d_is_head ["thing"] spIsHead := by
  refine Ok.of T.d_is_head sc_is_head (fun _ _ _ _ _ _ us hl => match us, hl with | [_], _ => rfl) (fun vs H Q E h => ?_) (fun cdv A outer s H vs Q E hr h => ?_)
  · obtain ⟨t, b, i, e, rl, rs, rfl, _⟩ := h
    rfl
  · obtain ⟨t, b, i, e, rl, rs, rfl, ht, hi, he, hrl, l1, l2, k⟩ := h
    refine ⟨_, (pss_cons (ps_if (PW.pt (pw_or (pt_not (pt_val (pe_G (k_is_tuple T) (hr.mono (by decide)) T.g_is_tuple (pa_cons (pv 0) (pa_cons pe_int pa_nil))))) (pw_or (pt_not (pt_val (pe_G (k_is_name T) (hr.mono (by decide)) T.g_is_name (pa_cons (pe_ix ix_tup (pv 0) pe_int (fun _ _ => rfl)) pa_nil)))) (pw_or1 (pt_not (pt_val (pe_G (k_is_word T) (hr.mono (by decide)) T.g_is_word (pa_cons (pe_ix ix_tup (pv 0) pe_int (fun _ _ => rfl)) (pa_cons (pe_gr T.g_KINDS) pa_nil))))))))) (pss_one (ps_ret pe_bl)) pss_nil)
      (pss_cons (ps_if (PW.pt (pw_or (pt_not (pt_val (pe_G (k_are_declared T) (hr.mono (by decide)) T.g_are_declared (pa_cons (pe_ix ix_tup (pv 0) pe_int (fun _ _ => rfl)) (pa_cons pe_int (pa_cons (pe_gi T.i_MOST_PARAMETERS) pa_nil)))))) (pw_or1 (pt_not (pt_val (pe_G (k_are_declared T) (hr.mono (by decide)) T.g_are_declared (pa_cons (pe_ix ix_tup (pv 0) pe_int (fun _ _ => rfl)) (pa_cons pe_int (pa_cons (pe_gi T.i_MOST_OTHERS) pa_nil))))))))) (pss_one (ps_ret pe_bl)) pss_nil)
      (pss_cons (ps_setLc (i := 1) (own := [("one", 2)]) (g := (gName 2)) (tt := tYes) (by rfl) sc_is_head.nd rfl rfl (sw_true rfl rfl rfl (by decide +kernel)) (pi_list (pe_op op_cat (pe_ix ix_tup (pv 0) pe_int (fun _ _ => rfl)) (pe_ix ix_tup (pv 0) pe_int (fun _ _ => rfl)))) (blkOk_by (own := [("one", 2)]) (N := ["thing", "names", "one", "name"]) (sc := d_is_head.scope) (by decide +kernel)) (fun _ _ _ _ _ => (pg_name (i := 2) sc_is_head.nd rfl (.inl rfl))) (fun _ _ _ _ _ => pts_nil) (fun _ _ _ _ _ => (pe_ix (r := rIxT K) ix_tup (pv 2) pe_int (fun _ _ => rfl))))
      (pss_one (ps_ret (pe_and (pe_cmpR op_eq (pe_callB call_lenD (by rfl) T.b_len PySem.boot_len (pa_cons (pe_dc (own := [("name", 3)]) (g := (gName 3)) (tt := tYes) (by rfl) sc_is_head.nd  (pi_list (pv 1)) (blkOk_by (own := [("name", 3)]) (N := ["thing", "names", "one", "name"]) (sc := d_is_head.scope) (by decide +kernel)) (fun _ _ _ _ _ => (pg_name (i := 3) sc_is_head.nd rfl (.inl rfl))) (fun _ _ _ _ _ => pts_nil) (fun _ _ _ _ _ => (pv 3)) (fun _ _ _ _ _ => pe_bl)) pa_nil)) (pe_callB call_len_seq (by rfl) T.b_len PySem.boot_len (pa_cons (pv 1) pa_nil)) (nomark _)) (pe_one (pe_G (k_is_list T) (hr.mono (by decide)) T.g_is_list (pa_cons (pe_ix ix_tup (pv 0) pe_int (fun _ _ => rfl)) (pa_cons pe_int (pa_cons (pe_gi T.i_MOST_ROWS_source) pa_nil))))))))))), ?_⟩
    refine ⟨_, rfl, t, _, 5, rfl, ht, _, rfl, ifBf rfl ?_⟩
    refine ⟨_, rfl, t, _, 0, _, rfl, rfl, SqT.of ht, rfl, fnS b, rfl, fnS_ok b, fun H1 s1 => ⟨true, rfl, iteF ?_⟩⟩
    refine ⟨_, rfl, t, _, 3, _, rfl, rfl, SqT.of (s1 _ _ ht), rfl, "number", _, kindsS, rfl, T.kinds H1, true, rfl, iteF ?_⟩
    refine ⟨_, rfl, t, _, 1, _, rfl, rfl, SqT.of (s1 _ _ ht), rfl, i, dIn, 0, 4, rfl, hi.le (Le.of s1), dIn_ok, dIn_nd, by decide, by decide, by decide, fun H2 s2 => ⟨true, rfl, iteF ?_⟩⟩
    have e2 := s1.trans s2
    refine ⟨_, rfl, t, _, 2, _, rfl, rfl, SqT.of (e2 _ _ ht), rfl, e, dEx, 0, 8, rfl, he.le (Le.of e2), dEx_ok, dEx_nd, by decide, by decide, by decide, fun H3 s3 => ⟨true, rfl, iteF ?_⟩⟩
    have e3 := e2.trans s3
    obtain ⟨ti, i1, i2⟩ := hi.le (Le.of e3)
    obtain ⟨te, j1, j2⟩ := he.le (Le.of e3)
    match ti, i2, te, j2 with
    | [a0, a1], .cons p0 (.cons p1 .nil), [b0, b1, b2], .cons q0 (.cons q1 (.cons q2 .nil)) =>
      refine ⟨_, rfl, t, _, 1, _, rfl, rfl, SqT.of (e3 _ _ ht), rfl, _, rfl, t, _, 2, _, rfl, rfl, SqT.of (e3 _ _ ht), rfl, i, e, _, _, rfl, rfl, i1, j1, (by show 5 ≤ sizeLine; decide), fun L hL => ?_⟩
      have s4 := same_new (o := .lst ([a0, a1].map V.ref ++ [b0, b1, b2].map V.ref)) hL
      have hL4 : (upd H3 L (.lst ([a0, a1].map V.ref ++ [b0, b1, b2].map V.ref))) L = some (.lst [.ref a0, .ref a1, .ref b0, .ref b1, .ref b2]) := upd_same
      generalize (upd H3 L (.lst ([a0, a1].map V.ref ++ [b0, b1, b2].map V.ref))) = H4 at s4 hL4
      refine ⟨L, rfl, ⟨_, SqL.of hL4⟩, fun D hD => ?_⟩
      refine lc_it (walk_list (xs := [.ref a0, .ref a1, .ref b0, .ref b1, .ref b2])) (fun j H' => H' = upd H4 D (.lst (([V.str "a", .str "o", .str "b", .str "c", .str "p"]).take j))) rfl (fun j H' _ e => by rw [e]; exact (same_new hD).seq (SqL.of hL4)) (fun j x H5 H' hj e y => ?_) (fun H5 e => ?_)
      · obtain ⟨rfl, y⟩ := y
        subst e
        have sn : Same H3 (upd H4 D (.lst (([V.str "a", .str "o", .str "b", .str "c", .str "p"]).take j))) := s4.trans (same_new hD)
        match j, hj with
        | 0, _ => cases y; exact ⟨rfl, _, rfl, a0, _, 0, _, rfl, rfl, SqT.of (sn _ _ p0), rfl, _, upd_same, (by show 0 < sizeLine; decide), by rw [upd_upd]; rfl⟩
        | 1, _ => cases y; exact ⟨rfl, _, rfl, a1, _, 0, _, rfl, rfl, SqT.of (sn _ _ p1), rfl, _, upd_same, (by show 1 < sizeLine; decide), by rw [upd_upd]; rfl⟩
        | 2, _ => cases y; exact ⟨rfl, _, rfl, b0, _, 0, _, rfl, rfl, SqT.of (sn _ _ q0), rfl, _, upd_same, (by show 2 < sizeLine; decide), by rw [upd_upd]; rfl⟩
        | 3, _ => cases y; exact ⟨rfl, _, rfl, b1, _, 0, _, rfl, rfl, SqT.of (sn _ _ q1), rfl, _, upd_same, (by show 3 < sizeLine; decide), by rw [upd_upd]; rfl⟩
        | 4, _ => cases y; exact ⟨rfl, _, rfl, b2, _, 0, _, rfl, rfl, SqT.of (sn _ _ q2), rfl, _, upd_same, (by show 4 < sizeLine; decide), by rw [upd_upd]; rfl⟩
        | j + 5, h => exact absurd h (by simp)
      subst e
      have s5 : Same H4 (upd H4 D (.lst (([V.str "a", .str "o", .str "b", .str "c", .str "p"]).take [V.ref a0, V.ref a1, V.ref b0, V.ref b1, V.ref b2].length))) := same_new hD
      have hD5 : (upd H4 D (.lst (([V.str "a", .str "o", .str "b", .str "c", .str "p"]).take [V.ref a0, V.ref a1, V.ref b0, V.ref b1, V.ref b2].length))) D = some (.lst [V.str "a", .str "o", .str "b", .str "c", .str "p"]) := upd_same
      generalize (upd H4 D (.lst (([V.str "a", .str "o", .str "b", .str "c", .str "p"]).take [V.ref a0, V.ref a1, V.ref b0, V.ref b1, V.ref b2].length))) = H5 at s5 hD5
      refine ⟨_, rfl, D, rfl, ⟨_, SqL.of hD5⟩, fun D2 hD2 => ?_⟩
      refine dc_it (walk_list (xs := [V.str "a", .str "o", .str "b", .str "c", .str "p"])) (fun j H' => H' = upd H5 D2 (.dK (([((Sum.inr "a" : Key), V.bl true), (Sum.inr "o", .bl true), (Sum.inr "b", .bl true), (Sum.inr "c", .bl true), (Sum.inr "p", .bl true)]).take j))) rfl (fun j H' _ e => by rw [e]; exact (same_new hD2).seq (SqL.of hD5)) (fun j x H6 H' hj e y => ?_) (fun H6 e => ?_)
      · obtain ⟨rfl, y⟩ := y
        subst e
        match j, hj with
        | 0, _ => cases y; exact ⟨rfl, _, rfl, _, Sum.inr "a", rfl, upd_same, (by show 0 < sizeLine; decide), by rw [upd_upd]; exact congrArg (fun q => upd H5 D2 (.dK q)) (by kernel_rfl)⟩
        | 1, _ => cases y; exact ⟨rfl, _, rfl, _, Sum.inr "o", rfl, upd_same, (by show 1 < sizeLine; decide), by rw [upd_upd]; exact congrArg (fun q => upd H5 D2 (.dK q)) (by kernel_rfl)⟩
        | 2, _ => cases y; exact ⟨rfl, _, rfl, _, Sum.inr "b", rfl, upd_same, (by show 2 < sizeLine; decide), by rw [upd_upd]; exact congrArg (fun q => upd H5 D2 (.dK q)) (by kernel_rfl)⟩
        | 3, _ => cases y; exact ⟨rfl, _, rfl, _, Sum.inr "c", rfl, upd_same, (by show 3 < sizeLine; decide), by rw [upd_upd]; exact congrArg (fun q => upd H5 D2 (.dK q)) (by kernel_rfl)⟩
        | 4, _ => cases y; exact ⟨rfl, _, rfl, _, Sum.inr "p", rfl, upd_same, (by show 4 < sizeLine; decide), by rw [upd_upd]; exact congrArg (fun q => upd H5 D2 (.dK q)) (by kernel_rfl)⟩
        | j + 5, h => exact absurd h (by simp)
      subst e
      have s6 := same_new (o := .dK (([((Sum.inr "a" : Key), V.bl true), (Sum.inr "o", .bl true), (Sum.inr "b", .bl true), (Sum.inr "c", .bl true), (Sum.inr "p", .bl true)]).take [V.str "a", V.str "o", V.str "b", V.str "c", V.str "p"].length)) hD2
      have sE := ((e3.trans s4).trans s5).trans s6
      refine ⟨D2, _, rfl, upd_same, _, rfl, D, _, rfl, .inl (SqL.of (s6 _ _ hD5)), rfl, true, rfl, iteT ?_⟩
      refine ⟨_, rfl, t, _, 4, _, rfl, rfl, SqT.of (sE _ _ ht), rfl, rl, rs, 1, 40, rfl, sE _ _ hrl, ?_⟩
      exact qb (by rw [decide_eq_true (by omega : (1 : Int) ≤ rs.length), decide_eq_true (by omega : (rs.length : Int) ≤ 40)]; rfl) (k _ sE)
end
end K18
set_option Elab.async false
set_option linter.all false
set_option maxRecDepth 100000
set_option pp.deepTerms false
set_option pp.maxSteps 400
set_option maxHeartbeats 4000000
namespace K18
open PySem PySem.Spec PyProof.Rows L2
theorem call_tuple_ofK {X : Cx} (K : PySem.W.Frag) (hK : X.K = K) : CallR X (.type "tuple") (fun xs H Q => ∃ p ys, xs = [.ref p] ∧ ((SqL K H p ys ∧ ∀ l, H l = none → Q (.ref l) (upd H l (.tup ys))) ∨ (SqT K H p ys ∧ Q (.ref p) H))) := by
  subst hK
  exact call_tuple_of
section
variable {P : Program} {w : World} {K : PySem.W.Frag} {mg : Str → Option Value} {base : Heap}
variable {H H' : Hp} {p src : Addr} {A : MA} {m : Mch} {G : Prg}
/-! frozen -/
theorem parts_flat (r : Row) (hc : ∀ x y s, r ≠ .call x y s) (q : V) (i : Nat) (v : V) (h : (r.parts q)[i]? = some v) : (∃ z, v = .str z) ∨ ∃ n, v = .int n := by
  have e := List.mem_of_getElem? h
  cases r with
  | call x y s => exact absurd rfl (hc x y s)
  | _ =>
    simp only [Row.parts, List.mem_cons, List.not_mem_nil, or_false] at e
    first
      | (rcases e with rfl | rfl | rfl | rfl <;> first | exact .inl ⟨_, rfl⟩ | exact .inr ⟨_, rfl⟩)
      | (rcases e with rfl | rfl | rfl <;> first | exact .inl ⟨_, rfl⟩ | exact .inr ⟨_, rfl⟩)
      | (rcases e with rfl | rfl <;> first | exact .inl ⟨_, rfl⟩ | exact .inr ⟨_, rfl⟩)
theorem parts_len (r : Row) (q : V) : (r.parts q).length ≤ 4 := by cases r <;> simp [Row.parts]
def spFrozen : Sp := fun vs H Q _ => ∃ (t : Addr) (r : Row), vs = [.ref t] ∧ RowAt true H t r ∧ ∀ H' t', Same H H' → RowAt false H' t' r → Q (.ref t') H'
theorem sc_frozen : FnScope ["row", "part"] ["row"] d_frozen.scope := ⟨rfl, rfl, rfl, by decide +kernel, rfl, by decide +kernel, by decide +kernel⟩
theorem k_frozen (T : Tx w K mg) : Ok P w K mg base 1 d_frozen ["row"] spFrozen := by
  refine Ok.of T.d_frozen sc_frozen (fun _ _ _ _ _ _ us hl => match us, hl with | [_], _ => rfl) (fun vs H Q E h => ?_) (fun cdv A outer s H vs Q E hr h => ?_)
  · obtain ⟨t, r, rfl, _⟩ := h
    rfl
  · obtain ⟨t, r, rfl, hr0, k⟩ := h
    refine ⟨_, (pss_cons (ps_if (pt_not (pt_val (pe_is T.b_isinstance T.b_tuple bt_tuple (pv 0)))) (pss_one (ps_ret (pv 0))) pss_nil)
      (pss_one (ps_ret (pe_callTy call_tuple_of (by rfl) T.b_tuple bt_tuple (pa_cons (pe_lc (own := [("part", 1)]) (g := (gName 1)) (tt := tYes) (by rfl) sc_frozen.nd  (pi_tup (pv 0)) (blkOk_by (own := [("part", 1)]) (N := ["row", "part"]) (sc := d_frozen.scope) (by decide +kernel)) (fun _ _ _ _ _ => (pg_name (i := 1) sc_frozen.nd rfl (.inl rfl))) (fun _ _ _ _ _ => pts_nil) (fun _ _ _ _ _ => (pe_ifExp (pt_val (pe_isK K rfl T.b_isinstance T.b_list bt_list (pv 1))) (pe_callTy (call_tuple_ofK K rfl) (by rfl) T.b_tuple bt_tuple (pa_cons (pv 1) pa_nil)) (pv 1)))) pa_nil))))), ?_⟩
    obtain ⟨q, hr1, hq⟩ := hr0
    refine ⟨_, rfl, _, _, _, _, rfl, .base (.tup hr1), by decide +kernel, true, rfl, iteF ?_⟩
    refine ⟨_, rfl, t, rfl, ⟨_, SqT.of hr1⟩, fun D hD => ?_⟩
    by_cases hc : ∃ x y s, r = .call x y s
    · obtain ⟨x, y, s, rfl⟩ := hc
      obtain ⟨qa, rfl, hqa⟩ := hq
      refine lc_it (walk_tup (xs := Row.parts (.ref qa) (.call x y s))) (fun j H' => Same H H' ∧ match j with
        | 0 => H' D = some (.lst [])
        | 1 => H' D = some (.lst [.str "call"])
        | 2 => H' D = some (.lst [.str "call", .str x.s])
        | 3 => H' D = some (.lst [.str "call", .str x.s, .str "f"])
        | _ => ∃ qt, H' D = some (.lst [.str "call", .str x.s, .str "f", .ref qt]) ∧ H' qt = some (.tup [.str y.s, .str s.s])) ⟨same_new hD, upd_same⟩ (fun j H' _ e => SqT.of (e.1 _ _ hr1)) (fun j v H1 H' hj e yy => ?_) (fun H' e => ?_)
      · obtain ⟨sm, e⟩ := e
        obtain ⟨rfl, yy⟩ := yy
        match j, hj with
        | 0, _ => cases yy; exact ⟨rfl, _, rfl, _, _, _, _, rfl, .base (.str _), by decide +kernel, false, rfl, iteF ⟨_, rfl, [], e, (by show 0 < sizeLine; decide), sm.put hD, upd_same⟩⟩
        | 1, _ => cases yy; exact ⟨rfl, _, rfl, _, _, _, _, rfl, .base (.str _), by decide +kernel, false, rfl, iteF ⟨_, rfl, _, e, (by show 1 < sizeLine; decide), sm.put hD, upd_same⟩⟩
        | 2, _ => cases yy; exact ⟨rfl, _, rfl, _, _, _, _, rfl, .base (.str _), by decide +kernel, false, rfl, iteF ⟨_, rfl, _, e, (by show 2 < sizeLine; decide), sm.put hD, upd_same⟩⟩
        | 3, _ =>
          cases yy
          refine ⟨rfl, _, rfl, _, _, _, _, rfl, .base (.lst (sm _ _ hqa)), by decide +kernel, true, rfl, iteT ⟨_, rfl, qa, _, rfl, .inl ⟨SqL.of (sm _ _ hqa), fun qt hqt => ?_⟩⟩⟩
          have e3 : H' D = some (.lst [.str "call", .str x.s, .str "f"]) := e
          have Dq : D ≠ qt := ne_of_none e3 hqt
          refine ⟨[.str "call", .str x.s, .str "f"], by rw [upd_ne Dq]; exact e3, (by show 3 < sizeLine; decide), (sm.trans (same_new hqt)).put hD, qt, upd_same, by rw [upd_ne (Ne.symm Dq)]; exact upd_same⟩
        | j + 4, h => exact absurd h (by show ¬ (j + 4 < 4); omega)
      · obtain ⟨sm, qt, e, hqt⟩ := e
        refine ⟨D, _, rfl, .inl ⟨SqL.of e, fun t' ht' => k _ t' (sm.trans (same_new ht')) ⟨.ref qt, upd_same, qt, rfl, ?_⟩⟩⟩
        exact (same_new ht') _ _ hqt
    · have nc : ∀ x y s, r ≠ .call x y s := fun x y s e => hc ⟨x, y, s, e⟩
      have hq0 : q = .non := by cases r <;> first | exact hq | exact absurd rfl (nc _ _ _)
      subst hq0
      have hl := parts_len r .non
      refine lc_it (walk_tup (xs := r.parts .non)) (fun j H' => H' = upd H D (.lst ((r.parts .non).take j))) rfl (fun j H' _ e => by rw [e]; exact SqT.of (same_new hD _ _ hr1)) (fun j v H1 H' hj e yy => ?_) (fun H' e => ?_)
      · obtain ⟨rfl, yy⟩ := yy
        subst e
        have hlen : ((r.parts .non).take j).length < sizeLine := by
          rw [List.length_take]
          exact lt_line (by omega)
        rcases parts_flat r nc .non j v yy with ⟨z, rfl⟩ | ⟨z, rfl⟩
        · exact ⟨rfl, _, rfl, _, _, _, _, rfl, .base (.str _), by decide +kernel, false, rfl, iteF ⟨_, rfl, _, upd_same, hlen, by rw [upd_upd, take_snoc yy]⟩⟩
        · exact ⟨rfl, _, rfl, _, _, _, _, rfl, .base (.int _), by decide +kernel, false, rfl, iteF ⟨_, rfl, _, upd_same, hlen, by rw [upd_upd, take_snoc yy]⟩⟩
      · subst e
        rw [List.take_length]
        refine ⟨D, _, rfl, .inl ⟨SqL.of upd_same, fun t' ht' => k _ t' ((same_new hD).trans (same_new ht')) ⟨.non, upd_same, ?_⟩⟩⟩
        cases r <;> first | rfl | exact absurd rfl (nc _ _ _)
/-! Function.__init__ -/
def spFInit (K : PySem.W.Frag) : Sp := fun vs H Q _ => ∃ (H0 : Hp) (x dx : Addr) (b : Bool) (i e rl : Addr) (rs : List Addr) (rows : List Row), vs = [.ref x, .str (fnS b), .ref i, .ref e, .str "number", .ref rl] ∧ H x = some (.ins (He.ga K "Function") dx []) ∧ Same H0 H ∧ H0 x = none ∧
  PairsAt H0 i dIn ∧ PairsAt H0 e dEx ∧ H0 rl = some (.lst (rs.map V.ref)) ∧ Paired (RowAt true H0) rs rows ∧ rows.length ≤ 40 ∧ ∀ H', FunAt K H' x b rows → Same H0 H' → Q .non H'
theorem sc_Function_init : FnScope ["self", "title", "inputs", "extras", "result_kind", "rows", "row"] ["self", "title", "inputs", "extras", "result_kind", "rows"] d_Function_init.scope := ⟨rfl, rfl, rfl, by decide +kernel, rfl, by decide +kernel, by decide +kernel⟩
theorem k_Function_init (T : Tx w K mg) : Ok P w K mg base 2 d_Function_init ["self", "title", "inputs", "extras", "result_kind", "rows"] (spFInit K) := by
  refine Ok.of T.d_Function_init sc_Function_init (fun _ _ _ _ _ _ us hl => match us, hl with | [_, _, _, _, _, _], _ => rfl) (fun vs H Q E h => ?_) (fun cdv A outer s H vs Q E hr h => ?_)
  · obtain ⟨H0, x, dx, b, i, e, rl, rs, rows, rfl, _⟩ := h
    rfl
  · obtain ⟨H0, x, dx, b, i, e, rl, rs, rows, rfl, hx, e0, nx, hi, he, hrl, hrows, hl, k⟩ := h
    refine ⟨_, (pss_cons (ps_fld (pv 0) (pv 1) rfl)
      (pss_cons (ps_fld (pv 0) (pe_callTy call_list_of (by rfl) T.b_list bt_list (pa_cons (pv 2) pa_nil)) rfl)
      (pss_cons (ps_fld (pv 0) (pe_callTy call_list_of (by rfl) T.b_list bt_list (pa_cons (pv 3) pa_nil)) rfl)
      (pss_cons (ps_fld (pv 0) (pe_callTy (call_dictP rfl) (by rfl) T.b_dict bt_dict (pa_cons (pe_op op_cat (pv 2) (pv 3)) pa_nil)) rfl)
      (pss_cons (ps_fld (pv 0) (pv 4) rfl)
      (pss_one (ps_fld (pv 0) (pe_lc (own := [("row", 6)]) (g := (gName 6)) (tt := tYes) (by rfl) sc_Function_init.nd  (pi_list (pv 5)) (blkOk_by (own := [("row", 6)]) (N := ["self", "title", "inputs", "extras", "result_kind", "rows", "row"]) (sc := d_Function_init.scope) (by decide +kernel)) (fun _ _ _ _ _ => (pg_name (i := 6) sc_Function_init.nd rfl (.inl rfl))) (fun _ _ _ _ _ => pts_nil) (fun _ _ _ _ _ => (pe_G (k_frozen T) (hr.mono (by decide)) T.g_frozen (pa_cons (pv 6) pa_nil)))) rfl))))))), ?_⟩
    refine ⟨_, rfl, _, rfl, x, _, _, _, rfl, hx, T.c_Function, T.n_Function_title, (by show 0 < 1000; decide), ?_⟩
    have q1 : (upd H x (.ins (He.ga K "Function") dx (putF "title" (.str (fnS b)) []))) x = some (.ins (He.ga K "Function") dx [("title", .str (fnS b))]) := upd_same
    have e1 : Same H0 (upd H x (.ins (He.ga K "Function") dx (putF "title" (.str (fnS b)) []))) := e0.put nx
    generalize (upd H x (.ins (He.ga K "Function") dx (putF "title" (.str (fnS b)) []))) = H1 at q1 e1
    obtain ⟨ti, i1, i2⟩ := hi
    obtain ⟨te, j1, j2⟩ := he
    refine ⟨_, rfl, i, _, rfl, .inl (SqL.of (e1 _ _ i1)), fun a1 n1 => ?_⟩
    have x1 : x ≠ a1 := ne_of_none q1 n1
    refine ⟨_, rfl, x, _, _, _, rfl, (by rw [upd_ne x1]; exact q1), T.c_Function, T.n_Function_inputs, (by show 1 < 1000; decide), ?_⟩
    have q2 : (upd (upd H1 a1 (.lst (ti.map V.ref))) x (.ins (He.ga K "Function") dx (putF "inputs" (.ref a1) [("title", .str (fnS b))]))) x = some (.ins (He.ga K "Function") dx [("title", .str (fnS b)), ("inputs", .ref a1)]) := by rw [upd_same]; kernel_rfl
    have e2 : Same H0 (upd (upd H1 a1 (.lst (ti.map V.ref))) x (.ins (He.ga K "Function") dx (putF "inputs" (.ref a1) [("title", .str (fnS b))]))) := (e1.put (e1.free n1)).put nx
    have u2 : (upd (upd H1 a1 (.lst (ti.map V.ref))) x (.ins (He.ga K "Function") dx (putF "inputs" (.ref a1) [("title", .str (fnS b))]))) a1 = some (.lst (ti.map V.ref)) := by rw [upd_ne (Ne.symm x1)]; exact upd_same
    generalize (upd (upd H1 a1 (.lst (ti.map V.ref))) x (.ins (He.ga K "Function") dx (putF "inputs" (.ref a1) [("title", .str (fnS b))]))) = H2 at q2 e2 u2
    refine ⟨_, rfl, e, _, rfl, .inl (SqL.of (e2 _ _ j1)), fun a2 n2 => ?_⟩
    have x2 : x ≠ a2 := ne_of_none q2 n2
    have a12 : a1 ≠ a2 := ne_of_none u2 n2
    refine ⟨_, rfl, x, _, _, _, rfl, (by rw [upd_ne x2]; exact q2), T.c_Function, T.n_Function_extras, (by show 2 < 1000; decide), ?_⟩
    have q3 : (upd (upd H2 a2 (.lst (te.map V.ref))) x (.ins (He.ga K "Function") dx (putF "extras" (.ref a2) [("title", .str (fnS b)), ("inputs", .ref a1)]))) x = some (.ins (He.ga K "Function") dx [("title", .str (fnS b)), ("inputs", .ref a1), ("extras", .ref a2)]) := by rw [upd_same]; kernel_rfl
    have e3 : Same H0 (upd (upd H2 a2 (.lst (te.map V.ref))) x (.ins (He.ga K "Function") dx (putF "extras" (.ref a2) [("title", .str (fnS b)), ("inputs", .ref a1)]))) := (e2.put (e2.free n2)).put nx
    have u3 : (upd (upd H2 a2 (.lst (te.map V.ref))) x (.ins (He.ga K "Function") dx (putF "extras" (.ref a2) [("title", .str (fnS b)), ("inputs", .ref a1)]))) a1 = some (.lst (ti.map V.ref)) := by rw [upd_ne (Ne.symm x1), upd_ne a12]; exact u2
    have w3 : (upd (upd H2 a2 (.lst (te.map V.ref))) x (.ins (He.ga K "Function") dx (putF "extras" (.ref a2) [("title", .str (fnS b)), ("inputs", .ref a1)]))) a2 = some (.lst (te.map V.ref)) := by rw [upd_ne (Ne.symm x2)]; exact upd_same
    generalize (upd (upd H2 a2 (.lst (te.map V.ref))) x (.ins (He.ga K "Function") dx (putF "extras" (.ref a2) [("title", .str (fnS b)), ("inputs", .ref a1)]))) = H3 at q3 e3 u3 w3
    match ti, i2, te, j2 with
    | [a0, a1'], .cons p0 (.cons p1 .nil), [b0, b1, b2], .cons r0 (.cons r1 (.cons r2 .nil)) =>
      -- kind_of
      refine ⟨_, rfl, _, rfl, i, e, _, _, rfl, rfl, e3 _ _ i1, e3 _ _ j1, (by show 5 ≤ sizeLine; decide), fun c hc => ?_⟩
      have s4 := e3.trans (same_new (o := .lst ([a0, a1'].map V.ref ++ [b0, b1, b2].map V.ref)) hc)
      refine ⟨c, [a0, a1', b0, b1, b2], [(Sum.inr "a", .str "number"), (Sum.inr "o", .str "object"), (Sum.inr "b", .str "number"), (Sum.inr "c", .str "number"), (Sum.inr "p", .str "object")], rfl, SqL.of upd_same, .cons (SqT.of (s4 _ _ p0)) (.cons (SqT.of (s4 _ _ p1)) (.cons (SqT.of (s4 _ _ r0)) (.cons (SqT.of (s4 _ _ r1)) (.cons (SqT.of (s4 _ _ r2)) .nil)))), fun kd hkd => ?_⟩
      have q4 := (same_new (o := .lst ([a0, a1'].map V.ref ++ [b0, b1, b2].map V.ref)) hc) _ _ q3
      have xkd : x ≠ kd := ne_of_none q4 hkd
      have hm : mergeK [] [((Sum.inr "a" : Key), V.str "number"), (Sum.inr "o", .str "object"), (Sum.inr "b", .str "number"), (Sum.inr "c", .str "number"), (Sum.inr "p", .str "object")] = kindKvs := by kernel_rfl
      rw [hm]
      refine ⟨_, rfl, x, _, _, _, rfl, (by rw [upd_ne xkd]; exact q4), T.c_Function, T.n_Function_kind_of, (by show 3 < 1000; decide), ?_⟩
      have xc : x ≠ c := ne_of_none q3 hc
      have hck : kd ≠ c := fun z => by rw [z, upd_same] at hkd; cases hkd
      have u4 := (same_new (o := .lst ([a0, a1'].map V.ref ++ [b0, b1, b2].map V.ref)) hc) _ _ u3
      have v4 : (upd H3 c (.lst ([a0, a1'].map V.ref ++ [b0, b1, b2].map V.ref))) a2 = some (.lst ([b0, b1, b2].map V.ref)) := (same_new (o := .lst ([a0, a1'].map V.ref ++ [b0, b1, b2].map V.ref)) hc) _ _ w3
      generalize (upd H3 c (.lst ([a0, a1'].map V.ref ++ [b0, b1, b2].map V.ref))) = H4 at s4 q4 hkd u4 v4
      have a1k : a1 ≠ kd := ne_of_none u4 hkd
      have a2k : a2 ≠ kd := ne_of_none v4 hkd
      have q5 : (upd (upd H4 kd (.dK kindKvs)) x (.ins (He.ga K "Function") dx (putF "kind_of" (.ref kd) [("title", .str (fnS b)), ("inputs", .ref a1), ("extras", .ref a2)]))) x = some (.ins (He.ga K "Function") dx [("title", .str (fnS b)), ("inputs", .ref a1), ("extras", .ref a2), ("kind_of", .ref kd)]) := by rw [upd_same]; kernel_rfl
      have e5 : Same H0 (upd (upd H4 kd (.dK kindKvs)) x (.ins (He.ga K "Function") dx (putF "kind_of" (.ref kd) [("title", .str (fnS b)), ("inputs", .ref a1), ("extras", .ref a2)]))) := (s4.put (s4.free hkd)).put nx
      have u5 : (upd (upd H4 kd (.dK kindKvs)) x (.ins (He.ga K "Function") dx (putF "kind_of" (.ref kd) [("title", .str (fnS b)), ("inputs", .ref a1), ("extras", .ref a2)]))) a1 = some (.lst ([a0, a1'].map V.ref)) := by rw [upd_ne (Ne.symm x1), upd_ne a1k]; exact u4
      have v5 : (upd (upd H4 kd (.dK kindKvs)) x (.ins (He.ga K "Function") dx (putF "kind_of" (.ref kd) [("title", .str (fnS b)), ("inputs", .ref a1), ("extras", .ref a2)]))) a2 = some (.lst ([b0, b1, b2].map V.ref)) := by rw [upd_ne (Ne.symm x2), upd_ne a2k]; exact v4
      have k5 : (upd (upd H4 kd (.dK kindKvs)) x (.ins (He.ga K "Function") dx (putF "kind_of" (.ref kd) [("title", .str (fnS b)), ("inputs", .ref a1), ("extras", .ref a2)]))) kd = some (.dK kindKvs) := by rw [upd_ne (Ne.symm xkd)]; exact upd_same
      generalize (upd (upd H4 kd (.dK kindKvs)) x (.ins (He.ga K "Function") dx (putF "kind_of" (.ref kd) [("title", .str (fnS b)), ("inputs", .ref a1), ("extras", .ref a2)]))) = H5 at q5 e5 u5 v5 k5
      -- result_kind
      refine ⟨_, rfl, _, rfl, x, _, _, _, rfl, q5, T.c_Function, T.n_Function_result_kind, (by show 4 < 1000; decide), ?_⟩
      have q6 : (upd H5 x (.ins (He.ga K "Function") dx (putF "result_kind" (.str "number") [("title", .str (fnS b)), ("inputs", .ref a1), ("extras", .ref a2), ("kind_of", .ref kd)]))) x = some (.ins (He.ga K "Function") dx [("title", .str (fnS b)), ("inputs", .ref a1), ("extras", .ref a2), ("kind_of", .ref kd), ("result_kind", .str "number")]) := by rw [upd_same]; kernel_rfl
      have e6 : Same H0 (upd H5 x (.ins (He.ga K "Function") dx (putF "result_kind" (.str "number") [("title", .str (fnS b)), ("inputs", .ref a1), ("extras", .ref a2), ("kind_of", .ref kd)]))) := e5.put nx
      have u6 : (upd H5 x (.ins (He.ga K "Function") dx (putF "result_kind" (.str "number") [("title", .str (fnS b)), ("inputs", .ref a1), ("extras", .ref a2), ("kind_of", .ref kd)]))) a1 = some (.lst ([a0, a1'].map V.ref)) := by rw [upd_ne (Ne.symm x1)]; exact u5
      have v6 : (upd H5 x (.ins (He.ga K "Function") dx (putF "result_kind" (.str "number") [("title", .str (fnS b)), ("inputs", .ref a1), ("extras", .ref a2), ("kind_of", .ref kd)]))) a2 = some (.lst ([b0, b1, b2].map V.ref)) := by rw [upd_ne (Ne.symm x2)]; exact v5
      have k6 : (upd H5 x (.ins (He.ga K "Function") dx (putF "result_kind" (.str "number") [("title", .str (fnS b)), ("inputs", .ref a1), ("extras", .ref a2), ("kind_of", .ref kd)]))) kd = some (.dK kindKvs) := by rw [upd_ne (Ne.symm xkd)]; exact k5
      generalize (upd H5 x (.ins (He.ga K "Function") dx (putF "result_kind" (.str "number") [("title", .str (fnS b)), ("inputs", .ref a1), ("extras", .ref a2), ("kind_of", .ref kd)]))) = H6 at q6 e6 u6 v6 k6
      -- row_list
      have hn := Paired.len hrows
      refine ⟨_, rfl, rl, rfl, ⟨_, SqL.of (e6 _ _ hrl)⟩, fun D hD => ?_⟩
      refine lc_it (walk_list (xs := rs.map V.ref)) (fun j H' => ∃ rt, Same H6 H' ∧ H' D = some (.lst (rt.map V.ref)) ∧ Paired (RowAt false H') rt (rows.take j)) ⟨[], same_new hD, upd_same, .nil⟩ (fun j H' _ q => ?_) (fun j v H7 H' hj q yy => ?_) (fun H' q => ?_)
      · obtain ⟨rt, sm, _⟩ := q
        exact SqL.of (sm _ _ (e6 _ _ hrl))
      · obtain ⟨rt, sm, hd, hp⟩ := q
        obtain ⟨rfl, yy⟩ := yy
        rw [List.length_map] at hj
        obtain ⟨t, ht⟩ : ∃ t, rs[j]? = some t := ⟨_, List.getElem?_eq_getElem hj⟩
        rw [List.getElem?_map, ht] at yy
        cases yy
        obtain ⟨r, hr1, hrow⟩ := Paired.getL hrows ht
        refine ⟨rfl, _, rfl, t, r, rfl, hrow.le (Le.of (e6.trans sm)), fun H8 t' s8 ht' => ?_⟩
        have hd8 := s8 _ _ hd
        have up : ∀ {t : Addr} {r : Row} {o : HO}, RowAt false H8 t r → RowAt false (upd H8 D (.lst ((rt.map V.ref) ++ [.ref t']))) t r := fun {t r o} h => by
          obtain ⟨q, h1, h2⟩ := h
          refine ⟨q, by rw [upd_ne (ne_of h1 hd8 (by intro z; cases z))]; exact h1, ?_⟩
          cases r with
          | call x y s =>
            obtain ⟨qa, rfl, h3⟩ := h2
            exact ⟨qa, rfl, by rw [upd_ne (ne_of h3 hd8 (by intro z; cases z))]; exact h3⟩
          | _ => exact h2
        refine ⟨_, hd8, ?_, rt ++ [t'], (sm.trans s8).put hD, by rw [upd_same, List.map_append]; rfl, ?_⟩
        · rw [List.length_map, Paired.len hp, List.length_take]
          exact lt_line (by omega)
        · rw [take_snoc hr1]
          exact Paired.snoc (Paired.mapP hp fun _ _ q => up (o := .lst []) (q.le (Le.of s8))) (up (o := .lst []) ht')
      · obtain ⟨rt, sm, hd, hp⟩ := q
        rw [List.length_map, hn, List.take_length] at hp
        have q7 := sm _ _ q6
        refine ⟨_, rfl, x, _, _, _, rfl, q7, T.c_Function, T.n_Function_row_list, (by show 5 < 1000; decide), ?_⟩
        have ez : Same H0 (upd H' x (.ins (He.ga K "Function") dx (putF "row_list" (.ref D) [("title", .str (fnS b)), ("inputs", .ref a1), ("extras", .ref a2), ("kind_of", .ref kd), ("result_kind", .str "number")]))) := (e6.trans sm).put nx
        have tz : Tk H' (upd H' x (.ins (He.ga K "Function") dx (putF "row_list" (.ref D) [("title", .str (fnS b)), ("inputs", .ref a1), ("extras", .ref a2), ("kind_of", .ref kd), ("result_kind", .str "number")]))) := tk_ins q7
        refine k _ ⟨dx, a1, a2, kd, D, rt, ?_, ⟨[a0, a1'], ?_, .cons (ez _ _ p0) (.cons (ez _ _ p1) .nil)⟩, ?_, ?_, Paired.mapP hp fun t r h => ?_⟩ ez
        · rw [upd_same]; kernel_rfl
        · rw [upd_ne (Ne.symm x1)]; exact sm _ _ u6
        · rw [upd_ne (Ne.symm xkd)]; exact sm _ _ k6
        · rw [upd_ne (ne_of hd q7 (by intro z; cases z))]; exact hd
        · obtain ⟨q, h1, h2⟩ := h
          refine ⟨q, tz _ _ h1, ?_⟩
          cases r with
          | call x y s =>
            obtain ⟨qa, rfl, h3⟩ := h2
            exact ⟨qa, rfl, tz _ _ h3⟩
          | _ => exact h2
end
end K18
set_option Elab.async false
set_option linter.all false
set_option maxRecDepth 100000
set_option pp.deepTerms false
set_option pp.maxSteps 600
set_option maxHeartbeats 4000000
namespace K18
open PySem PySem.Spec PyProof.Rows L2
/-! tuple(D), D a dict of the module with texts as keys -/
theorem keysLit_pairs {prog : Program} {w : World} : ∀ {l : List DictEntry} {ks : List Str}, l.map He.keyOf = He.keysIn w.params ks → ∃ vs : List (Key × Value), Pairs (mixKind prog w) l vs ∧ vs.map Prod.fst = ks.map Sum.inr ∧ ∀ e ∈ l, ∃ k, (mixKind prog w).is k e.key = true ∧ e.hash = (mixKind prog w).hash k
  | [], [], _ => ⟨[], .nil, rfl, fun e he => by cases he⟩
  | [], k :: ks, h => by cases h
  | e :: r, [], h => by cases h
  | e :: r, k :: ks, h => by
    have h1 : He.keyOf e :: r.map He.keyOf = some (k, PyData.keyHash w.params k) :: He.keysIn w.params ks := h
    injection h1 with h2 h3
    obtain ⟨vs, p1, p2, p3⟩ := keysLit_pairs (prog := prog) h3
    have key : ∃ t, e.key = .str k t ∧ e.hash = PyData.keyHash w.params k := by
      unfold He.keyOf at h2
      split at h2
      · rename_i x t q
        obtain ⟨h5, h6⟩ := Prod.mk.inj (Option.some.inj h2)
        exact ⟨t, by rw [q, h5], h6⟩
      · cases h2
    obtain ⟨t, k1, k2⟩ := key
    have is : (mixKind prog w).is (Sum.inr k) e.key = true := by
      rw [k1]
      exact PySem.strKind_is prog w k t
    refine ⟨(Sum.inr k, e.val) :: vs, .cons is rfl p1, by rw [List.map_cons, List.map_cons, p2], fun e' he' => ?_⟩
    rcases List.mem_cons.mp he' with q | q
    · rw [q]; exact ⟨Sum.inr k, is, k2⟩
    · exact p3 e' q
theorem dicW_at {K : PySem.W.Frag} {w : World} {a : Addr} {ks : List Str} (h : He.dicW K a = some (He.keysIn w.params ks)) : ∃ es n, K.lookup a = some ⟨.type "dict", none, .dict es n, #[]⟩ ∧ es.toList.map He.keyOf = He.keysIn w.params ks ∧ (a == sysModules) = false := by
  obtain ⟨es, n, D⟩ := He.dicW_ok h
  refine ⟨es, n, D.at_, ?_, D.low⟩
  unfold He.dicW at h
  rw [D.at_] at h
  have e : (decide ("dict" = "dict") && ((#[] : Array (Option Value)).isEmpty && !(a == sysModules))) = true := by rw [D.low]; rfl
  dsimp only at h
  rw [e] at h
  exact Option.some.inj h
def rTupKD (d : Addr) (ks : List Str) : List V → Hp → VK → Prop := fun xs H Q => xs = [.ref d] ∧ ∀ q, H q = none → Q (.ref q) (upd H q (.tup (ks.map V.str)))
theorem call_tupKD {X : Cx} {d : Addr} {ks : List Str} (hc : X.calm = true) (h : He.dicW X.K d = some (He.keysIn X.w.params ks)) (nd : ks.Nodup) (hz : ks.length ≤ 1000) : CallR X (.type "tuple") (rTupKD d ks) := by
  intro pins s σ H xs us Q I r hq
  obtain ⟨rfl, q⟩ := hq
  obtain ⟨u, eu, rx⟩ := vals1 r
  subst eu
  obtain rfl : u = Value.ref d := rx
  obtain ⟨es, n, lk, hk, low⟩ := dicW_at h
  obtain ⟨vs, p1, p2, p3⟩ := keysLit_pairs (prog := X.prog) hk
  have hl : vs.length = ks.length := by
    have := congrArg List.length p2
    rwa [List.length_map, List.length_map] at this
  have hd : s.heap.DictOf (mixKind X.prog X.w) d vs := by
    refine ⟨_, es, n, I.kIn _ _ lk, ⟨rfl, rfl, rfl⟩, rfl, fun e he => p3 e (Array.mem_toList_iff.mpr he), p1, ?_⟩
    show (vs.map Prod.fst).Nodup
    rw [p2]
    have go : ∀ {l : List Str}, l.Nodup → (l.map (Sum.inr : Str → Key)).Nodup := by
      intro l hn
      induction l with
      | nil => exact List.nodup_nil
      | cons x r ih =>
        obtain ⟨q1, q2⟩ := List.nodup_cons.mp hn
        refine List.nodup_cons.mpr ⟨fun m => ?_, ih q2⟩
        obtain ⟨y, hy, e⟩ := List.mem_map.mp m
        cases e
        exact q1 hy
    exact go nd
  obtain ⟨ep, hat⟩ := hd.dictAt
  refine call_tuple_src (PySem.W.kdl_dict (knd := mixKind X.prog X.w) (kvs := vs) (ep := ep) low) (I.ok.hd hc) hat (by rw [hl]; exact Nat.le_trans hz (by decide)) fun h' tk acc keep hacc => ?_
  have I1 : Inv X pins σ H { s with heap := h', toks := tk } := I.kept keep
  refine ⟨.ref h'.objs.size, upd H h'.objs.size (.tup (ks.map V.str)), I1.laid (t' := tk) (fun b u e => Heap.get?_push_of_some _ e) (Nat.le_refl _) (show ObjOk X.prog X.w _ _ _ (.tup (ks.map V.str)) from ⟨?_, acc.toList, ?_, ?_⟩), rfl, q _ (I1.hok.fresh (Nat.le_refl _))⟩
  · rw [List.length_map]; exact Nat.le_trans hz (by decide)
  · have el : acc.toList.length = acc.size := by simp
    refine vals_of_at (by rw [List.length_map, el, hacc.1, hl]) fun j x w h1 h2 => ?_
    obtain ⟨k, y, hky, hi⟩ := hacc.2 j w (by rw [← Array.getElem?_toList]; exact h2)
    have e1 : (vs.map Prod.fst)[j]? = some k := by rw [List.getElem?_map, hky]; rfl
    rw [p2, List.getElem?_map] at e1
    rw [List.getElem?_map] at h1
    cases e : ks[j]? with
    | none => rw [e] at h1; cases h1
    | some z =>
      rw [e] at h1 e1
      cases h1
      cases e1
      exact keyIs_rel (k := Sum.inr z) (show keyIs (Sum.inr z) w = true from hi)
  · refine ⟨_, Heap.get?_push_size _ rfl, rfl, 0, ?_⟩
    simp
end K18
set_option Elab.async false
set_option linter.all false
set_option maxRecDepth 100000
set_option pp.deepTerms false
set_option pp.maxSteps 400
set_option maxHeartbeats 4000000
namespace K18
open PySem PySem.Spec PyProof.Rows L2
def Vr.kind : Vr → Str
  | .n _ => "number"
  | .o _ => "object"
theorem kind_at (v : Vr) : valV kindKvs (Sum.inr v.s) = some (.str v.kind) := by
  cases v with
  | n x => cases x <;> kernel_rfl
  | o s => cases s <;> kernel_rfl
section
variable {P : Program} {w : World} {K : PySem.W.Frag} {mg : Str → Option Value} {base : Heap}
variable {H H' : Hp} {p src : Addr} {A : MA} {m : Mch} {G : Prg}
/-! kind_in -/
def spKindIn (K : PySem.W.Frag) : Sp := fun vs H Q _ => ∃ (src f : Addr) (b : Bool) (rows : List Row) (v : Vr), vs = [.ref src, .ref f, .str v.s] ∧ FunAt K H f b rows ∧ Q (.str v.kind) H
theorem sc_Source_kind_in : FnScope ["self", "function", "thing"] ["self", "function", "thing"] d_Source_kind_in.scope := ⟨rfl, rfl, rfl, by decide +kernel, rfl, by decide +kernel, by decide +kernel⟩
theorem k_Source_kind_in (T : Tx w K mg) : Ok P w K mg base 1 d_Source_kind_in ["self", "function", "thing"] (spKindIn K) := by
  refine Ok.of T.d_Source_kind_in sc_Source_kind_in (fun _ _ _ _ _ _ us hl => match us, hl with | [_, _, _], _ => rfl) (fun vs H Q E h => ?_) (fun cdv A outer s H vs Q E hr h => ?_)
  · obtain ⟨src, f, b, rows, v, rfl, _⟩ := h
    rfl
  · obtain ⟨src, f, b, rows, v, rfl, F, k⟩ := h
    refine ⟨_, (pss_one (ps_ret (pe_ifExp (pt_val (pe_is T.b_isinstance T.b_str bt_str (pv 2))) (pe_dget1 (hu_of hr) (pe_fld (pv 1) rfl) (pv 2) ⟨rfl, rfl, rfl, rfl⟩) pe_non))), ?_⟩
    obtain ⟨dx, ii, ei, kd, rl, rs, f1, f2, f3, f4, f5⟩ := F.ex
    refine ⟨_, rfl, _, _, _, _, rfl, .base (.str _), by decide +kernel, true, rfl, iteT ?_⟩
    exact ⟨_, rfl, _, _, _, _, _, rfl, f1, T.c_Function, T.n_Function_kind_of, (by kernel_rfl), kd, rfl, .inl ⟨_, .inl f3⟩, _, rfl, some (.str v.kind), .inl ⟨_, Sum.inr v.s, .inl f3, rfl, (kind_at v).symm⟩, k⟩
/-! is_number_row -/
def spNumRow (K : PySem.W.Frag) : Sp := fun vs H Q _ => ∃ (src : Addr) (G : Prg) (f : Addr) (b : Bool) (rows : List Row) (t : Addr) (r : Row), vs = [.ref src, .ref f, .ref t] ∧ SrcAt K H src G ∧ FunAt K H f b rows ∧ RowAt true H t r ∧
  ((∃ x, r = .num x) ∨ (∃ x l, r = .ifz x l ∧ l < rows.length) ∨ ∃ l, r = .jump l ∧ l < rows.length) ∧ Q (.bl true) H
theorem sc_Source_is_number_row : FnScope ["self", "function", "row"] ["self", "function", "row"] d_Source_is_number_row.scope := ⟨rfl, rfl, rfl, by decide +kernel, rfl, by decide +kernel, by decide +kernel⟩
theorem k_Source_is_number_row (T : Tx w K mg) : Ok P w K mg base 3 d_Source_is_number_row ["self", "function", "row"] (spNumRow K) := by
  refine Ok.of T.d_Source_is_number_row sc_Source_is_number_row (fun _ _ _ _ _ _ us hl => match us, hl with | [_, _, _], _ => rfl) (fun vs H Q E h => ?_) (fun cdv A outer s H vs Q E hr h => ?_)
  · obtain ⟨src, G, f, b, rows, t, r, rfl, _⟩ := h
    rfl
  · obtain ⟨src, G, f, b, rows, t, r, rfl, S, F, hrow, hc, k⟩ := h
    refine ⟨_, (pss_cons (ps_if (pt_cmpR op_eq (pe_ix ix_tup (pv 2) pe_int (fun _ _ => rfl)) pe_str (nomark _)) (pss_one (ps_ret (pe_and (pe_cmpR op_eq (pe_M (k_Source_kind_in T) (hr.mono (by decide)) T.c_Source T.h_Source_kind_in rfl (pv 0) (pa_cons (pv 1) (pa_cons (pe_ix ix_tup (pv 2) pe_int (fun _ _ => rfl)) pa_nil))) (pe_gs T.s_NUMBER) (nomark _)) (pe_one (pe_G (k_is_between T) (hr.mono (by decide)) T.g_is_between (pa_cons (pe_ix ix_tup (pv 2) pe_int (fun _ _ => rfl)) (pa_cons (pe_un un_neg (pe_gi T.i_GREATEST)) (pa_cons (pe_gi T.i_GREATEST) pa_nil)))))))) pss_nil)
      (pss_cons (ps_if (PW.pt (pw_and (pt_cmpR op_eq (pe_ix ix_tup (pv 2) pe_int (fun _ _ => rfl)) pe_str (nomark _)) (pw_and1 (pt_cmpR op_ne (pe_M (k_Source_kind_in T) (hr.mono (by decide)) T.c_Source T.h_Source_kind_in rfl (pv 0) (pa_cons (pv 1) (pa_cons (pe_ix ix_tup (pv 2) pe_int (fun _ _ => rfl)) pa_nil))) (pe_gs T.s_NUMBER) (nomark _))))) (pss_one (ps_ret pe_bl)) pss_nil)
      (pss_one (ps_ret (pe_G (k_is_between T) (hr.mono (by decide)) T.g_is_between (pa_cons (pe_ix ix_tup (pv 2) (pe_un un_neg pe_int) (fun _ _ => rfl)) (pa_cons pe_int (pa_cons (pe_op op_sub (pe_callB call_len_seq (by rfl) T.b_len PySem.boot_len (pa_cons (pe_fld (pv 1) rfl) pa_nil)) pe_int) pa_nil)))))))), ?_⟩
    obtain ⟨q, hr1, _⟩ := hrow
    obtain ⟨dxs, cr, fk, kf, ff, fg, hs, _⟩ := S.fns
    obtain ⟨dx, ii, ei, kd, rl, rs, f1, f2, f3, f4, f5⟩ := F.ex
    have hn := Paired.len f5
    rcases hc with ⟨x, rfl⟩ | ⟨x, l, rfl, hl⟩ | ⟨l, rfl, hl⟩
    · refine ⟨_, rfl, t, _, 0, _, rfl, rfl, SqT.of hr1, rfl, rfl, _, rfl, ifD_t rfl ?_⟩
      refine ⟨_, rfl, src, _, _, rfl, hs, by kernel_rfl, _, rfl, _, rfl, t, _, 1, _, rfl, rfl, SqT.of hr1, rfl, src, f, b, rows, .n x, rfl, F, rfl, true, rfl, iteT ?_⟩
      exact ⟨_, rfl, t, _, 2, _, rfl, rfl, SqT.of hr1, rfl, _, rfl, 5, _, _, rfl, k⟩
    · refine ⟨_, rfl, t, _, 0, _, rfl, rfl, SqT.of hr1, rfl, rfl, _, rfl, ifD_f (by decide +kernel) ?_⟩
      refine ⟨_, rfl, t, _, 0, _, rfl, rfl, SqT.of hr1, rfl, rfl, _, rfl, ifD_t rfl ?_⟩
      refine ⟨_, rfl, src, _, _, rfl, hs, by kernel_rfl, _, rfl, _, rfl, t, _, 1, _, rfl, rfl, SqT.of hr1, rfl, src, f, b, rows, .n x, rfl, F, rfl, false, rfl, iteF ?_⟩
      refine ⟨_, rfl, 1, rfl, t, _, -1, _, rfl, rfl, SqT.of hr1, rfl, _, rfl, _, _, _, _, _, rfl, f1, T.c_Function, T.n_Function_row_list, (by kernel_rfl), rl, _, rfl, .inl (SqL.of f4), _, _, rfl, rfl, (l : Int), 0, _, rfl, ?_⟩
      exact qb (by rw [List.length_map, hn, decide_eq_true (by omega : (0 : Int) ≤ (l : Int)), decide_eq_true (by omega : (l : Int) ≤ (rows.length : Int) - 1)]; rfl) k
    · refine ⟨_, rfl, t, _, 0, _, rfl, rfl, SqT.of hr1, rfl, rfl, _, rfl, ifD_f (by decide +kernel) ?_⟩
      refine ⟨_, rfl, t, _, 0, _, rfl, rfl, SqT.of hr1, rfl, rfl, _, rfl, ifD_f (by decide +kernel) (iteF ?_)⟩
      refine ⟨_, rfl, 1, rfl, t, _, -1, _, rfl, rfl, SqT.of hr1, rfl, _, rfl, _, _, _, _, _, rfl, f1, T.c_Function, T.n_Function_row_list, (by kernel_rfl), rl, _, rfl, .inl (SqL.of f4), _, _, rfl, rfl, (l : Int), 0, _, rfl, ?_⟩
      exact qb (by rw [List.length_map, hn, decide_eq_true (by omega : (0 : Int) ≤ (l : Int)), decide_eq_true (by omega : (l : Int) ≤ (rows.length : Int) - 1)]; rfl) k
/-! is_object_row -/
def spObjRow (K : PySem.W.Frag) : Sp := fun vs H Q _ => ∃ (src : Addr) (G : Prg) (f : Addr) (b : Bool) (rows : List Row) (t : Addr) (r : Row), vs = [.ref src, .ref f, .ref t] ∧ SrcAt K H src G ∧ FunAt K H f b rows ∧ RowAt true H t r ∧
  ((∃ s, r = .new s) ∨ (∃ x s, r = .getI x s) ∨ (∃ s y, r = .putI s y) ∨ (∃ s u, r = .getN s u) ∨ ∃ s u, r = .putN s u) ∧ Rt (.bl true) H Q
theorem get_kind_ok (a : Str) (h : a = "item" ∨ a = "next") : ∃ k, valV fieldKvs (Sum.inr a) = some (.str k) ∧ ((a = "item" ∧ k = "number") ∨ (a = "next" ∧ k = "object")) := by
  rcases h with rfl | rfl
  · exact ⟨_, rfl, .inl ⟨rfl, rfl⟩⟩
  · exact ⟨"object", by kernel_rfl, .inr ⟨rfl, rfl⟩⟩
theorem sc_Source_is_object_row : FnScope ["self", "function", "row", "one", "field", "other"] ["self", "function", "row"] d_Source_is_object_row.scope := ⟨rfl, rfl, rfl, by decide +kernel, rfl, by decide +kernel, by decide +kernel⟩
theorem k_Source_is_object_row (T : Tx w K mg) : Ok P w K mg base 2 d_Source_is_object_row ["self", "function", "row"] (spObjRow K) := by
  refine Ok.of T.d_Source_is_object_row sc_Source_is_object_row (fun _ _ _ _ _ _ us hl => match us, hl with | [_, _, _], _ => rfl) (fun vs H Q E h => ?_) (fun cdv A outer s H vs Q E hr h => ?_)
  · obtain ⟨src, G, f, b, rows, t, r, rfl, _⟩ := h
    rfl
  · obtain ⟨src, G, f, b, rows, t, r, rfl, S, F, hrow, hc, k⟩ := h
    refine ⟨_, (pss_cons (ps_if (pt_cmpR op_eq (pe_ix ix_tup (pv 2) pe_int (fun _ _ => rfl)) pe_str (nomark _)) (pss_one (ps_ret (pe_and (pe_cmpR op_eq (pe_M (k_Source_kind_in T) (hr.mono (by decide)) T.c_Source T.h_Source_kind_in rfl (pv 0) (pa_cons (pv 1) (pa_cons (pe_ix ix_tup (pv 2) pe_int (fun _ _ => rfl)) pa_nil))) (pe_gs T.s_OBJECT) (nomark _)) (pe_one (pe_G (k_is_word T) (hr.mono (by decide)) T.g_is_word (pa_cons (pe_ix ix_tup (pv 2) pe_int (fun _ _ => rfl)) (pa_cons (pe_callTy (call_tupD rfl) (by rfl) T.b_tuple bt_tuple (pa_cons (pe_fld (pv 0) rfl) pa_nil)) pa_nil))))))) pss_nil)
      (pss_cons (ps_asg (pe_ifExp (pt_cmpR op_eq (pe_ix ix_tup (pv 2) pe_int (fun _ _ => rfl)) pe_str (nomark _)) (pe_tup (pa_cons (pe_ix ix_tup (pv 2) pe_int (fun _ _ => rfl)) (pa_cons (pe_ix ix_tup (pv 2) pe_int (fun _ _ => rfl)) (pa_cons (pe_ix ix_tup (pv 2) pe_int (fun _ _ => rfl)) pa_nil)))) (pe_slice sl_tup (pv 2) (po_some pe_int) po_none)) (pg_tup rfl (pgs_cons (pg_name (i := 3) sc_Source_is_object_row.nd rfl (.inl rfl)) (pgs_cons (pg_name (i := 4) sc_Source_is_object_row.nd rfl (.inl rfl)) (pgs_cons (pg_name (i := 5) sc_Source_is_object_row.nd rfl (.inl rfl)) pgs_nil)))))
      (pss_cons (ps_if (PW.pt (pw_or (pt_cmpR op_ne (pe_M (k_Source_kind_in T) (hr.mono (by decide)) T.c_Source T.h_Source_kind_in rfl (pv 0) (pa_cons (pv 1) (pa_cons (pv 3) pa_nil))) (pe_gs T.s_OBJECT) (nomark _)) (pw_or1 (pt_not (pt_val (pe_G (k_is_word T) (hr.mono (by decide)) T.g_is_word (pa_cons (pv 4) (pa_cons (pe_callTy (call_tupD rfl) (by rfl) T.b_tuple bt_tuple (pa_cons (pe_fld (pv 0) rfl) pa_nil)) pa_nil)))))))) (pss_one (ps_ret pe_bl)) pss_nil)
      (pss_one (ps_ret (pe_cmpR op_eq (pe_M (k_Source_kind_in T) (hr.mono (by decide)) T.c_Source T.h_Source_kind_in rfl (pv 0) (pa_cons (pv 1) (pa_cons (pv 5) pa_nil))) (pe_dget (hu_of hr) (pe_fld (pv 0) rfl) (pv 4) (fun _ _ => rfl)) (nomark _))))))), ?_⟩
    obtain ⟨q, hr1, _⟩ := hrow
    obtain ⟨dxs, cr, fk, kf, ca, ff, fg, hs, h2, h3, h4, _⟩ := S.ex
    rcases hc with ⟨s, rfl⟩ | ⟨x, s, rfl⟩ | ⟨s, y, rfl⟩ | ⟨s, u, rfl⟩ | ⟨s, u, rfl⟩
    · refine ⟨_, rfl, t, _, 0, _, rfl, rfl, SqT.of hr1, rfl, rfl, _, rfl, ifD_t rfl ?_⟩
      refine ⟨_, rfl, src, _, _, rfl, hs, by kernel_rfl, _, rfl, _, rfl, t, _, 1, _, rfl, rfl, SqT.of hr1, rfl, src, f, b, rows, .o s, rfl, F, rfl, true, rfl, iteT ?_⟩
      refine ⟨_, rfl, t, _, 2, _, rfl, rfl, SqT.of hr1, rfl, _, rfl, _, _, _, _, _, rfl, hs, T.c_Source, T.n_Source_class_rows, (by kernel_rfl), cr, _, rfl, h2, fun q hq => ⟨"cell", q, ["cell"], rfl, SqT.of upd_same, ?_⟩⟩
      exact k _ (same_new hq)
    all_goals
      refine ⟨_, rfl, t, _, 0, _, rfl, rfl, SqT.of hr1, rfl, rfl, _, rfl, ifD_f (by decide +kernel) ?_⟩
    · refine ⟨_, rfl, t, _, 0, _, rfl, rfl, SqT.of hr1, rfl, rfl, _, rfl, ifD_t rfl ?_⟩
      refine ⟨_, rfl, t, _, 2, _, rfl, rfl, SqT.of hr1, rfl, _, rfl, t, _, 3, _, rfl, rfl, SqT.of hr1, rfl, _, rfl, t, _, 1, _, rfl, rfl, SqT.of hr1, rfl, (by show 3 ≤ sizeLine; decide), fun c hc => ?_⟩
      have s1 : Same H (upd H c (.tup [V.str s.s, .str "item", .str x.s])) := same_new hc
      have hc1 : (upd H c (.tup [V.str s.s, .str "item", .str x.s])) c = some (.tup [.str s.s, .str "item", .str x.s]) := upd_same
      generalize (upd H c (.tup [V.str s.s, .str "item", .str x.s])) = H1 at s1 hc1
      refine ⟨c, _, rfl, SqT.of hc1, rfl, _, _, rfl, _, _, rfl, _, _, rfl, rfl, ?_⟩
      refine ⟨_, rfl, src, _, _, rfl, s1 _ _ hs, by kernel_rfl, _, rfl, _, rfl, src, f, b, rows, .o s, rfl, F.le (Le.of s1), rfl, _, rfl, iteNS rfl ?_⟩
      refine ⟨_, rfl, _, rfl, _, _, _, _, _, rfl, s1 _ _ hs, T.c_Source, T.n_Source_field_kinds, by kernel_rfl, fk, _, rfl, (Le.of s1).dk h4, fun q hq => ⟨"item", q, ["item", "next"], rfl, SqT.of upd_same, _, rfl, ifBf (by rw [decide_eq_true (by simp)]; rfl) ?_⟩⟩
      have s2 := s1.trans (same_new (o := .tup (fieldKvs.map fun kv => kV kv.1)) hq)
      refine ⟨_, rfl, src, _, _, rfl, s2 _ _ hs, by kernel_rfl, _, rfl, _, rfl, src, f, b, rows, .n x, rfl, F.le (Le.of s2), _, rfl, _, _, _, _, _, rfl, s2 _ _ hs, T.c_Source, T.n_Source_field_kinds, by kernel_rfl, _, rfl, fk, .str "number", rfl, .inl ⟨_, Sum.inr "item", (Le.of s2).dk h4, rfl, rfl⟩, rfl, ?_⟩
      exact qb (decide_eq_true rfl) (k _ s2)
    · refine ⟨_, rfl, t, _, 0, _, rfl, rfl, SqT.of hr1, rfl, rfl, _, rfl, ifD_f (by decide +kernel) ?_⟩
      refine ⟨_, rfl, 1, rfl, t, _, rfl, SqT.of hr1, (fun z => absurd (show HT.sIx 4 0 (some 1) = 0 from z.1) (by decide)), fun c hc => ?_⟩
      have s1 : Same H (upd H c (.tup (cutV (Row.parts q (Row.putI s y)) (some 1) none))) := same_new hc
      have hc1 : (upd H c (.tup (cutV (Row.parts q (Row.putI s y)) (some 1) none))) c = some (.tup [.str s.s, .str "item", .str y.s]) := by rw [upd_same, cut_one]; rfl
      generalize (upd H c (.tup (cutV (Row.parts q (Row.putI s y)) (some 1) none))) = H1 at s1 hc1
      refine ⟨c, _, rfl, SqT.of hc1, rfl, _, _, rfl, _, _, rfl, _, _, rfl, rfl, ?_⟩
      refine ⟨_, rfl, src, _, _, rfl, s1 _ _ hs, by kernel_rfl, _, rfl, _, rfl, src, f, b, rows, .o s, rfl, F.le (Le.of s1), rfl, _, rfl, iteNS rfl ?_⟩
      refine ⟨_, rfl, _, rfl, _, _, _, _, _, rfl, s1 _ _ hs, T.c_Source, T.n_Source_field_kinds, by kernel_rfl, fk, _, rfl, (Le.of s1).dk h4, fun q hq => ⟨"item", q, ["item", "next"], rfl, SqT.of upd_same, _, rfl, ifBf (by rw [decide_eq_true (by simp)]; rfl) ?_⟩⟩
      have s2 := s1.trans (same_new (o := .tup (fieldKvs.map fun kv => kV kv.1)) hq)
      refine ⟨_, rfl, src, _, _, rfl, s2 _ _ hs, by kernel_rfl, _, rfl, _, rfl, src, f, b, rows, .n y, rfl, F.le (Le.of s2), _, rfl, _, _, _, _, _, rfl, s2 _ _ hs, T.c_Source, T.n_Source_field_kinds, by kernel_rfl, _, rfl, fk, .str "number", rfl, .inl ⟨_, Sum.inr "item", (Le.of s2).dk h4, rfl, rfl⟩, rfl, ?_⟩
      exact qb (decide_eq_true rfl) (k _ s2)
    · refine ⟨_, rfl, t, _, 0, _, rfl, rfl, SqT.of hr1, rfl, rfl, _, rfl, ifD_t rfl ?_⟩
      refine ⟨_, rfl, t, _, 2, _, rfl, rfl, SqT.of hr1, rfl, _, rfl, t, _, 3, _, rfl, rfl, SqT.of hr1, rfl, _, rfl, t, _, 1, _, rfl, rfl, SqT.of hr1, rfl, (by show 3 ≤ sizeLine; decide), fun c hc => ?_⟩
      have s1 : Same H (upd H c (.tup [V.str u.s, .str "next", .str s.s])) := same_new hc
      have hc1 : (upd H c (.tup [V.str u.s, .str "next", .str s.s])) c = some (.tup [.str u.s, .str "next", .str s.s]) := upd_same
      generalize (upd H c (.tup [V.str u.s, .str "next", .str s.s])) = H1 at s1 hc1
      refine ⟨c, _, rfl, SqT.of hc1, rfl, _, _, rfl, _, _, rfl, _, _, rfl, rfl, ?_⟩
      refine ⟨_, rfl, src, _, _, rfl, s1 _ _ hs, by kernel_rfl, _, rfl, _, rfl, src, f, b, rows, .o u, rfl, F.le (Le.of s1), rfl, _, rfl, iteNS rfl ?_⟩
      refine ⟨_, rfl, _, rfl, _, _, _, _, _, rfl, s1 _ _ hs, T.c_Source, T.n_Source_field_kinds, by kernel_rfl, fk, _, rfl, (Le.of s1).dk h4, fun q hq => ⟨"next", q, ["item", "next"], rfl, SqT.of upd_same, _, rfl, ifBf (by rw [decide_eq_true (by simp)]; rfl) ?_⟩⟩
      have s2 := s1.trans (same_new (o := .tup (fieldKvs.map fun kv => kV kv.1)) hq)
      refine ⟨_, rfl, src, _, _, rfl, s2 _ _ hs, by kernel_rfl, _, rfl, _, rfl, src, f, b, rows, .o s, rfl, F.le (Le.of s2), _, rfl, _, _, _, _, _, rfl, s2 _ _ hs, T.c_Source, T.n_Source_field_kinds, by kernel_rfl, _, rfl, fk, .str "object", rfl, .inl ⟨_, Sum.inr "next", (Le.of s2).dk h4, rfl, by kernel_rfl⟩, rfl, ?_⟩
      exact qb (decide_eq_true rfl) (k _ s2)
    · refine ⟨_, rfl, t, _, 0, _, rfl, rfl, SqT.of hr1, rfl, rfl, _, rfl, ifD_f (by decide +kernel) ?_⟩
      refine ⟨_, rfl, 1, rfl, t, _, rfl, SqT.of hr1, (fun z => absurd (show HT.sIx 4 0 (some 1) = 0 from z.1) (by decide)), fun c hc => ?_⟩
      have s1 : Same H (upd H c (.tup (cutV (Row.parts q (Row.putN s u)) (some 1) none))) := same_new hc
      have hc1 : (upd H c (.tup (cutV (Row.parts q (Row.putN s u)) (some 1) none))) c = some (.tup [.str s.s, .str "next", .str u.s]) := by rw [upd_same, cut_one]; rfl
      generalize (upd H c (.tup (cutV (Row.parts q (Row.putN s u)) (some 1) none))) = H1 at s1 hc1
      refine ⟨c, _, rfl, SqT.of hc1, rfl, _, _, rfl, _, _, rfl, _, _, rfl, rfl, ?_⟩
      refine ⟨_, rfl, src, _, _, rfl, s1 _ _ hs, by kernel_rfl, _, rfl, _, rfl, src, f, b, rows, .o s, rfl, F.le (Le.of s1), rfl, _, rfl, iteNS rfl ?_⟩
      refine ⟨_, rfl, _, rfl, _, _, _, _, _, rfl, s1 _ _ hs, T.c_Source, T.n_Source_field_kinds, by kernel_rfl, fk, _, rfl, (Le.of s1).dk h4, fun q hq => ⟨"next", q, ["item", "next"], rfl, SqT.of upd_same, _, rfl, ifBf (by rw [decide_eq_true (by simp)]; rfl) ?_⟩⟩
      have s2 := s1.trans (same_new (o := .tup (fieldKvs.map fun kv => kV kv.1)) hq)
      refine ⟨_, rfl, src, _, _, rfl, s2 _ _ hs, by kernel_rfl, _, rfl, _, rfl, src, f, b, rows, .o u, rfl, F.le (Le.of s2), _, rfl, _, _, _, _, _, rfl, s2 _ _ hs, T.c_Source, T.n_Source_field_kinds, by kernel_rfl, _, rfl, fk, .str "object", rfl, .inl ⟨_, Sum.inr "next", (Le.of s2).dk h4, rfl, by kernel_rfl⟩, rfl, ?_⟩
      exact qb (decide_eq_true rfl) (k _ s2)
end
end K18
set_option Elab.async false
set_option linter.all false
set_option maxRecDepth 100000
set_option pp.deepTerms false
set_option pp.maxSteps 400
set_option maxHeartbeats 4000000
namespace K18
open PySem PySem.Spec PyProof.Rows L2
/-! lists of texts as data -/
def strD (zs : List Str) : PyData := .list (zs.map PyData.str)
theorem strs_dp {K : PySem.W.Frag} {H : Hp} : ∀ zs : List Str, DpAll K H (zs.map V.str) (zs.map PyData.str)
  | [] => .nil
  | z :: r => .cons (.str z) (strs_dp r)
theorem strs_dl {K : PySem.W.Frag} {H : Hp} {a : Addr} {zs : List Str} (h : H a = some (.lst (zs.map V.str))) : Dp K H (.ref a) (strD zs) := .lst (SqL.of h) (strs_dp zs)
section
variable {P : Program} {w : World} {K : PySem.W.Frag} {mg : Str → Option Value} {base : Heap}
variable {H H' : Hp} {p src : Addr} {A : MA} {m : Mch} {G : Prg}
theorem eq_strs {a b : Addr} {zs ys : List Str} {Q : VK} (ha : H a = some (.lst (zs.map V.str))) (hb : H b = some (.lst (ys.map V.str))) (k : Q (.bl (PyData.eqv (strD zs) (strD ys))) H) (g1 : SeqAt.shaped (strD zs) = true := by kernel_rfl) (g2 : SeqAt.shaped (strD ys) = true := by kernel_rfl) : rEqD K (.ref a) (.ref b) H Q :=
  ⟨_, _, strs_dl ha, strs_dl hb, g1, g2, k⟩
theorem ne_strs {a b : Addr} {zs ys : List Str} {Q : VK} (ha : H a = some (.lst (zs.map V.str))) (hb : H b = some (.lst (ys.map V.str))) (k : Q (.bl (!PyData.eqv (strD zs) (strD ys))) H) (g1 : SeqAt.shaped (strD zs) = true := by kernel_rfl) (g2 : SeqAt.shaped (strD ys) = true := by kernel_rfl) : rNeD K (.ref a) (.ref b) H Q :=
  ⟨_, _, strs_dl ha, strs_dl hb, g1, g2, k⟩
/-! is_call -/
def spIsCall (K : PySem.W.Frag) : Sp := fun vs H Q _ => ∃ (src : Addr) (G : Prg) (f : Addr) (b : Bool) (rows : List Row) (t : Addr) (x y : NV) (s : OV), vs = [.ref src, .ref f, .ref t] ∧ SrcAt K H src G ∧ FunAt K H f b rows ∧ RowAt true H t (.call x y s) ∧ Rt (.bl true) H Q
theorem sc_Source_is_call : FnScope ["self", "function", "row", "called", "name", "kind"] ["self", "function", "row"] d_Source_is_call.scope := ⟨rfl, rfl, rfl, by decide +kernel, rfl, by decide +kernel, by decide +kernel⟩
theorem k_Source_is_call (T : Tx w K mg) : Ok P w K mg base 2 d_Source_is_call ["self", "function", "row"] (spIsCall K) := by
  refine Ok.of T.d_Source_is_call sc_Source_is_call (fun _ _ _ _ _ _ us hl => match us, hl with | [_, _, _], _ => rfl) (fun vs H Q E h => ?_) (fun cdv A outer s H vs Q E hr h => ?_)
  · obtain ⟨src, G, f, b, rows, t, x, y, s, rfl, _⟩ := h
    rfl
  · obtain ⟨src, G, f, b, rows, t, x, y, s, rfl, S, F, hrow, k⟩ := h
    refine ⟨_, (pss_cons (ps_if (PW.pt (pw_or (pt_not (pt_val (pe_G (k_is_word T) (hr.mono (by decide)) T.g_is_word (pa_cons (pe_ix ix_tup (pv 2) pe_int (fun _ _ => rfl)) (pa_cons (pe_callTy (call_tupD rfl) (by rfl) T.b_tuple bt_tuple (pa_cons (pe_fld (pv 0) rfl) pa_nil)) pa_nil))))) (pw_or1 (pt_not (pt_val (pe_is T.b_isinstance T.b_list bt_list (pe_ix ix_tup (pv 2) pe_int (fun _ _ => rfl)))))))) (pss_one (ps_ret pe_bl)) pss_nil)
      (pss_cons (ps_set (i := 3) sc_Source_is_call.nd rfl (.inl rfl) (pe_dget (hu_of hr) (pe_fld (pv 0) rfl) (pe_ix ix_tup (pv 2) pe_int (fun _ _ => rfl)) (fun _ _ => rfl)))
      (pss_cons (ps_if (pt_cmpR (op_neD hr.units) (pe_lc (own := [("name", 4)]) (g := (gName 4)) (tt := tYes) (by rfl) sc_Source_is_call.nd  (pi_list (pe_ix ix_tup (pv 2) pe_int (fun _ _ => rfl))) (blkOk_by (own := [("name", 4)]) (N := ["self", "function", "row", "called", "name", "kind"]) (sc := d_Source_is_call.scope) (by decide +kernel)) (fun _ _ _ _ _ => (pg_name (i := 4) sc_Source_is_call.nd rfl (.inl rfl))) (fun _ _ _ _ _ => pts_nil) (fun _ _ _ _ _ => (pe_M (k_Source_kind_in T) (hr.mono (by decide)) T.c_Source T.h_Source_kind_in rfl (pv 0) (pa_cons (pv 1) (pa_cons (pv 4) pa_nil))))) (pe_lc (own := [("name", 4), ("kind", 5)]) (g := (gTup K 2 (gCons (gName 4) (gCons (gName 5) gNil)))) (tt := tYes) (by rfl) sc_Source_is_call.nd  (pi_list (pe_fld (pv 3) rfl)) (blkOk_by (own := [("name", 4), ("kind", 5)]) (N := ["self", "function", "row", "called", "name", "kind"]) (sc := d_Source_is_call.scope) (by decide +kernel)) (fun _ _ _ _ _ => (pg_tup rfl (pgs_cons (pg_name (i := 4) sc_Source_is_call.nd rfl (.inl rfl)) (pgs_cons (pg_name (i := 5) sc_Source_is_call.nd rfl (.inl rfl)) pgs_nil)))) (fun _ _ _ _ _ => pts_nil) (fun _ _ _ _ _ => (pv 5))) (nomark _)) (pss_one (ps_ret pe_bl)) pss_nil)
      (pss_one (ps_ret (pe_cmpR op_eq (pe_M (k_Source_kind_in T) (hr.mono (by decide)) T.c_Source T.h_Source_kind_in rfl (pv 0) (pa_cons (pv 1) (pa_cons (pe_ix ix_tup (pv 2) pe_int (fun _ _ => rfl)) pa_nil))) (pe_fld (pv 3) rfl) (nomark _))))))), ?_⟩
    obtain ⟨q, hr1, qa, rfl, hqa⟩ := hrow
    obtain ⟨dxs, cr, fk, kf, ff, fg, hs, h5, _⟩ := S.fns
    refine ⟨_, rfl, t, _, 2, _, rfl, rfl, SqT.of hr1, rfl, _, rfl, _, _, _, _, _, rfl, hs, T.c_Source, T.n_Source_kept_functions, (by kernel_rfl), kf, _, rfl, h5, fun q1 n1 => ⟨"f", q1, ["f", "g"], rfl, SqT.of upd_same, _, rfl, ifBf (by rw [decide_eq_true (by simp)]; rfl) ?_⟩⟩
    have s1 := same_new (o := .tup ([((Sum.inr "f" : Key), V.ref ff), (Sum.inr "g", .ref fg)].map fun kv => kV kv.1)) n1
    generalize (upd H q1 (.tup ([((Sum.inr "f" : Key), V.ref ff), (Sum.inr "g", .ref fg)].map fun kv => kV kv.1))) = H1 at s1
    refine ⟨_, rfl, t, _, 3, _, rfl, rfl, SqT.of (s1 _ _ hr1), rfl, _, _, _, _, rfl, .base (.lst (s1 _ _ hqa)), by decide +kernel, true, rfl, iteF ?_⟩
    obtain ⟨dxs', cr', fk', kf', fa, hs', dg, Fa⟩ := (S.le (Le.of s1)).kept true
    obtain ⟨dx, ii, ei, kd, rl, rs, f1, f2, f3, f4, f5⟩ := Fa.ex
    refine ⟨_, rfl, _, _, _, _, _, rfl, hs', T.c_Source, T.n_Source_kept_functions, (by kernel_rfl), _, rfl, t, _, 2, _, rfl, rfl, SqT.of (s1 _ _ hr1), rfl, kf', .ref fa, rfl, dg, ?_⟩
    -- the kinds of what is handed over
    refine ⟨_, rfl, t, _, 3, _, rfl, rfl, SqT.of (s1 _ _ hr1), rfl, qa, rfl, ⟨_, SqL.of (s1 _ _ hqa)⟩, fun D hD => ?_⟩
    refine lc_it (walk_list (xs := [.str y.s, .str s.s])) (fun j H' => H' = upd H1 D (.lst ([V.str "number", .str "object"].take j))) rfl (fun j H' _ e => by rw [e]; exact (same_new hD).seq (SqL.of (s1 _ _ hqa))) (fun j v H2 H' hj e yy => ?_) (fun H' e => ?_)
    · obtain ⟨rfl, yy⟩ := yy
      subst e
      have sn : Same H (upd H1 D (.lst ([V.str "number", .str "object"].take j))) := s1.trans (same_new hD)
      match j, hj with
      | 0, _ => cases yy; exact ⟨rfl, _, rfl, src, _, _, rfl, sn _ _ hs, by kernel_rfl, _, rfl, _, rfl, src, f, b, rows, .n y, rfl, F.le (Le.of sn), [], upd_same, (by show 0 < sizeLine; decide), by rw [upd_upd]; rfl⟩
      | 1, _ => cases yy; exact ⟨rfl, _, rfl, src, _, _, rfl, sn _ _ hs, by kernel_rfl, _, rfl, _, rfl, src, f, b, rows, .o s, rfl, F.le (Le.of sn), [.str "number"], upd_same, (by show 1 < sizeLine; decide), by rw [upd_upd]; rfl⟩
    subst e
    have s2 : Same H1 (upd H1 D (.lst ([V.str "number", .str "object"].take [V.str y.s, V.str s.s].length))) := same_new hD
    have hD2 : (upd H1 D (.lst ([V.str "number", .str "object"].take [V.str y.s, V.str s.s].length))) D = some (.lst ((["number", "object"] : List Str).map V.str)) := upd_same
    generalize (upd H1 D (.lst ([V.str "number", .str "object"].take [V.str y.s, V.str s.s].length))) = H2 at s2 hD2
    -- the kinds of the parameters
    obtain ⟨ts, i1, i2⟩ := f2
    match ts, i2 with
    | [t0, t1], .cons p0 (.cons p1 .nil) =>
      refine ⟨_, rfl, _, _, _, _, _, rfl, s2 _ _ f1, T.c_Function, T.n_Function_inputs, rfl, ii, rfl, ⟨_, SqL.of (s2 _ _ i1)⟩, fun L hL => ?_⟩
      refine lc_it (walk_list (xs := [.ref t0, .ref t1])) (fun j H' => H' = upd H2 L (.lst ([V.str "number", .str "object"].take j))) rfl (fun j H' _ e => by rw [e]; exact (same_new hL).seq (SqL.of (s2 _ _ i1))) (fun j v H3 H' hj e yy => ?_) (fun H' e => ?_)
      · obtain ⟨rfl, yy⟩ := yy
        subst e
        have sn : Same H1 (upd H2 L (.lst ([V.str "number", .str "object"].take j))) := s2.trans (same_new hL)
        match j, hj with
        | 0, _ => cases yy; exact ⟨t0, _, rfl, SqT.of (sn _ _ p0), rfl, _, _, rfl, _, _, rfl, rfl, rfl, _, rfl, [], upd_same, (by show 0 < sizeLine; decide), by rw [upd_upd]; rfl⟩
        | 1, _ => cases yy; exact ⟨t1, _, rfl, SqT.of (sn _ _ p1), rfl, _, _, rfl, _, _, rfl, rfl, rfl, _, rfl, [.str "number"], upd_same, (by show 1 < sizeLine; decide), by rw [upd_upd]; rfl⟩
      subst e
      have s3 : Same H2 (upd H2 L (.lst ([V.str "number", .str "object"].take [V.ref t0, V.ref t1].length))) := same_new hL
      have hL3 : (upd H2 L (.lst ([V.str "number", .str "object"].take [V.ref t0, V.ref t1].length))) L = some (.lst ((["number", "object"] : List Str).map V.str)) := upd_same
      generalize (upd H2 L (.lst ([V.str "number", .str "object"].take [V.ref t0, V.ref t1].length))) = H3 at s3 hL3
      refine ne_strs (s3 _ _ hD2) hL3 ⟨_, rfl, ifBf (by kernel_rfl) ?_⟩
      have s4 := (s1.trans s2).trans s3
      refine ⟨_, rfl, src, _, _, rfl, s4 _ _ hs, by kernel_rfl, _, rfl, _, rfl, t, _, 1, _, rfl, rfl, SqT.of (s4 _ _ hr1), rfl, src, f, b, rows, .n x, rfl, F.le (Le.of s4), ?_⟩
      refine ⟨_, rfl, _, _, _, _, _, rfl, (s2.trans s3) _ _ f1, T.c_Function, T.n_Function_result_kind, (by rfl), rfl, ?_⟩
      exact qb (decide_eq_true rfl) (k _ s4)
end
end K18
set_option Elab.async false
set_option linter.all false
set_option maxRecDepth 100000
set_option pp.deepTerms false
set_option pp.maxSteps 400
set_option maxHeartbeats 4000000
namespace K18
open PySem PySem.Spec PyProof.Rows L2
/-- rows of variables alone: their names with their variables -/
inductive PlC : Str → List Vr → Prop
  | add (x y z : NV) : PlC "add" [.n x, .n y, .n z]
  | sub (x y z : NV) : PlC "sub" [.n x, .n y, .n z]
  | less (x y z : NV) : PlC "less" [.n x, .n y, .n z]
  | nil (s : OV) : PlC "nil" [.o s]
  | cpN (x y : NV) : PlC "copy" [.n x, .n y]
  | cpO (s t : OV) : PlC "copy" [.o s, .o t]
  | same (x : NV) (s t : OV) : PlC "same" [.n x, .o s, .o t]
  | seeN (x : NV) : PlC "see" [.n x]
  | seeO (s : OV) : PlC "see" [.o s]
  | ret (x : NV) : PlC "return" [.n x]
/-- rows of variables alone -/
def Row.isPl : Row → Bool
  | .add .. | .sub .. | .less .. | .nil .. | .cpN .. | .cpO .. | .same .. | .seeN .. | .seeO .. | .ret .. => true
  | _ => false
theorem plc_of (r : Row) (h : r.isPl = true) : ∃ nm vs, PlC nm vs ∧ ∀ q, Row.parts q r = V.str nm :: vs.map fun v => V.str v.s := by
  cases r with
  | num | new | getI | putI | getN | putN | call | ifz | jump => exact absurd (show false = true from h) Bool.false_ne_true
  | add x y z => exact ⟨_, _, .add x y z, fun _ => rfl⟩
  | sub x y z => exact ⟨_, _, .sub x y z, fun _ => rfl⟩
  | less x y z => exact ⟨_, _, .less x y z, fun _ => rfl⟩
  | nil s => exact ⟨_, _, .nil s, fun _ => rfl⟩
  | cpN x y => exact ⟨_, _, .cpN x y, fun _ => rfl⟩
  | cpO s t => exact ⟨_, _, .cpO s t, fun _ => rfl⟩
  | same x s t => exact ⟨_, _, .same x s t, fun _ => rfl⟩
  | seeN x => exact ⟨_, _, .seeN x, fun _ => rfl⟩
  | seeO s => exact ⟨_, _, .seeO s, fun _ => rfl⟩
  | ret x => exact ⟨_, _, .ret x, fun _ => rfl⟩
theorem no_non : ∀ vs : List Vr, inV .non (vs.map fun v => V.str v.kind) = false
  | [] => rfl
  | v :: r => no_non r
theorem all_flat : ∀ vs : List Vr, (vs.map fun v => V.str v.kind).all flatV = true
  | [] => rfl
  | v :: r => all_flat r
theorem PlC.few {nm : Str} {vs : List Vr} (h : PlC nm vs) : vs.length ≤ 3 := by cases h <;> exact Nat.le_of_ble_eq_true rfl
section
variable {P : Program} {w : World} {K : PySem.W.Frag} {mg : Str → Option Value} {base : Heap}
variable {H H' : Hp} {p src : Addr} {A : MA} {m : Mch} {G : Prg}
/-! is_plain_row -/
def spPlain (K : PySem.W.Frag) : Sp := fun vs H Q _ => ∃ (src : Addr) (G : Prg) (f : Addr) (b : Bool) (rows : List Row) (t : Addr) (r : Row), vs = [.ref src, .ref f, .ref t] ∧ SrcAt K H src G ∧ FunAt K H f b rows ∧ RowAt true H t r ∧ r.isPl = true ∧ Rt (.bl true) H Q
theorem sc_Source_is_plain_row : FnScope ["self", "function", "row", "kinds", "part"] ["self", "function", "row"] d_Source_is_plain_row.scope := ⟨rfl, rfl, rfl, by decide +kernel, rfl, by decide +kernel, by decide +kernel⟩
theorem k_Source_is_plain_row (T : Tx w K mg) : Ok P w K mg base 2 d_Source_is_plain_row ["self", "function", "row"] (spPlain K) := by
  refine Ok.of T.d_Source_is_plain_row sc_Source_is_plain_row (fun _ _ _ _ _ _ us hl => match us, hl with | [_, _, _], _ => rfl) (fun vs H Q E h => ?_) (fun cdv A outer s H vs Q E hr h => ?_)
  · obtain ⟨src, G, f, b, rows, t, r, rfl, _⟩ := h
    rfl
  · obtain ⟨src, G, f, b, rows, t, r, rfl, S, F, hrow, hp, k⟩ := h
    refine ⟨_, (pss_cons (ps_setLc (i := 3) (own := [("part", 4)]) (g := (gName 4)) (tt := tYes) (by rfl) sc_Source_is_plain_row.nd rfl rfl (sw_true rfl rfl rfl (by decide +kernel)) (pi_tup (pe_slice sl_tup (pv 2) (po_some pe_int) po_none)) (blkOk_by (own := [("part", 4)]) (N := ["self", "function", "row", "kinds", "part"]) (sc := d_Source_is_plain_row.scope) (by decide +kernel)) (fun _ _ _ _ _ => (pg_name (i := 4) sc_Source_is_plain_row.nd rfl (.inl rfl))) (fun _ _ _ _ _ => pts_nil) (fun _ _ _ _ _ => (pe_M (k_Source_kind_in T) (hr.mono (by decide)) T.c_Source T.h_Source_kind_in rfl (pv 0) (pa_cons (pv 1) (pa_cons (pv 4) pa_nil)))))
      (pss_cons (ps_if (pt_cmpR op_in_seq pe_non (pv 3) rfl) (pss_one (ps_ret pe_bl)) pss_nil)
      (pss_cons (ps_if (pt_cmpR op_in_seq (pe_ix ix_tup (pv 2) pe_int (fun _ _ => rfl)) (pe_gr T.g_ARITHMETIC) rfl) (pss_one (ps_ret (pe_cmpR op_notIn_seq (pe_gs T.s_OBJECT) (pv 3) rfl))) pss_nil)
      (pss_cons (ps_if (pt_cmpR op_eq (pe_ix ix_tup (pv 2) pe_int (fun _ _ => rfl)) pe_str (nomark _)) (pss_one (ps_ret (pe_cmpR (op_eqD hr.units) (pv 3) (pe_lst (pa_cons (pe_gs T.s_OBJECT) pa_nil)) (nomark _)))) pss_nil)
      (pss_cons (ps_if (pt_cmpR op_eq (pe_ix ix_tup (pv 2) pe_int (fun _ _ => rfl)) pe_str (nomark _)) (pss_one (ps_ret (pe_cmpR op_eq (pe_ix ix_list (pv 3) pe_int (fun _ _ => rfl)) (pe_ix ix_list (pv 3) pe_int (fun _ _ => rfl)) (nomark _)))) pss_nil)
      (pss_cons (ps_if (pt_cmpR op_eq (pe_ix ix_tup (pv 2) pe_int (fun _ _ => rfl)) pe_str (nomark _)) (pss_one (ps_ret (pe_and (pe_cmpR op_eq (pe_ix ix_list (pv 3) pe_int (fun _ _ => rfl)) (pe_gs T.s_NUMBER) (nomark _)) (pe_one (pe_cmpR op_eq (pe_ix ix_list (pv 3) pe_int (fun _ _ => rfl)) (pe_ix ix_list (pv 3) pe_int (fun _ _ => rfl)) (nomark _)))))) pss_nil)
      (pss_one (ps_ret (pe_or (pe_cmpR op_eq (pe_ix ix_tup (pv 2) pe_int (fun _ _ => rfl)) pe_str (nomark _)) (pe_one (pe_cmpR (op_eqD hr.units) (pv 3) (pe_lst (pa_cons (pe_fld (pv 1) rfl) pa_nil)) (nomark _)))))))))))), ?_⟩
    obtain ⟨q, hr1, _⟩ := hrow
    obtain ⟨dxs, cr, fk, kf, ff, fg, hs, h5, _⟩ := S.fns
    obtain ⟨nm, vs, pc, hq⟩ := plc_of r hp
    rw [hq q] at hr1
    refine ⟨_, rfl, 1, rfl, t, _, rfl, SqT.of hr1, (fun z => ?_), fun c hc => ?_⟩
    · have z1 : HT.sIx (V.str nm :: vs.map fun v => V.str v.s).length 0 (some 1) = 0 := z.1
      rw [show HT.sIx (V.str nm :: vs.map fun v => V.str v.s).length 0 (some 1) = min 1 (V.str nm :: vs.map fun v => V.str v.s).length from HT.sIx_nat _ 0 1, List.length_cons] at z1
      omega
    have s1 : Same H (upd H c (.tup (cutV (V.str nm :: vs.map fun v => V.str v.s) (some 1) none))) := same_new hc
    have hc1 : (upd H c (.tup (cutV (V.str nm :: vs.map fun v => V.str v.s) (some 1) none))) c = some (.tup (vs.map fun v => V.str v.s)) := by rw [upd_same, cut_one]; rfl
    generalize (upd H c (.tup (cutV (V.str nm :: vs.map fun v => V.str v.s) (some 1) none))) = H1 at s1 hc1
    refine ⟨c, rfl, ⟨_, SqT.of hc1⟩, fun D hD => ?_⟩
    refine lc_it (walk_tup (xs := vs.map fun v => V.str v.s)) (fun j H' => H' = upd H1 D (.lst ((vs.map fun v => V.str v.kind).take j))) rfl (fun j H' _ e => by rw [e]; exact SqT.of (same_new hD _ _ hc1)) (fun j v H2 H' hj e yy => ?_) (fun H' e => ?_)
    · obtain ⟨rfl, yy⟩ := yy
      subst e
      have sn : Same H (upd H1 D (.lst ((vs.map fun v => V.str v.kind).take j))) := s1.trans (same_new hD)
      have hj : j < vs.length := by rw [List.length_map] at hj; exact hj
      have yy : (vs.map fun v => V.str v.s)[j]? = some v := yy
      rw [List.getElem?_map, List.getElem?_eq_getElem hj] at yy
      cases yy
      refine ⟨rfl, _, rfl, src, _, _, rfl, sn _ _ hs, by kernel_rfl, _, rfl, _, rfl, src, f, b, rows, vs[j], rfl, F.le (Le.of sn), (vs.map fun v => V.str v.kind).take j, upd_same, ?_, ?_⟩
      · rw [List.length_take]
        have := pc.few
        show min j _ < sizeLine
        exact Nat.lt_of_le_of_lt (Nat.min_le_left _ _) (Nat.lt_of_lt_of_le (Nat.lt_of_lt_of_le hj this) (by decide))
      · rw [upd_upd, take_snoc (l := vs.map fun v => V.str v.kind) (x := V.str vs[j].kind) (by rw [List.getElem?_map, List.getElem?_eq_getElem hj]; rfl)]
    subst e
    have s2 : Same H1 (upd H1 D (.lst ((vs.map fun v => V.str v.kind).take (vs.map fun v => V.str v.s).length))) := same_new hD
    have hD2 : (upd H1 D (.lst ((vs.map fun v => V.str v.kind).take (vs.map fun v => V.str v.s).length))) D = some (.lst (vs.map fun v => V.str v.kind)) := by rw [upd_same, List.take_of_length_le (by rw [List.length_map, List.length_map]; exact Nat.le_refl _)]
    generalize (upd H1 D (.lst ((vs.map fun v => V.str v.kind).take (vs.map fun v => V.str v.s).length))) = H2 at s2 hD2
    have s := s1.trans s2
    have hr2 := s _ _ hr1
    refine ⟨_, rfl, D, _, rfl, .inl (SqL.of hD2), rfl, all_flat vs, _, rfl, ifBf (no_non vs) ?_⟩
    refine ⟨_, rfl, t, _, 0, .str nm, rfl, rfl, SqT.of hr2, atI_nat (j := 0) rfl, _, _, rfl, .inr (T.arith _), rfl, by kernel_rfl, _, rfl, ?_⟩
    cases pc with
    | add x y z => exact ifB (by kernel_rfl) ⟨_, rfl, D, _, rfl, .inl (SqL.of hD2), rfl, all_flat _, qb (by kernel_rfl) (k _ s)⟩
    | sub x y z => exact ifB (by kernel_rfl) ⟨_, rfl, D, _, rfl, .inl (SqL.of hD2), rfl, all_flat _, qb (by kernel_rfl) (k _ s)⟩
    | less x y z => exact ifB (by kernel_rfl) ⟨_, rfl, D, _, rfl, .inl (SqL.of hD2), rfl, all_flat _, qb (by kernel_rfl) (k _ s)⟩
    | nil s0 =>
      refine ifBf (by kernel_rfl) ⟨_, rfl, t, _, 0, _, rfl, rfl, SqT.of hr2, rfl, rfl, _, rfl, ifD_t rfl ?_⟩
      refine ⟨_, rfl, (by show 1 ≤ sizeLine; decide), fun l hl => ?_⟩
      have s3 : Same H2 (upd H2 l (.lst [V.str "object"])) := same_new hl
      exact eq_strs (zs := ["object"]) (ys := ["object"]) (s3 _ _ hD2) upd_same (qb (by kernel_rfl) (k _ (s.trans s3)))
    | cpN x y =>
      refine ifBf (by kernel_rfl) ⟨_, rfl, t, _, 0, _, rfl, rfl, SqT.of hr2, rfl, rfl, _, rfl, ifD_f (by decide +kernel) ?_⟩
      refine ⟨_, rfl, t, _, 0, _, rfl, rfl, SqT.of hr2, rfl, rfl, _, rfl, ifD_t rfl ?_⟩
      exact ⟨_, rfl, D, _, 0, _, rfl, rfl, SqL.of hD2, rfl, _, rfl, D, _, 1, _, rfl, rfl, SqL.of hD2, rfl, rfl, qb (by kernel_rfl) (k _ s)⟩
    | cpO x y =>
      refine ifBf (by kernel_rfl) ⟨_, rfl, t, _, 0, _, rfl, rfl, SqT.of hr2, rfl, rfl, _, rfl, ifD_f (by decide +kernel) ?_⟩
      refine ⟨_, rfl, t, _, 0, _, rfl, rfl, SqT.of hr2, rfl, rfl, _, rfl, ifD_t rfl ?_⟩
      exact ⟨_, rfl, D, _, 0, _, rfl, rfl, SqL.of hD2, rfl, _, rfl, D, _, 1, _, rfl, rfl, SqL.of hD2, rfl, rfl, qb (by kernel_rfl) (k _ s)⟩
    | same x y z =>
      refine ifBf (by kernel_rfl) ⟨_, rfl, t, _, 0, _, rfl, rfl, SqT.of hr2, rfl, rfl, _, rfl, ifD_f (by decide +kernel) ?_⟩
      refine ⟨_, rfl, t, _, 0, _, rfl, rfl, SqT.of hr2, rfl, rfl, _, rfl, ifD_f (by decide +kernel) ?_⟩
      refine ⟨_, rfl, t, _, 0, _, rfl, rfl, SqT.of hr2, rfl, rfl, _, rfl, ifD_t rfl ?_⟩
      refine ⟨_, rfl, D, _, 0, _, rfl, rfl, SqL.of hD2, rfl, rfl, true, rfl, iteT ?_⟩
      exact ⟨_, rfl, D, _, 1, _, rfl, rfl, SqL.of hD2, rfl, _, rfl, D, _, 2, _, rfl, rfl, SqL.of hD2, rfl, rfl, qb (by kernel_rfl) (k _ s)⟩
    | seeN x =>
      refine ifBf (by kernel_rfl) ⟨_, rfl, t, _, 0, _, rfl, rfl, SqT.of hr2, rfl, rfl, _, rfl, ifD_f (by decide +kernel) ?_⟩
      refine ⟨_, rfl, t, _, 0, _, rfl, rfl, SqT.of hr2, rfl, rfl, _, rfl, ifD_f (by decide +kernel) ?_⟩
      refine ⟨_, rfl, t, _, 0, _, rfl, rfl, SqT.of hr2, rfl, rfl, _, rfl, ifD_f (by decide +kernel) ?_⟩
      exact ⟨_, rfl, t, _, 0, _, rfl, rfl, SqT.of hr2, rfl, rfl, true, rfl, iteT (k _ s)⟩
    | seeO x =>
      refine ifBf (by kernel_rfl) ⟨_, rfl, t, _, 0, _, rfl, rfl, SqT.of hr2, rfl, rfl, _, rfl, ifD_f (by decide +kernel) ?_⟩
      refine ⟨_, rfl, t, _, 0, _, rfl, rfl, SqT.of hr2, rfl, rfl, _, rfl, ifD_f (by decide +kernel) ?_⟩
      refine ⟨_, rfl, t, _, 0, _, rfl, rfl, SqT.of hr2, rfl, rfl, _, rfl, ifD_f (by decide +kernel) ?_⟩
      exact ⟨_, rfl, t, _, 0, _, rfl, rfl, SqT.of hr2, rfl, rfl, true, rfl, iteT (k _ s)⟩
    | ret x =>
      obtain ⟨dx, ii, ei, kd, rl, rs, f1, f2, f3, f4, f5⟩ := (F.le (Le.of s)).ex
      refine ifBf (by kernel_rfl) ⟨_, rfl, t, _, 0, _, rfl, rfl, SqT.of hr2, rfl, rfl, _, rfl, ifD_f (by decide +kernel) ?_⟩
      refine ⟨_, rfl, t, _, 0, _, rfl, rfl, SqT.of hr2, rfl, rfl, _, rfl, ifD_f (by decide +kernel) ?_⟩
      refine ⟨_, rfl, t, _, 0, _, rfl, rfl, SqT.of hr2, rfl, rfl, _, rfl, ifD_f (by decide +kernel) ?_⟩
      refine ⟨_, rfl, t, _, 0, _, rfl, rfl, SqT.of hr2, rfl, rfl, false, rfl, iteF ?_⟩
      refine ⟨_, rfl, _, rfl, _, _, _, _, _, rfl, f1, T.c_Function, T.n_Function_result_kind, (by rfl), (by show 1 ≤ sizeLine; decide), fun l hl => ?_⟩
      have s3 : Same H2 (upd H2 l (.lst [V.str "number"])) := same_new hl
      exact eq_strs (zs := ["number"]) (ys := ["number"]) (s3 _ _ hD2) upd_same (qb (by kernel_rfl) (k _ (s.trans s3)))
end
end K18
set_option Elab.async false
set_option linter.all false
set_option maxRecDepth 100000
set_option pp.deepTerms false
set_option pp.maxSteps 400
set_option maxHeartbeats 4000000
namespace K18
open PySem PySem.Spec PyProof.Rows L2
/-! lengths -/
theorem lens_at {w : World} {K : PySem.W.Frag} {mg : Str → Option Value} (T : Tx w K mg) (i : Nat) {k : Str} {n : Nat} (h : lenVals[i]? = some (k, .int n)) : KDct K w (He.ga K "LENGTHS") k (.int n) := by
  obtain ⟨es, m, D⟩ := T.tab
  obtain ⟨u, h1, h2⟩ := He.valsB_ok T.lens (List.mem_of_getElem? h)
  exact ⟨es, m, u, D.at_, D.lit, h1, h2⟩
theorem len_row (r : Row) : ∃ i n : Nat, lenVals[i]? = some (r.word, .int n) ∧ ∀ q, (r.parts q).length = n := by
  cases r with
  | num => exact ⟨0, 3, rfl, fun _ => rfl⟩
  | nil => exact ⟨1, 2, rfl, fun _ => rfl⟩
  | cpN => exact ⟨2, 3, rfl, fun _ => rfl⟩
  | cpO => exact ⟨2, 3, rfl, fun _ => rfl⟩
  | add => exact ⟨3, 4, rfl, fun _ => rfl⟩
  | sub => exact ⟨4, 4, rfl, fun _ => rfl⟩
  | less => exact ⟨6, 4, rfl, fun _ => rfl⟩
  | same => exact ⟨7, 4, rfl, fun _ => rfl⟩
  | new => exact ⟨8, 3, rfl, fun _ => rfl⟩
  | getI => exact ⟨9, 4, rfl, fun _ => rfl⟩
  | getN => exact ⟨9, 4, rfl, fun _ => rfl⟩
  | putI => exact ⟨10, 4, rfl, fun _ => rfl⟩
  | putN => exact ⟨10, 4, rfl, fun _ => rfl⟩
  | call => exact ⟨11, 4, rfl, fun _ => rfl⟩
  | seeN => exact ⟨12, 2, rfl, fun _ => rfl⟩
  | seeO => exact ⟨12, 2, rfl, fun _ => rfl⟩
  | ifz => exact ⟨13, 3, rfl, fun _ => rfl⟩
  | jump => exact ⟨14, 2, rfl, fun _ => rfl⟩
  | ret => exact ⟨15, 2, rfl, fun _ => rfl⟩
theorem word_in (r : Row) : r.word ∈ lenKeys := by
  cases r <;> (dsimp only [Row.word]; decide +kernel)
theorem nv_ok (x : NV) : PyData.strOk x.s = true := by cases x <;> kernel_rfl
theorem ov_ok (x : OV) : PyData.strOk x.s = true := by cases x <;> kernel_rfl
/-- a row as data -/
theorem row_dp {K : PySem.W.Frag} {H : Hp} {t : Addr} {r : Row} (h : RowAt true H t r) : ∃ ds, DpAll K H (match H t with | some (.tup xs) => xs | _ => []) ds ∧ SqT K H t (match H t with | some (.tup xs) => xs | _ => []) ∧ SeqAt.shaped (.tuple ds) = true ∧ PyData.eqv (.tuple ds) (.tuple []) = false := by
  obtain ⟨q, h1, hq⟩ := h
  rw [h1]
  cases r with
  | call x y s =>
    obtain ⟨a, rfl, ha⟩ := hq
    exact ⟨_, .cons (.str _) (.cons (.str _) (.cons (.str _) (.cons (.lst (SqL.of ha) (.cons (.str _) (.cons (.str _) .nil))) .nil))), SqT.of h1, by simp [SeqAt.shaped, PyData.canLay0, PyData.canLayAll0, PyData.depth, PyData.depthAll, nv_ok, ov_ok] <;> (first | kernel_rfl | (and_intros <;> kernel_rfl)), by simp [PyData.eqv, PyData.eqvAll]⟩
  | num => exact ⟨_, .cons (.str _) (.cons (.str _) (.cons (.int _) .nil)), SqT.of h1, by simp [SeqAt.shaped, PyData.canLay0, PyData.canLayAll0, PyData.depth, PyData.depthAll, nv_ok, ov_ok] <;> (first | kernel_rfl | (and_intros <;> kernel_rfl)), by simp [PyData.eqv, PyData.eqvAll]⟩
  | nil | seeN | seeO | ret => exact ⟨_, .cons (.str _) (.cons (.str _) .nil), SqT.of h1, by simp [SeqAt.shaped, PyData.canLay0, PyData.canLayAll0, PyData.depth, PyData.depthAll, nv_ok, ov_ok] <;> (first | kernel_rfl | (and_intros <;> kernel_rfl)), by simp [PyData.eqv, PyData.eqvAll]⟩
  | jump => exact ⟨_, .cons (.str _) (.cons (.int _) .nil), SqT.of h1, by simp [SeqAt.shaped, PyData.canLay0, PyData.canLayAll0, PyData.depth, PyData.depthAll, nv_ok, ov_ok] <;> (first | kernel_rfl | (and_intros <;> kernel_rfl)), by simp [PyData.eqv, PyData.eqvAll]⟩
  | ifz => exact ⟨_, .cons (.str _) (.cons (.str _) (.cons (.int _) .nil)), SqT.of h1, by simp [SeqAt.shaped, PyData.canLay0, PyData.canLayAll0, PyData.depth, PyData.depthAll, nv_ok, ov_ok] <;> (first | kernel_rfl | (and_intros <;> kernel_rfl)), by simp [PyData.eqv, PyData.eqvAll]⟩
  | cpN | cpO | new => exact ⟨_, .cons (.str _) (.cons (.str _) (.cons (.str _) .nil)), SqT.of h1, by simp [SeqAt.shaped, PyData.canLay0, PyData.canLayAll0, PyData.depth, PyData.depthAll, nv_ok, ov_ok] <;> (first | kernel_rfl | (and_intros <;> kernel_rfl)), by simp [PyData.eqv, PyData.eqvAll]⟩
  | _ => exact ⟨_, .cons (.str _) (.cons (.str _) (.cons (.str _) (.cons (.str _) .nil))), SqT.of h1, by simp [SeqAt.shaped, PyData.canLay0, PyData.canLayAll0, PyData.depth, PyData.depthAll, nv_ok, ov_ok] <;> (first | kernel_rfl | (and_intros <;> kernel_rfl)), by simp [PyData.eqv, PyData.eqvAll]⟩
def wNum : List V := [.str "number", .str "if", .str "jump"]
def wObj : List V := [.str "new", .str "get", .str "put"]
theorem sort_row (r : Row) : (inV (.str r.word) wNum = true ∧ ((∃ x, r = .num x) ∨ (∃ x l, r = .ifz x l) ∨ ∃ l, r = .jump l)) ∨
    (inV (.str r.word) wNum = false ∧ inV (.str r.word) wObj = true ∧ ((∃ s, r = .new s) ∨ (∃ x s, r = .getI x s) ∨ (∃ s y, r = .putI s y) ∨ (∃ s u, r = .getN s u) ∨ ∃ s u, r = .putN s u)) ∨
    (inV (.str r.word) wNum = false ∧ inV (.str r.word) wObj = false ∧ r.word = "call" ∧ ∃ x y s, r = .call x y s) ∨
    (inV (.str r.word) wNum = false ∧ inV (.str r.word) wObj = false ∧ r.word ≠ "call" ∧ r.isPl = true) := by
  cases r with
  | num x => exact .inl ⟨by kernel_rfl, .inl ⟨_, rfl⟩⟩
  | ifz x l => exact .inl ⟨by kernel_rfl, .inr (.inl ⟨_, _, rfl⟩)⟩
  | jump l => exact .inl ⟨by kernel_rfl, .inr (.inr ⟨_, rfl⟩)⟩
  | new s => exact .inr (.inl ⟨by kernel_rfl, by kernel_rfl, .inl ⟨_, rfl⟩⟩)
  | getI x s => exact .inr (.inl ⟨by kernel_rfl, by kernel_rfl, .inr (.inl ⟨_, _, rfl⟩)⟩)
  | putI x s => exact .inr (.inl ⟨by kernel_rfl, by kernel_rfl, .inr (.inr (.inl ⟨_, _, rfl⟩))⟩)
  | getN x s => exact .inr (.inl ⟨by kernel_rfl, by kernel_rfl, .inr (.inr (.inr (.inl ⟨_, _, rfl⟩)))⟩)
  | putN x s => exact .inr (.inl ⟨by kernel_rfl, by kernel_rfl, .inr (.inr (.inr (.inr ⟨_, _, rfl⟩)))⟩)
  | call x y s => exact .inr (.inr (.inl ⟨by kernel_rfl, by kernel_rfl, rfl, _, _, _, rfl⟩))
  | _ => exact .inr (.inr (.inr ⟨by kernel_rfl, by kernel_rfl, by (dsimp only [Row.word]; decide +kernel), rfl⟩))
/-- where rows may go -/
def RowFit (n : Nat) (r : Row) : Prop := (∀ x l, r = .ifz x l → l < n) ∧ ∀ l, r = .jump l → l < n
section
variable {P : Program} {w : World} {K : PySem.W.Frag} {mg : Str → Option Value} {base : Heap}
variable {H H' : Hp} {p src : Addr} {A : MA} {m : Mch} {G : Prg}
/-! agrees -/
def spAgrees (K : PySem.W.Frag) : Sp := fun vs H Q _ => ∃ (src ca fk : Addr) (dx : Addr) (fs : List (Str × V)), vs = [.ref src, .ref ca] ∧ H src = some (.ins (He.ga K "Source") dx fs) ∧ fs.lookup ("field_kinds" : Str) = some (V.ref fk) ∧ H fk = some (.dK []) ∧ PairsAt H ca dFd ∧ Rt (.bl true) H Q
theorem sc_Source_agrees : FnScope ["self", "fields", "name", "kind"] ["self", "fields"] d_Source_agrees.scope := ⟨rfl, rfl, rfl, by decide +kernel, rfl, by decide +kernel, by decide +kernel⟩
theorem k_Source_agrees (T : Tx w K mg) : Ok P w K mg base 1 d_Source_agrees ["self", "fields"] (spAgrees K) := by
  refine Ok.of T.d_Source_agrees sc_Source_agrees (fun _ _ _ _ _ _ us hl => match us, hl with | [_, _], _ => rfl) (fun vs H Q E h => ?_) (fun cdv A outer s H vs Q E hr h => ?_)
  · obtain ⟨src, ca, fk, dx, fs, rfl, _⟩ := h
    rfl
  · obtain ⟨src, ca, fk, dx, fs, rfl, h1, h2, h3, ⟨ts, p1, p2⟩, k⟩ := h
    refine ⟨_, (pss_one (ps_ret (pe_callB (cr_all rfl) (by rfl) T.b_all bt_all (pa_cons ((pe_lc (own := [("name", 2), ("kind", 3)]) (g := (gTup K 2 (gCons (gName 2) (gCons (gName 3) gNil)))) (tt := tYes) (by rfl) sc_Source_agrees.nd  (pi_list (pv 1)) (blkOk_by (own := [("name", 2), ("kind", 3)]) (N := ["self", "fields", "name", "kind"]) (sc := d_Source_agrees.scope) (by decide +kernel)) (fun _ _ _ _ _ => (pg_tup rfl (pgs_cons (pg_name (i := 2) sc_Source_agrees.nd rfl (.inl rfl)) (pgs_cons (pg_name (i := 3) sc_Source_agrees.nd rfl (.inl rfl)) pgs_nil)))) (fun _ _ _ _ _ => pts_nil) (fun _ _ _ _ _ => (pe_cmpR op_eq (pe_dget2 (hu_of hr) (pe_fldK K rfl (pv 0) rfl) (pv 2) (pv 3) ⟨rfl, rfl, rfl, rfl⟩) (pv 3) (nomark _))))) pa_nil)))), ?_⟩
    refine ⟨_, rfl, ca, rfl, ⟨_, SqL.of p1⟩, fun L hL => ?_⟩
    match ts, p2 with
    | [t0, t1], .cons p0 (.cons p1' .nil) =>
      refine lc_it (walk_list (xs := [.ref t0, .ref t1])) (fun j H' => H' = upd H L (.lst ((List.replicate j true).map V.bl))) rfl (fun j H' _ e => by rw [e]; exact (same_new hL).seq (SqL.of p1)) (fun j v H3 H' hj e yy => ?_) (fun H' e => ?_)
      · obtain ⟨rfl, yy⟩ := yy
        subst e
        have sn : Same H (upd H L (.lst ((List.replicate j true).map V.bl))) := same_new hL
        match j, hj with
        | 0, _ => cases yy; exact ⟨t0, _, rfl, SqT.of (sn _ _ p0), rfl, _, _, rfl, _, _, rfl, rfl, rfl, _, rfl, _, _, _, _, _, rfl, sn _ _ h1, T.c_Source, T.n_Source_field_kinds, h2, fk, rfl, .inl ⟨_, .inl (sn _ _ h3)⟩, _, rfl, _, rfl, none, .inl ⟨_, Sum.inr "item", .inl (sn _ _ h3), rfl, rfl⟩, _, rfl, rfl, [], upd_same, (by show 0 < sizeLine; decide), by rw [upd_upd]; rfl⟩
        | 1, _ => cases yy; exact ⟨t1, _, rfl, SqT.of (sn _ _ p1'), rfl, _, _, rfl, _, _, rfl, rfl, rfl, _, rfl, _, _, _, _, _, rfl, sn _ _ h1, T.c_Source, T.n_Source_field_kinds, h2, fk, rfl, .inl ⟨_, .inl (sn _ _ h3)⟩, _, rfl, _, rfl, none, .inl ⟨_, Sum.inr "next", .inl (sn _ _ h3), rfl, rfl⟩, _, rfl, rfl, [.bl true], upd_same, (by show 1 < sizeLine; decide), by rw [upd_upd]; rfl⟩
      subst e
      exact ⟨L, [true, true], rfl, SqL.of upd_same, k _ (same_new hL)⟩
/-! is_row -/
def spIsRow (K : PySem.W.Frag) : Sp := fun vs H Q _ => ∃ (src : Addr) (G : Prg) (f : Addr) (b : Bool) (rows : List Row) (t : Addr) (r : Row), vs = [.ref src, .ref f, .ref t] ∧ SrcAt K H src G ∧ FunAt K H f b rows ∧ RowAt true H t r ∧ RowFit rows.length r ∧ Rt (.bl true) H Q
theorem sc_Source_is_row : FnScope ["self", "function", "row"] ["self", "function", "row"] d_Source_is_row.scope := ⟨rfl, rfl, rfl, by decide +kernel, rfl, by decide +kernel, by decide +kernel⟩
theorem k_Source_is_row (T : Tx w K mg) : Ok P w K mg base 4 d_Source_is_row ["self", "function", "row"] (spIsRow K) := by
  refine Ok.of T.d_Source_is_row sc_Source_is_row (fun _ _ _ _ _ _ us hl => match us, hl with | [_, _, _], _ => rfl) (fun vs H Q E h => ?_) (fun cdv A outer s H vs Q E hr h => ?_)
  · obtain ⟨src, G, f, b, rows, t, r, rfl, _⟩ := h
    rfl
  · obtain ⟨src, G, f, b, rows, t, r, rfl, S, F, hrow, hf, k⟩ := h
    refine ⟨_, (pss_cons (ps_if (PW.pt (pw_or (pt_not (pt_val (pe_is T.b_isinstance T.b_tuple bt_tuple (pv 2)))) (pw_or (pt_cmpR (op_eqD hr.units) (pv 2) (pe_tup pa_nil) (nomark _)) (pw_or1 (pt_not (pt_val (pe_G (k_is_word T) (hr.mono (by decide)) T.g_is_word (pa_cons (pe_ix ix_tup (pv 2) pe_int (fun _ _ => rfl)) (pa_cons (pe_callTy (call_tupKD rfl T.tabk (by decide +kernel) (by decide)) (by rfl) T.b_tuple bt_tuple (pa_cons (pe_gr T.g_LENGTHS) pa_nil)) pa_nil))))))))) (pss_one (ps_ret pe_bl)) pss_nil)
      (pss_cons (ps_if (pt_cmpR op_ne (pe_callB call_len_seq (by rfl) T.b_len PySem.boot_len (pa_cons (pv 2) pa_nil)) (pe_ix ix_kdict (pe_gr T.g_LENGTHS) (pe_ix ix_tup (pv 2) pe_int (fun _ _ => rfl)) (fun _ _ => rfl)) (nomark _)) (pss_one (ps_ret pe_bl)) pss_nil)
      (pss_cons (ps_if (pt_cmpR op_in_seq (pe_ix ix_tup (pv 2) pe_int (fun _ _ => rfl)) (pe_tup (pa_cons pe_str (pa_cons pe_str (pa_cons pe_str pa_nil)))) rfl) (pss_one (ps_ret (pe_M (k_Source_is_number_row T) (hr.mono (by decide)) T.c_Source T.h_Source_is_number_row rfl (pv 0) (pa_cons (pv 1) (pa_cons (pv 2) pa_nil))))) pss_nil)
      (pss_cons (ps_if (pt_cmpR op_in_seq (pe_ix ix_tup (pv 2) pe_int (fun _ _ => rfl)) (pe_tup (pa_cons pe_str (pa_cons pe_str (pa_cons pe_str pa_nil)))) rfl) (pss_one (ps_ret (pe_M (k_Source_is_object_row T) (hr.mono (by decide)) T.c_Source T.h_Source_is_object_row rfl (pv 0) (pa_cons (pv 1) (pa_cons (pv 2) pa_nil))))) pss_nil)
      (pss_one (ps_ret (pe_ifExp (pt_cmpR op_eq (pe_ix ix_tup (pv 2) pe_int (fun _ _ => rfl)) pe_str (nomark _)) (pe_M (k_Source_is_call T) (hr.mono (by decide)) T.c_Source T.h_Source_is_call rfl (pv 0) (pa_cons (pv 1) (pa_cons (pv 2) pa_nil))) (pe_M (k_Source_is_plain_row T) (hr.mono (by decide)) T.c_Source T.h_Source_is_plain_row rfl (pv 0) (pa_cons (pv 1) (pa_cons (pv 2) pa_nil)))))))))), ?_⟩
    obtain ⟨i, n, l1, l2⟩ := len_row r
    obtain ⟨dxs, cr, fk, kf, ff, fg, hs, _⟩ := S.fns
    have hrow0 := hrow
    obtain ⟨q, hr1, _⟩ := hrow
    refine ⟨_, rfl, _, _, _, _, rfl, .base (.tup hr1), by decide +kernel, true, rfl, iteF ?_⟩
    refine ⟨_, rfl, (by show 0 ≤ sizeLine; decide), fun e he => ?_⟩
    have s1 : Same H (upd H e (.tup [])) := same_new he
    have he1 : (upd H e (.tup [])) e = some (.tup []) := upd_same
    generalize (upd H e (.tup [])) = H1 at s1 he1
    have hrow1 := hrow0.le (Le.of s1)
    obtain ⟨ds, d1, d2, d3, d4⟩ := row_dp (K := K) hrow1
    refine ⟨_, _, .tup d2 d1, .tup (SqT.of he1) .nil, d3, rfl, _, rfl, ifBf d4 ?_⟩
    refine ⟨_, rfl, t, _, 0, .str r.word, rfl, rfl, SqT.of (s1 _ _ hr1), word_at r q, rfl, fun q1 n1 => ⟨r.word, q1, lenKeys, rfl, SqT.of upd_same, _, rfl, ifBf (by rw [decide_eq_true (word_in r)]; rfl) ?_⟩⟩
    have s2 := s1.trans (same_new (o := .tup (lenKeys.map V.str)) n1)
    generalize (upd H1 q1 (.tup (lenKeys.map V.str))) = H2 at s2
    refine ⟨_, rfl, t, _, rfl, .inr (SqT.of (s2 _ _ hr1)), _, rfl, t, _, 0, .str r.word, rfl, rfl, SqT.of (s2 _ _ hr1), word_at r q, _, _, _, rfl, rfl, lens_at T i l1, rfl, _, rfl, iteNS (by rw [l2 q]) ?_⟩
    refine ⟨_, rfl, t, _, 0, .str r.word, rfl, rfl, SqT.of (s2 _ _ hr1), word_at r q, (by show 3 ≤ sizeLine; decide), fun u hu => ⟨u, wNum, rfl, .inr (SqT.of upd_same), rfl, by kernel_rfl, _, rfl, ?_⟩⟩
    have s3 := s2.trans (same_new (o := .tup wNum) hu)
    rcases sort_row r with ⟨w1, hc⟩ | ⟨w1, w2, hc⟩ | ⟨w1, w2, w3, x, y, s, rfl⟩ | ⟨w1, w2, w3, hc⟩
    · refine ifB w1 ⟨_, rfl, src, _, _, rfl, s3 _ _ hs, by kernel_rfl, _, rfl, _, rfl, src, G, f, b, rows, t, r, rfl, S.le (Le.of s3), F.le (Le.of s3), hrow0.le (Le.of s3), ?_, k _ s3⟩
      rcases hc with ⟨x, e1⟩ | ⟨x, l, e1⟩ | ⟨l, e1⟩
      · exact .inl ⟨x, e1⟩
      · exact .inr (.inl ⟨x, l, e1, hf.1 x l e1⟩)
      · exact .inr (.inr ⟨l, e1, hf.2 l e1⟩)
    · refine ifBf w1 ⟨_, rfl, t, _, 0, .str r.word, rfl, rfl, SqT.of (s3 _ _ hr1), word_at r q, (by show 3 ≤ sizeLine; decide), fun u2 hu2 => ⟨u2, wObj, rfl, .inr (SqT.of upd_same), rfl, by kernel_rfl, _, rfl, ifB w2 ?_⟩⟩
      have s4 := s3.trans (same_new (o := .tup wObj) hu2)
      exact ⟨_, rfl, src, _, _, rfl, s4 _ _ hs, by kernel_rfl, _, rfl, _, rfl, src, G, f, b, rows, t, r, rfl, S.le (Le.of s4), F.le (Le.of s4), hrow0.le (Le.of s4), hc, fun _ s' => k _ (s4.trans s')⟩
    · refine ifBf w1 ⟨_, rfl, t, _, 0, .str _, rfl, rfl, SqT.of (s3 _ _ hr1), word_at _ q, (by show 3 ≤ sizeLine; decide), fun u2 hu2 => ⟨u2, wObj, rfl, .inr (SqT.of upd_same), rfl, by kernel_rfl, _, rfl, ifBf w2 ?_⟩⟩
      have s4 := s3.trans (same_new (o := .tup wObj) hu2)
      refine ⟨_, rfl, t, _, 0, .str _, rfl, rfl, SqT.of (s4 _ _ hr1), word_at _ q, rfl, _, rfl, ifD_t (congrArg V.str w3) ?_⟩
      exact ⟨_, rfl, src, _, _, rfl, s4 _ _ hs, by kernel_rfl, _, rfl, _, rfl, src, G, f, b, rows, t, x, y, s, rfl, S.le (Le.of s4), F.le (Le.of s4), hrow0.le (Le.of s4), fun _ s' => k _ (s4.trans s')⟩
    · refine ifBf w1 ⟨_, rfl, t, _, 0, .str r.word, rfl, rfl, SqT.of (s3 _ _ hr1), word_at r q, (by show 3 ≤ sizeLine; decide), fun u2 hu2 => ⟨u2, wObj, rfl, .inr (SqT.of upd_same), rfl, by kernel_rfl, _, rfl, ifBf w2 ?_⟩⟩
      have s4 := s3.trans (same_new (o := .tup wObj) hu2)
      refine ⟨_, rfl, t, _, 0, .str _, rfl, rfl, SqT.of (s4 _ _ hr1), word_at _ q, rfl, _, rfl, ifD_f (fun z => w3 (V.str.inj z)) ?_⟩
      exact ⟨_, rfl, src, _, _, rfl, s4 _ _ hs, by kernel_rfl, _, rfl, _, rfl, src, G, f, b, rows, t, r, rfl, S.le (Le.of s4), F.le (Le.of s4), hrow0.le (Le.of s4), hc, fun _ s' => k _ (s4.trans s')⟩
end
end K18
set_option Elab.async false
set_option linter.all false
set_option maxRecDepth 100000
set_option pp.deepTerms false
set_option pp.maxSteps 600
set_option maxHeartbeats 4000000
namespace K18
open PySem PySem.Spec PyProof.Rows L2
open Sem (wp)
open AutoSeq1 (wpAny_loadPart')
/-! enumerate(d.values()), d locked -/
section
variable {prog : Program} {w : World} {KK : Type} [DecidableEq KK] {knd : KeyKind prog w KK} {A : Around} {E : Value → Shared → Prop} {s : Shared}
theorem nextOf_val_item {it d : Addr} {i ep : Nat} {kvs : List (KK × Value)} {k : KK} {v : Value} {Q : Value → Shared → Prop} (hit : s.heap.IsValIter it d i kvs.length ep)
    (hm : s.heap.DictAt knd d kvs ep) (hx : kvs[i]? = some (k, v))
    (hQ : ∀ h', h'.IsValIter it d (i + 1) kvs.length ep → Heap.SameBut it s.heap h' → Q v { s with heap := h' }) :
    wpAny (model prog w) A (Builtin.SmallTypes.nextOf (.ref it)) Q E s := by
  obtain ⟨o, ho, hc, hd⟩ := id hit
  obtain ⟨od, es, hod, hcd, hdd, hk, hp, hn⟩ := id hm
  unfold Builtin.SmallTypes.nextOf
  refine wpAny_bind (wpAny_callSpecial?_slot (name := Str.ofString "__next__") hit.typeIs F.slot_dict_valueiterator_next
    (wpAny_call_entry F.slot_dict_valueiterator_next hit.typeIs F.entry_dict_valueiterator_next ?_ (F.args_dict_valueiterator_next_1 _)))
  refine wpAny_bind (wpAny_pure ?_)
  refine wpAny_bind ?_
  refine wpAny_bind ?_
  first | refine wpAny_bind (wpAny_typeNameOfWhole_valiter hit.typeIs (wpAny_pure ?_)) | refine wpAny_bind (wpAny_typeNameOf_valiter hit.typeIs (wpAny_pure ?_))
  refine wpAny_bind (wpAny_fieldsOf ho hd ?_)
  have hown : Builtin.Dict_items.ownsTuple "dict_valueiterator" = false := by decide
  simp only [hown, Bool.false_eq_true, if_false]
  show wpAny _ _ (if (Value.ref d == Value.none) = true then _ else _) _ _ s
  rw [if_neg (show ¬ ((Value.ref d == Value.none) = true) from Bool.false_ne_true)]
  refine wpAny_bind (wpAny_pure ?_)
  refine wpAny_bind (wpAny_dictEntries hod hdd ?_)
  have hsz : es.size = kvs.length := by rw [← hp.length]; simp
  rw [if_neg (by rw [hsz]; simp)]
  refine wpAny_bind (wpAny_pure ?_)
  refine wpAny_bind (wpAny_dictEpoch hod hdd ?_)
  rw [if_neg (by simp)]
  refine wpAny_pure ?_
  have hlt : i < kvs.length := by
    rcases Nat.lt_or_ge i kvs.length with h | h
    · exact h
    · simp [List.getElem?_eq_none h] at hx
  have hlt' : i < es.size := by rw [hsz]; exact hlt
  have hval : es[i].val = v := (hp.get? (e := es[i]) (by simp [hlt']) hx).2
  simp only [show ¬ ((i : Int) < 0) from by omega, if_false, Int.toNat_natCast, Array.getElem?_eq_getElem hlt']
  refine wpAny_bind ?_
  first | refine wpAny_bind (wpAny_typeNameOfWhole_valiter hit.typeIs (wpAny_pure ?_)) | refine wpAny_bind (wpAny_typeNameOf_valiter hit.typeIs (wpAny_pure ?_))
  refine wpAny_bind (wpAny_isOneOf_valiter hit.typeIs ?_)
  show wpAny _ _ (setField (.ref it) 1 (rawInt ((i : Int) + 1)) >>= _) _ _ s
  refine wpAny_bind (wpAny_setField ho hd (by simp) ?_)
  have hit' : (s.heap.update it (Obj.mapFields (·.setIfInBounds 1 (rawInt ((i : Int) + 1))))).IsValIter it d (i + 1) kvs.length ep :=
    ⟨_, Heap.get?_update_self _ ho (Obj.isFreed_of_fields (Obj.data_mapFields hd _)), (Obj.cls_mapFields ..).trans hc, by rw [Obj.data_mapFields hd]; simp [rawInt]⟩
  refine wpAny_bind (wpAny_holding ?_)
  refine wpAny_bind (wpAny_isOneOf_valiter (s := { s with heap := s.heap.update it (Obj.mapFields (·.setIfInBounds 1 (rawInt ((i : Int) + 1)))) }) hit'.typeIs ?_)
  refine wpAny_bind (wpAny_isOneOf_valiter (s := { s with heap := s.heap.update it (Obj.mapFields (·.setIfInBounds 1 (rawInt ((i : Int) + 1)))) }) hit'.typeIs ?_)
  show wpAny _ _ (pure es[i].val) _ _ _
  exact wpAny_pure (wpAny_pure ⟨_, rfl, wpAny_pure (hval ▸ hQ _ hit' (Heap.SameBut.update ..))⟩)
theorem nextOf_val_end {it d : Addr} {i ep : Nat} {kvs : List (KK × Value)} {Q : Value → Shared → Prop} (hh : A.handled = none) (hit : s.heap.IsValIter it d i kvs.length ep)
    (hm : s.heap.DictAt knd d kvs ep) (hx : kvs[i]? = none)
    (hE : ∀ h' e, Heap.ExtBut it s.heap h' → (∃ o, h'.get? e = some o ∧ o.cls = .type "StopIteration") → E (.ref e) { s with heap := h' }) :
    wpAny (model prog w) A (Builtin.SmallTypes.nextOf (.ref it)) Q E s := by
  obtain ⟨o, ho, hc, hd⟩ := id hit
  obtain ⟨od, es, hod, hcd, hdd, hk, hp, hn⟩ := id hm
  unfold Builtin.SmallTypes.nextOf
  refine wpAny_bind (wpAny_callSpecial?_slot (name := Str.ofString "__next__") hit.typeIs F.slot_dict_valueiterator_next
    (wpAny_call_entry F.slot_dict_valueiterator_next hit.typeIs F.entry_dict_valueiterator_next ?_ (F.args_dict_valueiterator_next_1 _)))
  refine wpAny_bind (wpAny_pure ?_)
  refine wpAny_bind ?_
  refine wpAny_bind ?_
  first | refine wpAny_bind (wpAny_typeNameOfWhole_valiter hit.typeIs (wpAny_pure ?_)) | refine wpAny_bind (wpAny_typeNameOf_valiter hit.typeIs (wpAny_pure ?_))
  refine wpAny_bind (wpAny_fieldsOf ho hd ?_)
  have hown : Builtin.Dict_items.ownsTuple "dict_valueiterator" = false := by decide
  simp only [hown, Bool.false_eq_true, if_false]
  show wpAny _ _ (if (Value.ref d == Value.none) = true then _ else _) _ _ s
  rw [if_neg (show ¬ ((Value.ref d == Value.none) = true) from Bool.false_ne_true)]
  refine wpAny_bind (wpAny_pure ?_)
  refine wpAny_bind (wpAny_dictEntries hod hdd ?_)
  have hsz : es.size = kvs.length := by rw [← hp.length]; simp
  rw [if_neg (by rw [hsz]; simp)]
  refine wpAny_bind (wpAny_pure ?_)
  refine wpAny_bind (wpAny_dictEpoch hod hdd ?_)
  rw [if_neg (by simp)]
  refine wpAny_pure ?_
  have hge : es.size ≤ i := by rw [hsz]; simpa using hx
  simp only [show ¬ ((i : Int) < 0) from by omega, if_false, Int.toNat_natCast, Array.getElem?_eq_none hge]
  refine wpAny_bind ?_
  first | refine wpAny_bind (wpAny_typeNameOfWhole_valiter hit.typeIs (wpAny_pure ?_)) | refine wpAny_bind (wpAny_typeNameOf_valiter hit.typeIs (wpAny_pure ?_))
  show wpAny _ _ (setField (.ref it) 0 .none >>= _) _ _ s
  refine wpAny_bind (wpAny_setField ho hd (by simp) ?_)
  show wpAny _ _ (newExc (.type "StopIteration") [] >>= _) _ _ _
  refine wpAny_bind ?_
  simp only [newExc, newTuple]
  refine wpAny_bind (wpAny_newObj_type ?_ (by size_fits))
  refine wpAny_bind (m := firstArgMember _ _) (wpAny_of_eq (a := Value.none) (by first | rfl | (simp only [firstArgMember]; rfl)) ?_)
  refine wpAny_newObj_type ?_ (by size_fits)
  simp only [raiseNew]
  refine wpAny_bind (wpAny_handled ?_)
  first | rw [show A.in1.handled = none from hh] | rw [hh]
  refine wpAny_bind (wpAny_pure (wpAny_throw ?_))
  exact hE _ _ (((Heap.SameBut.update ..).extBut.push _).push _) ⟨_, Heap.get?_push_size _ rfl, rfl⟩
end
theorem Draws.vals {prog : Program} {w : World} {KK : Type} [DecidableEq KK] {knd : KeyKind prog w KK} {A : Around} (hh : A.handled = none) (it d : Addr) (hne : d ≠ it) (kvs : List (KK × Value)) (ep : Nat) :
    Draws prog w A it [it, d] kvs.length (fun i v => ∃ k, kvs[i]? = some (k, v)) (fun i h => h.IsValIter it d i kvs.length ep ∧ h.DictAt knd d kvs ep) where
  live := fun _ _ st => let ⟨o, ho, _⟩ := st.1; ⟨o, ho⟩
  frame := fun _ _ _ st hk => ⟨st.1.at fun o e => hk it (by simp) o e, let ⟨o, es, ho, r⟩ := st.2; ⟨o, es, hk d (by simp) o ho, r⟩⟩
  item := fun i s Q E hi st hQ => by
    have hx : kvs[i]? = some (kvs[i].1, kvs[i].2) := List.getElem?_eq_getElem hi
    refine nextOf_val_item st.1 st.2 hx fun h' hit' hs' => ?_
    refine hQ _ h' s.toks ⟨_, hx⟩ ⟨hit', ?_⟩ hs'
    obtain ⟨o, es, ho, r⟩ := st.2
    exact ⟨o, es, (hs'.2 d hne).trans ho, r⟩
  done := fun s Q E st hE => nextOf_val_end hh st.1 st.2 (List.getElem?_eq_none (Nat.le_refl _)) hE
theorem meets_enumerate_newV (v d : Addr) (es : Array DictEntry) (ep : Nat) (dct : Option Addr) (sl : Array (Option Value)) :
    Meets (Builtin.«enumerate.__new__» ⟨[.type "enumerate", .ref v], []⟩) (fun _ R s => s.heap.get? v = some { cls := .type "dict_values", dict := dct, data := .fields #[.ref d], slots := sl } ∧ s.heap.DictRaw d es ep ∧
      R (.ok (.ret (.ref (s.heap.push { cls := .type "dict_valueiterator", data := .fields #[.ref d, .int 0 0, .int es.size 0, .int ep 0] }).objs.size)))
        { s with heap := (s.heap.push { cls := .type "dict_valueiterator", data := .fields #[.ref d, .int 0 0, .int es.size 0, .int ep 0] }).push { cls := .type "enumerate", data := .fields #[.none, .bool false, .ref s.heap.objs.size, rawInt 0, .none, .none] } }) :=
  .of_wp fun prog w A R s h => by
    obtain ⟨hp, g, dd, tk, os⟩ := s
    obtain ⟨hl, hm, h⟩ := h
    have hsub := sub_enumerate
    have hL : Heap.IsValuesView (Shared.heap ⟨hp, g, dd, tk, os⟩) v d := ⟨_, hl, rfl, rfl⟩
    wp_walk using wpAny_loadPart' hl
    refine wpAny_stack_any fun st => wpAny_pure ?_
    split
    · rename_i c _ _ _ _ _
      cases (c == Value.type "enumerate")
      · wp_walk using wpAny_loadPart' hl, wpAny_pyIter_values_raw hL hm
        exact ⟨_, rfl, h⟩
      · wp_walk using wpAny_loadPart' hl, wpAny_pyIter_values_raw hL hm
        exact ⟨_, rfl, h⟩
    · wp_walk using wpAny_loadPart' hl, wpAny_pyIter_values_raw hL hm
      exact ⟨_, rfl, h⟩
section
variable {prog : Program} {w : World} {A : Around} {E : Value → Shared → Prop} {s : Shared}
theorem call_enumerate_vals {v d : Addr} {es : Array DictEntry} {ep : Nat} {Q : Value → Shared → Prop} (hv : s.heap.IsValuesView v d) (hm : s.heap.DictRaw d es ep)
    (h : ∀ h', IsEnum h' (s.heap.objs.size + 1) s.heap.objs.size 0 .none → h'.IsValIter s.heap.objs.size d 0 es.size ep → h'.objs.size = s.heap.objs.size + 2 →
      (∀ b o, s.heap.get? b = some o → h'.get? b = some o) → Q (.ref (s.heap.objs.size + 1)) { s with heap := h' }) :
    wpAny (model prog w) A (call (.type "enumerate") [.ref v]) Q E s := by
  obtain ⟨⟨c, dct, dt, sl⟩, hl, hc, hd⟩ := hv
  replace hc : c = .type "dict_values" := hc
  replace hd : dt = .fields #[.ref d] := hd
  subst hc hd
  refine callType_new F.called_enumerate (by decide) (F.typeCall_enumerate_1 _) (F.newCall_enumerate_1 _) (fun obj => F.args_object_init_2 obj _) F.entry_enumerate_new
    (meets_enumerate_newV v d es ep dct sl) ⟨hl, hm, ?_⟩
  have hz : (s.heap.push { cls := .type "dict_valueiterator", data := .fields #[.ref d, .int 0 0, .int es.size 0, .int ep 0] }).objs.size = s.heap.objs.size + 1 := Heap.size_push ..
  show _ ∧ _
  rw [hz]
  have he : IsEnum ((s.heap.push { cls := .type "dict_valueiterator", data := .fields #[.ref d, .int 0 0, .int es.size 0, .int ep 0] }).push
      { cls := .type "enumerate", data := .fields #[.none, .bool false, .ref s.heap.objs.size, rawInt 0, .none, .none] }) (s.heap.objs.size + 1) s.heap.objs.size 0 .none := by
    have := Heap.get?_push_size (s.heap.push { cls := .type "dict_valueiterator", data := .fields #[.ref d, .int 0 0, .int es.size 0, .int ep 0] })
      (o := { cls := .type "enumerate", data := .fields #[.none, .bool false, .ref s.heap.objs.size, rawInt 0, .none, .none] }) rfl
    rw [hz] at this; exact this
  refine ⟨⟨_, he, rfl⟩, h _ he ⟨_, Heap.get?_push_of_some _ (Heap.get?_push_size _ rfl), rfl, rfl⟩ (by rw [Heap.size_push, hz]) fun b o x => Heap.get?_push_of_some _ (Heap.get?_push_of_some _ x)⟩
end
theorem pyNext_enum_endV {prog : Program} {w : World} {KK : Type} [DecidableEq KK] {knd : KeyKind prog w KK} {A : Around} {E : Value → Shared → Prop} {s : Shared} {e it d : Addr} {i ep : Nat} {j : Int} {kvs : List (KK × Value)} {old : Value} {Q : Option Value → Shared → Prop} (hh : A.handled = none)
    (he : IsEnum s.heap e it j old) (hit : s.heap.IsValIter it d i kvs.length ep) (hm : s.heap.DictAt knd d kvs ep) (hx : kvs[i]? = none)
    (hQ : ∀ h', Heap.ExtBut it s.heap h' → Q none { s with heap := h' }) : wpAny (model prog w) A (pyNext (.ref e)) Q E s := by
  have hT : s.TypeIs (.ref e) "enumerate" := ⟨_, he, rfl⟩
  unfold pyNext
  refine wpAny_bind (wpAny_attempt (wpAny_callSpecial?_slot (name := Str.ofString "__next__") hT F.slot_enumerate_next
    (wpAny_call_entry F.slot_enumerate_next hT F.entry_enumerate_next ?_ (F.args_enumerate_next_1 _))))
  show wpAny _ _ (field (.ref e) 2 >>= _) _ _ _
  refine wpAny_bind (wpAny_field he rfl (x := .ref it) rfl ?_)
  refine wpAny_bind (nextOf_val_end (A := A.in1) hh hit hm hx fun h' x he' hx' => ?_)
  obtain ⟨o, ho, hc⟩ := hx'
  refine wpAny_bind (wpAny_isInstance (T := "StopIteration") (b := true) ⟨o, ho, hc⟩ isSubtype_stop ?_)
  exact wpAny_pure (hQ _ he')
/-- the values of the dict at d, each with its place in a new pair -/
def Itev (d : Addr) (o : Obj) (kvs : List (Key × V)) : It :=
  ⟨fun i H => H d = some (.frz o (.dK kvs)) ∧ i < kvs.length, fun i H v H' => ∃ T x, v = .ref T ∧ H T = none ∧ H' = upd H T (.tup [.int (i : Nat), x]) ∧ kvs[i]?.map Prod.snd = some x, fun i H => H d = some (.frz o (.dK kvs)) ∧ kvs.length ≤ i⟩
theorem turn_enumv {P : Program} {w : World} {K : PySem.W.Frag} {elts : List Expr} {kk : Nat} {tpos : Pos} {o : Obj} {es : Array DictEntry} {ep : Nat} {kvs : List (Key × V)} (d e it : Addr) (hod : o.data = .dict es ep) :
    Turn P w K (.Tuple elts kk tpos) (Itev d o kvs) [e, it] e (fun i h => (∃ old, IsEnum h e it ((i : Nat) : Int) old) ∧ h.IsValIter it d i kvs.length ep ∧ e ≠ it) where
  mem := by simp
  obj := fun i h st b hb => by
    obtain ⟨⟨old, he⟩, ⟨o, ho, hc, hd⟩, _⟩ := st
    have e' : b = e ∨ b = it := by simpa using hb
    rcases e' with z | z
    · rw [z]; exact ⟨_, he, fun v q => nomatch q⟩
    · rw [z]; exact ⟨o, ho, fun v q => by rw [hd] at q; cases q⟩
  keep := fun i h h' st k => let ⟨⟨old, he⟩, hi, hne⟩ := st; ⟨⟨old, k e (by simp) _ he⟩, hi.at fun o q => k it (by simp) o q, hne⟩
  item := by
    intro X hP hw hK hc i pins s σ H E I hf st hg
    subst hP hw hK
    obtain ⟨⟨old, he⟩, hit, hne⟩ := st
    obtain ⟨hd, hi⟩ := hg
    obtain ⟨hs, hgd, hx, es', ep', vs, hdt, hsz, kv, hm⟩ := I.frzK hd
    obtain ⟨rfl, rfl⟩ := dict_ep hod hdt
    have hl : kvs.length = vs.length := Paired.length kv
    have ed : e ≠ d := fun z => by
      have := (hf e (by simp)).1
      rw [z, hd] at this
      cases this
    have id_ : d ≠ it := fun z => by
      have := (hf it (by simp)).1
      rw [← z, hd] at this
      cases this
    have hel : e < s.heap.objs.size := Heap.lt_size he
    have hil : it < s.heap.objs.size := by obtain ⟨_, q, _⟩ := hit; exact Heap.lt_size q
    rw [hl] at hit
    refine wpAny_pyNext_enum_itemD (Draws.vals (A := X.A.in1) (I.ok.hd hc) it d id_ vs _) he ⟨hit, hm⟩ (by omega) hne (by simp [hne, ed]) fun x h' tk hpx ho hst hT hz hk => ?_
    obtain ⟨k, hvx⟩ := hpx
    refine ⟨_, rfl, wpAny_letOwnedTupleGo_enum (s := { s with heap := h', toks := tk + 1 }) ho fun h'' he' sb => ?_⟩
    have hT2 : h''.get? s.heap.objs.size = some { cls := .type "tuple", data := .seq #[.int i tk, x] } := (sb.2 _ (Nat.ne_of_gt hel)).trans hT
    obtain ⟨⟨k', y⟩, hky⟩ : ∃ p, kvs[i]? = some p := ⟨kvs[i], List.getElem?_eq_getElem hi⟩
    obtain ⟨u, hu, ru⟩ := kv_get kv hky
    have hux : u = x := by
      rw [hvx] at hu
      cases hu
      rfl
    subst hux
    have new : ObjOk X.prog X.w (upd H s.heap.objs.size (.tup [.int (i : Nat), y])) h'' s.heap.objs.size (.tup [.int (i : Nat), y]) :=
      ⟨by show 2 ≤ sizeLine; decide, [.int i tk, u], .cons ⟨_, rfl⟩ (.cons ru .nil), ⟨_, hT2, rfl, _, rfl⟩⟩
    have I1 : Inv X pins σ (upd H s.heap.objs.size (.tup [.int (i : Nat), y])) { s with heap := h'', toks := tk + 1 } :=
      I.turnedNew (ch := [e, it]) (fun b ob hb q => (sb.2 b (fun z => hb (by simp [z]))).trans (hk b ob (fun z => hb (by simp [z])) (fun z => hb (by simp [z])) q)) hf (Nat.le_refl _) new
    refine ⟨.ref s.heap.objs.size, _, I1, rfl, ⟨_, y, rfl, I.hok.fresh (Nat.le_refl _), rfl, by rw [hky]; rfl⟩, ⟨⟨u, ?_⟩, ?_, hne⟩, fun b hb => ?_⟩
    · have e1 : ((i + 1 : Nat) : Int) = (i : Int) + 1 := by omega
      rw [e1]; exact he'
    · rw [hl]
      exact hst.1.at fun o q => (sb.2 it (Ne.symm hne)).trans q
    · have hb' : b < s.heap.objs.size := by
        have e' : b = e ∨ b = it := by simpa using hb
        rcases e' with z | z
        · rw [z]; exact hel
        · rw [z]; exact hil
      rw [upd_ne (Nat.ne_of_lt hb')]
      exact (hf b hb).1
  done := by
    intro X hP hw hK hc i pins s σ H E I hf st hg
    subst hP hw hK
    obtain ⟨⟨old, he⟩, hit, hne⟩ := st
    obtain ⟨hd, hi⟩ := hg
    obtain ⟨hs, hgd, hx, es', ep', vs, hdt, hsz, kv, hm⟩ := I.frzK hd
    obtain ⟨rfl, rfl⟩ := dict_ep hod hdt
    have hl : kvs.length = vs.length := Paired.length kv
    have id_ : d ≠ it := fun z => by
      have := (hf it (by simp)).1
      rw [← z, hd] at this
      cases this
    obtain ⟨f0, f1, f2, f3, f4, f5⟩ := hf it (by simp)
    rw [hl] at hit
    exact pyNext_enum_endV (I.ok.hd hc) he hit hm (List.getElem?_eq_none (by omega)) fun h' eb => ⟨rfl, I.turned (t' := s.toks) (fun b o hb q => eb b o hb q) f0 f1 f3 f4 f5⟩
  self := fun A i s Q E st h => let ⟨⟨_, he⟩, _⟩ := st; wpAny_pyIter_enum he h
/-- enumerate(e.values()), the dict locked -/
def iEnumV (td : TE) : TI := fun σ H R => td σ H fun x H1 => ∃ d o kvs, x = .ref d ∧ H1 d = some (.frz o (.dK kvs)) ∧ R (Itev d o kvs) H1
theorem pi_enumV {X : Cx} {e : Expr} {td : TE} {p pos tpos apos cpos : Pos} {elts : List Expr} {kk : Nat} (hg : Gl X "enumerate") (hm : X.mg "enumerate" = none) (he : PE X e td)
    (hbase : attributeBase e "values" X.env (eval e X.env) = eval e X.env := by rfl) (hline : (apos.endLine == cpos.line) = true := by rfl) (hs : starEach [Expr.Call (.Attribute e "values" apos) [] [] cpos] X.env = [(false, eval (Expr.Call (.Attribute e "values" apos) [] [] cpos) X.env)] := by rfl) :
    PI X (.Tuple elts kk tpos) (.Call (.Name "enumerate" p) [.Call (.Attribute e "values" apos) [] [] cpos] [] pos) (iEnumV td) := by
  refine ⟨fun pins s σ H R I h => ?_⟩
  refine Call_ (ld_blt I hg hm boot_enumerate (PyProof.Rows.callWith_type1 ?_ hs rfl))
  rw [hs]
  show wpAny _ _ (spliced [(false, eval (Expr.Call (.Attribute e "values" apos) [] [] cpos) X.env)]) _ _ s
  refine Calls.spliced_cons ?_
  refine wpAny_Call_method (T := "dict") (id := "dict.values") hbase rfl hline F.plainAttrs_dict F.slot_dict_values F.type_dict_values (thn (he.run pins s σ H _ I h) fun u s1 ⟨x, H1, I1, rx, d, o, kvs, ex, hd, q⟩ => ?_)
  subst ex
  obtain rfl : u = Value.ref d := rx
  obtain ⟨hs2, hgd, hx, es, ep, vs, hdt, hsz, kv, hmm⟩ := I1.frzK hd
  have hl : kvs.length = vs.length := Paired.length kv
  refine ⟨hmm.dictOf.typeIs, hmm.dictOf.mapOf.noDict, ?_⟩
  have I2 : Inv X pins σ H1 { s1 with heap := s1.heap.push { cls := .type "dict_values", data := .fields #[.ref d] } } := I1.kept (t' := s1.toks) fun b ob q => Heap.get?_push_of_some _ q
  show wpAny _ _ (callWith cpos (.builtin "dict.values") [.ref d] [] []) _ X.xe s1
  refine method_meetsIn F.slot_dict_values F.entry_dict_values rfl (PySem.evalArgs_none ⟨rfl, hmm.dictOf.typeIs, F.args_dict_values_1 _, _, meets_dict_values (mixKind X.prog X.w) d hs2, ⟨vs, hmm.dictOf⟩, ?_⟩)
  refine Calls.spliced_nil ?_
  refine call_enumerate_vals (v := s1.heap.objs.size) (d := d) ⟨_, Heap.get?_push_size _ rfl, rfl, rfl⟩ (es := es) (ep := ep) ⟨o, Heap.get?_push_of_some _ hgd, hx, hdt⟩ fun h' hen hit hsz2 hk => wpAny_pyIter_enum hen ?_
  have I3 : Inv X pins σ H1 { s1 with heap := h' } := I2.kept (t' := s1.toks) hk
  have hes : es.size = kvs.length := hsz
  rw [hes] at hit
  have hz0 : (s1.heap.push { cls := .type "dict_values", data := .fields #[.ref d] }).objs.size = s1.heap.objs.size + 1 := Heap.size_push ..
  rw [hz0] at hen hit ⊢
  refine ⟨s1.heap.objs.size + 1 + 1, [s1.heap.objs.size + 1 + 1, s1.heap.objs.size + 1], _, _, H1, rfl, I3, turn_enumv d (s1.heap.objs.size + 1 + 1) (s1.heap.objs.size + 1) hdt, ⟨⟨.none, hen⟩, hit, Nat.succ_ne_self _⟩, fun b hb => ?_, q⟩
  have e' : b = s1.heap.objs.size + 1 + 1 ∨ b = s1.heap.objs.size + 1 := by simpa using hb
  have hle : s1.heap.objs.size ≤ b := by
    rcases e' with z | z
    · rw [z]; exact Nat.le_add_right _ 2
    · rw [z]; exact Nat.le_add_right _ 1
  exact I1.fpOk hle (I1.hok.fresh hle)
theorem walk_enumv {d : Addr} {o : Obj} {kvs : List (Key × V)} : Walk (Itev d o kvs) kvs.length (fun H => H d = some (.frz o (.dK kvs))) (YPair (fun i => some (.int (i : Nat))) (fun i => kvs[i]?.map Prod.snd)) := by
  refine ⟨fun i _ hi q => ⟨q, hi⟩, fun _ q => ⟨q, Nat.le_refl _⟩, fun i H v H' _ q y => ?_⟩
  obtain ⟨T, x, h1, h2, h3, h4⟩ := y
  exact ⟨T, .int (i : Nat), x, h1, h2, h3, rfl, h4⟩
end K18
set_option Elab.async false
set_option linter.all false
set_option maxRecDepth 100000
set_option pp.deepTerms false
set_option pp.maxSteps 400
set_option maxHeartbeats 4000000
namespace K18
open PySem PySem.Spec PyProof.Rows L2
section
variable {K : PySem.W.Frag} {H H' : Hp} {kf : Addr} {kvs : List (Key × V)}
/-! what stands stands on while the dict at kf grows -/
structure Grow (kf : Addr) (kvs : List (Key × V)) (H H' : Hp) : Prop where
  but : But kf H H'
  at_ : H kf = some (.dK kvs)
  ne : kvs ≠ kindKvs
theorem Grow.on (g : Grow kf kvs H H') {a : Addr} {o : HO} (h : H a = some o) (ho : o ≠ .dK kvs) : H' a = some o :=
  g.but a o h fun z => ho (by rw [z, g.at_] at h; exact (Option.some.inj h).symm)
theorem Grow.tup (g : Grow kf kvs H H') {a : Addr} {xs : List V} (h : H a = some (.tup xs)) : H' a = some (.tup xs) := g.on h (by intro z; cases z)
theorem Grow.lst (g : Grow kf kvs H H') {a : Addr} {xs : List V} (h : H a = some (.lst xs)) : H' a = some (.lst xs) := g.on h (by intro z; cases z)
theorem Grow.ins (g : Grow kf kvs H H') {a C d : Addr} {fs : List (Str × V)} (h : H a = some (.ins C d fs)) : H' a = some (.ins C d fs) := g.on h (by intro z; cases z)
theorem Grow.kd (g : Grow kf kvs H H') {a : Addr} (h : H a = some (.dK kindKvs)) : H' a = some (.dK kindKvs) := g.on h (fun z => g.ne (by cases z; rfl))
theorem Grow.pairs (g : Grow kf kvs H H') {a : Addr} {ds : List (Str × Str)} (h : PairsAt H a ds) : PairsAt H' a ds := by
  obtain ⟨ts, h1, h2⟩ := h
  exact ⟨ts, g.lst h1, Paired.mapP h2 fun _ _ q => g.tup q⟩
theorem Grow.row (g : Grow kf kvs H H') {l : Bool} {t : Addr} {r : Row} (h : RowAt l H t r) : RowAt l H' t r := by
  obtain ⟨q, h1, hq⟩ := h
  refine ⟨q, g.tup h1, ?_⟩
  cases r with
  | call x y s =>
    obtain ⟨a, z, h2⟩ := hq
    refine ⟨a, z, ?_⟩
    cases l
    · exact g.tup h2
    · exact g.lst h2
  | _ => exact hq
theorem Grow.fn (g : Grow kf kvs H H') {f : Addr} {b : Bool} {rows : List Row} (h : FunAt K H f b rows) : FunAt K H' f b rows := by
  obtain ⟨dx, i, x, kd, rl, rs, h1, h2, h3, h4, h5⟩ := h.ex
  exact ⟨dx, i, x, kd, rl, rs, g.ins h1, g.pairs h2, g.kd h3, g.lst h4, Paired.mapP h5 fun _ _ q => g.row q⟩
/-- a function as it is handed over -/
structure HeadAt (H : Hp) (t : Addr) (b : Bool) (rows : List Row) : Prop where
  ex : ∃ i e rl rs, H t = some (.tup [.str (fnS b), .ref i, .ref e, .str "number", .ref rl]) ∧ PairsAt H i dIn ∧ PairsAt H e dEx ∧ H rl = some (.lst (rs.map V.ref)) ∧ Paired (RowAt true H) rs rows
theorem Grow.head (g : Grow kf kvs H H') {t : Addr} {b : Bool} {rows : List Row} (h : HeadAt H t b rows) : HeadAt H' t b rows := by
  obtain ⟨i, e, rl, rs, h1, h2, h3, h4, h5⟩ := h.ex
  exact ⟨i, e, rl, rs, g.tup h1, g.pairs h2, g.pairs h3, g.lst h4, Paired.mapP h5 fun _ _ q => g.row q⟩
theorem HeadAt.le (g : Le H H') {t : Addr} {b : Bool} {rows : List Row} (h : HeadAt H t b rows) : HeadAt H' t b rows := by
  obtain ⟨i, e, rl, rs, h1, h2, h3, h4, h5⟩ := h.ex
  exact ⟨i, e, rl, rs, g.tup h1, h2.le g, h3.le g, g.lst h4, Paired.mapP h5 fun _ _ q => q.le g⟩
/-- sizes of the rows -/
structure RowsOk (G : Prg) : Prop where
  ne : ∀ b, 1 ≤ (G b).length
  few : ∀ b, (G b).length ≤ 40
/-- the functions kept so far: the first j of f, g -/
def keptD (ff fg : Addr) (j : Nat) : List (Key × V) := [((Sum.inr "f" : Key), V.ref ff), (Sum.inr "g", .ref fg)].take j
theorem keptD_ne (ff fg : Addr) (j : Nat) : keptD ff fg j ≠ kindKvs := by
  intro z
  have h := congrArg List.length z
  have h2 : (keptD ff fg j).length ≤ 2 := by
    unfold keptD
    rw [List.length_take]
    exact Nat.min_le_right _ _
  have h3 : kindKvs.length = 5 := rfl
  omega
end
section
variable {P : Program} {w : World} {K : PySem.W.Frag} {mg : Str → Option Value} {base : Heap}
variable {H H' : Hp} {p src : Addr} {A : MA} {m : Mch} {G : Prg}
def bAt : Nat → Bool
  | 0 => true
  | _ => false
def spSetFns (K : PySem.W.Frag) : Sp := fun vs H Q _ => ∃ (src fl tf tg kf dx : Addr) (fs : List (Str × V)) (G : Prg), vs = [.ref src, .ref fl] ∧ H src = some (.ins (He.ga K "Source") dx fs) ∧ fs.lookup ("kept_functions" : Str) = some (V.ref kf) ∧ H kf = some (.dK []) ∧
  H fl = some (.lst [.ref tf, .ref tg]) ∧ HeadAt H tf true (G true) ∧ HeadAt H tg false (G false) ∧ RowsOk G ∧
  ∀ H' ff fg, But kf H H' → H' kf = some (.dK (keptD ff fg 2)) → FunAt K H' ff true (G true) → FunAt K H' fg false (G false) → Q .non H'
theorem sc_Source_set_functions : FnScope ["self", "functions", "at", "thing"] ["self", "functions"] d_Source_set_functions.scope := ⟨rfl, rfl, rfl, by decide +kernel, rfl, by decide +kernel, by decide +kernel⟩
theorem k_Source_set_functions (T : Tx w K mg) : Ok P w K mg base 5 d_Source_set_functions ["self", "functions"] (spSetFns K) := by
  refine Ok.of T.d_Source_set_functions sc_Source_set_functions (fun _ _ _ _ _ _ us hl => match us, hl with | [_, _], _ => rfl) (fun vs H Q E h => ?_) (fun cdv A outer s H vs Q E hr h => ?_)
  · obtain ⟨src, fl, tf, tg, kf, dx, fs, G, rfl, _⟩ := h
    rfl
  · obtain ⟨src, fl, tf, tg, kf, dx, fs, G, rfl, hs, lk, hk, hl, hf, hg, ok, k⟩ := h
    refine ⟨_, (pss_cons (ps_if (pt_not (pt_val (pe_G (k_is_list T) (hr.mono (by decide)) T.g_is_list (pa_cons (pv 1) (pa_cons pe_int (pa_cons (pe_gi T.i_MOST_FUNCTIONS) pa_nil)))))) pss_never pss_nil)
      (pss_one (ps_for PassesOwn.never rfl (pi_enum (by rfl) T.b_enumerate (pa_cons (pv 1) pa_nil)) (pg_tup rfl (pgs_cons (pg_name (i := 2) sc_Source_set_functions.nd rfl (.inl rfl)) (pgs_cons (pg_name (i := 3) sc_Source_set_functions.nd rfl (.inl rfl)) pgs_nil))) (pss_cons (ps_if (PW.pt (pw_or (pt_not (pt_val (pe_G (k_is_head T) (hr.mono (by decide)) T.g_is_head (pa_cons (pv 3) pa_nil)))) (pw_or1 (pt_cmp (pc_din (hu_of hr) (pe_ix ix_tup (pv 3) pe_int (fun _ _ => rfl)) (pe_fld (pv 0) rfl)))))) pss_never pss_nil)
      (pss_one (ps_dput (hu_of hr) (pe_fld (pv 0) rfl) (pe_ix ix_tup (pv 3) pe_int (fun _ _ => rfl)) (pe_K T.m_Function (k_Function_init T) rfl (hr.mono (by decide)) T.g_Function (pa_cons (pe_ix ix_tup (pv 3) pe_int (fun _ _ => rfl)) (pa_cons (pe_ix ix_tup (pv 3) pe_int (fun _ _ => rfl)) (pa_cons (pe_ix ix_tup (pv 3) pe_int (fun _ _ => rfl)) (pa_cons (pe_ix ix_tup (pv 3) pe_int (fun _ _ => rfl)) (pa_cons (pe_ix ix_tup (pv 3) pe_int (fun _ _ => rfl)) pa_nil)))))) rfl)))))), ?_⟩
    refine ⟨_, rfl, fl, _, 1, 6, rfl, hl, true, rfl, iteF ?_⟩
    refine ⟨_, rfl, fl, _, rfl, SqL.of hl, ?_⟩
    refine for_it (walk_enum (xs := [.ref tf, .ref tg])) (fun j σ H' => But kf H H' ∧ (∃ s2 s3, σ = [some (.ref src), some (.ref fl), s2, s3]) ∧ ∃ ff fg, H' kf = some (.dK (keptD ff fg j)) ∧ (1 ≤ j → FunAt K H' ff true (G true)) ∧ (2 ≤ j → FunAt K H' fg false (G false))) ⟨fun _ _ h _ => h, ⟨_, _, rfl⟩, 0, 0, hk, fun z => absurd z (by decide), fun z => absurd z (by decide)⟩ (fun j σ H' _ e => ?_) (fun j x σ H1 H' hj e y => ?_) (fun σ H' e => ?_)
    · exact SqL.of (e.1 fl _ hl fun z => by rw [z, hk] at hl; cases hl)
    · obtain ⟨bu, ⟨s2, s3, rfl⟩, ff, fg, hk1, hff, hfg⟩ := e
      obtain ⟨t, x1, x2, rfl, nt, rfl, y1, y2⟩ := y
      have y1 : some (V.int (j : Nat)) = some x1 := y1
      cases y1
      have hj : j < 2 := hj
      obtain ⟨tt, rfl, hd0⟩ : ∃ tt, x2 = .ref tt ∧ HeadAt H tt (bAt j) (G (bAt j)) := by
        match j, hj, y2 with
        | 0, _, y2 => exact ⟨tf, (Option.some.inj y2).symm, hf⟩
        | 1, _, y2 => exact ⟨tg, (Option.some.inj y2).symm, hg⟩
      have gr : Grow kf [] H H1 := ⟨bu, hk, by intro z; cases z⟩
      have sn : Same H1 (upd H1 t (.tup [.int (j : Nat), .ref tt])) := same_new nt
      have ht2 : (upd H1 t (.tup [.int (j : Nat), .ref tt])) t = some (.tup [.int (j : Nat), .ref tt]) := upd_same
      generalize (upd H1 t (.tup [.int (j : Nat), .ref tt])) = H2 at sn ht2
      have hd2 := (gr.head hd0).le (Le.of sn)
      have hs2 := sn _ _ (gr.ins hs)
      have hk2 := sn _ _ hk1
      obtain ⟨i, e, rl, rs, d1, d2, d3, d4, d5⟩ := hd2.ex
      have hlen := Paired.len d5
      refine ⟨t, _, rfl, SqT.of ht2, rfl, _, _, rfl, _, _, rfl, rfl, ?_⟩
      refine ⟨_, rfl, tt, bAt j, i, e, rl, rs.map V.ref, rfl, d1, d2, d3, d4, (by rw [List.length_map, hlen]; exact ok.ne _), (by rw [List.length_map, hlen]; exact ok.few _), fun H3 s3 => ⟨true, rfl, iteF ?_⟩⟩
      have hno : valV (keptD ff fg j) (Sum.inr (fnS (bAt j))) = none := by
        match j, hj with
        | 0, _ => rfl
        | 1, _ => kernel_rfl
      refine ⟨_, rfl, tt, _, 0, _, rfl, rfl, SqT.of (s3 _ _ d1), rfl, _, rfl, _, _, _, _, _, rfl, s3 _ _ hs2, T.c_Source, T.n_Source_kept_functions, lk, kf, none, rfl, .inl ⟨_, Sum.inr (fnS (bAt j)), .inl (s3 _ _ hk2), rfl, hno.symm⟩, _, rfl, ifBf rfl ?_⟩
      have c1 := s3 _ _ d1
      refine ⟨_, rfl, tt, _, 0, _, rfl, rfl, SqT.of c1, rfl, _, rfl, tt, _, 1, _, rfl, rfl, SqT.of c1, rfl, _, rfl, tt, _, 2, _, rfl, rfl, SqT.of c1, rfl, _, rfl, tt, _, 3, _, rfl, rfl, SqT.of c1, rfl, _, rfl, tt, _, 4, _, rfl, rfl, SqT.of c1, rfl, fun x dxx nx ndx hne => ?_⟩
      have sM : Same H3 (upd (upd H3 dxx (.own x)) x (.ins (He.ga K "Function") dxx [])) := ((Same.refl H3).put ndx).put nx
      have l3 := Le.of s3
      refine ⟨H3, x, dxx, bAt j, i, e, rl, rs, G (bAt j), rfl, upd_same, sM, nx, d2.le l3, d3.le l3, s3 _ _ d4, Paired.mapP d5 (fun _ _ q => q.le l3), ok.few _, fun H4 Fx e4 => ⟨rfl, ?_⟩⟩
      have s24 := s3.trans e4
      refine ⟨_, rfl, _, _, _, _, _, rfl, s24 _ _ hs2, T.c_Source, T.n_Source_kept_functions, lk, _, rfl, tt, _, 0, _, rfl, rfl, SqT.of (e4 _ _ c1), rfl, kf, _, rfl, .inl ⟨_, Sum.inr (fnS (bAt j)), s24 _ _ hk2, rfl, ?_, rfl⟩, ?_⟩
      · unfold keptD
        rw [List.length_take]
        exact lt_line (Nat.lt_of_le_of_lt (Nat.min_le_right _ _) (show 2 < 1000 by decide))
      have g4 : Grow kf (keptD ff fg j) H4 (upd H4 kf (.dK (putK (keptD ff fg j) (Sum.inr (fnS (bAt j))) (.ref x)))) := ⟨but_upd _ _ _, s24 _ _ hk2, keptD_ne _ _ _⟩
      have sn4 := sn.trans s24
      refine ⟨bu.trans ((But.of sn4).trans g4.but), ⟨_, _, rfl⟩, ?_⟩
      match j, hj with
      | 0, _ =>
        refine ⟨x, x, ?_, fun _ => g4.fn Fx, fun z => absurd z (by decide)⟩
        rw [upd_same]
        rfl
      | 1, _ =>
        refine ⟨ff, x, ?_, fun _ => g4.fn ((hff (by decide)).le (Le.of sn4)), fun _ => g4.fn Fx⟩
        rw [upd_same]
        kernel_rfl
    · obtain ⟨b, _, ff, fg, h1, h2, h3⟩ := e
      exact k _ ff fg b h1 (h2 (show 1 ≤ 2 by decide)) (h3 (show 2 ≤ 2 by decide))
end
end K18
set_option Elab.async false
set_option linter.all false
set_option maxRecDepth 100000
set_option pp.deepTerms false
set_option pp.maxSteps 400
set_option maxHeartbeats 4000000
namespace K18
open PySem PySem.Spec PyProof.Rows L2
/-- rows that a source may have -/
structure GOk (G : Prg) : Prop extends RowsOk G where
  fit : ∀ b (i : Nat) r, (G b)[i]? = some r → RowFit (G b).length r
  last : ∀ b r, (G b)[(G b).length - 1]? = some r → (∃ k, r = .jump k) ∨ ∃ x, r = .ret x
section
variable {P : Program} {w : World} {K : PySem.W.Frag} {mg : Str → Option Value} {base : Heap}
variable {H H' : Hp} {p src : Addr} {A : MA} {m : Mch} {G : Prg}
theorem pairs_fd {H : Hp} {a : Addr} (h : PairsAt H a dFd) : ∃ ps : List Addr, H a = some (.lst (ps.map V.ref)) ∧ Paired (fun p (kv : Key × V) => H p = some (.tup [kV kv.1, kv.2])) ps fieldKvs := by
  obtain ⟨ts, h1, h2⟩ := h
  match ts, h2 with
  | [a, b], .cons p (.cons q .nil) => exact ⟨[a, b], h1, .cons p (.cons q .nil)⟩
def spSrcInit (K : PySem.W.Frag) : Sp := fun vs H Q _ => ∃ (H0 : Hp) (src dx cl tc ca fl tf tg : Addr) (G : Prg), vs = [.ref src, .ref cl, .ref fl] ∧ H src = some (.ins (He.ga K "Source") dx []) ∧ Same H0 H ∧ H0 src = none ∧
  H0 cl = some (.lst [.ref tc]) ∧ H0 tc = some (.tup [.str "cell", .ref ca]) ∧ PairsAt H0 ca dFd ∧ H0 fl = some (.lst [.ref tf, .ref tg]) ∧ HeadAt H0 tf true (G true) ∧ HeadAt H0 tg false (G false) ∧ GOk G ∧
  ∀ H', SrcAt K H' src G → Same H0 H' → Q .non H'
theorem sc_Source_init : FnScope ["self", "classes", "functions", "at", "thing", "function", "place", "row"] ["self", "classes", "functions"] d_Source_init.scope := ⟨rfl, rfl, rfl, by decide +kernel, rfl, by decide +kernel, by decide +kernel⟩
theorem k_Source_init (T : Tx w K mg) : Ok P w K mg base 6 d_Source_init ["self", "classes", "functions"] (spSrcInit K) := by
  refine Ok.of T.d_Source_init sc_Source_init (fun _ _ _ _ _ _ us hl => match us, hl with | [_, _, _], _ => rfl) (fun vs H Q E h => ?_) (fun cdv A outer s H vs Q E hr h => ?_)
  · obtain ⟨H0, src, dx, cl, tc, ca, fl, tf, tg, G, rfl, _⟩ := h
    rfl
  · obtain ⟨H0, src, dx, cl, tc, ca, fl, tf, tg, G, rfl, hx, e0, nx, hcl, htc, hca, hfl, hf, hg, ok, k⟩ := h
    refine ⟨_, (pss_cons (ps_if (pt_not (pt_val (pe_G (k_is_list T) (hr.mono (by decide)) T.g_is_list (pa_cons (pv 1) (pa_cons pe_int (pa_cons (pe_gi T.i_MOST_CLASSES) pa_nil)))))) pss_never pss_nil)
      (pss_cons (ps_fld (pv 0) pe_dnewK rfl)
      (pss_cons (ps_fld (pv 0) pe_dnewK rfl)
      (pss_cons (ps_for PassesOwn.never rfl (pi_enum (by rfl) T.b_enumerate (pa_cons (pv 1) pa_nil)) (pg_tup rfl (pgs_cons (pg_name (i := 3) sc_Source_init.nd rfl (.inl rfl)) (pgs_cons (pg_name (i := 4) sc_Source_init.nd rfl (.inl rfl)) pgs_nil))) (pss_cons (ps_if (PW.pt (pw_or (pt_not (pt_val (pe_G (k_is_class T) (hr.mono (by decide)) T.g_is_class (pa_cons (pv 4) pa_nil)))) (pw_or (pt_cmp (pc_din (hu_of hr) (pe_ix ix_tup (pv 4) pe_int (fun _ _ => rfl)) (pe_fld (pv 0) rfl))) (pw_or1 (pt_not (pt_val (pe_M (k_Source_agrees T) (hr.mono (by decide)) T.c_Source T.h_Source_agrees rfl (pv 0) (pa_cons (pe_ix ix_tup (pv 4) pe_int (fun _ _ => rfl)) pa_nil)))))))) pss_never pss_nil)
      (pss_cons (ps_dput (hu_of hr) (pe_fld (pv 0) rfl) (pe_ix ix_tup (pv 4) pe_int (fun _ _ => rfl)) (pe_callTy call_list_of (by rfl) T.b_list bt_list (pa_cons (pe_ix ix_tup (pv 4) pe_int (fun _ _ => rfl)) pa_nil)) rfl)
      (pss_one (ps_expr (pe_bm PySem.F.plainAttrs_dict PySem.F.slot_dict_update PySem.F.type_dict_update (mt_updP rfl) (pe_fld (pv 0) rfl) (pa_cons (pe_ix ix_tup (pv 4) pe_int (fun _ _ => rfl)) pa_nil)))))))
      (pss_cons (ps_fld (pv 0) pe_dnewK rfl)
      (pss_cons (ps_expr (pe_M (k_Source_set_functions T) (hr.mono (by decide)) T.c_Source T.h_Source_set_functions rfl (pv 0) (pa_cons (pv 2) pa_nil)))
      (pss_one (ps_lock (ps_for PassesOwn.never rfl (pi_enumV (by rfl) T.b_enumerate (pe_fld (pv 0) rfl)) (pg_tup rfl (pgs_cons (pg_name (i := 3) sc_Source_init.nd rfl (.inl rfl)) (pgs_cons (pg_name (i := 5) sc_Source_init.nd rfl (.inl rfl)) pgs_nil))) (pss_cons (ps_for PassesOwn.never rfl (pi_enum (by rfl) T.b_enumerate (pa_cons (pe_ix ix_tup (pe_ix ix_list (pv 2) (pv 3) (fun _ _ => rfl)) pe_int (fun _ _ => rfl)) pa_nil)) (pg_tup rfl (pgs_cons (pg_name (i := 6) sc_Source_init.nd rfl (.inl rfl)) (pgs_cons (pg_name (i := 7) sc_Source_init.nd rfl (.inl rfl)) pgs_nil))) (pss_one (ps_if (pt_not (pt_val (pe_M (k_Source_is_row T) (hr.mono (by decide)) T.c_Source T.h_Source_is_row rfl (pv 0) (pa_cons (pv 5) (pa_cons (pv 7) pa_nil))))) pss_never pss_nil)))
      (pss_one (ps_if (pt_cmpR op_notIn_seq (pe_ix ix_tup (pe_ix ix_list (pe_fld (pv 5) rfl) (pe_un un_neg pe_int) (fun _ _ => rfl)) pe_int (fun _ _ => rfl)) (pe_gr T.g_LASTS) rfl) pss_never pss_nil)))))))))))), ?_⟩
    refine ⟨_, rfl, cl, _, 0, 6, rfl, e0 _ _ hcl, true, rfl, iteF ?_⟩
    refine fun cr ncr => ?_
    have xc : src ≠ cr := ne_of_none hx ncr
    refine ⟨_, rfl, src, _, _, _, rfl, (by rw [upd_ne xc]; exact hx), T.c_Source, T.n_Source_class_rows, (by show 0 < 1000; decide), ?_⟩
    have q1 : (upd (upd H cr (.dK [])) src (.ins (He.ga K "Source") dx (putF "class_rows" (.ref cr) []))) src = some (.ins (He.ga K "Source") dx [("class_rows", .ref cr)]) := upd_same
    have c1 : (upd (upd H cr (.dK [])) src (.ins (He.ga K "Source") dx (putF "class_rows" (.ref cr) []))) cr = some (.dK []) := by rw [upd_ne (Ne.symm xc)]; exact upd_same
    have ncr0 : H0 cr = none := e0.free ncr
    have e1 : Same H0 (upd (upd H cr (.dK [])) src (.ins (He.ga K "Source") dx (putF "class_rows" (.ref cr) []))) := (e0.put ncr0).put nx
    generalize (upd (upd H cr (.dK [])) src (.ins (He.ga K "Source") dx (putF "class_rows" (.ref cr) []))) = H1 at q1 c1 e1
    refine fun fk nfk => ?_
    have xf : src ≠ fk := ne_of_none q1 nfk
    have cf : cr ≠ fk := ne_of_none c1 nfk
    refine ⟨_, rfl, src, _, _, _, rfl, (by rw [upd_ne xf]; exact q1), T.c_Source, T.n_Source_field_kinds, (by show 1 < 1000; decide), ?_⟩
    have q2 : (upd (upd H1 fk (.dK [])) src (.ins (He.ga K "Source") dx (putF "field_kinds" (.ref fk) [("class_rows", .ref cr)]))) src = some (.ins (He.ga K "Source") dx [("class_rows", .ref cr), ("field_kinds", .ref fk)]) := by rw [upd_same]; kernel_rfl
    have c2 : (upd (upd H1 fk (.dK [])) src (.ins (He.ga K "Source") dx (putF "field_kinds" (.ref fk) [("class_rows", .ref cr)]))) cr = some (.dK []) := by rw [upd_ne (Ne.symm xc), upd_ne cf]; exact c1
    have k2 : (upd (upd H1 fk (.dK [])) src (.ins (He.ga K "Source") dx (putF "field_kinds" (.ref fk) [("class_rows", .ref cr)]))) fk = some (.dK []) := by rw [upd_ne (Ne.symm xf)]; exact upd_same
    have nfk0 : H0 fk = none := e1.free nfk
    have e2 : Same H0 (upd (upd H1 fk (.dK [])) src (.ins (He.ga K "Source") dx (putF "field_kinds" (.ref fk) [("class_rows", .ref cr)]))) := (e1.put nfk0).put nx
    generalize (upd (upd H1 fk (.dK [])) src (.ins (He.ga K "Source") dx (putF "field_kinds" (.ref fk) [("class_rows", .ref cr)]))) = H2 at q2 c2 k2 e2
    refine ⟨_, rfl, cl, _, rfl, SqL.of (e2 _ _ hcl), ?_⟩
    refine for_it (walk_enum (xs := [.ref tc])) (fun j σ H' => Same H0 H' ∧ H' src = some (.ins (He.ga K "Source") dx [("class_rows", .ref cr), ("field_kinds", .ref fk)]) ∧ (∃ s3 s4 s5 s6 s7, σ = [some (.ref src), some (.ref cl), some (.ref fl), s3, s4, s5, s6, s7]) ∧
      match j with
      | 0 => H' cr = some (.dK []) ∧ H' fk = some (.dK [])
      | _ => ∃ ca', H' cr = some (.dK [(Sum.inr "cell", .ref ca')]) ∧ PairsAt H' ca' dFd ∧ H' fk = some (.dK fieldKvs)) ⟨e2, q2, ⟨_, _, _, _, _, rfl⟩, c2, k2⟩ (fun j σ H' _ e => SqL.of (e.1 _ _ hcl)) (fun j x σ H3 H' hj e y => ?_) (fun σ H' e => ?_)
    · obtain ⟨e3, q3, ⟨s3, s4, s5, s6, s7, rfl⟩, hc⟩ := e
      obtain ⟨t, x1, x2, rfl, nt, rfl, y1, y2⟩ := y
      match j, hj with
      | 0, _ =>
        obtain ⟨c3, k3⟩ := hc
        cases y1; cases y2
        have sn : Same H3 (upd H3 t (.tup [.int (0 : Nat), .ref tc])) := same_new nt
        have ht3 : (upd H3 t (.tup [.int (0 : Nat), .ref tc])) t = some (.tup [.int (0 : Nat), .ref tc]) := upd_same
        generalize (upd H3 t (.tup [.int (0 : Nat), .ref tc])) = H4 at sn ht3
        refine ⟨t, _, rfl, SqT.of ht3, rfl, _, _, rfl, _, _, rfl, rfl, ?_⟩
        have e4 := e3.trans sn
        refine ⟨_, rfl, tc, ca, rfl, e4 _ _ htc, hca.le (Le.of e4), fun H5 s5' => ⟨true, rfl, iteF ?_⟩⟩
        have e5 := e4.trans s5'
        have s35 := sn.trans s5'
        refine ⟨_, rfl, tc, _, 0, _, rfl, rfl, SqT.of (e5 _ _ htc), rfl, _, rfl, _, _, _, _, _, rfl, s35 _ _ q3, T.c_Source, T.n_Source_class_rows, (by rfl), cr, none, rfl, .inl ⟨_, Sum.inr "cell", .inl (s35 _ _ c3), rfl, rfl⟩, _, rfl, ifBf rfl ?_⟩
        refine ⟨_, rfl, src, _, _, rfl, s35 _ _ q3, by kernel_rfl, _, rfl, tc, _, 1, _, rfl, rfl, SqT.of (e5 _ _ htc), rfl, src, ca, fk, dx, _, rfl, s35 _ _ q3, (by kernel_rfl), s35 _ _ k3, hca.le (Le.of e5), fun H6 s6' => ⟨true, rfl, iteF ?_⟩⟩
        have e6 := e5.trans s6'
        have s36 := s35.trans s6'
        have hca0 := hca
        obtain ⟨ts, p1, p2⟩ := hca0
        refine ⟨_, rfl, tc, _, 1, _, rfl, rfl, SqT.of (e6 _ _ htc), rfl, ca, _, rfl, .inl (SqL.of (e6 _ _ p1)), fun l nl => ?_⟩
        have sl : Same H6 (upd H6 l (.lst (ts.map V.ref))) := same_new nl
        have hl7 : (upd H6 l (.lst (ts.map V.ref))) l = some (.lst (ts.map V.ref)) := upd_same
        generalize (upd H6 l (.lst (ts.map V.ref))) = H7 at sl hl7
        have e7 := e6.trans sl
        have s37 := s36.trans sl
        refine ⟨_, rfl, _, _, _, _, _, rfl, s37 _ _ q3, T.c_Source, T.n_Source_class_rows, (by rfl), _, rfl, tc, _, 0, _, rfl, rfl, SqT.of (e7 _ _ htc), rfl, cr, _, rfl, .inl ⟨[], Sum.inr "cell", s37 _ _ c3, rfl, (by show 0 < sizeLine; decide), rfl⟩, ?_⟩
        have c7 := s37 _ _ c3
        have q8 : (upd H7 cr (.dK (putK [] (Sum.inr "cell") (.ref l)))) src = some (.ins (He.ga K "Source") dx [("class_rows", .ref cr), ("field_kinds", .ref fk)]) := by rw [upd_ne xc]; exact s37 _ _ q3
        have k8 : (upd H7 cr (.dK (putK [] (Sum.inr "cell") (.ref l)))) fk = some (.dK []) := by rw [upd_ne (Ne.symm cf)]; exact s37 _ _ k3
        have c8 : (upd H7 cr (.dK (putK [] (Sum.inr "cell") (.ref l)))) cr = some (.dK [(Sum.inr "cell", .ref l)]) := upd_same
        have lc : l ≠ cr := fun z => by rw [z, c7] at hl7; cases hl7
        have l8 : (upd H7 cr (.dK (putK [] (Sum.inr "cell") (.ref l)))) l = some (.lst (ts.map V.ref)) := by rw [upd_ne lc]; exact hl7
        have e8 : Same H0 (upd H7 cr (.dK (putK [] (Sum.inr "cell") (.ref l)))) := e7.put ncr0
        generalize (upd H7 cr (.dK (putK [] (Sum.inr "cell") (.ref l)))) = H8 at q8 k8 c8 l8 e8
        obtain ⟨ps, m1, m2⟩ := pairs_fd (hca.le (Le.of e8))
        refine ⟨_, rfl, _, _, _, _, .ref fk, rfl, q8, T.c_Source, T.n_Source_field_kinds, (by kernel_rfl), .inr (.inr (.inl ⟨rfl, .inl ⟨_, k8⟩⟩)), _, rfl, tc, _, 1, _, rfl, rfl, SqT.of (e8 _ _ htc), rfl, fk, ca, ps, [], fieldKvs, rfl, rfl, k8, m1, m2, (by show 2 ≤ sizeLine; decide), ?_⟩
        have lf : l ≠ fk := fun z => by rw [z, k8] at l8; cases l8
        have e9 : Same H0 (upd H8 fk (.dK (mergeK [] fieldKvs))) := e8.put nfk0
        refine ⟨e9, by rw [upd_ne xf]; exact q8, ⟨_, _, _, _, _, rfl⟩, l, by rw [upd_ne cf]; exact c8, ⟨ts, by rw [upd_ne lf]; exact l8, Paired.mapP p2 fun _ _ q => e9 _ _ q⟩, by rw [upd_same]; kernel_rfl⟩
    · obtain ⟨e3, q3, ⟨s3, s4, s5, s6, s7, rfl⟩, ca', c3, p3, k3⟩ := e
      refine fun kf nkf => ?_
      have xk : src ≠ kf := ne_of_none q3 nkf
      have ck : cr ≠ kf := ne_of_none c3 nkf
      have fkk : fk ≠ kf := ne_of_none k3 nkf
      refine ⟨_, rfl, src, _, _, _, rfl, (by rw [upd_ne xk]; exact q3), T.c_Source, T.n_Source_kept_functions, (by show 2 < 1000; decide), ?_⟩
      have q4 : (upd (upd H' kf (.dK [])) src (.ins (He.ga K "Source") dx (putF "kept_functions" (.ref kf) [("class_rows", .ref cr), ("field_kinds", .ref fk)]))) src = some (.ins (He.ga K "Source") dx [("class_rows", .ref cr), ("field_kinds", .ref fk), ("kept_functions", .ref kf)]) := by rw [upd_same]; kernel_rfl
      have kf4 : (upd (upd H' kf (.dK [])) src (.ins (He.ga K "Source") dx (putF "kept_functions" (.ref kf) [("class_rows", .ref cr), ("field_kinds", .ref fk)]))) kf = some (.dK []) := by rw [upd_ne (Ne.symm xk)]; exact upd_same
      have nkf0 : H0 kf = none := e3.free nkf
      have b4 : But src H' (upd (upd H' kf (.dK [])) src (.ins (He.ga K "Source") dx (putF "kept_functions" (.ref kf) [("class_rows", .ref cr), ("field_kinds", .ref fk)]))) := (But.of (same_new nkf)).trans (but_upd _ _ _)
      have e4 : Same H0 (upd (upd H' kf (.dK [])) src (.ins (He.ga K "Source") dx (putF "kept_functions" (.ref kf) [("class_rows", .ref cr), ("field_kinds", .ref fk)]))) := (e3.put nkf0).put nx
      generalize (upd (upd H' kf (.dK [])) src (.ins (He.ga K "Source") dx (putF "kept_functions" (.ref kf) [("class_rows", .ref cr), ("field_kinds", .ref fk)]))) = H4 at q4 kf4 b4 e4
      have c4 := b4 _ _ c3 (Ne.symm xc)
      have k4 := b4 _ _ k3 (Ne.symm xf)
      have p4 : PairsAt H4 ca' dFd := by
        obtain ⟨ts, h1, h2⟩ := p3
        exact ⟨ts, b4 _ _ h1 (fun z => by rw [z, q3] at h1; cases h1), Paired.mapP h2 fun a _ q => b4 _ _ q (fun z => by rw [z, q3] at q; cases q)⟩
      refine ⟨_, rfl, src, _, _, rfl, q4, by kernel_rfl, _, rfl, src, fl, tf, tg, kf, dx, _, G, rfl, q4, (by kernel_rfl), kf4, e4 _ _ hfl, hf.le (Le.of e4), hg.le (Le.of e4), ok.toRowsOk, fun H5 ff fg bu hk5 Ff Fg => ?_⟩
      have gr : Grow kf [] H4 H5 := ⟨bu, kf4, by intro z; cases z⟩
      have e5 : Same H0 H5 := fun a o h => bu a o (e4 _ _ h) fun z => by rw [z, nkf0] at h; cases h
      have S5 : SrcAt K H5 src G := ⟨dx, cr, fk, kf, ca', ff, fg, gr.ins q4, .inl (gr.on c4 (by intro z; cases z)), gr.pairs p4, .inl (gr.on k4 (by intro z; cases z)), .inl hk5, Ff, Fg⟩
      refine ⟨kf, _, hk5, trivial, fun od => ?_⟩
      have kn : keptD ff fg 2 ≠ kindKvs := keptD_ne ff fg 2
      have SL : SrcAt K (upd H5 kf (.frz od (.dK (keptD ff fg 2)))) src G := S5.le (Le.lock hk5 kn od)
      have eL : Same H0 (upd H5 kf (.frz od (.dK (keptD ff fg 2)))) := e5.put nkf0
      have hkL : (upd H5 kf (.frz od (.dK (keptD ff fg 2)))) kf = some (.frz od (.dK (keptD ff fg 2))) := upd_same
      have qL : (upd H5 kf (.frz od (.dK (keptD ff fg 2)))) src = some (.ins (He.ga K "Source") dx [("class_rows", .ref cr), ("field_kinds", .ref fk), ("kept_functions", .ref kf)]) := by rw [upd_ne xk]; exact gr.ins q4
      generalize hHL : (upd H5 kf (.frz od (.dK (keptD ff fg 2)))) = HL at SL eL hkL qL
      refine ⟨_, rfl, _, _, _, _, _, rfl, qL, T.c_Source, T.n_Source_kept_functions, (by rfl), kf, od, _, rfl, hkL, ?_⟩
      refine for_it walk_enumv (fun j σ H' => Same HL H' ∧ ∃ s3 s4 s5 s6 s7, σ = [some (.ref src), some (.ref cl), some (.ref fl), s3, s4, s5, s6, s7]) ⟨Same.refl _, _, _, _, _, _, rfl⟩ (fun j σ H' _ e => e.1 _ _ hkL) (fun j x σ H1' H' hj e y => ?_) (fun σ H' e => ?_)
      · obtain ⟨sm, s3, s4, s5, s6, s7, rfl⟩ := e
        obtain ⟨t, x1, x2, rfl, nt, rfl, y1, y2⟩ := y
        have y1 : some (V.int (j : Nat)) = some x1 := y1
        cases y1
        have hj : j < 2 := hj
        obtain ⟨f, tt, rfl, Fj, hd0, hat⟩ : ∃ f tt, x2 = .ref f ∧ FunAt K HL f (bAt j) (G (bAt j)) ∧ HeadAt H0 tt (bAt j) (G (bAt j)) ∧ [V.ref tf, V.ref tg][j]? = some (.ref tt) := by
          have FL := SL
          match j, hj, y2 with
          | 0, _, y2 => exact ⟨ff, tf, (Option.some.inj y2).symm, hHL ▸ Ff.le (Le.lock hk5 kn od), hf, rfl⟩
          | 1, _, y2 => exact ⟨fg, tg, (Option.some.inj y2).symm, hHL ▸ Fg.le (Le.lock hk5 kn od), hg, rfl⟩
        have sn : Same H1' (upd H1' t (.tup [.int (j : Nat), .ref f])) := same_new nt
        have ht2 : (upd H1' t (.tup [.int (j : Nat), .ref f])) t = some (.tup [.int (j : Nat), .ref f]) := upd_same
        generalize (upd H1' t (.tup [.int (j : Nat), .ref f])) = H6 at sn ht2
        have s6 := sm.trans sn
        have e6 := eL.trans s6
        obtain ⟨i, e, rl, rs, d1, d2, d3, d4, d5⟩ := hd0.ex
        have hlen := Paired.len d5
        refine ⟨t, _, rfl, SqT.of ht2, rfl, _, _, rfl, _, _, rfl, rfl, ?_⟩
        refine ⟨_, rfl, _, rfl, fl, _, (j : Int), .ref tt, rfl, rfl, SqL.of (e6 _ _ hfl), atI_nat hat, tt, _, 4, .ref rl, rfl, rfl, SqT.of (e6 _ _ d1), rfl, rl, _, rfl, SqL.of (e6 _ _ d4), ?_⟩
        refine for_it (walk_enum (xs := rs.map V.ref)) (fun j' σ H' => Same HL H' ∧ ∃ s6 s7, σ = [some (.ref src), some (.ref cl), some (.ref fl), some (.int (j : Nat)), s4, some (.ref f), s6, s7]) ⟨s6, _, _, rfl⟩ (fun j' σ H' _ e => SqL.of ((eL.trans e.1) _ _ d4)) (fun j' x σ H1 H' hj' e y => ?_) (fun σ H' e => ?_)
        · obtain ⟨sm2, z6, z7, rfl⟩ := e
          obtain ⟨t2, v1, v2, rfl, nt2, rfl, w1, w2⟩ := y
          have w1 : some (V.int (j' : Nat)) = some v1 := w1
          cases w1
          have w2 : (rs.map V.ref)[j']? = some v2 := w2
          have hj' : j' < rs.length := by rw [List.length_map] at hj'; exact hj'
          have hjG : j' < (G (bAt j)).length := by omega
          have hr0 : (G (bAt j))[j']? = some (G (bAt j))[j'] := List.getElem?_eq_getElem hjG
          generalize (G (bAt j))[j'] = r at hr0
          obtain ⟨a, ha, hrow⟩ := Paired.getR d5 hr0
          rw [List.getElem?_map, ha] at w2
          cases w2
          have sn2 : Same H1 (upd H1 t2 (.tup [.int (j' : Nat), .ref a])) := same_new nt2
          have ht3 : (upd H1 t2 (.tup [.int (j' : Nat), .ref a])) t2 = some (.tup [.int (j' : Nat), .ref a]) := upd_same
          generalize (upd H1 t2 (.tup [.int (j' : Nat), .ref a])) = H7 at sn2 ht3
          have s7 := sm2.trans sn2
          refine ⟨t2, _, rfl, SqT.of ht3, rfl, _, _, rfl, _, _, rfl, rfl, ?_⟩
          refine ⟨_, rfl, src, _, _, rfl, s7 _ _ qL, by kernel_rfl, _, rfl, _, rfl, src, G, f, bAt j, G (bAt j), a, r, rfl, SL.le (Le.of s7), Fj.le (Le.of s7), hrow.le (Le.of (eL.trans s7)), ok.fit _ _ _ hr0, fun H8 s8 => ⟨true, rfl, iteF ?_⟩⟩
          exact ⟨s7.trans s8, _, _, rfl⟩
        · obtain ⟨sm2, z6, z7, rfl⟩ := e
          obtain ⟨dx2, ii, ei, kd, rl2, rs2, f1, f2, f3, f4, f5⟩ := (Fj.le (Le.of sm2)).ex
          have hne := ok.ne (bAt j)
          have hr0 : (G (bAt j))[(G (bAt j)).length - 1]? = some (G (bAt j))[(G (bAt j)).length - 1] := List.getElem?_eq_getElem (by omega)
          generalize (G (bAt j))[(G (bAt j)).length - 1] = r at hr0
          have hlast := ok.last _ _ hr0
          obtain ⟨a, ha, q, ha1, ha2⟩ := Paired.getR f5 hr0
          have hl2 := Paired.len f5
          have hat2 : atI (rs2.map V.ref) (-1) = some (.ref a) := by
            have e1 : rs2 ≠ [] := by
              intro z
              rw [z] at hl2
              have : (0 : Nat) = (G (bAt j)).length := hl2
              omega
            have e2 : rs2 = rs2.dropLast ++ [rs2.getLast e1] := (List.dropLast_concat_getLast e1).symm
            have e3 : rs2.getLast e1 = a := by
              rw [List.getLast_eq_getElem]
              rw [← hl2] at ha
              rw [List.getElem?_eq_getElem (by omega)] at ha
              exact Option.some.inj ha
            rw [e2, e3, List.map_append]
            exact atI_last _ _
          have hin : inV (.str r.word) ((["jump", "return"] : List Str).map V.str) = true := by
            rcases hlast with ⟨z, rfl⟩ | ⟨z, rfl⟩
            · kernel_rfl
            · kernel_rfl
          refine ⟨_, rfl, _, _, _, _, _, rfl, f1, T.c_Function, T.n_Function_row_list, (by rfl), 1, rfl, rl2, _, -1, _, rfl, rfl, SqL.of f4, hat2, a, _, 0, .str r.word, rfl, rfl, SqT.of ha1, word_at r q, _, _, rfl, .inr (T.lasts _), rfl, by kernel_rfl, _, rfl, ifBf (by rw [hin]; rfl) ?_⟩
          exact ⟨sm2, _, _, _, _, _, rfl⟩
      · have s : Same H5 (upd H' kf (.dK (keptD ff fg 2))) := same_unlock hk5 (hHL ▸ e.1)
        exact ⟨e.1 _ _ hkL, k _ (S5.le (Le.of s)) (e5.trans s)⟩
end
end K18
set_option Elab.async false
set_option linter.all false
set_option maxRecDepth 100000
set_option pp.deepTerms false
set_option pp.maxSteps 400
set_option maxHeartbeats 4000000
namespace K18
open PySem PySem.Spec PyProof.Rows L2
def setW : List V := (["number", "nil", "copy", "add", "sub", "times", "less", "same", "new", "get", "call"] : List Str).map V.str
def setV : Option Vr → V
  | none => .non
  | some v => .str v.s
theorem sets_at (r : Row) : (inV (.str r.word) setW = true ∧ ∃ v, r.sets = some v ∧ ∀ q, atI (r.parts q) 1 = some (.str v.s)) ∨ (inV (.str r.word) setW = false ∧ r.sets = none) := by
  cases r with
  | putI | putN | seeN | seeO | ifz | jump | ret => exact .inr ⟨by kernel_rfl, rfl⟩
  | _ => exact .inl ⟨by kernel_rfl, _, rfl, fun _ => rfl⟩
theorem next_sort (r : Row) : (r.word = "return" ∧ ∀ i, r.nexts i = []) ∨ (r.word ≠ "return" ∧ r.word = "jump" ∧ ∃ l, r = .jump l) ∨
    (r.word ≠ "return" ∧ r.word ≠ "jump" ∧ r.word = "if" ∧ ∃ x l, r = .ifz x l) ∨ (r.word ≠ "return" ∧ r.word ≠ "jump" ∧ r.word ≠ "if" ∧ ∀ i, r.nexts i = [i + 1]) := by
  cases r with
  | ret => exact .inl ⟨rfl, fun _ => rfl⟩
  | jump l => exact .inr (.inl ⟨by (dsimp only [Row.word]; decide +kernel), rfl, _, rfl⟩)
  | ifz x l => exact .inr (.inr (.inl ⟨by (dsimp only [Row.word]; decide +kernel), by (dsimp only [Row.word]; decide +kernel), rfl, _, _, rfl⟩))
  | _ => exact .inr (.inr (.inr ⟨by (dsimp only [Row.word]; decide +kernel), by (dsimp only [Row.word]; decide +kernel), by (dsimp only [Row.word]; decide +kernel), fun _ => rfl⟩))
def wR0 : List V := [.str "number", .str "nil", .str "new", .str "jump"]
def wR1 : List V := [.str "see", .str "if", .str "return"]
theorem read_sort (r : Row) : (inV (.str r.word) wR0 = true ∧ r.reads = []) ∨
    (inV (.str r.word) wR0 = false ∧ inV (.str r.word) wR1 = true ∧ ∃ v, r.reads = [v] ∧ ∀ q, atI (r.parts q) 1 = some (.str v.s)) ∨
    (inV (.str r.word) wR0 = false ∧ inV (.str r.word) wR1 = false ∧ r.word = "get" ∧ ∃ v, r.reads = [v] ∧ ∀ q, atI (r.parts q) 2 = some (.str v.s)) ∨
    (inV (.str r.word) wR0 = false ∧ inV (.str r.word) wR1 = false ∧ r.word ≠ "get" ∧ r.word = "put" ∧ ∃ v u, r.reads = [v, u] ∧ ∀ q, atI (r.parts q) 1 = some (.str v.s) ∧ atI (r.parts q) 3 = some (.str u.s)) ∨
    (inV (.str r.word) wR0 = false ∧ inV (.str r.word) wR1 = false ∧ r.word ≠ "get" ∧ r.word ≠ "put" ∧ r.word = "call" ∧ ∃ x y s, r = .call x y s) ∨
    (inV (.str r.word) wR0 = false ∧ inV (.str r.word) wR1 = false ∧ r.word ≠ "get" ∧ r.word ≠ "put" ∧ r.word ≠ "call" ∧ ∃ z, ∀ q, r.parts q = .str r.word :: .str z :: r.reads.map fun v => V.str v.s) := by
  cases r with
  | num | nil | new | jump => exact .inl ⟨by kernel_rfl, rfl⟩
  | seeN | seeO | ifz | ret => exact .inr (.inl ⟨by kernel_rfl, by kernel_rfl, _, rfl, fun _ => rfl⟩)
  | getI | getN => exact .inr (.inr (.inl ⟨by kernel_rfl, by kernel_rfl, rfl, _, rfl, fun _ => rfl⟩))
  | putI | putN => exact .inr (.inr (.inr (.inl ⟨by kernel_rfl, by kernel_rfl, by (dsimp only [Row.word]; decide +kernel), rfl, _, _, rfl, fun _ => ⟨rfl, rfl⟩⟩)))
  | call => exact .inr (.inr (.inr (.inr (.inl ⟨by kernel_rfl, by kernel_rfl, by (dsimp only [Row.word]; decide +kernel), by (dsimp only [Row.word]; decide +kernel), rfl, _, _, _, rfl⟩))))
  | _ => exact .inr (.inr (.inr (.inr (.inr ⟨by kernel_rfl, by kernel_rfl, by (dsimp only [Row.word]; decide +kernel), by (dsimp only [Row.word]; decide +kernel), by (dsimp only [Row.word]; decide +kernel), _, fun _ => rfl⟩))))
theorem cut_two (x y : V) (xs : List V) : cutV (x :: y :: xs) (some 2) none = xs := by
  unfold cutV
  rw [show HT.sIx (x :: y :: xs).length 0 (some 2) = min 2 (x :: y :: xs).length from HT.sIx_nat _ 0 2, HT.sIx_none]
  have e : min 2 (x :: y :: xs).length = 2 := by rw [List.length_cons, List.length_cons]; omega
  rw [e]
  exact List.take_of_length_le (by simp)
theorem nats_perm {ns : List Int} {ks : List Nat} (h : ns.Perm (ks.map fun k => ((k : Nat) : Int))) : ∃ ms : List Nat, ns.map V.int = ms.map (fun n => V.int (n : Nat)) ∧ ms.Perm ks := by
  refine ⟨ns.map Int.toNat, ?_, ?_⟩
  · rw [List.map_map]
    refine List.map_congr_left fun x hx => ?_
    obtain ⟨k, _, e⟩ := List.mem_map.mp (h.mem_iff.mp hx)
    rw [← e]
    rfl
  · have h2 := h.map Int.toNat
    rw [List.map_map] at h2
    have e : (Int.toNat ∘ fun k : Nat => ((k : Nat) : Int)) = id := by funext k; rfl
    rw [e, List.map_id] at h2
    exact h2
section
variable {P : Program} {w : World} {K : PySem.W.Frag} {mg : Str → Option Value} {base : Heap}
variable {H H' : Hp} {p src : Addr} {A : MA} {m : Mch} {G : Prg}
/-! set_by -/
def spSetBy : Sp := fun vs H Q _ => ∃ (ra : Addr) (r : Row), vs = [.ref ra] ∧ RowAt false H ra r ∧ Q (setV r.sets) H
theorem sc_set_by : FnScope ["row"] ["row"] d_set_by.scope := ⟨rfl, rfl, rfl, by decide +kernel, rfl, by decide +kernel, by decide +kernel⟩
theorem k_set_by (T : Tx w K mg) : Ok P w K mg base 1 d_set_by ["row"] spSetBy := by
  refine Ok.of T.d_set_by sc_set_by (fun _ _ _ _ _ _ us hl => match us, hl with | [_], _ => rfl) (fun vs H Q E h => ?_) (fun cdv A outer s H vs Q E hr h => ?_)
  · obtain ⟨ra, r, rfl, _⟩ := h
    rfl
  · obtain ⟨ra, r, rfl, hrow, k⟩ := h
    refine ⟨_, (pss_one (ps_ret (pe_ifExp (pt_cmpR op_in_seq (pe_ix ix_tup (pv 0) pe_int (fun _ _ => rfl)) (pe_gr T.g_SETTING) rfl) (pe_ix ix_tup (pv 0) pe_int (fun _ _ => rfl)) pe_non))), ?_⟩
    obtain ⟨q, h1, _⟩ := hrow
    refine ⟨_, rfl, ra, _, 0, .str r.word, rfl, rfl, SqT.of h1, word_at r q, He.ga K "SETTING", setW, rfl, .inr (T.setting _), rfl, by kernel_rfl, _, rfl, ?_⟩
    rcases sets_at r with ⟨e1, v, e2, e3⟩ | ⟨e1, e2⟩
    · refine ifB e1 ⟨_, rfl, ra, _, 1, _, rfl, rfl, SqT.of h1, e3 q, ?_⟩
      rw [e2] at k
      exact k
    · refine ifBf e1 ?_
      rw [e2] at k
      exact k
/-! call_at -/
def spCallAt (K : PySem.W.Frag) : Sp := fun vs H Q _ => ∃ (f : Addr) (b : Bool) (rows : List Row) (i : Nat) (x y : NV) (s : OV), vs = [.ref f, .int (i : Nat)] ∧ FunAt K H f b rows ∧ rows[i]? = some (.call x y s) ∧ ∀ ra, Q (.ref ra) H
theorem sc_Function_call_at : FnScope ["self", "row", "step"] ["self", "row"] d_Function_call_at.scope := ⟨rfl, rfl, rfl, by decide +kernel, rfl, by decide +kernel, by decide +kernel⟩
theorem k_Function_call_at (T : Tx w K mg) : Ok P w K mg base 1 d_Function_call_at ["self", "row"] (spCallAt K) := by
  refine Ok.of T.d_Function_call_at sc_Function_call_at (fun _ _ _ _ _ _ us hl => match us, hl with | [_, _], _ => rfl) (fun vs H Q E h => ?_) (fun cdv A outer s H vs Q E hr h => ?_)
  · obtain ⟨f, b, rows, i, x, y, s, rfl, _⟩ := h
    rfl
  · obtain ⟨f, b, rows, i, x, y, s, rfl, F, hr0, k⟩ := h
    refine ⟨_, (pss_cons (ps_set (i := 2) sc_Function_call_at.nd rfl (.inl rfl) (pe_ix ix_list (pe_fld (pv 0) rfl) (pv 1) (fun _ _ => rfl)))
      (pss_one (ps_ret (pe_ifExp (pt_cmpR op_eq (pe_ix ix_tup (pv 2) pe_int (fun _ _ => rfl)) pe_str (nomark _)) (pv 2) pe_non)))), ?_⟩
    obtain ⟨dx, ii, ei, kd, rl, rs, f1, f2, f3, f4, f5⟩ := F.ex
    obtain ⟨a, ha, q, h1, _⟩ := Paired.getR f5 hr0
    refine ⟨_, rfl, _, _, _, _, _, rfl, f1, T.c_Function, T.n_Function_row_list, (by rfl), _, rfl, rl, _, (i : Int), _, rfl, rfl, SqL.of f4, atI_nat (by rw [List.getElem?_map, ha]; rfl), ?_⟩
    refine ⟨_, rfl, a, _, 0, _, rfl, rfl, SqT.of h1, word_at _ q, rfl, _, rfl, ifD_t rfl ⟨_, rfl, k a⟩⟩
/-! next_rows -/
def spNext (K : PySem.W.Frag) : Sp := fun vs H Q _ => ∃ (f : Addr) (b : Bool) (rows : List Row) (i : Nat) (r : Row), vs = [.ref f, .int (i : Nat)] ∧ FunAt K H f b rows ∧ rows[i]? = some r ∧
  ∀ H' l (ns : List Nat), Same H H' → H' l = some (.lst (ns.map fun n => V.int (n : Nat))) → ns.Perm (r.nexts i) → Q (.ref l) H'
theorem sc_next_rows : FnScope ["function", "at", "row"] ["function", "at"] d_next_rows.scope := ⟨rfl, rfl, rfl, by decide +kernel, rfl, by decide +kernel, by decide +kernel⟩
theorem k_next_rows (T : Tx w K mg) : Ok P w K mg base 1 d_next_rows ["function", "at"] (spNext K) := by
  refine Ok.of T.d_next_rows sc_next_rows (fun _ _ _ _ _ _ us hl => match us, hl with | [_, _], _ => rfl) (fun vs H Q E h => ?_) (fun cdv A outer s H vs Q E hr h => ?_)
  · obtain ⟨f, b, rows, i, r, rfl, _⟩ := h
    rfl
  · obtain ⟨f, b, rows, i, r, rfl, F, hr0, k⟩ := h
    refine ⟨_, (pss_cons (ps_set (i := 2) sc_next_rows.nd rfl (.inl rfl) (pe_ix ix_list (pe_fld (pv 0) rfl) (pv 1) (fun _ _ => rfl)))
      (pss_cons (ps_if (pt_cmpR op_eq (pe_ix ix_tup (pv 2) pe_int (fun _ _ => rfl)) pe_str (nomark _)) (pss_one (ps_ret (pe_lst pa_nil))) pss_nil)
      (pss_cons (ps_if (pt_cmpR op_eq (pe_ix ix_tup (pv 2) pe_int (fun _ _ => rfl)) pe_str (nomark _)) (pss_one (ps_ret (pe_lst (pa_cons (pe_ix ix_tup (pv 2) pe_int (fun _ _ => rfl)) pa_nil)))) pss_nil)
      (pss_one (ps_ret (pe_ifExp (pt_cmpR op_eq (pe_ix ix_tup (pv 2) pe_int (fun _ _ => rfl)) pe_str (nomark _)) (pe_callB cr_sorted (by rfl) T.b_sorted bt_sorted (pa_cons (pe_lst (pa_cons (pe_op op_add (pv 1) pe_int) (pa_cons (pe_ix ix_tup (pv 2) pe_int (fun _ _ => rfl)) pa_nil))) pa_nil)) (pe_lst (pa_cons (pe_op op_add (pv 1) pe_int) pa_nil)))))))), ?_⟩
    obtain ⟨dx, ii, ei, kd, rl, rs, f1, f2, f3, f4, f5⟩ := F.ex
    obtain ⟨a, ha, q, h1, _⟩ := Paired.getR f5 hr0
    refine ⟨_, rfl, _, _, _, _, _, rfl, f1, T.c_Function, T.n_Function_row_list, (by rfl), _, rfl, rl, _, (i : Int), _, rfl, rfl, SqL.of f4, atI_nat (by rw [List.getElem?_map, ha]; rfl), ?_⟩
    refine ⟨_, rfl, a, _, 0, .str r.word, rfl, rfl, SqT.of h1, word_at _ q, rfl, _, rfl, ?_⟩
    rcases next_sort r with ⟨w1, e⟩ | ⟨w1, w2, g, rfl⟩ | ⟨w1, w2, w3, x, g, rfl⟩ | ⟨w1, w2, w3, e⟩
    · refine ifD_t (congrArg V.str w1) ⟨(by show 0 ≤ sizeLine; decide), fun l nl => ?_⟩
      exact k _ l [] (same_new nl) upd_same (by rw [e])
    · refine ifD_f (fun z => w1 (V.str.inj z)) ⟨_, rfl, a, _, 0, .str _, rfl, rfl, SqT.of h1, word_at _ q, rfl, _, rfl, ifD_t (congrArg V.str w2) ?_⟩
      refine ⟨_, rfl, a, _, 1, _, rfl, rfl, SqT.of h1, rfl, (by show 1 ≤ sizeLine; decide), fun l nl => ?_⟩
      exact k _ l [g] (same_new nl) upd_same (List.Perm.refl _)
    · refine ifD_f (fun z => w1 (V.str.inj z)) ⟨_, rfl, a, _, 0, .str _, rfl, rfl, SqT.of h1, word_at _ q, rfl, _, rfl, ifD_f (fun z => w2 (V.str.inj z)) ?_⟩
      refine ⟨_, rfl, a, _, 0, .str _, rfl, rfl, SqT.of h1, word_at _ q, rfl, _, rfl, ifD_t (congrArg V.str w3) ?_⟩
      refine ⟨_, rfl, _, _, rfl, rfl, _, rfl, a, _, 2, _, rfl, rfl, SqT.of h1, rfl, (by show 2 ≤ sizeLine; decide), fun l nl => ?_⟩
      refine ⟨l, [((i + 1 : Nat) : Int), (g : Int)], rfl, SqL.of upd_same, (by show 2 < 64; decide), fun ns' p hp _ np => ?_⟩
      obtain ⟨ms, m1, m2⟩ := nats_perm (ks := [i + 1, g]) hp
      refine k _ p ms ((same_new nl).trans (same_new np)) (by rw [upd_same, m1]) m2
    · refine ifD_f (fun z => w1 (V.str.inj z)) ⟨_, rfl, a, _, 0, .str _, rfl, rfl, SqT.of h1, word_at _ q, rfl, _, rfl, ifD_f (fun z => w2 (V.str.inj z)) ?_⟩
      refine ⟨_, rfl, a, _, 0, .str _, rfl, rfl, SqT.of h1, word_at _ q, rfl, _, rfl, ifD_f (fun z => w3 (V.str.inj z)) ?_⟩
      refine ⟨_, rfl, _, _, rfl, rfl, (by show 1 ≤ sizeLine; decide), fun l nl => ?_⟩
      exact k _ l [i + 1] (same_new nl) upd_same (by rw [e])
/-! read_by -/
def spReadBy : Sp := fun vs H Q _ => ∃ (ra : Addr) (r : Row), vs = [.ref ra] ∧ RowAt false H ra r ∧
  ∀ H' l, Same H H' → H' l = some (.lst (r.reads.map fun v => V.str v.s)) → Q (.ref l) H'
theorem sc_read_by : FnScope ["row"] ["row"] d_read_by.scope := ⟨rfl, rfl, rfl, by decide +kernel, rfl, by decide +kernel, by decide +kernel⟩
theorem k_read_by (T : Tx w K mg) : Ok P w K mg base 1 d_read_by ["row"] spReadBy := by
  refine Ok.of T.d_read_by sc_read_by (fun _ _ _ _ _ _ us hl => match us, hl with | [_], _ => rfl) (fun vs H Q E h => ?_) (fun cdv A outer s H vs Q E hr h => ?_)
  · obtain ⟨ra, r, rfl, _⟩ := h
    rfl
  · obtain ⟨ra, r, rfl, hrow, k⟩ := h
    refine ⟨_, (pss_cons (ps_if (pt_cmpR op_in_seq (pe_ix ix_tup (pv 0) pe_int (fun _ _ => rfl)) (pe_tup (pa_cons pe_str (pa_cons pe_str (pa_cons pe_str (pa_cons pe_str pa_nil))))) rfl) (pss_one (ps_ret (pe_lst pa_nil))) pss_nil)
      (pss_cons (ps_if (pt_cmpR op_in_seq (pe_ix ix_tup (pv 0) pe_int (fun _ _ => rfl)) (pe_tup (pa_cons pe_str (pa_cons pe_str (pa_cons pe_str pa_nil)))) rfl) (pss_one (ps_ret (pe_lst (pa_cons (pe_ix ix_tup (pv 0) pe_int (fun _ _ => rfl)) pa_nil)))) pss_nil)
      (pss_cons (ps_if (pt_cmpR op_eq (pe_ix ix_tup (pv 0) pe_int (fun _ _ => rfl)) pe_str (nomark _)) (pss_one (ps_ret (pe_lst (pa_cons (pe_ix ix_tup (pv 0) pe_int (fun _ _ => rfl)) pa_nil)))) pss_nil)
      (pss_cons (ps_if (pt_cmpR op_eq (pe_ix ix_tup (pv 0) pe_int (fun _ _ => rfl)) pe_str (nomark _)) (pss_one (ps_ret (pe_lst (pa_cons (pe_ix ix_tup (pv 0) pe_int (fun _ _ => rfl)) (pa_cons (pe_ix ix_tup (pv 0) pe_int (fun _ _ => rfl)) pa_nil))))) pss_nil)
      (pss_one (ps_ret (pe_ifExp (pt_cmpR op_eq (pe_ix ix_tup (pv 0) pe_int (fun _ _ => rfl)) pe_str (nomark _)) (pe_callTy call_list_of (by rfl) T.b_list bt_list (pa_cons (pe_ix ix_tup (pv 0) pe_int (fun _ _ => rfl)) pa_nil)) (pe_callTy call_list_of (by rfl) T.b_list bt_list (pa_cons (pe_slice sl_tup (pv 0) (po_some pe_int) po_none) pa_nil))))))))), ?_⟩
    obtain ⟨q, h1, hq⟩ := hrow
    have wd := word_at r q
    refine ⟨_, rfl, ra, _, 0, .str r.word, rfl, rfl, SqT.of h1, wd, (by show 4 ≤ sizeLine; decide), fun u hu => ⟨u, wR0, rfl, .inr (SqT.of upd_same), rfl, by kernel_rfl, _, rfl, ?_⟩⟩
    have s1 := same_new (o := .tup wR0) hu
    have h2 := s1 _ _ h1
    rcases read_sort r with ⟨w0, e⟩ | ⟨w0, w1, v, e, e2⟩ | ⟨w0, w1, w2, v, e, e2⟩ | ⟨w0, w1, w2, w3, v, v', e, e2⟩ | ⟨w0, w1, w2, w3, w4, x, y, s, rfl⟩ | ⟨w0, w1, w2, w3, w4, z, e⟩
    · refine ifB w0 ⟨(by show 0 ≤ sizeLine; decide), fun l nl => k _ l (s1.trans (same_new nl)) (by rw [upd_same, e]; rfl)⟩
    all_goals refine ifBf w0 ⟨_, rfl, ra, _, 0, .str _, rfl, rfl, SqT.of h2, wd, (by show 3 ≤ sizeLine; decide), fun u2 hu2 => ⟨u2, wR1, rfl, .inr (SqT.of upd_same), rfl, by kernel_rfl, _, rfl, ?_⟩⟩
    all_goals have s2 := s1.trans (same_new (o := .tup wR1) hu2)
    all_goals have h3 := s2 _ _ h1
    · refine ifB w1 ⟨_, rfl, ra, _, 1, _, rfl, rfl, SqT.of h3, e2 q, (by show 1 ≤ sizeLine; decide), fun l nl => k _ l (s2.trans (same_new nl)) (by rw [upd_same, e]; rfl)⟩
    all_goals refine ifBf w1 ⟨_, rfl, ra, _, 0, .str _, rfl, rfl, SqT.of h3, wd, rfl, _, rfl, ?_⟩
    · refine ifD_t (congrArg V.str w2) ⟨_, rfl, ra, _, 2, _, rfl, rfl, SqT.of h3, e2 q, (by show 1 ≤ sizeLine; decide), fun l nl => k _ l (s2.trans (same_new nl)) (by rw [upd_same, e]; rfl)⟩
    all_goals refine ifD_f (fun z => w2 (V.str.inj z)) ⟨_, rfl, ra, _, 0, .str _, rfl, rfl, SqT.of h3, wd, rfl, _, rfl, ?_⟩
    · refine ifD_t (congrArg V.str w3) ⟨_, rfl, ra, _, 1, _, rfl, rfl, SqT.of h3, (e2 q).1, _, rfl, ra, _, 3, _, rfl, rfl, SqT.of h3, (e2 q).2, (by show 2 ≤ sizeLine; decide), fun l nl => k _ l (s2.trans (same_new nl)) (by rw [upd_same, e]; rfl)⟩
    all_goals refine ifD_f (fun z => w3 (V.str.inj z)) ⟨_, rfl, ra, _, 0, .str _, rfl, rfl, SqT.of h3, wd, rfl, _, rfl, ?_⟩
    · obtain ⟨a, rfl, ha⟩ := hq
      refine ifD_t (congrArg V.str w4) ⟨_, rfl, ra, _, 3, _, rfl, rfl, SqT.of h3, rfl, a, _, rfl, .inr (SqT.of (s2 _ _ ha)), fun l nl => k _ l (s2.trans (same_new nl)) (by rw [upd_same]; rfl)⟩
    · refine ifD_f (fun z => w4 (V.str.inj z)) ?_
      rw [e q] at h3
      refine ⟨_, rfl, 2, rfl, ra, _, rfl, SqT.of h3, (fun z2 => ?_), fun c hc => ?_⟩
      · have z1 : HT.sIx (V.str r.word :: V.str z :: r.reads.map fun v => V.str v.s).length 0 (some 2) = 0 := z2.1
        rw [show HT.sIx (V.str r.word :: V.str z :: r.reads.map fun v => V.str v.s).length 0 (some 2) = min 2 (V.str r.word :: V.str z :: r.reads.map fun v => V.str v.s).length from HT.sIx_nat _ 0 2, List.length_cons, List.length_cons] at z1
        omega
      rw [cut_two]
      have s3 := s2.trans (same_new (o := .tup (r.reads.map fun v => V.str v.s)) hc)
      exact ⟨c, _, rfl, .inr (SqT.of upd_same), fun l nl => k _ l (s3.trans (same_new nl)) upd_same⟩
end
end K18
set_option Elab.async false
set_option linter.all false
set_option maxRecDepth 100000
set_option pp.deepTerms false
set_option pp.maxSteps 400
set_option maxHeartbeats 4000000
namespace K18
open PySem PySem.Spec PyProof.Rows L2
/-! dicts of variables' names, all True -/
def kD (ks : List Vr) : List (Key × V) := ks.map fun v => (Sum.inr v.s, V.bl true)
def allVr : List Vr := [.n .a, .n .b, .n .c, .o .o, .o .p]
theorem mem_allVr (v : Vr) : v ∈ allVr := by
  cases v with
  | n x => cases x <;> decide
  | o s => cases s <;> decide
theorem vr_s (v u : Vr) : decide (v.s = u.s) = decide (v = u) := by
  have h : ∀ a ∈ allVr, ∀ b ∈ allVr, decide (a.s = b.s) = decide (a = b) := by decide +kernel
  exact h v (mem_allVr v) u (mem_allVr u)
theorem vr_inj {v u : Vr} (h : v.s = u.s) : v = u := of_decide_eq_true (by rw [← vr_s]; exact decide_eq_true h)
def addK (ks : List Vr) (v : Vr) : List Vr := if v ∈ ks then ks else ks ++ [v]
theorem any_kD (ks : List Vr) (v : Vr) : ((kD ks).any fun kv => decide (kv.1 = (Sum.inr v.s : Key))) = decide (v ∈ ks) := by
  induction ks with
  | nil => rfl
  | cons u r ih =>
    show (decide ((Sum.inr u.s : Key) = Sum.inr v.s) || (kD r).any fun kv => decide (kv.1 = (Sum.inr v.s : Key))) = _
    rw [ih]
    by_cases e : u = v
    · subst e
      simp
    · have h : ¬ ((Sum.inr u.s : Key) = Sum.inr v.s) := fun z => e (vr_inj (Sum.inr.inj z))
      rw [decide_eq_false h, Bool.false_or]
      have e2 : ¬ v = u := fun z => e z.symm
      simp [e2]
theorem putK_kD (ks : List Vr) (v : Vr) : putK (kD ks) (Sum.inr v.s) (.bl true) = kD (addK ks v) := by
  unfold putK addK
  rw [any_kD]
  by_cases h : v ∈ ks
  · rw [if_pos (decide_eq_true h), if_pos h]
    unfold kD
    rw [List.map_map]
    refine List.map_congr_left fun u _ => ?_
    show (if (Sum.inr u.s : Key) = Sum.inr v.s then ((Sum.inr u.s : Key), V.bl true) else (Sum.inr u.s, V.bl true)) = _
    split <;> rfl
  · rw [if_neg (fun z => h (of_decide_eq_true z)), if_neg h]
    unfold kD
    rw [List.map_append]
    rfl
def uniK (ks l : List Vr) : List Vr := l.foldl addK ks
theorem mergeK_kD (l : List Vr) : ∀ ks : List Vr, mergeK (kD ks) (kD l) = kD (uniK ks l) := by
  induction l with
  | nil => intro ks; rfl
  | cons v r ih =>
    intro ks
    show mergeK (putK (kD ks) (Sum.inr v.s) (.bl true)) (kD r) = _
    rw [putK_kD, ih]
    rfl
theorem mem_addK {ks : List Vr} {v u : Vr} : u ∈ addK ks v ↔ u ∈ ks ∨ u = v := by
  unfold addK
  split
  · constructor
    · exact .inl
    · rintro (h | rfl)
      · exact h
      · assumption
  · simp
theorem mem_uniK {u : Vr} (l : List Vr) : ∀ {ks : List Vr}, u ∈ uniK ks l ↔ u ∈ ks ∨ u ∈ l := by
  induction l with
  | nil => intro ks; simp [uniK]
  | cons v r ih =>
    intro ks
    show u ∈ uniK (addK ks v) r ↔ _
    rw [ih, mem_addK, List.mem_cons, or_assoc]
theorem nd_addK {ks : List Vr} (h : ks.Nodup) (v : Vr) : (addK ks v).Nodup := by
  unfold addK
  split
  · exact h
  · rename_i hn
    rw [List.nodup_append]
    refine ⟨h, by simp, fun a ha b hb e => ?_⟩
    rw [List.mem_singleton.mp hb] at e
    exact hn (e ▸ ha)
theorem nd_uniK (l : List Vr) : ∀ {ks : List Vr}, ks.Nodup → (uniK ks l).Nodup := by
  induction l with
  | nil => intro ks h; exact h
  | cons v r ih => intro ks h; exact ih (nd_addK h v)
theorem nd_le : ∀ {l k : List Vr}, l.Nodup → (∀ x ∈ l, x ∈ k) → l.length ≤ k.length
  | [], k, _, _ => Nat.zero_le _
  | x :: r, k, h, s => by
    obtain ⟨h1, h2⟩ := List.nodup_cons.mp h
    have hx := s x List.mem_cons_self
    have := nd_le (l := r) (k := k.erase x) h2 fun y hy => (List.mem_erase_of_ne (fun z : y = x => h1 (by rw [← z]; exact hy))).mpr (s y (List.mem_cons_of_mem _ hy))
    rw [List.length_erase_of_mem hx] at this
    have hp : 0 < k.length := List.length_pos_of_mem hx
    rw [List.length_cons]
    omega
theorem nd_few {ks : List Vr} (h : ks.Nodup) : ks.length ≤ 5 := nd_le (k := allVr) h fun v _ => mem_allVr v
theorem valV_kD (ks : List Vr) (v : Vr) : valV (kD ks) (Sum.inr v.s) = if v ∈ ks then some (.bl true) else none := by
  induction ks with
  | nil => rfl
  | cons u r ih =>
    show valV ((Sum.inr u.s, V.bl true) :: kD r) _ = _
    by_cases e : u = v
    · subst e
      rw [valV_pos rfl, if_pos List.mem_cons_self]
    · rw [valV_neg (fun z => e (vr_inj (Sum.inr.inj z))), ih]
      have e2 : ¬ v = u := fun z => e z.symm
      by_cases h : v ∈ r
      · rw [if_pos h, if_pos (List.mem_cons_of_mem _ h)]
      · rw [if_neg h, if_neg (by simp [e2, h])]
theorem dropK_kD (ks : List Vr) (v : Vr) : dropK (kD ks) (Sum.inr v.s) = kD (ks.filter fun u => decide (u ≠ v)) := by
  unfold dropK kD
  rw [List.filter_map]
  congr 1
  refine List.filter_congr fun u _ => ?_
  show decide ((Sum.inr u.s : Key) ≠ Sum.inr v.s) = decide (u ≠ v)
  by_cases e : u = v
  · subst e; simp
  · have h : (Sum.inr u.s : Key) ≠ Sum.inr v.s := fun z => e (vr_inj (Sum.inr.inj z))
    rw [decide_eq_true h, decide_eq_true e]
end K18
set_option Elab.async false
set_option linter.all false
set_option maxRecDepth 100000
set_option pp.deepTerms false
set_option pp.maxSteps 400
set_option maxHeartbeats 4000000
namespace K18
open PySem PySem.Spec PyProof.Rows L2
/-- a list of such dicts -/
structure FdAt (H : Hp) (L : Addr) (ds : List Addr) (fds : List (List Vr)) : Prop where
  l : H L = some (.lst (ds.map V.ref))
  d : Paired (fun d ks => H d = some (.dK (kD ks))) ds fds
theorem FdAt.same {H H' : Hp} {L : Addr} {ds : List Addr} {fds : List (List Vr)} (e : Same H H') (h : FdAt H L ds fds) : FdAt H' L ds fds := ⟨e _ _ h.l, Paired.mapP h.d fun _ _ q => e _ _ q⟩
section
variable {P : Program} {w : World} {K : PySem.W.Frag} {mg : Str → Option Value} {base : Heap}
variable {H H' : Hp} {p src : Addr} {A : MA} {m : Mch} {G : Prg}
/-! wanted_by_next -/
def spNextW (K : PySem.W.Frag) : Sp := fun vs H Q _ => ∃ (f : Addr) (b : Bool) (rows : List Row) (L : Addr) (ds : List Addr) (fds : List (List Vr)) (i : Nat) (r : Row), vs = [.ref f, .ref L, .int (i : Nat)] ∧ FunAt K H f b rows ∧ rows[i]? = some r ∧ FdAt H L ds fds ∧
  (∀ n ∈ r.nexts i, n < fds.length) ∧ (∀ l ∈ fds, l.Nodup) ∧
  ∀ H' d ks, Same H H' → H d = none → H' d = some (.dK (kD ks)) → ks.Nodup → (∀ v, v ∈ ks ↔ ∃ n ∈ r.nexts i, ∃ l, fds[n]? = some l ∧ v ∈ l) → Q (.ref d) H'
theorem sc_wanted_by_next : FnScope ["function", "found", "at", "some", "row"] ["function", "found", "at"] d_wanted_by_next.scope := ⟨rfl, rfl, rfl, by decide +kernel, rfl, by decide +kernel, by decide +kernel⟩
theorem k_wanted_by_next (T : Tx w K mg) : Ok P w K mg base 2 d_wanted_by_next ["function", "found", "at"] (spNextW K) := by
  refine Ok.of T.d_wanted_by_next sc_wanted_by_next (fun _ _ _ _ _ _ us hl => match us, hl with | [_, _, _], _ => rfl) (fun vs H Q E h => ?_) (fun cdv A outer s H vs Q E hr h => ?_)
  · obtain ⟨f, b, rows, L, ds, fds, i, r, rfl, _⟩ := h
    rfl
  · obtain ⟨f, b, rows, L, ds, fds, i, r, rfl, F, hr0, FD, hn, hnd, k⟩ := h
    refine ⟨_, (pss_cons (ps_set (i := 3) sc_wanted_by_next.nd rfl (.inl rfl) pe_dnewK)
      (pss_cons (ps_for PassesOwn.never rfl (pi_list (pe_G (k_next_rows T) (hr.mono (by decide)) T.g_next_rows (pa_cons (pv 0) (pa_cons (pv 2) pa_nil)))) (pg_name (i := 4) sc_wanted_by_next.nd rfl (.inl rfl)) (pss_one (ps_expr (pe_bm PySem.F.plainAttrs_dict PySem.F.slot_dict_update PySem.F.type_dict_update mt_updD (pv 3) (pa_cons (pe_ix ix_list (pv 1) (pv 4) (fun _ _ => rfl)) pa_nil)))))
      (pss_one (ps_ret (pv 3))))), ?_⟩
    refine fun d nd => ?_
    have s1 : Same H (upd H d (.dK [])) := same_new nd
    have hd1 : (upd H d (.dK [])) d = some (.dK []) := upd_same
    generalize (upd H d (.dK [])) = H1 at s1 hd1
    refine ⟨_, rfl, _, rfl, f, b, rows, i, r, rfl, F.le (Le.of s1), hr0, fun H2 l ns s2 hl hp => ⟨l, rfl, ⟨_, SqL.of hl⟩, ?_⟩⟩
    have ld : l ≠ d := fun z => by
      have := s2 _ _ hd1
      rw [← z, hl] at this
      cases this
    refine for_it (walk_list (xs := ns.map fun n => V.int (n : Nat))) (fun j σ H' => Same H H' ∧ H' l = some (.lst (ns.map fun n => V.int (n : Nat))) ∧ (∃ s4, σ = [some (.ref f), some (.ref L), some (.int (i : Nat)), some (.ref d), s4]) ∧
      ∃ ks : List Vr, H' d = some (.dK (kD ks)) ∧ ks.Nodup ∧ ∀ v, v ∈ ks ↔ ∃ n ∈ ns.take j, ∃ l, fds[n]? = some l ∧ v ∈ l) ⟨s1.trans s2, hl, ⟨_, rfl⟩, [], s2 _ _ hd1, List.nodup_nil, by simp⟩ (fun j σ H' _ e => SqL.of e.2.1) (fun j x σ H3 H' hj e y => ?_) (fun σ H' e => ?_)
    · obtain ⟨s3, hl3, ⟨s4, rfl⟩, ks, hd3, nk, hk⟩ := e
      obtain ⟨rfl, yy⟩ := y
      have yy : (ns.map fun n => V.int (n : Nat))[j]? = some x := yy
      rw [List.length_map] at hj
      have hnj : ns[j]? = some ns[j] := List.getElem?_eq_getElem hj
      generalize ns[j] = n at hnj
      rw [List.getElem?_map, hnj] at yy
      cases yy
      have hmem : n ∈ r.nexts i := hp.mem_iff.mp (List.mem_of_getElem? hnj)
      have hlt := hn n hmem
      have hfl : fds[n]? = some fds[n] := List.getElem?_eq_getElem hlt
      generalize fds[n] = lv at hfl
      obtain ⟨dn, hdn, hdv⟩ := Paired.getR FD.d hfl
      have nlv := hnd lv (List.mem_of_getElem? hfl)
      have dne : d ≠ dn := fun z => by rw [← z, nd] at hdv; cases hdv
      have l1 := nd_few nk
      have l2 := nd_few nlv
      refine ⟨_, rfl, .inr (.inr (.inl ⟨rfl, .inl ⟨_, hd3⟩⟩)), _, rfl, _, rfl, L, _, (n : Int), _, rfl, rfl, SqL.of (s3 _ _ FD.l), atI_nat (by rw [List.getElem?_map, hdn]; rfl), d, dn, kD ks, kD lv, rfl, rfl, dne, hd3, .inl (s3 _ _ hdv), (by unfold kD; rw [List.length_map, List.length_map]; exact le_line (by omega)), ?_⟩
      rw [mergeK_kD]
      refine ⟨s3.put nd, by rw [upd_ne ld]; exact hl3, ⟨_, rfl⟩, uniK ks lv, upd_same, nd_uniK lv nk, fun v => ?_⟩
      rw [mem_uniK, hk, take_snoc hnj]
      constructor
      · rintro (⟨m, hm, q⟩ | hv)
        · exact ⟨m, List.mem_append_left _ hm, q⟩
        · exact ⟨n, List.mem_append_right _ List.mem_cons_self, lv, hfl, hv⟩
      · rintro ⟨m, hm, l', e1, e2⟩
        rcases List.mem_append.mp hm with hm | hm
        · exact .inl ⟨m, hm, l', e1, e2⟩
        · rw [List.mem_singleton.mp hm, hfl] at e1
          cases e1
          exact .inr e2
    · obtain ⟨s3, hl3, ⟨s4, rfl⟩, ks, hd3, nk, hk⟩ := e
      refine ⟨_, rfl, k _ d ks s3 nd hd3 nk fun v => ?_⟩
      rw [hk]
      have et : ns.take (ns.map fun n => V.int (n : Nat)).length = ns := List.take_of_length_le (by rw [List.length_map]; exact Nat.le_refl _)
      rw [et]
      constructor
      · rintro ⟨n, hm, q⟩
        exact ⟨n, hp.mem_iff.mp hm, q⟩
      · rintro ⟨n, hm, q⟩
        exact ⟨n, hp.mem_iff.mpr hm, q⟩
end
end K18
set_option Elab.async false
set_option linter.all false
set_option maxRecDepth 100000
set_option pp.deepTerms false
set_option pp.maxSteps 400
set_option maxHeartbeats 4000000
namespace K18
open PySem PySem.Spec PyProof.Rows L2
/-! the search for what is wanted, in plain Lean -/
/-- what one turn finds for row n -/
def InF (rows : List Row) (fds : List (List Vr)) (n : Nat) (v : Vr) : Prop :=
  ∃ r, rows[n]? = some r ∧ (v ∈ r.reads ∨ (r.sets ≠ some v ∧ ∃ b ∈ r.nexts n, ∃ l, fds[b]? = some l ∧ v ∈ l))
structure Fx (rows : List Row) (fds : List (List Vr)) : Prop where
  len : fds.length = rows.length
  nd : ∀ (n : Nat) (l : List Vr), fds[n]? = some l → l.Nodup
  snd : ∀ (n : Nat) (l : List Vr) (v : Vr), fds[n]? = some l → v ∈ l → Want rows n v
  up : ∀ (n : Nat) (l : List Vr) (v : Vr), fds[n]? = some l → v ∈ l → InF rows fds n v
def Clo (rows : List Row) (fds : List (List Vr)) (n : Nat) : Prop := ∀ l, fds[n]? = some l → ∀ v, InF rows fds n v → v ∈ l
theorem Fx.zero (rows : List Row) : Fx rows (List.replicate rows.length []) := by
  have h : ∀ n l, (List.replicate rows.length ([] : List Vr))[n]? = some l → l = [] := fun n l e => by
    have := List.mem_of_getElem? e
    exact (List.mem_replicate.mp this).2
  refine ⟨List.length_replicate .., fun n l e => ?_, fun n l v e hv => ?_, fun n l v e hv => ?_⟩
  · rw [h n l e]; exact List.nodup_nil
  · rw [h n l e] at hv; cases hv
  · rw [h n l e] at hv; cases hv
theorem Fx.inWant {rows : List Row} {fds : List (List Vr)} (F : Fx rows fds) {n : Nat} {v : Vr} (h : InF rows fds n v) : Want rows n v := by
  obtain ⟨r, hr, hv | ⟨hs, b, hb, l, hl, hv⟩⟩ := h
  · exact .read hr hv
  · exact .step hr hs hb (F.snd b l v hl hv)
/-- row n is found anew -/
theorem Fx.set {rows : List Row} {fds : List (List Vr)} (F : Fx rows fds) {n : Nat} {l ks : List Vr} (hl : fds[n]? = some l) (nk : ks.Nodup) (hk : ∀ v, v ∈ ks ↔ InF rows fds n v) : Fx rows (fds.set n ks) := by
  have hn : n < fds.length := (List.getElem?_eq_some_iff.mp hl).1
  have mono : ∀ m v, InF rows fds m v → InF rows (fds.set n ks) m v := by
    rintro m v ⟨r, hr, hv | ⟨hs, b, hb, l', hl', hv⟩⟩
    · exact ⟨r, hr, .inl hv⟩
    · refine ⟨r, hr, .inr ⟨hs, b, hb, ?_⟩⟩
      by_cases e : n = b
      · subst e
        refine ⟨ks, by rw [List.getElem?_set_self hn], ?_⟩
        rw [hl] at hl'
        cases hl'
        exact (hk v).mpr (F.up _ _ _ hl hv)
      · exact ⟨l', by rw [List.getElem?_set_ne e]; exact hl', hv⟩
  refine ⟨by rw [List.length_set]; exact F.len, fun m l' e => ?_, fun m l' v e hv => ?_, fun m l' v e hv => ?_⟩
  · by_cases q : n = m
    · subst q
      rw [List.getElem?_set_self hn] at e
      cases e
      exact nk
    · rw [List.getElem?_set_ne q] at e
      exact F.nd _ _ e
  · by_cases q : n = m
    · subst q
      rw [List.getElem?_set_self hn] at e
      cases e
      exact F.inWant ((hk v).mp hv)
    · rw [List.getElem?_set_ne q] at e
      exact F.snd _ _ _ e hv
  · refine mono m v ?_
    by_cases q : n = m
    · subst q
      rw [List.getElem?_set_self hn] at e
      cases e
      exact (hk v).mp hv
    · rw [List.getElem?_set_ne q] at e
      exact F.up _ _ _ e hv
/-- row n stays: it has all -/
theorem nd_all : ∀ {l k : List Vr}, l.Nodup → (∀ x ∈ l, x ∈ k) → k.Nodup → k.length ≤ l.length → ∀ x ∈ k, x ∈ l := by
  intro l k hl hs hk hle x hx
  apply Classical.byContradiction
  intro hn
  have h1 := nd_le (l := x :: l) (k := k) (List.nodup_cons.mpr ⟨hn, hl⟩) fun y hy => by
    rcases List.mem_cons.mp hy with rfl | hy
    · exact hx
    · exact hs y hy
  rw [List.length_cons] at h1
  omega
theorem Fx.stays {rows : List Row} {fds : List (List Vr)} (F : Fx rows fds) {n : Nat} {l ks : List Vr} (hl : fds[n]? = some l) (nk : ks.Nodup) (hk : ∀ v, v ∈ ks ↔ InF rows fds n v) (hle : ks.length ≤ l.length) : Clo rows fds n := by
  intro l' e v hv
  rw [hl] at e
  cases e
  exact nd_all (F.nd _ _ hl) (fun x hx => (hk x).mpr (F.up _ _ _ hl hx)) nk hle v ((hk v).mpr hv)
/-- all rows stay: what is found is what is wanted -/
theorem Fx.all {rows : List Row} {fds : List (List Vr)} (F : Fx rows fds) (hc : ∀ n, n < rows.length → Clo rows fds n) (hb : ∀ (n : Nat) r, rows[n]? = some r → ∀ b ∈ r.nexts n, b < rows.length) {n : Nat} {l : List Vr} (hl : fds[n]? = some l) (v : Vr) : v ∈ l ↔ Want rows n v := by
  refine ⟨F.snd n l v hl, fun w => ?_⟩
  revert l
  induction w with
  | @read at_ r v hr hv =>
    intro l hl
    exact hc at_ (List.getElem?_eq_some_iff.mp hr).1 l hl v ⟨r, hr, .inl hv⟩
  | @step at_ b r v hr hs hn _ ih =>
    intro l hl
    have hlt := hb at_ r hr b hn
    have hlt2 : b < fds.length := by rw [F.len]; exact hlt
    have hbl : fds[b]? = some fds[b] := List.getElem?_eq_getElem hlt2
    exact hc at_ (List.getElem?_eq_some_iff.mp hr).1 l hl v ⟨r, hr, .inr ⟨hs, b, hn, _, hbl, ih hbl⟩⟩
/-- how much is found -/
def many (fds : List (List Vr)) : Nat := (fds.map List.length).sum
theorem many_set : ∀ {fds : List (List Vr)} {n : Nat} {l ks : List Vr}, fds[n]? = some l → l.length < ks.length → many fds < many (fds.set n ks)
  | [], n, l, ks, h, _ => by simp at h
  | x :: r, 0, l, ks, h, hl => by
    have e : x = l := Option.some.inj h
    subst e
    show (x.length :: r.map List.length).sum < (ks.length :: r.map List.length).sum
    simp only [List.sum_cons]
    omega
  | x :: r, n + 1, l, ks, h, hl => by
    have := many_set (fds := r) (n := n) h hl
    unfold many at this
    show (x.length :: r.map List.length).sum < (x.length :: (r.set n ks).map List.length).sum
    simp only [List.sum_cons]
    omega
theorem many_le : ∀ {fds : List (List Vr)}, (∀ l ∈ fds, l.Nodup) → many fds ≤ 5 * fds.length
  | [], _ => Nat.zero_le _
  | x :: r, h => by
    have h1 := many_le (fds := r) fun l hl => h l (List.mem_cons_of_mem _ hl)
    have h2 := nd_few (h x List.mem_cons_self)
    unfold many at h1
    show (x.length :: r.map List.length).sum ≤ 5 * (r.length + 1)
    simp only [List.sum_cons]
    omega
end K18
set_option Elab.async false
set_option linter.all false
set_option maxRecDepth 100000
set_option pp.deepTerms false
set_option pp.maxSteps 400
set_option maxHeartbeats 4000000
namespace K18
open PySem PySem.Spec PyProof.Rows L2
def NextOk (rows : List Row) : Prop := ∀ (n : Nat) r, rows[n]? = some r → ∀ b ∈ r.nexts n, b < rows.length
def dropV (sv : Option Vr) (ks : List Vr) : List Vr := ks.filter fun u => decide (sv ≠ some u)
theorem upd_noop {H : Hp} {a : Addr} {o : HO} (h : H a = some o) : upd H a o = H := by
  funext b
  by_cases e : b = a
  · rw [e, upd_same, h]
  · rw [upd_ne e]
theorem popN_kD {H : Hp} {a : Addr} {ks : List Vr} {sv : Option Vr} {A : Prop} {B : Key → V → Prop} (h : H a = some (.dK (kD ks))) (hA : dropV sv ks = ks → A) (hB : ∀ k z, dropK (kD ks) k = kD (dropV sv ks) → B k z) :
    ((setV sv = .non ∧ A) ∨ ∃ k, setV sv = kV k ∧ (∀ v, valV (kD ks) k = some v → B k v) ∧ (valV (kD ks) k = none → A)) := by
  cases sv with
  | none => exact .inl ⟨rfl, hA (List.filter_eq_self.mpr fun u _ => by simp)⟩
  | some v =>
    have e0 : dropV (some v) ks = ks.filter fun u => decide (u ≠ v) := List.filter_congr fun u _ => by
      by_cases e : u = v
      · subst e; simp
      · have e2 : ¬ v = u := fun z => e z.symm
        simp [e, e2]
    refine .inr ⟨Sum.inr v.s, rfl, fun z _ => hB _ z (by rw [dropK_kD, e0]), fun hn => hA ?_⟩
    rw [valV_kD] at hn
    have hv : v ∉ ks := fun hm => by rw [if_pos hm] at hn; cases hn
    exact List.filter_eq_self.mpr fun u hu => by
      have e2 : ¬ v = u := fun z => hv (by rw [z]; exact hu)
      simp [e2]
theorem uniK_snoc (ks l : List Vr) (v : Vr) : uniK ks (l ++ [v]) = addK (uniK ks l) v := by
  unfold uniK
  rw [List.foldl_append]
  rfl
theorem kD_len (ks : List Vr) : (kD ks).length = ks.length := List.length_map ..
theorem turn_inF {rows : List Row} {fds : List (List Vr)} {n : Nat} {r : Row} {ks : List Vr} (hr : rows[n]? = some r) (hk : ∀ v, v ∈ ks ↔ ∃ b ∈ r.nexts n, ∃ l, fds[b]? = some l ∧ v ∈ l) (v : Vr) : v ∈ uniK (dropV r.sets ks) (uniK [] r.reads) ↔ InF rows fds n v := by
  rw [mem_uniK, mem_uniK]
  unfold dropV
  rw [List.mem_filter, hk]
  constructor
  · rintro (⟨h, hs⟩ | h | h)
    · exact ⟨r, hr, .inr ⟨of_decide_eq_true hs, h⟩⟩
    · cases h
    · exact ⟨r, hr, .inl h⟩
  · rintro ⟨r', hr', h | ⟨hs, h⟩⟩
    · rw [hr] at hr'; cases hr'
      exact .inr (.inr h)
    · rw [hr] at hr'; cases hr'
      exact .inl ⟨h, decide_eq_true hs⟩
section
variable {P : Program} {w : World} {K : PySem.W.Frag} {mg : Str → Option Value} {base : Heap}
variable {H H' : Hp} {p src : Addr} {A : MA} {m : Mch} {G : Prg}
/-! wanted_rows -/
/-- what the loop keeps -/
structure WIv (K : PySem.W.Frag) (H0 : Hp) (f L : Addr) (rows : List Row) (done : Bool) (fds : List (List Vr)) (σ : L2.St) (H : Hp) : Prop where
  e : Same H0 H
  s : ∃ s3 s4 s5 s6, σ = [some (.ref f), some (.ref L), some (.bl done), s3, s4, s5, s6]
  fd : ∃ ds, FdAt H L ds fds
  fx : Fx rows fds
def spWRows (K : PySem.W.Frag) : Sp := fun vs H Q _ => ∃ (f : Addr) (b : Bool) (rows : List Row), vs = [.ref f] ∧ FunAt K H f b rows ∧ rows.length ≤ 40 ∧ NextOk rows ∧
  ∀ H' L ds (fds : List (List Vr)), Same H H' → FdAt H' L ds fds → fds.length = rows.length → (∀ (n : Nat) l, fds[n]? = some l → l.Nodup ∧ ∀ v, v ∈ l ↔ Want rows n v) → Q (.ref L) H'
theorem sc_wanted_rows : FnScope ["function", "found", "is_done", "at", "row", "some", "name"] ["function"] d_wanted_rows.scope := ⟨rfl, rfl, rfl, by decide +kernel, rfl, by decide +kernel, by decide +kernel⟩
theorem k_wanted_rows (T : Tx w K mg) : Ok P w K mg base 3 d_wanted_rows ["function"] (spWRows K) := by
  refine Ok.of T.d_wanted_rows sc_wanted_rows (fun _ _ _ _ _ _ us hl => match us, hl with | [_], _ => rfl) (fun vs H Q E h => ?_) (fun cdv A outer s H vs Q E hr h => ?_)
  · obtain ⟨f, b, rows, rfl, _⟩ := h
    rfl
  · obtain ⟨f, b, rows, rfl, F, hle, hnx, k⟩ := h
    refine ⟨_, (pss_cons (ps_setLc (i := 1) (own := [("row", 4)]) (g := (gName 4)) (tt := tYes) (by rfl) sc_wanted_rows.nd rfl rfl (sw_true rfl rfl rfl (by decide +kernel)) (pi_list (pe_fld (pv 0) rfl)) (blkOk_by (own := [("row", 4)]) (N := ["function", "found", "is_done", "at", "row", "some", "name"]) (sc := d_wanted_rows.scope) (by decide +kernel)) (fun _ _ _ _ _ => (pg_name (i := 4) sc_wanted_rows.nd rfl (.inl rfl))) (fun _ _ _ _ _ => pts_nil) (fun _ _ _ _ _ => pe_dnewK))
      (pss_cons (ps_set (i := 2) sc_wanted_rows.nd rfl (.inl rfl) pe_bl)
      (pss_cons (ps_while PassesOwn.never (pt_not (pt_val (pv 2))) (pss_cons (ps_set (i := 2) sc_wanted_rows.nd rfl (.inl rfl) pe_bl)
      (pss_one (ps_for PassesOwn.never rfl (pi_range3 (by rfl) T.b_range (pa_cons (pe_op op_sub (pe_callB call_len_seq (by rfl) T.b_len PySem.boot_len (pa_cons (pv 1) pa_nil)) pe_int) (pa_cons (pe_un un_neg pe_int) (pa_cons (pe_un un_neg pe_int) pa_nil)))) (pg_name (i := 3) sc_wanted_rows.nd rfl (.inl rfl)) (pss_cons (ps_set (i := 5) sc_wanted_rows.nd rfl (.inl rfl) (pe_G (k_wanted_by_next T) (hr.mono (by decide)) T.g_wanted_by_next (pa_cons (pv 0) (pa_cons (pv 1) (pa_cons (pv 3) pa_nil)))))
      (pss_cons (ps_expr (pe_dpopN (pv 5) (pe_G (k_set_by T) (hr.mono (by decide)) T.g_set_by (pa_cons (pe_ix ix_list (pe_fld (pv 0) rfl) (pv 3) (fun _ _ => rfl)) pa_nil)) pe_non ⟨rfl, rfl, rfl, rfl⟩))
      (pss_cons (ps_expr (pe_bm PySem.F.plainAttrs_dict PySem.F.slot_dict_update PySem.F.type_dict_update mt_updD (pv 5) (pa_cons (pe_dc (own := [("name", 6)]) (g := (gName 6)) (tt := tYes) (by rfl) sc_wanted_rows.nd  (pi_list (pe_G (k_read_by T) (hr.mono (by decide)) T.g_read_by (pa_cons (pe_ix ix_list (pe_fld (pv 0) rfl) (pv 3) (fun _ _ => rfl)) pa_nil))) (blkOk_by (own := [("name", 6)]) (N := ["function", "found", "is_done", "at", "row", "some", "name"]) (sc := d_wanted_rows.scope) (by decide +kernel)) (fun _ _ _ _ _ => (pg_name (i := 6) sc_wanted_rows.nd rfl (.inl rfl))) (fun _ _ _ _ _ => pts_nil) (fun _ _ _ _ _ => (pv 6)) (fun _ _ _ _ _ => pe_bl)) pa_nil)))
      (pss_one (ps_if (pt_cmpR op_gt (pe_callB call_lenD (by rfl) T.b_len PySem.boot_len (pa_cons (pv 5) pa_nil)) (pe_callB call_lenD (by rfl) T.b_len PySem.boot_len (pa_cons (pe_ix ix_list (pv 1) (pv 3) (fun _ _ => rfl)) pa_nil)) (nomark _)) (pss_one (ps_asg (pe_tup (pa_cons (pv 5) (pa_cons pe_bl pa_nil))) (pg_tup rfl (pgs_cons (pg_sub (pv 1) (pv 3) set_list) (pgs_cons (pg_name (i := 2) sc_wanted_rows.nd rfl (.inl rfl)) pgs_nil))))) pss_nil)))))))))
      (pss_one (ps_ret (pv 1)))))), ?_⟩
    obtain ⟨dx, ii, ei, kd, rl, rs, f1, f2, f3, f4, f5⟩ := F.ex
    have hlen := Paired.len f5
    refine ⟨_, rfl, _, _, _, _, _, rfl, f1, T.c_Function, T.n_Function_row_list, (by rfl), rl, rfl, ⟨_, SqL.of f4⟩, fun L hL => ?_⟩
    refine lc_it (walk_list (xs := rs.map V.ref)) (fun j H' => Same H H' ∧ ∃ ds, FdAt H' L ds (List.replicate j [])) ⟨same_new hL, [], upd_same, .nil⟩ (fun j H' _ e => SqL.of (e.1 _ _ f4)) (fun j v H1 H' hj e yy => ?_) (fun H' e => ?_)
    · obtain ⟨s1, ds, fd⟩ := e
      obtain ⟨rfl, yy⟩ := yy
      rw [List.length_map] at hj
      refine ⟨rfl, fun d nd => ?_⟩
      have Ld : L ≠ d := ne_of_none fd.l nd
      have hdl := Paired.len fd.d
      rw [List.length_replicate] at hdl
      refine ⟨ds.map V.ref, by rw [upd_ne Ld]; exact fd.l, (by rw [List.length_map]; exact lt_line (by omega)), (s1.trans (same_new nd)).put hL, ds ++ [d], by rw [upd_same, List.map_append]; rfl, ?_⟩
      rw [List.replicate_succ']
      refine Paired.snoc (Paired.mapP fd.d fun a _ q => ?_) ?_
      · rw [upd_ne (fun z => by rw [z, fd.l] at q; cases q)]
        rw [upd_ne (ne_of_none q nd)]
        exact q
      · rw [upd_ne (Ne.symm Ld)]
        exact upd_same
    obtain ⟨s1, ds, fd⟩ := e
    rw [List.length_map, hlen] at fd
    refine ⟨fun m σ H' => ∃ done fds, WIv K H f L rows done fds σ H' ∧ (done = true → m = 0 ∧ ∀ n, n < rows.length → Clo rows fds n) ∧ (done = false → m = 5 * rows.length + 1 - many fds), ⟨_, false, _, ⟨s1, ⟨_, _, _, _, rfl⟩, ⟨ds, fd⟩, Fx.zero rows⟩, (fun z => by cases z), fun _ => rfl⟩, fun m σ H2 wv => ?_⟩
    obtain ⟨done, fds, ⟨e2, ⟨s3, s4, s5, s6, rfl⟩, ⟨ds2, fd2⟩, fx⟩, hd1, hd2⟩ := wv
    cases done with
    | true => exact ⟨_, rfl, true, rfl, iteF ⟨_, rfl, k H2 L ds2 fds e2 fd2 fx.len fun n l hl => ⟨fx.nd n l hl, fx.all (hd1 rfl).2 hnx hl⟩⟩⟩
    | false =>
      have hm := hd2 rfl
      have hmle : many fds ≤ 5 * rows.length := fx.len ▸ many_le fun l hl => by
        obtain ⟨n, hn, e⟩ := List.mem_iff_getElem.mp hl
        exact fx.nd n l (by rw [List.getElem?_eq_getElem hn, e])
      have hl2 := Paired.len fd2.d
      have hfl := fx.len
      refine ⟨_, rfl, false, rfl, iteT ⟨fun σ' H' => ∃ m', m' < m ∧ ∃ done fds, WIv K H f L rows done fds σ' H' ∧ (done = true → m' = 0 ∧ ∀ n, n < rows.length → Clo rows fds n) ∧ (done = false → m' = 5 * rows.length + 1 - many fds), fun _ _ h => h, ?_⟩⟩
      refine ⟨_, rfl, L, _, rfl, .inl (SqL.of fd2.l), _, _, rfl, rfl, 1, rfl, 1, rfl, _, _, _, rows.length, rfl, ?_, ?_⟩
      · have := RgC.neg (i := ((ds2.map V.ref).length : Int) - 1) (j := -1) (by rw [List.length_map]; omega) (by rw [List.length_map]; omega) (by decide) (by decide)
        rwa [show (((ds2.map V.ref).length : Int) - 1 - -1).toNat = rows.length by rw [List.length_map]; omega] at this
      · refine for_it walk_rangeC (fun j σ H' => ∃ done fds', WIv K H f L rows done fds' σ H' ∧ (done = true → fds' = fds ∧ ∀ i, i < j → Clo rows fds (rows.length - 1 - i)) ∧ (done = false → many fds < many fds')) ⟨true, fds, ⟨e2, ⟨_, _, _, _, rfl⟩, ⟨ds2, fd2⟩, fx⟩, fun _ => ⟨rfl, fun i hi => absurd hi (Nat.not_lt_zero i)⟩, fun z => by cases z⟩ (fun j σ H' _ e => trivial) (fun j x σ H3 H' hj e y => ?_) (fun σ H' e => ?_)
        · obtain ⟨done, fds', ⟨e3, ⟨z3, z4, z5, z6, rfl⟩, ⟨ds3, fd3⟩, fx3⟩, h1, h2⟩ := e
          obtain ⟨rfl, hx⟩ := y
          obtain ⟨n, hn, rfl⟩ : ∃ n : Nat, n = rows.length - 1 - j ∧ x = .int (n : Nat) := ⟨_, rfl, hx.trans (congrArg V.int (by rw [List.length_map]; omega))⟩
          have hnl : n < rows.length := by omega
          have hr0 : rows[n]? = some rows[n] := List.getElem?_eq_getElem hnl
          generalize rows[n] = r at hr0
          obtain ⟨ra, hra, hrow⟩ := Paired.getR f5 hr0
          have hf3 := fx3.len
          refine ⟨_, rfl, _, rfl, _, rfl, f, b, rows, L, ds3, fds', n, r, rfl, F.le (Le.of e3), hr0, fd3, (fun q hq => by rw [hf3]; exact hnx n r hr0 q hq), (fun l hl => by
            obtain ⟨q, hq, e⟩ := List.mem_iff_getElem.mp hl
            exact fx3.nd q l (by rw [List.getElem?_eq_getElem hq, e])), fun H4 d ks s4 nd hd nk hk => ?_⟩
          have e4 := e3.trans s4
          refine ⟨_, rfl, d, rfl, .inl ⟨_, .inl hd⟩, ?_⟩
          refine ⟨_, rfl, _, _, _, _, _, rfl, e4 _ _ f1, T.c_Function, T.n_Function_row_list, (by rfl), _, rfl, rl, _, (n : Int), _, rfl, rfl, SqL.of (e4 _ _ f4), atI_nat (by rw [List.getElem?_map, hra]; rfl), ra, r, rfl, hrow.le (Le.of e4), ?_⟩
          refine ⟨_, hd, popN_kD (sv := r.sets) hd (fun ek => ?_) (fun kk z ek => ?_)⟩
          · have hd5 : H4 d = some (.dK (kD (dropV r.sets ks))) := by rw [ek]; exact hd
            have s5 : Same H' H4 := s4
            generalize H4 = H5 at hd5 s5
            have e5 := e3.trans s5
            refine ⟨_, rfl, .inr (.inr (.inl ⟨rfl, .inl ⟨_, hd5⟩⟩)), _, rfl, _, _, _, _, _, rfl, e5 _ _ f1, T.c_Function, T.n_Function_row_list, (by rfl), _, rfl, rl, _, (n : Int), _, rfl, rfl, SqL.of (e5 _ _ f4), atI_nat (by rw [List.getElem?_map, hra]; rfl), ra, r, rfl, hrow.le (Le.of e5), fun H6 l s6 hl6 => ⟨l, rfl, ⟨_, SqL.of hl6⟩, fun D hD => ?_⟩⟩
            refine dc_it (walk_list (xs := r.reads.map fun v => V.str v.s)) (fun j H' => H' = upd H6 D (.dK (kD (uniK [] (r.reads.take j))))) rfl (fun j H' _ e => by rw [e]; exact (same_new hD).seq (SqL.of hl6)) (fun j' x H7 H9 hj e y => ?_) (fun H9 e => ?_)
            · obtain ⟨rfl, yy⟩ := y
              subst e
              have yy : (r.reads.map fun v => V.str v.s)[j']? = some x := yy
              rw [List.length_map] at hj
              have hv : r.reads[j']? = some r.reads[j'] := List.getElem?_eq_getElem hj
              generalize r.reads[j'] = v at hv
              rw [List.getElem?_map, hv] at yy
              cases yy
              have hz := nd_few (nd_uniK (r.reads.take j') (ks := []) List.nodup_nil)
              refine ⟨rfl, _, rfl, kD (uniK [] (r.reads.take j')), Sum.inr v.s, rfl, upd_same, (by rw [kD_len]; exact lt_line (by omega)), ?_⟩
              rw [upd_upd, putK_kD, take_snoc hv, uniK_snoc]
            · subst e
              have et : r.reads.take (r.reads.map fun v => V.str v.s).length = r.reads := List.take_of_length_le (by rw [List.length_map]; exact Nat.le_refl _)
              rw [et]
              have s7 : Same H6 (upd H6 D (.dK (kD (uniK [] r.reads)))) := same_new hD
              have hD7 : (upd H6 D (.dK (kD (uniK [] r.reads)))) D = some (.dK (kD (uniK [] r.reads))) := upd_same
              have dD : d ≠ D := ne_of_none (s6 _ _ hd5) hD
              generalize (upd H6 D (.dK (kD (uniK [] r.reads)))) = H7 at s7 hD7
              have hd7 := s7 _ _ (s6 _ _ hd5)
              have nrk := nd_uniK r.reads (ks := []) List.nodup_nil
              have ndv : (dropV r.sets ks).Nodup := nk.filter _
              have l1 := nd_few nrk
              have l2 := nd_few ndv
              refine ⟨d, D, kD (dropV r.sets ks), kD (uniK [] r.reads), rfl, rfl, dD, hd7, .inl hD7, (by rw [kD_len, kD_len]; exact le_line (by omega)), ?_⟩
              rw [mergeK_kD]
              have n6 := nd_uniK (uniK [] r.reads) ndv
              have k6 := turn_inF hr0 hk
              generalize uniK (dropV r.sets ks) (uniK [] r.reads) = ks6 at n6 k6
              have hd8 : (upd H7 d (.dK (kD ks6))) d = some (.dK (kD ks6)) := upd_same
              have s8 : Same H' (upd H7 d (.dK (kD ks6))) := (s5.trans (s6.trans s7)).put nd
              generalize (upd H7 d (.dK (kD ks6))) = H8 at hd8 s8
              have fd8 := fd3.same s8
              have hlv : fds'[n]? = some fds'[n] := List.getElem?_eq_getElem (by omega)
              generalize fds'[n] = lv at hlv
              obtain ⟨dn, hdn, hdv⟩ := Paired.getR fd8.d hlv
              refine ⟨_, rfl, d, _, rfl, hd8, _, rfl, _, rfl, L, _, (n : Int), _, rfl, rfl, SqL.of fd8.l, atI_nat (by rw [List.getElem?_map, hdn]; rfl), dn, _, rfl, hdv, _, _, rfl, rfl, _, rfl, ?_⟩
              by_cases hlt : lv.length < ks6.length
              · refine ifB (decide_eq_true (by rw [kD_len, kD_len]; omega)) ⟨_, rfl, (by show 2 ≤ sizeLine; decide), fun t nt => ?_⟩
                have st : Same H8 (upd H8 t (.tup [.ref d, .bl false])) := same_new nt
                have ht : (upd H8 t (.tup [.ref d, .bl false])) t = some (.tup [.ref d, .bl false]) := upd_same
                generalize (upd H8 t (.tup [.ref d, .bl false])) = H10 at st ht
                have fd10 := fd8.same st
                have hl3 := Paired.len fd10.d
                refine ⟨t, _, rfl, SqT.of ht, rfl, _, _, rfl, _, rfl, _, rfl, L, _, (n : Int), n, rfl, rfl, fd10.l, ?_, _, _, rfl, rfl, ?_⟩
                · unfold ixN
                  rw [if_pos (by omega), List.length_map, if_pos (by omega)]
                  rfl
                · refine ⟨false, fds'.set n ks6, ⟨(e3.trans (s8.trans st)).put hL, ⟨_, _, _, _, rfl⟩, ⟨ds3.set n d, ?_, ?_⟩, fx3.set hlv n6 k6⟩, (fun z => by cases z), fun _ => ?_⟩
                  · rw [upd_same, List.map_set]
                  · have kp : ∀ (a : Addr) (u : List Vr), H10 a = some (.dK (kD u)) → (upd H10 L (.lst ((ds3.map V.ref).set n (.ref d)))) a = some (.dK (kD u)) := fun a u q => by rw [upd_ne (fun z => by rw [z, fd10.l] at q; cases q)]; exact q
                    have pp : Paired (fun a u => (upd H10 L (.lst ((ds3.map V.ref).set n (.ref d)))) a = some (.dK (kD u))) ds3 fds' := Paired.mapP fd10.d fun a u q => kp a u q
                    exact Paired.set (F := fun a u => (upd H10 L (.lst ((ds3.map V.ref).set n (.ref d)))) a = some (.dK (kD u))) (kp d ks6 (st _ _ hd8)) n pp
                  · have := many_set hlv hlt
                    cases done with
                    | true => rw [(h1 rfl).1] at this ⊢; exact this
                    | false => exact Nat.lt_trans (h2 rfl) this
              · refine ifBf (decide_eq_false (by rw [kD_len, kD_len]; omega)) ?_
                refine ⟨done, fds', ⟨e3.trans s8, ⟨_, _, _, _, rfl⟩, ⟨ds3, fd8⟩, fx3⟩, fun z => ?_, h2⟩
                obtain ⟨e1, hc⟩ := h1 z
                refine ⟨e1, fun i hi => ?_⟩
                rcases Nat.lt_or_ge i j with q | q
                · exact hc i q
                · have : i = j := by omega
                  subst this
                  rw [← hn, ← e1]
                  exact fx3.stays hlv n6 k6 (Nat.le_of_not_lt hlt)
          · have hd5 : (upd H4 d (.dK (dropK (kD ks) kk))) d = some (.dK (kD (dropV r.sets ks))) := by rw [upd_same, ek]
            have s5 : Same H' (upd H4 d (.dK (dropK (kD ks) kk))) := s4.put nd
            generalize (upd H4 d (.dK (dropK (kD ks) kk))) = H5 at hd5 s5
            have e5 := e3.trans s5
            refine ⟨_, rfl, .inr (.inr (.inl ⟨rfl, .inl ⟨_, hd5⟩⟩)), _, rfl, _, _, _, _, _, rfl, e5 _ _ f1, T.c_Function, T.n_Function_row_list, (by rfl), _, rfl, rl, _, (n : Int), _, rfl, rfl, SqL.of (e5 _ _ f4), atI_nat (by rw [List.getElem?_map, hra]; rfl), ra, r, rfl, hrow.le (Le.of e5), fun H6 l s6 hl6 => ⟨l, rfl, ⟨_, SqL.of hl6⟩, fun D hD => ?_⟩⟩
            refine dc_it (walk_list (xs := r.reads.map fun v => V.str v.s)) (fun j H' => H' = upd H6 D (.dK (kD (uniK [] (r.reads.take j))))) rfl (fun j H' _ e => by rw [e]; exact (same_new hD).seq (SqL.of hl6)) (fun j' x H7 H9 hj e y => ?_) (fun H9 e => ?_)
            · obtain ⟨rfl, yy⟩ := y
              subst e
              have yy : (r.reads.map fun v => V.str v.s)[j']? = some x := yy
              rw [List.length_map] at hj
              have hv : r.reads[j']? = some r.reads[j'] := List.getElem?_eq_getElem hj
              generalize r.reads[j'] = v at hv
              rw [List.getElem?_map, hv] at yy
              cases yy
              have hz := nd_few (nd_uniK (r.reads.take j') (ks := []) List.nodup_nil)
              refine ⟨rfl, _, rfl, kD (uniK [] (r.reads.take j')), Sum.inr v.s, rfl, upd_same, (by rw [kD_len]; exact lt_line (by omega)), ?_⟩
              rw [upd_upd, putK_kD, take_snoc hv, uniK_snoc]
            · subst e
              have et : r.reads.take (r.reads.map fun v => V.str v.s).length = r.reads := List.take_of_length_le (by rw [List.length_map]; exact Nat.le_refl _)
              rw [et]
              have s7 : Same H6 (upd H6 D (.dK (kD (uniK [] r.reads)))) := same_new hD
              have hD7 : (upd H6 D (.dK (kD (uniK [] r.reads)))) D = some (.dK (kD (uniK [] r.reads))) := upd_same
              have dD : d ≠ D := ne_of_none (s6 _ _ hd5) hD
              generalize (upd H6 D (.dK (kD (uniK [] r.reads)))) = H7 at s7 hD7
              have hd7 := s7 _ _ (s6 _ _ hd5)
              have nrk := nd_uniK r.reads (ks := []) List.nodup_nil
              have ndv : (dropV r.sets ks).Nodup := nk.filter _
              have l1 := nd_few nrk
              have l2 := nd_few ndv
              refine ⟨d, D, kD (dropV r.sets ks), kD (uniK [] r.reads), rfl, rfl, dD, hd7, .inl hD7, (by rw [kD_len, kD_len]; exact le_line (by omega)), ?_⟩
              rw [mergeK_kD]
              have n6 := nd_uniK (uniK [] r.reads) ndv
              have k6 := turn_inF hr0 hk
              generalize uniK (dropV r.sets ks) (uniK [] r.reads) = ks6 at n6 k6
              have hd8 : (upd H7 d (.dK (kD ks6))) d = some (.dK (kD ks6)) := upd_same
              have s8 : Same H' (upd H7 d (.dK (kD ks6))) := (s5.trans (s6.trans s7)).put nd
              generalize (upd H7 d (.dK (kD ks6))) = H8 at hd8 s8
              have fd8 := fd3.same s8
              have hlv : fds'[n]? = some fds'[n] := List.getElem?_eq_getElem (by omega)
              generalize fds'[n] = lv at hlv
              obtain ⟨dn, hdn, hdv⟩ := Paired.getR fd8.d hlv
              refine ⟨_, rfl, d, _, rfl, hd8, _, rfl, _, rfl, L, _, (n : Int), _, rfl, rfl, SqL.of fd8.l, atI_nat (by rw [List.getElem?_map, hdn]; rfl), dn, _, rfl, hdv, _, _, rfl, rfl, _, rfl, ?_⟩
              by_cases hlt : lv.length < ks6.length
              · refine ifB (decide_eq_true (by rw [kD_len, kD_len]; omega)) ⟨_, rfl, (by show 2 ≤ sizeLine; decide), fun t nt => ?_⟩
                have st : Same H8 (upd H8 t (.tup [.ref d, .bl false])) := same_new nt
                have ht : (upd H8 t (.tup [.ref d, .bl false])) t = some (.tup [.ref d, .bl false]) := upd_same
                generalize (upd H8 t (.tup [.ref d, .bl false])) = H10 at st ht
                have fd10 := fd8.same st
                have hl3 := Paired.len fd10.d
                refine ⟨t, _, rfl, SqT.of ht, rfl, _, _, rfl, _, rfl, _, rfl, L, _, (n : Int), n, rfl, rfl, fd10.l, ?_, _, _, rfl, rfl, ?_⟩
                · unfold ixN
                  rw [if_pos (by omega), List.length_map, if_pos (by omega)]
                  rfl
                · refine ⟨false, fds'.set n ks6, ⟨(e3.trans (s8.trans st)).put hL, ⟨_, _, _, _, rfl⟩, ⟨ds3.set n d, ?_, ?_⟩, fx3.set hlv n6 k6⟩, (fun z => by cases z), fun _ => ?_⟩
                  · rw [upd_same, List.map_set]
                  · have kp : ∀ (a : Addr) (u : List Vr), H10 a = some (.dK (kD u)) → (upd H10 L (.lst ((ds3.map V.ref).set n (.ref d)))) a = some (.dK (kD u)) := fun a u q => by rw [upd_ne (fun z => by rw [z, fd10.l] at q; cases q)]; exact q
                    have pp : Paired (fun a u => (upd H10 L (.lst ((ds3.map V.ref).set n (.ref d)))) a = some (.dK (kD u))) ds3 fds' := Paired.mapP fd10.d fun a u q => kp a u q
                    exact Paired.set (F := fun a u => (upd H10 L (.lst ((ds3.map V.ref).set n (.ref d)))) a = some (.dK (kD u))) (kp d ks6 (st _ _ hd8)) n pp
                  · have := many_set hlv hlt
                    cases done with
                    | true => rw [(h1 rfl).1] at this ⊢; exact this
                    | false => exact Nat.lt_trans (h2 rfl) this
              · refine ifBf (decide_eq_false (by rw [kD_len, kD_len]; omega)) ?_
                refine ⟨done, fds', ⟨e3.trans s8, ⟨_, _, _, _, rfl⟩, ⟨ds3, fd8⟩, fx3⟩, fun z => ?_, h2⟩
                obtain ⟨e1, hc⟩ := h1 z
                refine ⟨e1, fun i hi => ?_⟩
                rcases Nat.lt_or_ge i j with q | q
                · exact hc i q
                · have : i = j := by omega
                  subst this
                  rw [← hn, ← e1]
                  exact fx3.stays hlv n6 k6 (Nat.le_of_not_lt hlt)
        · obtain ⟨done, fds', W, h1, h2⟩ := e
          cases done with
          | true =>
            obtain ⟨rfl, hc⟩ := h1 rfl
            refine ⟨0, by omega, true, fds', W, fun _ => ⟨rfl, fun n hn => ?_⟩, fun z => by cases z⟩
            have := hc (rows.length - 1 - n) (by omega)
            rwa [show rows.length - 1 - (rows.length - 1 - n) = n by omega] at this
          | false =>
            have h3 := h2 rfl
            have h4 : many fds' ≤ 5 * rows.length := W.fx.len ▸ many_le fun l hl => by
              obtain ⟨n, hn, e⟩ := List.mem_iff_getElem.mp hl
              exact W.fx.nd n l (by rw [List.getElem?_eq_getElem hn, e])
            exact ⟨5 * rows.length + 1 - many fds', by omega, false, fds', W, (fun z => by cases z), fun _ => rfl⟩
end
end K18
set_option Elab.async false
set_option linter.all false
set_option maxRecDepth 100000
set_option pp.deepTerms false
set_option pp.maxSteps 400
set_option maxHeartbeats 4000000
namespace K18
open PySem PySem.Spec PyProof.Rows L2
/-! names in the order of their texts -/
def Vr.ix : Vr → Int
  | .n .a => 0
  | .n .b => 1
  | .n .c => 2
  | .o .o => 3
  | .o .p => 4
theorem ix_inj {v u : Vr} (h : v.ix = u.ix) : v = u := by
  have q : ∀ a ∈ allVr, ∀ b ∈ allVr, a.ix = b.ix → a = b := by decide +kernel
  exact q v (mem_allVr v) u (mem_allVr u) h
theorem rising_ix : ∀ (l : List Vr) (v : Vr), risingS v.s (l.map Vr.s) = true → (v :: l).Pairwise fun a b => a.ix ≤ b.ix
  | [], v, _ => by simp
  | u :: r, v, h => by
    have q : ∀ a ∈ allVr, ∀ b ∈ allVr, (!ltCps b.s.cps.toList a.s.cps.toList) = true → a.ix ≤ b.ix := by decide +kernel
    have h2 : ((!ltCps u.s.cps.toList v.s.cps.toList) && risingS u.s (r.map Vr.s)) = true := h
    rw [Bool.and_eq_true] at h2
    have h3 := q v (mem_allVr v) u (mem_allVr u) h2.1
    have h4 := rising_ix r u h2.2
    refine List.pairwise_cons.mpr ⟨fun x hx => ?_, h4⟩
    rcases List.mem_cons.mp hx with rfl | hx
    · exact h3
    · exact Int.le_trans h3 ((List.pairwise_cons.mp h4).1 x hx)
theorem sorted_ix (l : List Vr) (h : sortedS (l.map Vr.s) = true) : l.Pairwise fun a b => a.ix ≤ b.ix := by
  cases l with
  | nil => exact .nil
  | cons v r => exact rising_ix r v h
theorem perm_ix {l k : List Vr} (p : l.Perm k) (hl : l.Pairwise fun a b => a.ix ≤ b.ix) (hk : k.Pairwise fun a b => a.ix ≤ b.ix) : l = k := by
  have e := perm_le (p.map Vr.ix) (List.pairwise_map.mpr hl) (List.pairwise_map.mpr hk)
  have go : ∀ {l k : List Vr}, l.map Vr.ix = k.map Vr.ix → l = k := by
    intro l
    induction l with
    | nil => intro k e; cases k with | nil => rfl | cons => cases e
    | cons x r ih =>
      intro k e
      cases k with
      | nil => cases e
      | cons y t =>
        have e' : x.ix :: r.map Vr.ix = y.ix :: t.map Vr.ix := e
        injection e' with e1 e2
        rw [ix_inj e1, ih e2]
  exact go e
def backV (z : Str) : Vr := (allVr.find? fun v => decide (v.s = z)).getD (.n .a)
theorem backV_s (v : Vr) : backV v.s = v := by
  have q : ∀ a ∈ allVr, backV a.s = a := by decide +kernel
  exact q v (mem_allVr v)
theorem names_back {ys : List Str} {ks : List Vr} (p : ys.Perm (ks.map Vr.s)) : ∃ vs : List Vr, ys = vs.map Vr.s ∧ vs.Perm ks := by
  refine ⟨ys.map backV, ?_, ?_⟩
  · rw [List.map_map]
    refine (List.map_id ys).symm.trans (List.map_congr_left fun z hz => ?_)
    obtain ⟨v, _, e⟩ := List.mem_map.mp (p.mem_iff.mp hz)
    rw [← e]
    show v.s = (backV v.s).s
    rw [backV_s]
  · have h := p.map backV
    rw [List.map_map] at h
    have e : (backV ∘ Vr.s) = id := by funext v; exact backV_s v
    rw [e, List.map_id] at h
    exact h
/-- the wanted ones of a list, in the order of their texts -/
noncomputable def wlist (rows : List Row) (n : Nat) : List Vr := @List.filter Vr (fun v => @decide (Want rows n v) (Classical.propDecidable _)) allVr
theorem mem_wlist {rows : List Row} {n : Nat} {v : Vr} : v ∈ wlist rows n ↔ Want rows n v := by
  unfold wlist
  rw [List.mem_filter]
  constructor
  · rintro ⟨_, h⟩
    exact @of_decide_eq_true _ (Classical.propDecidable _) h
  · intro h
    exact ⟨mem_allVr v, @decide_eq_true _ (Classical.propDecidable _) h⟩
theorem wlist_nd (rows : List Row) (n : Nat) : (wlist rows n).Nodup := List.Pairwise.filter _ (show allVr.Nodup by decide +kernel)
theorem wlist_ix (rows : List Row) (n : Nat) : (wlist rows n).Pairwise fun a b => a.ix ≤ b.ix := List.Pairwise.filter _ (by decide +kernel)
theorem nd_perm {l k : List Vr} (hl : l.Nodup) (hk : k.Nodup) (h : ∀ v, v ∈ l ↔ v ∈ k) : l.Perm k := (List.perm_ext_iff_of_nodup hl hk).mpr h
section
variable {P : Program} {w : World} {K : PySem.W.Frag} {mg : Str → Option Value} {base : Heap}
variable {H H' : Hp} {p src : Addr} {A : MA} {m : Mch} {G : Prg}
/-! wanted_at -/
def spWAt (K : PySem.W.Frag) : Sp := fun vs H Q _ => ∃ (f : Addr) (b : Bool) (rows : List Row) (n : Nat), vs = [.ref f, .int (n : Nat)] ∧ FunAt K H f b rows ∧ rows.length ≤ 40 ∧ NextOk rows ∧ n < rows.length ∧
  ∀ H' l, Same H H' → H' l = some (.lst ((wlist rows n).map fun v => V.str v.s)) → Q (.ref l) H'
theorem sc_wanted_at : FnScope ["function", "row"] ["function", "row"] d_wanted_at.scope := ⟨rfl, rfl, rfl, by decide +kernel, rfl, by decide +kernel, by decide +kernel⟩
theorem k_wanted_at (T : Tx w K mg) : Ok P w K mg base 4 d_wanted_at ["function", "row"] (spWAt K) := by
  refine Ok.of T.d_wanted_at sc_wanted_at (fun _ _ _ _ _ _ us hl => match us, hl with | [_, _], _ => rfl) (fun vs H Q E h => ?_) (fun cdv A outer s H vs Q E hr h => ?_)
  · obtain ⟨f, b, rows, n, rfl, _⟩ := h
    rfl
  · obtain ⟨f, b, rows, n, rfl, F, hle, hnx, hn, k⟩ := h
    refine ⟨_, (pss_one (ps_ret (pe_callB (call_sortedD rfl) (by rfl) T.b_sorted bt_sorted (pa_cons (pe_ix ix_list (pe_G (k_wanted_rows T) (hr.mono (by decide)) T.g_wanted_rows (pa_cons (pv 0) pa_nil)) (pv 1) (fun _ _ => rfl)) pa_nil)))), ?_⟩
    refine ⟨_, rfl, f, b, rows, rfl, F, hle, hnx, fun H1 L ds fds s1 fd hl hw => ?_⟩
    obtain ⟨d, hd, hdv⟩ : ∃ d, ds[n]? = some d ∧ ∃ ks : List Vr, H1 d = some (.dK (kD ks)) ∧ ks.Nodup ∧ ∀ v, v ∈ ks ↔ Want rows n v := by
      have hlv : fds[n]? = some fds[n] := List.getElem?_eq_getElem (by omega)
      obtain ⟨d, h1, h2⟩ := Paired.getR fd.d hlv
      exact ⟨d, h1, fds[n], h2, (hw n _ hlv).1, (hw n _ hlv).2⟩
    obtain ⟨ks, hk, nk, hm⟩ := hdv
    have l5 := nd_few nk
    refine ⟨_, rfl, L, _, (n : Int), _, rfl, rfl, SqL.of fd.l, atI_nat (by rw [List.getElem?_map, hd]; rfl), d, kD ks, ks.map Vr.s, rfl, .inl hk, (by unfold kD; rw [List.map_map, List.map_map]; rfl), (by rw [List.length_map]; omega), fun ys p hp hs np => ?_⟩
    obtain ⟨vs, rfl, pv⟩ := names_back hp
    have e : vs = wlist rows n := perm_ix (pv.trans (nd_perm nk (wlist_nd _ _) fun v => (hm v).trans mem_wlist.symm)) (sorted_ix _ hs) (wlist_ix _ _)
    refine k _ p (s1.trans (same_new np)) ?_
    rw [upd_same, e, List.map_map]
    rfl
end
end K18
set_option Elab.async false
set_option linter.all false
set_option maxRecDepth 100000
set_option pp.deepTerms false
set_option pp.maxSteps 400
set_option maxHeartbeats 4000000
namespace K18
open PySem PySem.Spec PyProof.Rows L2
section
variable {P : Program} {w : World} {K : PySem.W.Frag} {mg : Str → Option Value} {base : Heap}
variable {H H' : Hp} {p src : Addr} {A : MA} {m : Mch} {G : Prg}
/-! checked_function -/
def spChk (K : PySem.W.Frag) : Sp := fun vs H Q _ => ∃ (src : Addr) (G : Prg) (b : Bool) (n : Nat), vs = [.ref src, .str (fnS b), .int (n : Nat)] ∧ SrcAt K H src G ∧ n < (G b).length ∧ ∀ H' f, Same H H' → FunAt K H' f b (G b) → Q (.ref f) H'
theorem sc_checked_function : FnScope ["source", "name", "row", "function"] ["source", "name", "row"] d_checked_function.scope := ⟨rfl, rfl, rfl, by decide +kernel, rfl, by decide +kernel, by decide +kernel⟩
theorem k_checked_function (T : Tx w K mg) : Ok P w K mg base 3 d_checked_function ["source", "name", "row"] (spChk K) := by
  refine Ok.of T.d_checked_function sc_checked_function (fun _ _ _ _ _ _ us hl => match us, hl with | [_, _, _], _ => rfl) (fun vs H Q E h => ?_) (fun cdv A outer s H vs Q E hr h => ?_)
  · obtain ⟨src, G, b, n, rfl, _⟩ := h
    rfl
  · obtain ⟨src, G, b, n, rfl, S, hn, k⟩ := h
    refine ⟨_, (pss_cons (ps_expr (pe_G (k_check_source T) (hr.mono (by decide)) T.g_check_source (pa_cons (pv 0) pa_nil)))
      (pss_cons (ps_if (pt_not (pt_val (pe_G (k_is_word T) (hr.mono (by decide)) T.g_is_word (pa_cons (pv 1) (pa_cons (pe_callTy (call_tupD rfl) (by rfl) T.b_tuple bt_tuple (pa_cons (pe_fld (pv 0) rfl) pa_nil)) pa_nil))))) pss_never pss_nil)
      (pss_cons (ps_set (i := 3) sc_checked_function.nd rfl (.inl rfl) (pe_dget (hu_of hr) (pe_fld (pv 0) rfl) (pv 1) (fun _ _ => rfl)))
      (pss_cons (ps_if (pt_not (pt_val (pe_G (k_is_between T) (hr.mono (by decide)) T.g_is_between (pa_cons (pv 2) (pa_cons pe_int (pa_cons (pe_op op_sub (pe_callB call_len_seq (by rfl) T.b_len PySem.boot_len (pa_cons (pe_fld (pv 3) rfl) pa_nil)) pe_int) pa_nil)))))) pss_never pss_nil)
      (pss_one (ps_ret (pv 3))))))), ?_⟩
    obtain ⟨dxs, cr, fk, kf, ff, fg, hs, h5, _⟩ := S.fns
    refine ⟨_, rfl, src, _, _, rfl, hs, ?_⟩
    refine ⟨_, rfl, _, rfl, _, _, _, _, _, rfl, hs, T.c_Source, T.n_Source_kept_functions, (by rfl), kf, _, rfl, h5, fun q1 n1 => ⟨fnS b, q1, ["f", "g"], rfl, SqT.of upd_same, _, rfl, ifBf (by cases b <;> kernel_rfl) ?_⟩⟩
    have s1 := same_new (o := .tup ([((Sum.inr "f" : Key), V.ref ff), (Sum.inr "g", .ref fg)].map fun kv => kV kv.1)) n1
    generalize (upd H q1 (.tup ([((Sum.inr "f" : Key), V.ref ff), (Sum.inr "g", .ref fg)].map fun kv => kV kv.1))) = H1 at s1
    obtain ⟨dxs', cr', fk', kf', fa, hs', dg, Fa⟩ := (S.le (Le.of s1)).kept b
    obtain ⟨dx, ii, ei, kd, rl, rs, f1, f2, f3, f4, f5⟩ := Fa.ex
    have hl := Paired.len f5
    refine ⟨_, rfl, _, _, _, _, _, rfl, hs', T.c_Source, T.n_Source_kept_functions, (by rfl), _, rfl, kf', .ref fa, rfl, dg, ?_⟩
    refine ⟨_, rfl, _, rfl, _, _, _, _, _, rfl, f1, T.c_Function, T.n_Function_row_list, (by rfl), rl, _, rfl, .inl (SqL.of f4), _, _, rfl, rfl, (n : Int), 0, _, rfl, _, rfl, ifBf ?_ ⟨_, rfl, k _ fa s1 Fa⟩⟩
    rw [List.length_map, hl, decide_eq_true (by omega : (0 : Int) ≤ (n : Int)), decide_eq_true (by omega : (n : Int) ≤ ((G b).length : Int) - 1)]
    rfl
/-! wanted -/
def WOk (G : Prg) : Prop := ∀ b, (G b).length ≤ 40 ∧ NextOk (G b)
def spWanted (K : PySem.W.Frag) : Sp := fun vs H Q _ => ∃ (src : Addr) (G : Prg) (b : Bool) (n : Nat), vs = [.ref src, .str (fnS b), .int (n : Nat)] ∧ SrcAt K H src G ∧ WOk G ∧ n < (G b).length ∧
  ∀ H' l, Same H H' → H' l = some (.lst ((wlist (G b) n).map fun v => V.str v.s)) → Q (.ref l) H'
theorem sc_wanted : FnScope ["source", "name", "row"] ["source", "name", "row"] d_wanted.scope := ⟨rfl, rfl, rfl, by decide +kernel, rfl, by decide +kernel, by decide +kernel⟩
theorem k_wanted (T : Tx w K mg) : Ok P w K mg base 5 d_wanted ["source", "name", "row"] (spWanted K) := by
  refine Ok.of T.d_wanted sc_wanted (fun _ _ _ _ _ _ us hl => match us, hl with | [_, _, _], _ => rfl) (fun vs H Q E h => ?_) (fun cdv A outer s H vs Q E hr h => ?_)
  · obtain ⟨src, G, b, n, rfl, _⟩ := h
    rfl
  · obtain ⟨src, G, b, n, rfl, S, ok, hn, k⟩ := h
    refine ⟨_, (pss_one (ps_ret (pe_G (k_wanted_at T) (hr.mono (by decide)) T.g_wanted_at (pa_cons (pe_G (k_checked_function T) (hr.mono (by decide)) T.g_checked_function (pa_cons (pv 0) (pa_cons (pv 1) (pa_cons (pv 2) pa_nil)))) (pa_cons (pv 2) pa_nil))))), ?_⟩
    refine ⟨_, rfl, _, rfl, _, rfl, src, G, b, n, rfl, S, hn, fun H1 f s1 F => ?_⟩
    exact ⟨_, rfl, f, b, G b, n, rfl, F, (ok b).1, (ok b).2, hn, fun H2 l s2 hl => k H2 l (s1.trans s2) hl⟩
end
end K18
set_option Elab.async false
set_option linter.all false
set_option maxRecDepth 100000
set_option pp.deepTerms false
set_option pp.maxSteps 400
set_option maxHeartbeats 4000000
namespace K18
open PySem PySem.Spec PyProof.Rows L2
noncomputable def blist (rows : List Row) (n : Nat) (x : NV) : List Vr := (wlist rows (n + 1)).filter fun v => decide (v ≠ .n x)
theorem filt_snoc {α : Type} {p : α → Bool} {l : List α} {j : Nat} {v : α} (h : l[j]? = some v) : (l.take (j + 1)).filter p = if p v = true then (l.take j).filter p ++ [v] else (l.take j).filter p := by
  rw [take_snoc h, List.filter_append]
  by_cases e : p v = true
  · rw [if_pos e]
    simp [e]
  · rw [if_neg e]
    simp [e]
section
variable {P : Program} {w : World} {K : PySem.W.Frag} {mg : Str → Option Value} {base : Heap}
variable {H H' : Hp} {p src : Addr} {A : MA} {m : Mch} {G : Prg}
/-! wanted_behind -/
def spBehind (K : PySem.W.Frag) : Sp := fun vs H Q _ => ∃ (f : Addr) (b : Bool) (rows : List Row) (n : Nat) (x y : NV) (s : OV), vs = [.ref f, .int (n : Nat)] ∧ FunAt K H f b rows ∧ rows.length ≤ 40 ∧ NextOk rows ∧ rows[n]? = some (.call x y s) ∧ n + 1 < rows.length ∧
  ∀ H' l, Same H H' → H' l = some (.lst ((blist rows n x).map fun v => V.str v.s)) → Q (.ref l) H'
theorem sc_wanted_behind : FnScope ["function", "row", "name"] ["function", "row"] d_wanted_behind.scope := ⟨rfl, rfl, rfl, by decide +kernel, rfl, by decide +kernel, by decide +kernel⟩
theorem k_wanted_behind (T : Tx w K mg) : Ok P w K mg base 5 d_wanted_behind ["function", "row"] (spBehind K) := by
  refine Ok.of T.d_wanted_behind sc_wanted_behind (fun _ _ _ _ _ _ us hl => match us, hl with | [_, _], _ => rfl) (fun vs H Q E h => ?_) (fun cdv A outer s H vs Q E hr h => ?_)
  · obtain ⟨f, b, rows, n, x, y, s, rfl, _⟩ := h
    rfl
  · obtain ⟨f, b, rows, n, x, y, s, rfl, F, hle, hnx, hr0, hn, k⟩ := h
    refine ⟨_, (pss_one (ps_ret (pe_lc (own := [("name", 2)]) (g := (gName 2)) (by rfl) sc_wanted_behind.nd  (pi_list (pe_G (k_wanted_at T) (hr.mono (by decide)) T.g_wanted_at (pa_cons (pv 0) (pa_cons (pe_op op_add (pv 1) pe_int) pa_nil)))) (blkOk_by (own := [("name", 2)]) (N := ["function", "row", "name"]) (sc := d_wanted_behind.scope) (by decide +kernel)) (fun _ _ _ _ _ => (pg_name (i := 2) sc_wanted_behind.nd rfl (.inl rfl))) (fun _ _ _ _ _ => (pts_one (pt_cmpR op_ne (pv 2) (pe_G (k_set_by T) (hr.mono (by decide)) T.g_set_by (pa_cons (pe_ix (r := rIxL K) ix_list (pe_fldK K rfl (pv 0) rfl) (pv 1) (fun _ _ => rfl)) pa_nil)) (nomark _)))) (fun _ _ _ _ _ => (pv 2))))), ?_⟩
    refine ⟨_, rfl, _, rfl, _, _, rfl, rfl, f, b, rows, n + 1, rfl, F, hle, hnx, hn, fun H1 l s1 hl => ⟨l, rfl, ⟨_, SqL.of hl⟩, fun D hD => ?_⟩⟩
    refine lc_it (walk_list (xs := (wlist rows (n + 1)).map fun v => V.str v.s)) (fun j H' => H' = upd H1 D (.lst ((((wlist rows (n + 1)).take j).filter fun v => decide (v ≠ .n x)).map fun v => V.str v.s))) rfl (fun j H' _ e => by rw [e]; exact (same_new hD).seq (SqL.of hl)) (fun j v H2 H' hj e yy => ?_) (fun H' e => ?_)
    · obtain ⟨rfl, yy⟩ := yy
      subst e
      have yy : ((wlist rows (n + 1)).map fun v => V.str v.s)[j]? = some v := yy
      rw [List.length_map] at hj
      have hv : (wlist rows (n + 1))[j]? = some (wlist rows (n + 1))[j] := List.getElem?_eq_getElem hj
      generalize (wlist rows (n + 1))[j] = u at hv
      rw [List.getElem?_map, hv] at yy
      cases yy
      obtain ⟨dx, ii, ei, kd, rl, rs, f1, f2, f3, f4, f5⟩ := F.ex
      obtain ⟨ra, hra, hrow⟩ := Paired.getR f5 hr0
      have sn := s1.trans (same_new (o := .lst ((((wlist rows (n + 1)).take j).filter fun v => decide (v ≠ .n x)).map fun v => V.str v.s)) hD)
      refine ⟨rfl, _, rfl, _, rfl, _, _, _, _, _, rfl, sn _ _ f1, T.c_Function, T.n_Function_row_list, (by rfl), _, rfl, rl, _, (n : Int), _, rfl, rfl, SqL.of (sn _ _ f4), atI_nat (by rw [List.getElem?_map, hra]; rfl), ra, _, rfl, hrow.le (Le.of sn), rfl, _, rfl, ?_⟩
      have eb : (V.str u.s = setV (Row.call x y s).sets) ↔ u = .n x := ⟨fun z => vr_inj (V.str.inj z), fun z => by rw [z]; rfl⟩
      by_cases hu : u = .n x
      · refine iteNS (eb.mpr hu) ?_
        rw [filt_snoc hv, if_neg (by simp [hu])]
      · refine iteNF (fun z => hu (eb.mp z)) ⟨_, rfl, _, upd_same, ?_, ?_⟩
        · rw [List.length_map]
          have h5 := nd_few (wlist_nd rows (n + 1))
          exact lt_line (Nat.lt_of_le_of_lt (List.length_filter_le _ _) (by rw [List.length_take]; omega))
        · rw [upd_upd, filt_snoc hv, if_pos (decide_eq_true hu), List.map_append]
          rfl
    · subst e
      refine k _ D (s1.trans (same_new hD)) ?_
      rw [upd_same]
      have et : (wlist rows (n + 1)).take ((wlist rows (n + 1)).map fun v => V.str v.s).length = wlist rows (n + 1) := List.take_of_length_le (by rw [List.length_map]; exact Nat.le_refl _)
      rw [et]
      rfl
/-! wanted_at_call -/
def spWCall (K : PySem.W.Frag) : Sp := fun vs H Q _ => ∃ (src : Addr) (G : Prg) (b : Bool) (n : Nat) (x y : NV) (s : OV), vs = [.ref src, .str (fnS b), .int (n : Nat)] ∧ SrcAt K H src G ∧ WOk G ∧ (G b)[n]? = some (.call x y s) ∧ n + 1 < (G b).length ∧
  ∀ H' l, Same H H' → H' l = some (.lst ((blist (G b) n x).map fun v => V.str v.s)) → Q (.ref l) H'
theorem sc_wanted_at_call : FnScope ["source", "name", "row", "function"] ["source", "name", "row"] d_wanted_at_call.scope := ⟨rfl, rfl, rfl, by decide +kernel, rfl, by decide +kernel, by decide +kernel⟩
theorem k_wanted_at_call (T : Tx w K mg) : Ok P w K mg base 6 d_wanted_at_call ["source", "name", "row"] (spWCall K) := by
  refine Ok.of T.d_wanted_at_call sc_wanted_at_call (fun _ _ _ _ _ _ us hl => match us, hl with | [_, _, _], _ => rfl) (fun vs H Q E h => ?_) (fun cdv A outer s H vs Q E hr h => ?_)
  · obtain ⟨src, G, b, n, x, y, s, rfl, _⟩ := h
    rfl
  · obtain ⟨src, G, b, n, x, y, s, rfl, S, ok, hr0, hn, k⟩ := h
    refine ⟨_, (pss_cons (ps_set (i := 3) sc_wanted_at_call.nd rfl (.inl rfl) (pe_G (k_checked_function T) (hr.mono (by decide)) T.g_checked_function (pa_cons (pv 0) (pa_cons (pv 1) (pa_cons (pv 2) pa_nil)))))
      (pss_cons (ps_if (pt_cmp (pc_isN (pe_M (k_Function_call_at T) (hr.mono (by decide)) T.c_Function T.h_Function_call_at rfl (pv 3) (pa_cons (pv 2) pa_nil)))) pss_never pss_nil)
      (pss_one (ps_ret (pe_G (k_wanted_behind T) (hr.mono (by decide)) T.g_wanted_behind (pa_cons (pv 3) (pa_cons (pv 2) pa_nil))))))), ?_⟩
    refine ⟨_, rfl, _, rfl, _, rfl, src, G, b, n, rfl, S, by omega, fun H1 f s1 F => ?_⟩
    obtain ⟨dx, ii, ei, kd, rl, rs, f1, f2, f3, f4, f5⟩ := F.ex
    refine ⟨_, rfl, f, _, _, rfl, f1, by kernel_rfl, _, rfl, f, b, G b, n, x, y, s, rfl, F, hr0, fun ra => ?_⟩
    refine ⟨_, rfl, ifD_f (by intro z; cases z) ?_⟩
    exact ⟨_, rfl, _, rfl, f, b, G b, n, x, y, s, rfl, F, (ok b).1, (ok b).2, hr0, hn, fun H2 l s2 hl => k H2 l (s1.trans s2) hl⟩
end
end K18
set_option Elab.async false
set_option linter.all false
set_option maxRecDepth 100000
set_option pp.deepTerms false
set_option pp.maxSteps 400
set_option maxHeartbeats 4000000
namespace K18
open PySem PySem.Spec PyProof.Rows L2
/-- a well of figures -/
def WellAt (H : Hp) (W : Addr) : Prop := ∃ a b c : Int, H W = some (.lst [.int a, .int b, .int c])
theorem mod_small (i j : Int) (h : 0 < j) (h2 : j < 2 ^ 64) : -(2 ^ 64) < i % j ∧ i % j < 2 ^ 64 := by
  have h3 := Int.emod_nonneg i (show j ≠ 0 by omega)
  have h4 := Int.emod_lt_of_pos i h
  omega
section
variable {P : Program} {w : World} {K : PySem.W.Frag} {mg : Str → Option Value} {base : Heap}
variable {H H' : Hp} {p src : Addr} {A : MA} {m : Mch} {G : Prg}
def spWell : Sp := fun vs H Q _ => ∃ i : Int, vs = [.int i] ∧ ∀ H' W, Same H H' → H W = none → WellAt H' W → Q (.ref W) H'
theorem sc_law_well : FnScope ["_law_cell"] ["_law_cell"] d_law_well.scope := ⟨rfl, rfl, rfl, by decide +kernel, rfl, by decide +kernel, by decide +kernel⟩
theorem k_law_well (T : Tx w K mg) : Ok P w K mg base 1 d_law_well ["_law_cell"] spWell := by
  refine Ok.of T.d_law_well sc_law_well (fun _ _ _ _ _ _ us hl => match us, hl with | [_], _ => rfl) (fun vs H Q E h => ?_) (fun cdv A outer s H vs Q E hr h => ?_)
  · obtain ⟨i, rfl, _⟩ := h
    rfl
  · obtain ⟨i, rfl, k⟩ := h
    refine ⟨_, (pss_one (ps_ret (pe_lst (pa_cons (pe_op op_mul (pv 0) (pe_callTy call_int1 (by rfl) T.b_int bt_int (pa_cons (pe_cmpR op_ge (pv 0) (pe_op op_pow pe_int pe_int) (nomark _)) pa_nil))) (pa_cons (pe_op op_mod (pe_callTy call_int1 (by rfl) T.b_int bt_int (pa_cons (pv 0) pa_nil)) pe_int) (pa_cons pe_int pa_nil)))))), ?_⟩
    refine ⟨_, rfl, _, rfl, _, _, rfl, rfl, ?_, ?_⟩
    · exact ⟨by decide, by decide, by decide⟩
    · refine ⟨_, _, rfl, rfl, .inr ⟨_, rfl, _, _, rfl, rfl, ?_, _, rfl, (.inl ⟨_, rfl, _, _, rfl, rfl, (show (0 : Int) < 2147483629 by decide), (by show 3 ≤ sizeLine; decide), fun W nW => k _ W (same_new nW) nW ⟨_, _, _, upd_same⟩⟩)⟩⟩
      right
      split <;> decide
def spDraw : Sp := fun vs H Q _ => ∃ (W : Addr) (many : Int), vs = [.ref W, .int many] ∧ WellAt H W ∧ 0 < many ∧ many < 1000000 ∧
  ∀ (a b c r : Int), 0 ≤ r → r < many → Q (.int r) (upd H W (.lst [.int a, .int b, .int c]))
theorem sc_law_draw : FnScope ["_law_well_here", "_law_many", "_law_mixed", "_law_figure"] ["_law_well_here", "_law_many"] d_law_draw.scope := ⟨rfl, rfl, rfl, by decide +kernel, rfl, by decide +kernel, by decide +kernel⟩
theorem k_law_draw (T : Tx w K mg) : Ok P w K mg base 1 d_law_draw ["_law_well_here", "_law_many"] spDraw := by
  refine Ok.of T.d_law_draw sc_law_draw (fun _ _ _ _ _ _ us hl => match us, hl with | [_, _], _ => rfl) (fun vs H Q E h => ?_) (fun cdv A outer s H vs Q E hr h => ?_)
  · obtain ⟨W, many, rfl, _⟩ := h
    rfl
  · obtain ⟨W, many, rfl, ⟨a, b, c, hW⟩, m0, m1, k⟩ := h
    refine ⟨_, (pss_cons (ps_if (pt_cmpR op_gt (pe_ix ix_list (pv 0) pe_int (fun _ _ => rfl)) pe_int (nomark _)) (pss_cons (ps_set (i := 3) sc_law_draw.nd rfl (.inl rfl) (pe_op op_mod (pe_callTy call_int1 (by rfl) T.b_int bt_int (pa_cons (pe_ix ix_list (pv 0) pe_int (fun _ _ => rfl)) pa_nil)) (pv 1)))
      (pss_cons (ps_asg (pe_op op_fdiv (pe_ix ix_list (pv 0) pe_int (fun _ _ => rfl)) (pv 1)) (pg_sub (pv 0) pe_int set_list))
      (pss_one (ps_ret (pv 3))))) pss_nil)
      (pss_cons (ps_asg (pe_op op_add (pe_ix ix_list (pv 0) pe_int (fun _ _ => rfl)) pe_int) (pg_sub (pv 0) pe_int set_list))
      (pss_cons (ps_set (i := 2) sc_law_draw.nd rfl (.inl rfl) (pe_op op_mod (pe_callTy call_int1 (by rfl) T.b_int bt_int (pa_cons (pe_op op_mul (pe_op op_add (pe_op op_add (pe_ix ix_list (pv 0) pe_int (fun _ _ => rfl)) (pe_op op_mul pe_int (pe_ix ix_list (pv 0) pe_int (fun _ _ => rfl)))) pe_int) pe_int) pa_nil)) pe_int))
      (pss_cons (ps_set (i := 2) sc_law_draw.nd rfl (.inl rfl) (pe_op op_mod (pe_callTy call_int1 (by rfl) T.b_int bt_int (pa_cons (pe_op op_mul (pv 2) (pe_op op_add (pe_op op_fdiv (pv 2) pe_int) pe_int)) pa_nil)) pe_int))
      (pss_one (ps_ret (pe_op op_mod (pe_callTy call_int1 (by rfl) T.b_int bt_int (pa_cons (pe_op op_fdiv (pe_op op_mod (pe_callTy call_int1 (by rfl) T.b_int bt_int (pa_cons (pe_op op_mul (pv 2) (pe_op op_add (pe_op op_fdiv (pv 2) pe_int) pe_int)) pa_nil)) pe_int) pe_int) pa_nil)) (pv 1)))))))), ?_⟩
    refine ⟨_, rfl, W, _, 0, _, rfl, rfl, SqL.of hW, rfl, _, _, rfl, rfl, _, rfl, ?_⟩
    by_cases ha : 0 < a
    · refine ifB (decide_eq_true ha) ?_
      refine ⟨_, rfl, W, _, 0, _, rfl, rfl, SqL.of hW, rfl, .inl ⟨_, rfl, _, rfl, _, _, rfl, rfl, m0, ?_⟩⟩
      refine ⟨_, rfl, W, _, 0, _, rfl, rfl, SqL.of hW, rfl, _, rfl, _, _, rfl, rfl, ⟨m0, by omega⟩, _, rfl, W, _, 0, 0, rfl, rfl, hW, rfl, ?_⟩
      exact ⟨_, rfl, k _ _ _ _ (Int.emod_nonneg _ (by omega)) (Int.emod_lt_of_pos _ m0)⟩
    · refine ifBf (decide_eq_false ha) ?_
      refine ⟨_, rfl, W, _, 2, _, rfl, rfl, SqL.of hW, rfl, _, _, rfl, rfl, _, rfl, W, _, 2, 2, rfl, rfl, hW, rfl, ?_⟩
      have h2 : (upd H W (.lst ([V.int a, .int b, .int c].set 2 (.int (c + 1))))) W = some (.lst [.int a, .int b, .int (c + 1)]) := upd_same
      have hu : ∀ x y z : Int, upd (upd H W (.lst ([V.int a, .int b, .int c].set 2 (.int (c + 1))))) W (.lst [.int x, .int y, .int z]) = upd H W (.lst [.int x, .int y, .int z]) := fun x y z => upd_upd
      have k2 := k a b (c + 1)
      have k2 : ∀ r : Int, 0 ≤ r → r < many → Q (.int r) (upd H W (.lst ([V.int a, .int b, .int c].set 2 (.int (c + 1))))) := k2
      generalize (upd H W (.lst ([V.int a, .int b, .int c].set 2 (.int (c + 1))))) = H2 at h2 k2
      refine ⟨_, rfl, W, _, 1, _, rfl, rfl, SqL.of h2, rfl, _, rfl, W, _, 2, _, rfl, rfl, SqL.of h2, rfl, _, _, rfl, rfl, .inl ⟨by decide, by decide⟩, _, _, rfl, rfl, _, _, rfl, rfl, _, _, rfl, rfl, .inr ⟨by decide, by decide⟩, .inl ⟨_, rfl, _, _, rfl, rfl, (show (0 : Int) < 2147483647 by decide), ?_⟩⟩
      refine ⟨_, rfl, _, rfl, _, _, rfl, rfl, ⟨by decide, by decide⟩, _, _, rfl, rfl, _, _, rfl, rfl, .inl (mod_small _ _ (by decide) (by decide)), .inl ⟨_, rfl, _, _, rfl, rfl, (show (0 : Int) < 2147483587 by decide), ?_⟩⟩
      refine ⟨_, rfl, _, rfl, _, _, rfl, rfl, ⟨by decide, by decide⟩, _, _, rfl, rfl, _, _, rfl, rfl, .inl (mod_small _ _ (by decide) (by decide)), .inl ⟨_, rfl, _, _, rfl, rfl, (show (0 : Int) < 2147483563 by decide), _, _, rfl, rfl, ⟨by decide, by decide⟩, .inl ⟨_, rfl, _, rfl, _, _, rfl, rfl, m0, ?_⟩⟩⟩
      exact k2 _ (Int.emod_nonneg _ (by omega)) (Int.emod_lt_of_pos _ m0)
end
end K18
set_option Elab.async false
set_option linter.all false
set_option maxRecDepth 100000
set_option pp.deepTerms false
set_option pp.maxSteps 400
set_option maxHeartbeats 4000000
namespace K18
open PySem PySem.Spec PyProof.Rows L2
/-- an object that is no well -/
def Nw (o : HO) : Prop := ∀ a b c : Int, o ≠ .lst [.int a, .int b, .int c]
/-- all but wells is as it was -/
def Nx (H H' : Hp) : Prop := ∀ a o, H a = some o → Nw o → H' a = some o
theorem nw_tup {xs : List V} : Nw (.tup xs) := fun _ _ _ e => by cases e
theorem nw_ins {C dx : Addr} {fs : List (Str × V)} : Nw (.ins C dx fs) := fun _ _ _ e => by cases e
theorem nw_dk {kvs : List (Key × V)} : Nw (.dK kvs) := fun _ _ _ e => by cases e
theorem nw_frz {ob : Obj} {o : HO} : Nw (.frz ob o) := fun _ _ _ e => by cases e
theorem nw_refs (ts : List Addr) : Nw (.lst (ts.map V.ref)) := fun a b c e => by
  cases ts with
  | nil => cases e
  | cons t r => cases e
theorem nw_strs (ts : List Str) : Nw (.lst (ts.map V.str)) := fun a b c e => by
  cases ts with
  | nil => cases e
  | cons t r => cases e
theorem nw_two {x y : V} : Nw (.lst [x, y]) := fun a b c e => by cases e
theorem nw_one {x : V} : Nw (.lst [x]) := fun a b c e => by cases e
section
variable {K : PySem.W.Frag} {H H1 H' : Hp} {W : Addr}
theorem Nx.refl (H : Hp) : Nx H H := fun _ _ e _ => e
theorem Nx.trans (a : Nx H H1) (b : Nx H1 H') : Nx H H' := fun x o e n => b x o (a x o e n) n
theorem Nx.of (e : Same H H') : Nx H H' := fun a o h _ => e a o h
theorem Nx.tup (g : Nx H H') {a : Addr} {xs : List V} (h : H a = some (.tup xs)) : H' a = some (.tup xs) := g a _ h nw_tup
theorem Nx.ins (g : Nx H H') {a C dx : Addr} {fs : List (Str × V)} (h : H a = some (.ins C dx fs)) : H' a = some (.ins C dx fs) := g a _ h nw_ins
theorem Nx.dk (g : Nx H H') {a : Addr} {kvs : List (Key × V)} (h : H a = some (.dK kvs)) : H' a = some (.dK kvs) := g a _ h nw_dk
theorem Nx.rd (g : Nx H H') {a : Addr} {kvs : List (Key × V)} (h : Rd H a (.dK kvs)) : Rd H' a (.dK kvs) := by
  rcases h with h | ⟨o, h⟩
  · exact .inl (g.dk h)
  · exact .inr ⟨o, g a _ h nw_frz⟩
theorem Nx.refs (g : Nx H H') {a : Addr} {ts : List Addr} (h : H a = some (.lst (ts.map V.ref))) : H' a = some (.lst (ts.map V.ref)) := g a _ h (nw_refs ts)
theorem Nx.tk (g : Nx H H') : Tk H H' := fun _ _ h => g.tup h
theorem ArgAt.nx {l : Bool} {q : V} {r : Row} (e : Nx H H') (h : ArgAt l H q r) : ArgAt l H' q r := by
  cases r with
  | call x y s =>
    obtain ⟨a, h1, h2⟩ := h
    refine ⟨a, h1, ?_⟩
    cases l
    · exact e.tup h2
    · exact e _ _ h2 nw_two
  | _ => exact h
theorem RowAt.nx {l : Bool} {t : Addr} {r : Row} (e : Nx H H') (h : RowAt l H t r) : RowAt l H' t r := by
  obtain ⟨q, h1, h2⟩ := h
  exact ⟨q, e.tup h1, h2.nx e⟩
theorem PairsAt.nx {a : Addr} {ds : List (Str × Str)} (e : Nx H H') (h : PairsAt H a ds) : PairsAt H' a ds := by
  obtain ⟨ts, h1, h2⟩ := h
  exact ⟨ts, e.refs h1, Paired.mapP h2 fun _ _ q => e.tup q⟩
theorem HeadAt.nx (g : Nx H H') {t : Addr} {b : Bool} {rows : List Row} (h : HeadAt H t b rows) : HeadAt H' t b rows := by
  obtain ⟨i, e, rl, rs, h1, h2, h3, h4, h5⟩ := h.ex
  exact ⟨i, e, rl, rs, g.tup h1, h2.nx g, h3.nx g, g.refs h4, Paired.mapP h5 fun _ _ q => q.nx g⟩
theorem FunAt.nx {f : Addr} {b : Bool} {rows : List Row} (e : Nx H H') (h : FunAt K H f b rows) : FunAt K H' f b rows := by
  obtain ⟨dx, i, x, kd, rl, rs, h1, h2, h3, h4, h5⟩ := h.ex
  exact ⟨dx, i, x, kd, rl, rs, e.ins h1, h2.nx e, e.dk h3, e.refs h4, Paired.mapP h5 fun _ _ q => q.nx e⟩
theorem SrcAt.nx {s : Addr} {P : Prg} (e : Nx H H') (h : SrcAt K H s P) : SrcAt K H' s P := by
  obtain ⟨dx, cr, fk, kf, ca, ff, fg, h1, h2, h3, h4, h5, h6, h7⟩ := h.ex
  exact ⟨dx, cr, fk, kf, ca, ff, fg, e.ins h1, e.rd h2, h3.nx e, e.rd h4, e.rd h5, h6.nx e, h7.nx e⟩
theorem SFAt.nx {a : SF} {f : Fr} (e : Nx H H') (h : SFAt H a f) : SFAt H' a f := ⟨e.tup h.t, e.dk h.d, fun s => (h.o s).tk e.tk⟩
theorem FrsAt.nx {l : Addr} {sf : List SF} {fs : List Fr} (e : Nx H H') (h : FrsAt H l sf fs) : FrsAt H' l sf fs :=
  ⟨by
    have q := h.l
    have z : (sf.map fun a => V.ref a.t) = (sf.map (·.t)).map V.ref := by rw [List.map_map]; rfl
    rw [z] at q ⊢
    exact e.refs q, Paired.mapP h.f fun _ _ q => q.nx e, h.nd⟩
theorem ObAt.nx {a : OA} {o : Ob} (e : Nx H H') (h : ObAt H a o) : ObAt H' a o := ⟨e.tup h.t, e.dk h.d, h.n.tk e.tk⟩
theorem HpAt.nx {l : Addr} {os : List OA} {obs : List Ob} (e : Nx H H') (h : HpAt H l os obs) : HpAt H' l os obs := ⟨e.dk h.d, Paired.mapP h.o fun _ _ q => q.nx e, h.nd⟩
/-- figures are drawn -/
structure Dr (W : Addr) (H H' : Hp) : Prop where
  b : But W H H'
  w : WellAt H' W
theorem Dr.nx (h : WellAt H W) (d : Dr W H H') : Nx H H' := fun a o e n => d.b a o e fun z => by
  subst z
  obtain ⟨i, j, k, q⟩ := h
  rw [q] at e
  cases e
  exact n _ _ _ rfl
theorem WellAt.same (h : WellAt H W) (e : Same H H') : WellAt H' W := by
  obtain ⟨i, j, k, q⟩ := h
  exact ⟨i, j, k, e _ _ q⟩
theorem WellAt.ne (h : WellAt H W) {a : Addr} (e : H a = none) : W ≠ a := fun z => by
  obtain ⟨i, j, k, q⟩ := h
  subst z
  rw [e] at q
  cases q
theorem WellAt.ne' (h : WellAt H W) {a : Addr} {o : HO} (e : H a = some o) (n : Nw o) : W ≠ a := fun z => by
  obtain ⟨i, j, k, q⟩ := h
  subst z
  rw [e] at q
  cases q
  exact n _ _ _ rfl
theorem Dr.refl (h : WellAt H W) : Dr W H H := ⟨fun _ _ e _ => e, h⟩
theorem Dr.trans (a : Dr W H H1) (b : Dr W H1 H') : Dr W H H' := ⟨a.b.trans b.b, b.w⟩
theorem Dr.of (h : WellAt H W) (e : Same H H') : Dr W H H' := ⟨But.of e, h.same e⟩
theorem Dr.same (a : Dr W H H1) (e : Same H1 H') : Dr W H H' := ⟨a.b.trans (But.of e), a.w.same e⟩
theorem Dr.upd (a b c : Int) : Dr W H (upd H W (.lst [.int a, .int b, .int c])) := ⟨but_upd _ _ _, a, b, c, upd_same⟩
theorem Dr.put (d : Dr W H H') {p : Addr} {o : HO} (hp : H p = none) (n : W ≠ p) : Dr W H (L2.upd H' p o) := ⟨fun a u e z => by
  rw [upd_ne (ne_of_none e hp)]
  exact d.b a u e z, by
  obtain ⟨i, j, k, q⟩ := d.w
  exact ⟨i, j, k, by rw [upd_ne n]; exact q⟩⟩
theorem MachAt.dr {p src : Addr} {A : MA} {m : Mch} (M : MachAt K H p src A m) (h : WellAt H W) (n : W ∉ A.fp p) (d : Dr W H H') : MachAt K H' p src A m :=
  M.frame (d.nx h).tk fun x hx => by
    cases q : H x with
    | none => exact absurd q (M.ne0 hx)
    | some o => exact d.b x o q fun z => n (by rw [← z]; exact hx)
end
section
variable {P : Program} {w : World} {K : PySem.W.Frag} {mg : Str → Option Value} {base : Heap}
variable {H H' : Hp} {p src : Addr} {A : MA} {m : Mch} {G : Prg}
def spOne : Sp := fun vs H Q _ => ∃ (W l : Addr) (xs : List V), vs = [.ref W, .ref l] ∧ WellAt H W ∧ H l = some (.lst xs) ∧ W ≠ l ∧ 1 ≤ xs.length ∧ xs.length < 1000 ∧ ∀ H' v, Dr W H H' → v ∈ xs → Q v H'
theorem sc_law_one : FnScope ["_law_well_here", "_law_some"] ["_law_well_here", "_law_some"] d_law_one.scope := ⟨rfl, rfl, rfl, by decide +kernel, rfl, by decide +kernel, by decide +kernel⟩
theorem k_law_one (T : Tx w K mg) : Ok P w K mg base 2 d_law_one ["_law_well_here", "_law_some"] spOne := by
  refine Ok.of T.d_law_one sc_law_one (fun _ _ _ _ _ _ us hl => match us, hl with | [_, _], _ => rfl) (fun vs H Q E h => ?_) (fun cdv A outer s H vs Q E hr h => ?_)
  · obtain ⟨W, l, xs, rfl, _⟩ := h
    rfl
  · obtain ⟨W, l, xs, rfl, hW, hl, ne, x1, x2, k⟩ := h
    refine ⟨_, (pss_one (ps_ret (pe_ix ix_list (pv 1) (pe_G (k_law_draw T) (hr.mono (by decide)) T.g_law_draw (pa_cons (pv 0) (pa_cons (pe_callB call_len_seq (by rfl) T.b_len PySem.boot_len (pa_cons (pv 1) pa_nil)) pa_nil))) (fun _ _ => rfl)))), ?_⟩
    refine ⟨_, rfl, _, rfl, _, rfl, l, _, rfl, .inl (SqL.of hl), W, (xs.length : Int), rfl, hW, by omega, by omega, fun a b c r r0 r1 => ?_⟩
    obtain ⟨n, rfl⟩ : ∃ n : Nat, r = n := ⟨r.toNat, by omega⟩
    have hn : n < xs.length := by omega
    have hl' : (upd H W (.lst [.int a, .int b, .int c])) l = some (.lst xs) := by rw [upd_ne (Ne.symm ne)]; exact hl
    exact ⟨l, _, (n : Int), _, rfl, rfl, SqL.of hl', atI_nat (List.getElem?_eq_getElem hn), k _ _ (Dr.upd _ _ _) (List.getElem_mem hn)⟩
theorem nv_mem {v : V} (h : v ∈ [V.str "a", .str "b", .str "c"]) : ∃ x : NV, v = .str x.s := by
  simp only [List.mem_cons, List.not_mem_nil, or_false] at h
  rcases h with rfl | rfl | rfl
  · exact ⟨.a, rfl⟩
  · exact ⟨.b, rfl⟩
  · exact ⟨.c, rfl⟩
theorem ov_mem {v : V} (h : v ∈ [V.str "o", .str "p"]) : ∃ x : OV, v = .str x.s := by
  simp only [List.mem_cons, List.not_mem_nil, or_false] at h
  rcases h with rfl | rfl
  · exact ⟨.o, rfl⟩
  · exact ⟨.p, rfl⟩
end
end K18
set_option Elab.async false
set_option linter.all false
set_option maxRecDepth 100000
set_option maxHeartbeats 4000000
namespace K18
open PySem PySem.Spec PyProof.Rows L2
/-! the plain law: drawn rows make a good program; turned frames; what is told -/
structure RowsGood (rows : List Row) : Prop where
  ne : 1 ≤ rows.length
  le : rows.length ≤ 10
  fit : ∀ (i : Nat) r, rows[i]? = some r → RowFit rows.length r
  last : ∀ r, rows[rows.length - 1]? = some r → (∃ k, r = .jump k) ∨ ∃ x, r = .ret x
def prg (f g : List Row) : Prg := fun b => if b = true then f else g
theorem gok {G : Prg} (h : ∀ b, RowsGood (G b)) : GOk G :=
  { ne := fun b => (h b).ne, few := fun b => Nat.le_trans (h b).le (by decide), fit := fun b => (h b).fit, last := fun b => (h b).last }
theorem prgok {G : Prg} (h : ∀ b, RowsGood (G b)) : PrgOk G :=
  { ne := fun b z => by
      have q := (h b).ne
      rw [z] at q
      exact absurd q (by decide)
    len := fun b => (h b).le
    goI := fun b i x r e => ((h b).fit i _ e).1 _ _ rfl
    goJ := fun b i r e => ((h b).fit i _ e).2 _ rfl
    last := fun b => (h b).last }
theorem wok {G : Prg} (h : ∀ b, RowsGood (G b)) : WOk G := fun b => ⟨Nat.le_trans (h b).le (by decide), fun n r e c hc => by
  have pk := prgok h
  cases r with
  | ret x => cases hc
  | jump k =>
    rcases List.mem_cons.mp hc with z | z
    · rw [z]; exact pk.goJ b n k e
    · cases z
  | ifz x k =>
    rcases List.mem_cons.mp hc with z | z
    · rw [z]; exact pk.next e (by simp) (by simp)
    · rcases List.mem_cons.mp z with z | z
      · rw [z]; exact pk.goI b n x k e
      · cases z
  | _ =>
    rcases List.mem_cons.mp hc with z | z
    · rw [z]; exact pk.next e (by simp) (by simp)
    · cases z⟩
theorem good0 {G : Prg} (h : ∀ b, RowsGood (G b)) (b : Bool) {i : Int} (i0 : 0 ≤ i) (i1 : i < 5) : Good G 0 (mch0 b i) := by
  refine ⟨fun f hf => ?_, .inr (.one _), (fun o ho => by cases ho), rfl, ?_⟩
  · have hf : f ∈ [({ fEnter i none with fn := b } : Fr)] := hf
    rw [List.mem_singleton] at hf
    subst hf
    refine ⟨(h b).ne, fun x => ?_, fun s j e => ?_⟩
    · show Bd 0 (if x = .a then i else 0)
      split
      · exact Bd.small 0 (by omega) (by omega)
      · exact Bd.small 0 (by decide) (by decide)
    · have e : (if s = OV.o then (none : Option Nat) else none) = some j := e
      rw [ite_self] at e
      cases e
  · exact ⟨fun _ => (by intro z; cases z), fun _ => rfl⟩
theorem Chain.calls {G : Prg} : ∀ {l : List Fr}, Chain G l → ∀ (i : Nat) f g, l[i]? = some f → l[i + 1]? = some g → Calls G g ∧ f.fn = true
  | _, .one f, i, a, b, h1, h2 => by simp at h2
  | _, .cons e c r, 0, a, b, h1, h2 => by
    cases h1; cases h2
    exact ⟨c, e⟩
  | _, .cons e c r, i + 1, a, b, h1, h2 => Chain.calls r i a b (by simpa using h1) (by simpa using h2)
theorem frsok {G : Prg} {k : Nat} {m : Mch} (h : ∀ b, RowsGood (G b)) (g : Good G k m) (hne : m.stack ≠ []) (hl : m.stack.length ≤ 50) : FrsOk G m.stack.reverse := by
  refine ⟨by simpa using hne, by simpa using hl, fun f hf => ⟨(g.fr f (by simpa using hf)).at_, Nat.le_trans (h f.fn).le (by decide)⟩, fun i f q h1 h2 => ?_⟩
  rcases g.ch with z | c
  · exact absurd z hne
  · have l2 : i + 1 < m.stack.length := by
      have := (List.getElem?_eq_some_iff.mp h2).1
      simpa using this
    have e2 : m.stack[m.stack.length - 1 - (i + 1)]? = some q := by
      rw [List.getElem?_reverse (by omega)] at h2
      exact h2
    have e1 : m.stack[m.stack.length - 1 - (i + 1) + 1]? = some f := by
      rw [List.getElem?_reverse (by omega)] at h1
      rw [show m.stack.length - 1 - (i + 1) + 1 = m.stack.length - 1 - i by omega]
      exact h1
    exact c.calls _ _ _ e2 e1
theorem refs_ok {G : Prg} {k : Nat} {m : Mch} (g : Good G k m) : Refs m.obs.length m.stack.reverse m.obs :=
  ⟨fun f hf => (g.fr f (by simpa using hf)).obj, fun o ho => (g.ob o ho).2⟩
/-! turned frames: the same places, other values in what is not wanted -/
noncomputable def needs (G : Prg) (last : Bool) (f : Fr) : List Vr := if last = true then wlist (G f.fn) f.at_ else blist (G f.fn) f.at_ (callVar G f)
structure Turn1 (G : Prg) (n : Nat) (last : Bool) (f g : Fr) : Prop where
  fn : g.fn = f.fn
  at_ : g.at_ = f.at_
  num : ∀ x, g.num x = f.num x ∨ (-5 ≤ g.num x ∧ g.num x ≤ 5)
  obj : ∀ s, g.obj s = f.obj s ∨ ∀ j, g.obj s = some j → j < n
  agr : ∀ v ∈ needs G last f, agree f g v
/-- outermost first, as State holds them -/
def Turned (G : Prg) (n : Nat) (fs gs : List Fr) : Prop := gs.length = fs.length ∧ ∀ (i : Nat) f g, fs[i]? = some f → gs[i]? = some g → Turn1 G n (decide (i + 1 = fs.length)) f g
theorem Turn1.ok {G : Prg} {k n : Nat} {last : Bool} {f g : Fr} (t : Turn1 G n last f g) (h : FrOk G k n f) : FrOk G k n g := by
  refine ⟨by rw [t.fn, t.at_]; exact h.at_, fun x => ?_, fun s j e => ?_⟩
  · rcases t.num x with q | q
    · rw [q]; exact h.num x
    · exact Bd.small k q.1 q.2
  · rcases t.obj s with q | q
    · exact h.obj s j (by rw [← q]; exact e)
    · exact q j e
theorem agree_refl (f : Fr) (v : Vr) : agree f f v := by cases v <;> exact rfl
theorem Turn1.refl {G : Prg} {n : Nat} {last : Bool} {f : Fr} : Turn1 G n last f f := ⟨rfl, rfl, fun _ => .inl rfl, fun _ => .inl rfl, fun v _ => agree_refl f v⟩
theorem Turn1.setN {G : Prg} {n : Nat} {last : Bool} {f g : Fr} (t : Turn1 G n last f g) {x : NV} (hx : Vr.n x ∉ needs G last f) {i : Int} (i0 : -5 ≤ i) (i1 : i ≤ 5) : Turn1 G n last f (g.setN x i) := by
  refine ⟨t.fn, t.at_, fun y => ?_, t.obj, fun v hv => ?_⟩
  · show (if y = x then i else g.num y) = f.num y ∨ -5 ≤ (if y = x then i else g.num y) ∧ (if y = x then i else g.num y) ≤ 5
    split
    · exact .inr ⟨i0, i1⟩
    · exact t.num y
  · have q := t.agr v hv
    cases v with
    | n y =>
      have hy : y ≠ x := fun z => hx (by rw [← z]; exact hv)
      show f.num y = if y = x then i else g.num y
      rw [if_neg hy]
      exact q
    | o s => exact q
theorem Turn1.setO {G : Prg} {n : Nat} {last : Bool} {f g : Fr} (t : Turn1 G n last f g) {x : OV} (hx : Vr.o x ∉ needs G last f) {i : Option Nat} (h : ∀ j, i = some j → j < n) : Turn1 G n last f (g.setO x i) := by
  refine ⟨t.fn, t.at_, t.num, fun y => ?_, fun v hv => ?_⟩
  · show (if y = x then i else g.obj y) = f.obj y ∨ ∀ j, (if y = x then i else g.obj y) = some j → j < n
    split
    · exact .inr h
    · exact t.obj y
  · have q := t.agr v hv
    cases v with
    | n y => exact q
    | o s =>
      have hy : s ≠ x := fun z => hx (by rw [← z]; exact hv)
      show f.obj s = if s = x then i else g.obj s
      rw [if_neg hy]
      exact q
theorem mem_blist {rows : List Row} {n : Nat} {x : NV} {v : Vr} : v ∈ blist rows n x ↔ Want rows (n + 1) v ∧ v ≠ .n x := by
  unfold blist
  rw [List.mem_filter, mem_wlist]
  simp
theorem Turn1.top {G : Prg} {n : Nat} {f g : Fr} (t : Turn1 G n true f g) : TopAgr G f g :=
  ⟨t.fn.symm, t.at_.symm, fun v hv => t.agr v (by
    show v ∈ wlist (G f.fn) f.at_
    exact mem_wlist.mpr hv)⟩
theorem Turn1.wait {G : Prg} {n : Nat} {f g : Fr} (t : Turn1 G n false f g) (c : Calls G f) : WaitAgr G f g := by
  obtain ⟨x, y, s, e⟩ := c
  refine ⟨t.fn.symm, t.at_.symm, x, y, s, e, fun v hv hx => t.agr v ?_⟩
  have ec : callVar G f = x := by unfold callVar; rw [e]
  show v ∈ blist (G f.fn) f.at_ (callVar G f)
  rw [ec]
  exact mem_blist.mpr ⟨hv, hx⟩
theorem waits_of {G : Prg} {n : Nat} : ∀ {fs gs : List Fr}, fs.length = gs.length → (∀ (i : Nat) f g, fs[i]? = some f → gs[i]? = some g → Turn1 G n false f g ∧ Calls G f) → Waits G fs gs
  | [], [], _, _ => .nil
  | f :: r, g :: s, hl, h => .cons ((h 0 f g rfl rfl).1.wait (h 0 f g rfl rfl).2) (waits_of (by simpa using hl) fun i a b h1 h2 => h (i + 1) a b (by simpa using h1) (by simpa using h2))
  | [], _ :: _, hl, _ => by simp at hl
  | _ :: _, [], hl, _ => by simp at hl
theorem chain_of {G : Prg} : ∀ {l : List Fr}, l ≠ [] → (∀ (i : Nat) f g, l[i]? = some f → l[i + 1]? = some g → Calls G g ∧ f.fn = true) → Chain G l
  | [], h, _ => absurd rfl h
  | [f], _, _ => .one f
  | f :: g :: r, _, h => .cons (h 0 f g rfl rfl).2 (h 0 f g rfl rfl).1 (chain_of (by simp) fun i a b h1 h2 => h (i + 1) a b (by simpa using h1) (by simpa using h2))
theorem rev_get {α : Type} {l : List α} {i : Nat} {a : α} (h : l.reverse[i]? = some a) : i < l.length ∧ l[l.length - 1 - i]? = some a := by
  have q := (List.getElem?_eq_some_iff.mp h).1
  rw [List.length_reverse] at q
  rw [List.getElem?_reverse q] at h
  exact ⟨q, h⟩
theorem Calls.eq {G : Prg} {f g : Fr} (c : Calls G f) (h1 : g.fn = f.fn) (h2 : g.at_ = f.at_) : Calls G g := by
  obtain ⟨x, y, s, e⟩ := c
  exact ⟨x, y, s, by rw [h1, h2]; exact e⟩
theorem Turned.get {G : Prg} {n : Nat} {fs gs : List Fr} (t : Turned G n fs gs) {i : Nat} {g : Fr} (h : gs[i]? = some g) : ∃ f, fs[i]? = some f ∧ Turn1 G n (decide (i + 1 = fs.length)) f g := by
  have q := (List.getElem?_eq_some_iff.mp h).1
  rw [t.1] at q
  exact ⟨fs[i], List.getElem?_eq_getElem q, t.2 i _ _ (List.getElem?_eq_getElem q) h⟩
theorem Turned.sim {G : Prg} {fs gs : List Fr} {obs : List Ob} (ok : FrsOk G fs) (t : Turned G obs.length fs gs) : Sim G (mchOf fs obs) (mchOf gs obs) := by
  refine ⟨rfl, rfl, rfl, rfl, rfl, .inr ?_⟩
  have hne := ok.ne
  obtain ⟨f, r, hf⟩ : ∃ f r, fs.reverse = f :: r := by
    cases e : fs.reverse with
    | nil => exact absurd (by simpa using e) hne
    | cons f r => exact ⟨f, r, rfl⟩
  obtain ⟨g, s, hg⟩ : ∃ g s, gs.reverse = g :: s := by
    cases e : gs.reverse with
    | nil =>
      have : gs.length = 0 := by rw [← List.length_reverse, e]; rfl
      rw [t.1] at this
      exact absurd (List.length_eq_zero_iff.mp this) hne
    | cons f r => exact ⟨f, r, rfl⟩
  have lf : fs.length = r.length + 1 := by rw [← List.length_reverse, hf]; rfl
  have lg : gs.length = s.length + 1 := by rw [← List.length_reverse, hg]; rfl
  have hl : gs.length = fs.length := t.1
  have f0 := (rev_get (show fs.reverse[0]? = some f by rw [hf]; rfl)).2
  have g0 := (rev_get (show gs.reverse[0]? = some g by rw [hg]; rfl)).2
  refine ⟨f, r, g, s, hf, hg, ?_, waits_of (n := obs.length) (by omega) fun i a b h1 h2 => ?_⟩
  · rw [hl] at g0
    have q := t.2 _ _ _ f0 g0
    rw [decide_eq_true (by omega)] at q
    exact q.top
  · have a1 := (rev_get (show fs.reverse[i + 1]? = some a by rw [hf]; exact h1))
    have b1 := (rev_get (show gs.reverse[i + 1]? = some b by rw [hg]; exact h2))
    rw [hl] at b1
    have q := t.2 _ _ _ a1.2 b1.2
    rw [decide_eq_false (by omega)] at q
    refine ⟨q, ?_⟩
    have hj : fs.length - 1 - (i + 1) + 1 < fs.length := by omega
    exact (ok.ca _ _ _ a1.2 (List.getElem?_eq_getElem hj)).1
theorem goodOf {G : Prg} {k : Nat} {fs : List Fr} {obs : List Ob} (ok : FrsOk G fs) (hf : ∀ f ∈ fs, FrOk G k obs.length f) (ho : ∀ o ∈ obs, Bd k o.item ∧ ∀ j, o.next = some j → j < obs.length) : Good G k (mchOf fs obs) := by
  refine ⟨fun f h => hf f (by simpa [mchOf] using h), .inr ?_, ho, rfl, ?_⟩
  · refine chain_of (by simpa [mchOf] using ok.ne) fun i f g h1 h2 => ?_
    have a := rev_get h1
    have b := rev_get h2
    have hj : fs.length - 1 - (i + 1) + 1 = fs.length - 1 - i := by omega
    exact ok.ca _ _ _ b.2 (by rw [hj]; exact a.2)
  · exact ⟨fun _ z => ok.ne (by simpa [mchOf] using z), fun _ => rfl⟩
theorem Turned.frsok {G : Prg} {n : Nat} {fs gs : List Fr} (ok : FrsOk G fs) (t : Turned G n fs gs) : FrsOk G gs := by
  refine ⟨fun z => ok.ne (List.length_eq_zero_iff.mp (by rw [← t.1, z]; rfl)), by rw [t.1]; exact ok.few, fun g hg => ?_, fun i f g h1 h2 => ?_⟩
  · obtain ⟨i, hi⟩ := List.getElem?_of_mem hg
    obtain ⟨f, hf, q⟩ := t.get hi
    rw [q.fn, q.at_]
    exact ok.at_ f (List.mem_of_getElem? hf)
  · obtain ⟨f', hf', q⟩ := t.get h1
    obtain ⟨g', hg', q'⟩ := t.get h2
    obtain ⟨c, e⟩ := ok.ca i f' g' hf' hg'
    exact ⟨c.eq q.fn q.at_, q'.fn.trans e⟩
theorem Turned.frok {G : Prg} {k n : Nat} {fs gs : List Fr} (t : Turned G n fs gs) (h : ∀ f ∈ fs, FrOk G k n f) : ∀ g ∈ gs, FrOk G k n g := fun g hg => by
  obtain ⟨i, hi⟩ := List.getElem?_of_mem hg
  obtain ⟨f, hf, q⟩ := t.get hi
  exact q.ok (h f (List.mem_of_getElem? hf))
/-! what is told -/
def lgD : Lg → PyData
  | .num i => .tuple [.str "number", .int i]
  | .obj => .tuple [.str "object", .str "cell"]
  | .nil => .tuple [.str "nil"]
def resD : Option Int → PyData
  | none => .none
  | some i => .tuple [.str "done", .int i]
def isN : Vr → Bool
  | .n _ => true
  | .o _ => false
def valD (f : Fr) : Vr → PyData
  | .n x => .int (f.num x)
  | .o _ => .none
noncomputable def frD (G : Prg) (last : Bool) (f : Fr) : PyData := .tuple [.str (fnS f.fn), .int (f.at_ : Int), .list (((needs G last f).filter isN).map (valD f))]
noncomputable def stD (G : Prg) (st : List Fr) : List PyData := match st with
  | [] => []
  | f :: r => (r.map (frD G false)).reverse ++ [frD G true f]
noncomputable def toldD (G : Prg) (m : Mch) : PyData := .list ([.list (m.log.map lgD), resD m.res, .int (m.cnt : Int)] ++ stD G m.stack)
theorem frD_eq {G : Prg} {last : Bool} {f g : Fr} (h1 : f.fn = g.fn) (h2 : f.at_ = g.at_) (h : ∀ v ∈ needs G last f, agree f g v) : frD G last f = frD G last g := by
  have en : needs G last f = needs G last g := by
    unfold needs callVar
    rw [h1, h2]
  unfold frD
  rw [← en, h1, h2]
  congr 5
  refine List.map_congr_left fun v hv => ?_
  rw [List.mem_filter] at hv
  have q := h v hv.1
  cases v with
  | n x =>
    show PyData.int (f.num x) = .int (g.num x)
    rw [show f.num x = g.num x from q]
  | o s => rfl
theorem TopAgr.told {G : Prg} {f g : Fr} (t : TopAgr G f g) : frD G true f = frD G true g := frD_eq t.fn t.at_ fun v hv => t.v v (mem_wlist.mp hv)
theorem WaitAgr.told {G : Prg} {f g : Fr} (t : WaitAgr G f g) : frD G false f = frD G false g := by
  obtain ⟨x, y, s, e, h⟩ := t.c
  refine frD_eq t.fn t.at_ fun v hv => ?_
  have ec : callVar G f = x := by unfold callVar; rw [e]
  have hv : v ∈ blist (G f.fn) f.at_ (callVar G f) := hv
  rw [ec] at hv
  exact h v (mem_blist.mp hv).1 (mem_blist.mp hv).2
theorem Waits.told {G : Prg} : ∀ {r s : List Fr}, Waits G r s → r.map (frD G false) = s.map (frD G false)
  | _, _, .nil => rfl
  | _, _, .cons a t => by rw [List.map_cons, List.map_cons, a.told, t.told]
theorem Sim.told {G : Prg} {m n : Mch} (a : Sim G m n) : toldD G m = toldD G n := by
  unfold toldD
  rw [a.log, a.res, a.cnt]
  have e : stD G m.stack = stD G n.stack := by
    rcases a.st with ⟨h1, h2⟩ | ⟨f, r, g, s, h1, h2, t, w⟩
    · rw [h1, h2]
    · rw [h1, h2]
      show (r.map (frD G false)).reverse ++ [frD G true f] = (s.map (frD G false)).reverse ++ [frD G true g]
      rw [t.told, w.told]
  rw [e]
/-- the innermost last: the place's piece -/
theorem stD_at {G : Prg} {st : List Fr} {i : Nat} {f : Fr} (h : st.reverse[i]? = some f) : (stD G st)[i]? = some (frD G (decide (i + 1 = st.length)) f) := by
  cases st with
  | nil => simp at h
  | cons t r =>
    have hi := (rev_get h).1
    show ((r.map (frD G false)).reverse ++ [frD G true t])[i]? = _
    rw [List.reverse_cons] at h
    by_cases e : i = r.length
    · subst e
      rw [List.getElem?_append_right (by simp)] at h ⊢
      simp at h
      subst h
      simp
    · have hi' : i < r.length := by simp at hi; omega
      rw [List.getElem?_append_left (by simp; exact hi')] at h ⊢
      rw [← List.map_reverse, List.getElem?_map, h, decide_eq_false (by simp; exact e)]
      rfl
theorem ok_list {k : Nat} {xs : List PyData} (h : ∀ x ∈ xs, PyData.canLay0 x = true ∧ PyData.depth x ≤ k) : PyData.canLayAll0 xs = true ∧ PyData.depthAll xs ≤ k := by
  induction xs with
  | nil => exact ⟨rfl, Nat.zero_le _⟩
  | cons x r ih =>
    obtain ⟨a, b⟩ := h x List.mem_cons_self
    obtain ⟨c, d⟩ := ih fun y hy => h y (List.mem_cons_of_mem _ hy)
    refine ⟨?_, ?_⟩
    · simp only [PyData.canLayAll0, a, c, Bool.and_self]
    · simp only [PyData.depthAll]
      omega
theorem lgD_ok (e : Lg) : PyData.canLay0 (lgD e) = true ∧ PyData.depth (lgD e) ≤ 3 := by
  cases e with
  | num i => exact ⟨by kernel_rfl, by simp only [lgD, PyData.depth, PyData.depthAll]; omega⟩
  | obj => exact ⟨by kernel_rfl, by simp only [lgD, PyData.depth, PyData.depthAll]; omega⟩
  | nil => exact ⟨by kernel_rfl, by simp only [lgD, PyData.depth, PyData.depthAll]; omega⟩
theorem valD_ok (f : Fr) (v : Vr) : PyData.canLay0 (valD f v) = true ∧ PyData.depth (valD f v) ≤ 0 := by
  cases v with
  | n x => exact ⟨rfl, by simp only [valD, PyData.depth]; omega⟩
  | o s => exact ⟨rfl, by simp only [valD, PyData.depth]; omega⟩
theorem frD_ok (G : Prg) (last : Bool) (f : Fr) : PyData.canLay0 (frD G last f) = true ∧ PyData.depth (frD G last f) ≤ 5 := by
  have q := ok_list (k := 0) (xs := ((needs G last f).filter isN).map (valD f)) fun x hx => by
    obtain ⟨v, _, rfl⟩ := List.mem_map.mp hx
    exact valD_ok f v
  have z : PyData.canLay0 (.str (fnS f.fn)) = true := by cases f.fn <;> kernel_rfl
  unfold frD
  refine ⟨?_, ?_⟩
  · simp only [PyData.canLay0, PyData.canLayAll0, q.1, Bool.and_true]
    exact z
  · simp only [PyData.depth, PyData.depthAll]
    omega
theorem toldD_shaped (G : Prg) (m : Mch) : SeqAt.shaped (toldD G m) = true := by
  have h1 := ok_list (k := 3) (xs := m.log.map lgD) fun x hx => by
    obtain ⟨v, _, rfl⟩ := List.mem_map.mp hx
    exact lgD_ok v
  have q := ok_list (k := 6) (xs := [.list (m.log.map lgD), resD m.res, .int (m.cnt : Int)] ++ stD G m.stack) fun x hx => by
    rcases List.mem_append.mp hx with hx | hx
    · simp only [List.mem_cons, List.not_mem_nil, or_false] at hx
      rcases hx with rfl | rfl | rfl
      · exact ⟨by simp only [PyData.canLay0]; exact h1.1, by simp only [PyData.depth]; omega⟩
      · cases m.res with
        | none => exact ⟨rfl, by simp only [resD, PyData.depth]; omega⟩
        | some i => exact ⟨by kernel_rfl, by simp only [resD, PyData.depth, PyData.depthAll]; omega⟩
      · exact ⟨rfl, by simp only [PyData.depth]; omega⟩
    · cases e : m.stack with
      | nil => rw [e] at hx; cases hx
      | cons f r =>
        rw [e] at hx
        rcases List.mem_append.mp hx with hx | hx
        · rw [List.mem_reverse] at hx
          obtain ⟨v, _, rfl⟩ := List.mem_map.mp hx
          exact ⟨(frD_ok G false v).1, Nat.le_trans (frD_ok G false v).2 (by decide)⟩
        · rw [List.mem_singleton] at hx
          rw [hx]
          exact ⟨(frD_ok G true f).1, Nat.le_trans (frD_ok G true f).2 (by decide)⟩
  unfold SeqAt.shaped toldD
  rw [Bool.and_eq_true]
  refine ⟨by simp only [PyData.canLay0]; exact q.1, decide_eq_true ?_⟩
  simp only [PyData.depth]
  omega
theorem told_same (G : Prg) (m : Mch) : PyData.eqv (toldD G m) (toldD G m) = true := SeqAt.eqv_refl _ (Bool.and_eq_true_iff.mp (toldD_shaped G m)).1
/-! what is told, in the heap -/
section
variable {K : PySem.W.Frag} {H H' : Hp}
theorem SqL.same' {a : Addr} {xs : List V} (e : Same H H') (h : SqL K H a xs) : SqL K H' a xs := by
  rcases h with (h | ⟨o, h⟩) | h
  · exact .inl (.inl (e _ _ h))
  · exact .inl (.inr ⟨o, e _ _ h⟩)
  · exact .inr h
theorem SqT.same' {a : Addr} {xs : List V} (e : Same H H') (h : SqT K H a xs) : SqT K H' a xs := by
  rcases h with (h | ⟨o, h⟩) | h
  · exact .inl (.inl (e _ _ h))
  · exact .inl (.inr ⟨o, e _ _ h⟩)
  · exact .inr h
mutual
theorem Dp.same (e : Same H H') : ∀ (d : PyData) (v : V), Dp K H v d → Dp K H' v d
  | .none, _, h => by
    cases h
    exact .non
  | .bool b, _, h => by
    cases h
    exact .bl b
  | .int i, _, h => by
    cases h
    exact .int i
  | .str x, _, h => by
    cases h
    exact .str x
  | .list ds, _, h => by
    cases h with
    | lst hs ha => exact .lst (SqL.same' e hs) (Dp.sameAll e ds _ ha)
  | .tuple ds, _, h => by
    cases h with
    | tup hs ha => exact .tup (SqT.same' e hs) (Dp.sameAll e ds _ ha)
  | .dict _, _, h => by cases h
theorem Dp.sameAll (e : Same H H') : ∀ (ds : List PyData) (vs : List V), DpAll K H vs ds → DpAll K H' vs ds
  | [], _, h => by
    cases h
    exact .nil
  | d :: ds, _, h => by
    cases h with
    | cons h1 h2 => exact .cons (Dp.same e d _ h1) (Dp.sameAll e ds _ h2)
end
theorem LgAt.dp {v : V} {e : Lg} (h : LgAt H v e) : Dp K H v (lgD e) := by
  cases e with
  | num i =>
    obtain ⟨t, rfl, h⟩ := h
    exact .tup (SqT.of h) (.cons (.str _) (.cons (.int _) .nil))
  | obj =>
    obtain ⟨t, rfl, h⟩ := h
    exact .tup (SqT.of h) (.cons (.str _) (.cons (.str _) .nil))
  | nil =>
    obtain ⟨t, rfl, h⟩ := h
    exact .tup (SqT.of h) (.cons (.str _) .nil)
theorem lgs_dp : ∀ {ws : List V} {l : List Lg}, Paired (LgAt H) ws l → DpAll K H ws (l.map lgD)
  | _, _, .nil => .nil
  | _, _, .cons r t => .cons r.dp (lgs_dp t)
theorem ResAt.dp {v : V} {o : Option Int} (h : ResAt H v o) : Dp K H v (resD o) := by
  cases o with
  | none =>
    cases (show v = .non from h)
    exact .non
  | some i =>
    obtain ⟨t, rfl, h⟩ := h
    exact .tup (SqT.of h) (.cons (.str _) (.cons (.int _) .nil))
theorem DpAll.app : ∀ {xs ys : List V} {ds es : List PyData}, DpAll K H xs ds → DpAll K H ys es → DpAll K H (xs ++ ys) (ds ++ es)
  | _, _, _, _, .nil, h => h
  | _, _, _, _, .cons a b, h => .cons a (DpAll.app b h)
end
theorem stD_len (G : Prg) (st : List Fr) : (stD G st).length = st.length := by
  cases st <;> simp [stD]
end K18
set_option Elab.async false
set_option linter.all false
set_option maxRecDepth 100000
set_option pp.deepTerms false
set_option pp.maxSteps 400
set_option maxHeartbeats 4000000
namespace K18
open PySem PySem.Spec PyProof.Rows L2
theorem new_two {H : Hp} {t0 t1 : Addr} {a0 a1 : HO} (n0 : H t0 = none) (n1 : upd H t0 a0 t1 = none) :
    Same H (upd (upd H t0 a0) t1 a1) ∧ upd (upd H t0 a0) t1 a1 t0 = some a0 ∧ upd (upd H t0 a0) t1 a1 t1 = some a1 :=
  ⟨(same_new n0).trans (same_new n1), same_new n1 _ _ upd_same, upd_same⟩
theorem new_three {H : Hp} {t0 t1 t2 : Addr} {a0 a1 a2 : HO} (n0 : H t0 = none) (n1 : upd H t0 a0 t1 = none) (n2 : upd (upd H t0 a0) t1 a1 t2 = none) :
    Same H (upd (upd (upd H t0 a0) t1 a1) t2 a2) ∧ upd (upd (upd H t0 a0) t1 a1) t2 a2 t0 = some a0 ∧ upd (upd (upd H t0 a0) t1 a1) t2 a2 t1 = some a1 ∧ upd (upd (upd H t0 a0) t1 a1) t2 a2 t2 = some a2 :=
  let ⟨s, q0, q1⟩ := new_two n0 n1
  ⟨s.trans (same_new n2), same_new n2 _ _ q0, same_new n2 _ _ q1, upd_same⟩
theorem new_four {H : Hp} {t0 t1 t2 t3 : Addr} {a0 a1 a2 a3 : HO} (n0 : H t0 = none) (n1 : upd H t0 a0 t1 = none) (n2 : upd (upd H t0 a0) t1 a1 t2 = none) (n3 : upd (upd (upd H t0 a0) t1 a1) t2 a2 t3 = none) :
    Same H (upd (upd (upd (upd H t0 a0) t1 a1) t2 a2) t3 a3) ∧ upd (upd (upd (upd H t0 a0) t1 a1) t2 a2) t3 a3 t0 = some a0 ∧ upd (upd (upd (upd H t0 a0) t1 a1) t2 a2) t3 a3 t1 = some a1 ∧ upd (upd (upd (upd H t0 a0) t1 a1) t2 a2) t3 a3 t2 = some a2 ∧ upd (upd (upd (upd H t0 a0) t1 a1) t2 a2) t3 a3 t3 = some a3 :=
  let ⟨s, q0, q1, q2⟩ := new_three n0 n1 n2
  ⟨s.trans (same_new n3), same_new n3 _ _ q0, same_new n3 _ _ q1, same_new n3 _ _ q2, upd_same⟩
theorem new_five {H : Hp} {t0 t1 t2 t3 t4 : Addr} {a0 a1 a2 a3 a4 : HO} (n0 : H t0 = none) (n1 : upd H t0 a0 t1 = none) (n2 : upd (upd H t0 a0) t1 a1 t2 = none) (n3 : upd (upd (upd H t0 a0) t1 a1) t2 a2 t3 = none) (n4 : upd (upd (upd (upd H t0 a0) t1 a1) t2 a2) t3 a3 t4 = none) :
    Same H (upd (upd (upd (upd (upd H t0 a0) t1 a1) t2 a2) t3 a3) t4 a4) ∧ upd (upd (upd (upd (upd H t0 a0) t1 a1) t2 a2) t3 a3) t4 a4 t0 = some a0 ∧ upd (upd (upd (upd (upd H t0 a0) t1 a1) t2 a2) t3 a3) t4 a4 t1 = some a1 ∧ upd (upd (upd (upd (upd H t0 a0) t1 a1) t2 a2) t3 a3) t4 a4 t2 = some a2 ∧ upd (upd (upd (upd (upd H t0 a0) t1 a1) t2 a2) t3 a3) t4 a4 t3 = some a3 ∧ upd (upd (upd (upd (upd H t0 a0) t1 a1) t2 a2) t3 a3) t4 a4 t4 = some a4 :=
  let ⟨s, q0, q1, q2, q3⟩ := new_four n0 n1 n2 n3
  ⟨s.trans (same_new n4), same_new n4 _ _ q0, same_new n4 _ _ q1, same_new n4 _ _ q2, same_new n4 _ _ q3, upd_same⟩
theorem fit0 {n : Nat} {r : Row} (h : ∀ x l, r ≠ .ifz x l) (h' : ∀ l, r ≠ .jump l) : RowFit n r := ⟨fun x l e => absurd e (h x l), fun l e => absurd e (h' l)⟩
section
variable {P : Program} {w : World} {K : PySem.W.Frag} {mg : Str → Option Value} {base : Heap}
variable {H H' : Hp} {p src : Addr} {A : MA} {m : Mch} {G : Prg}
def spDrawn : Sp := fun vs H Q _ => ∃ (W : Addr) (n : Nat), vs = [.ref W, .int (n : Int)] ∧ WellAt H W ∧ 1 ≤ n ∧ n < 1000 ∧ ∀ H' t r, Dr W H H' → RowAt true H' t r → RowFit n r → Q (.ref t) H'
theorem sc_law_plain : FnScope ["_law_well_here", "_law_size", "_law_way", "_law_x", "_law_y", "_law_z", "_law_one_here", "_law_other", "_law_some", "_law_turn"] ["_law_well_here", "_law_size"] d_law_plain.scope := ⟨rfl, rfl, rfl, by decide +kernel, rfl, by decide +kernel, by decide +kernel⟩
theorem k_law_plain (T : Tx w K mg) : Ok P w K mg base 3 d_law_plain ["_law_well_here", "_law_size"] spDrawn := by
  refine Ok.of T.d_law_plain sc_law_plain (fun _ _ _ _ _ _ us hl => match us, hl with | [_, _], _ => rfl) (fun vs H Q E h => ?_) (fun cdv A outer s H vs Q E hr h => ?_)
  · obtain ⟨W, n, rfl, _⟩ := h
    rfl
  · obtain ⟨W, n, rfl, hW, n1, n2, k⟩ := h
    refine ⟨_, (pss_cons (ps_asg (pe_lc (own := [("_law_turn", 9)]) (g := (gName 9)) (tt := tYes) (by rfl) sc_law_plain.nd  (pi_range1 (by rfl) T.b_range (pa_cons pe_int pa_nil)) (blkOk_by (own := [("_law_turn", 9)]) (N := ["_law_well_here", "_law_size", "_law_way", "_law_x", "_law_y", "_law_z", "_law_one_here", "_law_other", "_law_some", "_law_turn"]) (sc := d_law_plain.scope) (by decide +kernel)) (fun _ _ _ _ _ => (pg_name (i := 9) sc_law_plain.nd rfl (.inl rfl))) (fun _ _ _ _ _ => pts_nil) (fun _ _ _ _ _ => (pe_G (k_law_one T) (hr.mono (by decide)) T.g_law_one (pa_cons (pv 0) (pa_cons (pe_lst (pa_cons pe_str (pa_cons pe_str (pa_cons pe_str pa_nil)))) pa_nil))))) (pg_unl rfl (pgs_cons (pg_name (i := 3) sc_law_plain.nd rfl (.inl rfl)) (pgs_cons (pg_name (i := 4) sc_law_plain.nd rfl (.inl rfl)) (pgs_cons (pg_name (i := 5) sc_law_plain.nd rfl (.inl rfl)) pgs_nil)))))
      (pss_cons (ps_asg (pe_lc (own := [("_law_turn", 9)]) (g := (gName 9)) (tt := tYes) (by rfl) sc_law_plain.nd  (pi_range1 (by rfl) T.b_range (pa_cons pe_int pa_nil)) (blkOk_by (own := [("_law_turn", 9)]) (N := ["_law_well_here", "_law_size", "_law_way", "_law_x", "_law_y", "_law_z", "_law_one_here", "_law_other", "_law_some", "_law_turn"]) (sc := d_law_plain.scope) (by decide +kernel)) (fun _ _ _ _ _ => (pg_name (i := 9) sc_law_plain.nd rfl (.inl rfl))) (fun _ _ _ _ _ => pts_nil) (fun _ _ _ _ _ => (pe_G (k_law_one T) (hr.mono (by decide)) T.g_law_one (pa_cons (pv 0) (pa_cons (pe_lst (pa_cons pe_str (pa_cons pe_str pa_nil))) pa_nil))))) (pg_unl rfl (pgs_cons (pg_name (i := 6) sc_law_plain.nd rfl (.inl rfl)) (pgs_cons (pg_name (i := 7) sc_law_plain.nd rfl (.inl rfl)) pgs_nil))))
      (pss_cons (ps_set (i := 2) sc_law_plain.nd rfl (.inl rfl) (pe_G (k_law_draw T) (hr.mono (by decide)) T.g_law_draw (pa_cons (pv 0) (pa_cons pe_int pa_nil))))
      (pss_cons (ps_if (pt_cmpR op_lt (pv 2) pe_int (nomark _)) (pss_one (ps_ret (pe_ix ix_list (pe_lst (pa_cons (pe_tup (pa_cons pe_str (pa_cons (pv 3) (pa_cons pe_int pa_nil)))) (pa_cons (pe_tup (pa_cons pe_str (pa_cons (pv 3) (pa_cons (pv 4) pa_nil)))) (pa_cons (pe_tup (pa_cons pe_str (pa_cons (pv 3) (pa_cons (pv 4) (pa_cons (pv 5) pa_nil))))) (pa_cons (pe_tup (pa_cons pe_str (pa_cons (pv 3) (pa_cons (pv 4) (pa_cons (pv 5) pa_nil))))) pa_nil))))) (pv 2) (fun _ _ => rfl)))) pss_nil)
      (pss_cons (ps_if (pt_cmpR op_lt (pv 2) pe_int (nomark _)) (pss_one (ps_ret (pe_ix ix_list (pe_lst (pa_cons (pe_tup (pa_cons pe_str (pa_cons (pv 3) (pa_cons (pv 4) (pa_cons (pv 5) pa_nil))))) (pa_cons (pe_tup (pa_cons pe_str (pa_cons (pv 3) (pa_cons (pv 6) (pa_cons (pv 7) pa_nil))))) (pa_cons (pe_tup (pa_cons pe_str (pa_cons (pv 6) pa_nil))) (pa_cons (pe_tup (pa_cons pe_str (pa_cons (pv 6) (pa_cons (pv 7) pa_nil)))) pa_nil))))) (pe_op op_sub (pv 2) pe_int) (fun _ _ => rfl)))) pss_nil)
      (pss_cons (ps_if (pt_cmpR op_lt (pv 2) pe_int (nomark _)) (pss_cons (ps_set (i := 8) sc_law_plain.nd rfl (.inl rfl) (pe_lst (pa_cons (pe_tup (pa_cons pe_str (pa_cons (pv 6) (pa_cons pe_str pa_nil)))) (pa_cons (pe_tup (pa_cons pe_str (pa_cons (pv 3) (pa_cons (pv 6) (pa_cons pe_str pa_nil))))) (pa_cons (pe_tup (pa_cons pe_str (pa_cons (pv 6) (pa_cons pe_str (pa_cons (pv 4) pa_nil))))) (pa_cons (pe_tup (pa_cons pe_str (pa_cons (pv 6) (pa_cons (pv 7) (pa_cons pe_str pa_nil))))) pa_nil))))))
      (pss_one (ps_ret (pe_ix ix_list (pv 8) (pe_op op_sub (pv 2) pe_int) (fun _ _ => rfl))))) pss_nil)
      (pss_cons (ps_if (pt_cmpR op_eq (pv 2) pe_int (nomark _)) (pss_one (ps_ret (pe_tup (pa_cons pe_str (pa_cons (pv 6) (pa_cons pe_str (pa_cons (pv 7) pa_nil))))))) pss_nil)
      (pss_cons (ps_if (pt_cmpR op_eq (pv 2) pe_int (nomark _)) (pss_one (ps_ret (pe_tup (pa_cons pe_str (pa_cons (pv 3) (pa_cons pe_str (pa_cons (pe_lst (pa_cons (pv 4) (pa_cons (pv 6) pa_nil))) pa_nil))))))) pss_nil)
      (pss_one (ps_ret (pe_ix ix_list (pe_lst (pa_cons (pe_tup (pa_cons pe_str (pa_cons (pe_G (k_law_one T) (hr.mono (by decide)) T.g_law_one (pa_cons (pv 0) (pa_cons (pe_lst (pa_cons (pv 3) (pa_cons (pv 6) pa_nil))) pa_nil))) pa_nil))) (pa_cons (pe_tup (pa_cons pe_str (pa_cons (pv 3) (pa_cons (pe_G (k_law_draw T) (hr.mono (by decide)) T.g_law_draw (pa_cons (pv 0) (pa_cons (pv 1) pa_nil))) pa_nil)))) pa_nil))) (pe_op op_sub (pv 2) pe_int) (fun _ _ => rfl)))))))))))), ?_⟩
    refine ⟨(3 : Int), rfl, by decide, by decide, fun D hD => ?_⟩
    have nW : W ≠ D := hW.ne hD
    refine lc_it (walk_range (lo := 0) (n := 3)) (fun j H' => Dr W H H' ∧ ∃ xs : List NV, xs.length = j ∧ H' D = some (.lst (xs.map fun x => V.str x.s))) ?_ (fun _ _ _ _ => trivial) (fun j x H1 H2 hj e y => ?_) (fun H2 e => ?_)
    · exact ⟨(Dr.refl hW).put hD nW, [], rfl, upd_same⟩
    · obtain ⟨rfl, rfl⟩ := y
      obtain ⟨d1, xs, hx, hD1⟩ := e
      refine ⟨rfl, _, rfl, (by show 3 ≤ sizeLine; decide), fun l nl => ?_⟩
      have dl : D ≠ l := ne_of_none hD1 nl
      refine ⟨W, l, _, rfl, d1.w.same (same_new nl), upd_same, d1.w.ne nl, by decide, by decide, fun H4 v d4 hv => ?_⟩
      obtain ⟨x, rfl⟩ := nv_mem hv
      have hD4 := d4.b D _ (by rw [upd_ne dl]; exact hD1) (Ne.symm nW)
      refine ⟨_, hD4, by rw [List.length_map, hx]; exact lt_line (by omega), ((d1.same (same_new nl)).trans d4).put hD nW, xs ++ [x], by simp [hx], ?_⟩
      rw [upd_same, List.map_append]; rfl
    obtain ⟨d2, xs, hx, hD2⟩ := e
    obtain ⟨x, y, z, rfl⟩ : ∃ x y z, xs = [x, y, z] := by
      match xs, hx with
      | [x, y, z], _ => exact ⟨x, y, z, rfl⟩
    refine ⟨D, _, rfl, SqL.of hD2, rfl, _, _, rfl, _, _, rfl, _, _, rfl, rfl, ?_⟩
    refine ⟨(2 : Int), rfl, by decide, by decide, fun E nE => ?_⟩
    have hW2 := d2.w
    have nW2 : W ≠ E := hW2.ne nE
    refine lc_it (walk_range (lo := 0) (n := 2)) (fun j H' => Dr W H2 H' ∧ ∃ xs : List OV, xs.length = j ∧ H' E = some (.lst (xs.map fun x => V.str x.s))) ?_ (fun _ _ _ _ => trivial) (fun j x H1 H3 hj e y => ?_) (fun H5 e => ?_)
    · exact ⟨(Dr.refl hW2).put nE nW2, [], rfl, upd_same⟩
    · obtain ⟨rfl, rfl⟩ := y
      obtain ⟨d1, xs, hx, hD1⟩ := e
      refine ⟨rfl, _, rfl, (by show 2 ≤ sizeLine; decide), fun l nl => ?_⟩
      have dl : E ≠ l := ne_of_none hD1 nl
      refine ⟨W, l, _, rfl, d1.w.same (same_new nl), upd_same, d1.w.ne nl, by decide, by decide, fun H4 v d4 hv => ?_⟩
      obtain ⟨x, rfl⟩ := ov_mem hv
      have hD4 := d4.b E _ (by rw [upd_ne dl]; exact hD1) (Ne.symm nW2)
      refine ⟨_, hD4, by rw [List.length_map, hx]; exact lt_line (by omega), ((d1.same (same_new nl)).trans d4).put nE nW2, xs ++ [x], by simp [hx], ?_⟩
      rw [upd_same, List.map_append]; rfl
    obtain ⟨d5, xs, hx, hD5⟩ := e
    obtain ⟨o, q, rfl⟩ : ∃ x y, xs = [x, y] := by
      match xs, hx with
      | [x, y], _ => exact ⟨x, y, rfl⟩
    refine ⟨E, _, rfl, SqL.of hD5, rfl, _, _, rfl, _, _, rfl, rfl, ?_⟩
    refine ⟨_, rfl, W, 16, rfl, d5.w, by decide, by decide, fun a b c r r0 r1 => ?_⟩
    have d6 : Dr W H (upd H5 W (.lst [.int a, .int b, .int c])) := (d2.trans d5).trans (Dr.upd a b c)
    generalize (upd H5 W (.lst [.int a, .int b, .int c])) = H6 at d6
    have sl3 : 3 ≤ sizeLine := by show 3 ≤ sizeLine; decide
    have sl2 : 2 ≤ sizeLine := by show 2 ≤ sizeLine; decide
    have sl4 : 4 ≤ sizeLine := by show 4 ≤ sizeLine; decide
    refine ⟨_, rfl, _, _, rfl, rfl, _, rfl, ?_⟩
    by_cases h4 : r < 4
    · refine ifB (decide_eq_true h4) ?_
      refine ⟨_, rfl, sl3, fun t0 m0 => ⟨_, rfl, _, rfl, sl3, fun t1 m1 => ⟨_, rfl, _, rfl, _, rfl, sl4, fun t2 m2 => ⟨_, rfl, _, rfl, _, rfl, sl4, fun t3 m3 => ⟨sl4, fun l ml => ?_⟩⟩⟩⟩⟩
      obtain ⟨sm, q0, q1, q2, q3, ql⟩ := new_five m0 m1 m2 m3 ml
      have hr : r = 0 ∨ r = 1 ∨ r = 2 ∨ r = 3 := by omega
      rcases hr with rfl | rfl | rfl | rfl
      · exact ⟨_, rfl, l, _, 0, _, rfl, rfl, SqL.of ql, rfl, k _ t0 (.num x) (d6.same sm) ⟨.non, q0, rfl⟩ (fit0 (by simp) (by simp))⟩
      · exact ⟨_, rfl, l, _, 1, _, rfl, rfl, SqL.of ql, rfl, k _ t1 (.cpN x y) (d6.same sm) ⟨.non, q1, rfl⟩ (fit0 (by simp) (by simp))⟩
      · exact ⟨_, rfl, l, _, 2, _, rfl, rfl, SqL.of ql, rfl, k _ t2 (.add x y z) (d6.same sm) ⟨.non, q2, rfl⟩ (fit0 (by simp) (by simp))⟩
      · exact ⟨_, rfl, l, _, 3, _, rfl, rfl, SqL.of ql, rfl, k _ t3 (.sub x y z) (d6.same sm) ⟨.non, q3, rfl⟩ (fit0 (by simp) (by simp))⟩
    refine ifBf (decide_eq_false h4) ?_
    refine ⟨_, rfl, _, _, rfl, rfl, _, rfl, ?_⟩
    by_cases h8 : r < 8
    · refine ifB (decide_eq_true h8) ?_
      refine ⟨_, rfl, _, rfl, _, rfl, sl4, fun t0 m0 => ⟨_, rfl, _, rfl, _, rfl, sl4, fun t1 m1 => ⟨_, rfl, sl2, fun t2 m2 => ⟨_, rfl, _, rfl, sl3, fun t3 m3 => ⟨sl4, fun l ml => ?_⟩⟩⟩⟩⟩
      obtain ⟨sm, q0, q1, q2, q3, ql⟩ := new_five m0 m1 m2 m3 ml
      have hr : r = 4 ∨ r = 5 ∨ r = 6 ∨ r = 7 := by omega
      rcases hr with rfl | rfl | rfl | rfl
      · exact ⟨_, rfl, _, _, rfl, rfl, l, _, 0, _, rfl, rfl, SqL.of ql, rfl, k _ t0 (.less x y z) (d6.same sm) ⟨.non, q0, rfl⟩ (fit0 (by simp) (by simp))⟩
      · exact ⟨_, rfl, _, _, rfl, rfl, l, _, 1, _, rfl, rfl, SqL.of ql, rfl, k _ t1 (.same x o q) (d6.same sm) ⟨.non, q1, rfl⟩ (fit0 (by simp) (by simp))⟩
      · exact ⟨_, rfl, _, _, rfl, rfl, l, _, 2, _, rfl, rfl, SqL.of ql, rfl, k _ t2 (.nil o) (d6.same sm) ⟨.non, q2, rfl⟩ (fit0 (by simp) (by simp))⟩
      · exact ⟨_, rfl, _, _, rfl, rfl, l, _, 3, _, rfl, rfl, SqL.of ql, rfl, k _ t3 (.cpO o q) (d6.same sm) ⟨.non, q3, rfl⟩ (fit0 (by simp) (by simp))⟩
    refine ifBf (decide_eq_false h8) ?_
    refine ⟨_, rfl, _, _, rfl, rfl, _, rfl, ?_⟩
    by_cases h12 : r < 12
    · refine ifB (decide_eq_true h12) ?_
      refine ⟨_, rfl, sl3, fun t0 m0 => ⟨_, rfl, _, rfl, sl4, fun t1 m1 => ⟨_, rfl, _, rfl, sl4, fun t2 m2 => ⟨_, rfl, _, rfl, sl4, fun t3 m3 => ⟨sl4, fun l ml => ?_⟩⟩⟩⟩⟩
      obtain ⟨sm, q0, q1, q2, q3, ql⟩ := new_five m0 m1 m2 m3 ml
      have hr : r = 8 ∨ r = 9 ∨ r = 10 ∨ r = 11 := by omega
      rcases hr with rfl | rfl | rfl | rfl
      · exact ⟨_, rfl, _, rfl, _, _, rfl, rfl, l, _, 0, _, rfl, rfl, SqL.of ql, rfl, k _ t0 (.new o) (d6.same sm) ⟨.non, q0, rfl⟩ (fit0 (by simp) (by simp))⟩
      · exact ⟨_, rfl, _, rfl, _, _, rfl, rfl, l, _, 1, _, rfl, rfl, SqL.of ql, rfl, k _ t1 (.getI x o) (d6.same sm) ⟨.non, q1, rfl⟩ (fit0 (by simp) (by simp))⟩
      · exact ⟨_, rfl, _, rfl, _, _, rfl, rfl, l, _, 2, _, rfl, rfl, SqL.of ql, rfl, k _ t2 (.putI o y) (d6.same sm) ⟨.non, q2, rfl⟩ (fit0 (by simp) (by simp))⟩
      · exact ⟨_, rfl, _, rfl, _, _, rfl, rfl, l, _, 3, _, rfl, rfl, SqL.of ql, rfl, k _ t3 (.getN o q) (d6.same sm) ⟨.non, q3, rfl⟩ (fit0 (by simp) (by simp))⟩
    refine ifBf (decide_eq_false h12) ?_
    refine ⟨_, rfl, rfl, _, rfl, ?_⟩
    by_cases e12 : r = 12
    · subst e12
      refine ifD_t rfl ?_
      refine ⟨_, rfl, _, rfl, sl4, fun t0 m0 => ?_⟩
      exact k _ t0 (.putN o q) (d6.same (same_new m0)) ⟨.non, upd_same, rfl⟩ (fit0 (by simp) (by simp))
    refine ifD_f (fun z => e12 (V.int.inj z)) ?_
    refine ⟨_, rfl, rfl, _, rfl, ?_⟩
    by_cases e13 : r = 13
    · subst e13
      refine ifD_t rfl ?_
      refine ⟨_, rfl, _, rfl, _, rfl, sl2, fun t0 m0 => ⟨sl4, fun t1 m1 => ?_⟩⟩
      obtain ⟨sm, q0, q1⟩ := new_two m0 m1
      exact k _ t1 (.call x y o) (d6.same sm) ⟨.ref t0, q1, t0, rfl, q0⟩ (fit0 (by simp) (by simp))
    refine ifD_f (fun z => e13 (V.int.inj z)) ?_
    refine ⟨_, rfl, _, rfl, _, rfl, sl2, fun l1 ml1 => ?_⟩
    have s7 : Same H6 (upd H6 l1 (.lst [.str x.s, .str o.s])) := same_new ml1
    have hl1 : (upd H6 l1 (.lst [.str x.s, .str o.s])) l1 = some (.lst [.str x.s, .str o.s]) := upd_same
    have W1 := d6.w.ne ml1
    generalize (upd H6 l1 (.lst [.str x.s, .str o.s])) = H7 at s7 hl1
    have d7 := d6.same s7
    refine ⟨W, l1, _, rfl, d7.w, hl1, W1, (by show 1 ≤ 2; decide), (by show 2 < 1000; decide), fun H8 v d8 hv => ?_⟩
    have hv : v = .str x.s ∨ v = .str o.s := by simpa using hv
    refine ⟨sl2, fun t0 m0 => ?_⟩
    have s9 : Same H8 (upd H8 t0 (.tup [.str "see", v])) := same_new m0
    have q0 : (upd H8 t0 (.tup [.str "see", v])) t0 = some (.tup [.str "see", v]) := upd_same
    generalize (upd H8 t0 (.tup [.str "see", v])) = H9 at s9 q0
    have d9 := (d7.trans d8).same s9
    refine ⟨_, rfl, _, rfl, _, rfl, W, (n : Int), rfl, d9.w, by omega, by omega, fun a2 b2 c2 r2 r20 r21 => ?_⟩
    have d10 : Dr W H9 (upd H9 W (.lst [.int a2, .int b2, .int c2])) := Dr.upd a2 b2 c2
    have q0 := (d10.nx d9.w).tup q0
    generalize (upd H9 W (.lst [.int a2, .int b2, .int c2])) = H10 at d10 q0
    refine ⟨sl3, fun t1 m1 => ⟨sl2, fun l ml => ?_⟩⟩
    obtain ⟨sm, q1, ql⟩ := new_two m1 ml
    have q0 := sm _ _ q0
    obtain ⟨r2n, rfl⟩ : ∃ i : Nat, r2 = i := ⟨r2.toNat, by omega⟩
    have hr : r = 14 ∨ r = 15 := by omega
    have dl := (d9.trans d10).same sm
    rcases hr with rfl | rfl
    · refine ⟨_, rfl, _, _, rfl, rfl, l, _, 0, _, rfl, rfl, SqL.of ql, rfl, ?_⟩
      rcases hv with rfl | rfl
      · exact k _ t0 (.seeN x) dl ⟨.non, q0, rfl⟩ (fit0 (by simp) (by simp))
      · exact k _ t0 (.seeO o) dl ⟨.non, q0, rfl⟩ (fit0 (by simp) (by simp))
    · exact ⟨_, rfl, _, _, rfl, rfl, l, _, 1, _, rfl, rfl, SqL.of ql, rfl, k _ t1 (.ifz x r2n) dl ⟨.non, q1, rfl⟩ ⟨fun _ _ e => (by cases e; omega), fun _ e => (by cases e)⟩⟩
end
end K18
set_option Elab.async false
set_option linter.all false
set_option maxRecDepth 100000
set_option pp.deepTerms false
set_option pp.maxSteps 400
set_option maxHeartbeats 4000000
namespace K18
open PySem PySem.Spec PyProof.Rows L2
theorem RowAt.lup {H : Hp} {D t : Addr} {ts : List Addr} {o : HO} {r : Row} (hD : H D = some (.lst (ts.map V.ref))) (h : RowAt true H t r) : RowAt true (upd H D o) t r := by
  obtain ⟨q, h1, h2⟩ := h
  refine ⟨q, by rw [upd_ne (ne_of h1 hD (by intro z; cases z))]; exact h1, ?_⟩
  cases r with
  | call x y s =>
    obtain ⟨a, h3, h4⟩ := h2
    refine ⟨a, h3, ?_⟩
    have h4 : H a = some (.lst [.str y.s, .str s.s]) := h4
    show upd H D o a = some (.lst [.str y.s, .str s.s])
    rw [upd_ne (ne_of h4 hD (by intro z; cases ts <;> cases z))]
    exact h4
  | _ => exact h2
section
variable {P : Program} {w : World} {K : PySem.W.Frag} {mg : Str → Option Value} {base : Heap}
variable {H H' : Hp} {p src : Addr} {A : MA} {m : Mch} {G : Prg}
def spFunc : Sp := fun vs H Q _ => ∃ (W : Addr) (b : Bool), vs = [.ref W, .str (fnS b), .int 10] ∧ WellAt H W ∧ ∀ H' t rows, Dr W H H' → HeadAt H' t b rows → RowsGood rows → Q (.ref t) H'
theorem sc_law_function : FnScope ["_law_well_here", "_law_title", "_law_most", "_law_size", "_law_rows", "_law_others", "_law_turn"] ["_law_well_here", "_law_title", "_law_most"] d_law_function.scope := ⟨rfl, rfl, rfl, by decide +kernel, rfl, by decide +kernel, by decide +kernel⟩
theorem k_law_function (T : Tx w K mg) : Ok P w K mg base 4 d_law_function ["_law_well_here", "_law_title", "_law_most"] spFunc := by
  refine Ok.of T.d_law_function sc_law_function (fun _ _ _ _ _ _ us hl => match us, hl with | [_, _, _], _ => rfl) (fun vs H Q E h => ?_) (fun cdv A outer s H vs Q E hr h => ?_)
  · obtain ⟨W, b, rfl, _⟩ := h
    rfl
  · obtain ⟨W, b, rfl, hW, k⟩ := h
    refine ⟨_, (pss_cons (ps_set (i := 3) sc_law_function.nd rfl (.inr rfl) (pe_op op_add pe_int (pe_G (k_law_draw T) (hr.mono (by decide)) T.g_law_draw (pa_cons (pv 0) (pa_cons (pv 2) pa_nil)))))
      (pss_cons (ps_setLc (i := 4) (own := [("_law_turn", 6)]) (g := (gName 6)) (tt := tYes) (by rfl) sc_law_function.nd rfl rfl (sw_true rfl rfl rfl (by decide +kernel)) (pi_range1 (by rfl) T.b_range (pa_cons (pe_op op_sub (pv 3) pe_int) pa_nil)) (blkOk_by (own := [("_law_turn", 6)]) (N := ["_law_well_here", "_law_title", "_law_most", "_law_size", "_law_rows", "_law_others", "_law_turn"]) (sc := d_law_function.scope) (by decide +kernel)) (fun _ _ _ _ _ => (pg_name (i := 6) sc_law_function.nd rfl (.inl rfl))) (fun _ _ _ _ _ => pts_nil) (fun _ _ _ _ _ => (pe_G (k_law_plain T) (hr.mono (by decide)) T.g_law_plain (pa_cons (pv 0) (pa_cons (pv 3) pa_nil)))))
      (pss_cons (ps_expr (pe_bm PySem.F.plainAttrs_list PySem.F.slot_list_append PySem.F.type_list_append mt_append (pv 4) (pa_cons (pe_G (k_law_one T) (hr.mono (by decide)) T.g_law_one (pa_cons (pv 0) (pa_cons (pe_lst (pa_cons (pe_tup (pa_cons pe_str (pa_cons pe_str pa_nil))) (pa_cons (pe_tup (pa_cons pe_str (pa_cons pe_str pa_nil))) (pa_cons (pe_tup (pa_cons pe_str (pa_cons (pe_G (k_law_draw T) (hr.mono (by decide)) T.g_law_draw (pa_cons (pv 0) (pa_cons (pv 3) pa_nil))) pa_nil))) pa_nil)))) pa_nil))) pa_nil)))
      (pss_cons (ps_set (i := 5) sc_law_function.nd rfl (.inl rfl) (pe_lst (pa_cons (pe_tup (pa_cons pe_str (pa_cons pe_str pa_nil))) (pa_cons (pe_tup (pa_cons pe_str (pa_cons pe_str pa_nil))) (pa_cons (pe_tup (pa_cons pe_str (pa_cons pe_str pa_nil))) pa_nil)))))
      (pss_one (ps_ret (pe_tup (pa_cons (pv 1) (pa_cons (pe_lst (pa_cons (pe_tup (pa_cons pe_str (pa_cons pe_str pa_nil))) (pa_cons (pe_tup (pa_cons pe_str (pa_cons pe_str pa_nil))) pa_nil))) (pa_cons (pv 5) (pa_cons pe_str (pa_cons (pv 4) pa_nil)))))))))))), ?_⟩
    refine ⟨_, rfl, _, rfl, W, 10, rfl, hW, by decide, by decide, fun a1 b1 c1 r r0 r1 => ⟨_, _, rfl, rfl, ?_⟩⟩
    have d1 : Dr W H (upd H W (.lst [.int a1, .int b1, .int c1])) := Dr.upd a1 b1 c1
    generalize (upd H W (.lst [.int a1, .int b1, .int c1])) = H1 at d1
    obtain ⟨s, hs⟩ : ∃ s : Nat, (1 + r : Int) = (s : Int) := ⟨(1 + r).toNat, by omega⟩
    simp only [hs]
    have s1 : 1 ≤ s := by omega
    have s2 : s ≤ 10 := by omega
    refine ⟨_, rfl, _, _, rfl, rfl, _, rfl, by omega, by omega, fun D hD => ?_⟩
    have nW : W ≠ D := d1.w.ne hD
    refine lc_it (walk_range (lo := 0) (n := ((s : Int) - 1).toNat)) (fun j H' => ∃ (rs : List Addr) (rows : List Row), rows.length = j ∧ Dr W H1 H' ∧ H' D = some (.lst (rs.map V.ref)) ∧ Paired (RowAt true H') rs rows ∧ ∀ r ∈ rows, RowFit s r) ?_ (fun _ _ _ _ => trivial) (fun j x H2 H3 hj e y => ?_) (fun H2 e => ?_)
    · exact ⟨[], [], rfl, (Dr.refl d1.w).put hD nW, upd_same, .nil, fun r h => by cases h⟩
    · obtain ⟨rfl, rfl⟩ := y
      obtain ⟨rs, rows, hl, d2, hD2, hp, hf⟩ := e
      refine ⟨rfl, _, rfl, _, rfl, W, s, rfl, d2.w, by omega, by omega, fun H4 t r d4 ht hr' => ?_⟩
      have hD4 := d4.b D _ hD2 (Ne.symm nW)
      refine ⟨_, hD4, by rw [List.length_map, Paired.len hp, hl]; exact lt_line (by omega), rs ++ [t], rows ++ [r], by simp [hl], (d2.trans d4).put hD nW, ?_, ?_, ?_⟩
      · rw [upd_same, List.map_append]; rfl
      · exact Paired.snoc (Paired.mapP hp fun _ _ q => (q.nx (d4.nx d2.w)).lup hD4) (ht.lup hD4)
      · intro q hq
        rcases List.mem_append.mp hq with hq | hq
        · exact hf q hq
        · rw [List.mem_singleton] at hq
          rw [hq]; exact hr'
    obtain ⟨rs, rows, hl, d2, hD2, hp, hf⟩ := e
    have hl : rows.length + 1 = s := by omega
    have sl1 : 1 ≤ sizeLine := by show 1 ≤ sizeLine; decide
    have sl2 : 2 ≤ sizeLine := by show 2 ≤ sizeLine; decide
    have sl3 : 3 ≤ sizeLine := by show 3 ≤ sizeLine; decide
    have sl5 : 5 ≤ sizeLine := by show 5 ≤ sizeLine; decide
    refine ⟨_, rfl, .inl ⟨rfl, _, SqL.of hD2⟩, _, rfl, sl2, fun t0 m0 => ⟨sl2, fun t1 m1 => ?_⟩⟩
    obtain ⟨s3, q0, q1⟩ := new_two (a0 := .tup [.str "return", .str "a"]) (a1 := .tup [.str "return", .str "c"]) m0 m1
    generalize (upd (upd H2 t0 (.tup [.str "return", .str "a"])) t1 (.tup [.str "return", .str "c"])) = H3 at s3 q0 q1
    have d3 := d2.same s3
    refine ⟨_, rfl, _, rfl, W, (s : Int), rfl, d3.w, by omega, by omega, fun a2 b2 c2 r2 r20 r21 => ?_⟩
    have d4 : Dr W H3 (upd H3 W (.lst [.int a2, .int b2, .int c2])) := Dr.upd a2 b2 c2
    generalize (upd H3 W (.lst [.int a2, .int b2, .int c2])) = H4 at d4
    have n4 := d4.nx d3.w
    refine ⟨sl2, fun t2 m2 => ⟨sl3, fun l ml => ?_⟩⟩
    obtain ⟨s5, q2, ql⟩ := new_two (a0 := .tup [.str "jump", .int r2]) (a1 := .lst [.ref t0, .ref t1, .ref t2]) m2 ml
    have Wl : W ≠ l := (d4.w.same (same_new m2)).ne ml
    generalize (upd (upd H4 t2 (.tup [.str "jump", .int r2])) l (.lst [.ref t0, .ref t1, .ref t2])) = H5 at s5 q2 ql
    have d45 := d4.same s5
    refine ⟨W, l, _, rfl, d45.w, ql, Wl, (by show 1 ≤ 3; decide), (by show 3 < 1000; decide), fun H6 v d6 hv => ?_⟩
    have d36 := d45.trans d6
    have d26 : Dr W H2 H6 := ⟨(But.of s3).trans d36.b, d36.w⟩
    have n26 := d26.nx d2.w
    have n36 := d36.nx d3.w
    obtain ⟨r2n, rfl⟩ : ∃ i : Nat, r2 = i := ⟨r2.toNat, by omega⟩
    obtain ⟨t, r', rfl, hrow, hfit, hlast⟩ : ∃ t r', v = .ref t ∧ RowAt true H6 t r' ∧ RowFit s r' ∧ ((∃ k, r' = .jump k) ∨ ∃ x, r' = .ret x) := by
      simp only [List.mem_cons, List.not_mem_nil, or_false] at hv
      rcases hv with rfl | rfl | rfl
      · exact ⟨t0, .ret .a, rfl, ⟨.non, n36.tup q0, rfl⟩, fit0 (by simp) (by simp), .inr ⟨_, rfl⟩⟩
      · exact ⟨t1, .ret .c, rfl, ⟨.non, n36.tup q1, rfl⟩, fit0 (by simp) (by simp), .inr ⟨_, rfl⟩⟩
      · exact ⟨t2, .jump r2n, rfl, ⟨.non, (d6.nx d45.w).tup q2, rfl⟩, ⟨fun _ _ e => (by cases e), fun _ e => (by cases e; omega)⟩, .inl ⟨_, rfl⟩⟩
    have hD6 := n26.refs hD2
    have hp6 := Paired.mapP hp fun _ _ q => q.nx n26
    have hlr : (rs.map V.ref).length < sizeLine := by rw [List.length_map, Paired.len hp]; exact lt_line (by omega)
    refine ⟨D, _, _, rfl, rfl, hD6, hlr, ?_⟩
    have d7 : Dr W H (upd H6 D (.lst (rs.map V.ref ++ [.ref t]))) := d1.trans ((d2.trans d26).put hD nW)
    have hD7 : (upd H6 D (.lst (rs.map V.ref ++ [.ref t]))) D = some (.lst ((rs ++ [t]).map V.ref)) := by rw [upd_same, List.map_append]; rfl
    have p7 : Paired (RowAt true (upd H6 D (.lst (rs.map V.ref ++ [.ref t])))) (rs ++ [t]) (rows ++ [r']) := Paired.snoc (Paired.mapP hp6 fun _ _ q => q.lup hD6) (hrow.lup hD6)
    generalize (upd H6 D (.lst (rs.map V.ref ++ [.ref t]))) = H7 at d7 hD7 p7
    refine ⟨sl2, fun b0 nb0 => ⟨sl2, fun b1 nb1 => ⟨sl2, fun b2 nb2 => ⟨sl3, fun e ne => ?_⟩⟩⟩⟩
    obtain ⟨s8, e0, e1, e2, he⟩ := new_four (a0 := .tup [.str "b", .str "number"]) (a1 := .tup [.str "c", .str "number"]) (a2 := .tup [.str "p", .str "object"]) (a3 := .lst [.ref b0, .ref b1, .ref b2]) nb0 nb1 nb2 ne
    generalize (upd (upd (upd (upd H7 b0 (.tup [.str "b", .str "number"])) b1 (.tup [.str "c", .str "number"])) b2 (.tup [.str "p", .str "object"])) e (.lst [.ref b0, .ref b1, .ref b2])) = H8 at s8 e0 e1 e2 he
    refine ⟨_, rfl, sl2, fun i0 ni0 => ⟨sl2, fun i1 ni1 => ⟨sl2, fun i ni => ⟨_, rfl, _, rfl, sl5, fun tt ntt => ?_⟩⟩⟩⟩
    obtain ⟨s9, f0, f1, hi, ht⟩ := new_four (a0 := .tup [.str "a", .str "number"]) (a1 := .tup [.str "o", .str "object"]) (a2 := .lst [.ref i0, .ref i1]) (a3 := .tup [.str (fnS b), .ref i, .ref e, .str "number", .ref D]) ni0 ni1 ni ntt
    generalize (upd (upd (upd (upd H8 i0 (.tup [.str "a", .str "number"])) i1 (.tup [.str "o", .str "object"])) i (.lst [.ref i0, .ref i1])) tt (.tup [.str (fnS b), .ref i, .ref e, .str "number", .ref D])) = H9 at s9 f0 f1 hi ht
    have s79 := s8.trans s9
    refine k H9 tt (rows ++ [r']) (d7.same s79) ⟨i, e, D, rs ++ [t], ht, ⟨[i0, i1], hi, .cons f0 (.cons f1 .nil)⟩, ⟨[b0, b1, b2], s9 _ _ he, .cons (s9 _ _ e0) (.cons (s9 _ _ e1) (.cons (s9 _ _ e2) .nil))⟩, s79 _ _ hD7, Paired.mapP p7 fun _ _ q => q.nx (Nx.of s79)⟩ ?_
    have hll : (rows ++ [r']).length = s := by rw [List.length_append]; exact hl
    refine ⟨by rw [hll]; exact s1, by rw [hll]; exact s2, fun n q hq => ?_, fun q hq => ?_⟩
    · rw [hll]
      rcases List.mem_append.mp (List.mem_of_getElem? hq) with z | z
      · exact hf q z
      · rw [List.mem_singleton] at z
        rw [z]; exact hfit
    · rw [hll, show s - 1 = rows.length by omega, List.getElem?_append_right (Nat.le_refl _), Nat.sub_self] at hq
      have hq : some r' = some q := hq
      cases hq
      exact hlast
def spClasses : Sp := fun vs H Q _ => vs = [] ∧ ∀ H' cl tc ca, Same H H' → H' cl = some (.lst [.ref tc]) → H' tc = some (.tup [.str "cell", .ref ca]) → PairsAt H' ca dFd → Q (.ref cl) H'
theorem sc_law_classes : FnScope [] [] d_law_classes.scope := ⟨rfl, rfl, rfl, by decide +kernel, rfl, by decide +kernel, by decide +kernel⟩
theorem k_law_classes (T : Tx w K mg) : Ok P w K mg base 1 d_law_classes [] spClasses := by
  refine Ok.of T.d_law_classes sc_law_classes (fun _ _ _ _ _ _ us hl => match us, hl with | [], _ => rfl) (fun vs H Q E h => ?_) (fun cdv A outer s H vs Q E hr h => ?_)
  · obtain ⟨rfl, _⟩ := h
    rfl
  · obtain ⟨rfl, k⟩ := h
    refine ⟨_, (pss_one (ps_ret (pe_lst (pa_cons (pe_tup (pa_cons pe_str (pa_cons (pe_lst (pa_cons (pe_tup (pa_cons pe_str (pa_cons pe_str pa_nil))) (pa_cons (pe_tup (pa_cons pe_str (pa_cons pe_str pa_nil))) pa_nil))) pa_nil))) pa_nil)))), ?_⟩
    refine ⟨(by show 2 ≤ sizeLine; decide), fun t0 n0 => ⟨(by show 2 ≤ sizeLine; decide), fun t1 n1 => ⟨(by show 2 ≤ sizeLine; decide), fun ca n2 => ⟨(by show 2 ≤ sizeLine; decide), fun tc n3 => ⟨(by show 1 ≤ sizeLine; decide), fun cl n4 => ?_⟩⟩⟩⟩⟩
    obtain ⟨sm, q0, q1, q2, q3, q4⟩ := new_five n0 n1 n2 n3 n4
    exact k _ cl tc ca sm q4 q3 ⟨[t0, t1], q2, .cons q0 (.cons q1 .nil)⟩
end
end K18
set_option Elab.async false
set_option linter.all false
set_option maxRecDepth 100000
set_option pp.deepTerms false
set_option pp.maxSteps 400
set_option maxHeartbeats 4000000
namespace K18
open PySem PySem.Spec PyProof.Rows L2
theorem in_needs (v : Vr) (l : List Vr) : inV (.str v.s) (l.map fun v => V.str v.s) = decide (v ∈ l) := by
  have e : (l.map fun v => V.str v.s) = (l.map Vr.s).map V.str := by rw [List.map_map]; rfl
  rw [e, inV_str]
  by_cases h : v ∈ l
  · rw [decide_eq_true h, decide_eq_true (List.mem_map.mpr ⟨v, h, rfl⟩)]
  · rw [decide_eq_false h, decide_eq_false fun z => ?_]
    obtain ⟨u, hu, e⟩ := List.mem_map.mp z
    exact h (by rw [← vr_inj e]; exact hu)
theorem flat_needs (l : List Vr) : (l.map fun v => V.str v.s).all flatV = true := by
  have e : (l.map fun v => V.str v.s) = (l.map Vr.s).map V.str := by rw [List.map_map]; rfl
  rw [e]; exact flat_strs _
theorem nw_needs (l : List Vr) : Nw (.lst (l.map fun v => V.str v.s)) := by
  have e : (l.map fun v => V.str v.s) = (l.map Vr.s).map V.str := by rw [List.map_map]; rfl
  rw [e]; exact nw_strs _
theorem abc_in (v : Vr) : inS "abc" v.s = isN v := by
  cases v with
  | n x => cases x <;> kernel_rfl
  | o s => cases s <;> kernel_rfl
theorem SFAt.lup {H : Hp} {D : Addr} {xs : List V} {o : HO} {a : SF} {f : Fr} (hD : H D = some (.lst xs)) (h : SFAt H a f) : SFAt (upd H D o) a f :=
  ⟨by rw [upd_ne (ne_of h.t hD (by intro z; cases z))]; exact h.t, by rw [upd_ne (ne_of h.d hD (by intro z; cases z))]; exact h.d, fun s => (h.o s).tk (tk_upd fun xs z => by rw [hD] at z; cases z)⟩
theorem var_keys (num : NV → Int) (ov : OV → V) : (varKvs num ov).map (·.1) = (["a", "o", "b", "c", "p"] : List Str).map Sum.inr := rfl
theorem var_name {ys : List Str} (h : ys.Perm ["a", "o", "b", "c", "p"]) {j : Nat} {z : Str} (e : ys[j]? = some z) : ∃ v : Vr, z = v.s := by
  have q := h.mem_iff.mp (List.mem_of_getElem? e)
  simp only [List.mem_cons, List.not_mem_nil, or_false] at q
  rcases q with rfl | rfl | rfl | rfl | rfl
  · exact ⟨.n .a, rfl⟩
  · exact ⟨.o .o, rfl⟩
  · exact ⟨.n .b, rfl⟩
  · exact ⟨.n .c, rfl⟩
  · exact ⟨.o .p, rfl⟩
section
variable {P : Program} {w : World} {K : PySem.W.Frag} {mg : Str → Option Value} {base : Heap}
variable {H H' : Hp} {p src : Addr} {A : MA} {m : Mch} {G : Prg}
def spTurned (K : PySem.W.Frag) : Sp := fun vs H Q _ => ∃ (W src l hd : Addr) (G : Prg) (sf : List SF) (fs : List Fr) (os : List OA) (obs : List Ob), vs = [.ref W, .ref src, .ref l, .ref hd] ∧ WellAt H W ∧ SrcAt K H src G ∧ (∀ b, RowsGood (G b)) ∧
  FrsAt H l sf fs ∧ HpAt H hd os obs ∧ FrsOk G fs ∧ obs.length < 64 ∧ ∀ H' l' sf' gs, Dr W H H' → FrsAt H' l' sf' gs → Turned G obs.length fs gs → Q (.ref l') H'
theorem sc_law_turned : FnScope ["_law_well_here", "_law_prog", "_law_some", "_law_objects", "_law_found", "_law_depth", "_law_needs", "_law_later", "_law_one_here", "_law_title", "_law_at", "_law_values", "_law_number"] ["_law_well_here", "_law_prog", "_law_some", "_law_objects"] d_law_turned.scope := ⟨rfl, rfl, rfl, by decide +kernel, rfl, by decide +kernel, by decide +kernel⟩
theorem k_law_turned (T : Tx w K mg) : Ok P w K mg base 7 d_law_turned ["_law_well_here", "_law_prog", "_law_some", "_law_objects"] (spTurned K) := by
  refine Ok.of T.d_law_turned sc_law_turned (fun _ _ _ _ _ _ us hl => match us, hl with | [_, _, _, _], _ => rfl) (fun vs H Q E h => ?_) (fun cdv A outer s H vs Q E hr h => ?_)
  · obtain ⟨W, src, l, hd, G, sf, fs, os, obs, rfl, _⟩ := h
    rfl
  · obtain ⟨W, src, l, hd, G, sf, fs, os, obs, rfl, hW, S, hG, F, O, ok, hob, k⟩ := h
    refine ⟨_, (pss_cons (ps_set (i := 4) sc_law_turned.nd rfl (.inl rfl) (pe_lst pa_nil))
      (pss_cons (ps_for PassesOwn.never rfl (pi_enum (by rfl) T.b_enumerate (pa_cons (pv 2) pa_nil)) (pg_tup rfl (pgs_cons (pg_name (i := 5) sc_law_turned.nd rfl (.inl rfl)) (pgs_cons (pg_tup rfl (pgs_cons (pg_name (i := 9) sc_law_turned.nd rfl (.inl rfl)) (pgs_cons (pg_name (i := 10) sc_law_turned.nd rfl (.inl rfl)) (pgs_cons (pg_name (i := 11) sc_law_turned.nd rfl (.inl rfl)) pgs_nil)))) pgs_nil))) (pss_cons (ps_set (i := 6) sc_law_turned.nd rfl (.inl rfl) (pe_ifExp (pt_cmpR op_eq (pe_op op_add (pv 5) pe_int) (pe_callB call_len_seq (by rfl) T.b_len PySem.boot_len (pa_cons (pv 2) pa_nil)) (nomark _)) (pe_G (k_wanted T) (hr.mono (by decide)) T.g_wanted (pa_cons (pv 1) (pa_cons (pv 9) (pa_cons (pv 10) pa_nil)))) (pe_G (k_wanted_at_call T) (hr.mono (by decide)) T.g_wanted_at_call (pa_cons (pv 1) (pa_cons (pv 9) (pa_cons (pv 10) pa_nil))))))
      (pss_cons (ps_set (i := 7) sc_law_turned.nd rfl (.inl rfl) (pe_callTy call_dictD (by rfl) T.b_dict bt_dict (pa_cons (pv 11) pa_nil)))
      (pss_cons (ps_for PassesOwn.never rfl (pi_list (pe_callB (call_sortedD rfl) (by rfl) T.b_sorted bt_sorted (pa_cons (pv 11) pa_nil))) (pg_name (i := 8) sc_law_turned.nd rfl (.inl rfl)) (pss_one (ps_if (PW.pt (pw_and (pt_cmpR op_notIn_seq (pv 8) (pv 6) rfl) (pw_and1 (pt_cmpR op_in_str (pv 8) pe_str rfl)))) (pss_one (ps_dput (hu_of hr) (pv 7) (pv 8) (pe_op op_sub (pe_G (k_law_draw T) (hr.mono (by decide)) T.g_law_draw (pa_cons (pv 0) (pa_cons pe_int pa_nil))) pe_int) rfl)) (pss_one (ps_if (pt_cmpR op_notIn_seq (pv 8) (pv 6) rfl) (pss_one (ps_dput (hu_of hr) (pv 7) (pv 8) (pe_G (k_law_one T) (hr.mono (by decide)) T.g_law_one (pa_cons (pv 0) (pa_cons (pe_op op_cat (pe_lst (pa_cons pe_non pa_nil)) (pe_lc (own := [("_law_number", 12)]) (g := (gName 12)) (tt := tYes) (by rfl) sc_law_turned.nd  (pi_list (pe_callB (call_sortedDI rfl) (by rfl) T.b_sorted bt_sorted (pa_cons (pv 3) pa_nil))) (blkOk_by (own := [("_law_number", 12)]) (N := ["_law_well_here", "_law_prog", "_law_some", "_law_objects", "_law_found", "_law_depth", "_law_needs", "_law_later", "_law_one_here", "_law_title", "_law_at", "_law_values", "_law_number"]) (sc := d_law_turned.scope) (by decide +kernel)) (fun _ _ _ _ _ => (pg_name (i := 12) sc_law_turned.nd rfl (.inl rfl))) (fun _ _ _ _ _ => pts_nil) (fun _ _ _ _ _ => (pe_tup (pa_cons pe_str (pa_cons (pv 12) pa_nil)))))) pa_nil))) rfl)) pss_nil)))))
      (pss_one (ps_expr (pe_bm PySem.F.plainAttrs_list PySem.F.slot_list_append PySem.F.type_list_append mt_append (pv 4) (pa_cons (pe_tup (pa_cons (pv 9) (pa_cons (pv 10) (pa_cons (pv 7) pa_nil)))) pa_nil))))))))
      (pss_one (ps_ret (pv 4))))), ?_⟩
    have hlen : sf.length = fs.length := Paired.len F.f
    refine ⟨(by show 0 ≤ sizeLine; decide), fun D nD => ?_⟩
    have nW : W ≠ D := hW.ne nD
    have dl : l ≠ D := ne_of_none F.l nD
    refine ⟨_, rfl, l, _, rfl, SqL.of (by rw [upd_ne dl]; exact F.l), ?_⟩
    refine for_it (walk_enum (xs := sf.map fun a => V.ref a.t)) (fun j σ H' => ∃ (sf' : List SF) (gs : List Fr), Dr W H H' ∧ H' D = some (.lst (sf'.map fun a => V.ref a.t)) ∧ Paired (SFAt H') sf' gs ∧ (sf'.map (·.d)).Nodup ∧ gs.length = j ∧ (∀ (i : Nat) f g, fs[i]? = some f → gs[i]? = some g → Turn1 G obs.length (decide (i + 1 = fs.length)) f g) ∧
      ∃ s5 s6 s7 s8 s9 s10 s11 s12, σ = [some (.ref W), some (.ref src), some (.ref l), some (.ref hd), some (.ref D), s5, s6, s7, s8, s9, s10, s11, s12]) ?_ (fun j σ H' _ e => ?_) (fun j x σ H3 H' hj e y => ?_) (fun σ H' e => ?_)
    · exact ⟨[], [], (Dr.refl hW).put nD nW, upd_same, .nil, List.nodup_nil, rfl, fun i f g _ h => by simp at h, _, _, _, _, _, _, _, _, rfl⟩
    · obtain ⟨sf', gs, d, _⟩ := e
      exact SqL.of (F.nx (d.nx hW)).l
    · obtain ⟨sf', gs, d3, hD3, hp, hnd, hgl, htu, s5, s6, s7, s8, s9, s10, s11, s12, rfl⟩ := e
      obtain ⟨t, x1, x2, rfl, nt, rfl, y1, y2⟩ := y
      rw [List.length_map] at hj
      have y1 : some (V.int (j : Nat)) = some x1 := y1
      cases y1
      obtain ⟨a, ha⟩ : ∃ a, sf[j]? = some a := ⟨_, List.getElem?_eq_getElem hj⟩
      have y2 : (sf.map fun a => V.ref a.t)[j]? = some x2 := y2
      rw [List.getElem?_map, ha] at y2
      cases y2
      obtain ⟨f, hf, Fa⟩ := Paired.getL F.f ha
      have sn : Same H3 (upd H3 t (.tup [.int (j : Nat), .ref a.t])) := same_new nt
      have ht2 : (upd H3 t (.tup [.int (j : Nat), .ref a.t])) t = some (.tup [.int (j : Nat), .ref a.t]) := upd_same
      generalize (upd H3 t (.tup [.int (j : Nat), .ref a.t])) = H4 at sn ht2
      have d4 := d3.same sn
      have n4 := d4.nx hW
      have Fa4 := Fa.nx n4
      have F4 := F.nx n4
      refine ⟨t, _, rfl, SqT.of ht2, rfl, _, _, rfl, _, _, rfl, a.t, _, rfl, SqT.of Fa4.t, rfl, _, _, rfl, _, _, rfl, _, _, rfl, rfl, rfl, ?_⟩
      -- what is wanted
      have hfm : f ∈ fs := List.mem_of_getElem? hf
      have hD4 := sn _ _ hD3
      have hp4 := Paired.mapP hp fun _ _ q => SFAt.same sn q
      refine ⟨_, rfl, _, _, rfl, rfl, _, rfl, l, _, rfl, .inl (SqL.of F4.l), rfl, _, rfl, ?_⟩
      obtain ⟨last, hlast⟩ : ∃ last, decide (j + 1 = fs.length) = last := ⟨_, rfl⟩
      have ecmp : decide (V.int ((j : Int) + 1) = V.int (((sf.map fun a => V.ref a.t).length : Nat) : Int)) = last := by
        rw [← hlast, List.length_map, hlen]
        by_cases e : j + 1 = fs.length
        · rw [decide_eq_true e, decide_eq_true (by rw [← e]; rfl)]
        · rw [decide_eq_false e, decide_eq_false fun z => e ?_]
          have z := V.int.inj z
          omega
      cases last with
      | true =>
        refine ifB ecmp ?_
        refine ⟨_, rfl, _, rfl, _, rfl, src, G, f.fn, f.at_, rfl, S.nx n4, wok hG, (ok.at_ f hfm).1, fun H5 nl s5' hnl => ?_⟩
        have hnl : H5 nl = some (.lst ((needs G true f).map fun v => V.str v.s)) := hnl
        have d5 := d4.same s5'
        have Fa5 := Fa4.same s5'
        refine ⟨_, rfl, a.d, _, rfl, .inl Fa5.d, fun d nd => ?_⟩
        have Wd := d5.w.ne nd
        have hd6 : (upd H5 d (.dK (varKvs f.num a.ov))) d = some (.dK (varKvs f.num a.ov)) := upd_same
        have s6' : Same H5 (upd H5 d (.dK (varKvs f.num a.ov))) := same_new nd
        generalize (upd H5 d (.dK (varKvs f.num a.ov))) = H6 at hd6 s6'
        refine ⟨_, rfl, a.d, _, _, rfl, .inl (s6' _ _ Fa5.d), var_keys _ _, by decide, fun ys p hpm hs np => ⟨p, rfl, ⟨_, SqL.of upd_same⟩, ?_⟩⟩
        have pd : d ≠ p := ne_of_none hd6 np
        refine for_it (walk_list (xs := ys.map V.str)) (fun i σ H' => ∃ (g : Fr) (ov : OV → V), Dr W H5 H' ∧ H' p = some (.lst (ys.map V.str)) ∧ H' d = some (.dK (varKvs g.num ov)) ∧ (∀ s, RepO H' (ov s) (g.obj s)) ∧ Turn1 G obs.length true f g ∧
          ∃ s8 s12, σ = [some (.ref W), some (.ref src), some (.ref l), some (.ref hd), some (.ref D), some (.int (j : Nat)), some (.ref nl), some (.ref d), s8, some (.str (fnS f.fn)), some (.int (f.at_ : Int)), some (.ref a.d), s12]) ?_ (fun i σ H' _ e => ?_) (fun i x σ H0 H7 hi e y => ?_) (fun σ H7 e => ?_)
        · exact ⟨f, a.ov, Dr.of d5.w (s6'.trans (same_new np)), upd_same, by rw [upd_ne pd]; exact hd6, fun s => (Fa5.o s).le (Le.of (s6'.trans (same_new np))), Turn1.refl, _, _, rfl⟩
        · obtain ⟨g, ov, _, h, _⟩ := e
          exact SqL.of h
        · obtain ⟨g, ov, d7, hp7, hd7, hov, tu, s8, s12, rfl⟩ := e
          obtain ⟨rfl, y⟩ := y
          rw [List.length_map] at hi
          rw [List.getElem?_map, List.getElem?_eq_getElem hi] at y
          cases y
          obtain ⟨v, hv⟩ := var_name hpm (List.getElem?_eq_getElem hi)
          rw [hv]
          have hnl7 := (d7.nx d5.w) nl _ hnl (nw_needs _)
          refine ⟨_, rfl, _, rfl, nl, _, rfl, .inl (SqL.of hnl7), rfl, flat_needs _, _, rfl, ?_⟩
          by_cases hvn : v ∈ needs G true f
          · refine ifBf (by show (!inV _ _) = false; rw [in_needs, decide_eq_true hvn]; rfl) ?_
            refine ⟨_, rfl, _, rfl, nl, _, rfl, .inl (SqL.of hnl7), rfl, flat_needs _, _, rfl, ifBf (by show (!inV _ _) = false; rw [in_needs, decide_eq_true hvn]; rfl) ?_⟩
            exact ⟨g, ov, d7, hp7, hd7, hov, tu, _, _, rfl⟩
          · refine ifB (by show (!inV _ _) = true; rw [in_needs, decide_eq_false hvn]; rfl) ?_
            refine ⟨_, rfl, v.s, "abc", rfl, rfl, _, rfl, ?_⟩
            cases v with
            | n x =>
              refine ifB (abc_in _) ?_
              refine ⟨_, rfl, W, 9, rfl, d7.w, by decide, by decide, fun a1 b1 c1 r r0 r1 => ⟨_, _, rfl, rfl, ?_⟩⟩
              have d8 : Dr W H7 (upd H7 W (.lst [.int a1, .int b1, .int c1])) := Dr.upd a1 b1 c1
              generalize (upd H7 W (.lst [.int a1, .int b1, .int c1])) = H8 at d8
              have n8 := d8.nx d7.w
              refine ⟨_, rfl, _, rfl, d, _, rfl, .inl ⟨_, Sum.inr x.s, n8.dk hd7, rfl, by show 5 < sizeLine; decide, rfl⟩, ?_⟩
              refine ⟨g.setN x (r - 4), ov, (d7.trans d8).put nd Wd, ?_, ?_, fun s => ((hov s).tk n8.tk).tk (tk_upd fun xs z => by rw [n8.dk hd7] at z; cases z), tu.setN hvn (by omega) (by omega), _, _, rfl⟩
              · rw [upd_ne (Ne.symm pd)]
                exact n8 p _ hp7 (nw_strs _)
              · rw [upd_same, put_n]; rfl
            | o s =>
              refine ifBf (abc_in _) ?_
              refine ⟨_, rfl, _, rfl, nl, _, rfl, .inl (SqL.of hnl7), rfl, flat_needs _, _, rfl, ifB (by show (!inV _ _) = true; rw [in_needs, decide_eq_false hvn]; rfl) ?_⟩
              have O7 := O.nx ((d5.trans d7).nx hW)
              have hon : os.length = obs.length := Paired.len O.o
              refine ⟨_, rfl, (by show 1 ≤ sizeLine; decide), fun l0 nl0 => ?_⟩
              have s8' : Same H7 (upd H7 l0 (.lst [.non])) := same_new nl0
              have hl0 : (upd H7 l0 (.lst [.non])) l0 = some (.lst [.non]) := upd_same
              generalize (upd H7 l0 (.lst [.non])) = H8 at s8' hl0
              refine ⟨_, rfl, hd, _, _, rfl, .inl (s8' _ _ O7.d), objK_fst os 0, (by rw [List.length_map, List.length_range]; omega), fun zs q hq hs2 nq => ⟨q, rfl, ⟨_, SqL.of upd_same⟩, fun E nE => ?_⟩⟩
              have s9' : Same H8 (upd H8 q (.lst (zs.map V.int))) := same_new nq
              have hq9 : (upd H8 q (.lst (zs.map V.int))) q = some (.lst (zs.map V.int)) := upd_same
              generalize (upd H8 q (.lst (zs.map V.int))) = H9 at s9' hq9 nE
              have zmem : ∀ i z, zs[i]? = some z → ∃ n : Nat, z = (n : Int) ∧ n < obs.length := fun i z hz => by
                have := hq.mem_iff.mp (List.mem_of_getElem? hz)
                obtain ⟨n, hn, e⟩ := List.mem_map.mp this
                rw [List.mem_range] at hn
                exact ⟨n, by rw [← e]; simp, by omega⟩
              have zlen : zs.length ≤ 64 := by rw [hq.length_eq, List.length_map, List.length_range]; omega
              refine lc_it (walk_list (xs := zs.map V.int)) (fun i H' => ∃ ts : List Addr, Same H9 H' ∧ H' E = some (.lst (ts.map V.ref)) ∧ ts.length = i ∧ ∀ t ∈ ts, ∃ n : Nat, n < obs.length ∧ H' t = some (.tup [.str "object", .int (n : Int)])) ?_ (fun i H' _ e => ?_) (fun i x H1 H2 hi e y => ?_) (fun H10 e => ?_)
              · exact ⟨[], same_new nE, upd_same, rfl, fun t h => by cases h⟩
              · obtain ⟨ts, sm, _⟩ := e
                exact SqL.of (sm _ _ hq9)
              · obtain ⟨ts, sm, hE, hl, ht⟩ := e
                obtain ⟨rfl, y⟩ := y
                rw [List.length_map] at hi
                rw [List.getElem?_map, List.getElem?_eq_getElem hi] at y
                cases y
                obtain ⟨n, hn, hn2⟩ := zmem i _ (List.getElem?_eq_getElem hi)
                rw [hn]
                refine ⟨rfl, _, rfl, (by show 2 ≤ sizeLine; decide), fun t nt => ?_⟩
                have hEt : E ≠ t := ne_of_none hE nt
                have hE2 := same_new (o := .tup [.str "object", .int (n : Int)]) nt E _ hE
                refine ⟨_, hE2, by rw [List.length_map, hl]; exact lt_line (by omega), ts ++ [t], (sm.trans (same_new nt)).put nE, by rw [upd_same, List.map_append]; rfl, by simp [hl], fun u hu => ?_⟩
                rcases List.mem_append.mp hu with hu | hu
                · obtain ⟨n', h1, h2⟩ := ht u hu
                  exact ⟨n', h1, by rw [upd_ne (ne_of (same_new nt _ _ h2) hE2 (by intro z; cases z))]; exact same_new nt _ _ h2⟩
                · rw [List.mem_singleton] at hu
                  subst hu
                  exact ⟨n, hn2, by rw [upd_ne (Ne.symm hEt)]; exact upd_same⟩
              obtain ⟨ts, sm, hE, hl, ht⟩ := e
              rw [List.length_map] at hl
              have hl10 : H10 l0 = some (.lst [.non]) := (s9'.trans sm) _ _ hl0
              have s710 := s8'.trans (s9'.trans sm)
              refine ⟨l0, E, [.non], ts.map V.ref, rfl, rfl, hl10, hE, (by rw [List.length_map]; exact le_line (by show 1 + ts.length ≤ 1000; omega)), fun l2 nl2 => ?_⟩
              have Wl2 := (d7.same s710).w.ne nl2
              have s11 : Same H10 (upd H10 l2 (.lst ([V.non] ++ ts.map V.ref))) := same_new nl2
              have hl2 : (upd H10 l2 (.lst ([V.non] ++ ts.map V.ref))) l2 = some (.lst ([V.non] ++ ts.map V.ref)) := upd_same
              generalize (upd H10 l2 (.lst ([V.non] ++ ts.map V.ref))) = H11 at s11 hl2
              have s711 := s710.trans s11
              have d11 := d7.same s711
              refine ⟨W, l2, _, rfl, d11.w, hl2, Wl2, (by rw [List.length_append, List.length_map]; show 1 ≤ 1 + ts.length; omega), (by rw [List.length_append, List.length_map]; show 1 + ts.length < 1000; omega), fun H12 v d12 hv => ?_⟩
              have n12 := d12.nx d11.w
              obtain ⟨oo, hoo, hno⟩ : ∃ oo, RepO H12 v oo ∧ ∀ j, oo = some j → j < obs.length := by
                rcases List.mem_append.mp hv with hv | hv
                · rw [List.mem_singleton] at hv
                  exact ⟨none, hv, fun j e => by cases e⟩
                · obtain ⟨u, hu, rfl⟩ := List.mem_map.mp hv
                  obtain ⟨n, h1, h2⟩ := ht u hu
                  exact ⟨some n, ⟨u, rfl, n12.tup (s11 _ _ h2)⟩, fun j e => by cases e; exact h1⟩
              have hd12 := n12.dk (s711 _ _ hd7)
              refine ⟨_, rfl, _, rfl, d, _, rfl, .inl ⟨_, Sum.inr s.s, hd12, rfl, by show 5 < sizeLine; decide, rfl⟩, ?_⟩
              have tkd : Tk H12 (upd H12 d (.dK (putK (varKvs g.num ov) (Sum.inr s.s) v))) := tk_upd fun xs z => by rw [hd12] at z; cases z
              refine ⟨g.setO s oo, fun t => if t = s then v else ov t, (d11.trans d12).put nd Wd, ?_, ?_, fun t => ?_, tu.setO hvn hno, _, _, rfl⟩
              · rw [upd_ne (Ne.symm pd)]
                exact n12 p _ (s711 _ _ hp7) (nw_strs _)
              · rw [upd_same, put_o]; rfl
              · show RepO _ (if t = s then v else ov t) (if t = s then oo else g.obj t)
                by_cases e : t = s
                · rw [if_pos e, if_pos e]; exact hoo.tk tkd
                · rw [if_neg e, if_neg e]; exact (((hov t).tk (Tk.of s711)).tk n12.tk).tk tkd
        · obtain ⟨g, ov, d7, hp7, hd7, hov, tu, s8, s12, rfl⟩ := e
          have hD7 : H7 D = some (.lst (sf'.map fun a => V.ref a.t)) := d7.b D _ (s5' _ _ hD4) (Ne.symm nW)
          refine ⟨_, rfl, .inl ⟨rfl, _, SqL.of hD7⟩, _, rfl, _, rfl, _, rfl, (by show 3 ≤ sizeLine; decide), fun tt ntt => ?_⟩
          have s8' : Same H7 (upd H7 tt (.tup [.str (fnS f.fn), .int (f.at_ : Int), .ref d])) := same_new ntt
          have ht8 : (upd H7 tt (.tup [.str (fnS f.fn), .int (f.at_ : Int), .ref d])) tt = some (.tup [.str (fnS f.fn), .int (f.at_ : Int), .ref d]) := upd_same
          generalize (upd H7 tt (.tup [.str (fnS f.fn), .int (f.at_ : Int), .ref d])) = H8 at s8' ht8
          have hD8 := s8' _ _ hD7
          have hp5 := Paired.mapP hp4 fun _ _ q => SFAt.same s5' q
          have n58 := (d7.nx d5.w).trans (Nx.of s8')
          have hgf : SFAt H8 ⟨tt, d, ov⟩ g := ⟨by rw [tu.fn, tu.at_]; exact ht8, s8' _ _ hd7, fun s => (hov s).tk (Tk.of s8')⟩
          refine ⟨D, _, _, rfl, rfl, hD8, ?_, sf' ++ [⟨tt, d, ov⟩], gs ++ [g], ((d5.trans d7).same s8').put nD nW, ?_, ?_, ?_, ?_, fun i f' g' h1 h2 => ?_, _, _, _, _, _, _, _, _, rfl⟩
          · rw [List.length_map, Paired.len hp, hgl]
            have := ok.few
            exact lt_line (by omega)
          · rw [upd_same, List.map_append]; rfl
          · exact Paired.snoc (Paired.mapP hp5 fun _ _ q => (q.nx n58).lup hD8) (hgf.lup hD8)
          · rw [List.map_append]
            exact nd_snoc hnd (Paired.none hp5 (fun a b q => ⟨_, q.d⟩) nd)
          · rw [List.length_append, hgl]; rfl
          · by_cases hi : i < gs.length
            · rw [List.getElem?_append_left hi] at h2
              exact htu i f' g' h1 h2
            · have hij : i = j := by
                have := (List.getElem?_eq_some_iff.mp h2).1
                rw [List.length_append, hgl] at this
                have : i < j + 1 := this
                omega
              subst hij
              rw [List.getElem?_append_right (by omega), hgl, Nat.sub_self] at h2
              cases h2
              rw [hf] at h1
              cases h1
              rw [hlast]
              exact tu
      | false =>
        refine ifBf ecmp ?_
        have hj2 : j + 1 < fs.length := by
          have := of_decide_eq_false hlast
          omega
        obtain ⟨⟨cx, cy, cs, ec⟩, _⟩ := ok.ca j f _ hf (List.getElem?_eq_getElem hj2)
        have ecv : callVar G f = cx := by unfold callVar; rw [ec]
        refine ⟨_, rfl, _, rfl, _, rfl, src, G, f.fn, f.at_, cx, cy, cs, rfl, S.nx n4, wok hG, ec, (prgok hG).next ec (by simp) (by simp), fun H5 nl s5' hnl => ?_⟩
        have hnl : H5 nl = some (.lst ((needs G false f).map fun v => V.str v.s)) := by rw [← ecv] at hnl; exact hnl
        have d5 := d4.same s5'
        have Fa5 := Fa4.same s5'
        refine ⟨_, rfl, a.d, _, rfl, .inl Fa5.d, fun d nd => ?_⟩
        have Wd := d5.w.ne nd
        have hd6 : (upd H5 d (.dK (varKvs f.num a.ov))) d = some (.dK (varKvs f.num a.ov)) := upd_same
        have s6' : Same H5 (upd H5 d (.dK (varKvs f.num a.ov))) := same_new nd
        generalize (upd H5 d (.dK (varKvs f.num a.ov))) = H6 at hd6 s6'
        refine ⟨_, rfl, a.d, _, _, rfl, .inl (s6' _ _ Fa5.d), var_keys _ _, by decide, fun ys p hpm hs np => ⟨p, rfl, ⟨_, SqL.of upd_same⟩, ?_⟩⟩
        have pd : d ≠ p := ne_of_none hd6 np
        refine for_it (walk_list (xs := ys.map V.str)) (fun i σ H' => ∃ (g : Fr) (ov : OV → V), Dr W H5 H' ∧ H' p = some (.lst (ys.map V.str)) ∧ H' d = some (.dK (varKvs g.num ov)) ∧ (∀ s, RepO H' (ov s) (g.obj s)) ∧ Turn1 G obs.length false f g ∧
          ∃ s8 s12, σ = [some (.ref W), some (.ref src), some (.ref l), some (.ref hd), some (.ref D), some (.int (j : Nat)), some (.ref nl), some (.ref d), s8, some (.str (fnS f.fn)), some (.int (f.at_ : Int)), some (.ref a.d), s12]) ?_ (fun i σ H' _ e => ?_) (fun i x σ H0 H7 hi e y => ?_) (fun σ H7 e => ?_)
        · exact ⟨f, a.ov, Dr.of d5.w (s6'.trans (same_new np)), upd_same, by rw [upd_ne pd]; exact hd6, fun s => (Fa5.o s).le (Le.of (s6'.trans (same_new np))), Turn1.refl, _, _, rfl⟩
        · obtain ⟨g, ov, _, h, _⟩ := e
          exact SqL.of h
        · obtain ⟨g, ov, d7, hp7, hd7, hov, tu, s8, s12, rfl⟩ := e
          obtain ⟨rfl, y⟩ := y
          rw [List.length_map] at hi
          rw [List.getElem?_map, List.getElem?_eq_getElem hi] at y
          cases y
          obtain ⟨v, hv⟩ := var_name hpm (List.getElem?_eq_getElem hi)
          rw [hv]
          have hnl7 := (d7.nx d5.w) nl _ hnl (nw_needs _)
          refine ⟨_, rfl, _, rfl, nl, _, rfl, .inl (SqL.of hnl7), rfl, flat_needs _, _, rfl, ?_⟩
          by_cases hvn : v ∈ needs G false f
          · refine ifBf (by show (!inV _ _) = false; rw [in_needs, decide_eq_true hvn]; rfl) ?_
            refine ⟨_, rfl, _, rfl, nl, _, rfl, .inl (SqL.of hnl7), rfl, flat_needs _, _, rfl, ifBf (by show (!inV _ _) = false; rw [in_needs, decide_eq_true hvn]; rfl) ?_⟩
            exact ⟨g, ov, d7, hp7, hd7, hov, tu, _, _, rfl⟩
          · refine ifB (by show (!inV _ _) = true; rw [in_needs, decide_eq_false hvn]; rfl) ?_
            refine ⟨_, rfl, v.s, "abc", rfl, rfl, _, rfl, ?_⟩
            cases v with
            | n x =>
              refine ifB (abc_in _) ?_
              refine ⟨_, rfl, W, 9, rfl, d7.w, by decide, by decide, fun a1 b1 c1 r r0 r1 => ⟨_, _, rfl, rfl, ?_⟩⟩
              have d8 : Dr W H7 (upd H7 W (.lst [.int a1, .int b1, .int c1])) := Dr.upd a1 b1 c1
              generalize (upd H7 W (.lst [.int a1, .int b1, .int c1])) = H8 at d8
              have n8 := d8.nx d7.w
              refine ⟨_, rfl, _, rfl, d, _, rfl, .inl ⟨_, Sum.inr x.s, n8.dk hd7, rfl, by show 5 < sizeLine; decide, rfl⟩, ?_⟩
              refine ⟨g.setN x (r - 4), ov, (d7.trans d8).put nd Wd, ?_, ?_, fun s => ((hov s).tk n8.tk).tk (tk_upd fun xs z => by rw [n8.dk hd7] at z; cases z), tu.setN hvn (by omega) (by omega), _, _, rfl⟩
              · rw [upd_ne (Ne.symm pd)]
                exact n8 p _ hp7 (nw_strs _)
              · rw [upd_same, put_n]; rfl
            | o s =>
              refine ifBf (abc_in _) ?_
              refine ⟨_, rfl, _, rfl, nl, _, rfl, .inl (SqL.of hnl7), rfl, flat_needs _, _, rfl, ifB (by show (!inV _ _) = true; rw [in_needs, decide_eq_false hvn]; rfl) ?_⟩
              have O7 := O.nx ((d5.trans d7).nx hW)
              have hon : os.length = obs.length := Paired.len O.o
              refine ⟨_, rfl, (by show 1 ≤ sizeLine; decide), fun l0 nl0 => ?_⟩
              have s8' : Same H7 (upd H7 l0 (.lst [.non])) := same_new nl0
              have hl0 : (upd H7 l0 (.lst [.non])) l0 = some (.lst [.non]) := upd_same
              generalize (upd H7 l0 (.lst [.non])) = H8 at s8' hl0
              refine ⟨_, rfl, hd, _, _, rfl, .inl (s8' _ _ O7.d), objK_fst os 0, (by rw [List.length_map, List.length_range]; omega), fun zs q hq hs2 nq => ⟨q, rfl, ⟨_, SqL.of upd_same⟩, fun E nE => ?_⟩⟩
              have s9' : Same H8 (upd H8 q (.lst (zs.map V.int))) := same_new nq
              have hq9 : (upd H8 q (.lst (zs.map V.int))) q = some (.lst (zs.map V.int)) := upd_same
              generalize (upd H8 q (.lst (zs.map V.int))) = H9 at s9' hq9 nE
              have zmem : ∀ i z, zs[i]? = some z → ∃ n : Nat, z = (n : Int) ∧ n < obs.length := fun i z hz => by
                have := hq.mem_iff.mp (List.mem_of_getElem? hz)
                obtain ⟨n, hn, e⟩ := List.mem_map.mp this
                rw [List.mem_range] at hn
                exact ⟨n, by rw [← e]; simp, by omega⟩
              have zlen : zs.length ≤ 64 := by rw [hq.length_eq, List.length_map, List.length_range]; omega
              refine lc_it (walk_list (xs := zs.map V.int)) (fun i H' => ∃ ts : List Addr, Same H9 H' ∧ H' E = some (.lst (ts.map V.ref)) ∧ ts.length = i ∧ ∀ t ∈ ts, ∃ n : Nat, n < obs.length ∧ H' t = some (.tup [.str "object", .int (n : Int)])) ?_ (fun i H' _ e => ?_) (fun i x H1 H2 hi e y => ?_) (fun H10 e => ?_)
              · exact ⟨[], same_new nE, upd_same, rfl, fun t h => by cases h⟩
              · obtain ⟨ts, sm, _⟩ := e
                exact SqL.of (sm _ _ hq9)
              · obtain ⟨ts, sm, hE, hl, ht⟩ := e
                obtain ⟨rfl, y⟩ := y
                rw [List.length_map] at hi
                rw [List.getElem?_map, List.getElem?_eq_getElem hi] at y
                cases y
                obtain ⟨n, hn, hn2⟩ := zmem i _ (List.getElem?_eq_getElem hi)
                rw [hn]
                refine ⟨rfl, _, rfl, (by show 2 ≤ sizeLine; decide), fun t nt => ?_⟩
                have hEt : E ≠ t := ne_of_none hE nt
                have hE2 := same_new (o := .tup [.str "object", .int (n : Int)]) nt E _ hE
                refine ⟨_, hE2, by rw [List.length_map, hl]; exact lt_line (by omega), ts ++ [t], (sm.trans (same_new nt)).put nE, by rw [upd_same, List.map_append]; rfl, by simp [hl], fun u hu => ?_⟩
                rcases List.mem_append.mp hu with hu | hu
                · obtain ⟨n', h1, h2⟩ := ht u hu
                  exact ⟨n', h1, by rw [upd_ne (ne_of (same_new nt _ _ h2) hE2 (by intro z; cases z))]; exact same_new nt _ _ h2⟩
                · rw [List.mem_singleton] at hu
                  subst hu
                  exact ⟨n, hn2, by rw [upd_ne (Ne.symm hEt)]; exact upd_same⟩
              obtain ⟨ts, sm, hE, hl, ht⟩ := e
              rw [List.length_map] at hl
              have hl10 : H10 l0 = some (.lst [.non]) := (s9'.trans sm) _ _ hl0
              have s710 := s8'.trans (s9'.trans sm)
              refine ⟨l0, E, [.non], ts.map V.ref, rfl, rfl, hl10, hE, (by rw [List.length_map]; exact le_line (by show 1 + ts.length ≤ 1000; omega)), fun l2 nl2 => ?_⟩
              have Wl2 := (d7.same s710).w.ne nl2
              have s11 : Same H10 (upd H10 l2 (.lst ([V.non] ++ ts.map V.ref))) := same_new nl2
              have hl2 : (upd H10 l2 (.lst ([V.non] ++ ts.map V.ref))) l2 = some (.lst ([V.non] ++ ts.map V.ref)) := upd_same
              generalize (upd H10 l2 (.lst ([V.non] ++ ts.map V.ref))) = H11 at s11 hl2
              have s711 := s710.trans s11
              have d11 := d7.same s711
              refine ⟨W, l2, _, rfl, d11.w, hl2, Wl2, (by rw [List.length_append, List.length_map]; show 1 ≤ 1 + ts.length; omega), (by rw [List.length_append, List.length_map]; show 1 + ts.length < 1000; omega), fun H12 v d12 hv => ?_⟩
              have n12 := d12.nx d11.w
              obtain ⟨oo, hoo, hno⟩ : ∃ oo, RepO H12 v oo ∧ ∀ j, oo = some j → j < obs.length := by
                rcases List.mem_append.mp hv with hv | hv
                · rw [List.mem_singleton] at hv
                  exact ⟨none, hv, fun j e => by cases e⟩
                · obtain ⟨u, hu, rfl⟩ := List.mem_map.mp hv
                  obtain ⟨n, h1, h2⟩ := ht u hu
                  exact ⟨some n, ⟨u, rfl, n12.tup (s11 _ _ h2)⟩, fun j e => by cases e; exact h1⟩
              have hd12 := n12.dk (s711 _ _ hd7)
              refine ⟨_, rfl, _, rfl, d, _, rfl, .inl ⟨_, Sum.inr s.s, hd12, rfl, by show 5 < sizeLine; decide, rfl⟩, ?_⟩
              have tkd : Tk H12 (upd H12 d (.dK (putK (varKvs g.num ov) (Sum.inr s.s) v))) := tk_upd fun xs z => by rw [hd12] at z; cases z
              refine ⟨g.setO s oo, fun t => if t = s then v else ov t, (d11.trans d12).put nd Wd, ?_, ?_, fun t => ?_, tu.setO hvn hno, _, _, rfl⟩
              · rw [upd_ne (Ne.symm pd)]
                exact n12 p _ (s711 _ _ hp7) (nw_strs _)
              · rw [upd_same, put_o]; rfl
              · show RepO _ (if t = s then v else ov t) (if t = s then oo else g.obj t)
                by_cases e : t = s
                · rw [if_pos e, if_pos e]; exact hoo.tk tkd
                · rw [if_neg e, if_neg e]; exact (((hov t).tk (Tk.of s711)).tk n12.tk).tk tkd
        · obtain ⟨g, ov, d7, hp7, hd7, hov, tu, s8, s12, rfl⟩ := e
          have hD7 : H7 D = some (.lst (sf'.map fun a => V.ref a.t)) := d7.b D _ (s5' _ _ hD4) (Ne.symm nW)
          refine ⟨_, rfl, .inl ⟨rfl, _, SqL.of hD7⟩, _, rfl, _, rfl, _, rfl, (by show 3 ≤ sizeLine; decide), fun tt ntt => ?_⟩
          have s8' : Same H7 (upd H7 tt (.tup [.str (fnS f.fn), .int (f.at_ : Int), .ref d])) := same_new ntt
          have ht8 : (upd H7 tt (.tup [.str (fnS f.fn), .int (f.at_ : Int), .ref d])) tt = some (.tup [.str (fnS f.fn), .int (f.at_ : Int), .ref d]) := upd_same
          generalize (upd H7 tt (.tup [.str (fnS f.fn), .int (f.at_ : Int), .ref d])) = H8 at s8' ht8
          have hD8 := s8' _ _ hD7
          have hp5 := Paired.mapP hp4 fun _ _ q => SFAt.same s5' q
          have n58 := (d7.nx d5.w).trans (Nx.of s8')
          have hgf : SFAt H8 ⟨tt, d, ov⟩ g := ⟨by rw [tu.fn, tu.at_]; exact ht8, s8' _ _ hd7, fun s => (hov s).tk (Tk.of s8')⟩
          refine ⟨D, _, _, rfl, rfl, hD8, ?_, sf' ++ [⟨tt, d, ov⟩], gs ++ [g], ((d5.trans d7).same s8').put nD nW, ?_, ?_, ?_, ?_, fun i f' g' h1 h2 => ?_, _, _, _, _, _, _, _, _, rfl⟩
          · rw [List.length_map, Paired.len hp, hgl]
            have := ok.few
            exact lt_line (by omega)
          · rw [upd_same, List.map_append]; rfl
          · exact Paired.snoc (Paired.mapP hp5 fun _ _ q => (q.nx n58).lup hD8) (hgf.lup hD8)
          · rw [List.map_append]
            exact nd_snoc hnd (Paired.none hp5 (fun a b q => ⟨_, q.d⟩) nd)
          · rw [List.length_append, hgl]; rfl
          · by_cases hi : i < gs.length
            · rw [List.getElem?_append_left hi] at h2
              exact htu i f' g' h1 h2
            · have hij : i = j := by
                have := (List.getElem?_eq_some_iff.mp h2).1
                rw [List.length_append, hgl] at this
                have : i < j + 1 := this
                omega
              subst hij
              rw [List.getElem?_append_right (by omega), hgl, Nat.sub_self] at h2
              cases h2
              rw [hf] at h1
              cases h1
              rw [hlast]
              exact tu
    · obtain ⟨sf', gs, d3, hD3, hp, hnd, hgl, htu, s5, s6, s7, s8, s9, s10, s11, s12, rfl⟩ := e
      refine ⟨_, rfl, k H' D sf' gs d3 ⟨hD3, hp, hnd⟩ ⟨by rw [hgl, List.length_map, hlen], htu⟩⟩
end
end K18
set_option Elab.async false
set_option linter.all false
set_option maxRecDepth 100000
set_option pp.deepTerms false
set_option pp.maxSteps 400
set_option maxHeartbeats 4000000
namespace K18
open PySem PySem.Spec PyProof.Rows L2
/-- a wanted number, as a value -/
def valV1 (f : Fr) : Vr → V
  | .n x => .int (f.num x)
  | .o _ => .non
theorem vals_dp {K : PySem.W.Frag} {H : Hp} (f : Fr) : ∀ l : List Vr, DpAll K H (l.map (valV1 f)) (l.map (valD f))
  | [] => .nil
  | .n x :: r => .cons (.int _) (vals_dp f r)
  | .o s :: r => .cons .non (vals_dp f r)
theorem needs_few (G : Prg) (last : Bool) (f : Fr) : (needs G last f).length ≤ 5 := by
  have h : ∀ rows n, (wlist rows n).length ≤ 5 := fun rows n => by
    unfold wlist
    exact Nat.le_trans (List.length_filter_le _ _) (by decide)
  unfold needs
  split
  · exact h _ _
  · unfold blist
    exact Nat.le_trans (List.length_filter_le _ _) (h _ _)
/-- a heap without a place -/
def wo (D : Addr) (H : Hp) : Hp := fun a => if a = D then none else H a
theorem wo_ne {D a : Addr} {H : Hp} (h : a ≠ D) : wo D H a = H a := if_neg h
theorem wo_same (D : Addr) (H : Hp) : Same (wo D H) H := fun a o e => by
  unfold wo at e
  split at e
  · cases e
  · exact e
theorem wo_mono {D : Addr} {H H' : Hp} (s : Same H H') : Same (wo D H) (wo D H') := fun a o e => by
  unfold wo at e ⊢
  split at e
  · cases e
  · next h => rw [if_neg h]; exact s _ _ e
theorem wo_upd (D : Addr) (H : Hp) (o : HO) : wo D (upd H D o) = wo D H := by
  funext a
  unfold wo
  by_cases h : a = D
  · rw [if_pos h, if_pos h]
  · rw [if_neg h, if_neg h, upd_ne h]
theorem wo_new {D : Addr} {H : Hp} (h : H D = none) : wo D H = H := by
  funext a
  unfold wo
  by_cases e : a = D
  · rw [if_pos e, e, h]
  · rw [if_neg e]
section
variable {P : Program} {w : World} {K : PySem.W.Frag} {mg : Str → Option Value} {base : Heap}
variable {H H' : Hp} {p src : Addr} {A : MA} {m : Mch} {G : Prg}
def spTold (K : PySem.W.Frag) : Sp := fun vs H Q _ => ∃ (p src : Addr) (A : MA) (m : Mch) (G : Prg) (j : Nat), vs = [.ref src, .ref p] ∧ MachAt K H p src A m ∧ SrcAt K H src G ∧ (∀ b, RowsGood (G b)) ∧ Good G j m ∧ m.stack.length ≤ 50 ∧
  ∀ H' l, Same H H' → Dp K H' (.ref l) (toldD G m) → Q (.ref l) H'
theorem sc_law_told : FnScope ["_law_prog", "_law_engine", "_law_found", "_law_depth", "_law_is_last", "_law_needs", "_law_title", "_law_at", "_law_values", "_law_one_here"] ["_law_prog", "_law_engine"] d_law_told.scope := ⟨rfl, rfl, rfl, by decide +kernel, rfl, by decide +kernel, by decide +kernel⟩
theorem k_law_told (T : Tx w K mg) : Ok P w K mg base 7 d_law_told ["_law_prog", "_law_engine"] (spTold K) := by
  refine Ok.of T.d_law_told sc_law_told (fun _ _ _ _ _ _ us hl => match us, hl with | [_, _], _ => rfl) (fun vs H Q E h => ?_) (fun cdv A outer s H vs Q E hr h => ?_)
  · obtain ⟨p, src, A, m, G, j, rfl, _⟩ := h
    rfl
  · obtain ⟨p, src, Am, m, G, kk, rfl, M, S, hG, Gd, hst, k⟩ := h
    refine ⟨_, (pss_cons (ps_set (i := 2) sc_law_told.nd rfl (.inl rfl) (pe_lst (pa_cons (pe_M0 (k_Machine_log T) (hr.mono (by decide)) T.c_Machine T.h_Machine_log rfl (pv 1)) (pa_cons (pe_M0 (k_Machine_ended T) (hr.mono (by decide)) T.c_Machine T.h_Machine_ended rfl (pv 1)) (pa_cons (pe_M0 (k_Machine_rows T) (hr.mono (by decide)) T.c_Machine T.h_Machine_rows rfl (pv 1)) pa_nil)))))
      (pss_cons (ps_for PassesOwn.never rfl (pi_enum (by rfl) T.b_enumerate (pa_cons (pe_M0 (k_Machine_frames T) (hr.mono (by decide)) T.c_Machine T.h_Machine_frames rfl (pv 1)) pa_nil)) (pg_tup rfl (pgs_cons (pg_name (i := 3) sc_law_told.nd rfl (.inl rfl)) (pgs_cons (pg_tup rfl (pgs_cons (pg_name (i := 6) sc_law_told.nd rfl (.inl rfl)) (pgs_cons (pg_name (i := 7) sc_law_told.nd rfl (.inl rfl)) (pgs_cons (pg_name (i := 8) sc_law_told.nd rfl (.inr rfl)) pgs_nil)))) pgs_nil))) (pss_cons (ps_set (i := 4) sc_law_told.nd rfl (.inl rfl) (pe_cmpR op_eq (pe_op op_add (pv 3) pe_int) (pe_callB call_len_seq (by rfl) T.b_len PySem.boot_len (pa_cons (pe_M0 (k_Machine_frames T) (hr.mono (by decide)) T.c_Machine T.h_Machine_frames rfl (pv 1)) pa_nil)) (nomark _)))
      (pss_cons (ps_set (i := 5) sc_law_told.nd rfl (.inl rfl) (pe_ifExp (pt_val (pv 4)) (pe_G (k_wanted T) (hr.mono (by decide)) T.g_wanted (pa_cons (pv 0) (pa_cons (pv 6) (pa_cons (pv 7) pa_nil)))) (pe_G (k_wanted_at_call T) (hr.mono (by decide)) T.g_wanted_at_call (pa_cons (pv 0) (pa_cons (pv 6) (pa_cons (pv 7) pa_nil))))))
      (pss_one (ps_expr (pe_bm PySem.F.plainAttrs_list PySem.F.slot_list_append PySem.F.type_list_append mt_append (pv 2) (pa_cons (pe_tup (pa_cons (pv 6) (pa_cons (pv 7) (pa_cons (pe_lc (own := [("_law_one_here", 9)]) (g := (gName 9)) (by rfl) sc_law_told.nd  (pi_list (pv 5)) (blkOk_by (own := [("_law_one_here", 9)]) (N := ["_law_prog", "_law_engine", "_law_found", "_law_depth", "_law_is_last", "_law_needs", "_law_title", "_law_at", "_law_values", "_law_one_here"]) (sc := d_law_told.scope) (by decide +kernel)) (fun _ _ _ _ _ => (pg_name (i := 9) sc_law_told.nd rfl (.inl rfl))) (fun _ _ _ _ _ => (pts_one (pt_cmpR op_in_str (pv 9) pe_str rfl))) (fun _ _ _ _ _ => (pe_dget (hu_of hr) (pv 8) (pv 9) (fun _ _ => rfl)))) pa_nil)))) pa_nil)))))))
      (pss_one (ps_ret (pv 2))))), ?_⟩
    refine ⟨_, rfl, p, _, _, rfl, M.ins, by kernel_rfl, p, src, Am, m, rfl, M, fun H1 lg ws s1 hlg hws => ?_⟩
    have M1 := M.same s1
    refine ⟨_, rfl, p, _, _, rfl, M1.ins, by kernel_rfl, p, src, Am, m, rfl, M1, ?_⟩
    refine ⟨_, rfl, p, _, _, rfl, M1.ins, by kernel_rfl, p, src, Am, m, rfl, M1, ?_⟩
    refine ⟨(by show 3 ≤ sizeLine; decide), fun D nD => ?_⟩
    have d0 : DpAll K H1 [V.ref lg, Am.rv, .int (m.cnt : Int)] [.list (m.log.map lgD), resD m.res, .int (m.cnt : Int)] := .cons (.lst (SqL.of hlg) (lgs_dp hws)) (.cons M1.res.dp (.cons (.int _) .nil))
    have M2 := M1.same (same_new (o := .lst [V.ref lg, Am.rv, .int (m.cnt : Int)]) nD)
    have hD2 : (upd H1 D (.lst [V.ref lg, Am.rv, .int (m.cnt : Int)])) D = some (.lst [V.ref lg, Am.rv, .int (m.cnt : Int)]) := upd_same
    have d2 : DpAll K (wo D (upd H1 D (.lst [V.ref lg, Am.rv, .int (m.cnt : Int)]))) [V.ref lg, Am.rv, .int (m.cnt : Int)] [.list (m.log.map lgD), resD m.res, .int (m.cnt : Int)] := by rw [wo_upd, wo_new nD]; exact d0
    have e2 : Same H (upd H1 D (.lst [V.ref lg, Am.rv, .int (m.cnt : Int)])) := s1.trans (same_new nD)
    have nD0 : H D = none := s1.free nD
    generalize (upd H1 D (.lst [V.ref lg, Am.rv, .int (m.cnt : Int)])) = H2 at M2 hD2 d2 e2
    refine ⟨_, rfl, p, _, _, rfl, M2.ins, by kernel_rfl, p, src, Am, m, rfl, M2, by omega, fun H3 lf sf s3 F3 => ?_⟩
    have hlen : sf.length = m.stack.length := by rw [Paired.len F3.f, List.length_reverse]
    have lfD : lf ≠ D := fun z => by
      have q := F3.l
      rw [z, s3 _ _ hD2] at q
      have q := congrArg (fun l => l[2]?) (HO.lst.inj (Option.some.inj q))
      have q : some (V.int (m.cnt : Int)) = (sf.map fun a => V.ref a.t)[2]? := q
      rw [List.getElem?_map] at q
      cases e : sf[2]? with
      | none => rw [e] at q; cases q
      | some a => rw [e] at q; cases q
    refine ⟨lf, _, rfl, SqL.of F3.l, ?_⟩
    refine for_it (walk_enum (xs := sf.map fun a => V.ref a.t)) (fun j σ H' => ∃ vs : List V, Same H H' ∧ FrsAt H' lf sf m.stack.reverse ∧ H' D = some (.lst vs) ∧ vs.length = 3 + j ∧ DpAll K (wo D H') vs ([.list (m.log.map lgD), resD m.res, .int (m.cnt : Int)] ++ (stD G m.stack).take j) ∧
      ∃ s3 s4 s5 s6 s7 s8 s9, σ = [some (.ref src), some (.ref p), some (.ref D), s3, s4, s5, s6, s7, s8, s9]) ?_ (fun j σ H' _ e => ?_) (fun j x σ H4 H' hj e y => ?_) (fun σ H' e => ?_)
    · exact ⟨_, e2.trans s3, F3, s3 _ _ hD2, rfl, by rw [List.take_zero, List.append_nil]; exact Dp.sameAll (wo_mono s3) _ _ d2, _, _, _, _, _, _, _, rfl⟩
    · obtain ⟨vs, _, F, _⟩ := e
      exact SqL.of F.l
    · obtain ⟨vs, e4, F4, hD4, hvl, d4, s3, s4, s5, s6, s7, s8, s9, rfl⟩ := e
      obtain ⟨t, x1, x2, rfl, nt, rfl, y1, y2⟩ := y
      rw [List.length_map] at hj
      have y1 : some (V.int (j : Nat)) = some x1 := y1
      cases y1
      obtain ⟨a, ha⟩ : ∃ a, sf[j]? = some a := ⟨_, List.getElem?_eq_getElem hj⟩
      have y2 : (sf.map fun a => V.ref a.t)[j]? = some x2 := y2
      rw [List.getElem?_map, ha] at y2
      cases y2
      obtain ⟨f, hf, Fa⟩ := Paired.getL F4.f ha
      have sn : Same H4 (upd H4 t (.tup [.int (j : Nat), .ref a.t])) := same_new nt
      have ht2 : (upd H4 t (.tup [.int (j : Nat), .ref a.t])) t = some (.tup [.int (j : Nat), .ref a.t]) := upd_same
      generalize (upd H4 t (.tup [.int (j : Nat), .ref a.t])) = H5 at sn ht2
      have Fa5 := Fa.same sn
      have M5 := M.same (e4.trans sn)
      refine ⟨t, _, rfl, SqT.of ht2, rfl, _, _, rfl, _, _, rfl, a.t, _, rfl, SqT.of Fa5.t, rfl, _, _, rfl, _, _, rfl, _, _, rfl, rfl, rfl, ?_⟩
      refine ⟨_, rfl, _, _, rfl, rfl, _, rfl, p, _, _, rfl, M5.ins, by kernel_rfl, p, src, Am, m, rfl, M5, by omega, fun H6 lf2 sf2 s6' F6 => ?_⟩
      have hlen2 : sf2.length = m.stack.length := by rw [Paired.len F6.f, List.length_reverse]
      refine ⟨lf2, _, rfl, .inl (SqL.of F6.l), rfl, _, rfl, _, rfl, ?_⟩
      have hjs : j < m.stack.length := by omega
      have hfm : f ∈ m.stack := by
        have := List.mem_of_getElem? hf
        rwa [List.mem_reverse] at this
      have fok := Gd.fr f hfm
      obtain ⟨last, hlast⟩ : ∃ last, decide (j + 1 = m.stack.length) = last := ⟨_, rfl⟩
      have ecmp : decide (V.int ((j : Int) + 1) = V.int (((sf2.map fun a => V.ref a.t).length : Nat) : Int)) = last := by
        rw [← hlast, List.length_map, hlen2]
        by_cases e : j + 1 = m.stack.length
        · rw [decide_eq_true e, decide_eq_true (by rw [← e]; rfl)]
        · rw [decide_eq_false e, decide_eq_false fun z => e ?_]
          have z := V.int.inj z
          omega
      have S6 := S.le (Le.of (e4.trans (sn.trans s6')))
      cases last with
      | true =>
        refine ifB ecmp ?_
        refine ⟨_, rfl, _, rfl, _, rfl, src, G, f.fn, f.at_, rfl, S6, wok hG, fok.at_, fun H7 nl s7' hnl => ?_⟩
        have hnl : H7 nl = some (.lst ((needs G true f).map fun v => V.str v.s)) := hnl
        have Fa7 := Fa5.same (s6'.trans s7')
        have s57 := s6'.trans s7'
        have hD7 := (sn.trans s57) _ _ hD4
        have e7 := e4.trans (sn.trans s57)
        refine ⟨_, rfl, .inl ⟨rfl, _, SqL.of hD7⟩, _, rfl, _, rfl, _, rfl, nl, rfl, ⟨_, SqL.of hnl⟩, fun E nE => ?_⟩
        have nlE : nl ≠ E := ne_of_none hnl nE
        have aE : a.d ≠ E := ne_of_none Fa7.d nE
        refine lc_it (walk_list (xs := (needs G true f).map fun v => V.str v.s)) (fun i H' => H' = upd H7 E (.lst (((((needs G true f).take i).filter isN)).map (valV1 f)))) rfl (fun i H' _ e => SqL.of (by rw [e, upd_ne nlE]; exact hnl)) (fun i x H8 H9 hi e y => ?_) (fun H8 e => ?_)
        · obtain ⟨rfl, y⟩ := y
          subst e
          rw [List.length_map] at hi
          obtain ⟨v, hv⟩ : ∃ v, (needs G true f)[i]? = some v := ⟨_, List.getElem?_eq_getElem hi⟩
          rw [List.getElem?_map, hv] at y
          cases y
          refine ⟨rfl, _, rfl, v.s, "abc", rfl, rfl, _, rfl, ?_⟩
          have hEi : (upd H7 E (.lst (((((needs G true f).take i).filter isN)).map (valV1 f)))) E = some (.lst (((((needs G true f).take i).filter isN)).map (valV1 f))) := upd_same
          have hai : (upd H7 E (.lst (((((needs G true f).take i).filter isN)).map (valV1 f)))) a.d = some (.dK (varKvs f.num a.ov)) := by rw [upd_ne aE]; exact Fa7.d
          cases v with
          | n x =>
            refine ifB (abc_in (.n x)) ?_
            refine ⟨_, rfl, _, rfl, a.d, _, rfl, .inl ⟨_, Sum.inr x.s, .inl hai, rfl, (var_n _ _ _).symm⟩, _, hEi, ?_, ?_⟩
            · rw [List.length_map]
              have h1 := List.length_filter_le isN ((needs G true f).take i)
              rw [List.length_take] at h1
              have h2 := needs_few G true f
              exact lt_line (by omega)
            · rw [upd_upd, filt_snoc hv, if_pos (show isN (.n x) = true from rfl), List.map_append]; rfl
          | o s =>
            refine ifBf (abc_in (.o s)) ?_
            rw [filt_snoc hv, if_neg (show ¬ isN (.o s) = true by intro z; cases z)]
        have s8' : Same H7 H8 := by rw [e]; exact same_new nE
        have hE8 : H8 E = some (.lst (((needs G true f).filter isN).map (valV1 f))) := by rw [e, upd_same, List.length_map, List.take_length]
        clear e
        refine ⟨(by show 3 ≤ sizeLine; decide), fun tt ntt => ?_⟩
        have s9' : Same H8 (upd H8 tt (.tup [.str (fnS f.fn), .int (f.at_ : Int), .ref E])) := same_new ntt
        have ht9 : (upd H8 tt (.tup [.str (fnS f.fn), .int (f.at_ : Int), .ref E])) tt = some (.tup [.str (fnS f.fn), .int (f.at_ : Int), .ref E]) := upd_same
        have hD8 := s8' _ _ hD7
        have nDtt : D ≠ tt := ne_of_none hD8 ntt
        have nDE : D ≠ E := ne_of_none hD7 nE
        generalize (upd H8 tt (.tup [.str (fnS f.fn), .int (f.at_ : Int), .ref E])) = H9 at s9' ht9
        have hD9 := s9' _ _ hD8
        have s79 := s8'.trans s9'
        have e9 := e7.trans s79
        have dnew : DpAll K (wo D H9) [.ref tt] [frD G true f] := .cons (.tup (SqT.of (by rw [wo_ne (Ne.symm nDtt)]; exact ht9)) (.cons (.str _) (.cons (.int _) (.cons (.lst (SqL.of (by rw [wo_ne (Ne.symm nDE)]; exact s9' _ _ hE8)) (vals_dp f _)) .nil)))) .nil
        have hlv : vs.length < sizeLine := by rw [hvl]; exact lt_line (by omega)
        refine ⟨D, _, _, rfl, rfl, hD9, hlv, _, ?_, ?_, upd_same, ?_, ?_, _, _, _, _, _, _, _, rfl⟩
        · exact e9.put nD0
        · have F9 := F4.same (sn.trans (s57.trans s79))
          exact ⟨by rw [upd_ne lfD]; exact F9.l, Paired.mapP F9.f fun _ _ q => q.lup hD9, F9.nd⟩
        · rw [List.length_append, hvl]; rfl
        · rw [wo_upd, take_snoc (stD_at hf), hlast, ← List.append_assoc]
          exact DpAll.app (Dp.sameAll (wo_mono (sn.trans (s57.trans s79))) _ _ d4) dnew
      | false =>
        refine ifBf ecmp ?_
        have hj2 : j + 1 ≠ m.stack.length := of_decide_eq_false hlast
        have ok := frsok hG Gd (fun z => by rw [z] at hjs; exact absurd hjs (Nat.not_lt_zero _)) hst
        have hj3 : j + 1 < m.stack.reverse.length := by rw [List.length_reverse]; omega
        obtain ⟨⟨cx, cy, cs, ec⟩, _⟩ := ok.ca j f _ hf (List.getElem?_eq_getElem hj3)
        have ecv : callVar G f = cx := by unfold callVar; rw [ec]
        refine ⟨_, rfl, _, rfl, _, rfl, src, G, f.fn, f.at_, cx, cy, cs, rfl, S6, wok hG, ec, (prgok hG).next ec (by simp) (by simp), fun H7 nl s7' hnl => ?_⟩
        have hnl : H7 nl = some (.lst ((needs G false f).map fun v => V.str v.s)) := by rw [← ecv] at hnl; exact hnl
        have Fa7 := Fa5.same (s6'.trans s7')
        have s57 := s6'.trans s7'
        have hD7 := (sn.trans s57) _ _ hD4
        have e7 := e4.trans (sn.trans s57)
        refine ⟨_, rfl, .inl ⟨rfl, _, SqL.of hD7⟩, _, rfl, _, rfl, _, rfl, nl, rfl, ⟨_, SqL.of hnl⟩, fun E nE => ?_⟩
        have nlE : nl ≠ E := ne_of_none hnl nE
        have aE : a.d ≠ E := ne_of_none Fa7.d nE
        refine lc_it (walk_list (xs := (needs G false f).map fun v => V.str v.s)) (fun i H' => H' = upd H7 E (.lst (((((needs G false f).take i).filter isN)).map (valV1 f)))) rfl (fun i H' _ e => SqL.of (by rw [e, upd_ne nlE]; exact hnl)) (fun i x H8 H9 hi e y => ?_) (fun H8 e => ?_)
        · obtain ⟨rfl, y⟩ := y
          subst e
          rw [List.length_map] at hi
          obtain ⟨v, hv⟩ : ∃ v, (needs G false f)[i]? = some v := ⟨_, List.getElem?_eq_getElem hi⟩
          rw [List.getElem?_map, hv] at y
          cases y
          refine ⟨rfl, _, rfl, v.s, "abc", rfl, rfl, _, rfl, ?_⟩
          have hEi : (upd H7 E (.lst (((((needs G false f).take i).filter isN)).map (valV1 f)))) E = some (.lst (((((needs G false f).take i).filter isN)).map (valV1 f))) := upd_same
          have hai : (upd H7 E (.lst (((((needs G false f).take i).filter isN)).map (valV1 f)))) a.d = some (.dK (varKvs f.num a.ov)) := by rw [upd_ne aE]; exact Fa7.d
          cases v with
          | n x =>
            refine ifB (abc_in (.n x)) ?_
            refine ⟨_, rfl, _, rfl, a.d, _, rfl, .inl ⟨_, Sum.inr x.s, .inl hai, rfl, (var_n _ _ _).symm⟩, _, hEi, ?_, ?_⟩
            · rw [List.length_map]
              have h1 := List.length_filter_le isN ((needs G false f).take i)
              rw [List.length_take] at h1
              have h2 := needs_few G false f
              exact lt_line (by omega)
            · rw [upd_upd, filt_snoc hv, if_pos (show isN (.n x) = true from rfl), List.map_append]; rfl
          | o s =>
            refine ifBf (abc_in (.o s)) ?_
            rw [filt_snoc hv, if_neg (show ¬ isN (.o s) = true by intro z; cases z)]
        have s8' : Same H7 H8 := by rw [e]; exact same_new nE
        have hE8 : H8 E = some (.lst (((needs G false f).filter isN).map (valV1 f))) := by rw [e, upd_same, List.length_map, List.take_length]
        clear e
        refine ⟨(by show 3 ≤ sizeLine; decide), fun tt ntt => ?_⟩
        have s9' : Same H8 (upd H8 tt (.tup [.str (fnS f.fn), .int (f.at_ : Int), .ref E])) := same_new ntt
        have ht9 : (upd H8 tt (.tup [.str (fnS f.fn), .int (f.at_ : Int), .ref E])) tt = some (.tup [.str (fnS f.fn), .int (f.at_ : Int), .ref E]) := upd_same
        have hD8 := s8' _ _ hD7
        have nDtt : D ≠ tt := ne_of_none hD8 ntt
        have nDE : D ≠ E := ne_of_none hD7 nE
        generalize (upd H8 tt (.tup [.str (fnS f.fn), .int (f.at_ : Int), .ref E])) = H9 at s9' ht9
        have hD9 := s9' _ _ hD8
        have s79 := s8'.trans s9'
        have e9 := e7.trans s79
        have dnew : DpAll K (wo D H9) [.ref tt] [frD G false f] := .cons (.tup (SqT.of (by rw [wo_ne (Ne.symm nDtt)]; exact ht9)) (.cons (.str _) (.cons (.int _) (.cons (.lst (SqL.of (by rw [wo_ne (Ne.symm nDE)]; exact s9' _ _ hE8)) (vals_dp f _)) .nil)))) .nil
        have hlv : vs.length < sizeLine := by rw [hvl]; exact lt_line (by omega)
        refine ⟨D, _, _, rfl, rfl, hD9, hlv, _, ?_, ?_, upd_same, ?_, ?_, _, _, _, _, _, _, _, rfl⟩
        · exact e9.put nD0
        · have F9 := F4.same (sn.trans (s57.trans s79))
          exact ⟨by rw [upd_ne lfD]; exact F9.l, Paired.mapP F9.f fun _ _ q => q.lup hD9, F9.nd⟩
        · rw [List.length_append, hvl]; rfl
        · rw [wo_upd, take_snoc (stD_at hf), hlast, ← List.append_assoc]
          exact DpAll.app (Dp.sameAll (wo_mono (sn.trans (s57.trans s79))) _ _ d4) dnew
    · obtain ⟨vs, e4, F4, hD4, hvl, d4, s3, s4, s5, s6, s7, s8, s9, rfl⟩ := e
      rw [List.length_map, hlen, ← stD_len G, List.take_length] at d4
      exact ⟨_, rfl, k H' D e4 (.lst (SqL.of hD4) (Dp.sameAll (wo_same D H') _ _ d4))⟩
end
end K18
set_option Elab.async false
set_option linter.all false
set_option maxRecDepth 100000
set_option pp.deepTerms false
set_option pp.maxSteps 600
set_option maxHeartbeats 4000000
namespace K18
open PySem PySem.Spec PyProof.Rows L2
section
variable {K : PySem.W.Frag} {B H H' : Hp} {p q src W : Addr} {A A' A2 : MA} {m m' m2 : Mch} {G : Prg}
theorem nx_wo (h : WellAt H W) : Nx H (wo W H) := fun a o e n => by
  rw [wo_ne fun z => ?_]
  · exact e
  · subst z
    obtain ⟨i, j, k, q⟩ := h
    rw [q] at e
    cases e
    exact n _ _ _ rfl
theorem wo_at (W : Addr) (H : Hp) : wo W H W = none := if_pos rfl
theorem wo_none {D a : Addr} (h : H a = none) : wo D H a = none := by
  unfold wo
  split
  · rfl
  · exact h
/-- B does not know W: draws leave it -/
theorem Dr.base (d : Dr W H H') (e : Same B H) (b : B W = none) : Same B H' := fun a o q => d.b a o (e a o q) fun z => by
  rw [z, b] at q
  cases q
theorem On.dr (o : On K B H p src A m G) (h : WellAt H W) (n : W ∉ A.fp p) (b : B W = none) (d : Dr W H H') : On K B H' p src A m G := ⟨o.m.dr h n d, o.s, d.base o.e b, o.d⟩
theorem On.go (o : On K B H p src A m G) (e : Same H H') : On K B H' p src A m G := ⟨o.m.same e, o.s, o.e.trans e, o.d⟩
theorem WellAt.mv {S S' : List Addr} (h : WellAt H W) (v : Mv H H' S S') (n : W ∉ S) : WellAt H' W ∧ W ∉ S' := by
  obtain ⟨i, j, k, q⟩ := h
  refine ⟨⟨i, j, k, v.keep _ _ q n⟩, fun z => ?_⟩
  rcases v.new W z with z | z
  · exact n z
  · rw [q] at z; cases z
def Apart (S S' : List Addr) : Prop := ∀ x ∈ S, x ∉ S'
theorem On.apart (o : On K B H q src A2 m2 G) (M : MachAt K H p src A m) (v : Mv H H' (A.fp p) (A'.fp p)) (s : Apart (A.fp p) (A2.fp q)) (eB : Same B H') : On K B H' q src A2 m2 G ∧ Apart (A'.fp p) (A2.fp q) := by
  refine ⟨⟨o.m.frame v.tk fun x hx => ?_, o.s, eB, o.d⟩, fun x hx z => ?_⟩
  · cases e : H x with
    | none => exact absurd e (o.m.ne0 hx)
    | some u => exact v.keep x u e fun z => s x z hx
  · rcases v.new x hx with y | y
    · exact s x y z
    · exact o.m.ne0 z y
theorem Apart.symm {S S' : List Addr} (h : Apart S S') : Apart S' S := fun x hx z => h x z hx
theorem fn_mem {v : V} (h : v ∈ [V.str "f", .str "g"]) : ∃ b : Bool, v = .str (fnS b) := by
  simp only [List.mem_cons, List.not_mem_nil, or_false] at h
  rcases h with rfl | rfl
  · exact ⟨true, rfl⟩
  · exact ⟨false, rfl⟩
end
theorem steps_add (P : Prg) : ∀ (b a : Nat) (m : Mch), steps P a (steps P b m) = steps P (b + a) m
  | 0, a, m => by rw [Nat.zero_add]; rfl
  | b + 1, a, m => by
    rw [show b + 1 + a = (b + a) + 1 by omega]
    exact steps_add P b a (step P m)
theorem Waits.len {P : Prg} : ∀ {r s : List Fr}, Waits P r s → r.length = s.length
  | _, _, .nil => rfl
  | _, _, .cons _ t => congrArg Nat.succ t.len
theorem Sim.len {P : Prg} {m n : Mch} (a : Sim P m n) : m.stack.length = n.stack.length := by
  rcases a.st with ⟨h1, h2⟩ | ⟨f, r, g, s, h1, h2, t, w⟩
  · rw [h1, h2]
  · rw [h1, h2]; exact congrArg Nat.succ w.len
section
variable {P : Program} {w : World} {K : PySem.W.Frag} {mg : Str → Option Value} {base : Heap}
variable {H H' : Hp} {p src : Addr} {A : MA} {m : Mch} {G : Prg}
def spRight : Sp := fun vs H Q _ => ∃ W : Addr, vs = [.ref W] ∧ WellAt H W ∧ ∀ H', Dr W H H' → Q (.bl true) H'
theorem sc_law_right : FnScope ["_law_well_here", "_law_prog", "_law_engine", "_law_one_here", "_law_other", "_law_turn", "_law_some", "_law_objects"] ["_law_well_here"] d_law_right.scope := ⟨rfl, rfl, rfl, by decide +kernel, rfl, by decide +kernel, by decide +kernel⟩
theorem k_law_right (T : Tx w K mg) : Ok P w K mg base 8 d_law_right ["_law_well_here"] spRight := by
  refine Ok.of T.d_law_right sc_law_right (fun _ _ _ _ _ _ us hl => match us, hl with | [_], _ => rfl) (fun vs H Q E h => ?_) (fun cdv A outer s H vs Q E hr h => ?_)
  · obtain ⟨W, rfl, _⟩ := h
    rfl
  · obtain ⟨W, rfl, hW, k⟩ := h
    refine ⟨_, (pss_cons (ps_set (i := 1) sc_law_right.nd rfl (.inl rfl) (pe_K T.m_Source (k_Source_init T) rfl (hr.mono (by decide)) T.g_Source (pa_cons (pe_G0 (k_law_classes T) (hr.mono (by decide)) T.g_law_classes) (pa_cons (pe_lst (pa_cons (pe_G (k_law_function T) (hr.mono (by decide)) T.g_law_function (pa_cons (pv 0) (pa_cons pe_str (pa_cons pe_int pa_nil)))) (pa_cons (pe_G (k_law_function T) (hr.mono (by decide)) T.g_law_function (pa_cons (pv 0) (pa_cons pe_str (pa_cons pe_int pa_nil)))) pa_nil))) pa_nil))))
      (pss_cons (ps_set (i := 2) sc_law_right.nd rfl (.inl rfl) (pe_K T.m_Machine (k_Machine_init T) rfl (hr.mono (by decide)) T.g_Machine (pa_cons (pv 1) (pa_cons (pe_G (k_law_one T) (hr.mono (by decide)) T.g_law_one (pa_cons (pv 0) (pa_cons (pe_lst (pa_cons pe_str (pa_cons pe_str pa_nil))) pa_nil))) (pa_cons (pe_lst (pa_cons (pe_G (k_law_draw T) (hr.mono (by decide)) T.g_law_draw (pa_cons (pv 0) (pa_cons pe_int pa_nil))) (pa_cons pe_non pa_nil))) pa_nil)))))
      (pss_cons (ps_expr (pe_M (k_Machine_steps T) (hr.mono (by decide)) T.c_Machine T.h_Machine_steps rfl (pv 2) (pa_cons (pe_G (k_law_draw T) (hr.mono (by decide)) T.g_law_draw (pa_cons (pv 0) (pa_cons pe_int pa_nil))) pa_nil)))
      (pss_cons (ps_if (pt_cmp (pc_notN (pe_M0 (k_Machine_ended T) (hr.mono (by decide)) T.c_Machine T.h_Machine_ended rfl (pv 2)))) (pss_one (ps_ret pe_bl)) pss_nil)
      (pss_cons (ps_par (i := 6) (j := 7) rfl sc_law_right.nd rfl rfl (by decide) rfl rfl ((pa_cons (pe_M0 (k_Machine_frames T) (hr.mono (by decide)) T.c_Machine T.h_Machine_frames rfl (pv 2)) (pa_cons (pe_M0 (k_Machine_heap T) (hr.mono (by decide)) T.c_Machine T.h_Machine_heap rfl (pv 2)) pa_nil))) (by rfl))
      (pss_cons (ps_set (i := 3) sc_law_right.nd rfl (.inl rfl) (pe_G (k_going_on T) (hr.mono (by decide)) T.g_going_on (pa_cons (pe_K T.m_State (k_State_init T) rfl (hr.mono (by decide)) T.g_State (pa_cons (pv 1) (pa_cons (pv 6) (pa_cons (pv 7) pa_nil)))) pa_nil)))
      (pss_cons (ps_set (i := 4) sc_law_right.nd rfl (.inl rfl) (pe_G (k_going_on T) (hr.mono (by decide)) T.g_going_on (pa_cons (pe_K T.m_State (k_State_init T) rfl (hr.mono (by decide)) T.g_State (pa_cons (pv 1) (pa_cons (pe_G (k_law_turned T) (hr.mono (by decide)) T.g_law_turned (pa_cons (pv 0) (pa_cons (pv 1) (pa_cons (pv 6) (pa_cons (pv 7) pa_nil))))) (pa_cons (pv 7) pa_nil)))) pa_nil)))
      (pss_cons (ps_for PassesOwn.never rfl (pi_range1 (by rfl) T.b_range (pa_cons pe_int pa_nil)) (pg_name (i := 5) sc_law_right.nd rfl (.inl rfl)) (pss_cons (ps_if (pt_cmpR op_gt (pe_callB call_len_seq (by rfl) T.b_len PySem.boot_len (pa_cons (pe_M0 (k_Machine_frames T) (hr.mono (by decide)) T.c_Machine T.h_Machine_frames rfl (pv 3)) pa_nil)) pe_int (nomark _)) (pss_one (ps_ret pe_bl)) pss_nil)
      (pss_cons (ps_expr (pe_M (k_Machine_steps T) (hr.mono (by decide)) T.c_Machine T.h_Machine_steps rfl (pv 3) (pa_cons pe_int pa_nil)))
      (pss_cons (ps_expr (pe_M (k_Machine_steps T) (hr.mono (by decide)) T.c_Machine T.h_Machine_steps rfl (pv 4) (pa_cons pe_int pa_nil)))
      (pss_one (ps_if (pt_cmpR (op_neD hr.units) (pe_G (k_law_told T) (hr.mono (by decide)) T.g_law_told (pa_cons (pv 1) (pa_cons (pv 3) pa_nil))) (pe_G (k_law_told T) (hr.mono (by decide)) T.g_law_told (pa_cons (pv 1) (pa_cons (pv 4) pa_nil))) (nomark _)) (pss_one (ps_ret pe_bl)) pss_nil))))))
      (pss_one (ps_ret pe_bl)))))))))), ?_⟩
    -- the source
    refine ⟨rfl, fun H1 cl tc ca s1 hcl htc hca => ?_⟩
    have d1 := Dr.of hW s1
    refine ⟨_, rfl, W, true, rfl, d1.w, fun H2 tf rf d2 hf gf => ?_⟩
    refine ⟨_, rfl, W, false, rfl, d2.w, fun H3 tg rg d3 hg gg => ?_⟩
    have hG : ∀ b, RowsGood (prg rf rg b) := fun b => by
      cases b
      · exact gg
      · exact gf
    have n13 := (d2.nx d1.w).trans (d3.nx d2.w)
    have d03 := (d1.trans d2).trans d3
    refine ⟨(by show 2 ≤ sizeLine; decide), fun fl nfl => ?_⟩
    have s4 : Same H3 (upd H3 fl (.lst [.ref tf, .ref tg])) := same_new nfl
    have hfl : (upd H3 fl (.lst [.ref tf, .ref tg])) fl = some (.lst [.ref tf, .ref tg]) := upd_same
    generalize (upd H3 fl (.lst [.ref tf, .ref tg])) = H4 at s4 hfl
    have n14 := n13.trans (Nx.of s4)
    have n24 := (d3.nx d2.w).trans (Nx.of s4)
    have d04 := d03.same s4
    refine fun src dx nsrc ndx hne => ⟨H4, src, dx, cl, tc, ca, fl, tf, tg, prg rf rg, rfl, upd_same, ((Same.refl H4).put ndx).put nsrc, nsrc, n14 _ _ hcl nw_one, n14.tup htc, hca.nx n14, hfl, hf.nx n24, hg.nx (Nx.of s4), gok hG, fun H5 S5 s5 => ?_⟩
    have d05 := d04.same s5
    have sl2 : 2 ≤ sizeLine := by show 2 ≤ sizeLine; decide
    -- the engine
    obtain ⟨G, hGe⟩ : ∃ G, prg rf rg = G := ⟨_, rfl⟩
    rw [hGe] at hG S5
    refine ⟨rfl, _, rfl, _, rfl, sl2, fun l1 nl1 => ?_⟩
    have W1 := d05.w.ne nl1
    have s6 : Same H5 (upd H5 l1 (.lst [.str "f", .str "g"])) := same_new nl1
    have hl1 : (upd H5 l1 (.lst [.str "f", .str "g"])) l1 = some (.lst [.str "f", .str "g"]) := upd_same
    generalize (upd H5 l1 (.lst [.str "f", .str "g"])) = H6 at s6 hl1
    have d06 := d05.same s6
    refine ⟨W, l1, _, rfl, d06.w, hl1, W1, by decide, by decide, fun H7 v d7 hv => ?_⟩
    obtain ⟨b, rfl⟩ := fn_mem hv
    refine ⟨_, rfl, W, 5, rfl, d7.w, by decide, by decide, fun a1 b1 c1 r r0 r1 => ?_⟩
    have d8 : Dr W H7 (upd H7 W (.lst [.int a1, .int b1, .int c1])) := Dr.upd a1 b1 c1
    generalize (upd H7 W (.lst [.int a1, .int b1, .int c1])) = H8 at d8
    refine ⟨sl2, fun l2 nl2 => ?_⟩
    have s9 : Same H8 (upd H8 l2 (.lst [.int r, .non])) := same_new nl2
    have hl2 : (upd H8 l2 (.lst [.int r, .non])) l2 = some (.lst [.int r, .non]) := upd_same
    generalize (upd H8 l2 (.lst [.int r, .non])) = H9 at s9 hl2
    have d09 := ((d06.trans d7).trans d8).same s9
    have S9 : SrcAt K H9 src G := S5.nx ((Nx.of s6).trans ((d7.nx d06.w).trans ((d8.nx d7.w).trans (Nx.of s9))))
    have W9 := d09.w
    have SB : SrcAt K (wo W H9) src G := S9.nx (nx_wo W9)
    have hB : wo W H9 W = none := wo_at W H9
    have fin : ∀ H', Same (wo W H9) H' → WellAt H' W → Dr W H H' := fun H' e w => ⟨fun a o q n => e a o (by rw [wo_ne n]; exact d09.b a o q n), w⟩
    refine fun p dp np ndp hnp => ⟨H9, p, dp, src, l2, G, b, r, rfl, upd_same, ((Same.refl H9).put ndp).put np, np, S9, hl2, fun H10 A0 M10 s10 f10 => ?_⟩
    have fB : ∀ {HX : Hp} {q : Addr} {AX : MA}, Same (wo W H9) HX → (∀ z ∈ AX.fp q, HX z = none) → ∀ z ∈ AX.fp q, wo W H9 z = none := fun e f z hz => e.free (f z hz)
    have nWf : ∀ {HX : Hp} {q : Addr} {AX : MA}, WellAt HX W → (∀ z ∈ AX.fp q, HX z = none) → W ∉ AX.fp q := fun w f z => by
      obtain ⟨i, j, k, e⟩ := w
      rw [f W z] at e
      cases e
    have O10 : On K (wo W H9) H10 p src A0 (mch0 b r) G := ⟨M10, SB, (wo_same W H9).trans s10, fun z hz => wo_none (f10 z hz)⟩
    have nW10 : W ∉ A0.fp p := nWf W9 f10
    have W10 := W9.same s10
    refine ⟨rfl, _, rfl, p, _, _, rfl, M10.ins, by kernel_rfl, _, rfl, W, 25, rfl, W10, by decide, by decide, fun a2 b2 c2 r2 r20 r21 => ?_⟩
    have d11 : Dr W H10 (upd H10 W (.lst [.int a2, .int b2, .int c2])) := Dr.upd a2 b2 c2
    generalize (upd H10 W (.lst [.int a2, .int b2, .int c2])) = H11 at d11
    have O11 := O10.dr W10 nW10 hB d11
    obtain ⟨n, rfl⟩ : ∃ n : Nat, r2 = n := ⟨r2.toNat, by omega⟩
    have Gd0 := good0 hG b r0 r1
    refine ⟨wo W H9, p, src, A0, mch0 b r, G, 0, n, rfl, O11, prgok hG, Gd0, by omega, by omega, (by show 1 + n ≤ 50; omega), (by show 0 + n < 1000; omega), (by show 0 + n < 1000; omega), fun H12 A1 v12 M12 m12 => ?_⟩
    have O12 := O11.mv M12 m12
    obtain ⟨W12, nW12⟩ := d11.w.mv m12 nW10
    have Gd1 := Good.steps (prgok hG) n Gd0
    obtain ⟨z1, z2, z3⟩ := steps_sizes G n (mch0 b r)
    have z1 : (steps G n (mch0 b r)).stack.length ≤ 1 + n := z1
    have z2 : (steps G n (mch0 b r)).obs.length ≤ 0 + n := z2
    generalize hm1 : steps G n (mch0 b r) = m1 at M12 O12 Gd1 z1 z2
    refine ⟨_, rfl, p, _, _, rfl, M12.ins, by kernel_rfl, p, src, A1, m1, rfl, M12, ?_⟩
    have hrs := M12.res
    cases hres : m1.res with
    | some i =>
      rw [hres] at hrs
      obtain ⟨t, hrv, _⟩ := hrs
      rw [hrv]
      exact ⟨_, rfl, ifB rfl (k _ (fin H12 O12.e W12))⟩
    | none =>
      rw [hres] at hrs
      have hrv : A1.rv = .non := hrs
      rw [hrv]
      have hne1 : m1.stack ≠ [] := Gd1.res.mp hres
      refine ⟨_, rfl, ifBf rfl ⟨_, rfl, p, _, _, rfl, M12.ins, by kernel_rfl, p, src, A1, m1, rfl, M12, by omega, fun H13 lf sf s13 F13 => ?_⟩⟩
      have M13 := M12.same s13
      refine ⟨_, rfl, p, _, _, rfl, M13.ins, by kernel_rfl, p, src, A1, m1, rfl, M13, by omega, fun H14 hd os s14 P14 => ⟨_, _, rfl, ?_⟩⟩
      have F14 := F13.same s14
      have e14 := O12.e.trans (s13.trans s14)
      have W14 := (W12.same s13).same s14
      have S14 := SB.le (Le.of e14)
      have ok := frsok hG Gd1 hne1 (by omega)
      have rfs := refs_ok Gd1
      have fok : ∀ f ∈ m1.stack.reverse, FrOk G (0 + n) m1.obs.length f := fun f hf => Gd1.fr f (List.mem_reverse.mp hf)
      have lfs : m1.stack.reverse.length ≤ 1 + n := by rw [List.length_reverse]; exact z1
      generalize hfs : m1.stack.reverse = fs at F14 ok rfs fok lfs
      generalize hobs : m1.obs = obs at P14 rfs fok
      have hob : obs.length ≤ 25 := by rw [← hobs]; omega
      have obk : ∀ o ∈ obs, Bd (0 + n) o.item ∧ ∀ j, o.next = some j → j < obs.length := by rw [← hobs]; exact Gd1.ob
      -- the first to go on
      refine ⟨_, rfl, _, rfl, _, rfl, fun y dy ny ndy hny => ⟨H14, y, dy, src, lf, hd, G, sf, fs, os, obs, rfl, upd_same, ((Same.refl H14).put ndy).put ny, ny, S14, F14, P14, ok, rfs, by omega, fun H15 St15 s15 => ⟨rfl, ?_⟩⟩⟩
      have S15 := S14.le (Le.of s15)
      have hne := ok.ne
      refine ⟨y, src, G, fs, obs, rfl, St15, S15, hne, by omega, by omega, fun H16 p1 A2 M16 s16 f16 => ?_⟩
      have e15 := e14.trans s15
      have e16 := e15.trans s16
      have W15 := W14.same s15
      have W16 := W15.same s16
      have O1 : On K (wo W H9) H16 p1 src A2 (mchOf fs obs) G := ⟨M16, SB, e16, fB e15 f16⟩
      have nW1 : W ∉ A2.fp p1 := nWf W15 f16
      -- the other
      have F16 := F14.same (s15.trans s16)
      have P16 : HpAt H16 hd os obs := P14.nx (Nx.of (s15.trans s16))
      refine ⟨_, rfl, _, rfl, _, rfl, _, rfl, _, rfl, W, src, lf, hd, G, sf, fs, os, obs, rfl, W16, S15.le (Le.of s16), hG, F16, P16, ok, by omega, fun H17 l' sf' gs d17 F17 tu => ?_⟩
      have O1' := O1.dr W16 nW1 hB d17
      have e17 := O1'.e
      have S17 := SB.le (Le.of e17)
      have P17 := P16.nx (d17.nx W16)
      have ok2 := tu.frsok ok
      have rf2 : Refs obs.length gs obs := ⟨fun g hg => ((tu.frok fok) g hg).obj, rfs.ob⟩
      have lgs : gs.length = fs.length := tu.1
      refine ⟨_, rfl, fun y2 dy2 ny2 ndy2 hny2 => ⟨H17, y2, dy2, src, l', hd, G, sf', gs, os, obs, rfl, upd_same, ((Same.refl H17).put ndy2).put ny2, ny2, S17, F17, P17, ok2, rf2, by omega, fun H18 St18 s18 => ⟨rfl, ?_⟩⟩⟩
      have S18 := S17.le (Le.of s18)
      have hne2 := ok2.ne
      refine ⟨y2, src, G, gs, obs, rfl, St18, S18, hne2, by omega, by omega, fun H19 p2 A3 M19 s19 f19 => ?_⟩
      have e18 := e17.trans s18
      have W18 := d17.w.same s18
      have W19 := W18.same s19
      have O2 : On K (wo W H9) H19 p2 src A3 (mchOf gs obs) G := ⟨M19, SB, e18.trans s19, fB e18 f19⟩
      have nW2 : W ∉ A3.fp p2 := nWf W18 f19
      have O18 := O1'.go s18
      have O19 := O18.go s19
      have ap : Apart (A2.fp p1) (A3.fp p2) := fun x hx z => O18.m.ne0 hx (f19 x z)
      have sim := tu.sim ok
      have Ga := goodOf ok fok obk
      have Gb := goodOf ok2 (tu.frok fok) obk
      have za : (mchOf fs obs).stack.length ≤ 26 := by show fs.reverse.length ≤ 26; rw [List.length_reverse]; omega
      have zb : (mchOf fs obs).obs.length ≤ 25 := hob
      have zc : (mchOf fs obs).log.length = 0 := rfl
      have yb : (mchOf gs obs).obs.length ≤ 25 := hob
      have yc : (mchOf gs obs).log.length = 0 := rfl
      generalize mchOf fs obs = ma at O19 sim Ga za zb zc
      generalize mchOf gs obs = mb at O2 sim Gb yb yc
      refine ⟨(6 : Int), rfl, by decide, by decide, ?_⟩
      refine for_it (walk_range (lo := 0) (n := 6)) (fun j σ H' => ∃ B1 B2 : MA, On K (wo W H9) H' p1 src B1 (steps G (10 * j) ma) G ∧ On K (wo W H9) H' p2 src B2 (steps G (10 * j) mb) G ∧ Apart (B1.fp p1) (B2.fp p2) ∧ WellAt H' W ∧ W ∉ B1.fp p1 ∧ W ∉ B2.fp p2 ∧
        ∃ s5, σ = [some (.ref W), some (.ref src), some (.ref p), some (.ref p1), some (.ref p2), s5, some (.ref lf), some (.ref hd)]) ⟨A2, A3, O19, O2, ap, W19, nW1, nW2, _, rfl⟩ (fun j σ H' _ e => trivial) (fun j x σ H0 H20 hj e y => ?_) (fun σ H' e => ?_)
      · obtain ⟨B1, B2, o1, o2, apt, wW, w1, w2, s5', rfl⟩ := e
        obtain ⟨rfl, rfl⟩ := y
        have g1 := Good.steps (prgok hG) (10 * j) Ga
        have g2 := Good.steps (prgok hG) (10 * j) Gb
        have sm := Sim.steps (10 * j) sim
        obtain ⟨u1, u2, u3⟩ := steps_sizes G (10 * j) ma
        obtain ⟨x1, x2, x3⟩ := steps_sizes G (10 * j) mb
        have slen := sm.len
        have M1 := o1.m
        refine ⟨_, rfl, p1, _, _, rfl, M1.ins, by kernel_rfl, p1, src, B1, _, rfl, M1, by omega, fun H21 lf2 sf2 s21 F21 => ?_⟩
        have hl2 : sf2.length = (steps G (10 * j) ma).stack.length := by rw [Paired.len F21.f, List.length_reverse]
        have w21 := wW.same s21
        have e21 := o1.e.trans s21
        refine ⟨lf2, _, rfl, .inl (SqL.of F21.l), _, _, rfl, rfl, _, rfl, ?_⟩
        by_cases hbig : (((sf2.map fun a => V.ref a.t).length : Nat) : Int) > 40
        · refine ifB (decide_eq_true hbig) ?_
          exact k _ (fin H21 e21 w21)
        refine ifBf (decide_eq_false hbig) ?_
        have hst : (steps G (10 * j) ma).stack.length ≤ 40 := by rw [List.length_map] at hbig; omega
        have hj : j < 6 := hj
        have o1' := o1.go s21
        have o2' := o2.go s21
        refine ⟨_, rfl, p1, _, _, rfl, o1'.m.ins, by kernel_rfl, wo W H9, p1, src, B1, _, G, _, 10, rfl, o1', prgok hG, g1, by omega, by omega, by omega, by omega, by omega, fun H22 C1 v22 M22 m22 => ?_⟩
        have q1 := o1'.mv M22 m22
        obtain ⟨w22, w1'⟩ := w21.mv m22 w1
        obtain ⟨o2'', ap'⟩ := o2'.apart o1'.m m22 apt q1.e
        refine ⟨_, rfl, p2, _, _, rfl, o2''.m.ins, by kernel_rfl, wo W H9, p2, src, B2, _, G, _, 10, rfl, o2'', prgok hG, g2, by omega, by omega, by omega, by omega, by omega, fun H23 C2 v23 M23 m23 => ?_⟩
        have q2 := o2''.mv M23 m23
        obtain ⟨w23, w2'⟩ := w22.mv m23 w2
        obtain ⟨q1', ap''⟩ := q1.apart o2''.m m23 ap'.symm q2.e
        have ej : 10 * j + 10 = 10 * (j + 1) := by omega
        have zz := (steps_sizes G 10 (steps G (10 * j) ma)).1
        rw [steps_add, ej] at q1' q2 zz
        have g1' := Good.steps (prgok hG) (10 * (j + 1)) Ga
        have g2' := Good.steps (prgok hG) (10 * (j + 1)) Gb
        have sm' := Sim.steps (10 * (j + 1)) sim
        have slen' := sm'.len
        refine ⟨_, rfl, _, rfl, p1, src, C1, _, G, _, rfl, q1'.m, SB.le (Le.of q1'.e), hG, g1', by omega, fun H24 t1 s24 D24 => ?_⟩
        refine ⟨_, rfl, _, rfl, p2, src, C2, _, G, _, rfl, q2.m.same s24, SB.le (Le.of (q2.e.trans s24)), hG, g2', by omega, fun H25 t2 s25 D25 => ?_⟩
        refine ⟨_, _, Dp.same s25 _ _ D24, D25, toldD_shaped _ _, toldD_shaped _ _, _, rfl, ifBf (by rw [← sm'.told, told_same]; rfl) ?_⟩
        exact ⟨C1, C2, (q1'.go s24).go s25, (q2.go s24).go s25, ap''.symm, (w23.same s24).same s25, w1', w2', _, rfl⟩
      · obtain ⟨B1, B2, o1, o2, apt, wW, w1, w2, s5', rfl⟩ := e
        exact k _ (fin H' o1.e wW)
end
end K18
set_option Elab.async false
set_option linter.all false
set_option maxRecDepth 100000
set_option pp.deepTerms false
set_option pp.maxSteps 600
set_option maxHeartbeats 4000000
namespace K18
open PySem PySem.Spec PyProof.Rows L2
theorem cut_three (ns : List Int) : ∃ ms : List Int, cutV (ns.map V.int) none (some 3) = ms.map V.int ∧ ms.length ≤ 3 := by
  refine ⟨ns.take (min 3 (ns.map V.int).length), ?_, by rw [List.length_take]; omega⟩
  unfold cutV
  rw [HT.sIx_none, show HT.sIx (ns.map V.int).length (ns.map V.int).length (some 3) = min 3 (ns.map V.int).length from HT.sIx_nat _ _ 3, List.drop_zero, Nat.sub_zero, List.map_take]
section
variable {P : Program} {w : World} {K : PySem.W.Frag} {mg : Str → Option Value} {base : Heap}
variable {H H' : Hp} {p src : Addr} {A : MA} {m : Mch} {G : Prg}
def spLaw (K : PySem.W.Frag) : Sp := fun vs H Q _ => ∃ (a : Addr) (ns : List Int), vs = [.ref a] ∧ SqL K H a (ns.map V.int) ∧ ∀ H', Q (.bl true) H'
theorem sc_law : FnScope ["_law_script", "_law_cell", "_law_well_here", "_law_turn"] ["_law_script"] d_law.scope := ⟨rfl, rfl, rfl, by decide +kernel, rfl, by decide +kernel, by decide +kernel⟩
theorem ok_law (T : Tx w K mg) {fd : FuncData} (F : FnP K d_law (He.fAd K d_law.at_) fd) : FnOk P w K mg base CX0 9 (He.fAd K d_law.at_) fd ["_law_script"] (spLaw K) := by
  refine F.ok sc_law (fun vs H Q E h => ?_) (fun cdv A outer s H vs Q E hr h => ?_)
  · obtain ⟨a, ns, rfl, _⟩ := h
    rfl
  · obtain ⟨a, ns, rfl, hS, k⟩ := h
    refine ⟨_, PSs.nox (pss_cons (ps_for PassesOwn.never rfl (pi_list (pe_op op_cat (pe_slice sl_list (pv 0) po_none (po_some pe_int)) (pe_lst (pa_cons pe_int pa_nil)))) (pg_name (i := 1) sc_law.nd rfl (.inl rfl)) (pss_cons (ps_set (i := 2) sc_law.nd rfl (.inl rfl) (pe_G (k_law_well T) (hr.mono (by decide)) T.g_law_well (pa_cons (pv 1) pa_nil)))
      (pss_one (ps_for PassesOwn.never rfl (pi_range1 (by rfl) T.b_range (pa_cons pe_int pa_nil)) (pg_name (i := 3) sc_law.nd rfl (.inl rfl)) (pss_one (ps_if (pt_not (pt_val (pe_G (k_law_right T) (hr.mono (by decide)) T.g_law_right (pa_cons (pv 2) pa_nil)))) (pss_one (ps_ret pe_bl)) pss_nil))))))
      (pss_one (ps_ret pe_bl))), ?_⟩
    refine ⟨_, rfl, 3, rfl, a, _, rfl, hS, fun l0 nl0 => ?_⟩
    obtain ⟨ms, e3, hm⟩ := cut_three ns
    rw [e3]
    have s1 : Same H (upd H l0 (.lst (ms.map V.int))) := same_new nl0
    have hl0 : (upd H l0 (.lst (ms.map V.int))) l0 = some (.lst (ms.map V.int)) := upd_same
    generalize (upd H l0 (.lst (ms.map V.int))) = H1 at s1 hl0
    refine ⟨(by show 1 ≤ sizeLine; decide), fun l1 nl1 => ?_⟩
    have s2 : Same H1 (upd H1 l1 (.lst [.int 0])) := same_new nl1
    have hl1 : (upd H1 l1 (.lst [.int 0])) l1 = some (.lst [.int 0]) := upd_same
    generalize (upd H1 l1 (.lst [.int 0])) = H2 at s2 hl1
    refine ⟨l0, l1, _, _, rfl, rfl, s2 _ _ hl0, hl1, (by rw [List.length_map]; exact le_line (by show ms.length + 1 ≤ 1000; omega)), fun l nl => ?_⟩
    have hl : (upd H2 l (.lst (ms.map V.int ++ [.int 0]))) l = some (.lst ((ms ++ [0]).map V.int)) := by rw [upd_same, List.map_append]; rfl
    generalize (upd H2 l (.lst (ms.map V.int ++ [.int 0]))) = H3 at hl
    refine ⟨l, rfl, ⟨_, SqL.of hl⟩, ?_⟩
    refine for_it (walk_list (xs := (ms ++ [0]).map V.int)) (fun j σ H' => H' l = some (.lst ((ms ++ [0]).map V.int)) ∧ ∃ s1 s2 s3, σ = [some (.ref a), s1, s2, s3]) ⟨hl, _, _, _, rfl⟩ (fun j σ H' _ e => SqL.of e.1) (fun j x σ H0 H4 hj e y => ?_) (fun σ H' e => ?_)
    · obtain ⟨hl4, s1', s2', s3', rfl⟩ := e
      obtain ⟨rfl, y⟩ := y
      rw [List.length_map] at hj
      rw [List.getElem?_map, List.getElem?_eq_getElem hj] at y
      cases y
      refine ⟨_, rfl, _, rfl, fun H5 W s5 nW hW => ?_⟩
      have lW : l ≠ W := fun z => by rw [z, nW] at hl4; cases hl4
      refine ⟨(2 : Int), rfl, by decide, by decide, ?_⟩
      refine for_it (walk_range (lo := 0) (n := 2)) (fun i σ H' => H' l = some (.lst ((ms ++ [0]).map V.int)) ∧ WellAt H' W ∧ ∃ s1 s3, σ = [some (.ref a), s1, some (.ref W), s3]) ⟨s5 _ _ hl4, hW, _, _, rfl⟩ (fun _ _ _ _ _ => trivial) (fun i x σ H0 H6 hi e y => ?_) (fun σ H' e => ?_)
      · obtain ⟨hl6, w6, s1', s3', rfl⟩ := e
        obtain ⟨rfl, rfl⟩ := y
        exact ⟨_, rfl, W, rfl, w6, fun H7 d7 => ⟨_, rfl, ifBf rfl ⟨d7.b _ _ hl6 lW, d7.w, _, _, rfl⟩⟩⟩
      · obtain ⟨hl6, w6, s1', s3', rfl⟩ := e
        exact ⟨hl6, _, _, _, rfl⟩
    · exact k H'
end
end K18
set_option Elab.async false
set_option linter.all false
set_option maxRecDepth 100000
set_option maxHeartbeats 0
namespace K18
open PySem PySem.Spec PyProof.Rows L2
theorem facts {P : Program} {w : World} {K : PySem.W.Frag} {h : Heap} {mg : Str → Option Value} {f : Addr} (X : K.In h) (G : h.Ns mainGlobals mg) (hfa : mg ("law" : Str) = some (.ref f)) (c : He.SaysX fa fn ts [] exB w h K) :
    ∃ fd : FuncData, (∀ (s : Shared) (v : Value), BindsTo s fd ⟨[v], []⟩ [("_law_script", v)]) ∧ ∀ base : Heap, K.In base → base.Ns mainGlobals mg → FnOk P w K mg base CX0 9 f fd ["_law_script"] (spLaw K) := by
  have T : Tx w K mg := ⟨h, X, G, c⟩
  obtain ⟨fd, F⟩ := T.d_law
  have e := hfa.symm.trans T.g_law
  cases e
  have b := FunD.bindsA (ps := ["_law_script"]) F fun _ _ _ _ _ _ us hl => match us, hl with | [_], _ => rfl
  exact ⟨fd, fun s v => b s [v] rfl, fun base _ _ => ok_law T F⟩
end K18
open PySem PySem.W PySem.Calls PyProof.Rows
theorem PySem.Challenge.cw_backframes_k18_whole_what_is_not_wanted_holds : PySem.Challenge.rw_backframes_k18_whole_what_is_not_wanted.Holds := by
  w_on; o_law
  refine HandSHeadRun.head_any (r := OpenLaw.row PySem.Challenge.rw_backframes_k18_whole_what_is_not_wanted) (q := view (OpenLaw.row PySem.Challenge.rw_backframes_k18_whole_what_is_not_wanted).prog [78]) (H := K18.hk) (ob := K18.ob) (M := 12000) (loose := K18.names) (d := HandSHeadRun.topDef (OpenLaw.row PySem.Challenge.rw_backframes_k18_whole_what_is_not_wanted).prog 78) (kwd := []) K18.ob_eq
    (by kernel_rfl) (fun s => by kernel_rfl) K18.run (by kernel_rfl) (by kernel_rfl) (by kernel_rfl) (by rfl) (by first | assumption | decide +kernel) (by decide +kernel) ⟨rfl, rfl, rfl, rfl, rfl, by decide +kernel⟩ ?hw ?hc
  case hw => w_witness2
  case hc =>
    refine L2.walk_ofE (l := PySem.Challenge.rw_backframes_k18_whole_what_is_not_wanted) (n := 63) (k := 9) (x := "_law_script") (CX := L2.CX0) rfl (by decide) (by kernel_rfl) ⟨rfl, by decide, by decide⟩ ?F (fun _ _ _ _ z => z)
    intro w mg fa h Y G hmg0
    obtain ⟨K, KX, c⟩ := Y
    have hmg : mg ("law" : PySem.Str) = some (.ref fa) := by
      have e : (HandSHeadRun.topDef (OpenLaw.row PySem.Challenge.rw_backframes_k18_whole_what_is_not_wanted).prog 78).name = ("law" : PySem.Str) := by kernel_rfl
      rw [← e]
      exact hmg0
    obtain ⟨fd, hb, hF⟩ := K18.facts (P := (PySem.Challenge.rw_backframes_k18_whole_what_is_not_wanted).prog) (w := w) KX G hmg c
    exact ⟨K, fd, K18.spLaw K, KX, hb, fun H a ns hl _ hS => ⟨a, ns, rfl, hS, fun _ => rfl⟩, hF⟩
