import PyProof.Rows.All
import Wide.All
import OpenK.AllK
import Wide.FinOn
import KE.KStateDown
import Lean
import HandS.ForMost
import HandS.ForExc
import HandS.More
import HandS.Defaults
import HandS.Evl
import HandS.Wide
import HandS.WideBits
import HandS.OwnEq
import HandS.Star
import HandS.IsInst
import HandS.SortInts
import HandS.SortKw
import HandS.Steps
import HandS.Zip
import HandS.Head0
import HandS.Head1
import HandS.Head2
import HandS.HeadEnd
import HandS.HeadHook1
import HandS.HeadHook2
import HandS.HeadHook3
import HandS.HeadHook4
import HandS.EndBits
import KE.KMinKey
import KE.KOpsOwn
import PyProof.NeKinds
import HandS.Walk
import PyProof.InstNe
import HandS.TupMul
import PySem.Challenge.RW_cutends_k04_whole_constructs_of_great_pa
set_option Elab.async false
set_option linter.all false
set_option maxRecDepth 100000
/-! == Head -/
set_option maxHeartbeats 0
namespace CuT
open PySem L2
def top (i : Nat) : Stmt := PySem.Challenge.pw_cutends_k04_whole_constructs_of_great_pa.main.body.getD i (.Pass ⟨0, 0, 0, 0⟩)
abbrev s_wall : Stmt := top 0
abbrev s_InvalidProgram_init : Stmt := inClass (top 3) 0
abbrev s_InvalidTime_init : Stmt := inClass (top 4) 0
abbrev s_InvalidCount_init : Stmt := inClass (top 5) 0
abbrev s_InvalidName_init : Stmt := inClass (top 6) 0
abbrev s_InvalidCut_init : Stmt := inClass (top 7) 0
abbrev s_LimitExceeded_init : Stmt := inClass (top 8) 0
abbrev s_is_integer : Stmt := top 11
abbrev s_is_between : Stmt := top 12
abbrev s_is_name : Stmt := top 13
abbrev s_end_of_sequence : Stmt := top 20
abbrev s_end_of_loop : Stmt := top 21
abbrev s_first_failure : Stmt := top 22
abbrev s_length_of : Stmt := top 23
abbrev s_end_of_group : Stmt := top 24
abbrev s_end_after : Stmt := top 25
abbrev s_sequence_measure : Stmt := top 26
abbrev s_group_measure : Stmt := top 27
abbrev s_measure : Stmt := top 28
abbrev s_Program_init : Stmt := inClass (top 29) 0
abbrev s_Program_eq : Stmt := inClass (top 29) 1
abbrev s_Program_add : Stmt := inClass (top 29) 2
abbrev s_Program_mul : Stmt := inClass (top 29) 3
abbrev s_Program_or : Stmt := inClass (top 29) 4
abbrev s_Program_call : Stmt := inClass (top 29) 5
abbrev s_Program_facts : Stmt := inClass (top 29) 6
abbrev s_Program_total_length : Stmt := inClass (top 29) 7
abbrev s_Program_failure_name : Stmt := inClass (top 29) 8
abbrev s_Program_node_count : Stmt := inClass (top 29) 9
abbrev s_flat : Stmt := top 30
abbrev s_check_program : Stmt := top 31
abbrev s_check_time : Stmt := top 32
abbrev s_check_name : Stmt := top 33
abbrev s_check_names : Stmt := top 34
abbrev s_sleep : Stmt := top 35
abbrev s_fail : Stmt := top 36
abbrev s_shield : Stmt := top 37
abbrev s_cleanup : Stmt := top 38
abbrev s_fallback : Stmt := top 39
abbrev s_timeout : Stmt := top 40
abbrev s_move_on : Stmt := top 41
abbrev s_together : Stmt := top 42
abbrev s_law_source_of : Stmt := top 44
abbrev s_law_next : Stmt := top 45
abbrev s_law_one : Stmt := top 46
abbrev s_law_cell_at : Stmt := top 47
abbrev s_law_leaf : Stmt := top 48
abbrev s_law_form : Stmt := top 49
abbrev s_law_made : Stmt := top 50
abbrev s_law_cuts : Stmt := top 51
abbrev s_law_failing : Stmt := top 52
abbrev s_law_turns_right : Stmt := top 53
abbrev s_law_covers_right : Stmt := top 54
abbrev s_law_limits_right : Stmt := top 55
abbrev s_law : Stmt := top 56
def d_is_integer : He.DefD := ⟨("is_integer", none), "is_integer", "is_integer", defArgs s_is_integer, defBody s_is_integer, defScope s_is_integer, [], []⟩
def d_is_between : He.DefD := ⟨("is_between", none), "is_between", "is_between", defArgs s_is_between, defBody s_is_between, defScope s_is_between, [], []⟩
def d_is_name : He.DefD := ⟨("is_name", none), "is_name", "is_name", defArgs s_is_name, defBody s_is_name, defScope s_is_name, [], []⟩
def d_end_of_sequence : He.DefD := ⟨("end_of_sequence", none), "end_of_sequence", "end_of_sequence", defArgs s_end_of_sequence, defBody s_end_of_sequence, defScope s_end_of_sequence, [], []⟩
def d_end_of_loop : He.DefD := ⟨("end_of_loop", none), "end_of_loop", "end_of_loop", defArgs s_end_of_loop, defBody s_end_of_loop, defScope s_end_of_loop, [], []⟩
def d_first_failure : He.DefD := ⟨("first_failure", none), "first_failure", "first_failure", defArgs s_first_failure, defBody s_first_failure, defScope s_first_failure, [], []⟩
def d_length_of : He.DefD := ⟨("length_of", none), "length_of", "length_of", defArgs s_length_of, defBody s_length_of, defScope s_length_of, [], []⟩
def d_end_of_group : He.DefD := ⟨("end_of_group", none), "end_of_group", "end_of_group", defArgs s_end_of_group, defBody s_end_of_group, defScope s_end_of_group, [], []⟩
def d_end_after : He.DefD := ⟨("end_after", none), "end_after", "end_after", defArgs s_end_after, defBody s_end_after, defScope s_end_after, [], []⟩
def d_sequence_measure : He.DefD := ⟨("sequence_measure", none), "sequence_measure", "sequence_measure", defArgs s_sequence_measure, defBody s_sequence_measure, defScope s_sequence_measure, [], []⟩
def d_group_measure : He.DefD := ⟨("group_measure", none), "group_measure", "group_measure", defArgs s_group_measure, defBody s_group_measure, defScope s_group_measure, [], []⟩
def d_measure : He.DefD := ⟨("measure", none), "measure", "measure", defArgs s_measure, defBody s_measure, defScope s_measure, [], []⟩
def d_Program_init : He.DefD := ⟨("Program", some "__init__"), "__init__", "Program.__init__", defArgs s_Program_init, defBody s_Program_init, defScope s_Program_init, [], []⟩
def d_Program_eq : He.DefD := ⟨("Program", some "__eq__"), "__eq__", "Program.__eq__", defArgs s_Program_eq, defBody s_Program_eq, defScope s_Program_eq, [], []⟩
def d_Program_add : He.DefD := ⟨("Program", some "__add__"), "__add__", "Program.__add__", defArgs s_Program_add, defBody s_Program_add, defScope s_Program_add, [], []⟩
def d_Program_mul : He.DefD := ⟨("Program", some "__mul__"), "__mul__", "Program.__mul__", defArgs s_Program_mul, defBody s_Program_mul, defScope s_Program_mul, [], []⟩
def d_Program_or : He.DefD := ⟨("Program", some "__or__"), "__or__", "Program.__or__", defArgs s_Program_or, defBody s_Program_or, defScope s_Program_or, [], []⟩
def d_Program_call : He.DefD := ⟨("Program", some "__call__"), "__call__", "Program.__call__", defArgs s_Program_call, defBody s_Program_call, defScope s_Program_call, [], []⟩
def d_Program_facts : He.DefD := ⟨("Program", some "facts"), "facts", "Program.facts", defArgs s_Program_facts, defBody s_Program_facts, defScope s_Program_facts, [], []⟩
def d_Program_total_length : He.DefD := ⟨("Program", some "total_length"), "total_length", "Program.total_length", defArgs s_Program_total_length, defBody s_Program_total_length, defScope s_Program_total_length, [], []⟩
def d_Program_failure_name : He.DefD := ⟨("Program", some "failure_name"), "failure_name", "Program.failure_name", defArgs s_Program_failure_name, defBody s_Program_failure_name, defScope s_Program_failure_name, [], []⟩
def d_Program_node_count : He.DefD := ⟨("Program", some "node_count"), "node_count", "Program.node_count", defArgs s_Program_node_count, defBody s_Program_node_count, defScope s_Program_node_count, [], []⟩
def d_flat : He.DefD := ⟨("flat", none), "flat", "flat", defArgs s_flat, defBody s_flat, defScope s_flat, [], []⟩
def d_check_program : He.DefD := ⟨("check_program", none), "check_program", "check_program", defArgs s_check_program, defBody s_check_program, defScope s_check_program, [], []⟩
def d_check_time : He.DefD := ⟨("check_time", none), "check_time", "check_time", defArgs s_check_time, defBody s_check_time, defScope s_check_time, [], []⟩
def d_check_name : He.DefD := ⟨("check_name", none), "check_name", "check_name", defArgs s_check_name, defBody s_check_name, defScope s_check_name, [], []⟩
def d_check_names : He.DefD := ⟨("check_names", none), "check_names", "check_names", defArgs s_check_names, defBody s_check_names, defScope s_check_names, [], []⟩
def d_sleep : He.DefD := ⟨("sleep", none), "sleep", "sleep", defArgs s_sleep, defBody s_sleep, defScope s_sleep, [], []⟩
def d_fail : He.DefD := ⟨("fail", none), "fail", "fail", defArgs s_fail, defBody s_fail, defScope s_fail, [], []⟩
def d_shield : He.DefD := ⟨("shield", none), "shield", "shield", defArgs s_shield, defBody s_shield, defScope s_shield, [], []⟩
def d_cleanup : He.DefD := ⟨("cleanup", none), "cleanup", "cleanup", defArgs s_cleanup, defBody s_cleanup, defScope s_cleanup, [], []⟩
def d_fallback : He.DefD := ⟨("fallback", none), "fallback", "fallback", defArgs s_fallback, defBody s_fallback, defScope s_fallback, [], []⟩
def d_timeout : He.DefD := ⟨("timeout", none), "timeout", "timeout", defArgs s_timeout, defBody s_timeout, defScope s_timeout, [], []⟩
def d_move_on : He.DefD := ⟨("move_on", none), "move_on", "move_on", defArgs s_move_on, defBody s_move_on, defScope s_move_on, [], []⟩
def d_together : He.DefD := ⟨("together", none), "together", "together", defArgs s_together, defBody s_together, defScope s_together, [], []⟩
def d_law_source_of : He.DefD := ⟨("_law_source_of", none), "_law_source_of", "_law_source_of", defArgs s_law_source_of, defBody s_law_source_of, defScope s_law_source_of, [], []⟩
def d_law_next : He.DefD := ⟨("_law_next", none), "_law_next", "_law_next", defArgs s_law_next, defBody s_law_next, defScope s_law_next, [], []⟩
def d_law_one : He.DefD := ⟨("_law_one", none), "_law_one", "_law_one", defArgs s_law_one, defBody s_law_one, defScope s_law_one, [], []⟩
def d_law_cell_at : He.DefD := ⟨("_law_cell_at", none), "_law_cell_at", "_law_cell_at", defArgs s_law_cell_at, defBody s_law_cell_at, defScope s_law_cell_at, [], []⟩
def d_law_leaf : He.DefD := ⟨("_law_leaf", none), "_law_leaf", "_law_leaf", defArgs s_law_leaf, defBody s_law_leaf, defScope s_law_leaf, [], []⟩
def d_law_form : He.DefD := ⟨("_law_form", none), "_law_form", "_law_form", defArgs s_law_form, defBody s_law_form, defScope s_law_form, [], []⟩
def d_law_made : He.DefD := ⟨("_law_made", none), "_law_made", "_law_made", defArgs s_law_made, defBody s_law_made, defScope s_law_made, [], []⟩
def d_law_cuts : He.DefD := ⟨("_law_cuts", none), "_law_cuts", "_law_cuts", defArgs s_law_cuts, defBody s_law_cuts, defScope s_law_cuts, [], []⟩
def d_law_failing : He.DefD := ⟨("_law_failing", none), "_law_failing", "_law_failing", defArgs s_law_failing, defBody s_law_failing, defScope s_law_failing, [], []⟩
def d_law_turns_right : He.DefD := ⟨("_law_turns_right", none), "_law_turns_right", "_law_turns_right", defArgs s_law_turns_right, defBody s_law_turns_right, defScope s_law_turns_right, [], []⟩
def d_law_covers_right : He.DefD := ⟨("_law_covers_right", none), "_law_covers_right", "_law_covers_right", defArgs s_law_covers_right, defBody s_law_covers_right, defScope s_law_covers_right, [], []⟩
def d_law_limits_right : He.DefD := ⟨("_law_limits_right", none), "_law_limits_right", "_law_limits_right", defArgs s_law_limits_right, defBody s_law_limits_right, defScope s_law_limits_right, [], []⟩
def d_law : He.DefD := ⟨("law", none), "law", "law", defArgs s_law, defBody s_law, defScope s_law, [], []⟩
def fn0 : List He.DefD := [d_is_integer, d_is_between, d_is_name, d_end_of_sequence, d_end_of_loop, d_first_failure, d_length_of, d_end_of_group, d_end_after, d_sequence_measure, d_group_measure, d_measure, d_Program_init, d_Program_eq, d_Program_add, d_Program_mul, d_Program_or, d_Program_call, d_Program_facts, d_Program_total_length]
def fn1 : List He.DefD := [d_Program_failure_name, d_Program_node_count, d_flat, d_check_program, d_check_time, d_check_name, d_check_names, d_sleep, d_fail, d_shield, d_cleanup, d_fallback, d_timeout, d_move_on, d_together, d_law_source_of, d_law_next, d_law_one, d_law_cell_at, d_law_leaf]
def fn2 : List He.DefD := [d_law_form, d_law_made, d_law_cuts, d_law_failing, d_law_turns_right, d_law_covers_right, d_law_limits_right, d_law]
def fn : List He.DefD := fn0 ++ fn1 ++ fn2
def fa0 : List He.Fa := [.glo "_wall", .glo "CutError", .glo "InvalidProgram", .glo "InvalidTime", .glo "InvalidCount", .glo "InvalidName", .glo "InvalidCut", .glo "LimitExceeded", .glo "is_integer", .glo "is_between", .glo "is_name", .glo "end_of_sequence", .glo "end_of_loop", .glo "first_failure", .glo "length_of", .glo "end_of_group", .glo "end_after", .glo "sequence_measure", .glo "group_measure", .glo "measure"]
def fa1 : List He.Fa := [.glo "Program", .glo "flat", .glo "check_program", .glo "check_time", .glo "check_name", .glo "check_names", .glo "sleep", .glo "fail", .glo "shield", .glo "cleanup", .glo "fallback", .glo "timeout", .glo "move_on", .glo "together", .glo "_law_source_of", .glo "_law_next", .glo "_law_one", .glo "_law_cell_at", .glo "_law_leaf", .glo "_law_form"]
def fa2 : List He.Fa := [.glo "_law_made", .glo "_law_cuts", .glo "_law_failing", .glo "_law_turns_right", .glo "_law_covers_right", .glo "_law_limits_right", .glo "law", .int "MOST_LETTERS" 12, .int "MOST_TIME" 1000000000000000000000000000000, .int "MOST_COUNT" 1000000000000000000000000000000, .int "MOST_PARTS" 20, .int "MOST_NODES" 300, .int "MOST_DEPTH" 60, .free "ArithmeticError", .free "all", .free "bool", .free "enumerate", .free "int", .free "isinstance", .free "len"]
def fa3 : List He.Fa := [.free "list", .free "max", .free "min", .free "range", .free "str", .free "sum", .cls "Program", .mkr "Program", .meth "Program" "__init__", .meth "Program" "__eq__", .meth "Program" "__add__", .meth "Program" "__mul__", .meth "Program" "__or__", .meth "Program" "__call__", .meth "Program" "facts", .meth "Program" "total_length", .meth "Program" "failure_name", .meth "Program" "node_count", .noat "Program" "broken", .noat "Program" "depth"]
def fa4 : List He.Fa := [.noat "Program" "kind", .noat "Program" "nodes", .noat "Program" "number", .noat "Program" "parts", .noat "Program" "span", .noat "Program" "words", .noat "Program" "__radd__", .noat "Program" "__rmul__", .noat "Program" "__ror__"]
def fa : List He.Fa := fa0 ++ fa1 ++ fa2 ++ fa3 ++ fa4
def ex (K : PySem.W.Frag) : Bool := PySem.W.selfFirst K (He.ga K "Program") && (decide (PySem.W.kitOne K (.ref (He.ga K "Program")) (.ref (He.ga K "Program")) = some true) && (He.eqO (PySem.W.findIn K (.ref (He.ga K "Program")) "__class__") (some (some (.builtin "object.__class__"))) && (He.eqO (PySem.W.specialIn K (.builtin "object.__class__") "__get__") (some (some (.builtin "getset_descriptor.__get__"))) && (decide (PySem.W.takesIn K (.builtin "object.__class__") = some true) && (decide (PySem.W.mroIn K (He.ga K "Program") (.type "object") = some true) && (decide (PySem.W.subIn K (.type "int") (.ref (He.ga K "Program")) = some false) && (decide (PySem.W.subIn K (.ref (He.ga K "Program")) (.type "object") = some true) && (He.eqO (PySem.W.findIn K (.ref (He.ga K "Program")) "__ne__") (some (some (.builtin "object.__ne__"))) && (PySem.W.fnIn K (He.ma K (He.ga K "Program") "__call__"))))))))))
def loose0 : List PySem.Str := ["_wall", "CutError", "InvalidProgram", "InvalidTime", "InvalidCount", "InvalidName", "InvalidCut", "LimitExceeded", "MOST_LETTERS", "is_integer", "is_between", "is_name", "MOST_TIME", "MOST_COUNT", "MOST_PARTS", "MOST_NODES", "MOST_DEPTH", "end_of_sequence", "end_of_loop", "first_failure"]
def loose1 : List PySem.Str := ["length_of", "end_of_group", "end_after", "sequence_measure", "group_measure", "measure", "Program", "flat", "check_program", "check_time", "check_name", "check_names", "sleep", "fail", "shield", "cleanup", "fallback", "timeout", "move_on", "together"]
def loose2 : List PySem.Str := ["_law_source_of", "_law_next", "_law_one", "_law_cell_at", "_law_leaf", "_law_form", "_law_made", "_law_cuts", "_law_failing", "_law_turns_right", "_law_covers_right", "_law_limits_right"]
def loose : List PySem.Str := loose0 ++ loose1 ++ loose2
abbrev R : PySem.W.OpenRow := PySem.W.OpenLaw.row PySem.Challenge.rw_cutends_k04_whole_constructs_of_great_pa
abbrev hk : PySem.W.Hook := He.hookX 5 fa fn [] [] ex
def ob (s : PySem.W.SharedT) : He.AlX := He.obsX 5 fa fn [] [] ex (HandSHeadRun.getT s)
theorem ob_eq (s : PySem.W.SharedT) : ob s = hk.obs s.abs := He.obsX_eq (HandSHeadRun.getT_eq s)
theorem run (w : World) : HandSHeadRun.RunEq R (PySem.W.view R.prog [56]) hk ob 4000 loose w := by
  intro os
  kernel_rfl
end CuT
namespace CuT
open PySem PySem.Spec L2
structure Txt (K : PySem.W.Frag) (mg : Str → Option Value) : Prop where
  g_wall : mg "_wall" = some (.ref (He.ga K "_wall"))
  g_CutError : mg "CutError" = some (.ref (He.ga K "CutError"))
  g_InvalidProgram : mg "InvalidProgram" = some (.ref (He.ga K "InvalidProgram"))
  g_InvalidTime : mg "InvalidTime" = some (.ref (He.ga K "InvalidTime"))
  g_InvalidCount : mg "InvalidCount" = some (.ref (He.ga K "InvalidCount"))
  g_InvalidName : mg "InvalidName" = some (.ref (He.ga K "InvalidName"))
  g_InvalidCut : mg "InvalidCut" = some (.ref (He.ga K "InvalidCut"))
  g_LimitExceeded : mg "LimitExceeded" = some (.ref (He.ga K "LimitExceeded"))
  g_is_integer : mg "is_integer" = some (.ref (He.ga K "is_integer"))
  g_is_between : mg "is_between" = some (.ref (He.ga K "is_between"))
  g_is_name : mg "is_name" = some (.ref (He.ga K "is_name"))
  g_end_of_sequence : mg "end_of_sequence" = some (.ref (He.ga K "end_of_sequence"))
  g_end_of_loop : mg "end_of_loop" = some (.ref (He.ga K "end_of_loop"))
  g_first_failure : mg "first_failure" = some (.ref (He.ga K "first_failure"))
  g_length_of : mg "length_of" = some (.ref (He.ga K "length_of"))
  g_end_of_group : mg "end_of_group" = some (.ref (He.ga K "end_of_group"))
  g_end_after : mg "end_after" = some (.ref (He.ga K "end_after"))
  g_sequence_measure : mg "sequence_measure" = some (.ref (He.ga K "sequence_measure"))
  g_group_measure : mg "group_measure" = some (.ref (He.ga K "group_measure"))
  g_measure : mg "measure" = some (.ref (He.ga K "measure"))
  g_Program : mg "Program" = some (.ref (He.ga K "Program"))
  g_flat : mg "flat" = some (.ref (He.ga K "flat"))
  g_check_program : mg "check_program" = some (.ref (He.ga K "check_program"))
  g_check_time : mg "check_time" = some (.ref (He.ga K "check_time"))
  g_check_name : mg "check_name" = some (.ref (He.ga K "check_name"))
  g_check_names : mg "check_names" = some (.ref (He.ga K "check_names"))
  g_sleep : mg "sleep" = some (.ref (He.ga K "sleep"))
  g_fail : mg "fail" = some (.ref (He.ga K "fail"))
  g_shield : mg "shield" = some (.ref (He.ga K "shield"))
  g_cleanup : mg "cleanup" = some (.ref (He.ga K "cleanup"))
  g_fallback : mg "fallback" = some (.ref (He.ga K "fallback"))
  g_timeout : mg "timeout" = some (.ref (He.ga K "timeout"))
  g_move_on : mg "move_on" = some (.ref (He.ga K "move_on"))
  g_together : mg "together" = some (.ref (He.ga K "together"))
  g_law_source_of : mg "_law_source_of" = some (.ref (He.ga K "_law_source_of"))
  g_law_next : mg "_law_next" = some (.ref (He.ga K "_law_next"))
  g_law_one : mg "_law_one" = some (.ref (He.ga K "_law_one"))
  g_law_cell_at : mg "_law_cell_at" = some (.ref (He.ga K "_law_cell_at"))
  g_law_leaf : mg "_law_leaf" = some (.ref (He.ga K "_law_leaf"))
  g_law_form : mg "_law_form" = some (.ref (He.ga K "_law_form"))
  g_law_made : mg "_law_made" = some (.ref (He.ga K "_law_made"))
  g_law_cuts : mg "_law_cuts" = some (.ref (He.ga K "_law_cuts"))
  g_law_failing : mg "_law_failing" = some (.ref (He.ga K "_law_failing"))
  g_law_turns_right : mg "_law_turns_right" = some (.ref (He.ga K "_law_turns_right"))
  g_law_covers_right : mg "_law_covers_right" = some (.ref (He.ga K "_law_covers_right"))
  g_law_limits_right : mg "_law_limits_right" = some (.ref (He.ga K "_law_limits_right"))
  g_law : mg "law" = some (.ref (He.ga K "law"))
  i_MOST_LETTERS : ∃ t, mg "MOST_LETTERS" = some (.int 12 t)
  i_MOST_TIME : ∃ t, mg "MOST_TIME" = some (.int 1000000000000000000000000000000 t)
  i_MOST_COUNT : ∃ t, mg "MOST_COUNT" = some (.int 1000000000000000000000000000000 t)
  i_MOST_PARTS : ∃ t, mg "MOST_PARTS" = some (.int 20 t)
  i_MOST_NODES : ∃ t, mg "MOST_NODES" = some (.int 300 t)
  i_MOST_DEPTH : ∃ t, mg "MOST_DEPTH" = some (.int 60 t)
  b_ArithmeticError : mg "ArithmeticError" = none
  b_all : mg "all" = none
  b_bool : mg "bool" = none
  b_enumerate : mg "enumerate" = none
  b_int : mg "int" = none
  b_isinstance : mg "isinstance" = none
  b_len : mg "len" = none
  b_list : mg "list" = none
  b_max : mg "max" = none
  b_min : mg "min" = none
  b_range : mg "range" = none
  b_str : mg "str" = none
  b_sum : mg "sum" = none
  cls_Program : Cls K (He.ga K "Program")
  mk_Program : Mk K (He.ga K "Program") (He.ma K (He.ga K "Program") "__init__")
  m_Program_init : Meth K (He.ga K "Program") "__init__" (He.ma K (He.ga K "Program") "__init__")
  m_Program_eq : Meth K (He.ga K "Program") "__eq__" (He.ma K (He.ga K "Program") "__eq__")
  m_Program_add : Meth K (He.ga K "Program") "__add__" (He.ma K (He.ga K "Program") "__add__")
  m_Program_mul : Meth K (He.ga K "Program") "__mul__" (He.ma K (He.ga K "Program") "__mul__")
  m_Program_or : Meth K (He.ga K "Program") "__or__" (He.ma K (He.ga K "Program") "__or__")
  m_Program_call : Meth K (He.ga K "Program") "__call__" (He.ma K (He.ga K "Program") "__call__")
  m_Program_facts : Meth K (He.ga K "Program") "facts" (He.ma K (He.ga K "Program") "facts")
  m_Program_total_length : Meth K (He.ga K "Program") "total_length" (He.ma K (He.ga K "Program") "total_length")
  m_Program_failure_name : Meth K (He.ga K "Program") "failure_name" (He.ma K (He.ga K "Program") "failure_name")
  m_Program_node_count : Meth K (He.ga K "Program") "node_count" (He.ma K (He.ga K "Program") "node_count")
  n_Program_broken : NoAttr K (He.ga K "Program") "broken"
  n_Program_depth : NoAttr K (He.ga K "Program") "depth"
  n_Program_kind : NoAttr K (He.ga K "Program") "kind"
  n_Program_nodes : NoAttr K (He.ga K "Program") "nodes"
  n_Program_number : NoAttr K (He.ga K "Program") "number"
  n_Program_parts : NoAttr K (He.ga K "Program") "parts"
  n_Program_span : NoAttr K (He.ga K "Program") "span"
  n_Program_words : NoAttr K (He.ga K "Program") "words"
  n_Program_radd : NoAttr K (He.ga K "Program") "__radd__"
  n_Program_rmul : NoAttr K (He.ga K "Program") "__rmul__"
  n_Program_ror : NoAttr K (He.ga K "Program") "__ror__"
  f_is_integer : ∃ fd, FunD K "is_integer" "is_integer" (defArgs s_is_integer) (defBody s_is_integer) (defScope s_is_integer) [] [] (He.ga K "is_integer") fd
  f_is_between : ∃ fd, FunD K "is_between" "is_between" (defArgs s_is_between) (defBody s_is_between) (defScope s_is_between) [] [] (He.ga K "is_between") fd
  f_is_name : ∃ fd, FunD K "is_name" "is_name" (defArgs s_is_name) (defBody s_is_name) (defScope s_is_name) [] [] (He.ga K "is_name") fd
  f_end_of_sequence : ∃ fd, FunD K "end_of_sequence" "end_of_sequence" (defArgs s_end_of_sequence) (defBody s_end_of_sequence) (defScope s_end_of_sequence) [] [] (He.ga K "end_of_sequence") fd
  f_end_of_loop : ∃ fd, FunD K "end_of_loop" "end_of_loop" (defArgs s_end_of_loop) (defBody s_end_of_loop) (defScope s_end_of_loop) [] [] (He.ga K "end_of_loop") fd
  f_first_failure : ∃ fd, FunD K "first_failure" "first_failure" (defArgs s_first_failure) (defBody s_first_failure) (defScope s_first_failure) [] [] (He.ga K "first_failure") fd
  f_length_of : ∃ fd, FunD K "length_of" "length_of" (defArgs s_length_of) (defBody s_length_of) (defScope s_length_of) [] [] (He.ga K "length_of") fd
  f_end_of_group : ∃ fd, FunD K "end_of_group" "end_of_group" (defArgs s_end_of_group) (defBody s_end_of_group) (defScope s_end_of_group) [] [] (He.ga K "end_of_group") fd
  f_end_after : ∃ fd, FunD K "end_after" "end_after" (defArgs s_end_after) (defBody s_end_after) (defScope s_end_after) [] [] (He.ga K "end_after") fd
  f_sequence_measure : ∃ fd, FunD K "sequence_measure" "sequence_measure" (defArgs s_sequence_measure) (defBody s_sequence_measure) (defScope s_sequence_measure) [] [] (He.ga K "sequence_measure") fd
  f_group_measure : ∃ fd, FunD K "group_measure" "group_measure" (defArgs s_group_measure) (defBody s_group_measure) (defScope s_group_measure) [] [] (He.ga K "group_measure") fd
  f_measure : ∃ fd, FunD K "measure" "measure" (defArgs s_measure) (defBody s_measure) (defScope s_measure) [] [] (He.ga K "measure") fd
  f_Program_init : ∃ fd, FunD K "__init__" "Program.__init__" (defArgs s_Program_init) (defBody s_Program_init) (defScope s_Program_init) [] [] (He.ma K (He.ga K "Program") "__init__") fd
  f_Program_eq : ∃ fd, FunD K "__eq__" "Program.__eq__" (defArgs s_Program_eq) (defBody s_Program_eq) (defScope s_Program_eq) [] [] (He.ma K (He.ga K "Program") "__eq__") fd
  f_Program_add : ∃ fd, FunD K "__add__" "Program.__add__" (defArgs s_Program_add) (defBody s_Program_add) (defScope s_Program_add) [] [] (He.ma K (He.ga K "Program") "__add__") fd
  f_Program_mul : ∃ fd, FunD K "__mul__" "Program.__mul__" (defArgs s_Program_mul) (defBody s_Program_mul) (defScope s_Program_mul) [] [] (He.ma K (He.ga K "Program") "__mul__") fd
  f_Program_or : ∃ fd, FunD K "__or__" "Program.__or__" (defArgs s_Program_or) (defBody s_Program_or) (defScope s_Program_or) [] [] (He.ma K (He.ga K "Program") "__or__") fd
  f_Program_call : ∃ fd, FunD K "__call__" "Program.__call__" (defArgs s_Program_call) (defBody s_Program_call) (defScope s_Program_call) [] [] (He.ma K (He.ga K "Program") "__call__") fd
  f_Program_facts : ∃ fd, FunD K "facts" "Program.facts" (defArgs s_Program_facts) (defBody s_Program_facts) (defScope s_Program_facts) [] [] (He.ma K (He.ga K "Program") "facts") fd
  f_Program_total_length : ∃ fd, FunD K "total_length" "Program.total_length" (defArgs s_Program_total_length) (defBody s_Program_total_length) (defScope s_Program_total_length) [] [] (He.ma K (He.ga K "Program") "total_length") fd
  f_Program_failure_name : ∃ fd, FunD K "failure_name" "Program.failure_name" (defArgs s_Program_failure_name) (defBody s_Program_failure_name) (defScope s_Program_failure_name) [] [] (He.ma K (He.ga K "Program") "failure_name") fd
  f_Program_node_count : ∃ fd, FunD K "node_count" "Program.node_count" (defArgs s_Program_node_count) (defBody s_Program_node_count) (defScope s_Program_node_count) [] [] (He.ma K (He.ga K "Program") "node_count") fd
  f_flat : ∃ fd, FunD K "flat" "flat" (defArgs s_flat) (defBody s_flat) (defScope s_flat) [] [] (He.ga K "flat") fd
  f_check_program : ∃ fd, FunD K "check_program" "check_program" (defArgs s_check_program) (defBody s_check_program) (defScope s_check_program) [] [] (He.ga K "check_program") fd
  f_check_time : ∃ fd, FunD K "check_time" "check_time" (defArgs s_check_time) (defBody s_check_time) (defScope s_check_time) [] [] (He.ga K "check_time") fd
  f_check_name : ∃ fd, FunD K "check_name" "check_name" (defArgs s_check_name) (defBody s_check_name) (defScope s_check_name) [] [] (He.ga K "check_name") fd
  f_check_names : ∃ fd, FunD K "check_names" "check_names" (defArgs s_check_names) (defBody s_check_names) (defScope s_check_names) [] [] (He.ga K "check_names") fd
  f_sleep : ∃ fd, FunD K "sleep" "sleep" (defArgs s_sleep) (defBody s_sleep) (defScope s_sleep) [] [] (He.ga K "sleep") fd
  f_fail : ∃ fd, FunD K "fail" "fail" (defArgs s_fail) (defBody s_fail) (defScope s_fail) [] [] (He.ga K "fail") fd
  f_shield : ∃ fd, FunD K "shield" "shield" (defArgs s_shield) (defBody s_shield) (defScope s_shield) [] [] (He.ga K "shield") fd
  f_cleanup : ∃ fd, FunD K "cleanup" "cleanup" (defArgs s_cleanup) (defBody s_cleanup) (defScope s_cleanup) [] [] (He.ga K "cleanup") fd
  f_fallback : ∃ fd, FunD K "fallback" "fallback" (defArgs s_fallback) (defBody s_fallback) (defScope s_fallback) [] [] (He.ga K "fallback") fd
  f_timeout : ∃ fd, FunD K "timeout" "timeout" (defArgs s_timeout) (defBody s_timeout) (defScope s_timeout) [] [] (He.ga K "timeout") fd
  f_move_on : ∃ fd, FunD K "move_on" "move_on" (defArgs s_move_on) (defBody s_move_on) (defScope s_move_on) [] [] (He.ga K "move_on") fd
  f_together : ∃ fd, FunD K "together" "together" (defArgs s_together) (defBody s_together) (defScope s_together) [] [] (He.ga K "together") fd
  f_law_source_of : ∃ fd, FunD K "_law_source_of" "_law_source_of" (defArgs s_law_source_of) (defBody s_law_source_of) (defScope s_law_source_of) [] [] (He.ga K "_law_source_of") fd
  f_law_next : ∃ fd, FunD K "_law_next" "_law_next" (defArgs s_law_next) (defBody s_law_next) (defScope s_law_next) [] [] (He.ga K "_law_next") fd
  f_law_one : ∃ fd, FunD K "_law_one" "_law_one" (defArgs s_law_one) (defBody s_law_one) (defScope s_law_one) [] [] (He.ga K "_law_one") fd
  f_law_cell_at : ∃ fd, FunD K "_law_cell_at" "_law_cell_at" (defArgs s_law_cell_at) (defBody s_law_cell_at) (defScope s_law_cell_at) [] [] (He.ga K "_law_cell_at") fd
  f_law_leaf : ∃ fd, FunD K "_law_leaf" "_law_leaf" (defArgs s_law_leaf) (defBody s_law_leaf) (defScope s_law_leaf) [] [] (He.ga K "_law_leaf") fd
  f_law_form : ∃ fd, FunD K "_law_form" "_law_form" (defArgs s_law_form) (defBody s_law_form) (defScope s_law_form) [] [] (He.ga K "_law_form") fd
  f_law_made : ∃ fd, FunD K "_law_made" "_law_made" (defArgs s_law_made) (defBody s_law_made) (defScope s_law_made) [] [] (He.ga K "_law_made") fd
  f_law_cuts : ∃ fd, FunD K "_law_cuts" "_law_cuts" (defArgs s_law_cuts) (defBody s_law_cuts) (defScope s_law_cuts) [] [] (He.ga K "_law_cuts") fd
  f_law_failing : ∃ fd, FunD K "_law_failing" "_law_failing" (defArgs s_law_failing) (defBody s_law_failing) (defScope s_law_failing) [] [] (He.ga K "_law_failing") fd
  f_law_turns_right : ∃ fd, FunD K "_law_turns_right" "_law_turns_right" (defArgs s_law_turns_right) (defBody s_law_turns_right) (defScope s_law_turns_right) [] [] (He.ga K "_law_turns_right") fd
  f_law_covers_right : ∃ fd, FunD K "_law_covers_right" "_law_covers_right" (defArgs s_law_covers_right) (defBody s_law_covers_right) (defScope s_law_covers_right) [] [] (He.ga K "_law_covers_right") fd
  f_law_limits_right : ∃ fd, FunD K "_law_limits_right" "_law_limits_right" (defArgs s_law_limits_right) (defBody s_law_limits_right) (defScope s_law_limits_right) [] [] (He.ga K "_law_limits_right") fd
  f_law : ∃ fd, FunD K "law" "law" (defArgs s_law) (defBody s_law) (defScope s_law) [] [] (He.ga K "law") fd
  sf_Program : PySem.W.selfFirst K (He.ga K "Program") = true
  kit_Program : PySem.W.kitOne K (.ref (He.ga K "Program")) (.ref (He.ga K "Program")) = some true
  clsat_Program : PySem.W.findIn K (.ref (He.ga K "Program")) "__class__" = some (some (.builtin "object.__class__"))
  clsget_Program : PySem.W.specialIn K (.builtin "object.__class__") "__get__" = some (some (.builtin "getset_descriptor.__get__"))
  clstk_Program : PySem.W.takesIn K (.builtin "object.__class__") = some true
  mro_Program : PySem.W.mroIn K (He.ga K "Program") (.type "object") = some true
  sub_Program : PySem.W.subIn K (.type "int") (.ref (He.ga K "Program")) = some false
  ob_Program : PySem.W.subIn K (.ref (He.ga K "Program")) (.type "object") = some true
  ne_Program : PySem.W.findIn K (.ref (He.ga K "Program")) "__ne__" = some (some (.builtin "object.__ne__"))
  fi_Program_call : PySem.W.fnIn K (He.ma K (He.ga K "Program") "__call__") = true
theorem txt_of {K : PySem.W.Frag} {h : Heap} {mg : Str → Option Value} {w : World} {hh : Heap} (X : K.In h) (G : h.Ns mainGlobals mg) (c : He.SaysX fa fn [] [] ex w hh K) : Txt K mg := by
  have z0 := c.more
  unfold ex at z0
  obtain ⟨y0, z1⟩ := He.ba z0
  obtain ⟨y1, z2⟩ := He.ba z1
  obtain ⟨y2, z3⟩ := He.ba z2
  obtain ⟨y3, z4⟩ := He.ba z3
  obtain ⟨y4, z5⟩ := He.ba z4
  obtain ⟨y5, z6⟩ := He.ba z5
  obtain ⟨y6, z7⟩ := He.ba z6
  obtain ⟨y7, z8⟩ := He.ba z7
  obtain ⟨y8, z9⟩ := He.ba z8
  exact {
    g_wall := He.glo_ok X G (c.t.d.fact 0 rfl),
    g_CutError := He.glo_ok X G (c.t.d.fact 1 rfl),
    g_InvalidProgram := He.glo_ok X G (c.t.d.fact 2 rfl),
    g_InvalidTime := He.glo_ok X G (c.t.d.fact 3 rfl),
    g_InvalidCount := He.glo_ok X G (c.t.d.fact 4 rfl),
    g_InvalidName := He.glo_ok X G (c.t.d.fact 5 rfl),
    g_InvalidCut := He.glo_ok X G (c.t.d.fact 6 rfl),
    g_LimitExceeded := He.glo_ok X G (c.t.d.fact 7 rfl),
    g_is_integer := He.glo_ok X G (c.t.d.fact 8 rfl),
    g_is_between := He.glo_ok X G (c.t.d.fact 9 rfl),
    g_is_name := He.glo_ok X G (c.t.d.fact 10 rfl),
    g_end_of_sequence := He.glo_ok X G (c.t.d.fact 11 rfl),
    g_end_of_loop := He.glo_ok X G (c.t.d.fact 12 rfl),
    g_first_failure := He.glo_ok X G (c.t.d.fact 13 rfl),
    g_length_of := He.glo_ok X G (c.t.d.fact 14 rfl),
    g_end_of_group := He.glo_ok X G (c.t.d.fact 15 rfl),
    g_end_after := He.glo_ok X G (c.t.d.fact 16 rfl),
    g_sequence_measure := He.glo_ok X G (c.t.d.fact 17 rfl),
    g_group_measure := He.glo_ok X G (c.t.d.fact 18 rfl),
    g_measure := He.glo_ok X G (c.t.d.fact 19 rfl),
    g_Program := He.glo_ok X G (c.t.d.fact 20 rfl),
    g_flat := He.glo_ok X G (c.t.d.fact 21 rfl),
    g_check_program := He.glo_ok X G (c.t.d.fact 22 rfl),
    g_check_time := He.glo_ok X G (c.t.d.fact 23 rfl),
    g_check_name := He.glo_ok X G (c.t.d.fact 24 rfl),
    g_check_names := He.glo_ok X G (c.t.d.fact 25 rfl),
    g_sleep := He.glo_ok X G (c.t.d.fact 26 rfl),
    g_fail := He.glo_ok X G (c.t.d.fact 27 rfl),
    g_shield := He.glo_ok X G (c.t.d.fact 28 rfl),
    g_cleanup := He.glo_ok X G (c.t.d.fact 29 rfl),
    g_fallback := He.glo_ok X G (c.t.d.fact 30 rfl),
    g_timeout := He.glo_ok X G (c.t.d.fact 31 rfl),
    g_move_on := He.glo_ok X G (c.t.d.fact 32 rfl),
    g_together := He.glo_ok X G (c.t.d.fact 33 rfl),
    g_law_source_of := He.glo_ok X G (c.t.d.fact 34 rfl),
    g_law_next := He.glo_ok X G (c.t.d.fact 35 rfl),
    g_law_one := He.glo_ok X G (c.t.d.fact 36 rfl),
    g_law_cell_at := He.glo_ok X G (c.t.d.fact 37 rfl),
    g_law_leaf := He.glo_ok X G (c.t.d.fact 38 rfl),
    g_law_form := He.glo_ok X G (c.t.d.fact 39 rfl),
    g_law_made := He.glo_ok X G (c.t.d.fact 40 rfl),
    g_law_cuts := He.glo_ok X G (c.t.d.fact 41 rfl),
    g_law_failing := He.glo_ok X G (c.t.d.fact 42 rfl),
    g_law_turns_right := He.glo_ok X G (c.t.d.fact 43 rfl),
    g_law_covers_right := He.glo_ok X G (c.t.d.fact 44 rfl),
    g_law_limits_right := He.glo_ok X G (c.t.d.fact 45 rfl),
    g_law := He.glo_ok X G (c.t.d.fact 46 rfl),
    i_MOST_LETTERS := He.int_ok X G (c.t.d.fact 47 rfl),
    i_MOST_TIME := He.int_ok X G (c.t.d.fact 48 rfl),
    i_MOST_COUNT := He.int_ok X G (c.t.d.fact 49 rfl),
    i_MOST_PARTS := He.int_ok X G (c.t.d.fact 50 rfl),
    i_MOST_NODES := He.int_ok X G (c.t.d.fact 51 rfl),
    i_MOST_DEPTH := He.int_ok X G (c.t.d.fact 52 rfl),
    b_ArithmeticError := He.free_ok X G (c.t.d.fact 53 rfl),
    b_all := He.free_ok X G (c.t.d.fact 54 rfl),
    b_bool := He.free_ok X G (c.t.d.fact 55 rfl),
    b_enumerate := He.free_ok X G (c.t.d.fact 56 rfl),
    b_int := He.free_ok X G (c.t.d.fact 57 rfl),
    b_isinstance := He.free_ok X G (c.t.d.fact 58 rfl),
    b_len := He.free_ok X G (c.t.d.fact 59 rfl),
    b_list := He.free_ok X G (c.t.d.fact 60 rfl),
    b_max := He.free_ok X G (c.t.d.fact 61 rfl),
    b_min := He.free_ok X G (c.t.d.fact 62 rfl),
    b_range := He.free_ok X G (c.t.d.fact 63 rfl),
    b_str := He.free_ok X G (c.t.d.fact 64 rfl),
    b_sum := He.free_ok X G (c.t.d.fact 65 rfl),
    cls_Program := He.cls_ok (c.t.d.fact 66 rfl),
    mk_Program := He.mkr_ok (c.t.d.fact 67 rfl),
    m_Program_init := He.meth_ok (c.t.d.fact 68 rfl),
    m_Program_eq := He.meth_ok (c.t.d.fact 69 rfl),
    m_Program_add := He.meth_ok (c.t.d.fact 70 rfl),
    m_Program_mul := He.meth_ok (c.t.d.fact 71 rfl),
    m_Program_or := He.meth_ok (c.t.d.fact 72 rfl),
    m_Program_call := He.meth_ok (c.t.d.fact 73 rfl),
    m_Program_facts := He.meth_ok (c.t.d.fact 74 rfl),
    m_Program_total_length := He.meth_ok (c.t.d.fact 75 rfl),
    m_Program_failure_name := He.meth_ok (c.t.d.fact 76 rfl),
    m_Program_node_count := He.meth_ok (c.t.d.fact 77 rfl),
    n_Program_broken := He.noat_ok (c.t.d.fact 78 rfl),
    n_Program_depth := He.noat_ok (c.t.d.fact 79 rfl),
    n_Program_kind := He.noat_ok (c.t.d.fact 80 rfl),
    n_Program_nodes := He.noat_ok (c.t.d.fact 81 rfl),
    n_Program_number := He.noat_ok (c.t.d.fact 82 rfl),
    n_Program_parts := He.noat_ok (c.t.d.fact 83 rfl),
    n_Program_span := He.noat_ok (c.t.d.fact 84 rfl),
    n_Program_words := He.noat_ok (c.t.d.fact 85 rfl),
    n_Program_radd := He.noat_ok (c.t.d.fact 86 rfl),
    n_Program_rmul := He.noat_ok (c.t.d.fact 87 rfl),
    n_Program_ror := He.noat_ok (c.t.d.fact 88 rfl),
    f_is_integer := c.t.d.def_ 0 (d := d_is_integer) rfl,
    f_is_between := c.t.d.def_ 1 (d := d_is_between) rfl,
    f_is_name := c.t.d.def_ 2 (d := d_is_name) rfl,
    f_end_of_sequence := c.t.d.def_ 3 (d := d_end_of_sequence) rfl,
    f_end_of_loop := c.t.d.def_ 4 (d := d_end_of_loop) rfl,
    f_first_failure := c.t.d.def_ 5 (d := d_first_failure) rfl,
    f_length_of := c.t.d.def_ 6 (d := d_length_of) rfl,
    f_end_of_group := c.t.d.def_ 7 (d := d_end_of_group) rfl,
    f_end_after := c.t.d.def_ 8 (d := d_end_after) rfl,
    f_sequence_measure := c.t.d.def_ 9 (d := d_sequence_measure) rfl,
    f_group_measure := c.t.d.def_ 10 (d := d_group_measure) rfl,
    f_measure := c.t.d.def_ 11 (d := d_measure) rfl,
    f_Program_init := c.t.d.def_ 12 (d := d_Program_init) rfl,
    f_Program_eq := c.t.d.def_ 13 (d := d_Program_eq) rfl,
    f_Program_add := c.t.d.def_ 14 (d := d_Program_add) rfl,
    f_Program_mul := c.t.d.def_ 15 (d := d_Program_mul) rfl,
    f_Program_or := c.t.d.def_ 16 (d := d_Program_or) rfl,
    f_Program_call := c.t.d.def_ 17 (d := d_Program_call) rfl,
    f_Program_facts := c.t.d.def_ 18 (d := d_Program_facts) rfl,
    f_Program_total_length := c.t.d.def_ 19 (d := d_Program_total_length) rfl,
    f_Program_failure_name := c.t.d.def_ 20 (d := d_Program_failure_name) rfl,
    f_Program_node_count := c.t.d.def_ 21 (d := d_Program_node_count) rfl,
    f_flat := c.t.d.def_ 22 (d := d_flat) rfl,
    f_check_program := c.t.d.def_ 23 (d := d_check_program) rfl,
    f_check_time := c.t.d.def_ 24 (d := d_check_time) rfl,
    f_check_name := c.t.d.def_ 25 (d := d_check_name) rfl,
    f_check_names := c.t.d.def_ 26 (d := d_check_names) rfl,
    f_sleep := c.t.d.def_ 27 (d := d_sleep) rfl,
    f_fail := c.t.d.def_ 28 (d := d_fail) rfl,
    f_shield := c.t.d.def_ 29 (d := d_shield) rfl,
    f_cleanup := c.t.d.def_ 30 (d := d_cleanup) rfl,
    f_fallback := c.t.d.def_ 31 (d := d_fallback) rfl,
    f_timeout := c.t.d.def_ 32 (d := d_timeout) rfl,
    f_move_on := c.t.d.def_ 33 (d := d_move_on) rfl,
    f_together := c.t.d.def_ 34 (d := d_together) rfl,
    f_law_source_of := c.t.d.def_ 35 (d := d_law_source_of) rfl,
    f_law_next := c.t.d.def_ 36 (d := d_law_next) rfl,
    f_law_one := c.t.d.def_ 37 (d := d_law_one) rfl,
    f_law_cell_at := c.t.d.def_ 38 (d := d_law_cell_at) rfl,
    f_law_leaf := c.t.d.def_ 39 (d := d_law_leaf) rfl,
    f_law_form := c.t.d.def_ 40 (d := d_law_form) rfl,
    f_law_made := c.t.d.def_ 41 (d := d_law_made) rfl,
    f_law_cuts := c.t.d.def_ 42 (d := d_law_cuts) rfl,
    f_law_failing := c.t.d.def_ 43 (d := d_law_failing) rfl,
    f_law_turns_right := c.t.d.def_ 44 (d := d_law_turns_right) rfl,
    f_law_covers_right := c.t.d.def_ 45 (d := d_law_covers_right) rfl,
    f_law_limits_right := c.t.d.def_ 46 (d := d_law_limits_right) rfl,
    f_law := c.t.d.def_ 47 (d := d_law) rfl,
    sf_Program := y0,
    kit_Program := of_decide_eq_true y1,
    clsat_Program := He.eqO_ok y2,
    clsget_Program := He.eqO_ok y3,
    clstk_Program := of_decide_eq_true y4,
    mro_Program := of_decide_eq_true y5,
    sub_Program := of_decide_eq_true y6,
    ob_Program := of_decide_eq_true y7,
    ne_Program := He.eqO_ok y8,
    fi_Program_call := z9 }
end CuT

/-! == CuMath -/
set_option maxHeartbeats 4000000
/-! The mirror of cutends.programs in plain Lean, and its main guarantee. -/
namespace Cu
open PySem

inductive Kind where
  | sleep | fail | seq | loop | shield | cleanup | fallback | timeout | moveon | together
  deriving DecidableEq

def Kind.s : Kind → Str
  | .sleep => "sleep"
  | .fail => "fail"
  | .seq => "seq"
  | .loop => "loop"
  | .shield => "shield"
  | .cleanup => "cleanup"
  | .fallback => "fallback"
  | .timeout => "timeout"
  | .moveon => "moveon"
  | .together => "together"

/-- a program as it stands in the heap: its arguments and what it keeps of them -/
inductive Prog where
  | mk (kind : Kind) (parts : List Prog) (number : Int) (words : List Str) (nodes depth span : Int) (broken : Option Str)

namespace Prog
def kind : Prog → Kind | .mk k _ _ _ _ _ _ _ => k
def parts : Prog → List Prog | .mk _ ps _ _ _ _ _ _ => ps
def number : Prog → Int | .mk _ _ n _ _ _ _ _ => n
def words : Prog → List Str | .mk _ _ _ ws _ _ _ _ => ws
def nodes : Prog → Int | .mk _ _ _ _ nd _ _ _ => nd
def depth : Prog → Int | .mk _ _ _ _ _ d _ _ => d
def span : Prog → Int | .mk _ _ _ _ _ _ s _ => s
def broken : Prog → Option Str | .mk _ _ _ _ _ _ _ b => b
end Prog

/-- the greatest of a list -/
def maxL : List Int → Int
  | [] => 0
  | x :: r => r.foldl max x
theorem foldl_max_ge : ∀ (l : List Int) (x : Int), x ≤ l.foldl max x
  | [], x => Int.le_refl x
  | y :: r, x => Int.le_trans (Int.le_max_left x y) (foldl_max_ge r (max x y))
theorem foldl_max_mem_ge : ∀ (l : List Int) (x y : Int), y ∈ l → y ≤ l.foldl max x
  | [], _, _, h => nomatch h
  | z :: r, x, y, h => by
    rcases List.mem_cons.mp h with e | e
    · subst e
      exact Int.le_trans (Int.le_max_right x y) (foldl_max_ge r (max x y))
    · exact foldl_max_mem_ge r (max x z) y e
theorem foldl_max_mem : ∀ (l : List Int) (x : Int), l.foldl max x = x ∨ l.foldl max x ∈ l
  | [], _ => .inl rfl
  | y :: r, x => by
    rcases foldl_max_mem r (max x y) with e | e
    · show r.foldl max (max x y) = x ∨ r.foldl max (max x y) ∈ y :: r
      rw [e]
      by_cases h : x ≤ y
      · rw [Int.max_eq_right h]
        exact .inr List.mem_cons_self
      · rw [Int.max_eq_left (by omega)]
        exact .inl rfl
    · exact .inr (List.mem_cons_of_mem _ e)
theorem le_maxL {l : List Int} {x : Int} (h : x ∈ l) : x ≤ maxL l := by
  cases l with
  | nil => cases h
  | cons y r =>
    rcases List.mem_cons.mp h with e | e
    · subst e
      exact foldl_max_ge r x
    · exact foldl_max_mem_ge r y x e
theorem maxL_mem {l : List Int} (h : l ≠ []) : maxL l ∈ l := by
  cases l with
  | nil => exact absurd rfl h
  | cons y r =>
    rcases foldl_max_mem r y with e | e
    · show r.foldl max y ∈ y :: r
      rw [e]
      exact List.mem_cons_self
    · exact List.mem_cons_of_mem _ e
theorem maxL_unique {l : List Int} {m : Int} (h : m ∈ l) (hm : ∀ a ∈ l, a ≤ m) : m = maxL l := by
  have h1 := le_maxL h
  have h2 := hm _ (maxL_mem (l := l) (fun e => by rw [e] at h; cases h))
  omega
theorem maxL_le {l : List Int} {b : Int} (hne : l ≠ []) (h : ∀ a ∈ l, a ≤ b) : maxL l ≤ b := h _ (maxL_mem hne)

/-- the first of the shortest -/
def minBy : List Prog → Option Prog
  | [] => none
  | p :: r => some (r.foldl (fun m x => if x.span < m.span then x else m) p)
/-- the first part that fails earliest -/
def firstFail (ps : List Prog) : Option Prog := minBy (ps.filter fun p => p.broken.isSome)

theorem foldl_min_spec : ∀ (l : List Prog) (p : Prog), (let m := l.foldl (fun m x => if x.span < m.span then x else m) p; (m = p ∨ m ∈ l) ∧ m.span ≤ p.span ∧ ∀ x ∈ l, m.span ≤ x.span)
  | [], p => ⟨.inl rfl, Int.le_refl _, fun _ h => nomatch h⟩
  | y :: r, p => by
    by_cases h : y.span < p.span
    · obtain ⟨h1, h2, h3⟩ := foldl_min_spec r y
      show (let m := r.foldl (fun m x => if x.span < m.span then x else m) (if y.span < p.span then y else p); (m = p ∨ m ∈ y :: r) ∧ m.span ≤ p.span ∧ ∀ x ∈ y :: r, m.span ≤ x.span)
      rw [if_pos h]
      refine ⟨.inr ?_, by omega, fun x hx => ?_⟩
      · rcases h1 with e | e
        · rw [e]
          exact List.mem_cons_self
        · exact List.mem_cons_of_mem _ e
      · rcases List.mem_cons.mp hx with e | e
        · subst e
          exact h2
        · exact h3 x e
    · obtain ⟨h1, h2, h3⟩ := foldl_min_spec r p
      show (let m := r.foldl (fun m x => if x.span < m.span then x else m) (if y.span < p.span then y else p); (m = p ∨ m ∈ y :: r) ∧ m.span ≤ p.span ∧ ∀ x ∈ y :: r, m.span ≤ x.span)
      rw [if_neg h]
      refine ⟨?_, h2, fun x hx => ?_⟩
      · rcases h1 with e | e
        · exact .inl e
        · exact .inr (List.mem_cons_of_mem _ e)
      · rcases List.mem_cons.mp hx with e | e
        · subst e
          omega
        · exact h3 x e
theorem minBy_spec {l : List Prog} {m : Prog} (h : minBy l = some m) : m ∈ l ∧ ∀ x ∈ l, m.span ≤ x.span := by
  cases l with
  | nil => cases h
  | cons p r =>
    have e : r.foldl (fun m x => if x.span < m.span then x else m) p = m := Option.some.inj h
    obtain ⟨h1, h2, h3⟩ := foldl_min_spec r p
    rw [e] at h1 h2 h3
    refine ⟨?_, fun x hx => ?_⟩
    · rcases h1 with z | z
      · rw [z]
        exact List.mem_cons_self
      · exact List.mem_cons_of_mem _ z
    · rcases List.mem_cons.mp hx with z | z
      · subst z
        exact h2
      · exact h3 x z
theorem minBy_none {l : List Prog} (h : minBy l = none) : l = [] := by
  cases l with
  | nil => rfl
  | cons p r => cases h
theorem firstFail_some {ps : List Prog} {m : Prog} (h : firstFail ps = some m) : m ∈ ps ∧ m.broken.isSome = true ∧ ∀ x ∈ ps, x.broken.isSome = true → m.span ≤ x.span := by
  obtain ⟨h1, h2⟩ := minBy_spec h
  obtain ⟨h3, h4⟩ := List.mem_filter.mp h1
  exact ⟨h3, h4, fun x hx hb => h2 x (List.mem_filter.mpr ⟨hx, hb⟩)⟩
theorem firstFail_none {ps : List Prog} (h : firstFail ps = none) : ∀ x ∈ ps, x.broken = none := fun x hx => by
  have e := minBy_none h
  cases q : x.broken with
  | none => rfl
  | some w =>
    have : x ∈ ps.filter fun p => p.broken.isSome := List.mem_filter.mpr ⟨hx, by rw [q]; rfl⟩
    rw [e] at this
    cases this

def spanAt (ps : List Prog) (i : Nat) : Int := match ps[i]? with
  | some p => p.span
  | none => 0
def brokenAt (ps : List Prog) (i : Nat) : Option Str := match ps[i]? with
  | some p => p.broken
  | none => none

mutual
/-- the end after a cut -/
def endA : Prog → Int → Int
  | .mk k ps n _ _ _ s _, c =>
    if s ≤ c then s else if c = 0 then 0 else
    match k with
    | .sleep => c
    | .seq => endS ps 0 c
    | .fallback => endS ps 0 c
    | .loop =>
      let r := if spanAt ps 0 = 0 then 0 else min (c / spanAt ps 0) (n - 1)
      r * spanAt ps 0 + endH ps (c - r * spanAt ps 0)
    | .shield => s
    | .cleanup => min (endH ps c + spanAt ps 1) s
    | .together => (match firstFail ps with
      | some f => if f.span ≤ c then s else maxL (endL ps c)
      | none => maxL (endL ps c))
    | .fail => if n ≤ c then s else endH ps c
    | .timeout => if n ≤ c then s else endH ps c
    | .moveon => if n ≤ c then s else endH ps c
/-- .. of the first part -/
def endH : List Prog → Int → Int
  | [], _ => 0
  | p :: _, c => endA p c
/-- .. of parts that follow one another, from a begin on -/
def endS : List Prog → Int → Int → Int
  | [], b, _ => b
  | p :: r, b, c => if c < b + p.span then b + endA p (c - b) else endS r (b + p.span) c
/-- .. of those that are longer -/
def endL : List Prog → Int → List Int
  | [], _ => []
  | p :: r, c => if p.span > c then endA p c :: endL r c else endL r c
end

/-- length and failure of a sequence -/
def seqM : List Prog → Int → Int × Option Str
  | [], t => (t, none)
  | p :: r, t => match p.broken with
    | some w => (t + p.span, some w)
    | none => seqM r (t + p.span)
def grpM (ps : List Prog) : Int × Option Str := match firstFail ps with
  | none => (maxL (ps.map Prog.span), none)
  | some f => (maxL (ps.map fun p => endA p f.span), f.broken)
def meas (k : Kind) (ps : List Prog) (n : Int) (ws : List Str) : Int × Option Str := match k with
  | .sleep => (n, none)
  | .fail => (0, ws.head?)
  | .seq => seqM ps 0
  | .loop => if n = 0 then (0, none) else (spanAt ps 0 * (if brokenAt ps 0 = none then n else 1), brokenAt ps 0)
  | .shield => (spanAt ps 0, brokenAt ps 0)
  | .cleanup => (spanAt ps 0 + spanAt ps 1, if brokenAt ps 1 = none then brokenAt ps 0 else brokenAt ps 1)
  | .fallback => (match brokenAt ps 0 with
    | some w => if w ∈ ws then (spanAt ps 0 + spanAt ps 1, brokenAt ps 1) else (spanAt ps 0, some w)
    | none => (spanAt ps 0, none))
  | .together => grpM ps
  | .timeout => if n < spanAt ps 0 then (endH ps n, ws.head?) else (spanAt ps 0, brokenAt ps 0)
  | .moveon => if n < spanAt ps 0 then (endH ps n, ws.head?) else (spanAt ps 0, brokenAt ps 0)

def mostT : Int := 1000000000000000000000000000000
/-- a name: one to twelve letters from a to z -/
def IsName (w : Str) : Prop := 1 ≤ w.length ∧ w.length ≤ 12 ∧ ∀ c ∈ w.cps.toList, 97 ≤ c ∧ c ≤ 122
/-- the arguments that the constructors take -/
def Shape (k : Kind) (ps : List Prog) (n : Int) (ws : List Str) : Prop := match k with
  | .sleep => ps = [] ∧ 0 ≤ n ∧ n ≤ mostT ∧ ws = []
  | .fail => ps = [] ∧ n = 0 ∧ ∃ w, ws = [w] ∧ IsName w
  | .seq => ps ≠ [] ∧ n = 0 ∧ ws = []
  | .loop => (∃ p, ps = [p]) ∧ 0 ≤ n ∧ n ≤ mostT ∧ ws = []
  | .shield => (∃ p, ps = [p]) ∧ n = 0 ∧ ws = []
  | .cleanup => (∃ p q, ps = [p, q]) ∧ n = 0 ∧ ws = []
  | .fallback => (∃ p q, ps = [p, q]) ∧ n = 0 ∧ ws.length ≤ 20
  | .timeout => (∃ p, ps = [p]) ∧ 0 ≤ n ∧ n ≤ mostT ∧ ∃ w, ws = [w] ∧ IsName w
  | .moveon => (∃ p, ps = [p]) ∧ 0 ≤ n ∧ n ≤ mostT ∧ ws = []
  | .together => ps ≠ [] ∧ ps.length ≤ 20 ∧ n = 0 ∧ ws = []

def nodesOf (ps : List Prog) : Int := 1 + (ps.map Prog.nodes).sum
def depthOf (ps : List Prog) : Int := 1 + maxL (0 :: ps.map Prog.depth)

inductive WF : Prog → Prop where
  | mk {k : Kind} {ps : List Prog} {n : Int} {ws : List Str} {nd d s : Int} {b : Option Str} (sub : ∀ p ∈ ps, WF p) (sh : Shape k ps n ws) (hn : nd = nodesOf ps) (hd : d = depthOf ps) (hm : (s, b) = meas k ps n ws)
      (ln : nd ≤ 300) (ld : d ≤ 60) : WF (.mk k ps n ws nd d s b)

/-- the program of these arguments -/
def mkP (k : Kind) (ps : List Prog) (n : Int) (ws : List Str) : Prog := .mk k ps n ws (nodesOf ps) (depthOf ps) (meas k ps n ws).1 (meas k ps n ws).2
theorem mkP_wf {k : Kind} {ps : List Prog} {n : Int} {ws : List Str} (sub : ∀ p ∈ ps, WF p) (sh : Shape k ps n ws) (ln : nodesOf ps ≤ 300) (ld : depthOf ps ≤ 60) : WF (mkP k ps n ws) := .mk sub sh rfl rfl rfl ln ld

/-! ### the main guarantee -/
structure Good (p : Prog) : Prop where
  sp : 0 ≤ p.span
  lo : ∀ c, 0 ≤ c → c ≤ p.span → c ≤ endA p c
  hi : ∀ c, 0 ≤ c → endA p c ≤ p.span
  mono : ∀ c c', 0 ≤ c → c ≤ c' → endA p c ≤ endA p c'

theorem endA_late {p : Prog} {c : Int} (h : p.span ≤ c) : endA p c = p.span := by
  obtain ⟨k, ps, n, ws, nd, d, s, b⟩ := p
  unfold endA
  exact if_pos h
theorem endA_zero {p : Prog} (h : 0 ≤ p.span) : endA p 0 = 0 := by
  obtain ⟨k, ps, n, ws, nd, d, s, b⟩ := p
  unfold endA
  by_cases h' : s ≤ 0
  · rw [if_pos h']
    have h2 : 0 ≤ s := h
    omega
  · rw [if_neg h', if_pos rfl]
theorem Good.nonneg {p : Prog} (g : Good p) {c : Int} (h : 0 ≤ c) : 0 ≤ endA p c := by
  have := g.mono 0 c (Int.le_refl 0) h
  rw [endA_zero g.sp] at this
  exact this

/-- the sum of the lengths -/
def sumS (ps : List Prog) : Int := (ps.map Prog.span).sum
theorem sumS_nonneg : ∀ {ps : List Prog}, (∀ p ∈ ps, Good p) → 0 ≤ sumS ps
  | [], _ => Int.le_refl 0
  | p :: r, h => by
    have h1 := (h p List.mem_cons_self).sp
    have h2 := sumS_nonneg (ps := r) fun q hq => h q (List.mem_cons_of_mem _ hq)
    show 0 ≤ (p.span :: r.map Prog.span).sum
    rw [List.sum_cons]
    unfold sumS at h2
    omega
theorem sumS_cons (p : Prog) (r : List Prog) : sumS (p :: r) = p.span + sumS r := by
  unfold sumS
  rw [List.map_cons, List.sum_cons]

theorem endS_bounds : ∀ {ps : List Prog} {b c : Int}, (∀ p ∈ ps, Good p) → b ≤ c → endS ps b c ≤ b + sumS ps ∧ b ≤ endS ps b c ∧ (c ≤ b + sumS ps → c ≤ endS ps b c)
  | [], b, c, _, h => by
    unfold endS
    have e : sumS ([] : List Prog) = 0 := rfl
    rw [e]
    exact ⟨by omega, Int.le_refl b, fun q => by omega⟩
  | p :: r, b, c, hg, h => by
    have g := hg p List.mem_cons_self
    have hr : ∀ q ∈ r, Good q := fun q hq => hg q (List.mem_cons_of_mem _ hq)
    have sr := sumS_nonneg hr
    have sp := g.sp
    rw [sumS_cons]
    unfold endS
    by_cases q : c < b + p.span
    · rw [if_pos q]
      have h1 := g.hi (c - b) (by omega)
      have h2 := g.lo (c - b) (by omega) (by omega)
      exact ⟨by omega, by omega, fun _ => by omega⟩
    · rw [if_neg q]
      obtain ⟨i1, i2, i3⟩ := endS_bounds (ps := r) (b := b + p.span) (c := c) hr (by omega)
      exact ⟨by omega, by omega, fun z => i3 (by omega)⟩
theorem endS_mono : ∀ {ps : List Prog} {b c c' : Int}, (∀ p ∈ ps, Good p) → b ≤ c → c ≤ c' → endS ps b c ≤ endS ps b c'
  | [], b, c, c', _, _, _ => by unfold endS; exact Int.le_refl _
  | p :: r, b, c, c', hg, h, h' => by
    have g := hg p List.mem_cons_self
    have hr : ∀ q ∈ r, Good q := fun q hq => hg q (List.mem_cons_of_mem _ hq)
    unfold endS
    by_cases q : c < b + p.span
    · rw [if_pos q]
      by_cases q' : c' < b + p.span
      · rw [if_pos q']
        have := g.mono (c - b) (c' - b) (by omega) (by omega)
        omega
      · rw [if_neg q']
        have h1 := g.hi (c - b) (by omega)
        have h2 := (endS_bounds (ps := r) (b := b + p.span) (c := c') hr (by omega)).2.1
        omega
    · rw [if_neg q, if_neg (by omega)]
      exact endS_mono hr (by omega) h'

theorem seqM_bounds : ∀ {ps : List Prog} {t : Int}, (∀ p ∈ ps, Good p) → t ≤ (seqM ps t).1 ∧ (seqM ps t).1 ≤ t + sumS ps
  | [], t, _ => by
    have e : sumS ([] : List Prog) = 0 := rfl
    show t ≤ t ∧ t ≤ t + _
    rw [e]
    omega
  | p :: r, t, hg => by
    have g := hg p List.mem_cons_self
    have hr : ∀ q ∈ r, Good q := fun q hq => hg q (List.mem_cons_of_mem _ hq)
    have sr := sumS_nonneg hr
    have sp := g.sp
    rw [sumS_cons]
    unfold seqM
    cases hb : p.broken with
    | some w =>
      show t ≤ t + p.span ∧ t + p.span ≤ _
      omega
    | none =>
      have := seqM_bounds (ps := r) (t := t + p.span) hr
      show t ≤ (seqM r (t + p.span)).1 ∧ (seqM r (t + p.span)).1 ≤ _
      omega
/-- the end of a sequence after a cut below its length does not reach behind its length -/
theorem endS_le_seqM : ∀ {ps : List Prog} {b c : Int}, (∀ p ∈ ps, Good p) → b ≤ c → c < (seqM ps b).1 → endS ps b c ≤ (seqM ps b).1
  | [], b, c, _, h, q => by
    have q' : c < b := q
    omega
  | p :: r, b, c, hg, h, q => by
    have g := hg p List.mem_cons_self
    have hr : ∀ q ∈ r, Good q := fun q hq => hg q (List.mem_cons_of_mem _ hq)
    unfold seqM at q ⊢
    unfold endS
    by_cases z : c < b + p.span
    · rw [if_pos z]
      have h1 := g.hi (c - b) (by omega)
      cases hb : p.broken with
      | some w =>
        show b + endA p (c - b) ≤ b + p.span
        omega
      | none =>
        have := (seqM_bounds (ps := r) (t := b + p.span) hr).1
        show b + endA p (c - b) ≤ (seqM r (b + p.span)).1
        omega
    · rw [if_neg z]
      cases hb : p.broken with
      | some w =>
        rw [hb] at q
        have q' : c < b + p.span := q
        omega
      | none =>
        rw [hb] at q
        exact endS_le_seqM (ps := r) (b := b + p.span) (c := c) hr (by omega) q

theorem mem_endL : ∀ {ps : List Prog} {c x : Int}, x ∈ endL ps c ↔ ∃ p ∈ ps, p.span > c ∧ x = endA p c
  | [], c, x => by
    unfold endL
    exact ⟨fun h => (nomatch h), fun ⟨_, h, _⟩ => (nomatch h)⟩
  | p :: r, c, x => by
    unfold endL
    by_cases h : p.span > c
    · rw [if_pos h, List.mem_cons, mem_endL (ps := r)]
      constructor
      · rintro (e | ⟨q, h1, h2⟩)
        · exact ⟨p, List.mem_cons_self, h, e⟩
        · exact ⟨q, List.mem_cons_of_mem _ h1, h2⟩
      · rintro ⟨q, h1, h2, h3⟩
        rcases List.mem_cons.mp h1 with e | e
        · subst e
          exact .inl h3
        · exact .inr ⟨q, e, h2, h3⟩
    · rw [if_neg h, mem_endL (ps := r)]
      constructor
      · rintro ⟨q, h1, h2⟩
        exact ⟨q, List.mem_cons_of_mem _ h1, h2⟩
      · rintro ⟨q, h1, h2, h3⟩
        rcases List.mem_cons.mp h1 with e | e
        · subst e
          exact absurd h2 h
        · exact ⟨q, e, h2, h3⟩

/-- the time from which on a cut of a group changes nothing -/
theorem grp_facts {ps : List Prog} (hne : ps ≠ []) (hg : ∀ p ∈ ps, Good p) : 0 ≤ (grpM ps).1 ∧
    (∀ f, firstFail ps = some f → f.span ≤ (grpM ps).1 ∧ f.span ∈ ps.map Prog.span ∧ (grpM ps).1 = maxL (ps.map fun p => endA p f.span)) ∧
    (firstFail ps = none → (grpM ps).1 = maxL (ps.map Prog.span)) := by
  have hne' : ps.map Prog.span ≠ [] := fun e => hne (List.map_eq_nil_iff.mp e)
  cases hf : firstFail ps with
  | none =>
    have e : (grpM ps).1 = maxL (ps.map Prog.span) := by unfold grpM; rw [hf]
    refine ⟨?_, fun f h => (nomatch h), fun _ => e⟩
    rw [e]
    obtain ⟨p, hp, ep⟩ := List.mem_map.mp (maxL_mem hne')
    rw [← ep]
    exact (hg p hp).sp
  | some f =>
    have e : (grpM ps).1 = maxL (ps.map fun p => endA p f.span) := by unfold grpM; rw [hf]
    obtain ⟨h1, h2, h3⟩ := firstFail_some hf
    have hs : f.span ≤ (grpM ps).1 := by
      rw [e]
      refine Int.le_trans ?_ (le_maxL (List.mem_map.mpr ⟨f, h1, rfl⟩))
      show f.span ≤ endA f f.span
      rw [endA_late (Int.le_refl _)]
      exact Int.le_refl _
    refine ⟨Int.le_trans (hg f h1).sp hs, fun g h => ?_, fun h => nomatch h⟩
    cases h
    exact ⟨hs, List.mem_map.mpr ⟨f, h1, rfl⟩, e⟩

theorem endG_facts {ps : List Prog} {c : Int} (hne : ps ≠ []) (hg : ∀ p ∈ ps, Good p) (hc : 0 ≤ c) (h : c < (grpM ps).1) (hf : ∀ f, firstFail ps = some f → c < f.span) :
    endL ps c ≠ [] ∧ c ≤ maxL (endL ps c) ∧ maxL (endL ps c) ≤ (grpM ps).1 := by
  obtain ⟨_, g1, g2⟩ := grp_facts hne hg
  have ex : ∃ p ∈ ps, p.span > c := by
    cases q : firstFail ps with
    | some f => exact ⟨f, (firstFail_some q).1, hf f q⟩
    | none =>
      rw [g2 q] at h
      obtain ⟨p, hp, ep⟩ := List.mem_map.mp (maxL_mem (l := ps.map Prog.span) fun e => hne (List.map_eq_nil_iff.mp e))
      exact ⟨p, hp, by rw [ep]; exact h⟩
  obtain ⟨p, hp, hs⟩ := ex
  have m : endA p c ∈ endL ps c := mem_endL.mpr ⟨p, hp, hs, rfl⟩
  have ne : endL ps c ≠ [] := fun e => by rw [e] at m; cases m
  refine ⟨ne, ?_, ?_⟩
  · exact Int.le_trans ((hg p hp).lo c hc (by omega)) (le_maxL m)
  · refine maxL_le ne fun x hx => ?_
    obtain ⟨q, hq, hs', rfl⟩ := mem_endL.mp hx
    cases z : firstFail ps with
    | some f =>
      rw [(g1 f z).2.2]
      refine Int.le_trans ((hg q hq).mono c f.span hc (Int.le_of_lt (hf f z))) ?_
      exact le_maxL (List.mem_map.mpr ⟨q, hq, rfl⟩)
    | none =>
      rw [g2 z]
      exact Int.le_trans ((hg q hq).hi c hc) (le_maxL (List.mem_map.mpr ⟨q, hq, rfl⟩))

theorem endG_mono {ps : List Prog} {c c' : Int} (hg : ∀ p ∈ ps, Good p) (hc : 0 ≤ c) (h : c ≤ c') (ne : endL ps c ≠ []) (ne' : endL ps c' ≠ []) (hs : c' ≤ maxL (endL ps c')) : maxL (endL ps c) ≤ maxL (endL ps c') := by
  refine maxL_le ne fun x hx => ?_
  obtain ⟨q, hq, hs', rfl⟩ := mem_endL.mp hx
  by_cases z : q.span > c'
  · exact Int.le_trans ((hg q hq).mono c c' hc h) (le_maxL (mem_endL.mpr ⟨q, hq, z, rfl⟩))
  · have := (hg q hq).hi c hc
    omega

theorem meas_of {k : Kind} {ps : List Prog} {n : Int} {ws : List Str} {s : Int} {b : Option Str} (h : (s, b) = meas k ps n ws) : s = (meas k ps n ws).1 ∧ b = (meas k ps n ws).2 := by
  rw [← h]
  exact ⟨rfl, rfl⟩

/-- from an end for the cuts between 0 and the length to all cuts -/
theorem good_of {p : Prog} (f : Int → Int) (sp : 0 ≤ p.span) (he : ∀ c, 0 < c → c < p.span → endA p c = f c) (lo : ∀ c, 0 < c → c < p.span → c ≤ f c) (hi : ∀ c, 0 < c → c < p.span → f c ≤ p.span)
    (mono : ∀ c c', 0 < c → c ≤ c' → c' < p.span → f c ≤ f c') : Good p := by
  have z := endA_zero sp
  refine ⟨sp, fun c h0 h1 => ?_, fun c h0 => ?_, fun c c' h0 h1 => ?_⟩
  · by_cases e : c = 0
    · subst e
      rw [z]
      exact Int.le_refl 0
    · by_cases l : c < p.span
      · rw [he c (by omega) l]
        exact lo c (by omega) l
      · rw [endA_late (by omega)]
        exact h1
  · by_cases e : c = 0
    · subst e
      rw [z]
      exact sp
    · by_cases l : c < p.span
      · rw [he c (by omega) l]
        exact hi c (by omega) l
      · rw [endA_late (by omega)]
        exact Int.le_refl _
  · by_cases e : c = 0
    · subst e
      rw [z]
      by_cases e' : c' = 0
      · subst e'
        rw [z]
        exact Int.le_refl 0
      · by_cases l : c' < p.span
        · rw [he c' (by omega) l]
          exact Int.le_trans h1 (lo c' (by omega) l)
        · rw [endA_late (by omega)]
          exact sp
    · by_cases l' : c' < p.span
      · rw [he c (by omega) (by omega), he c' (by omega) l']
        exact mono c c' (by omega) h1 l'
      · rw [endA_late (p := p) (c := c') (by omega)]
        by_cases l : c < p.span
        · rw [he c (by omega) l]
          exact hi c (by omega) l
        · rw [endA_late (by omega)]
          exact Int.le_refl _
theorem mid {k : Kind} {ps : List Prog} {n : Int} {ws : List Str} {nd d s : Int} {b : Option Str} {c : Int} (h0 : 0 < c) (h1 : c < s) {X : Int} (h : (match k with
    | .sleep => c
    | .seq => endS ps 0 c
    | .fallback => endS ps 0 c
    | .loop =>
      let r := if spanAt ps 0 = 0 then 0 else min (c / spanAt ps 0) (n - 1)
      r * spanAt ps 0 + endH ps (c - r * spanAt ps 0)
    | .shield => s
    | .cleanup => min (endH ps c + spanAt ps 1) s
    | .together => (match firstFail ps with
      | some f => if f.span ≤ c then s else maxL (endL ps c)
      | none => maxL (endL ps c))
    | .fail => if n ≤ c then s else endH ps c
    | .timeout => if n ≤ c then s else endH ps c
    | .moveon => if n ≤ c then s else endH ps c) = X) : endA (.mk k ps n ws nd d s b) c = X := by
  unfold endA
  rw [if_neg (by omega), if_neg (by omega)]
  exact h

theorem hd_facts {p : Prog} : spanAt [p] 0 = p.span ∧ brokenAt [p] 0 = p.broken ∧ ∀ c, endH [p] c = endA p c := ⟨rfl, rfl, fun c => by unfold endH; rfl⟩
theorem two_facts {p q : Prog} : spanAt [p, q] 0 = p.span ∧ spanAt [p, q] 1 = q.span ∧ brokenAt [p, q] 0 = p.broken ∧ brokenAt [p, q] 1 = q.broken ∧ ∀ c, endH [p, q] c = endA p c := ⟨rfl, rfl, rfl, rfl, fun c => by unfold endH; rfl⟩

/-- the round of a loop in which a cut comes -/
theorem round_facts {c S : Int} (hS : 0 < S) (h : 0 ≤ c) : 0 ≤ c / S ∧ c / S * S ≤ c ∧ c < c / S * S + S := by
  have e := Int.mul_ediv_add_emod c S
  have h1 := Int.emod_nonneg c (show S ≠ 0 by omega)
  have h2 := Int.emod_lt_of_pos c hS
  have h3 : 0 ≤ c / S := Int.ediv_nonneg h (by omega)
  rw [Int.mul_comm] at e
  exact ⟨h3, by omega, by omega⟩
theorem loop_span {n S s : Int} {bn : Bool} (hn : 0 ≤ n) (hS : 0 ≤ S) (h : s = if n = 0 then 0 else S * (if bn = true then n else 1)) : 0 ≤ s ∧ (∀ c, 0 < c → c < s → 0 < S ∧ min (c / S) (n - 1) = c / S ∧ c / S * S + S ≤ s) := by
  by_cases hz : n = 0
  · rw [if_pos hz] at h
    exact ⟨by omega, fun c h0 h1 => by omega⟩
  · rw [if_neg hz] at h
    cases bn with
    | false =>
      have h' : s = S := by rw [h]; simp
      refine ⟨by omega, fun c h0 h1 => ?_⟩
      have e : c / S = 0 := Int.ediv_eq_zero_of_lt (by omega) (by omega)
      rw [e]
      exact ⟨by omega, by omega, by omega⟩
    | true =>
      have h' : s = S * n := by rw [h]; simp
      have p : 0 ≤ S * n := Int.mul_nonneg hS hn
      refine ⟨by omega, fun c h0 h1 => ?_⟩
      have hS' : 0 < S := by
        rcases Int.lt_or_eq_of_le hS with q | q
        · exact q
        · rw [← q, Int.zero_mul] at h'
          omega
      have hr : c / S < n := Int.ediv_lt_of_lt_mul hS' (by rw [Int.mul_comm]; omega)
      refine ⟨hS', by omega, ?_⟩
      have q : (c / S + 1) * S ≤ n * S := Int.mul_le_mul_of_nonneg_right (by omega) hS
      rw [Int.add_mul, Int.one_mul, Int.mul_comm n S] at q
      omega

theorem wf_good {p : Prog} (h : WF p) : Good p := by
  induction h with
  | @mk k ps n ws nd d s b sub sh hn hd hm ln ld ih =>
    have es := (meas_of hm).1
    clear hm hn hd ln ld
    cases k with
    | sleep =>
      obtain ⟨_, h1, _, _⟩ := sh
      have es' : s = n := es
      exact good_of (fun c => c) (by show 0 ≤ s; omega) (fun c h0 h1 => mid h0 h1 rfl) (fun c _ _ => Int.le_refl c) (fun c _ h => Int.le_of_lt h) (fun c c' _ h _ => h)
    | fail =>
      have es' : s = 0 := es
      exact good_of (fun c => c) (by show 0 ≤ s; omega) (fun c h0 (h1 : c < s) => by omega) (fun c _ _ => Int.le_refl c) (fun c _ h => Int.le_of_lt h) (fun c c' _ h _ => h)
    | seq =>
      have es' : s = (seqM ps 0).1 := es
      have sb := seqM_bounds (t := 0) ih
      refine good_of (fun c => endS ps 0 c) (by show 0 ≤ s; omega) (fun c h0 h1 => mid h0 h1 rfl) (fun c h0 (h1 : c < s) => (endS_bounds ih (by omega)).2.2 (by omega)) (fun c h0 (h1 : c < s) => ?_) (fun c c' h0 h _ => endS_mono ih (by omega) h)
      show endS ps 0 c ≤ s
      rw [es']
      exact endS_le_seqM ih (by omega) (by omega)
    | loop =>
      obtain ⟨⟨p, rfl⟩, h0, _, _⟩ := sh
      have g := ih p List.mem_cons_self
      have es' : s = if n = 0 then 0 else p.span * (if p.broken.isNone = true then n else 1) := by
        have e : s = (if n = 0 then ((0 : Int), (none : Option Str)) else (p.span * (if p.broken = none then n else 1), p.broken)).1 := es
        rw [e]
        by_cases hz : n = 0
        · rw [if_pos hz, if_pos hz]
        · rw [if_neg hz, if_neg hz]
          cases hb : p.broken with
          | none => rfl
          | some w => rfl
      obtain ⟨s0, hc⟩ := loop_span (S := p.span) h0 g.sp es'
      have key : ∀ c, 0 < c → c < s → endA (.mk .loop [p] n ws nd d s b) c = c / p.span * p.span + endA p (c - c / p.span * p.span) := fun c c0 c1 => by
        obtain ⟨z1, z2, _⟩ := hc c c0 c1
        refine mid c0 c1 ?_
        have e1 : spanAt [p] 0 = p.span := rfl
        rw [e1, if_neg (show ¬ p.span = 0 by omega), z2]
        unfold endH
        rfl
      refine good_of (fun c => c / p.span * p.span + endA p (c - c / p.span * p.span)) s0 (fun c c0 (c1 : c < s) => ?_) (fun c c0 (c1 : c < s) => ?_) (fun c c0 (c1 : c < s) => ?_) (fun c c' c0 cc (c1 : c' < s) => ?_)
      · exact key c c0 c1
      · obtain ⟨z1, _, _⟩ := hc c c0 c1
        obtain ⟨r0, r1, r2⟩ := round_facts z1 (show 0 ≤ c by omega)
        have := g.lo (c - c / p.span * p.span) (by omega) (by omega)
        show c ≤ c / p.span * p.span + endA p (c - c / p.span * p.span)
        omega
      · obtain ⟨z1, _, z3⟩ := hc c c0 c1
        obtain ⟨r0, r1, r2⟩ := round_facts z1 (show 0 ≤ c by omega)
        have := g.hi (c - c / p.span * p.span) (by omega)
        show c / p.span * p.span + endA p (c - c / p.span * p.span) ≤ s
        omega
      · obtain ⟨z1, _, _⟩ := hc c c0 (by omega)
        obtain ⟨r0, r1, r2⟩ := round_facts z1 (show 0 ≤ c by omega)
        obtain ⟨q0, q1, q2⟩ := round_facts z1 (show 0 ≤ c' by omega)
        show c / p.span * p.span + endA p (c - c / p.span * p.span) ≤ c' / p.span * p.span + endA p (c' - c' / p.span * p.span)
        by_cases e : c / p.span = c' / p.span
        · rw [e]
          rw [e] at r1 r2
          have := g.mono (c - c' / p.span * p.span) (c' - c' / p.span * p.span) (by omega) (by omega)
          omega
        · have l : c / p.span ≤ c' / p.span := Int.ediv_le_ediv z1 cc
          have m : (c / p.span + 1) * p.span ≤ c' / p.span * p.span := Int.mul_le_mul_of_nonneg_right (by omega) g.sp
          rw [Int.add_mul, Int.one_mul] at m
          have h1 := g.hi (c - c / p.span * p.span) (by omega)
          have h2 := g.nonneg (c := c' - c' / p.span * p.span) (by omega)
          omega
    | shield =>
      obtain ⟨⟨p, rfl⟩, _, _⟩ := sh
      have g := ih p List.mem_cons_self
      have es' : s = p.span := es
      exact good_of (fun c => s) (by show 0 ≤ s; rw [es']; exact g.sp) (fun c h0 h1 => mid h0 h1 rfl) (fun c _ h => Int.le_of_lt h) (fun c _ _ => Int.le_refl s) (fun c c' _ _ _ => Int.le_refl s)
    | cleanup =>
      obtain ⟨⟨p, q, rfl⟩, _, _⟩ := sh
      have g := ih p List.mem_cons_self
      have g2 := ih q (List.mem_cons_of_mem _ List.mem_cons_self)
      have es' : s = p.span + q.span := es
      have sp := g.sp
      have sq := g2.sp
      refine good_of (fun c => min (endA p c + q.span) s) (by show 0 ≤ s; omega) (fun c h0 h1 => mid h0 h1 (by unfold endH; rfl)) (fun c h0 (h1 : c < s) => ?_) (fun c _ _ => Int.min_le_right _ _) (fun c c' h0 h _ => ?_)
      · show c ≤ min (endA p c + q.span) s
        by_cases l : c ≤ p.span
        · have := g.lo c (by omega) l
          omega
        · rw [endA_late (by omega)]
          omega
      · show min (endA p c + q.span) s ≤ min (endA p c' + q.span) s
        have := g.mono c c' (by omega) h
        omega
    | fallback =>
      obtain ⟨⟨p, q, rfl⟩, _, _⟩ := sh
      have g := ih p List.mem_cons_self
      have g2 := ih q (List.mem_cons_of_mem _ List.mem_cons_self)
      have sp := g.sp
      have sq := g2.sp
      have su : sumS [p, q] = p.span + (q.span + 0) := by rw [sumS_cons, sumS_cons] <;> rfl
      have es' : s = p.span + q.span ∨ s = p.span := by
        have e : s = ((match p.broken with
          | some w => if w ∈ ws then (p.span + q.span, q.broken) else (p.span, some w)
          | none => (p.span, none)) : Int × Option Str).1 := es
        cases hb : p.broken with
        | none =>
          rw [hb] at e
          exact .inr e
        | some w =>
          rw [hb] at e
          by_cases hw : w ∈ ws
          · rw [show ((match (some w : Option Str) with
              | some w => if w ∈ ws then (p.span + q.span, q.broken) else (p.span, some w)
              | none => (p.span, none)) : Int × Option Str) = if w ∈ ws then (p.span + q.span, q.broken) else (p.span, some w) from rfl, if_pos hw] at e
            exact .inl e
          · rw [show ((match (some w : Option Str) with
              | some w => if w ∈ ws then (p.span + q.span, q.broken) else (p.span, some w)
              | none => (p.span, none)) : Int × Option Str) = if w ∈ ws then (p.span + q.span, q.broken) else (p.span, some w) from rfl, if_neg hw] at e
            exact .inr e
      refine good_of (fun c => endS [p, q] 0 c) (by show 0 ≤ s; omega) (fun c h0 h1 => mid h0 h1 rfl) (fun c h0 (h1 : c < s) => (endS_bounds ih (by omega)).2.2 (by omega)) (fun c h0 (h1 : c < s) => ?_) (fun c c' h0 h _ => endS_mono ih (by omega) h)
      show endS [p, q] 0 c ≤ s
      rcases es' with e | e
      · have := (endS_bounds (b := 0) (c := c) ih (by omega)).1
        omega
      · unfold endS
        rw [if_pos (by omega)]
        have := g.hi (c - 0) (by omega)
        omega
    | together =>
      obtain ⟨hne, _, _, _⟩ := sh
      have es' : s = (grpM ps).1 := es
      obtain ⟨z0, z1, z2⟩ := grp_facts hne ih
      have key : ∀ c, 0 < c → c < s → ∀ nd d, endA (.mk .together ps n ws nd d s b) c = (match firstFail ps with
        | some f => if f.span ≤ c then s else maxL (endL ps c)
        | none => maxL (endL ps c)) := fun c c0 c1 nd d => mid c0 c1 rfl
      refine good_of (fun c => match firstFail ps with
        | some f => if f.span ≤ c then s else maxL (endL ps c)
        | none => maxL (endL ps c)) (by show 0 ≤ s; omega) (fun c h0 h1 => key c h0 h1 _ _) (fun c h0 (h1 : c < s) => ?_) (fun c h0 (h1 : c < s) => ?_) (fun c c' h0 hcc (h1 : c' < s) => ?_)
      · show c ≤ (match firstFail ps with
          | some f => if f.span ≤ c then s else maxL (endL ps c)
          | none => maxL (endL ps c))
        cases hf : firstFail ps with
        | none =>
          exact (endG_facts hne ih (by omega) (by omega) (fun f h => by rw [hf] at h; cases h)).2.1
        | some f =>
          show c ≤ if f.span ≤ c then s else maxL (endL ps c)
          by_cases q : f.span ≤ c
          · rw [if_pos q]
            omega
          · rw [if_neg q]
            exact (endG_facts hne ih (by omega) (by omega) (fun f' h => by rw [hf] at h; cases h; omega)).2.1
      · show (match firstFail ps with
          | some f => if f.span ≤ c then s else maxL (endL ps c)
          | none => maxL (endL ps c)) ≤ s
        cases hf : firstFail ps with
        | none =>
          rw [es']
          exact (endG_facts hne ih (by omega) (by omega) (fun f h => by rw [hf] at h; cases h)).2.2
        | some f =>
          show (if f.span ≤ c then s else maxL (endL ps c)) ≤ s
          by_cases q : f.span ≤ c
          · rw [if_pos q]
            exact Int.le_refl s
          · rw [if_neg q, es']
            exact (endG_facts hne ih (by omega) (by omega) (fun f' h => by rw [hf] at h; cases h; omega)).2.2
      · show (match firstFail ps with
          | some f => if f.span ≤ c then s else maxL (endL ps c)
          | none => maxL (endL ps c)) ≤ (match firstFail ps with
          | some f => if f.span ≤ c' then s else maxL (endL ps c')
          | none => maxL (endL ps c'))
        cases hf : firstFail ps with
        | none =>
          have a := endG_facts (c := c) hne ih (by omega) (by omega) (fun f h => by rw [hf] at h; cases h)
          have b := endG_facts (c := c') hne ih (by omega) (by omega) (fun f h => by rw [hf] at h; cases h)
          exact endG_mono ih (by omega) hcc a.1 b.1 b.2.1
        | some f =>
          show (if f.span ≤ c then s else maxL (endL ps c)) ≤ (if f.span ≤ c' then s else maxL (endL ps c'))
          by_cases q : f.span ≤ c
          · rw [if_pos q, if_pos (by omega)]
            exact Int.le_refl s
          · rw [if_neg q]
            have a := endG_facts (c := c) hne ih (by omega) (by omega) (fun f' h => by rw [hf] at h; cases h; omega)
            by_cases q' : f.span ≤ c'
            · rw [if_pos q', es']
              exact a.2.2
            · rw [if_neg q']
              have b := endG_facts (c := c') hne ih (by omega) (by omega) (fun f' h => by rw [hf] at h; cases h; omega)
              exact endG_mono ih (by omega) hcc a.1 b.1 b.2.1
    | timeout =>
      obtain ⟨⟨p, rfl⟩, n0, _, _⟩ := sh
      have g := ih p List.mem_cons_self
      have sp := g.sp
      have es' : s = if n < p.span then endA p n else p.span := by
        have e : s = (if n < p.span then (endH [p] n, ws.head?) else (p.span, p.broken)).1 := es
        rw [e]
        by_cases z : n < p.span
        · rw [if_pos z, if_pos z]
          unfold endH
          rfl
        · rw [if_neg z, if_neg z]
      have hs : s ≤ p.span ∧ 0 ≤ s ∧ (∀ c, 0 ≤ c → c < n → endA p c ≤ s) := by
        by_cases z : n < p.span
        · rw [if_pos z] at es'
          rw [es']
          exact ⟨g.hi n n0, g.nonneg n0, fun c c0 c1 => g.mono c n c0 (by omega)⟩
        · rw [if_neg z] at es'
          rw [es']
          exact ⟨Int.le_refl _, sp, fun c c0 _ => g.hi c c0⟩
      refine good_of (fun c => if n ≤ c then s else endA p c) hs.2.1 (fun c h0 h1 => mid h0 h1 (by unfold endH; rfl)) (fun c h0 (h1 : c < s) => ?_) (fun c h0 (h1 : c < s) => ?_) (fun c c' h0 hcc (h1 : c' < s) => ?_)
      · show c ≤ if n ≤ c then s else endA p c
        by_cases z : n ≤ c
        · rw [if_pos z]
          omega
        · rw [if_neg z]
          exact g.lo c (by omega) (by omega)
      · show (if n ≤ c then s else endA p c) ≤ s
        by_cases z : n ≤ c
        · rw [if_pos z]
          exact Int.le_refl s
        · rw [if_neg z]
          exact hs.2.2 c (by omega) (by omega)
      · show (if n ≤ c then s else endA p c) ≤ (if n ≤ c' then s else endA p c')
        by_cases z : n ≤ c
        · rw [if_pos z, if_pos (by omega)]
          exact Int.le_refl s
        · rw [if_neg z]
          by_cases z' : n ≤ c'
          · rw [if_pos z']
            exact hs.2.2 c (by omega) (by omega)
          · rw [if_neg z']
            exact g.mono c c' (by omega) hcc
    | moveon =>
      obtain ⟨⟨p, rfl⟩, n0, _, _⟩ := sh
      have g := ih p List.mem_cons_self
      have sp := g.sp
      have es' : s = if n < p.span then endA p n else p.span := by
        have e : s = (if n < p.span then (endH [p] n, ws.head?) else (p.span, p.broken)).1 := es
        rw [e]
        by_cases z : n < p.span
        · rw [if_pos z, if_pos z]
          unfold endH
          rfl
        · rw [if_neg z, if_neg z]
      have hs : s ≤ p.span ∧ 0 ≤ s ∧ (∀ c, 0 ≤ c → c < n → endA p c ≤ s) := by
        by_cases z : n < p.span
        · rw [if_pos z] at es'
          rw [es']
          exact ⟨g.hi n n0, g.nonneg n0, fun c c0 c1 => g.mono c n c0 (by omega)⟩
        · rw [if_neg z] at es'
          rw [es']
          exact ⟨Int.le_refl _, sp, fun c c0 _ => g.hi c c0⟩
      refine good_of (fun c => if n ≤ c then s else endA p c) hs.2.1 (fun c h0 h1 => mid h0 h1 (by unfold endH; rfl)) (fun c h0 (h1 : c < s) => ?_) (fun c h0 (h1 : c < s) => ?_) (fun c c' h0 hcc (h1 : c' < s) => ?_)
      · show c ≤ if n ≤ c then s else endA p c
        by_cases z : n ≤ c
        · rw [if_pos z]
          omega
        · rw [if_neg z]
          exact g.lo c (by omega) (by omega)
      · show (if n ≤ c then s else endA p c) ≤ s
        by_cases z : n ≤ c
        · rw [if_pos z]
          exact Int.le_refl s
        · rw [if_neg z]
          exact hs.2.2 c (by omega) (by omega)
      · show (if n ≤ c then s else endA p c) ≤ (if n ≤ c' then s else endA p c')
        by_cases z : n ≤ c
        · rw [if_pos z, if_pos (by omega)]
          exact Int.le_refl s
        · rw [if_neg z]
          by_cases z' : n ≤ c'
          · rw [if_pos z']
            exact hs.2.2 c (by omega) (by omega)
          · rw [if_neg z']
            exact g.mono c c' (by omega) hcc

/-! ### sizes -/
theorem depth_child {ps : List Prog} {q : Prog} (h : q ∈ ps) : q.depth + 1 ≤ depthOf ps := by
  have := le_maxL (l := 0 :: ps.map Prog.depth) (List.mem_cons_of_mem _ (List.mem_map.mpr ⟨q, h, rfl⟩))
  unfold depthOf
  omega
theorem depthOf_pos (ps : List Prog) : 1 ≤ depthOf ps := by
  have := le_maxL (l := 0 :: ps.map Prog.depth) List.mem_cons_self
  unfold depthOf
  omega
theorem WF.sub {p q : Prog} (h : WF p) (hq : q ∈ p.parts) : WF q := by
  cases h with
  | mk sub _ _ _ _ _ _ => exact sub q hq
theorem WF.depth_pos {p : Prog} (h : WF p) : 1 ≤ p.depth := by
  cases h with
  | @mk k ps n ws nd d s b sub sh hn hd hm ln ld =>
    show 1 ≤ d
    rw [hd]
    exact depthOf_pos ps
theorem WF.depth_le {p : Prog} (h : WF p) : p.depth ≤ 60 := by
  cases h with
  | mk _ _ _ _ _ _ ld => exact ld
theorem WF.nodes_le {p : Prog} (h : WF p) : p.nodes ≤ 300 := by
  cases h with
  | mk _ _ _ _ _ ln _ => exact ln
theorem WF.depth_sub {p q : Prog} (h : WF p) (hq : q ∈ p.parts) : q.depth + 1 ≤ p.depth := by
  cases h with
  | @mk k ps n ws nd d s b sub sh hn hd hm ln ld =>
    show q.depth + 1 ≤ d
    rw [hd]
    exact depth_child hq
theorem WF.shape {p : Prog} (h : WF p) : Shape p.kind p.parts p.number p.words := by
  cases h with
  | mk _ sh _ _ _ _ _ => exact sh
theorem sum_nonneg : ∀ {l : List Int}, (∀ x ∈ l, 0 ≤ x) → 0 ≤ l.sum
  | [], _ => Int.le_refl 0
  | x :: r, h => by
    have h1 := h x List.mem_cons_self
    have h2 := sum_nonneg (l := r) fun y hy => h y (List.mem_cons_of_mem _ hy)
    rw [List.sum_cons]
    omega
theorem WF.nodes_pos {p : Prog} (h : WF p) : 1 ≤ p.nodes := by
  induction h with
  | @mk k ps n ws nd d s b sub sh hn hd hm ln ld ih =>
    show 1 ≤ nd
    rw [hn]
    unfold nodesOf
    have := sum_nonneg (l := ps.map Prog.nodes) fun x hx => by
      obtain ⟨q, hq, rfl⟩ := List.mem_map.mp hx
      have := ih q hq
      omega
    omega
theorem le_sum_of_mem : ∀ {l : List Int} {x : Int}, (∀ y ∈ l, 0 ≤ y) → x ∈ l → x ≤ l.sum
  | y :: r, x, h, hx => by
    rw [List.sum_cons]
    have h1 := h y List.mem_cons_self
    have h2 := sum_nonneg (l := r) fun z hz => h z (List.mem_cons_of_mem _ hz)
    rcases List.mem_cons.mp hx with e | e
    · subst e
      omega
    · have := le_sum_of_mem (l := r) (fun z hz => h z (List.mem_cons_of_mem _ hz)) e
      omega
theorem nodes_child {ps : List Prog} {q : Prog} (hw : ∀ p ∈ ps, WF p) (h : q ∈ ps) : q.nodes + 1 ≤ nodesOf ps := by
  have := le_sum_of_mem (l := ps.map Prog.nodes) (x := q.nodes) (fun x hx => by
    obtain ⟨p, hp, rfl⟩ := List.mem_map.mp hx
    have := (hw p hp).nodes_pos
    omega) (List.mem_map.mpr ⟨q, h, rfl⟩)
  unfold nodesOf
  omega
/-- how great a length may be at a depth -/
def tenP (n : Nat) : Int := 10 ^ (30 * n)
theorem tenP_pos (n : Nat) : 0 < tenP n := Int.pow_pos (by decide)
theorem tenP_succ (n : Nat) : tenP (n + 1) = mostT * tenP n := by
  unfold tenP mostT
  rw [Nat.mul_add, Int.pow_add, Int.mul_comm] <;> rfl
theorem tenP_mono {n m : Nat} (h : n ≤ m) : tenP n ≤ tenP m := by
  induction h with
  | refl => exact Int.le_refl _
  | @step m _ ih =>
    rw [tenP_succ]
    refine Int.le_trans ih ?_
    have h1 := Int.mul_le_mul_of_nonneg_right (show (1 : Int) ≤ mostT by decide) (Int.le_of_lt (tenP_pos m))
    rw [Int.one_mul] at h1
    exact h1
theorem sumS_bound : ∀ {ps : List Prog} {M : Int}, (∀ q ∈ ps, q.span ≤ q.nodes * M) → sumS ps ≤ (ps.map Prog.nodes).sum * M
  | [], M, _ => by
    show (0 : Int) ≤ 0 * M
    rw [Int.zero_mul]
    exact Int.le_refl 0
  | p :: r, M, h => by
    have h1 := h p List.mem_cons_self
    have h2 := sumS_bound (ps := r) (M := M) fun q hq => h q (List.mem_cons_of_mem _ hq)
    rw [sumS_cons, List.map_cons, List.sum_cons, Int.add_mul]
    omega
theorem span_bound {p : Prog} (h : WF p) : p.span ≤ p.nodes * tenP p.depth.toNat := by
  have hg := wf_good h
  induction h with
  | @mk k ps n ws nd d s b sub sh hn hd hm ln ld ih =>
    have es := (meas_of hm).1
    have gs : ∀ q ∈ ps, Good q := fun q hq => wf_good (sub q hq)
    have dp := depthOf_pos ps
    have ed : d.toNat = (d.toNat - 1) + 1 := by omega
    have hM : ∀ q ∈ ps, q.span ≤ q.nodes * tenP (d.toNat - 1) := fun q hq => by
      have h1 := ih q hq (gs q hq)
      have h2 := depth_child hq
      have h3 := (sub q hq).nodes_pos
      have h4 : tenP q.depth.toNat ≤ tenP (d.toNat - 1) := tenP_mono (by omega)
      exact Int.le_trans h1 (Int.mul_le_mul_of_nonneg_left h4 (by omega))
    have hnn : ∀ x ∈ ps.map Prog.nodes, 0 ≤ x := fun x hx => by
      obtain ⟨q, hq, rfl⟩ := List.mem_map.mp hx
      have := (sub q hq).nodes_pos
      omega
    have s0 := sum_nonneg hnn
    have M0 := tenP_pos (d.toNat - 1)
    have T0 : tenP d.toNat = mostT * tenP (d.toNat - 1) := by rw [ed, tenP_succ]; congr 1
    have MT : tenP (d.toNat - 1) ≤ tenP d.toNat := tenP_mono (by omega)
    have nd1 : nd = 1 + (ps.map Prog.nodes).sum := hn
    have base : (ps.map Prog.nodes).sum * tenP (d.toNat - 1) ≤ nd * tenP d.toNat := by
      refine Int.le_trans (Int.mul_le_mul_of_nonneg_left MT s0) (Int.mul_le_mul_of_nonneg_right (by omega) (by omega))
    have sums : sumS ps ≤ nd * tenP d.toNat := Int.le_trans (sumS_bound hM) base
    have each : ∀ q ∈ ps, q.span ≤ nd * tenP d.toNat := fun q hq => by
      have h1 := hM q hq
      have h2 : q.nodes ≤ (ps.map Prog.nodes).sum := le_sum_of_mem hnn (List.mem_map.mpr ⟨q, hq, rfl⟩)
      exact Int.le_trans h1 (Int.le_trans (Int.mul_le_mul_of_nonneg_right h2 (by omega)) base)
    have zero : (0 : Int) ≤ nd * tenP d.toNat := Int.mul_nonneg (by omega) (by omega)
    show s ≤ nd * tenP d.toNat
    cases k with
    | sleep =>
      obtain ⟨rfl, h1, h2, _⟩ := sh
      have es' : s = n := es
      have e1 : nd = 1 := nd1
      have e2 : d = 1 := hd
      rw [e1, e2, es', Int.one_mul]
      exact h2
    | fail =>
      have es' : s = 0 := es
      rw [es']
      exact zero
    | seq =>
      have es' : s = (seqM ps 0).1 := es
      have := (seqM_bounds (t := 0) gs).2
      omega
    | loop =>
      obtain ⟨⟨p, rfl⟩, h0, h1, _⟩ := sh
      have hp := hM p List.mem_cons_self
      have es' : s = (if n = 0 then ((0 : Int), (none : Option Str)) else (p.span * (if p.broken = none then n else 1), p.broken)).1 := es
      by_cases hz : n = 0
      · rw [if_pos hz] at es'
        rw [es']
        exact zero
      · rw [if_neg hz] at es'
        have hk : p.span * (if p.broken = none then n else 1) ≤ p.span * mostT := by
          refine Int.mul_le_mul_of_nonneg_left ?_ (gs p List.mem_cons_self).sp
          split
          · exact h1
          · decide
        have hk2 : p.span * mostT ≤ p.nodes * tenP (d.toNat - 1) * mostT := Int.mul_le_mul_of_nonneg_right hp (by decide)
        have e1 : p.nodes * tenP (d.toNat - 1) * mostT = p.nodes * tenP d.toNat := by rw [T0, Int.mul_assoc, Int.mul_comm (tenP (d.toNat - 1)) mostT]
        have hk3 : p.nodes * tenP d.toNat ≤ nd * tenP d.toNat := Int.mul_le_mul_of_nonneg_right (by
          have e : (([p] : List Prog).map Prog.nodes).sum = p.nodes := by simp
          omega) (by omega)
        rw [es']
        show p.span * (if p.broken = none then n else 1) ≤ _
        omega
    | shield =>
      obtain ⟨⟨p, rfl⟩, _, _⟩ := sh
      have es' : s = p.span := es
      rw [es']
      exact each p List.mem_cons_self
    | cleanup =>
      obtain ⟨⟨p, q, rfl⟩, _, _⟩ := sh
      have es' : s = p.span + q.span := es
      have su : sumS [p, q] = p.span + (q.span + 0) := by rw [sumS_cons, sumS_cons] <;> rfl
      omega
    | fallback =>
      obtain ⟨⟨p, q, rfl⟩, _, _⟩ := sh
      have su : sumS [p, q] = p.span + (q.span + 0) := by rw [sumS_cons, sumS_cons] <;> rfl
      have sq := (gs q (List.mem_cons_of_mem _ List.mem_cons_self)).sp
      have e : s = ((match p.broken with
          | some w => if w ∈ ws then (p.span + q.span, q.broken) else (p.span, some w)
          | none => (p.span, none)) : Int × Option Str).1 := es
      cases hb : p.broken with
      | none =>
        rw [hb] at e
        have e' : s = p.span := e
        omega
      | some w =>
        rw [hb] at e
        have e' : s = (if w ∈ ws then (p.span + q.span, q.broken) else (p.span, some w)).1 := e
        by_cases hw : w ∈ ws
        · rw [if_pos hw] at e'
          have e2 : s = p.span + q.span := e'
          omega
        · rw [if_neg hw] at e'
          have e2 : s = p.span := e'
          omega
    | together =>
      obtain ⟨hne, _, _, _⟩ := sh
      have es' : s = (grpM ps).1 := es
      obtain ⟨z0, z1, z2⟩ := grp_facts hne gs
      cases hf : firstFail ps with
      | none =>
        rw [es', z2 hf]
        refine maxL_le (fun e => hne (List.map_eq_nil_iff.mp e)) fun x hx => ?_
        obtain ⟨q, hq, rfl⟩ := List.mem_map.mp hx
        exact each q hq
      | some f =>
        rw [es', (z1 f hf).2.2]
        refine maxL_le (fun e => hne (List.map_eq_nil_iff.mp e)) fun x hx => ?_
        obtain ⟨q, hq, rfl⟩ := List.mem_map.mp hx
        exact Int.le_trans ((gs q hq).hi _ (gs f (firstFail_some hf).1).sp) (each q hq)
    | timeout =>
      obtain ⟨⟨p, rfl⟩, n0, _, _⟩ := sh
      have e : s = (if n < p.span then (endH [p] n, ws.head?) else (p.span, p.broken)).1 := es
      have ep := each p List.mem_cons_self
      by_cases z : n < p.span
      · rw [if_pos z] at e
        have e' : s = endA p n := by rw [e]; unfold endH; rfl
        have := (gs p List.mem_cons_self).hi n n0
        omega
      · rw [if_neg z] at e
        have e' : s = p.span := e
        omega
    | moveon =>
      obtain ⟨⟨p, rfl⟩, n0, _, _⟩ := sh
      have e : s = (if n < p.span then (endH [p] n, ws.head?) else (p.span, p.broken)).1 := es
      have ep := each p List.mem_cons_self
      by_cases z : n < p.span
      · rw [if_pos z] at e
        have e' : s = endA p n := by rw [e]; unfold endH; rfl
        have := (gs p List.mem_cons_self).hi n n0
        omega
      · rw [if_neg z] at e
        have e' : s = p.span := e
        omega
theorem span_lt {p : Prog} (h : WF p) : p.span < 300 * tenP 60 + 1 := by
  have h1 := span_bound h
  have h2 := h.nodes_le
  have h3 := h.depth_le
  have h4 := h.nodes_pos
  have h5 : tenP p.depth.toNat ≤ tenP 60 := tenP_mono (by omega)
  have h6 : p.nodes * tenP p.depth.toNat ≤ 300 * tenP 60 := Int.le_trans (Int.mul_le_mul_of_nonneg_left h5 (by omega)) (Int.mul_le_mul_of_nonneg_right h2 (Int.le_of_lt (tenP_pos 60)))
  omega
theorem big_lt : (300 * tenP 60 + 1).natAbs < 2 ^ 6000 := by decide +kernel
theorem span_bits {p : Prog} (h : WF p) : p.span.natAbs < 2 ^ 6000 := by
  have h1 := span_lt h
  have h2 := (wf_good h).sp
  have h3 := big_lt
  generalize 300 * tenP 60 + 1 = B at *
  omega

/-! ### the end, kind by kind -/
theorem Kind.s_eq {k k' : Kind} : decide (k.s = k'.s) = decide (k = k') := by
  cases k <;> cases k' <;> decide
section
variable {p : Prog} {c : Int}
theorem endA_sleep (hk : p.kind = .sleep) (h0 : 0 < c) (h1 : c < p.span) : endA p c = c := by
  obtain ⟨k, ps, n, ws, nd, d, s, b⟩ := p
  cases (show k = .sleep from hk)
  exact mid h0 h1 rfl
theorem endA_seq (hk : p.kind = .seq ∨ p.kind = .fallback) (h0 : 0 < c) (h1 : c < p.span) : endA p c = endS p.parts 0 c := by
  obtain ⟨k, ps, n, ws, nd, d, s, b⟩ := p
  rcases hk with hk | hk
  · cases (show k = .seq from hk)
    exact mid h0 h1 rfl
  · cases (show k = .fallback from hk)
    exact mid h0 h1 rfl
theorem endA_loop (hk : p.kind = .loop) (h0 : 0 < c) (h1 : c < p.span) : endA p c = (let r := if spanAt p.parts 0 = 0 then 0 else min (c / spanAt p.parts 0) (p.number - 1); r * spanAt p.parts 0 + endH p.parts (c - r * spanAt p.parts 0)) := by
  obtain ⟨k, ps, n, ws, nd, d, s, b⟩ := p
  cases (show k = .loop from hk)
  exact mid h0 h1 rfl
theorem endA_shield (hk : p.kind = .shield) (h0 : 0 < c) (h1 : c < p.span) : endA p c = p.span := by
  obtain ⟨k, ps, n, ws, nd, d, s, b⟩ := p
  cases (show k = .shield from hk)
  exact mid h0 h1 rfl
theorem endA_cleanup (hk : p.kind = .cleanup) (h0 : 0 < c) (h1 : c < p.span) : endA p c = min (endH p.parts c + spanAt p.parts 1) p.span := by
  obtain ⟨k, ps, n, ws, nd, d, s, b⟩ := p
  cases (show k = .cleanup from hk)
  exact mid h0 h1 rfl
def endG (ps : List Prog) (s c : Int) : Int := match firstFail ps with
  | some f => if f.span ≤ c then s else maxL (endL ps c)
  | none => maxL (endL ps c)
theorem endA_group (hk : p.kind = .together) (h0 : 0 < c) (h1 : c < p.span) : endA p c = endG p.parts p.span c := by
  obtain ⟨k, ps, n, ws, nd, d, s, b⟩ := p
  cases (show k = .together from hk)
  exact mid h0 h1 rfl
theorem endA_limit (hk : p.kind = .timeout ∨ p.kind = .moveon) (h0 : 0 < c) (h1 : c < p.span) : endA p c = if p.number ≤ c then p.span else endH p.parts c := by
  obtain ⟨k, ps, n, ws, nd, d, s, b⟩ := p
  rcases hk with hk | hk
  · cases (show k = .timeout from hk)
    exact mid h0 h1 rfl
  · cases (show k = .moveon from hk)
    exact mid h0 h1 rfl
end
theorem endL_eq : ∀ (ps : List Prog) (c : Int), endL ps c = (ps.filter fun p => decide (p.span > c)).map fun p => endA p c
  | [], c => by unfold endL; rfl
  | p :: r, c => by
    unfold endL
    rw [endL_eq r c]
    by_cases h : p.span > c
    · rw [if_pos h, List.filter_cons, if_pos (by rw [decide_eq_true h])]
      rfl
    · rw [if_neg h, List.filter_cons, if_neg (by rw [decide_eq_false h]; decide)]
/-- the first of the shortest, by its place -/
theorem fold_keep : ∀ (l : List Prog) (a : Prog), (∀ q ∈ l, a.span ≤ q.span) → l.foldl (fun m x => if x.span < m.span then x else m) a = a
  | [], _, _ => rfl
  | q :: r, a, h => by
    have h1 := h q List.mem_cons_self
    show r.foldl (fun m x => if x.span < m.span then x else m) (if q.span < a.span then q else a) = a
    rw [if_neg (by omega)]
    exact fold_keep r a fun z hz => h z (List.mem_cons_of_mem _ hz)
theorem fold_first : ∀ (l : List Prog) (a p : Prog) (i : Nat), l[i]? = some p → p.span < a.span → (∀ (j : Nat) (q : Prog), l[j]? = some q → p.span ≤ q.span ∧ (j < i → p.span < q.span)) → l.foldl (fun m x => if x.span < m.span then x else m) a = p
  | [], _, _, _, h, _, _ => by simp at h
  | q :: r, a, p, 0, h, ha, hm => by
    have e : q = p := by simpa using h
    subst e
    show r.foldl (fun m x => if x.span < m.span then x else m) (if q.span < a.span then q else a) = q
    rw [if_pos ha]
    refine fold_keep r q fun z hz => ?_
    obtain ⟨j, hj, ej⟩ := List.mem_iff_getElem.mp hz
    exact (hm (j + 1) z (by rw [List.getElem?_cons_succ, List.getElem?_eq_getElem hj, ej])).1
  | q :: r, a, p, i + 1, h, ha, hm => by
    have hq := (hm 0 q rfl).2 (Nat.succ_pos i)
    show r.foldl (fun m x => if x.span < m.span then x else m) (if q.span < a.span then q else a) = p
    have hr : ∀ (j : Nat) (z : Prog), r[j]? = some z → p.span ≤ z.span ∧ (j < i → p.span < z.span) := fun j z hz => by
      have := hm (j + 1) z (by rw [List.getElem?_cons_succ]; exact hz)
      exact ⟨this.1, fun l => this.2 (by omega)⟩
    have hi : r[i]? = some p := by simpa using h
    by_cases c : q.span < a.span
    · rw [if_pos c]
      exact fold_first r q p i hi hq hr
    · rw [if_neg c]
      exact fold_first r a p i hi ha hr
theorem minBy_first {l : List Prog} {i : Nat} {p : Prog} (h : l[i]? = some p) (hm : ∀ (j : Nat) (q : Prog), l[j]? = some q → p.span ≤ q.span ∧ (j < i → p.span < q.span)) : minBy l = some p := by
  cases l with
  | nil => simp at h
  | cons a r =>
    show some (r.foldl (fun m x => if x.span < m.span then x else m) a) = some p
    refine congrArg some ?_
    cases i with
    | zero =>
      have e : a = p := by simpa using h
      subst e
      refine fold_keep r a fun z hz => ?_
      obtain ⟨j, hj, ej⟩ := List.mem_iff_getElem.mp hz
      exact (hm (j + 1) z (by rw [List.getElem?_cons_succ, List.getElem?_eq_getElem hj, ej])).1
    | succ i =>
      refine fold_first r a p i (by simpa using h) ((hm 0 a rfl).2 (Nat.succ_pos i)) fun j z hz => ?_
      have := hm (j + 1) z (by rw [List.getElem?_cons_succ]; exact hz)
      exact ⟨this.1, fun l => this.2 (by omega)⟩
end Cu

/-! == CuRules -/
set_option maxHeartbeats 4000000
/-! Rules of my own over the hand layer. -/
namespace Cu
open PySem PySem.Spec PyProof.Rows L2 Evl

/-! ### a def by its body: a promise by positional values -/
theorem fn_mk {P : Program} {w : World} {K : PySem.W.Frag} {mg : Str → Option Value} {base : Heap} {x qual : Str} {st : Stmt} {f : Addr} {CX : CXT} {N ps : List Str} {k : Nat} {sp : Sp}
    (F : ∃ fd, FunD K x qual (defArgs st) (defBody st) (defScope st) [] [] f fd) (S : FnScope N ps (defScope st))
    (hb : ∀ (kV doc pm : Value) (an : Option Addr) (cdv ct : Value) (us : List Value), us.length = ps.length → bindArgs (PySem.W.fnOf x qual (defArgs st) (defBody st) (defScope st) .none kV doc pm an cdv ct) ⟨us, []⟩ = pure (ps.zip us))
    (len : ∀ vs H Q E, sp vs H Q E → vs.length = ps.length)
    (hbody : ∀ (cdv : Value) (A : Around) (outer : List Env) (s : Shared) (H : Hp) (vs : List V) (Q : VK) (E : XK), Room k (A.deeper (envOfC qual (defScope st) s.heap.objs.size f cdv)) → sp vs H Q E →
      ∃ t, PSs (cxOf CX P w K mg base N qual (defScope st) f cdv A outer s H E) (defBody st) t ∧ t { nx := fun _ H' => Q .non H', rt := Q } (start N vs) H) : FnR P w K mg base CX (k + 1) f sp := by
  obtain ⟨fd, F⟩ := F
  have b : Binds K fd ps [] := F.bindsN hb
  have h := (F.ok (CX := CX) S len hbody).raw b (dvs := []) .nil
  intro A outer s H us vs Q E hr e0 r hs
  exact h A outer s H us vs Q E hr e0 r (by show sp (vs ++ []) H Q E; rw [List.append_nil]; exact hs)

theorem kp_of {K : PySem.W.Frag} {x qual : Str} {ag : Arguments} {bd : List Stmt} {scp : Scope} {dvs : List V} {kws : List (Str × V)} {f : Addr} (F : ∃ fd, FunD K x qual ag bd scp dvs kws f fd) : PySem.W.keepIn K (.ref f) = true := by
  obtain ⟨fd, F⟩ := F
  exact F.kp
/-! ### f(e, ..) -/
def tCallR (sp : Sp) (E : XK) (t : TA) : TE := fun σ H Q => t σ H fun vs H1 => sp vs H1 Q E
section
variable {X : Cx} {CX : CXT} {k : Nat} {f : Addr} {sp : Sp} {E : XK} {x : Str} {p pos : Pos} {e : Expr} {es : List Expr} {t : TA}
theorem pe_callR (F : FnR X.prog X.w X.K X.mg X.base CX k f sp) (hr : Room k X.A) (hg : Gl X x) (hm : X.mg x = some (.ref f)) (hk : PySem.W.keepIn X.K (.ref f) = true) (hx : Passes CX X E)
    (ha : PA X (e :: es) t) (hdb : (x == ("__debug__" : Str)) = false := by decide) (he : starEach (e :: es) X.env = (false, eval e X.env) :: starEach es X.env := by rfl) (hpl : (backTo pos (starEach es X.env)).any (·.1) = false := by rfl) :
    PE X (.Call (.Name x p) (e :: es) [] pos) (tCallR sp E t) := by
  refine ⟨fun pins s σ H Q I h => ?_⟩
  refine wpAny_Call_Name_kw (ld_glob I hg hm ?_ hdb)
  refine PySem.W.callWith_K (h₀ := X.base) I.ok.mod.kin hk (thn (ha.run pos pins s σ H _ I h) fun us s1 ⟨vs, H1, I1, r, q⟩ => ⟨I1.kIn, ?_⟩) he hpl
  exact wpAny_call (run_fnR F hr hx I1 r q)
/-- f() -/
theorem pe_callR0 (F : FnR X.prog X.w X.K X.mg X.base CX k f sp) (hr : Room k X.A) (hg : Gl X x) (hm : X.mg x = some (.ref f)) (hk : PySem.W.keepIn X.K (.ref f) = true) (hx : Passes CX X E) (hdb : (x == ("__debug__" : Str)) = false := by decide) :
    PE X (.Call (.Name x p) [] [] pos) (tCallR sp E tNil) := by
  refine ⟨fun pins s σ H Q I h => ?_⟩
  refine wpAny_Call_Name_kw (ld_glob I hg hm ?_ hdb)
  exact PySem.W.callWith_K0 I.kIn hk (wpAny_call (run_fnR (us := []) F hr hx I .nil h))
end

/-! ### o.m(e, ..) of an instance of the class at C -/
def tMethR (C : Addr) (m : Str) (sp : Sp) (E : XK) (ta : TE) (t : TA) : TE := fun σ H Q => ta σ H fun x H1 => ∃ a dx fs, x = .ref a ∧ H1 a = some (.ins C dx fs) ∧ fs.lookup m = none ∧ t σ H1 fun vs H2 => sp (x :: vs) H2 Q E
section
variable {X : Cx} {CX : CXT} {k : Nat} {f C : Addr} {sp : Sp} {E : XK} {m : Str} {pos apos : Pos} {e o : Expr} {es : List Expr} {ta : TE} {t : TA}
theorem pe_methR {pl : Sem Bool} (he : PE X o ta) (c : Cls X.K C) (hm : Meth X.K C m f) (F : FnR X.prog X.w X.K X.mg X.base CX k f sp) (hr : Room k X.A) (hx : Passes CX X E) (ha : PA X (e :: es) t)
    (hst : starEach (e :: es) X.env = (false, eval e X.env) :: starEach es X.env := by rfl) (hpl : (backTo pos (starEach es X.env)).any (·.1) = false := by rfl)
    (ht : eval (.Call (.Attribute o m apos) (e :: es) [] pos) X.env = (do
      let ov ← eval o X.env
      standAt apos.atName
      let (f, first) ← holding [ov] (getMethod ov m pl)
      callWith pos f first (backTo pos (starEach (e :: es) X.env)) (backToKw pos (keywordEach [] X.env))) := by rfl) :
    PE X (.Call (.Attribute o m apos) (e :: es) [] pos) (tMethR C m sp E ta t) := by
  refine ⟨fun pins s σ H Q I h => ?_⟩
  refine PySem.W.methodCall_KW (pl := pl) (thn (he.run pins s σ H _ I h) fun u s1 ⟨x, H1, I1, rx, a, dx, fs, ex, ea, l, q⟩ => ?_) ht
  subst ex
  obtain rfl : u = Value.ref a := rx
  refine getmeth_ok I1 ea c hm l ?_
  refine PySem.W.callWith_K (first := [.ref a]) (h₀ := X.base) I.ok.mod.kin hm.kp (thn (ha.run pos pins s1 σ H1 _ I1 q) fun us s2 ⟨vs, H2, I2, r, q2⟩ => ⟨I2.kIn, ?_⟩) hst hpl
  exact wpAny_call (run_fnR (us := .ref a :: us) (vs := .ref a :: vs) F hr hx I2 (.cons rfl r) q2)
theorem pe_methR0 {pl : Sem Bool} (he : PE X o ta) (c : Cls X.K C) (hm : Meth X.K C m f) (F : FnR X.prog X.w X.K X.mg X.base CX k f sp) (hr : Room k X.A) (hx : Passes CX X E)
    (ht : eval (.Call (.Attribute o m apos) [] [] pos) X.env = (do
      let ov ← eval o X.env
      standAt apos.atName
      let (f, first) ← holding [ov] (getMethod ov m pl)
      callWith pos f first (backTo pos (starEach [] X.env)) (backToKw pos (keywordEach [] X.env))) := by rfl) :
    PE X (.Call (.Attribute o m apos) [] [] pos) (tMethR C m sp E ta tNil) := by
  refine ⟨fun pins s σ H Q I h => ?_⟩
  refine PySem.W.methodCall_KW (pl := pl) (thn (he.run pins s σ H _ I h) fun u s1 ⟨x, H1, I1, rx, a, dx, fs, ex, ea, l, q⟩ => ?_) ht
  subst ex
  obtain rfl : u = Value.ref a := rx
  refine getmeth_ok I1 ea c hm l ?_
  exact PySem.W.callWith_K0 (first := [.ref a]) I1.kIn hm.kp (wpAny_call (run_fnR (us := [.ref a]) (vs := [.ref a]) F hr hx I1 (.cons rfl .nil) q))
end

/-! ### p op q by the own method of an instance -/
/-- the right one: an instance of the same class, or an int -/
def rOwn (C : Addr) (sp : Sp) (E : XK) : R2 := fun x y H Q => ∃ a dx fs, x = .ref a ∧ H a = some (.ins C dx fs) ∧ ((∃ i, y = .int i) ∨ ∃ b dy gs, y = .ref b ∧ H b = some (.ins C dy gs)) ∧ sp [x, y] H Q E
section
variable {X : Cx} {CX : CXT} {k : Nat} {f C : Addr} {sp : Sp} {E : XK} {op : Operator}
theorem cmpBack_of {v : V} {u : Value} {Q : Value → Shared → Prop} {s : Shared} (r : RelV v u) (h : Q u s) : PySem.W.CmpBack Q u s := by
  cases v with
  | non => cases (show u = Value.none from r); exact h
  | bl b => cases (show u = Value.bool b from r); exact h
  | int i => obtain ⟨t, e⟩ := (show ∃ t, u = Value.int i t from r); cases e; exact h
  | str x => obtain ⟨t, e⟩ := (show ∃ t, u = Value.str x t from r); cases e; exact h
  | byt b => obtain ⟨t, e⟩ := (show ∃ t, u = Value.bytes b t from r); cases e; exact h
  | flt b => obtain ⟨t, e⟩ := (show ∃ t, u = Value.float b t from r); cases e; exact h
  | ref a => cases (show u = Value.ref a from r); exact h
  | ty n => cases (show u = Value.type n from r); exact h
theorem op_own {fo ro : Option Value} (F : FnR X.prog X.w X.K X.mg X.base CX k f sp) (hr : Room k X.A) (hx : Passes CX X E) (hc : PySem.W.selfFirst X.K C = true)
    (hs : PySem.W.findIn X.K (.ref C) (PySem.dunder op.info.2) = some (some (.ref f))) (hf : PySem.W.isFn X.K (.ref f) = true) (hrr : PySem.W.findIn X.K (.ref C) (dunderR op.info.2) = some none)
    (h1 : PySem.W.findIn X.K (.type "int") (PySem.dunder op.info.2) = some fo) (h2 : PySem.W.findIn X.K (.type "int") (dunderR op.info.2) = some ro) (hsub : PySem.W.subIn X.K (.type "int") (.ref C) = some false) :
    OpR X (binaryOp op) (rOwn C sp E) := by
  intro pins s σ H x y v u Q I rx ry h
  obtain ⟨a, dx, fs, rfl, ha, hy, h⟩ := h
  obtain rfl : v = Value.ref a := rx
  obtain ⟨m, hF⟩ := I.fr
  obtain ⟨mA, O, _⟩ := ins_get I.hok ha
  obtain ⟨od, J, _⟩ := O.look
  have run : wpAny (model X.prog X.w) X.A (call (.ref f) [.ref a, u]) (PySem.W.CmpBack (EP X pins σ Q)) X.xe s := by
    refine thn (wpAny_call (run_fnR (us := [.ref a, u]) (vs := [.ref a, y]) F hr hx I (.cons rfl (.cons ry .nil)) h)) fun z s' q => ?_
    obtain ⟨zv, H', I', rz, hq⟩ := id q
    exact cmpBack_of rz q
  rcases hy with ⟨i, rfl⟩ | ⟨b, dy, gs, rfl, hb⟩
  · obtain ⟨t, rfl⟩ := (show ∃ t, u = Value.int i t from ry)
    exact PySem.W.ksp_binT (T := "int") hF I.ok.mod.kin J rfl hc hs hf hrr (.inl rfl) h1 h2 hsub run
  · obtain rfl : u = Value.ref b := ry
    obtain ⟨mB, O', _⟩ := ins_get I.hok hb
    obtain ⟨od', J', _⟩ := O'.look
    exact PySem.W.binop_K hF I.ok.mod.kin J J'.type hc hs hf run
end

/-! ### o.f as a target -/
def gFld (K : PySem.W.Frag) (ta : TE) (f : Str) : TG := fun y σ H Q => ta σ H fun x H2 => ∃ a C dx fs, x = .ref a ∧ H2 a = some (.ins C dx fs) ∧ Cls K C ∧ NoAttr K C f ∧ fs.length < 1000 ∧ Q σ (upd H2 a (.ins C dx (putF f y fs)))
theorem pg_fld {X : Cx} {o : Expr} {f : Str} {pos : Pos} {ta : TE} (ho : PE X o ta)
    (ha : ∀ v, assign (.Attribute o f pos) X.env v = (do
      let ov ← holding [v] (eval o X.env)
      standAt pos.atName
      holding [v, ov] (setAttr ov f v)
      release [v, ov] []) := by intro _; rfl) : PG X (.Attribute o f pos) (gFld X.K ta f) := by
  refine ⟨fun pins s σ H v u Q I r h => ?_⟩
  rw [ha]
  refine wpAny_bind (wpAny_holding (thn (ho.run pins s σ H _ I h) fun ov s1 ⟨x, H1, I1, rx, a, C, dx, fs, ex, ea, c, n, l, q1⟩ => ?_))
  subst ex
  obtain rfl : ov = Value.ref a := rx
  refine wpAny_bind (wpAny_standAt (wpAny_bind (wpAny_holding (setattr_ok I1 ea c n l r fun s3 I3 => ?_))))
  exact wpAny_release ⟨σ, _, I3, q1⟩

/-! ### xs == [], xs != [] -/
def rEqNil (b : Bool) : R2 := fun x y H Q => ∃ p q xs, x = .ref p ∧ y = .ref q ∧ H p = some (.lst xs) ∧ H q = some (.lst []) ∧ Q (.bl (if b then xs.isEmpty else !xs.isEmpty)) H
theorem lst_at {X : Cx} {pins : List (Addr × Obj)} {σ : L2.St} {H : Hp} {s : Shared} {p : Addr} {xs : List V} (I : Inv X pins σ H s) (h : H p = some (.lst xs)) : ∃ its : List Value, Vals xs its ∧ s.heap.IsList p its.toArray := by
  obtain ⟨_, its, n, r, e⟩ := (show ObjOk X.prog X.w H s.heap p (.lst xs) from I.hok p _ h)
  exact ⟨its, r, _, e, rfl, n, rfl⟩
theorem op_eqNil {X : Cx} (hu : X.A.units < cLine) : OpR X (compareOp .Eq) (rEqNil true) := by
  intro pins s σ H x y v u Q I rx ry h
  obtain ⟨p, q, xs, rfl, rfl, hp, hq, h⟩ := h
  obtain rfl : v = Value.ref p := rx
  obtain rfl : u = Value.ref q := ry
  obtain ⟨its, r, e⟩ := lst_at I hp
  obtain ⟨its2, r2, e2⟩ := lst_at I hq
  cases r2
  cases r with
  | nil => exact SeqAt.eq_listAt (e := fun _ => true) e e2 rfl hu (fun j h1 _ => absurd h1 (Nat.not_lt_zero _)) ⟨.bl true, H, I, rfl, h⟩
  | cons r r' => exact SeqAt.eq_list_lengthsAt e e2 (by simp) hu ⟨.bl false, H, I, rfl, h⟩

theorem op_neNil {X : Cx} (hu : X.A.units < cLine) : OpR X (compareOp .NotEq) (rEqNil false) := by
  intro pins s σ H x y v u Q I rx ry h
  obtain ⟨p, q, xs, rfl, rfl, hp, hq, h⟩ := h
  obtain rfl : v = Value.ref p := rx
  obtain rfl : u = Value.ref q := ry
  obtain ⟨its, r, e⟩ := lst_at I hp
  obtain ⟨its2, r2, e2⟩ := lst_at I hq
  cases r2
  cases r with
  | nil => exact SeqAt.RcNeAt.lists (e := fun _ => true) e e2 rfl hu (fun j h1 _ => absurd h1 (Nat.not_lt_zero _)) X.prog X.w X.xe _ ⟨.bl false, H, I, rfl, h⟩
  | cons r r' => exact SeqAt.RcNeAt.lists_lengths e e2 (by simp) hu X.prog X.w X.xe _ ⟨.bl true, H, I, rfl, h⟩
/-! ### p != q by the own == of an instance -/
section
variable {prog : Program} {w : World} {A : Around} {E : Value → Shared → Prop} {s : Shared} {K : PySem.W.Frag} {x y C f : Addr} {ox : Obj} {od : Option Obj}
theorem ne_body {Q : PySem.Fin → Shared → Prop} (hu : A.units < cLine) (X : K.In s.heap) (I : PySem.W.InstAt s.heap x ox C od) (heq : PySem.W.findIn K (.ref C) "__eq__" = some (some (.ref f))) (hf : PySem.W.isFn K (.ref f) = true)
    (h : wpAny (model prog w) A (call (.ref f) [.ref x, .ref y]) (fun v s' => ∃ b, v = .bool b ∧ Q (.done (.ret (.bool (!b)))) s') E s) : wpAny (model prog w) A (Builtin.«object.__ne__» ⟨[.ref x, .ref y], []⟩) Q E s := by
  have one : wpAny (model prog w) A (callSpecialIfBound? (.ref x) (Str.ofString "__eq__") [.ref y]) (fun r s' => ∃ b, r = some (.bool b) ∧ Q (.done (.ret (.bool (!b)))) s') E s :=
    PySem.W.ifBound_K X I heq hf (wpAny_mono h (fun v s' hv => by
      obtain ⟨b, rfl, q⟩ := hv
      exact ⟨b, rfl, q⟩) fun _ _ e => e)
  obtain ⟨hh, g, d, tt, os⟩ := s
  unfold Builtin.«object.__ne__»
  repeat (first
    | with_reducible refine wpAny_cRoomFor hu ?_
    | (refine wpAny_bind (m := callSpecialIfBound? (.ref x) (Str.ofString "__eq__") [.ref y]) (wpAny_mono one (fun r s' hr => by
          obtain ⟨b, rfl, hq⟩ := hr
          repeat (first | exact hq | exact wpAny_pure hq | exact wpAny_truthy_bool hq | (refine wpAny_bind (m := truthy (.bool _)) (wpAny_truthy_bool ?_)) | wp_step)) fun _ _ e => e))
    | wp_step)
theorem ne_own {Q : Value → Shared → Prop} (hu : A.units + 1 < cLine) (X : K.In s.heap) (I : PySem.W.InstAt s.heap x ox C od) (J : PySem.W.Looks (model prog w) s.heap (typeOf (.ref y)) (.ref C)) (hne : PySem.W.findIn K (.ref C) "__ne__" = some (some (.builtin "object.__ne__")))
    (heq : PySem.W.findIn K (.ref C) "__eq__" = some (some (.ref f))) (hf : PySem.W.isFn K (.ref f) = true) (hob : PySem.W.subIn K (.ref C) (.type "object") = some true)
    (h : wpAny (model prog w) A.in1 (call (.ref f) [.ref x, .ref y]) (fun v s' => ∃ b, v = .bool b ∧ Q (.bool (!b)) s') E s) : wpAny (model prog w) A (richCompare .NotEq (.ref x) (.ref y)) Q E s := by
  have chk : ∀ {M : Model} {A : Around} {E : Value → Shared → Prop} {Q : Unit → Shared → Prop}, Q () s → wpAny M A (checkBuiltinCall "object.__ne__" ⟨[.ref x, .ref y], []⟩) Q E s := fun {M A E Q} hq => by
    have ha := F.cmpArgs_ne (.ref x) (.ref y)
    simp only [checkBuiltinCall, F.cmpKind_ne, F.cmpSplit_ne]
    refine wpAny_bind ?_
    unfold isInstance
    refine wpAny_bind (I.type.here ((PySem.W.looks_subIn X hob).here ?_))
    simp only [Bool.not_true, Bool.false_eq_true, if_false]
    cases hsig : Manifest.signature? "object.__ne__" with
    | none => exact wpAny_pure hq
    | some sig =>
      simp only [argsOk, hsig] at ha
      have h2 : Bind.checkArgs "object.__ne__" sig ⟨[.ref x, .ref y], []⟩ = pure () := ha
      show wpAny M A (Bind.checkArgs "object.__ne__" sig ⟨[.ref x, .ref y], []⟩) Q E _
      rw [h2]
      exact wpAny_pure hq
  have one : wpAny (model prog w) A (tryCompare (.ref x) "__ne__" (.ref y)) (fun r s' => ∃ v, r = some v ∧ Q v s') E s := by
    unfold tryCompare
    simp only [callSpecialIfBound?, bindSpecialIfBound?]
    have fin : wpAny (model prog w) A (call (.builtin "object.__ne__") ([.ref x] ++ [.ref y]) >>= fun v => pure (some v)) (fun r s' => ∃ b, r = some (.bool b) ∧ Q (.bool b) s') E s := by
      refine wpAny_bind (wpAny_call (codeAny_call_builtin F.cmp_object.ne.plain F.cmpEntry_ne (chk ?_)))
      refine ne_body (A := A.in1) hu X I heq hf (wpAny_mono h (fun v s' hv => ?_) fun _ _ e => e)
      obtain ⟨b, rfl, hq⟩ := hv
      exact ⟨b, rfl, wpAny_pure ⟨_, rfl, hq⟩⟩
    have fin2 : wpAny (model prog w) A (holding [Value.ref x, Value.ref y] (do
        let __x ← (do
          let __x ← specialOf (Value.ref x) (Str.ofString "__ne__")
          match __x with
          | some f =>
            let bind : Sem (Option (Value × List Value)) := do
              let __do_lift ← bindSpecial f (Value.ref x)
              pure (some __do_lift)
            let __do_lift ← ask
            if __do_lift.params.followText "special-get-raises" then bind else bind.tryCatch fun _ => do rule "special.get-raises-dropped"; pure none
          | _ => pure none)
        match __x with
        | some (g, first) => do
          let __do_lift ← call g (first ++ [Value.ref y])
          pure (some __do_lift)
        | _ => pure none)) (fun r s' => ∃ b, r = some (.bool b) ∧ Q (.bool b) s') E s := by
      refine wpAny_holding (wpAny_bind (wpAny_bind (wpAny_bind (I.type.here ((PySem.W.looks_findIn X hne).here ?_)))))
      simp only [F.cmp_object.ne.bind]
      refine wpAny_bind (wpAny_askSetting (wpAny_ite ?_))
      split
      · exact wpAny_bind (wpAny_pure (wpAny_pure (by exact fin)))
      · exact wpAny_tryCatch (wpAny_bind (wpAny_pure (wpAny_pure (by exact fin))))
    refine wpAny_bind (wpAny_mono fin2 (fun r s' hr => ?_) fun _ _ e => e)
    obtain ⟨b, rfl, hq⟩ := hr
    exact wpAny_pure ⟨_, rfl, hq⟩
  unfold richCompare
  simp only [oneThing_ref]
  refine wpAny_holding (wpAny_bind (wpAny_cRoomFor (Nat.lt_of_succ_lt hu) ?_))
  rw [cmpInfo_NotEq]
  dsimp only
  refine wpAny_bind (I.type.here (wpAny_bind (J.here ?_)))
  rw [show (Value.ref C != Value.ref C) = false from by simp]
  simp only [Bool.false_eq_true, if_false]
  refine wpAny_bind (wpAny_pure ?_)
  simp only [Bool.false_eq_true, if_false]
  refine wpAny_bind (wpAny_mono one (fun r s' hr => ?_) fun _ _ e => e)
  obtain ⟨v, rfl, hq⟩ := hr
  exact wpAny_pure hq
end
/-! ### min(xs, key=f) -/
section
variable {X : Cx} {pins : List (Addr × Obj)} {σ : L2.St} {H : Hp} {g l : Addr} {xs : List V} {kf : Nat → Int} {k : Nat} {sp : Sp}
/-- the key of an item, by the def's promise -/
theorem key_of (F : FnR X.prog X.w X.K X.mg X.base (L2.CX X.prog X.w) k g sp) (hr : Room k X.A.in1) {x : V} {n : Int} (h : sp [x] H (fun v H' => v = .int n ∧ H' = H) E0) {ps : List (Addr × Obj)} {s : Shared} (I : Inv X ps σ H s) {u : Value} (r : RelV x u) :
    wpAny (model X.prog X.w) X.A.in1 (call (.ref g) [u]) (fun v s' => (∃ t, v = .int n t) ∧ Inv X ps σ H s') (fun _ _ => False) s := by
  refine wpAny_call (codeAny_mono (F X.A.in1 X.stack s H [u] [x] _ E0 hr I.env0.in1 (.cons r .nil) h) fun rs s' hq => ?_)
  cases rs with
  | error e =>
    obtain ⟨_, _, _, _, _, _, _, _, _, _, _, _, z⟩ := hq
    exact z.elim
  | ok fl =>
    cases fl with
    | ret w =>
      obtain ⟨v, H', I', rv, ev, eH⟩ := I.after hq
      subst ev
      subst eH
      obtain ⟨t, rfl⟩ := rv
      exact ⟨⟨t, rfl⟩, I'⟩
    | next => exact False.elim hq
    | brk => exact False.elim hq
    | cont => exact False.elim hq

/-- an untracked record of ours -/
structure Mine (X : Cx) (H : Hp) (ps : List (Addr × Obj)) (a : Addr) : Prop where
  hn : H a = none
  hL : a ≠ X.env.locals
  h1 : a ∈ X.ex ∨ X.s_0.heap.objs.size ≤ a
  h2 : ∀ x c, X.env.cells.lookup x = some c → c ≠ a
  h3 : ∀ p ∈ X.pn ++ ps, p.1 ≠ a
  h4 : a ∉ X.fs
theorem Mine.of {ps : List (Addr × Obj)} {s : Shared} (I : Inv X ps σ H s) {a : Addr} (h : s.heap.objs.size ≤ a) : Mine X H ps a where
  hn := I.hok.fresh h
  hL := Nat.ne_of_gt (Nat.lt_of_lt_of_le I.lt h)
  h1 := .inr (Nat.le_trans I.sz h)
  h2 := fun x c e z => by
    obtain ⟨v, o, ho, _⟩ := I.cell x c e
    rw [z] at ho
    exact absurd (Nat.lt_of_lt_of_le (Heap.lt_size ho) h) (Nat.lt_irrefl _)
  h3 := fun p hp z => by
    have e := (I.pin p hp).1
    rw [z] at e
    exact absurd (Nat.lt_of_lt_of_le (Heap.lt_size e) h) (Nat.lt_irrefl _)
  h4 := I.nofs h
theorem Mine.pinned {ps : List (Addr × Obj)} {s : Shared} {a : Addr} {o : Obj} (m : Mine X H ps a) (I : Inv X ps σ H s) (e : s.heap.get? a = some o) (d : ∀ v, o.data ≠ .cell v) : Inv X ((a, o) :: ps) σ H s := by
  refine ⟨I.ok, I.os, I.bare, I.base, I.loc, I.cell, I.free, I.freeC, fun p hp => ?_, I.hok, I.len⟩
  rcases List.mem_append.mp hp with z | z
  · exact I.pin p (List.mem_append_left _ z)
  · rcases List.mem_cons.mp z with z | z
    · subst z
      exact ⟨e, m.hn, m.hL, m.h4, d⟩
    · exact I.pin p (List.mem_append_right _ z)
theorem unpin {ps : List (Addr × Obj)} {s : Shared} {q : Addr × Obj} (I : Inv X (q :: ps) σ H s) : Inv X ps σ H s :=
  ⟨I.ok, I.os, I.bare, I.base, I.loc, I.cell, I.free, I.freeC, fun p hp => (List.mem_append.mp hp).elim (fun z => I.pin p (List.mem_append_left _ z)) fun z => I.pin p (List.mem_append_right _ (List.mem_cons_of_mem _ z)), I.hok, I.len⟩
theorem pin_at {ps : List (Addr × Obj)} {s : Shared} {q : Addr × Obj} (I : Inv X (q :: ps) σ H s) : s.heap.get? q.1 = some q.2 := (I.pin q (List.mem_append_right _ List.mem_cons_self)).1

theorem sqL_at {ps : List (Addr × Obj)} {s : Shared} (I : Inv X ps σ H s) (h : SqL X.K H l xs) : ∃ its : List Value, Vals xs its ∧ s.heap.IsList l its.toArray := by
  obtain ⟨its, r, pl, _⟩ := I.list h
  exact ⟨its, r, pl.isList⟩

abbrev seqL (its : Array Value) (c : Nat) : Obj := seqObj "list" its c
theorem min_loop (hh : X.A.handled = none) (hl : SqL X.K H l xs) {I S : Addr} (hlI : l ≠ I) (hSI : S ≠ I) (mI : Mine X H pins I) (mS : Mine X H pins S)
    (key : ∀ (i : Nat) (x : V), xs[i]? = some x → ∀ (ps : List (Addr × Obj)) (s : Shared), Inv X ps σ H s → ∀ u, RelV x u → wpAny (model X.prog X.w) X.A.in1 (call (.ref g) [u]) (fun v s' => (∃ t, v = .int (kf i) t) ∧ Inv X ps σ H s') (fun _ _ => False) s)
    {Q : Value → Shared → Prop} (hQ : ∀ i x u s', xs[i]? = some x → RelV x u → (∀ j, j < xs.length → kf i ≤ kf j ∧ (j < i → kf i < kf j)) → Inv X pins σ H s' → Q u s') :
    ∀ (r j i : Nat) (s : Shared) (xb : V) (vb : Value) (tb : Tok) (c : Nat), xs.length - (j + 1) = r → j + 1 ≤ xs.length → Inv X ((S, seqL #[vb, .int (kf i) tb] c) :: pins) σ H s →
      s.heap.IsListIter I l (j + 1) → xs[i]? = some xb → RelV xb vb → i ≤ j → (∀ j', j' ≤ j → kf i ≤ kf j' ∧ (j' < i → kf i < kf j')) →
      codeAny (model X.prog X.w) X.A (.builtin "min.loop" ⟨[.ref I, .ref g, .ref S], []⟩) (fun r s' => match r with | .ok (.ret v) => Q v s' | .ok _ => False | .error e => X.xe e s') s := by
  have hname : (toString "min" ++ toString ".loop" : String) = "min.loop" := by decide
  have hcell : ∀ (its : Array Value) (c : Nat) (v : Option Value), (seqL its c).data ≠ .cell v := fun _ _ _ z => nomatch z
  intro r
  induction r with
  | zero =>
    intro j i s xb vb tb c hr hj Iv hit hxb rb hij hbest
    have hin : j + 1 = xs.length := by omega
    obtain ⟨its, rv, hL⟩ := sqL_at Iv hl
    have W := Walks.list (prog := X.prog) (w := X.w) (A := X.A.in1) hh I l hlI its.toArray
    have hsz : its.toArray.size = xs.length := by rw [List.size_toArray, rv.length]
    have gS := pin_at Iv
    refine codeAny_builtin PySem.F.entry_min_loop ?_
    rw [Around.under_plainId PySem.F.plain_min_loop _]
    show wpAny _ X.A.in1 (seqItems? (.ref S) >>= _) _ _ _
    refine wpAny_bind (wpAny_seqItems gS rfl ?_)
    show wpAny _ X.A.in1 (tryCatch (pyNext (.ref I)) _ >>= _) _ _ _
    refine wpAny_bind (wpAny_tryCatch (W.done _ _ _ ⟨by rw [hsz, ← hin]; exact hit, hL⟩ fun h' tk' hk' => ?_))
    have I1 : Inv X ((S, seqL #[vb, .int (kf i) tb] c) :: pins) σ H { s with heap := h', toks := tk' } :=
      Iv.turned (it := I) (fun b o hb e => hk' b o (by simpa using hb) e) mI.hn mI.hL mI.h1 mI.h2 (fun p hp => by
        rcases List.mem_append.mp hp with z | z
        · exact mI.h3 p (List.mem_append_left _ z)
        · rcases List.mem_cons.mp z with z | z
          · subst z
            exact hSI
          · exact mI.h3 p (List.mem_append_right _ z))
    have gS1 := pin_at I1
    show wpAny _ X.A.in1 (updateSeq S (fun _ => #[]) >>= _) _ _ _
    refine wpAny_bind ?_
    refine wpAny_updateSeq gS1 rfl (wpAny_bind (wpAny_letGo (wpAny_pure ?_)))
    have s1 := Heap.SameBut.update h' S (Obj.mapSeq fun _ => (#[] : Array Value))
    have I2 := (unpin I1).turned (t' := tk') (it := S) (fun b o hb e => (s1.2 b hb).trans e) mS.hn mS.hL mS.h1 mS.h2 mS.h3
    exact hQ i xb vb _ hxb rb (fun j' hj' => hbest j' (by omega)) I2
  | succ r ih =>
    intro j i s xb vb tb c hr hj Iv hit hxb rb hij hbest
    have hlt : j + 1 < xs.length := by omega
    obtain ⟨its, rv, hL⟩ := sqL_at Iv hl
    have W := Walks.list (prog := X.prog) (w := X.w) (A := X.A.in1) hh I l hlI its.toArray
    have hsz : its.toArray.size = xs.length := by rw [List.size_toArray, rv.length]
    have gS := pin_at Iv
    refine codeAny_builtin PySem.F.entry_min_loop ?_
    rw [Around.under_plainId PySem.F.plain_min_loop _]
    show wpAny _ X.A.in1 (seqItems? (.ref S) >>= _) _ _ _
    refine wpAny_bind (wpAny_seqItems gS rfl ?_)
    show wpAny _ X.A.in1 (tryCatch (pyNext (.ref I)) _ >>= _) _ _ _
    refine wpAny_bind (wpAny_tryCatch (W.item (j + 1) _ _ _ (by rw [hsz]; exact hlt) ⟨hit, hL⟩ fun v h' tk' hP hst' hk' => ?_))
    have hv : its[j + 1]? = some v := by simpa using hP
    obtain ⟨u2, hu2, rx⟩ := rv.get (i := j + 1) (x := xs[j + 1]) (List.getElem?_eq_getElem hlt)
    have eu : u2 = v := Option.some.inj (hu2.symm.trans hv)
    subst eu
    obtain ⟨oI', hoI', hoc, hod⟩ := id hst'.1
    have hne : ∀ p ∈ X.pn ++ (S, seqL #[vb, .int (kf i) tb] c) :: pins, p.1 ≠ I := fun p hp => by
      rcases List.mem_append.mp hp with z | z
      · exact mI.h3 p (List.mem_append_left _ z)
      · rcases List.mem_cons.mp z with z | z
        · subst z
          exact hSI
        · exact mI.h3 p (List.mem_append_right _ z)
    have I1 : Inv X ((S, seqL #[vb, .int (kf i) tb] c) :: pins) σ H { s with heap := h', toks := tk' } :=
      Iv.turned (it := I) (fun b o hb e => hk' b o (by simpa using hb) e) mI.hn mI.hL mI.h1 mI.h2 hne
    have I1' : Inv X ((I, oI') :: (S, seqL #[vb, .int (kf i) tb] c) :: pins) σ H { s with heap := h', toks := tk' } :=
      (Mine.mk mI.hn mI.hL mI.h1 mI.h2 hne mI.h4).pinned I1 hoI' (fun v z => by rw [hod] at z; cases z)
    show wpAny _ X.A.in1 (tryCatch (holding [u2] (call (.ref g) [u2])) _ >>= _) _ _ _
    refine wpAny_bind (wpAny_tryCatch (wpAny_holding (wpAny_mono (key (j + 1) xs[j + 1] (List.getElem?_eq_getElem hlt) _ _ I1' u2 rx) (fun z s2 he => ?_) fun _ _ hF => hF.elim)))
    obtain ⟨⟨t2, rfl⟩, I2⟩ := he
    have gI2 := pin_at I2
    have I3 := unpin I2
    have gS2 := pin_at I3
    have hit2 : s2.heap.IsListIter I l (j + 1 + 1) := ⟨oI', gI2, hoc, hod⟩
    show wpAny _ X.A.in1 (tryCatch (holding [u2, .int (kf (j + 1)) t2] (richCompare .Lt (.int (kf (j + 1)) t2) (.int (kf i) tb) >>= _)) _ >>= _) _ _ _
    refine wpAny_bind (wpAny_tryCatch (wpAny_holding (wpAny_bind (CmpOf.ints_lt (prog := X.prog) (w := X.w) (A := X.A.in1) (P := fun i v => ∃ t, v = .int (kf i) t) kf (fun i v h => h) (j + 1) i _ _ _ _ _ ⟨t2, rfl⟩ ⟨tb, rfl⟩ ?_))))
    refine wpAny_bind (wpAny_holding (wpAny_truthy_bool ?_))
    refine wpAny_bind (wpAny_letGo (wpAny_pure ?_))
    by_cases hb' : kf (j + 1) < kf i
    · have s1 := Heap.SameBut.update s2.heap S (Obj.mapSeq fun _ => #[u2, .int (kf (j + 1)) t2])
      obtain ⟨c2, hc2⟩ : ∃ c2, (s2.heap.update S (Obj.mapSeq fun _ => #[u2, .int (kf (j + 1)) t2])).get? S = some (seqL #[u2, .int (kf (j + 1)) t2] c2) := ⟨_, get?_update_seq gS2 fun _ => #[u2, .int (kf (j + 1)) t2]⟩
      have I4 := (unpin I3).turned (t' := s2.toks) (it := S) (fun b o hb e => (s1.2 b hb).trans e) mS.hn mS.hL mS.h1 mS.h2 mS.h3
      have I5 := mS.pinned I4 hc2 (hcell _ _)
      simp only [hb', decide_true, if_true]
      refine wpAny_bind ?_
      refine wpAny_updateSeq gS2 rfl (wpAny_bind (wpAny_letGo ?_))
      rw [hname]
      refine wpAny_pure ⟨plainId_quiet PySem.F.plain_min_loop _, ih (j + 1) (j + 1) _ xs[j + 1] u2 t2 c2 (by omega) hlt I5 ⟨oI', (s1.2 I hSI.symm).trans gI2, hoc, hod⟩ (List.getElem?_eq_getElem hlt) rx (Nat.le_refl _) fun j' hj' => ?_⟩
      by_cases e : j' = j + 1
      · subst e
        exact ⟨by omega, fun _ => by omega⟩
      · have hb1 := hbest j' (by omega)
        have hb2 := hb1.1
        exact ⟨by omega, fun _ => by omega⟩
    · simp only [hb', decide_false, Bool.false_eq_true, if_false]
      refine wpAny_bind (wpAny_letGo ?_)
      rw [hname]
      refine wpAny_pure ⟨plainId_quiet PySem.F.plain_min_loop _, ih (j + 1) i _ xb vb tb c (by omega) hlt I3 hit2 hxb rb (by omega) fun j' hj' => ?_⟩
      by_cases e : j' = j + 1
      · subst e
        exact ⟨by omega, fun _ => by omega⟩
      · exact hbest j' (by omega)
def rMinKey (K : PySem.W.Frag) (g : Addr) (sp : Sp) : List V → List V → Hp → VK → Prop := fun vs zs H Q => ∃ (a : Addr) (xs : List V) (kf : Nat → Int), vs = [.ref a] ∧ zs = [.ref g] ∧ SqL K H a xs ∧ 0 < xs.length ∧
  (∀ (i : Nat) (x : V), xs[i]? = some x → sp [x] H (fun v H' => v = .int (kf i) ∧ H' = H) E0) ∧ ∀ (i : Nat) (x : V), xs[i]? = some x → (∀ j, j < xs.length → kf i ≤ kf j ∧ (j < i → kf i < kf j)) → Q x H
theorem cr_minKey (hc : X.calm = true) (F : FnR X.prog X.w X.K X.mg X.base (L2.CX X.prog X.w) k g sp) (hr : Room (k + 1) X.A) : CallRK X (.builtin "min") [Str.ofString "key"] (rMinKey X.K g sp) := by
  intro pins s σ H vs zs us ws Q Iv rv rz h
  obtain ⟨l, xs, kf, rfl, rfl, hl, hpos, hkey, hq⟩ := h
  cases rv with
  | cons r1 r2 =>
  cases r2
  cases rz with
  | cons r3 r4 =>
  cases r4
  cases r1
  cases r3
  have hh : X.A.handled = none := Iv.ok.hd hc
  have hname : (toString "min" ++ toString ".loop" : String) = "min.loop" := by decide
  have hcell : ∀ (its : Array Value) (c : Nat) (v : Option Value), (seqL its c).data ≠ .cell v := fun _ _ _ z => nomatch z
  have key : ∀ (i : Nat) (x : V), xs[i]? = some x → ∀ (ps : List (Addr × Obj)) (s : Shared), Inv X ps σ H s → ∀ u, RelV x u → wpAny (model X.prog X.w) X.A.in1 (call (.ref g) [u]) (fun v s' => (∃ t, v = .int (kf i) t) ∧ Inv X ps σ H s') (fun _ _ => False) s :=
    fun i x hx ps s J u ru => key_of F hr.in1 (hkey i x hx) J ru
  obtain ⟨its, rl, hL⟩ := sqL_at Iv hl
  have hsz : its.toArray.size = xs.length := by rw [List.size_toArray, rl.length]
  obtain ⟨ol, hol, _⟩ := id hL
  have hll : l < s.heap.objs.size := Heap.lt_size hol
  show wpAny (model X.prog X.w) X.A (call (.builtin "min") [.ref l] [(Str.ofString "key", .ref g)]) (EP X pins σ Q) X.xe s
  refine kmk_tree PySem.F.kind_min PySem.F.plain_min PySem.F.entry_min (kmk_min_key _ _) ?_
  show wpAny _ X.A.in1 (Builtin.Builtins.bindParams "min" ["key", "default"] 0 ⟨[], [(Str.ofString "key", .ref g)]⟩ >>= _) _ _ s
  refine wpAny_bind (wpAny_of_eq (show Builtin.Builtins.bindParams "min" ["key", "default"] 0 ⟨[], [(Str.ofString "key", .ref g)]⟩ = pure [some (.ref g), none] from rfl) ?_)
  refine wpAny_bind (wpAny_pure ?_)
  refine wpAny_bind (wpAny_pyIter_list hL ?_)
  refine wpAny_bind (wpAny_newList ?_ (Nat.zero_le _))
  rw [hname]
  have mI : Mine X H pins s.heap.objs.size := Mine.of Iv (Nat.le_refl _)
  have hS : (s.heap.push { cls := .type "list_iterator", data := .fields #[.ref l, .int 0 0] }).objs.size = s.heap.objs.size + 1 := size_push' ..
  have mS : Mine X H pins (s.heap.push { cls := .type "list_iterator", data := .fields #[.ref l, .int 0 0] }).objs.size := Mine.of Iv (by rw [hS]; exact Nat.le_succ _)
  have hlI : l ≠ s.heap.objs.size := Nat.ne_of_lt hll
  have hSI : (s.heap.push { cls := .type "list_iterator", data := .fields #[.ref l, .int 0 0] }).objs.size ≠ s.heap.objs.size := by rw [hS]; exact Nat.ne_of_gt (Nat.lt_succ_self _)
  refine wpAny_pure ⟨plainId_quiet PySem.F.plain_min_loop _, ?_⟩
  have kp : ∀ b o, s.heap.get? b = some o → ((s.heap.push { cls := .type "list_iterator", data := .fields #[.ref l, .int 0 0] }).push (seqL #[] 0)).get? b = some o := fun b o e => Heap.get?_push_of_some _ (Heap.get?_push_of_some _ e)
  have I0 : Inv X pins σ H { s with heap := (s.heap.push { cls := .type "list_iterator", data := .fields #[.ref l, .int 0 0] }).push (seqL #[] 0) } := Iv.kept (t' := s.toks) kp
  have gI : ((s.heap.push { cls := .type "list_iterator", data := .fields #[.ref l, .int 0 0] }).push (seqL #[] 0)).get? s.heap.objs.size = some { cls := .type "list_iterator", data := .fields #[.ref l, .int 0 0] } :=
    Heap.get?_push_of_some _ (Heap.get?_push_size _ rfl)
  have gS : ((s.heap.push { cls := .type "list_iterator", data := .fields #[.ref l, .int 0 0] }).push (seqL #[] 0)).get? (s.heap.push { cls := .type "list_iterator", data := .fields #[.ref l, .int 0 0] }).objs.size = some (seqL #[] 0) := Heap.get?_push_size _ rfl
  have hL0 := (sqL_at I0 hl)
  obtain ⟨its0, rl0, hL0⟩ := hL0
  have hsz0 : its0.toArray.size = xs.length := by rw [List.size_toArray, rl0.length]
  have W := Walks.list (prog := X.prog) (w := X.w) (A := X.A.in1) hh s.heap.objs.size l hlI its0.toArray
  refine codeAny_builtin PySem.F.entry_min_loop ?_
  rw [Around.under_plainId PySem.F.plain_min_loop _]
  show wpAny _ X.A.in1 (seqItems? (.ref _) >>= _) _ _ _
  refine wpAny_bind (wpAny_seqItems gS rfl ?_)
  show wpAny _ X.A.in1 (tryCatch (pyNext (.ref s.heap.objs.size)) _ >>= _) _ _ _
  refine wpAny_bind (wpAny_tryCatch (W.item 0 _ _ _ (by rw [hsz0]; exact hpos) ⟨⟨_, gI, rfl, rfl⟩, hL0⟩ fun v h' tk' hP hst' hk' => ?_))
  have hv : its0[0]? = some v := by simpa using hP
  obtain ⟨u2, hu2, rx⟩ := rl0.get (i := 0) (x := xs[0]) (List.getElem?_eq_getElem hpos)
  have eu : u2 = v := Option.some.inj (hu2.symm.trans hv)
  subst eu
  obtain ⟨oI', hoI', hoc, hod⟩ := id hst'.1
  have I1a := I0.turned (it := s.heap.objs.size) (t' := tk') (h' := h') (fun b o hb e => hk' b o (by simpa using hb) e) mI.hn mI.hL mI.h1 mI.h2 mI.h3
  have I1 : Inv X pins σ H { s with heap := h', toks := tk' } := I1a
  have gS1 : h'.get? (s.heap.push { cls := .type "list_iterator", data := .fields #[.ref l, .int 0 0] }).objs.size = some (seqL #[] 0) := hk' _ _ (by simpa using hSI) gS
  have I2 := mS.pinned I1 gS1 (hcell _ _)
  have I3 : Inv X ((s.heap.objs.size, oI') :: ((s.heap.push { cls := .type "list_iterator", data := .fields #[.ref l, .int 0 0] }).objs.size, seqL #[] 0) :: pins) σ H { s with heap := h', toks := tk' } :=
    (Mine.mk mI.hn mI.hL mI.h1 mI.h2 (fun p hp => by
      rcases List.mem_append.mp hp with z | z
      · exact mI.h3 p (List.mem_append_left _ z)
      · rcases List.mem_cons.mp z with z | z
        · subst z
          exact hSI
        · exact mI.h3 p (List.mem_append_right _ z)) mI.h4).pinned I2 hoI' (fun v z => by rw [hod] at z; cases z)
  show wpAny _ X.A.in1 (tryCatch (holding [u2] (call (.ref g) [u2])) _ >>= _) _ _ _
  refine wpAny_bind (wpAny_tryCatch (wpAny_holding (wpAny_mono (key 0 xs[0] (List.getElem?_eq_getElem hpos) _ _ I3 u2 rx) (fun z s2 he => ?_) fun _ _ hF => hF.elim)))
  obtain ⟨⟨t2, rfl⟩, I4⟩ := he
  have gI2 := pin_at I4
  have I5 := unpin I4
  have gS2 := pin_at I5
  have s1 := Heap.SameBut.update s2.heap (s.heap.push { cls := .type "list_iterator", data := .fields #[.ref l, .int 0 0] }).objs.size (Obj.mapSeq fun _ => #[u2, .int (kf 0) t2])
  obtain ⟨c2, hc2⟩ : ∃ c2, (s2.heap.update (s.heap.push { cls := .type "list_iterator", data := .fields #[.ref l, .int 0 0] }).objs.size (Obj.mapSeq fun _ => #[u2, .int (kf 0) t2])).get? (s.heap.push { cls := .type "list_iterator", data := .fields #[.ref l, .int 0 0] }).objs.size = some (seqL #[u2, .int (kf 0) t2] c2) := ⟨_, get?_update_seq gS2 fun _ => #[u2, .int (kf 0) t2]⟩
  have I6 := (unpin I5).turned (t' := s2.toks) (it := (s.heap.push { cls := .type "list_iterator", data := .fields #[.ref l, .int 0 0] }).objs.size) (fun b o hb e => (s1.2 b hb).trans e) mS.hn mS.hL mS.h1 mS.h2 mS.h3
  have I7 := mS.pinned I6 hc2 (hcell _ _)
  show wpAny _ X.A.in1 (updateSeq (s.heap.push { cls := .type "list_iterator", data := .fields #[.ref l, .int 0 0] }).objs.size (fun _ => #[u2, .int (kf 0) t2]) >>= _) _ _ _
  refine wpAny_bind ?_
  refine wpAny_updateSeq gS2 rfl ?_
  rw [hname]
  refine wpAny_pure ⟨plainId_quiet PySem.F.plain_min_loop _, min_loop hh hl hlI hSI mI mS key (Q := EP X pins σ Q) (fun i x u s' hx ru hb J => ⟨x, H, J, ru, hq i x hx hb⟩) _ 0 0 _ xs[0] u2 t2 c2 rfl hpos I7 ⟨oI', (s1.2 _ hSI.symm).trans gI2, hoc, hod⟩ (List.getElem?_eq_getElem hpos) rx (Nat.le_refl _) fun j' hj' => ?_⟩
  have e : j' = 0 := by omega
  subst e
  exact ⟨by omega, fun h => absurd h (Nat.lt_irrefl _)⟩
end

/-! ### a call beside a list that it does not see -/
def hid (D : Addr) (H : Hp) : Hp := fun b => if b = D then none else H b
theorem hid_self {D : Addr} {H : Hp} : hid D H D = none := if_pos rfl
theorem hid_ne {D b : Addr} {H : Hp} (h : b ≠ D) : hid D H b = H b := if_neg h
theorem hid_upd {D : Addr} {H : Hp} {o : HO} : hid D (upd H D o) = hid D H := by
  funext b
  by_cases h : b = D
  · rw [h, hid_self, hid_self]
  · rw [hid_ne h, hid_ne h, upd_ne h]
theorem hid_none {D : Addr} {H : Hp} (h : H D = none) : hid D H = H := by
  funext b
  by_cases e : b = D
  · rw [e, hid_self, h]
  · rw [hid_ne e]
theorem hid_ex {D : Addr} {H : Hp} : Ex (hid D H) H := fun b o h => by
  by_cases e : b = D
  · rw [e, hid_self] at h
    cases h
  · rw [hid_ne e] at h
    exact h
theorem hid_some {D b : Addr} {H : Hp} {o : HO} (h : hid D H b = some o) : b ≠ D ∧ H b = some o := by
  by_cases e : b = D
  · rw [e, hid_self] at h
    cases h
  · rw [hid_ne e] at h
    exact ⟨e, h⟩
def spFr (sp : Sp) : Sp := fun vs H Q _ => ∃ D xs, H D = some (.lst xs) ∧ sp vs (hid D H) (fun v H2 => H2 D = none → Q v (upd H2 D (.lst xs))) E0
theorem frame {P : Program} {w : World} {K : PySem.W.Frag} {mg : Str → Option Value} {base : Heap} {k : Nat} {f : Addr} {sp : Sp} (F : FnR P w K mg base (L2.CX P w) k f sp) : FnR P w K mg base (L2.CX P w) k f (spFr sp) := by
  intro A outer s H us vs Q E hr e0 r h
  obtain ⟨D, xs, hD, h⟩ := h
  have nl : ∀ b (u : HO), H b = some u → (∀ ys, u ≠ .lst ys) → b ≠ D := fun b u hb hu e => by
    rw [e, hD] at hb
    exact hu xs (Option.some.inj hb).symm
  have hok' : HOk P w (hid D H) s.heap := fun a o e => by
    obtain ⟨_, e1⟩ := hid_some e
    refine (e0.hok a o e1).stay (fun b u _ q => q) (fun b q => ?_) (fun b ys q => ?_)
    · rw [hid_ne (nl b _ q fun ys z => nomatch z)]
      exact q
    · rw [hid_ne (nl b _ q fun ys z => nomatch z)]
      exact q
  have hnone : ∀ b, H b = none → hid D H b = none := fun b hb => by
    by_cases e : b = D
    · rw [e, hid_self]
    · rw [hid_ne e]
      exact hb
  have e0' : Env0 P w K mg base A outer s (hid D H) := ⟨e0.frames, e0.mod, fun b o e => ⟨(e0.bs b o e).1, hnone b (e0.bs b o e).2⟩, e0.bsz, e0.funs, fun b hb => hnone b (e0.frf b hb), hok', e0.bare⟩
  refine codeAny_mono (F A outer s (hid D H) us vs _ E0 hr e0' r h) fun rs s' hq => ?_
  cases rs with
  | error e =>
    obtain ⟨_, _, _, _, _, _, _, _, _, _, _, _, z⟩ := hq
    exact z.elim
  | ok fl =>
    cases fl with
    | ret u =>
      obtain ⟨v, H', os, bare, un, hok, rv, q⟩ := hq
      have nD : D ∉ frs outer := fun z => by
        have := e0.frf D z
        rw [hD] at this
        cases this
      obtain ⟨hz, its, n, rl, ho⟩ := (show ObjOk P w H s.heap D (.lst xs) from e0.hok D _ hD)
      have kD := un.keep D _ ho hid_self nD (by simp)
      have fD := un.free D _ ho hid_self (by simp)
      refine ⟨v, upd H' D (.lst xs), os, bare, ⟨fun b o e n' hb hx => ?_, fun b o e n' hb hx => ?_, fun b o e n' hx => ?_, un.there, fun b ys e => ?_, fun b o' u' e => ?_, fun b ps e => ?_⟩, fun b o e => ?_, rv, q fD⟩
      · exact un.keep b o e (hnone b n') hb hx
      · exact un.slot b o e (hnone b n') hb hx
      · have hbD : b ≠ D := fun z => by rw [z, hD] at n'; cases n'
        rw [upd_ne hbD]
        exact un.free b o e (hnone b n') hx
      · have hbD := nl b _ e fun ys z => nomatch z
        rw [upd_ne hbD]
        exact un.tups b ys (by rw [hid_ne hbD]; exact e)
      · have hbD := nl b _ e fun ys z => nomatch z
        rw [upd_ne hbD]
        exact un.frzs b o' u' (by rw [hid_ne hbD]; exact e)
      · have hbD := nl b _ e fun ys z => nomatch z
        rw [upd_ne hbD]
        exact un.tbls b ps (by rw [hid_ne hbD]; exact e)
      · by_cases hbD : b = D
        · rw [hbD, upd_same] at e
          cases e
          rw [hbD]
          exact ⟨hz, its, n, rl, kD⟩
        · rw [upd_ne hbD] at e
          refine (hok b o e).stay (fun c u' _ q' => q') (fun c q' => ?_) (fun c ys q' => ?_)
          · rw [upd_ne (ne_of_none q' fD)]
            exact q'
          · rw [upd_ne (ne_of_none q' fD)]
            exact q'
    | next => exact False.elim hq
    | brk => exact False.elim hq
    | cont => exact False.elim hq
end Cu

/-! == Core1 -/
set_option maxHeartbeats 4000000
/-! ### what stands in the heap -/
namespace Cu
open PySem PySem.Spec PyProof.Rows L2 Evl CuT
def brV : Option Str → V
  | none => .non
  | some w => .str w
def flds (k : Kind) (l : Addr) (n : Int) (w : Addr) (nd d s : Int) (b : Option Str) : List (Str × V) :=
  [("kind", .str k.s), ("parts", .ref l), ("number", .int n), ("words", .ref w), ("nodes", .int nd), ("depth", .int d), ("span", .int s), ("broken", brV b)]
/-- the program p stands at a -/
inductive IsP (C : Addr) (H : Hp) : Addr → Prog → Prop where
  | mk {a dx l w : Addr} {as : List Addr} {k : Kind} {ps : List Prog} {n : Int} {ws : List Str} {nd d s : Int} {b : Option Str} (ha : H a = some (.ins C dx (flds k l n w nd d s b))) (hl : H l = some (.lst (as.map V.ref)))
      (hw : H w = some (.lst (ws.map V.str))) (len : as.length = ps.length) (sub : ∀ (i : Nat) (x : Addr) (q : Prog), as[i]? = some x → ps[i]? = some q → IsP C H x q) : IsP C H a (.mk k ps n ws nd d s b)
/-- the programs ps stand in the list at l -/
def PL (C : Addr) (H : Hp) (l : Addr) (ps : List Prog) : Prop := ∃ as : List Addr, H l = some (.lst (as.map V.ref)) ∧ as.length = ps.length ∧ ∀ (i : Nat) (x : Addr) (q : Prog), as[i]? = some x → ps[i]? = some q → IsP C H x q
section
variable {C : Addr} {H H' : Hp} {a l : Addr} {p : Prog} {ps : List Prog}
theorem IsP.ext (e : Ex H H') (h : IsP C H a p) : IsP C H' a p := by
  induction h with
  | mk ha hl hw len sub ih => exact .mk (e _ _ ha) (e _ _ hl) (e _ _ hw) len ih
theorem PL.ext (e : Ex H H') (h : PL C H l ps) : PL C H' l ps := by
  obtain ⟨as, h1, h2, h3⟩ := h
  exact ⟨as, e _ _ h1, h2, fun i x q a b => (h3 i x q a b).ext e⟩
theorem IsP.at_ (h : IsP C H a p) : ∃ dx l w, H a = some (.ins C dx (flds p.kind l p.number w p.nodes p.depth p.span p.broken)) ∧ PL C H l p.parts ∧ H w = some (.lst (p.words.map V.str)) := by
  cases h with
  | mk ha hl hw len sub => exact ⟨_, _, _, ha, ⟨_, hl, len, sub⟩, hw⟩
theorem PL.len (h : PL C H l ps) : ∃ as : List Addr, H l = some (.lst (as.map V.ref)) ∧ as.length = ps.length ∧ ∀ (i : Nat) (p : Prog), ps[i]? = some p → ∃ x, as[i]? = some x ∧ IsP C H x p := by
  obtain ⟨as, h1, h2, h3⟩ := h
  refine ⟨as, h1, h2, fun i p hp => ?_⟩
  have hi : i < as.length := by
    rw [h2]
    exact (List.getElem?_eq_some_iff.mp hp).1
  exact ⟨as[i], List.getElem?_eq_getElem hi, h3 i _ p (List.getElem?_eq_getElem hi) hp⟩
/-- the i-th of them -/
theorem PL.get (h : PL C H l ps) {i : Nat} (hp : ps[i]? = some p) : ∃ x, IsP C H x p ∧ ∃ xs : List V, H l = some (.lst xs) ∧ xs[i]? = some (.ref x) := by
  obtain ⟨as, h1, h2, h3⟩ := h.len
  obtain ⟨x, hx, q⟩ := h3 i p hp
  exact ⟨x, q, _, h1, by rw [List.getElem?_map, hx] <;> rfl⟩
end
/-! ### evaluation, further words -/
section
variable {K : PySem.W.Frag} {σ : L2.St} {H : Hp} {ta te : TE} {a C dx : Addr} {fs : List (Str × V)} {f : Str} {v : V}
theorem ev_fld (h : Ev ta σ H (.ref a)) (ho : H a = some (.ins C dx fs)) (hc : Cls K C) (hn : NoAttr K C f) (hl : fs.lookup f = some v) : Ev (tFld K ta f) σ H v := fun H1 e Q q =>
  h H1 e _ fun H2 e2 => ⟨a, C, dx, fs, v, rfl, e2 _ _ (e _ _ ho), hc, hn, hl, q H2 e2⟩
theorem ev_callR {sp : Sp} {vs : List V} {E : XK} {ta : TA} {z : V} (h : EvA ta σ H vs) (hs : SpV sp vs H z) : Ev (tCallR sp E ta) σ H z := fun H1 e Q q =>
  h H1 e _ fun H2 e2 => hs H2 (e.trans e2) Q (fun H3 e3 => q H3 (e2.trans e3)) E
theorem ev_min2 {i j : Int} {tb : TE} (ha : Ev ta σ H (.int i)) (hb : Ev tb σ H (.int j)) : Ev (tCB (fun xs H Q => ∃ i j, xs = [.int i, .int j] ∧ Q (.int (if j < i then j else i)) H) (tCons ta (tCons tb tNil))) σ H (.int (min i j)) := fun H1 e Q q =>
  ha H1 e _ fun H2 e2 => hb H2 (e.trans e2) _ fun H3 e3 => ⟨i, j, rfl, by
    have h : (if j < i then j else i) = min i j := by
      by_cases h : j < i
      · rw [if_pos h, Int.min_eq_right (by omega)]
      · rw [if_neg h, Int.min_eq_left (by omega)]
    rw [h]
    exact q H3 (e2.trans e3)⟩
theorem et_cmp {g : Int → Int → Bool} {tb : TE} {i j : Int} (ha : Ev ta σ H (.int i)) (hb : Ev tb σ H (.int j)) : EvT (tTest (tOp (rI0 fun i j => .bl (g i j)) ta tb)) σ H (g i j) := et_test (ev_op ha hb rv_I0)
theorem et_eqI {tb : TE} {i j : Int} (ha : Ev ta σ H (.int i)) (hb : Ev tb σ H (.int j)) : EvT (tTest (tOp rEq ta tb)) σ H (decide (i = j)) := by
  have h := et_test (ev_op ha hb (rv_eq (H := H) (x := .int i) (y := .int j) rfl))
  refine et_is h ?_
  by_cases e : i = j
  · subst e
    simp
  · rw [decide_eq_false e, decide_eq_false (fun z => e (V.int.inj z))]
theorem et_eqS {tb : TE} {x y : Str} (ha : Ev ta σ H (.str x)) (hb : Ev tb σ H (.str y)) : EvT (tTest (tOp rEq ta tb)) σ H (decide (x = y)) := by
  have h := et_test (ev_op ha hb (rv_eq (H := H) (x := .str x) (y := .str y) rfl))
  refine et_is h ?_
  by_cases e : x = y
  · subst e
    simp
  · rw [decide_eq_false e, decide_eq_false (fun z => e (V.str.inj z))]
theorem et_isN (ha : Ev ta σ H v) : EvT (tTest (tOp rIsN ta (tC .non))) σ H (decide (v = .non)) := et_test (ev_op ha ev_c fun H1 _ _ q => ⟨rfl, q H1 (Ex.refl H1)⟩)
theorem et_notN (ha : Ev ta σ H v) : EvT (tTest (tOp rNotN ta (tC .non))) σ H (!decide (v = .non)) := et_test (ev_op ha ev_c fun H1 _ _ q => ⟨rfl, q H1 (Ex.refl H1)⟩)
end
theorem brV_non {b : Option Str} : decide (brV b = .non) = b.isNone := by
  cases b with
  | none => rfl
  | some w => rfl
theorem pe_gi {X : Cx} {x : Str} {i : Int} {pos : Pos} (hg : Gl X x) (hm : ∃ t, X.mg x = some (.int i t)) (hd : (x == ("__debug__" : Str)) = false := by decide) : PE X (.Name x pos) (tC (.int i)) := by
  obtain ⟨t, hm⟩ := hm
  exact pe_glob hg hm ⟨t, rfl⟩ (by first | exact hd | decide)
section
variable {P : Program} {w : World} {K : PySem.W.Frag} {mg : Str → Option Value} {base : Heap}
abbrev PC (K : PySem.W.Frag) : Addr := He.ga K "Program"
section
variable (T : Txt K mg) {σ : L2.St} {H : Hp} {ta : TE} {a : Addr} {p : Prog}
include T
theorem ev_span (h : Ev ta σ H (.ref a)) (hp : IsP (PC K) H a p) : Ev (tFld K ta "span") σ H (.int p.span) := by
  obtain ⟨dx, l, w, ha, _⟩ := hp.at_
  exact ev_fld h ha T.cls_Program T.n_Program_span rfl
theorem ev_number (h : Ev ta σ H (.ref a)) (hp : IsP (PC K) H a p) : Ev (tFld K ta "number") σ H (.int p.number) := by
  obtain ⟨dx, l, w, ha, _⟩ := hp.at_
  exact ev_fld h ha T.cls_Program T.n_Program_number rfl
theorem ev_nodes (h : Ev ta σ H (.ref a)) (hp : IsP (PC K) H a p) : Ev (tFld K ta "nodes") σ H (.int p.nodes) := by
  obtain ⟨dx, l, w, ha, _⟩ := hp.at_
  exact ev_fld h ha T.cls_Program T.n_Program_nodes rfl
theorem ev_depth (h : Ev ta σ H (.ref a)) (hp : IsP (PC K) H a p) : Ev (tFld K ta "depth") σ H (.int p.depth) := by
  obtain ⟨dx, l, w, ha, _⟩ := hp.at_
  exact ev_fld h ha T.cls_Program T.n_Program_depth rfl
theorem ev_kind (h : Ev ta σ H (.ref a)) (hp : IsP (PC K) H a p) : Ev (tFld K ta "kind") σ H (.str p.kind.s) := by
  obtain ⟨dx, l, w, ha, _⟩ := hp.at_
  exact ev_fld h ha T.cls_Program T.n_Program_kind rfl
theorem ev_broken (h : Ev ta σ H (.ref a)) (hp : IsP (PC K) H a p) : Ev (tFld K ta "broken") σ H (brV p.broken) := by
  obtain ⟨dx, l, w, ha, _⟩ := hp.at_
  exact ev_fld h ha T.cls_Program T.n_Program_broken rfl
theorem ev_parts (h : Ev ta σ H (.ref a)) (hp : IsP (PC K) H a p) : ∃ l, PL (PC K) H l p.parts ∧ Ev (tFld K ta "parts") σ H (.ref l) := by
  obtain ⟨dx, l, w, ha, hl, _⟩ := hp.at_
  exact ⟨l, hl, ev_fld h ha T.cls_Program T.n_Program_parts rfl⟩
theorem ev_words (h : Ev ta σ H (.ref a)) (hp : IsP (PC K) H a p) : ∃ l, H l = some (.lst (p.words.map V.str)) ∧ Ev (tFld K ta "words") σ H (.ref l) := by
  obtain ⟨dx, l, w, ha, _, hw⟩ := hp.at_
  exact ⟨w, hw, ev_fld h ha T.cls_Program T.n_Program_words rfl⟩
end
/-- xs[i] of a list of programs -/
theorem ev_part {σ : L2.St} {H : Hp} {tl : TE} {l : Addr} {ps : List Prog} {p : Prog} {i : Nat} (h : Ev tl σ H (.ref l)) (hl : PL (PC K) H l ps) (hp : ps[i]? = some p) : ∃ x, IsP (PC K) H x p ∧ Ev (tOp (rIxL K) tl (tC (.int (i : Int)))) σ H (.ref x) := by
  obtain ⟨x, hx, xs, h1, h2⟩ := hl.get hp
  exact ⟨x, hx, ev_op h ev_c (rv_ixL (sq_of h1) (atI_nat h2))⟩

/-! ### promises -/
def spEnd (C : Addr) (n : Nat) : Sp := fun vs H Q _ => ∃ a p c, vs = [.ref a, .int c] ∧ IsP C H a p ∧ WF p ∧ p.depth ≤ n ∧ 0 ≤ c ∧ RetV (.int (endA p c)) H Q
def spSeqEnd (C : Addr) (n : Nat) : Sp := fun vs H Q _ => ∃ l ps c, vs = [.ref l, .int c] ∧ PL C H l ps ∧ (∀ p ∈ ps, WF p ∧ p.depth ≤ n) ∧ 0 ≤ c ∧ RetV (.int (endS ps 0 c)) H Q
theorem endS_nil (b c : Int) : endS [] b c = b := by unfold endS; rfl
theorem endS_cons (p : Prog) (r : List Prog) (b c : Int) : endS (p :: r) b c = if c < b + p.span then b + endA p (c - b) else endS r (b + p.span) c := by
  rw [endS]
theorem v_end {C : Addr} {n : Nat} {H : Hp} {a : Addr} {p : Prog} {c : Int} (h : IsP C H a p) (hw : WF p) (hd : p.depth ≤ n) (hc : 0 ≤ c) : SpV (spEnd C n) [.ref a, .int c] H (.int (endA p c)) :=
  fun H1 e Q q E => ⟨a, p, c, rfl, h.ext e, hw, hd, hc, q⟩
theorem v_seqEnd {C : Addr} {n : Nat} {H : Hp} {l : Addr} {ps : List Prog} {c : Int} (h : PL C H l ps) (hw : ∀ p ∈ ps, WF p ∧ p.depth ≤ n) (hc : 0 ≤ c) : SpV (spSeqEnd C n) [.ref l, .int c] H (.int (endS ps 0 c)) :=
  fun H1 e Q q E => ⟨l, ps, c, rfl, h.ext e, hw, hc, q⟩
/-- cutends.programs.end_of_sequence -/
abbrev N_end_of_sequence : List Str := ["parts", "cut", "begin", "part"]
theorem sc_end_of_sequence : FnScope N_end_of_sequence ["parts", "cut"] (defScope s_end_of_sequence) := ⟨rfl, rfl, rfl, by decide +kernel, rfl, by decide +kernel, by decide +kernel⟩

theorem r_end_of_sequence {n k : Nat} (T : Txt K mg) (G_end_after : FnR P w K mg base (L2.CX P w) k (He.ga K "end_after") (spEnd (PC K) n)) :
    FnR P w K mg base (L2.CX P w) (k + 1) (He.ga K "end_of_sequence") (spSeqEnd (PC K) n) := by
  refine fn_mk T.f_end_of_sequence sc_end_of_sequence (fun _ _ _ _ _ _ us hl => match us, hl with | [_, _], _ => rfl) (fun vs H Q E h => ?_) (fun cdv A outer s H vs Q E hr h => ?_)
  · obtain ⟨l, ps, c, rfl, _⟩ := h
    rfl
  obtain ⟨l, ps, c, rfl, hl, hw, hc, q⟩ := h
  refine ⟨_, PSs.nox ((pss_cons (ps_set (i := 2) sc_end_of_sequence.nd rfl (Or.inl rfl) pe_int)
    (pss_cons (ps_for PassesOwn.never rfl (pi_list (pv 0)) (pg_name (i := 3) sc_end_of_sequence.nd rfl (Or.inl rfl)) (pss_cons (ps_if (pt_cmpR op_lt (pv 1) (pe_op op_add (pv 2) (pe_fld (pv 3) rfl)) (nomark _)) (pss_one (ps_ret (pe_op op_add (pv 2) (pe_callR G_end_after (hr.mono (by omega)) rfl T.g_end_after (kp_of T.f_end_after) passL (pa_cons (pv 3) (pa_cons (pe_op op_sub (pv 1) (pv 2)) pa_nil)))))) pss_nil)
    (pss_one (ps_set (i := 2) sc_end_of_sequence.nd rfl (Or.inl rfl) (pe_op op_add (pv 2) (pe_fld (pv 3) rfl))))))
    (pss_one (ps_ret (pv 2)))))), ?_⟩
  obtain ⟨as, h1, h2, h3⟩ := hl
  refine q_asg ev_c fun H1 e1 => ?_
  refine q_forLn (xs := as.map V.ref) (ev_var rfl) (sq_of (e1 _ _ h1))
    (fun i σ' H' => Ex H H' ∧ ∃ b v, σ' = [some (.ref l), some (.int c), some (.int b), v] ∧ b ≤ c ∧ endS ps 0 c = endS (ps.drop i) b c) (fun H2 e2 => ⟨e1.trans e2, 0, none, rfl, hc, rfl⟩) (fun i σ' H' hi hP => sq_of (hP.1 _ _ h1)) (fun i x σ' H' hx hP => ?_) (fun σ' H' hP => ?_)
  · obtain ⟨e3, b, v, rfl, hb, he⟩ := hP
    rw [List.getElem?_map] at hx
    obtain ⟨y, hy, rfl⟩ := Option.map_eq_some_iff.mp hx
    have hi : i < as.length := (List.getElem?_eq_some_iff.mp hy).1
    have hpi : ps[i]? = some ps[i] := List.getElem?_eq_getElem (by omega)
    have hip := (h3 i y _ hy hpi).ext e3
    have hpd : ps.drop i = ps[i] :: ps.drop (i + 1) := List.drop_eq_getElem_cons (by omega)
    have hm : ps[i] ∈ ps := List.getElem_mem _
    rw [hpd, endS_cons] at he
    refine q_when (et_cmp (ev_var rfl) (ev_op (ev_var rfl) (ev_span T (ev_var rfl) hip) rv_I0)) (fun hb1 H4 e4 => ?_) (fun hb1 H4 e4 => ?_)
    · have hlt : c < b + ps[i].span := of_decide_eq_true hb1
      rw [if_pos hlt] at he
      refine s_ret (v := .int (endS ps 0 c)) (ev_is (ev_op (ev_var rfl) (ev_callR (ea_cons (ev_var rfl) (ea_cons (ev_op (ev_var rfl) (ev_var rfl) rv_I0) ea_nil)) (v_end (hip.ext e4) (hw _ hm).1 (hw _ hm).2 (by omega))) rv_I0) (by rw [he])) fun H5 e5 => ?_
      exact q H5 ((e3.trans e4).trans e5)
    · have hlt : ¬ c < b + ps[i].span := of_decide_eq_false hb1
      rw [if_neg hlt] at he
      refine s_asg (ev_op (ev_var rfl) (ev_span T (ev_var rfl) (hip.ext e4)) rv_I0) fun H5 e5 => ?_
      exact ⟨(e3.trans e4).trans e5, b + ps[i].span, _, rfl, by omega, he⟩
  · obtain ⟨e3, b, v, rfl, hb, he⟩ := hP
    rw [List.length_map, h2, List.drop_length, endS_nil] at he
    refine s_ret (ev_var rfl) fun H5 e5 => ?_
    rw [← he]
    exact q H5 (e3.trans e5)
end
end Cu

/-! == Core2 -/
set_option maxHeartbeats 4000000
namespace Cu
open PySem PySem.Spec PyProof.Rows L2 Evl CuT
/-! ### lists of programs with their places -/
section
variable {C : Addr} {H H' : Hp} {l : Addr} {ps : List Prog}
theorem PL.zs (h : PL C H l ps) : ∃ zs : List (Addr × Prog), H l = some (.lst (zs.map fun z => V.ref z.1)) ∧ ps = zs.map (·.2) ∧ ∀ z ∈ zs, IsP C H z.1 z.2 := by
  obtain ⟨as, h1, h2, h3⟩ := h
  refine ⟨as.zip ps, ?_, ?_, fun z hz => ?_⟩
  · rw [h1]
    have e : (as.zip ps).map (fun z => V.ref z.1) = ((as.zip ps).map Prod.fst).map V.ref := by rw [List.map_map]; rfl
    rw [e, List.map_fst_zip (by omega)]
  · exact (List.map_snd_zip (by omega)).symm
  · obtain ⟨i, hi, e⟩ := List.mem_iff_getElem.mp hz
    have e1 : (as.zip ps)[i]? = some z := by rw [List.getElem?_eq_getElem hi, e]
    obtain ⟨e2, e3⟩ := List.getElem?_zip_eq_some.mp e1
    exact h3 i _ _ e2 e3
theorem PL.of {zs : List (Addr × Prog)} (h : H l = some (.lst (zs.map fun z => V.ref z.1))) (hz : ∀ z ∈ zs, IsP C H z.1 z.2) : PL C H l (zs.map (·.2)) := by
  refine ⟨zs.map (·.1), ?_, by rw [List.length_map, List.length_map], fun i x q hx hq => ?_⟩
  · rw [h, List.map_map]
    rfl
  · rw [List.getElem?_map] at hx hq
    obtain ⟨z, hz1, rfl⟩ := Option.map_eq_some_iff.mp hx
    rw [hz1] at hq
    have e : z.2 = q := Option.some.inj hq
    subst e
    exact hz z (List.mem_of_getElem? hz1)
end
/-! ### comprehensions over a list, by lists -/
theorem given_eq {α : Type} (f : α → Bool) (g : α → V) : ∀ zs : List α, given zs.length (fun i => match zs[i]? with | some z => f z | none => false) (fun i => match zs[i]? with | some z => g z | none => .non) = (zs.filter f).map g := by
  intro zs
  have key : ∀ n, n ≤ zs.length → given n (fun i => match zs[i]? with | some z => f z | none => false) (fun i => match zs[i]? with | some z => g z | none => .non) = ((zs.take n).filter f).map g := by
    intro n
    induction n with
    | zero => intro _; rfl
    | succ n ih =>
      intro hn
      have hlt : n < zs.length := hn
      have e : zs[n]? = some zs[n] := List.getElem?_eq_getElem hlt
      rw [List.take_succ, e]
      cases hb : f zs[n] with
      | true =>
        rw [given_yes (by show (match zs[n]? with | some z => f z | none => false) = true; rw [e]; exact hb), ih (by omega), List.filter_append, List.map_append]
        show _ ++ [match zs[n]? with | some z => g z | none => V.non] = _
        rw [e]
        simp [hb]
      | false =>
        rw [given_no (by show (match zs[n]? with | some z => f z | none => false) = false; rw [e]; exact hb), ih (by omega), List.filter_append]
        simp [hb]
  rw [key zs.length (Nat.le_refl _), List.take_length]
section
variable {K : PySem.W.Frag} {σ : L2.St} {H : Hp} {te : TE} {t : TT}
theorem el_comp {α : Type} {zs : List α} {toV : α → V} {tl : TE} {j : Nat} {vs : List Nat} (f : α → Bool) (g : α → V) {a : Addr} (h : Ev tl σ H (.ref a)) (hx : SqL K H a (zs.map toV)) (hz : zs.length ≤ 40000) (hw : ∀ x, wipe ((wipe σ vs).set j (some x)) vs = wipe σ vs)
    (ht : ∀ z H1, Ex H H1 → z ∈ zs → EvT t ((wipe σ vs).set j (some (toV z))) H1 (f z)) (he : ∀ z H1, Ex H H1 → z ∈ zs → f z = true → Ev te ((wipe σ vs).set j (some (toV z))) H1 (g z)) :
    EvL (tLc (iList K tl) (gName j) t te vs) σ H ((zs.filter f).map g) := by
  have q := el_lcL (K := K) (t := t) (te := te) (σ := σ) (H := H) (tl := tl) (j := j) (vs := vs) (xs := zs.map toV) (fun i => match zs[i]? with | some z => f z | none => false) (fun i => match zs[i]? with | some z => g z | none => .non) h hx (by rw [List.length_map]; exact hz) hw
    (fun i x H1 e hi => by
      rw [List.getElem?_map] at hi
      obtain ⟨z, hz1, rfl⟩ := Option.map_eq_some_iff.mp hi
      have := ht z H1 e (List.mem_of_getElem? hz1)
      rw [hz1]
      exact this) (fun i x H1 e hi hf => by
      rw [List.getElem?_map] at hi
      obtain ⟨z, hz1, rfl⟩ := Option.map_eq_some_iff.mp hi
      rw [hz1] at hf
      have := he z H1 e (List.mem_of_getElem? hz1) hf
      rw [hz1]
      exact this)
  rw [List.length_map, given_eq] at q
  exact q
theorem et_true : EvT (fun _ H Q => Q true H) σ H true := fun H1 _ _ q => q H1 (Ex.refl H1)
/-- .. without an if -/
theorem el_map {α : Type} {zs : List α} {toV : α → V} {tl : TE} {j : Nat} {vs : List Nat} (g : α → V) {a : Addr} (h : Ev tl σ H (.ref a)) (hx : SqL K H a (zs.map toV)) (hz : zs.length ≤ 40000) (hw : ∀ x, wipe ((wipe σ vs).set j (some x)) vs = wipe σ vs)
    (he : ∀ z H1, Ex H H1 → z ∈ zs → Ev te ((wipe σ vs).set j (some (toV z))) H1 (g z)) : EvL (tLc (iList K tl) (gName j) tYes te vs) σ H (zs.map g) := by
  have q := el_comp (K := K) (t := tYes) (te := te) (zs := zs) (toV := toV) (j := j) (vs := vs) (fun _ => true) g h hx hz hw (fun _ H1 _ _ => fun H2 _ _ q => q H2 (Ex.refl H2)) (fun z H1 e hz _ => he z H1 e hz)
  rw [List.filter_eq_self.mpr (fun _ _ => rfl)] at q
  exact q
theorem ev_max {ns : List Int} (h : EvL te σ H (ns.map V.int)) (hne : ns ≠ []) : Ev (tCB (rMax K) (tCons te tNil)) σ H (.int (maxL ns)) := fun H1 e Q q =>
  h H1 e _ fun p H2 _ e2 hp => ⟨p, ns, rfl, sq_of hp, List.length_pos_iff.mpr hne, fun m hm hle => by
    rw [maxL_unique hm hle]
    exact q H2 e2⟩
theorem ev_sum {ns : List Int} (h : EvL te σ H (ns.map V.int)) : Ev (tCB (rSum K) (tCons te tNil)) σ H (.int ns.sum) := fun H1 e Q q =>
  h H1 e _ fun p H2 _ e2 hp => ⟨p, ns, rfl, sq_of hp, q H2 e2⟩
theorem et_eqNil {ta : TE} {p : Addr} {xs : List V} (h : Ev ta σ H (.ref p)) (hp : H p = some (.lst xs)) : EvT (tTest (tOp (rEqNil true) ta (tLst tNil))) σ H xs.isEmpty :=
  et_test (ev_opL h (el_lst ea_nil (by decide)) fun q H1 hq e => fun H2 e2 Q k => ⟨p, q, xs, rfl, rfl, e2 _ _ (e _ _ hp), e2 _ _ hq, k H2 (Ex.refl H2)⟩)
variable {D : Ends} {tu tw tz : TS}
theorem q_no (h : EvT t σ H false) (k : ∀ H1, Ex H H1 → tz D σ H1) : tSeq (tIfS t tu tNext) tz D σ H := q_when h (fun z => nomatch z) fun _ => k
theorem q_yes (h : EvT t σ H true) (k : ∀ H1, Ex H H1 → tu { D with nx := tz D } σ H1) : tSeq (tIfS t tu tw) tz D σ H := q_if h (fun _ => k) fun z => nomatch z
/-- a test by a word -/
theorem q_by {b : Bool} {A : Prop} [Decidable A] (h : EvT t σ H b) (hb : b = decide A) (h1 : A → ∀ H1, Ex H H1 → tu { D with nx := tz D } σ H1) (h2 : ¬ A → ∀ H1, Ex H H1 → tz D σ H1) : tSeq (tIfS t tu tNext) tz D σ H := by
  subst hb
  exact q_when h (fun z => h1 (of_decide_eq_true z)) fun z => h2 (of_decide_eq_false z)
end
section
variable {P : Program} {w : World} {K : PySem.W.Frag} {mg : Str → Option Value} {base : Heap}
/-! ### end_of_loop -/
def spLoopEnd (C : Addr) (n : Nat) : Sp := fun vs H Q _ => ∃ a p m c, vs = [.ref a, .int m, .int c] ∧ IsP C H a p ∧ WF p ∧ p.depth ≤ n ∧ 0 ≤ m ∧ m ≤ mostT ∧ 0 ≤ c ∧
  RetV (.int (let r := if p.span = 0 then 0 else min (c / p.span) (m - 1); r * p.span + endA p (c - r * p.span))) H Q
theorem v_loopEnd {C : Addr} {n : Nat} {H : Hp} {a : Addr} {p : Prog} {m c : Int} (h : IsP C H a p) (hw : WF p) (hd : p.depth ≤ n) (h0 : 0 ≤ m) (h1 : m ≤ mostT) (hc : 0 ≤ c) :
    SpV (spLoopEnd C n) [.ref a, .int m, .int c] H (.int (let r := if p.span = 0 then 0 else min (c / p.span) (m - 1); r * p.span + endA p (c - r * p.span))) := fun H1 e Q q E => ⟨a, p, m, c, rfl, h.ext e, hw, hd, h0, h1, hc, q⟩
theorem round_le {c S m : Int} (hS : 0 ≤ S) (hc : 0 ≤ c) (hm : 0 ≤ m) (hm2 : m ≤ mostT) (r : Int) (h : r = if S = 0 then 0 else min (c / S) (m - 1)) : r.natAbs < 2 ^ 100 ∧ r * S ≤ c := by
  have e : mostT < 2 ^ 100 := by decide
  by_cases hz : S = 0
  · rw [if_pos hz] at h
    subst h
    rw [hz]
    exact ⟨by decide, by omega⟩
  · rw [if_neg hz] at h
    have h3 : 0 ≤ c / S := Int.ediv_nonneg hc hS
    have r1 : r ≤ c / S := by omega
    have r2 : r ≤ m - 1 := by omega
    have r3 : -1 ≤ r := by omega
    refine ⟨by omega, ?_⟩
    have k := (round_facts (S := S) (c := c) (by omega) hc).2.1
    have := Int.mul_le_mul_of_nonneg_right r1 hS
    omega
abbrev N_end_of_loop : List Str := ["part", "count", "cut", "rounds"]
theorem sc_end_of_loop : FnScope N_end_of_loop ["part", "count", "cut"] (defScope s_end_of_loop) := ⟨rfl, rfl, rfl, by decide +kernel, rfl, by decide +kernel, by decide +kernel⟩

theorem r_end_of_loop {n k : Nat} (T : Txt K mg) (G_end_after : FnR P w K mg base (L2.CX P w) k (He.ga K "end_after") (spEnd (PC K) n)) :
    FnR P w K mg base (L2.CX P w) (k + 1) (He.ga K "end_of_loop") (spLoopEnd (PC K) n) := by
  refine fn_mk T.f_end_of_loop sc_end_of_loop (fun _ _ _ _ _ _ us hl => match us, hl with | [_, _, _], _ => rfl) (fun vs H Q E h => ?_) (fun cdv A outer s H vs Q E hr h => ?_)
  · obtain ⟨a, p, m, c, rfl, _⟩ := h
    rfl
  obtain ⟨a, p, m, c, rfl, hp, hw, hd, h0, h1, hc, q⟩ := h
  refine ⟨_, PSs.nox ((pss_cons (ps_set (i := 3) sc_end_of_loop.nd rfl (Or.inl rfl) (pe_ifExp (pt_cmpR op_eq (pe_fld (pv 0) rfl) pe_int (nomark _)) pe_int (pe_callB (call_min2 rfl) (by rfl) T.b_min (by decide +kernel) (pa_cons (pe_op op_fdivW (pv 2) (pe_fld (pv 0) rfl)) (pa_cons (pe_op op_sub (pv 1) pe_int) pa_nil)))))
    (pss_one (ps_ret (pe_op op_add (pe_op op_mulW (pv 3) (pe_fld (pv 0) rfl)) (pe_callR G_end_after (hr.mono (by omega)) rfl T.g_end_after (kp_of T.f_end_after) passL (pa_cons (pv 0) (pa_cons (pe_op op_sub (pv 2) (pe_op op_mulW (pv 3) (pe_fld (pv 0) rfl))) pa_nil)))))))), ?_⟩
  have sp := (wf_good hw).sp
  have sb := span_bits hw
  obtain ⟨rb, rl⟩ := round_le sp hc h0 h1 _ rfl
  have er : Ev (tIf (tTest (tOp rEq (tFld K (tVar 0) "span") (tC (.int 0)))) (tC (.int 0)) (tCB (fun xs H Q => ∃ i j, xs = [.int i, .int j] ∧ Q (.int (if j < i then j else i)) H) (tCons (tOp (rI CDivW fun i j => .int (i / j)) (tVar 2) (tFld K (tVar 0) "span")) (tCons (tOp (rI0 fun i j => .int (i - j)) (tVar 1) (tC (.int 1))) tNil))))
      (start N_end_of_loop [.ref a, .int m, .int c]) H (.int (if p.span = 0 then 0 else min (c / p.span) (m - 1))) := by
    refine ev_if (et_eqI (ev_span T (ev_var rfl) hp) ev_c) (fun hb => ?_) (fun hb => ?_)
    · rw [if_pos (of_decide_eq_true hb)]
      exact ev_c
    · have hz : ¬ p.span = 0 := of_decide_eq_false hb
      rw [if_neg hz]
      exact ev_min2 (ev_op (ev_var rfl) (ev_span T (ev_var rfl) hp) (rv_I (wide_div (by omega) sb (by decide) (by decide)))) (ev_op (ev_var rfl) ev_c rv_I0)
  refine q_asg er fun H1 e1 => ?_
  generalize hrr : (if p.span = 0 then 0 else min (c / p.span) (m - 1)) = r at *
  have hp1 := hp.ext e1
  refine s_ret (ev_op (ev_op (ev_var rfl) (ev_span T (ev_var rfl) hp1) (rv_I (wide_mul rb sb (by decide) (by decide) (by decide))))
    (ev_callR (ea_cons (ev_var rfl) (ea_cons (ev_op (ev_var rfl) (ev_op (ev_var rfl) (ev_span T (ev_var rfl) hp1) (rv_I (wide_mul rb sb (by decide) (by decide) (by decide)))) rv_I0) ea_nil)) (v_end hp1 hw hd (by omega))) rv_I0) fun H2 e2 => ?_
  exact q H2 (e1.trans e2)
/-! ### length_of, first_failure -/
def spLen (C : Addr) : Sp := fun vs H Q _ => ∃ a p, vs = [.ref a] ∧ IsP C H a p ∧ Q (.int p.span) H
abbrev N_length_of : List Str := ["program"]
theorem sc_length_of : FnScope N_length_of ["program"] (defScope s_length_of) := ⟨rfl, rfl, rfl, by decide +kernel, rfl, by decide +kernel, by decide +kernel⟩

theorem r_length_of (T : Txt K mg) : FnR P w K mg base (L2.CX P w) 1 (He.ga K "length_of") (spLen (PC K)) := by
  refine fn_mk T.f_length_of sc_length_of (fun _ _ _ _ _ _ us hl => match us, hl with | [_], _ => rfl) (fun vs H Q E h => ?_) (fun cdv A outer s H vs Q E hr h => ?_)
  · obtain ⟨a, p, rfl, _⟩ := h
    rfl
  obtain ⟨a, p, rfl, hp, q⟩ := h
  refine ⟨_, PSs.nox ((pss_one (ps_ret (pe_fld (pv 0) rfl)))), ?_⟩
  obtain ⟨dx, l, w, ha, _⟩ := hp.at_
  exact ⟨_, rfl, a, _, dx, _, _, rfl, ha, T.cls_Program, T.n_Program_span, rfl, q⟩
/-- what stands for the first failure -/
def FFV (C : Addr) (H : Hp) (v : V) : Option Prog → Prop
  | none => v = .non
  | some f => ∃ x, v = .ref x ∧ IsP C H x f
def spFF (C : Addr) : Sp := fun vs H Q _ => ∃ l ps, vs = [.ref l] ∧ PL C H l ps ∧ ps.length ≤ 1000 ∧ ∀ H' v, Ex H H' → FFV C H' v (firstFail ps) → Q v H'
abbrev N_first_failure : List Str := ["parts", "broken", "part"]
theorem sc_first_failure : FnScope N_first_failure ["parts"] (defScope s_first_failure) := ⟨rfl, rfl, rfl, by decide +kernel, rfl, by decide +kernel, by decide +kernel⟩

theorem r_first_failure (T : Txt K mg) : FnR P w K mg base (L2.CX P w) 3 (He.ga K "first_failure") (spFF (PC K)) := by
  have G_length_of : FnR P w K mg base (L2.CX P w) 1 (He.ga K "length_of") (spLen (PC K)) := r_length_of T
  refine fn_mk T.f_first_failure sc_first_failure (fun _ _ _ _ _ _ us hl => match us, hl with | [_], _ => rfl) (fun vs H Q E h => ?_) (fun cdv A outer s H vs Q E hr h => ?_)
  · obtain ⟨l, ps, rfl, _⟩ := h
    rfl
  obtain ⟨l, ps, rfl, hl, hlen, q⟩ := h
  refine ⟨_, PSs.nox ((pss_cons (ps_setLc (i := 1) (own := [("part", 2)]) (g := gName 2) (tt := (tTest (tOp rNotN (tFld K (tVar 2) "broken") (tC .non)))) (te := (tVar 2)) (by rfl) sc_first_failure.nd rfl rfl (sw_true rfl rfl rfl (by decide +kernel)) (pi_list (pv 0)) (blkOk_by (own := [("part", 2)]) (N := N_first_failure) (sc := defScope s_first_failure) (by decide +kernel)) (fun _ _ _ _ _ => (pg_name (i := 2) sc_first_failure.nd rfl (Or.inl rfl))) (fun _ _ _ _ _ => (pts_one (pt_cmpR op_notN1 (pe_fld (pv 2) rfl) pe_non (nomark _)))) (fun _ _ _ _ _ => (pv 2)))
    (pss_one (ps_ret (pe_ifExp (pt_cmpR (op_eqNil hr.units0) (pv 1) (pe_lst pa_nil) (nomark _)) pe_non (pe_callBK (cr_minKey rfl G_length_of (hr.mono (by omega))) (by rfl) T.b_min (by decide +kernel) (pa_cons (pv 1) pa_nil) (pk_cons (pe_glob (v := .ref (He.ga K "length_of")) rfl T.g_length_of rfl) pk_nil))))))), ?_⟩
  obtain ⟨zs, h1, h2, h3⟩ := hl.zs
  have hlz : zs.length ≤ 1000 := by rw [h2, List.length_map] at hlen; exact hlen
  refine q_asgL (el_comp (zs := zs) (toV := fun z => V.ref z.1) (fun z => z.2.broken.isSome) (fun z => V.ref z.1) (ev_var rfl) (sq_of h1) (by omega) (fun _ => rfl) (fun z H1 e hz => ?_) (fun z H1 e hz _ => ev_var rfl)) fun p H1 hp e1 hp1 => ?_
  · refine et_is (et_notN (ev_broken T (ev_var rfl) ((h3 z hz).ext e))) ?_
    rw [brV_non]
    cases z.2.broken <;> rfl
  have hsub : ∀ z ∈ zs.filter (fun z => z.2.broken.isSome), IsP (PC K) H1 z.1 z.2 := fun z hz => (h3 z (List.mem_filter.mp hz).1).ext e1
  have eF : ps.filter (fun p => p.broken.isSome) = (zs.filter (fun z => z.2.broken.isSome)).map (·.2) := by
    rw [h2, List.filter_map]
    rfl
  have eFF : firstFail ps = minBy ((zs.filter (fun z => z.2.broken.isSome)).map (·.2)) := by
    unfold firstFail
    rw [eF]
  generalize zs.filter (fun z => z.2.broken.isSome) = ys at *
  show tIf _ _ _ _ H1 Q
  refine et_eqNil (ev_var rfl) hp1 H1 (Ex.refl H1) _ fun H2 e2 => ?_
  cases ys with
  | nil =>
    show Q .non H2
    refine q H2 .non (e1.trans e2) ?_
    rw [eFF]
    exact rfl
  | cons y r =>
    rw [if_neg (by simp)]
    have hsub2 : ∀ z ∈ y :: r, IsP (PC K) H2 z.1 z.2 := fun z hz => (hsub z hz).ext e2
    refine ⟨_, rfl, p, _, fun i => (((y :: r)[i]?).map fun z => z.2.span).getD 0, rfl, rfl, sq_of (e2 _ _ hp1), by simp, fun i x hx => ?_, fun i x hx hmin => ?_⟩
    · rw [List.getElem?_map] at hx
      obtain ⟨z, hz, rfl⟩ := Option.map_eq_some_iff.mp hx
      refine ⟨z.1, z.2, rfl, hsub2 z (List.mem_of_getElem? hz), ?_, rfl⟩
      dsimp only
      rw [hz]
      rfl
    · rw [List.getElem?_map] at hx
      obtain ⟨z, hz, rfl⟩ := Option.map_eq_some_iff.mp hx
      refine q H2 _ (e1.trans e2) ?_
      have em : minBy ((y :: r).map (·.2)) = some z.2 := by
        refine minBy_first (i := i) (by rw [List.getElem?_map, hz]; rfl) fun j qq hj => ?_
        rw [List.getElem?_map] at hj
        obtain ⟨z', hz', rfl⟩ := Option.map_eq_some_iff.mp hj
        have hjl : j < (y :: r).length := (List.getElem?_eq_some_iff.mp hz').1
        have hm := hmin j (by rw [List.length_map]; exact hjl)
        dsimp only at hm
        rw [hz, hz'] at hm
        exact hm
      rw [eFF, em]
      exact ⟨z.1, rfl, hsub2 z (List.mem_of_getElem? hz)⟩
/-! ### end_of_group -/
def spGrpEnd (C : Addr) (n : Nat) : Sp := fun vs H Q _ => ∃ l ps s c, vs = [.ref l, .int s, .int c] ∧ PL C H l ps ∧ ps.length ≤ 1000 ∧ (∀ p ∈ ps, WF p ∧ p.depth ≤ n) ∧ 0 ≤ c ∧ ((∀ f, firstFail ps = some f → c < f.span) → endL ps c ≠ []) ∧ RetV (.int (endG ps s c)) H Q
theorem v_grpEnd {C : Addr} {n : Nat} {H : Hp} {l : Addr} {ps : List Prog} {s c : Int} (h : PL C H l ps) (hl : ps.length ≤ 1000) (hw : ∀ p ∈ ps, WF p ∧ p.depth ≤ n) (hc : 0 ≤ c) (hn : (∀ f, firstFail ps = some f → c < f.span) → endL ps c ≠ []) :
    SpV (spGrpEnd C n) [.ref l, .int s, .int c] H (.int (endG ps s c)) := fun H1 e Q q E => ⟨l, ps, s, c, rfl, h.ext e, hl, hw, hc, hn, q⟩
abbrev N_end_of_group : List Str := ["parts", "whole", "cut", "first", "part"]
theorem sc_end_of_group : FnScope N_end_of_group ["parts", "whole", "cut"] (defScope s_end_of_group) := ⟨rfl, rfl, rfl, by decide +kernel, rfl, by decide +kernel, by decide +kernel⟩

theorem r_end_of_group {n k : Nat} (hk : 3 ≤ k) (T : Txt K mg) (G_end_after : FnR P w K mg base (L2.CX P w) k (He.ga K "end_after") (spEnd (PC K) n)) :
    FnR P w K mg base (L2.CX P w) (k + 1) (He.ga K "end_of_group") (spGrpEnd (PC K) n) := by
  have G_first_failure : FnR P w K mg base (L2.CX P w) 3 (He.ga K "first_failure") (spFF (PC K)) := r_first_failure T
  refine fn_mk T.f_end_of_group sc_end_of_group (fun _ _ _ _ _ _ us hl => match us, hl with | [_, _, _], _ => rfl) (fun vs H Q E h => ?_) (fun cdv A outer s H vs Q E hr h => ?_)
  · obtain ⟨l, ps, s, c, rfl, _⟩ := h
    rfl
  obtain ⟨l, ps, s', c, rfl, hl, hlen, hw, hc, hn, q⟩ := h
  refine ⟨_, PSs.nox ((pss_cons (ps_set (i := 3) sc_end_of_group.nd rfl (Or.inl rfl) (pe_callR G_first_failure (hr.mono (by omega)) rfl T.g_first_failure (kp_of T.f_first_failure) passL (pa_cons (pv 0) pa_nil)))
    (pss_cons (ps_if (PW.pt (pw_and (pt_cmpR op_notN1 (pv 3) pe_non (nomark _)) (pw_and1 (pt_cmpR op_ge (pv 2) (pe_fld (pv 3) rfl) (nomark _))))) (pss_one (ps_ret (pv 1))) pss_nil)
    (pss_one (ps_ret (pe_callB (cr_max rfl) (by rfl) T.b_max (by decide +kernel) (pa_cons (pe_lc (own := [("part", 4)]) (g := gName 4) (tt := (tTest (tOp (rI0 fun i j => .bl (decide (j < i))) (tFld K (tVar 4) "span") (tVar 2)))) (te := (tCallR (spEnd (PC K) n) E0 (tCons (tVar 4) (tCons (tVar 2) tNil)))) (by rfl) sc_end_of_group.nd (pi_list (pv 0)) (blkOk_by (own := [("part", 4)]) (N := N_end_of_group) (sc := defScope s_end_of_group) (by decide +kernel)) (fun _ _ _ _ _ => (pg_name (i := 4) sc_end_of_group.nd rfl (Or.inl rfl))) (fun _ _ _ _ _ => (pts_one (pt_cmpR op_gt (pe_fld (pv 4) rfl) (pv 2) (nomark _)))) (fun _ _ _ _ _ => (pe_callR G_end_after (hr.mono (by omega)) rfl T.g_end_after (kp_of T.f_end_after) passL (pa_cons (pv 4) (pa_cons (pv 2) pa_nil))))) pa_nil))))))), ?_⟩
  refine ⟨_, rfl, l, ps, rfl, hl, hlen, fun H1 v e1 hv => ?_⟩
  have hl1 := hl.ext e1
  obtain ⟨zs, h1, h2, h3⟩ := hl1.zs
  have hlz : zs.length ≤ 1000 := by rw [h2, List.length_map] at hlen; exact hlen
  have last : ∀ (hne : endL ps c ≠ []) (he : endG ps s' c = maxL (endL ps c)) (H2 : Hp), Ex H1 H2 → tRet (tCB (rMax K) (tCons (tLc (iList K (tVar 0)) (gName 4) (tTest (tOp (rI0 fun i j => .bl (decide (j < i))) (tFld K (tVar 4) "span") (tVar 2))) (tCallR (spEnd (PC K) n) E0 (tCons (tVar 4) (tCons (tVar 2) tNil))) [4]) tNil)) { nx := fun _ H' => Q .non H', rt := Q } [some (.ref l), some (.int s'), some (.int c), some v, none] H2 := fun hne he H2 e2 => by
    have eL : (zs.filter (fun z => decide (z.2.span > c))).map (fun z => V.int (endA z.2 c)) = (endL ps c).map V.int := by
      rw [endL_eq, h2, List.filter_map, List.map_map, List.map_map]
      rfl
    have q1 := el_comp (K := K) (σ := [some (.ref l), some (.int s'), some (.int c), some v, none]) (H := H2) (t := tTest (tOp (rI0 fun i j => .bl (decide (j < i))) (tFld K (tVar 4) "span") (tVar 2))) (te := tCallR (spEnd (PC K) n) E0 (tCons (tVar 4) (tCons (tVar 2) tNil))) (j := 4) (vs := [4]) (zs := zs) (toV := fun z => V.ref z.1) (fun z => decide (z.2.span > c)) (fun z => V.int (endA z.2 c)) (ev_var (i := 0) rfl) (sq_of (e2 _ _ h1)) (by omega) (fun _ => rfl)
      (fun z H3 e3 hz => et_cmp (ev_span T (ev_var rfl) ((h3 z hz).ext (e2.trans e3))) (ev_var rfl)) (fun z H3 e3 hz _ => by
        have hm : z.2 ∈ ps := by rw [h2]; exact List.mem_map.mpr ⟨z, hz, rfl⟩
        exact ev_callR (ea_cons (ev_var rfl) (ea_cons (ev_var rfl) ea_nil)) (v_end ((h3 z hz).ext (e2.trans e3)) (hw _ hm).1 (hw _ hm).2 hc))
    rw [eL] at q1
    refine s_ret (ev_max q1 hne) fun H3 e3 => ?_
    rw [← he]
    exact q H3 ((e1.trans e2).trans e3)
  cases hf : firstFail ps with
  | none =>
    rw [hf] at hv
    have hv' : v = .non := hv
    subst hv'
    refine q_no (et_is (et_and (et_notN (ev_var rfl)) (b := false) (fun z => absurd z (by decide))) rfl) fun H2 e2 => last (hn fun f z => by rw [hf] at z; cases z) (by unfold endG; rw [hf]) H2 e2
  | some f =>
    rw [hf] at hv
    obtain ⟨x, rfl, hx⟩ := hv
    refine q_by (A := f.span ≤ c) (et_and (et_notN (ev_var rfl)) (fun _ => et_cmp (ev_var rfl) (ev_span T (ev_var rfl) hx))) (by simp) (fun hle H2 e2 => ?_) (fun hle H2 e2 => ?_)
    · refine s_ret (ev_var rfl) fun H3 e3 => ?_
      have he : endG ps s' c = s' := by
        unfold endG
        rw [hf]
        exact if_pos hle
      have := q H3 ((e1.trans e2).trans e3)
      rw [he] at this
      exact this
    · refine last (hn fun f' z => by rw [hf] at z; cases z; omega) ?_ H2 e2
      unfold endG
      rw [hf]
      exact if_neg hle
/-! ### end_after -/
theorem et_kind {H : Hp} {σ : L2.St} {a : Addr} {p : Prog} {ta : TE} (T : Txt K mg) (k : Kind) (h : Ev ta σ H (.ref a)) (hp : IsP (PC K) H a p) : EvT (tTest (tOp rEq (tFld K ta "kind") (tC (.str k.s)))) σ H (decide (p.kind = k)) := by
  have q := et_eqS (ev_kind T h hp) (ev_c (v := .str k.s))
  rw [Kind.s_eq] at q
  exact q
theorem Kind.in2 (k k1 k2 : Kind) : inV (.str k.s) [.str k1.s, .str k2.s] = decide (k = k1 ∨ k = k2) := by
  cases k <;> cases k1 <;> cases k2 <;> decide
theorem et_kindIn {H : Hp} {σ : L2.St} {a : Addr} {p : Prog} {ta : TE} (T : Txt K mg) (k1 k2 : Kind) (h : Ev ta σ H (.ref a)) (hp : IsP (PC K) H a p) :
    EvT (tTest (tOp (rIn K false) (tFld K ta "kind") (tTup (tCons (tC (.str k1.s)) (tCons (tC (.str k2.s)) tNil))))) σ H (decide (p.kind = k1 ∨ p.kind = k2)) := by
  have q := et_test (ev_inU (K := K) (ev_kind T h hp) (eu_tup (ea_cons (ev_c (v := .str k1.s)) (ea_cons (ev_c (v := .str k2.s)) ea_nil)) (by show 2 ≤ 100000; decide)) rfl rfl)
  rw [Kind.in2] at q
  exact q
theorem getElem0 {ps : List Prog} {p : Prog} (h : ps = [p]) : ps[0]? = some p := by rw [h]; rfl
abbrev N_end_after : List Str := ["program", "cut"]
theorem sc_end_after : FnScope N_end_after ["program", "cut"] (defScope s_end_after) := ⟨rfl, rfl, rfl, by decide +kernel, rfl, by decide +kernel, by decide +kernel⟩

theorem r_end_after {n k : Nat} (hk : 3 ≤ k) (T : Txt K mg) (G_end_after : FnR P w K mg base (L2.CX P w) k (He.ga K "end_after") (spEnd (PC K) n)) :
    FnR P w K mg base (L2.CX P w) (k + 2) (He.ga K "end_after") (spEnd (PC K) (n + 1)) := by
  have G_end_of_sequence := r_end_of_sequence T G_end_after
  have G_end_of_loop := r_end_of_loop T G_end_after
  have G_end_of_group := r_end_of_group hk T G_end_after
  refine fn_mk T.f_end_after sc_end_after (fun _ _ _ _ _ _ us hl => match us, hl with | [_, _], _ => rfl) (fun vs H Q E h => ?_) (fun cdv A outer s H vs Q E hr h => ?_)
  · obtain ⟨a, p, c, rfl, _⟩ := h
    rfl
  obtain ⟨a, p, c, rfl, hp, hw, hd, hc, q⟩ := h
  refine ⟨_, PSs.nox ((pss_cons (ps_if (PW.pt (pw_or (pt_cmpR op_ge (pv 1) (pe_fld (pv 0) rfl) (nomark _)) (pw_or1 (pt_cmpR op_eq (pv 1) pe_int (nomark _))))) (pss_one (ps_ret (pe_ifExp (pt_cmpR op_ge (pv 1) (pe_fld (pv 0) rfl) (nomark _)) (pe_fld (pv 0) rfl) pe_int))) pss_nil)
    (pss_cons (ps_if (pt_cmpR op_eq (pe_fld (pv 0) rfl) pe_str (nomark _)) (pss_one (ps_ret (pv 1))) pss_nil)
    (pss_cons (ps_if (pt_cmpR op_in_seq (pe_fld (pv 0) rfl) (pe_tup (pa_cons pe_str (pa_cons pe_str pa_nil))) (by rfl)) (pss_one (ps_ret (pe_callR G_end_of_sequence (hr.mono (by omega)) rfl T.g_end_of_sequence (kp_of T.f_end_of_sequence) passL (pa_cons (pe_fld (pv 0) rfl) (pa_cons (pv 1) pa_nil))))) pss_nil)
    (pss_cons (ps_if (pt_cmpR op_eq (pe_fld (pv 0) rfl) pe_str (nomark _)) (pss_one (ps_ret (pe_callR G_end_of_loop (hr.mono (by omega)) rfl T.g_end_of_loop (kp_of T.f_end_of_loop) passL (pa_cons (pe_ix ix_list (pe_fld (pv 0) rfl) pe_int (fun _ _ => rfl)) (pa_cons (pe_fld (pv 0) rfl) (pa_cons (pv 1) pa_nil)))))) pss_nil)
    (pss_cons (ps_if (pt_cmpR op_eq (pe_fld (pv 0) rfl) pe_str (nomark _)) (pss_one (ps_ret (pe_fld (pv 0) rfl))) pss_nil)
    (pss_cons (ps_if (pt_cmpR op_eq (pe_fld (pv 0) rfl) pe_str (nomark _)) (pss_one (ps_ret (pe_callB (call_min2 rfl) (by rfl) T.b_min (by decide +kernel) (pa_cons (pe_op op_add (pe_callR G_end_after (hr.mono (by omega)) rfl T.g_end_after (kp_of T.f_end_after) passL (pa_cons (pe_ix ix_list (pe_fld (pv 0) rfl) pe_int (fun _ _ => rfl)) (pa_cons (pv 1) pa_nil))) (pe_fld (pe_ix ix_list (pe_fld (pv 0) rfl) pe_int (fun _ _ => rfl)) rfl)) (pa_cons (pe_fld (pv 0) rfl) pa_nil))))) pss_nil)
    (pss_cons (ps_if (pt_cmpR op_eq (pe_fld (pv 0) rfl) pe_str (nomark _)) (pss_one (ps_ret (pe_callR G_end_of_group (hr.mono (by omega)) rfl T.g_end_of_group (kp_of T.f_end_of_group) passL (pa_cons (pe_fld (pv 0) rfl) (pa_cons (pe_fld (pv 0) rfl) (pa_cons (pv 1) pa_nil)))))) pss_nil)
    (pss_cons (ps_if (pt_cmpR op_ge (pv 1) (pe_fld (pv 0) rfl) (nomark _)) (pss_one (ps_ret (pe_fld (pv 0) rfl))) pss_nil)
    (pss_one (ps_ret (pe_callR G_end_after (hr.mono (by omega)) rfl T.g_end_after (kp_of T.f_end_after) passL (pa_cons (pe_ix ix_list (pe_fld (pv 0) rfl) pe_int (fun _ _ => rfl)) (pa_cons (pv 1) pa_nil)))))))))))))), ?_⟩
  have sub : ∀ q ∈ p.parts, WF q ∧ q.depth ≤ n := fun q hq => ⟨hw.sub hq, by have := hw.depth_sub hq; omega⟩
  have shp := hw.shape
  have g := wf_good hw
  refine q_by (A := p.span ≤ c ∨ c = 0) (et_or (et_cmp (ev_var rfl) (ev_span T (ev_var rfl) hp)) (fun _ => et_eqI (ev_var rfl) ev_c)) (by simp) (fun hA H1 e1 => ?_) (fun hA H1 e1 => ?_)
  · refine s_ret (v := .int (endA p c)) (ev_if (et_cmp (ev_var rfl) (ev_span T (ev_var rfl) (hp.ext e1))) (fun hb => ?_) (fun hb => ?_)) fun H2 e2 => q H2 (e1.trans e2)
    · have hle : p.span ≤ c := of_decide_eq_true hb
      rw [endA_late hle]
      exact ev_span T (ev_var rfl) (hp.ext e1)
    · have hle : ¬ p.span ≤ c := of_decide_eq_false hb
      have hz : c = 0 := by omega
      subst hz
      rw [endA_zero g.sp]
      exact ev_c
  have h0 : 0 < c := by omega
  have h1 : c < p.span := by omega
  have hp1 := hp.ext e1
  refine q_by (et_kind T .sleep (ev_var rfl) hp1) rfl (fun hA H2 e2 => ?_) (fun k1 H2 e2 => ?_)
  · refine s_ret (ev_var rfl) fun H3 e3 => ?_
    have := q H3 ((e1.trans e2).trans e3)
    rw [endA_sleep hA h0 h1] at this
    exact this
  have hp2 := hp1.ext e2
  have ex2 := e1.trans e2
  clear e1 e2 hp1 H1
  refine q_by (et_kindIn T .seq .fallback (ev_var rfl) hp2) rfl (fun hA H3 e3 => ?_) (fun k2 H3 e3 => ?_)
  · obtain ⟨l, hl, el⟩ := ev_parts T (ta := tVar 0) (σ := start N_end_after [.ref a, .int c]) (ev_var rfl) (hp2.ext e3)
    refine s_ret (ev_callR (ea_cons el (ea_cons (ev_var rfl) ea_nil)) (v_seqEnd hl sub hc)) fun H4 e4 => ?_
    rw [← endA_seq hA h0 h1]
    exact q H4 ((ex2.trans e3).trans e4)
  have hp3 := hp2.ext e3
  have ex3 := ex2.trans e3
  clear e3 hp2 ex2 H2
  refine q_by (et_kind T .loop (ev_var rfl) hp3) rfl (fun hA H4 e4 => ?_) (fun k3 H4 e4 => ?_)
  · rw [hA] at shp
    obtain ⟨⟨q0, hq0⟩, n0, n1, _⟩ := shp
    obtain ⟨l, hl, el⟩ := ev_parts T (ta := tVar 0) (σ := start N_end_after [.ref a, .int c]) (ev_var rfl) (hp3.ext e4)
    obtain ⟨x, hx, ex⟩ := ev_part (i := 0) el hl (getElem0 hq0)
    have hm : q0 ∈ p.parts := by rw [hq0]; exact List.mem_cons_self
    refine s_ret (ev_callR (ea_cons ex (ea_cons (ev_number T (ev_var rfl) (hp3.ext e4)) (ea_cons (ev_var rfl) ea_nil))) (v_loopEnd hx (sub _ hm).1 (sub _ hm).2 n0 n1 hc)) fun H5 e5 => ?_
    have := q H5 ((ex3.trans e4).trans e5)
    rw [endA_loop hA h0 h1, hq0] at this
    obtain ⟨z1, _, z3⟩ := hd_facts (p := q0)
    simp only [z1, z3] at this
    exact this
  have hp4 := hp3.ext e4
  have ex4 := ex3.trans e4
  clear e4 hp3 ex3 H3
  refine q_by (et_kind T .shield (ev_var rfl) hp4) rfl (fun hA H5 e5 => ?_) (fun k4 H5 e5 => ?_)
  · refine s_ret (ev_span T (ev_var rfl) (hp4.ext e5)) fun H6 e6 => ?_
    rw [← endA_shield hA h0 h1]
    exact q H6 ((ex4.trans e5).trans e6)
  have hp5 := hp4.ext e5
  have ex5 := ex4.trans e5
  clear e5 hp4 ex4 H4
  refine q_by (et_kind T .cleanup (ev_var rfl) hp5) rfl (fun hA H6 e6 => ?_) (fun k5 H6 e6 => ?_)
  · rw [hA] at shp
    obtain ⟨⟨q0, q1, hq0⟩, _, _⟩ := shp
    have hp6 := hp5.ext e6
    obtain ⟨l, hl, el⟩ := ev_parts T (ta := tVar 0) (σ := start N_end_after [.ref a, .int c]) (ev_var rfl) hp6
    obtain ⟨x, hx, ex⟩ := ev_part (i := 0) el hl (by rw [hq0]; rfl)
    obtain ⟨x1, hx1, ex1⟩ := ev_part (i := 1) el hl (by rw [hq0]; rfl)
    have hm : q0 ∈ p.parts := by rw [hq0]; exact List.mem_cons_self
    refine s_ret (ev_min2 (ev_op (ev_callR (ea_cons ex (ea_cons (ev_var rfl) ea_nil)) (v_end hx (sub _ hm).1 (sub _ hm).2 hc)) (ev_span T ex1 hx1) rv_I0) (ev_span T (ev_var rfl) hp6)) fun H7 e7 => ?_
    have := q H7 ((ex5.trans e6).trans e7)
    rw [endA_cleanup hA h0 h1, hq0] at this
    obtain ⟨z1, z2, _, _, z3⟩ := two_facts (p := q0) (q := q1)
    simp only [z2, z3] at this
    exact this
  have hp6 := hp5.ext e6
  have ex6 := ex5.trans e6
  clear e6 hp5 ex5 H5
  refine q_by (et_kind T .together (ev_var rfl) hp6) rfl (fun hA H7 e7 => ?_) (fun k6 H7 e7 => ?_)
  · rw [hA] at shp
    obtain ⟨hne, hlen, _, _⟩ := shp
    have hp7 := hp6.ext e7
    obtain ⟨l, hl, el⟩ := ev_parts T (ta := tVar 0) (σ := start N_end_after [.ref a, .int c]) (ev_var rfl) hp7
    refine s_ret (ev_callR (ea_cons el (ea_cons (ev_span T (ev_var rfl) hp7) (ea_cons (ev_var rfl) ea_nil))) (v_grpEnd hl (by omega) sub hc fun hf => ?_)) fun H8 e8 => ?_
    · have es : p.span = (grpM p.parts).1 := by
        cases hw with
        | mk _ _ _ _ hm _ _ =>
          cases (show _ = Kind.together from hA)
          exact (meas_of hm).1
      exact (endG_facts hne (fun q hq => wf_good (sub q hq).1) hc (by omega) hf).1
    · have := q H8 ((ex6.trans e7).trans e8)
      rw [endA_group hA h0 h1] at this
      exact this
  have hp7 := hp6.ext e7
  have ex7 := ex6.trans e7
  clear e7 hp6 ex6 H6
  have hk7 : p.kind = .timeout ∨ p.kind = .moveon := by
    cases hkk : p.kind with
    | fail =>
      exfalso
      have es : p.span = 0 := by
        cases hw with
        | mk _ _ _ _ hm _ _ =>
          cases (show _ = Kind.fail from hkk)
          exact (meas_of hm).1
      omega
    | timeout => exact .inl rfl
    | moveon => exact .inr rfl
    | sleep => exact absurd hkk k1
    | seq => exact absurd (.inl hkk) k2
    | fallback => exact absurd (.inr hkk) k2
    | loop => exact absurd hkk k3
    | shield => exact absurd hkk k4
    | cleanup => exact absurd hkk k5
    | together => exact absurd hkk k6
  have eL := endA_limit hk7 h0 h1
  refine q_by (A := p.number ≤ c) (et_cmp (ev_var rfl) (ev_number T (ev_var rfl) hp7)) rfl (fun hA H8 e8 => ?_) (fun hA H8 e8 => ?_)
  · refine s_ret (ev_span T (ev_var rfl) (hp7.ext e8)) fun H9 e9 => ?_
    rw [if_pos hA] at eL
    rw [← eL]
    exact q H9 ((ex7.trans e8).trans e9)
  · rw [if_neg hA] at eL
    have hq : ∃ q0, p.parts = [q0] := by
      rcases hk7 with z | z
      · rw [z] at shp
        exact shp.1
      · rw [z] at shp
        exact shp.1
    obtain ⟨q0, hq0⟩ := hq
    obtain ⟨l, hl, el⟩ := ev_parts T (ta := tVar 0) (σ := start N_end_after [.ref a, .int c]) (ev_var rfl) (hp7.ext e8)
    obtain ⟨x, hx, ex⟩ := ev_part (i := 0) el hl (getElem0 hq0)
    have hm : q0 ∈ p.parts := by rw [hq0]; exact List.mem_cons_self
    refine s_ret (ev_callR (ea_cons ex (ea_cons (ev_var rfl) ea_nil)) (v_end hx (sub _ hm).1 (sub _ hm).2 hc)) fun H9 e9 => ?_
    have := q H9 ((ex7.trans e8).trans e9)
    rw [eL, hq0, (hd_facts (p := q0)).2.2] at this
    exact this
/-- end_after at every depth -/
theorem end_all (T : Txt K mg) : ∀ n : Nat, FnR P w K mg base (L2.CX P w) (3 + 2 * n) (He.ga K "end_after") (spEnd (PC K) n)
  | 0 => fun A outer s H us vs Q E hr e0 r h => by
    obtain ⟨a, p, c, _, _, hw, hd, _⟩ := h
    have := hw.depth_pos
    omega
  | n + 1 => by
    have h := r_end_after (by omega) T (end_all T n)
    have e : 3 + 2 * n + 2 = 3 + 2 * (n + 1) := by omega
    rw [e] at h
    exact h
end
end Cu

/-! == Core3 -/
set_option maxHeartbeats 4000000
namespace Cu
open PySem PySem.Spec PyProof.Rows L2 Evl CuT
def RetU (xs : List V) (H : Hp) (Q : VK) : Prop := ∀ p H2, H p = none → Ex H H2 → H2 p = some (.tup xs) → Q (.ref p) H2
def SpU (sp : Sp) (vs : List V) (H : Hp) (xs : List V) : Prop := ∀ H1, Ex H H1 → ∀ Q : VK, RetU xs H1 Q → ∀ E : XK, sp vs H1 Q E
section
variable {K : PySem.W.Frag} {σ : L2.St} {H : Hp} {ta tb te : TE} {x y v : V}
theorem eu_callR {sp : Sp} {vs xs : List V} {E : XK} {ta : TA} (h : EvA ta σ H vs) (hs : SpU sp vs H xs) : EvU (tCallR sp E ta) σ H xs := fun H1 e Q q =>
  h H1 e _ fun H2 e2 => hs H2 (e.trans e2) Q (fun p H3 hp e3 h3 => q p H3 (fresh_back e2 hp) (e2.trans e3) h3) E
theorem eu2 (h1 : Ev ta σ H x) (h2 : Ev tb σ H y) : EvU (tTup (tCons ta (tCons tb tNil))) σ H [x, y] := eu_tup (ea_cons h1 (ea_cons h2 ea_nil)) (by show 2 ≤ 100000; decide)
theorem el_cat {xs ys : List V} (ha : EvL ta σ H xs) (hb : EvL tb σ H ys) (hz : xs.length + ys.length ≤ 100000) : EvL (tOp rCat ta tb) σ H (xs ++ ys) := fun H1 e Q q =>
  ha H1 e _ fun p H2 np e2 hp => hb H2 (e.trans e2) _ fun r H3 nr e3 hr => ⟨p, r, xs, ys, rfl, rfl, e3 _ _ hp, hr, sz_of hz, fun l hl => q l _ (fresh_back (e2.trans e3) hl) ((e2.trans e3).trans (Ex.new hl)) upd_same⟩
theorem el1 (h : Ev ta σ H x) : EvL (tLst (tCons ta tNil)) σ H [x] := el_lst (ea_cons h ea_nil) (by show 1 ≤ 100000; decide)
theorem ev_isi {c : V} {t u : Value} {b : Bool} (ha : Ev ta σ H x) (hb : Ev tb σ H c) (hc : ClsV c u) (ht : ∀ H1, Ex H H1 → TyX K H1 x t) (hk : PySem.W.kitOne K t u = some b) : Ev (tCB (rIsi K) (tCons ta (tCons tb tNil))) σ H (.bl b) := fun H1 e Q q =>
  ha H1 e _ fun H2 e2 => hb H2 (e.trans e2) _ fun H3 e3 => ⟨x, c, t, u, b, rfl, hc, ht H3 ((e.trans e2).trans e3), hk, q H3 (e2.trans e3)⟩
theorem ev_chainI {tc : TE} {g g' : Int → Int → Bool} {i j l : Int} (ha : Ev ta σ H (.int i)) (hb : Ev tb σ H (.int j)) (hc : Ev tc σ H (.int l)) : Ev (tChain (rI0 fun i j => .bl (g i j)) (rI0 fun i j => .bl (g' i j)) ta tb tc) σ H (.bl (g i j && g' j l)) := fun H1 e Q q =>
  ha H1 e _ fun H2 e2 => hb H2 (e.trans e2) _ fun H3 e3 => ⟨i, j, rfl, rfl, g i j, rfl, by
    cases hg : g i j with
    | true =>
      rw [hg] at q
      exact hc H3 ((e.trans e2).trans e3) _ fun H4 e4 => ⟨j, l, rfl, rfl, q H4 ((e2.trans e3).trans e4)⟩
    | false =>
      rw [hg] at q
      exact iteF (q H3 (e2.trans e3))⟩
theorem et_neNil {p : Addr} {xs : List V} (h : Ev ta σ H (.ref p)) (hp : H p = some (.lst xs)) : EvT (tTest (tOp (rEqNil false) ta (tLst tNil))) σ H (!xs.isEmpty) :=
  et_test (ev_opL h (el_lst ea_nil (by decide)) fun q H1 hq e => fun H2 e2 Q k => ⟨p, q, xs, rfl, rfl, e2 _ _ (e _ _ hp), e2 _ _ hq, k H2 (Ex.refl H2)⟩)
/-- an item of a written place of a list of texts -/
theorem ev_word {tl : TE} {l : Addr} {ws : List Str} {z : Str} {i : Nat} (h : Ev tl σ H (.ref l)) (hl : H l = some (.lst (ws.map V.str))) (hz : ws[i]? = some z) : Ev (tOp (rIxL K) tl (tC (.int (i : Int)))) σ H (.str z) :=
  ev_op h ev_c (rv_ixL (sq_of hl) (atI_nat (by rw [List.getElem?_map, hz]; rfl)))
end
theorem inV_words {b : Option Str} {ws : List Str} : inV (brV b) (ws.map V.str) = (match b with | some w => decide (w ∈ ws) | none => false) := by
  induction ws with
  | nil => cases b <;> rfl
  | cons z r ih =>
    cases b with
    | none =>
      have e : inV (brV none) ((z :: r).map V.str) = (eqV (.str z) .non || inV (brV none) (r.map V.str)) := rfl
      rw [e, ih]
      rfl
    | some w =>
      have e : inV (brV (some w)) ((z :: r).map V.str) = (eqV (.str z) (.str w) || inV (brV (some w)) (r.map V.str)) := rfl
      rw [e, ih]
      have e2 : eqV (.str z) (.str w) = decide (z = w) := rfl
      rw [e2]
      by_cases h : z = w
      · subst h
        simp
      · have h' : ¬ w = z := fun q => h q.symm
        simp [h, h']
theorem flat_words (ws : List Str) : (ws.map V.str).all flatV = true := by
  rw [List.all_eq_true]
  intro x hx
  obtain ⟨w, _, rfl⟩ := List.mem_map.mp hx
  rfl
theorem flat_brV (b : Option Str) : flatV (brV b) = true := by cases b <;> rfl
section
variable {P : Program} {w : World} {K : PySem.W.Frag} {mg : Str → Option Value} {base : Heap}
/-! ### sequence_measure -/
def spSeqM (C : Addr) : Sp := fun vs H Q _ => ∃ l ps, vs = [.ref l] ∧ PL C H l ps ∧ RetU [.int (seqM ps 0).1, brV (seqM ps 0).2] H Q
theorem u_seqM {C : Addr} {H : Hp} {l : Addr} {ps : List Prog} (h : PL C H l ps) : SpU (spSeqM C) [.ref l] H [.int (seqM ps 0).1, brV (seqM ps 0).2] := fun H1 e Q q E => ⟨l, ps, rfl, h.ext e, q⟩
theorem seqM_cons (p : Prog) (r : List Prog) (t : Int) : seqM (p :: r) t = (match p.broken with | some w => (t + p.span, some w) | none => seqM r (t + p.span)) := by
  rw [seqM] <;> rfl
abbrev N_sequence_measure : List Str := ["parts", "total", "part"]
theorem sc_sequence_measure : FnScope N_sequence_measure ["parts"] (defScope s_sequence_measure) := ⟨rfl, rfl, rfl, by decide +kernel, rfl, by decide +kernel, by decide +kernel⟩

theorem r_sequence_measure (T : Txt K mg) : FnR P w K mg base (L2.CX P w) 1 (He.ga K "sequence_measure") (spSeqM (PC K)) := by
  refine fn_mk T.f_sequence_measure sc_sequence_measure (fun _ _ _ _ _ _ us hl => match us, hl with | [_], _ => rfl) (fun vs H Q E h => ?_) (fun cdv A outer s H vs Q E hr h => ?_)
  · obtain ⟨l, ps, rfl, _⟩ := h
    rfl
  obtain ⟨l, ps, rfl, hl, q⟩ := h
  refine ⟨_, PSs.nox ((pss_cons (ps_set (i := 1) sc_sequence_measure.nd rfl (Or.inl rfl) pe_int)
    (pss_cons (ps_for PassesOwn.never rfl (pi_list (pv 0)) (pg_name (i := 2) sc_sequence_measure.nd rfl (Or.inl rfl)) (pss_cons (ps_set (i := 1) sc_sequence_measure.nd rfl (Or.inl rfl) (pe_op op_add (pv 1) (pe_fld (pv 2) rfl)))
    (pss_one (ps_if (pt_cmpR op_notN1 (pe_fld (pv 2) rfl) pe_non (nomark _)) (pss_one (ps_ret (pe_tup (pa_cons (pv 1) (pa_cons (pe_fld (pv 2) rfl) pa_nil))))) pss_nil))))
    (pss_one (ps_ret (pe_tup (pa_cons (pv 1) (pa_cons pe_non pa_nil)))))))), ?_⟩
  obtain ⟨as, h1, h2, h3⟩ := hl
  refine q_asg ev_c fun H1 e1 => ?_
  refine q_forLn (xs := as.map V.ref) (ev_var rfl) (sq_of (e1 _ _ h1))
    (fun i σ' H' => Ex H H' ∧ ∃ b v, σ' = [some (.ref l), some (.int b), v] ∧ seqM ps 0 = seqM (ps.drop i) b) (fun H2 e2 => ⟨e1.trans e2, 0, none, rfl, rfl⟩) (fun i σ' H' hi hP => sq_of (hP.1 _ _ h1)) (fun i x σ' H' hx hP => ?_) (fun σ' H' hP => ?_)
  · obtain ⟨e3, b, v, rfl, he⟩ := hP
    rw [List.getElem?_map] at hx
    obtain ⟨y, hy, rfl⟩ := Option.map_eq_some_iff.mp hx
    have hi : i < as.length := (List.getElem?_eq_some_iff.mp hy).1
    have hpi : ps[i]? = some ps[i] := List.getElem?_eq_getElem (by omega)
    have hip := (h3 i y _ hy hpi).ext e3
    have hpd : ps.drop i = ps[i] :: ps.drop (i + 1) := List.drop_eq_getElem_cons (by omega)
    rw [hpd, seqM_cons] at he
    refine q_asg (ev_op (ev_var rfl) (ev_span T (ev_var rfl) hip) rv_I0) fun H4 e4 => ?_
    refine s_when (et_notN (ev_broken T (ev_var rfl) (hip.ext e4))) (fun hb H5 e5 => ?_) (fun hb H5 e5 => ?_)
    · rw [brV_non] at hb
      cases hbr : ps[i].broken with
      | none =>
        rw [hbr] at hb
        exact absurd hb (by decide)
      | some z =>
        rw [hbr] at he
        have he' : seqM ps 0 = (b + ps[i].span, some z) := he
        refine s_retU (eu2 (ev_var rfl) (ev_broken T (ev_var rfl) (hip.ext (e4.trans e5)))) fun p H6 hp e6 h6 => ?_
        rw [hbr] at h6
        refine q p H6 (fresh_back ((e3.trans e4).trans e5) hp) (((e3.trans e4).trans e5).trans e6) ?_
        rw [he']
        exact h6
    · rw [brV_non] at hb
      cases hbr : ps[i].broken with
      | none =>
        rw [hbr] at he
        exact ⟨(e3.trans e4).trans e5, b + ps[i].span, _, rfl, he⟩
      | some z =>
        rw [hbr] at hb
        exact absurd hb (by simp)
  · obtain ⟨e3, b, v, rfl, he⟩ := hP
    rw [List.length_map, h2, List.drop_length] at he
    have he' : seqM ps 0 = (b, none) := he
    refine s_retU (eu2 (ev_var rfl) ev_c) fun p H5 hp e5 h5 => ?_
    refine q p H5 (fresh_back e3 hp) (e3.trans e5) ?_
    rw [he']
    exact h5
/-! ### group_measure -/
def spGrpM (C : Addr) : Sp := fun vs H Q _ => ∃ l ps, vs = [.ref l] ∧ PL C H l ps ∧ ps ≠ [] ∧ ps.length ≤ 1000 ∧ (∀ p ∈ ps, WF p) ∧ RetU [.int (grpM ps).1, brV (grpM ps).2] H Q
theorem u_grpM {C : Addr} {H : Hp} {l : Addr} {ps : List Prog} (h : PL C H l ps) (hne : ps ≠ []) (hl : ps.length ≤ 1000) (hw : ∀ p ∈ ps, WF p) : SpU (spGrpM C) [.ref l] H [.int (grpM ps).1, brV (grpM ps).2] := fun H1 e Q q E => ⟨l, ps, rfl, h.ext e, hne, hl, hw, q⟩
abbrev N_group_measure : List Str := ["parts", "first", "part"]
theorem sc_group_measure : FnScope N_group_measure ["parts"] (defScope s_group_measure) := ⟨rfl, rfl, rfl, by decide +kernel, rfl, by decide +kernel, by decide +kernel⟩

theorem r_group_measure (T : Txt K mg) : FnR P w K mg base (L2.CX P w) 124 (He.ga K "group_measure") (spGrpM (PC K)) := by
  have G_end_after : FnR P w K mg base (L2.CX P w) 123 (He.ga K "end_after") (spEnd (PC K) 60) := end_all T 60
  have G_first_failure : FnR P w K mg base (L2.CX P w) 3 (He.ga K "first_failure") (spFF (PC K)) := r_first_failure T
  refine fn_mk T.f_group_measure sc_group_measure (fun _ _ _ _ _ _ us hl => match us, hl with | [_], _ => rfl) (fun vs H Q E h => ?_) (fun cdv A outer s H vs Q E hr h => ?_)
  · obtain ⟨l, ps, rfl, _⟩ := h
    rfl
  obtain ⟨l, ps, rfl, hl, hne, hlen, hw, q⟩ := h
  refine ⟨_, PSs.nox ((pss_cons (ps_set (i := 1) sc_group_measure.nd rfl (Or.inr rfl) (pe_callR G_first_failure (hr.mono (by omega)) rfl T.g_first_failure (kp_of T.f_first_failure) passL (pa_cons (pv 0) pa_nil)))
    (pss_cons (ps_if (pt_cmpR op_isN1 (pv 1) pe_non (nomark _)) (pss_one (ps_ret (pe_tup (pa_cons (pe_callB (cr_max rfl) (by rfl) T.b_max (by decide +kernel) (pa_cons (pe_lc (own := [("part", 2)]) (g := gName 2) (tt := tYes) (te := (tFld K (tVar 2) "span")) (by rfl) sc_group_measure.nd (pi_list (pv 0)) (blkOk_by (own := [("part", 2)]) (N := N_group_measure) (sc := defScope s_group_measure) (by decide +kernel)) (fun _ _ _ _ _ => (pg_name (i := 2) sc_group_measure.nd rfl (Or.inl rfl))) (fun _ _ _ _ _ => pts_nil) (fun _ _ _ _ _ => (pe_fld (pv 2) rfl))) pa_nil)) (pa_cons pe_non pa_nil))))) pss_nil)
    (pss_one (ps_ret (pe_tup (pa_cons (pe_callB (cr_max rfl) (by rfl) T.b_max (by decide +kernel) (pa_cons (pe_lc (own := [("part", 2)]) (g := gName 2) (tt := tYes) (te := (tCallR (spEnd (PC K) 60) E0 (tCons (tVar 2) (tCons (tFld K (tVar 1) "span") tNil)))) (by rfl) sc_group_measure.nd (pi_list (pv 0)) (blkOk_by (own := [("part", 2)]) (N := N_group_measure) (sc := defScope s_group_measure) (by decide +kernel)) (fun _ _ _ _ _ => (pg_name (i := 2) sc_group_measure.nd rfl (Or.inl rfl))) (fun _ _ _ _ _ => pts_nil) (fun _ _ _ _ _ => (pe_callR G_end_after (hr.mono (by omega)) rfl T.g_end_after (kp_of T.f_end_after) passL (pa_cons (pv 2) (pa_cons (pe_fld (pv 1) rfl) pa_nil))))) pa_nil)) (pa_cons (pe_fld (pv 1) rfl) pa_nil)))))))), ?_⟩
  refine ⟨_, rfl, l, ps, rfl, hl, hlen, fun H1 v e1 hv => ?_⟩
  have hl1 := hl.ext e1
  obtain ⟨zs, h1, h2, h3⟩ := hl1.zs
  have hlz : zs.length ≤ 1000 := by rw [h2, List.length_map] at hlen; exact hlen
  have hnz : zs ≠ [] := fun z => hne (by rw [h2, z]; rfl)
  cases hf : firstFail ps with
  | none =>
    rw [hf] at hv
    have hv' : v = .non := hv
    subst hv'
    have eG : grpM ps = (maxL (ps.map Prog.span), none) := by unfold grpM; rw [hf]
    refine q_yes (et_is (et_isN (ev_var rfl)) rfl) fun H2 e2 => ?_
    have q1 := el_map (K := K) (σ := [some (.ref l), some .non, none]) (H := H2) (te := tFld K (tVar 2) "span") (j := 2) (vs := [2]) (zs := zs) (toV := fun z => V.ref z.1) (fun z => V.int z.2.span) (ev_var (i := 0) rfl) (sq_of (e2 _ _ h1)) (by omega) (fun _ => rfl)
      (fun z H3 e3 hz => ev_span T (ev_var rfl) ((h3 z hz).ext (e2.trans e3)))
    have eL : zs.map (fun z => V.int z.2.span) = (ps.map Prog.span).map V.int := by
      rw [h2, List.map_map, List.map_map]
      rfl
    rw [eL] at q1
    refine s_retU (eu2 (ev_max q1 (fun z => hne (List.map_eq_nil_iff.mp z))) ev_c) fun p H3 hp e3 h4 => ?_
    refine q p H3 (fresh_back (e1.trans e2) hp) ((e1.trans e2).trans e3) ?_
    rw [eG]
    exact h4
  | some f =>
    rw [hf] at hv
    obtain ⟨x, rfl, hx⟩ := hv
    obtain ⟨f1, f2, f3⟩ := firstFail_some hf
    have eG : grpM ps = (maxL (ps.map fun p => endA p f.span), f.broken) := by unfold grpM; rw [hf]
    refine q_no (et_is (et_isN (ev_var rfl)) rfl) fun H2 e2 => ?_
    have q1 := el_map (K := K) (σ := [some (.ref l), some (.ref x), none]) (H := H2) (te := tCallR (spEnd (PC K) 60) E0 (tCons (tVar 2) (tCons (tFld K (tVar 1) "span") tNil))) (j := 2) (vs := [2]) (zs := zs) (toV := fun z => V.ref z.1) (fun z => V.int (endA z.2 f.span)) (ev_var (i := 0) rfl) (sq_of (e2 _ _ h1)) (by omega) (fun _ => rfl)
      (fun z H3 e3 hz => by
        have hm : z.2 ∈ ps := by rw [h2]; exact List.mem_map.mpr ⟨z, hz, rfl⟩
        exact ev_callR (ea_cons (ev_var rfl) (ea_cons (ev_span T (ev_var rfl) (hx.ext (e2.trans e3))) ea_nil)) (v_end ((h3 z hz).ext (e2.trans e3)) (hw _ hm) (hw _ hm).depth_le (wf_good (hw _ f1)).sp))
    have eL : zs.map (fun z => V.int (endA z.2 f.span)) = (ps.map fun p => endA p f.span).map V.int := by
      rw [h2, List.map_map, List.map_map]
      rfl
    rw [eL] at q1
    refine s_retU (eu2 (ev_max q1 (fun z => hne (List.map_eq_nil_iff.mp z))) (ev_broken T (ev_var rfl) (hx.ext e2))) fun p H3 hp e3 h4 => ?_
    refine q p H3 (fresh_back (e1.trans e2) hp) ((e1.trans e2).trans e3) ?_
    rw [eG]
    exact h4
/-! ### measure -/
def spMeas (C : Addr) : Sp := fun vs H Q _ => ∃ k l ps n wl ws, vs = [.str (Kind.s k), .ref l, .int n, .ref wl] ∧ PL C H l ps ∧ H wl = some (.lst (ws.map V.str)) ∧ Shape k ps n ws ∧ (∀ p ∈ ps, WF p) ∧ RetU [.int (meas k ps n ws).1, brV (meas k ps n ws).2] H Q
theorem u_meas {C : Addr} {H : Hp} {k : Kind} {l wl : Addr} {ps : List Prog} {n : Int} {ws : List Str} (h : PL C H l ps) (hw : H wl = some (.lst (ws.map V.str))) (sh : Shape k ps n ws) (wf : ∀ p ∈ ps, WF p) :
    SpU (spMeas C) [.str k.s, .ref l, .int n, .ref wl] H [.int (meas k ps n ws).1, brV (meas k ps n ws).2] := fun H1 e Q q E => ⟨k, l, ps, n, wl, ws, rfl, h.ext e, e _ _ hw, sh, wf, q⟩
theorem et_kd {σ : L2.St} {H : Hp} {i : Nat} {k : Kind} (k' : Kind) (h : σ[i]? = some (some (.str k.s))) : EvT (tTest (tOp rEq (tVar i) (tC (.str k'.s)))) σ H (decide (k = k')) := by
  have q := et_eqS (H := H) (ev_var h) (ev_c (v := .str k'.s))
  rw [Kind.s_eq] at q
  exact q
abbrev N_measure : List Str := ["kind", "parts", "number", "words", "failure"]
theorem sc_measure : FnScope N_measure ["kind", "parts", "number", "words"] (defScope s_measure) := ⟨rfl, rfl, rfl, by decide +kernel, rfl, by decide +kernel, by decide +kernel⟩

theorem r_measure (T : Txt K mg) : FnR P w K mg base (L2.CX P w) 125 (He.ga K "measure") (spMeas (PC K)) := by
  have G_end_after : FnR P w K mg base (L2.CX P w) 123 (He.ga K "end_after") (spEnd (PC K) 60) := end_all T 60
  have G_sequence_measure : FnR P w K mg base (L2.CX P w) 1 (He.ga K "sequence_measure") (spSeqM (PC K)) := r_sequence_measure T
  have G_group_measure : FnR P w K mg base (L2.CX P w) 124 (He.ga K "group_measure") (spGrpM (PC K)) := r_group_measure T
  refine fn_mk T.f_measure sc_measure (fun _ _ _ _ _ _ us hl => match us, hl with | [_, _, _, _], _ => rfl) (fun vs H Q E h => ?_) (fun cdv A outer s H vs Q E hr h => ?_)
  · obtain ⟨k, l, ps, n, wl, ws, rfl, _⟩ := h
    rfl
  obtain ⟨k, l, ps, n, wl, ws, rfl, hl, hwl, sh, wf, q⟩ := h
  refine ⟨_, PSs.nox ((pss_cons (ps_if (pt_cmpR op_eq (pv 0) pe_str (nomark _)) (pss_one (ps_ret (pe_tup (pa_cons (pv 2) (pa_cons pe_non pa_nil))))) pss_nil)
    (pss_cons (ps_if (pt_cmpR op_eq (pv 0) pe_str (nomark _)) (pss_one (ps_ret (pe_tup (pa_cons pe_int (pa_cons (pe_ix ix_list (pv 3) pe_int (fun _ _ => rfl)) pa_nil))))) pss_nil)
    (pss_cons (ps_if (pt_cmpR op_eq (pv 0) pe_str (nomark _)) (pss_one (ps_ret (pe_callR G_sequence_measure (hr.mono (by omega)) rfl T.g_sequence_measure (kp_of T.f_sequence_measure) passL (pa_cons (pv 1) pa_nil)))) pss_nil)
    (pss_cons (ps_if (pt_cmpR op_eq (pv 0) pe_str (nomark _)) (pss_cons (ps_if (pt_cmpR op_eq (pv 2) pe_int (nomark _)) (pss_one (ps_ret (pe_tup (pa_cons pe_int (pa_cons pe_non pa_nil))))) pss_nil)
    (pss_one (ps_ret (pe_tup (pa_cons (pe_op op_mulW (pe_fld (pe_ix ix_list (pv 1) pe_int (fun _ _ => rfl)) rfl) (pe_ifExp (pt_cmpR op_isN1 (pe_fld (pe_ix ix_list (pv 1) pe_int (fun _ _ => rfl)) rfl) pe_non (nomark _)) (pv 2) pe_int)) (pa_cons (pe_fld (pe_ix ix_list (pv 1) pe_int (fun _ _ => rfl)) rfl) pa_nil)))))) pss_nil)
    (pss_cons (ps_if (pt_cmpR op_eq (pv 0) pe_str (nomark _)) (pss_one (ps_ret (pe_tup (pa_cons (pe_fld (pe_ix ix_list (pv 1) pe_int (fun _ _ => rfl)) rfl) (pa_cons (pe_fld (pe_ix ix_list (pv 1) pe_int (fun _ _ => rfl)) rfl) pa_nil))))) pss_nil)
    (pss_cons (ps_if (pt_cmpR op_eq (pv 0) pe_str (nomark _)) (pss_cons (ps_set (i := 4) sc_measure.nd rfl (Or.inl rfl) (pe_ifExp (pt_cmpR op_isN1 (pe_fld (pe_ix ix_list (pv 1) pe_int (fun _ _ => rfl)) rfl) pe_non (nomark _)) (pe_fld (pe_ix ix_list (pv 1) pe_int (fun _ _ => rfl)) rfl) (pe_fld (pe_ix ix_list (pv 1) pe_int (fun _ _ => rfl)) rfl)))
    (pss_one (ps_ret (pe_tup (pa_cons (pe_op op_add (pe_fld (pe_ix ix_list (pv 1) pe_int (fun _ _ => rfl)) rfl) (pe_fld (pe_ix ix_list (pv 1) pe_int (fun _ _ => rfl)) rfl)) (pa_cons (pv 4) pa_nil)))))) pss_nil)
    (pss_cons (ps_if (pt_cmpR op_eq (pv 0) pe_str (nomark _)) (pss_cons (ps_if (pt_cmpR op_in_seq (pe_fld (pe_ix ix_list (pv 1) pe_int (fun _ _ => rfl)) rfl) (pv 3) (by rfl)) (pss_one (ps_ret (pe_tup (pa_cons (pe_op op_add (pe_fld (pe_ix ix_list (pv 1) pe_int (fun _ _ => rfl)) rfl) (pe_fld (pe_ix ix_list (pv 1) pe_int (fun _ _ => rfl)) rfl)) (pa_cons (pe_fld (pe_ix ix_list (pv 1) pe_int (fun _ _ => rfl)) rfl) pa_nil))))) pss_nil)
    (pss_one (ps_ret (pe_tup (pa_cons (pe_fld (pe_ix ix_list (pv 1) pe_int (fun _ _ => rfl)) rfl) (pa_cons (pe_fld (pe_ix ix_list (pv 1) pe_int (fun _ _ => rfl)) rfl) pa_nil)))))) pss_nil)
    (pss_cons (ps_if (pt_cmpR op_eq (pv 0) pe_str (nomark _)) (pss_one (ps_ret (pe_callR G_group_measure (hr.mono (by omega)) rfl T.g_group_measure (kp_of T.f_group_measure) passL (pa_cons (pv 1) pa_nil)))) pss_nil)
    (pss_cons (ps_if (pt_cmpR op_gt (pe_fld (pe_ix ix_list (pv 1) pe_int (fun _ _ => rfl)) rfl) (pv 2) (nomark _)) (pss_one (ps_ret (pe_tup (pa_cons (pe_callR G_end_after (hr.mono (by omega)) rfl T.g_end_after (kp_of T.f_end_after) passL (pa_cons (pe_ix ix_list (pv 1) pe_int (fun _ _ => rfl)) (pa_cons (pv 2) pa_nil))) (pa_cons (pe_ifExp (pt_cmpR (op_neNil hr.units0) (pv 3) (pe_lst pa_nil) (nomark _)) (pe_ix ix_list (pv 3) pe_int (fun _ _ => rfl)) pe_non) pa_nil))))) pss_nil)
    (pss_one (ps_ret (pe_tup (pa_cons (pe_fld (pe_ix ix_list (pv 1) pe_int (fun _ _ => rfl)) rfl) (pa_cons (pe_fld (pe_ix ix_list (pv 1) pe_int (fun _ _ => rfl)) rfl) pa_nil))))))))))))))), ?_⟩
  have ret : ∀ {H1 : Hp} {te : TE} {σ : L2.St}, Ex H H1 → EvU te σ H1 [.int (meas k ps n ws).1, brV (meas k ps n ws).2] → ∀ D : Ends, D.rt = Q → tRet te D σ H1 := fun {H1 te σ} e h D hD => by
    refine s_retU h fun p H2 hp e2 h2 => ?_
    rw [hD]
    exact q p H2 (fresh_back e hp) (e.trans e2) h2
  refine q_by (et_kd .sleep rfl) rfl (fun hA H1 e1 => ?_) (fun k1 H1 e1 => ?_)
  · subst hA
    exact ret e1 (eu2 (ev_var rfl) ev_c) _ rfl
  refine q_by (et_kd .fail rfl) rfl (fun hA H2 e2 => ?_) (fun k2 H2 e2 => ?_)
  · subst hA
    obtain ⟨_, _, z, rfl, _⟩ := sh
    exact ret (e1.trans e2) (eu2 ev_c (ev_word (i := 0) (ev_var rfl) ((e1.trans e2) _ _ hwl) rfl)) _ rfl
  have x2 := e1.trans e2
  clear e1 e2
  refine q_by (et_kd .seq rfl) rfl (fun hA H3 e3 => ?_) (fun k3 H3 e3 => ?_)
  · subst hA
    exact ret (x2.trans e3) (eu_callR (ea_cons (ev_var rfl) ea_nil) (u_seqM (hl.ext (x2.trans e3)))) _ rfl
  have x3 := x2.trans e3
  clear e3 x2
  refine q_by (et_kd .loop rfl) rfl (fun hA H4 e4 => ?_) (fun k4 H4 e4 => ?_)
  · subst hA
    obtain ⟨⟨p, rfl⟩, n0, n1, _⟩ := sh
    have wp := wf p List.mem_cons_self
    have x4 := x3.trans e4
    refine q_by (A := n = 0) (et_eqI (ev_var rfl) ev_c) rfl (fun hz H5 e5 => ?_) (fun hz H5 e5 => ?_)
    · have em : meas .loop [p] n ws = (0, none) := if_pos hz
      refine ret (x4.trans e5) ?_ _ rfl
      rw [em]
      exact eu2 ev_c ev_c
    · have em : meas .loop [p] n ws = (p.span * (if p.broken = none then n else 1), p.broken) := if_neg hz
      obtain ⟨x, hx, ex⟩ := ev_part (K := K) (σ := start N_measure [.str (Kind.s .loop), .ref l, .int n, .ref wl]) (tl := tVar 1) (i := 0) (ev_var rfl) (hl.ext (x4.trans e5)) rfl
      refine ret (x4.trans e5) ?_ _ rfl
      rw [em]
      have en : Ev (tIf (tTest (tOp rIsN (tFld K (tOp (rIxL K) (tVar 1) (tC (.int (0 : Nat)))) "broken") (tC .non))) (tVar 2) (tC (.int 1))) (start N_measure [.str (Kind.s .loop), .ref l, .int n, .ref wl]) H5 (.int (if p.broken = none then n else 1)) := by
        refine ev_if (et_isN (ev_broken T ex hx)) (fun hb => ?_) (fun hb => ?_)
        · rw [brV_non] at hb
          rw [if_pos (Option.isNone_iff_eq_none.mp hb)]
          exact ev_var rfl
        · rw [brV_non] at hb
          rw [if_neg (fun z => by rw [z] at hb; cases hb)]
          exact ev_c
      have hb : (if p.broken = none then n else 1).natAbs < 2 ^ 100 := by
        have e : mostT < 2 ^ 100 := by decide
        split <;> omega
      exact eu2 (ev_op (ev_span T ex hx) en (rv_I (wide_mul (span_bits wp) hb (by decide) (by decide) (by decide)))) (ev_broken T ex hx)
  have x4 := x3.trans e4
  clear e4 x3
  refine q_by (et_kd .shield rfl) rfl (fun hA H5 e5 => ?_) (fun k5 H5 e5 => ?_)
  · subst hA
    obtain ⟨⟨p, rfl⟩, _, _⟩ := sh
    obtain ⟨x, hx, ex⟩ := ev_part (K := K) (σ := start N_measure [.str (Kind.s .shield), .ref l, .int n, .ref wl]) (tl := tVar 1) (i := 0) (ev_var rfl) (hl.ext (x4.trans e5)) rfl
    exact ret (x4.trans e5) (eu2 (ev_span T ex hx) (ev_broken T ex hx)) _ rfl
  have x5 := x4.trans e5
  clear e5 x4
  refine q_by (et_kd .cleanup rfl) rfl (fun hA H6 e6 => ?_) (fun k6 H6 e6 => ?_)
  · subst hA
    obtain ⟨⟨p, p2, rfl⟩, _, _⟩ := sh
    have x6 := x5.trans e6
    obtain ⟨x, hx, ex⟩ := ev_part (K := K) (σ := start N_measure [.str (Kind.s .cleanup), .ref l, .int n, .ref wl]) (tl := tVar 1) (i := 0) (ev_var rfl) (hl.ext x6) rfl
    obtain ⟨y, hy, ey⟩ := ev_part (K := K) (σ := start N_measure [.str (Kind.s .cleanup), .ref l, .int n, .ref wl]) (tl := tVar 1) (i := 1) (ev_var rfl) (hl.ext x6) rfl
    have ef : Ev (tIf (tTest (tOp rIsN (tFld K (tOp (rIxL K) (tVar 1) (tC (.int (1 : Nat)))) "broken") (tC .non))) (tFld K (tOp (rIxL K) (tVar 1) (tC (.int (0 : Nat)))) "broken") (tFld K (tOp (rIxL K) (tVar 1) (tC (.int (1 : Nat)))) "broken")) (start N_measure [.str (Kind.s .cleanup), .ref l, .int n, .ref wl]) H6 (brV (if p2.broken = none then p.broken else p2.broken)) := by
      refine ev_if (et_isN (ev_broken T ey hy)) (fun hb => ?_) (fun hb => ?_)
      · rw [brV_non] at hb
        rw [if_pos (Option.isNone_iff_eq_none.mp hb)]
        exact ev_broken T ex hx
      · rw [brV_non] at hb
        rw [if_neg (fun z => by rw [z] at hb; cases hb)]
        exact ev_broken T ey hy
    refine q_asg ef fun H7 e7 => ?_
    obtain ⟨x', hx', ex'⟩ := ev_part (K := K) (σ := [some (.str (Kind.s .cleanup)), some (.ref l), some (.int n), some (.ref wl), some (brV (if p2.broken = none then p.broken else p2.broken))]) (tl := tVar 1) (i := 0) (ev_var rfl) (hl.ext (x6.trans e7)) rfl
    obtain ⟨y', hy', ey'⟩ := ev_part (K := K) (σ := [some (.str (Kind.s .cleanup)), some (.ref l), some (.int n), some (.ref wl), some (brV (if p2.broken = none then p.broken else p2.broken))]) (tl := tVar 1) (i := 1) (ev_var rfl) (hl.ext (x6.trans e7)) rfl
    exact ret (x6.trans e7) (eu2 (ev_op (ev_span T ex' hx') (ev_span T ey' hy') rv_I0) (ev_var rfl)) _ rfl
  have x6 := x5.trans e6
  clear e6 x5
  refine q_by (et_kd .fallback rfl) rfl (fun hA H7 e7 => ?_) (fun k7 H7 e7 => ?_)
  · subst hA
    obtain ⟨⟨p, p2, rfl⟩, _, _⟩ := sh
    have x7 := x6.trans e7
    obtain ⟨x, hx, ex⟩ := ev_part (K := K) (σ := start N_measure [.str (Kind.s .fallback), .ref l, .int n, .ref wl]) (tl := tVar 1) (i := 0) (ev_var rfl) (hl.ext x7) rfl
    have ei := et_test (ev_op (r := rIn K false) (ev_broken T ex hx) (ev_var (i := 3) rfl) (rv_isL (sq_of (x7 _ _ hwl)) (flat_brV p.broken) (flat_words ws)))
    rw [inV_words] at ei
    cases hb : p.broken with
    | none =>
      rw [hb] at ei
      have em : meas .fallback [p, p2] n ws = (p.span, none) := by
        show (match p.broken with | some w => if w ∈ ws then (p.span + p2.span, p2.broken) else (p.span, some w) | none => (p.span, none)) = _
        rw [hb]
      refine q_no ei fun H8 e8 => ?_
      obtain ⟨x, hx, ex⟩ := ev_part (K := K) (σ := start N_measure [.str (Kind.s .fallback), .ref l, .int n, .ref wl]) (tl := tVar 1) (i := 0) (ev_var rfl) (hl.ext (x7.trans e8)) rfl
      refine ret (x7.trans e8) ?_ _ rfl
      rw [em]
      have := ev_broken T ex hx
      rw [hb] at this
      exact eu2 (ev_span T ex hx) this
    | some z =>
      rw [hb] at ei
      refine q_by (A := z ∈ ws) ei rfl (fun hz H8 e8 => ?_) (fun hz H8 e8 => ?_)
      · have em : meas .fallback [p, p2] n ws = (p.span + p2.span, p2.broken) := by
          show (match p.broken with | some w => if w ∈ ws then (p.span + p2.span, p2.broken) else (p.span, some w) | none => (p.span, none)) = _
          rw [hb]
          exact if_pos hz
        obtain ⟨x, hx, ex⟩ := ev_part (K := K) (σ := start N_measure [.str (Kind.s .fallback), .ref l, .int n, .ref wl]) (tl := tVar 1) (i := 0) (ev_var rfl) (hl.ext (x7.trans e8)) rfl
        obtain ⟨y, hy, ey⟩ := ev_part (K := K) (σ := start N_measure [.str (Kind.s .fallback), .ref l, .int n, .ref wl]) (tl := tVar 1) (i := 1) (ev_var rfl) (hl.ext (x7.trans e8)) rfl
        refine ret (x7.trans e8) ?_ _ rfl
        rw [em]
        exact eu2 (ev_op (ev_span T ex hx) (ev_span T ey hy) rv_I0) (ev_broken T ey hy)
      · have em : meas .fallback [p, p2] n ws = (p.span, some z) := by
          show (match p.broken with | some w => if w ∈ ws then (p.span + p2.span, p2.broken) else (p.span, some w) | none => (p.span, none)) = _
          rw [hb]
          exact if_neg hz
        obtain ⟨x, hx, ex⟩ := ev_part (K := K) (σ := start N_measure [.str (Kind.s .fallback), .ref l, .int n, .ref wl]) (tl := tVar 1) (i := 0) (ev_var rfl) (hl.ext (x7.trans e8)) rfl
        refine ret (x7.trans e8) ?_ _ rfl
        rw [em]
        have := ev_broken T ex hx
        rw [hb] at this
        exact eu2 (ev_span T ex hx) this
  have x7 := x6.trans e7
  clear e7 x6
  refine q_by (et_kd .together rfl) rfl (fun hA H8 e8 => ?_) (fun k8 H8 e8 => ?_)
  · subst hA
    obtain ⟨hne, hlen, _, _⟩ := sh
    exact ret (x7.trans e8) (eu_callR (ea_cons (ev_var rfl) ea_nil) (u_grpM (hl.ext (x7.trans e8)) hne (by omega) wf)) _ rfl
  have x8 := x7.trans e8
  clear e8 x7
  have hp : ∃ p, ps = [p] ∧ 0 ≤ n ∧ meas k ps n ws = if n < p.span then (endA p n, ws.head?) else (p.span, p.broken) := by
    cases k with
    | timeout =>
      obtain ⟨⟨p, rfl⟩, n0, _, _⟩ := sh
      refine ⟨p, rfl, n0, ?_⟩
      show (if n < p.span then (endH [p] n, ws.head?) else (p.span, p.broken)) = _
      rw [(hd_facts (p := p)).2.2]
    | moveon =>
      obtain ⟨⟨p, rfl⟩, n0, _, _⟩ := sh
      refine ⟨p, rfl, n0, ?_⟩
      show (if n < p.span then (endH [p] n, ws.head?) else (p.span, p.broken)) = _
      rw [(hd_facts (p := p)).2.2]
    | sleep => exact absurd rfl k1
    | fail => exact absurd rfl k2
    | seq => exact absurd rfl k3
    | loop => exact absurd rfl k4
    | shield => exact absurd rfl k5
    | cleanup => exact absurd rfl k6
    | fallback => exact absurd rfl k7
    | together => exact absurd rfl k8
  obtain ⟨p, rfl, n0, em⟩ := hp
  have wp := wf p List.mem_cons_self
  obtain ⟨x, hx, ex⟩ := ev_part (K := K) (σ := start N_measure [.str k.s, .ref l, .int n, .ref wl]) (tl := tVar 1) (i := 0) (ev_var rfl) (hl.ext x8) rfl
  refine q_by (A := n < p.span) (et_cmp (ev_span T ex hx) (ev_var rfl)) rfl (fun hA H9 e9 => ?_) (fun hA H9 e9 => ?_)
  · rw [if_pos hA] at em
    obtain ⟨x, hx, ex⟩ := ev_part (K := K) (σ := start N_measure [.str k.s, .ref l, .int n, .ref wl]) (tl := tVar 1) (i := 0) (ev_var rfl) (hl.ext (x8.trans e9)) rfl
    refine ret (x8.trans e9) ?_ _ rfl
    rw [em]
    refine eu2 (ev_callR (ea_cons ex (ea_cons (ev_var rfl) ea_nil)) (v_end hx wp wp.depth_le n0)) ?_
    refine ev_if (et_neNil (ev_var rfl) ((x8.trans e9) _ _ hwl)) (fun hb => ?_) (fun hb => ?_)
    · cases ws with
      | nil => exact absurd hb (by decide)
      | cons z r => exact ev_word (i := 0) (ev_var rfl) ((x8.trans e9) _ _ hwl) rfl
    · cases ws with
      | nil => exact ev_c
      | cons z r => exact absurd hb (by simp)
  · rw [if_neg hA] at em
    obtain ⟨x, hx, ex⟩ := ev_part (K := K) (σ := start N_measure [.str k.s, .ref l, .int n, .ref wl]) (tl := tVar 1) (i := 0) (ev_var rfl) (hl.ext (x8.trans e9)) rfl
    refine ret (x8.trans e9) ?_ _ rfl
    rw [em]
    exact eu2 (ev_span T ex hx) (ev_broken T ex hx)
end
end Cu

/-! == Core4 -/
set_option maxHeartbeats 4000000
namespace Cu
open PySem PySem.Spec PyProof.Rows L2 Evl CuT
/-! ### texts sign by sign -/
def rLeS : R2 := fun x y H Q => ∃ i j, x = .str i ∧ y = .str j ∧ Q (.bl (!decide (j.cps.toList < i.cps.toList))) H
theorem op_leS {X : Cx} : OpR X (compareOp .LtE) rLeS := op_le_str
section
variable {K : PySem.W.Frag} {σ : L2.St} {H : Hp} {ta tb tc te : TE}
theorem ev_chainS {i j l : Str} (ha : Ev ta σ H (.str i)) (hb : Ev tb σ H (.str j)) (hc : Ev tc σ H (.str l)) : Ev (tChain rLeS rLeS ta tb tc) σ H (.bl ((!decide (j.cps.toList < i.cps.toList)) && (!decide (l.cps.toList < j.cps.toList)))) := fun H1 e Q q =>
  ha H1 e _ fun H2 e2 => hb H2 (e.trans e2) _ fun H3 e3 => ⟨i, j, rfl, rfl, _, rfl, by
    cases hg : !decide (j.cps.toList < i.cps.toList) with
    | true =>
      rw [hg] at q
      exact hc H3 ((e.trans e2).trans e3) _ fun H4 e4 => ⟨j, l, rfl, rfl, q H4 ((e2.trans e3).trans e4)⟩
    | false =>
      rw [hg] at q
      exact iteF (q H3 (e2.trans e3))⟩
theorem ev_lenS {z : Str} (ha : Ev ta σ H (.str z)) (hz : z.length ≤ sizeLine) : Ev (tCB (fun xs H Q => ∃ z, xs = [.str z] ∧ z.length ≤ sizeLine ∧ Q (.int z.length) H) (tCons ta tNil)) σ H (.int z.length) := fun H1 e Q q =>
  ha H1 e _ fun H2 e2 => ⟨z, rfl, hz, q H2 e2⟩
theorem ev_all {bs : List Bool} (h : EvL te σ H (bs.map V.bl)) : Ev (tCB (rAll K) (tCons te tNil)) σ H (.bl (bs.all id)) := fun H1 e Q q =>
  h H1 e _ fun p H2 _ e2 hp => ⟨p, bs, rfl, sq_of hp, q H2 e2⟩
theorem el_signs {z : Str} {tl : TE} {j : Nat} {vs : List Nat} (g : Nat → V) (h : Ev tl σ H (.str z)) (hz : z.cps.size ≤ 40000) (hw : ∀ x, wipe ((wipe σ vs).set j (some x)) vs = wipe σ vs)
    (he : ∀ c H1, Ex H H1 → Ev te ((wipe σ vs).set j (some (.str ⟨#[c]⟩))) H1 (g c)) : EvL (tLc (iStr tl) (gName j) tYes te vs) σ H (z.cps.toList.map g) := fun H0 e Q q =>
  h H0 e _ fun H1 e1 => ⟨z, rfl, fun Dl hD => lc_it (walk_str (z := z)) (fun i H' => H1 Dl = none ∧ Ex H1 H' ∧ H' Dl = some (.lst ((z.cps.toList.take i).map g))) ⟨hD, Ex.new hD, upd_same⟩ (fun _ _ _ _ => True.intro)
    (fun i x H2 H' hi p y => by
      obtain ⟨rfl, c, hc, rfl⟩ := y
      obtain ⟨p1, p2, p3⟩ := p
      refine ⟨hw _, ?_⟩
      unfold tYes
      dsimp only
      rw [if_pos rfl]
      refine he c H1 (e.trans e1) H' p2 _ fun H3 e3 => ⟨_, e3 _ _ p3, ?_, p1, Ex.mut (p2.trans e3) p1, ?_⟩
      · rw [List.length_map]
        have := List.length_take_le i z.cps.toList
        exact sz_lt (by omega)
      · have hc' : z.cps.toList[i]? = some c := by rw [Array.getElem?_toList]; exact hc
        rw [upd_same, List.take_succ, hc', List.map_append]
        rfl)
    (fun H' p => by
      obtain ⟨p1, p2, p3⟩ := p
      rw [show z.cps.size = z.cps.toList.length from (Array.length_toList).symm, List.take_length] at p3
      exact q Dl H' (fresh_back e1 p1) (e1.trans p2) p3)⟩
end
theorem tyOf_ext {K : PySem.W.Frag} {H H' : Hp} {v : V} {t : Value} (e : Ex H H') (h : TyOf K H v t) : TyOf K H' v t := by
  cases h with
  | non => exact .non
  | bl x => exact .bl x
  | int i => exact .int i
  | str x => exact .str x
  | flt x => exact .flt x
  | lst h => exact .lst (e _ _ h)
  | frz h => exact .frz (e _ _ h)
  | tup h => exact .tup (e _ _ h)
  | dK h => exact .dK (e _ _ h)
  | dT h => exact .dT (e _ _ h)
  | ins h cl ha hn htk hm => exact .ins (e _ _ h) cl ha hn htk hm
theorem boolBy {A : Prop} [Decidable A] {b : Bool} (h : b = true ↔ A) : b = decide A := by
  by_cases hA : A
  · rw [decide_eq_true hA]
    exact h.mpr hA
  · rw [decide_eq_false hA]
    cases b with
    | true => exact absurd (h.mp rfl) hA
    | false => rfl
def isNameB (z : Str) : Bool := (decide (1 ≤ z.length) && decide (z.length ≤ 12)) && z.cps.toList.all fun c => decide (97 ≤ c) && decide (c ≤ 122)
theorem isNameB_of {z : Str} (h : IsName z) : isNameB z = true := by
  obtain ⟨h1, h2, h3⟩ := h
  unfold isNameB
  rw [decide_eq_true h1, decide_eq_true h2]
  simp only [Bool.true_and]
  rw [List.all_eq_true]
  intro c hc
  obtain ⟨a, b⟩ := h3 c hc
  rw [decide_eq_true a, decide_eq_true b]
  rfl
theorem cutV_take {xs : List V} {i : Nat} (h : i ≤ xs.length) : cutV xs none (some (i : Int)) = xs.take i := by
  have e1 : HT.sIx xs.length 0 none = 0 := rfl
  have e2 : HT.sIx xs.length xs.length (some (i : Int)) = i := by
    rw [HT.sIx_nat]
    omega
  unfold cutV
  rw [e1, e2]
  simp
theorem cutV_drop {xs : List V} {i : Nat} (h : i ≤ xs.length) : cutV xs (some (i : Int)) none = xs.drop i := by
  have e1 : HT.sIx xs.length xs.length none = xs.length := rfl
  have e2 : HT.sIx xs.length 0 (some (i : Int)) = i := by
    rw [HT.sIx_nat]
    omega
  unfold cutV
  rw [e1, e2, List.take_of_length_le (by rw [List.length_drop]; omega)]
theorem one_lt (a b : Nat) : decide ([a] < [b]) = decide (a < b) := by
  by_cases h : a < b
  · rw [decide_eq_true h, decide_eq_true (List.cons_lt_cons_iff.mpr (.inl h))]
  · rw [decide_eq_false h, decide_eq_false (fun z => by
      rcases List.cons_lt_cons_iff.mp z with q | ⟨_, q⟩
      · exact h q
      · exact absurd q (List.not_lt_nil _))]
section
variable {P : Program} {w : World} {K : PySem.W.Frag} {mg : Str → Option Value} {base : Heap}
/-! ### is_integer, is_between, is_name -/
def spIsInt (K : PySem.W.Frag) : Sp := fun vs H Q _ => ∃ v t b1 b2, vs = [v] ∧ TyX K H v t ∧ (∀ H1, Ex H H1 → TyX K H1 v t) ∧ PySem.W.kitOne K t (.type "int") = some b1 ∧ PySem.W.kitOne K t (.type "bool") = some b2 ∧ RetV (.bl (b1 && !b2)) H Q
theorem v_isInt {H : Hp} {i : Int} : SpV (spIsInt K) [.int i] H (.bl true) := fun H1 e Q q E => ⟨.int i, .type "int", true, false, rfl, .base (.int i), fun _ _ => .base (.int i), kit_ty (by decide +kernel), kit_ty (by decide +kernel), q⟩
abbrev N_is_integer : List Str := ["value"]
theorem sc_is_integer : FnScope N_is_integer ["value"] (defScope s_is_integer) := ⟨rfl, rfl, rfl, by decide +kernel, rfl, by decide +kernel, by decide +kernel⟩

theorem r_is_integer (T : Txt K mg) : FnR P w K mg base (L2.CX P w) 1 (He.ga K "is_integer") (spIsInt K) := by
  refine fn_mk T.f_is_integer sc_is_integer (fun _ _ _ _ _ _ us hl => match us, hl with | [_], _ => rfl) (fun vs H Q E h => ?_) (fun cdv A outer s H vs Q E hr h => ?_)
  · obtain ⟨v, t, b1, b2, rfl, _⟩ := h
    rfl
  obtain ⟨v, t, b1, b2, rfl, _, ht, h1, h2, q⟩ := h
  refine ⟨_, PSs.nox ((pss_one (ps_ret (pe_and (pe_callB call_isi (by rfl) T.b_isinstance (by decide +kernel) (pa_cons (pv 0) (pa_cons (pe_bltn (v := .ty "int") (by rfl) T.b_int (by decide +kernel) rfl) pa_nil))) (pe_one (pe_not (pe_callB call_isi (by rfl) T.b_isinstance (by decide +kernel) (pa_cons (pv 0) (pa_cons (pe_bltn (v := .ty "bool") (by rfl) T.b_bool (by decide +kernel) rfl) pa_nil))))))))), ?_⟩
  exact s_ret (ev_andV (ev_isi (ev_var rfl) ev_c (.ty _) ht h1) (fun _ => ev_notV (ev_isi (ev_var rfl) ev_c (.ty _) ht h2))) q
def spBtw : Sp := fun vs H Q _ => ∃ i lo hi, vs = [.int i, .int lo, .int hi] ∧ RetV (.bl (decide (lo ≤ i) && decide (i ≤ hi))) H Q
theorem v_btw {H : Hp} {i lo hi : Int} : SpV spBtw [.int i, .int lo, .int hi] H (.bl (decide (lo ≤ i) && decide (i ≤ hi))) := fun H1 e Q q E => ⟨i, lo, hi, rfl, q⟩
abbrev N_is_between : List Str := ["value", "low", "high"]
theorem sc_is_between : FnScope N_is_between ["value", "low", "high"] (defScope s_is_between) := ⟨rfl, rfl, rfl, by decide +kernel, rfl, by decide +kernel, by decide +kernel⟩

theorem r_is_between (T : Txt K mg) : FnR P w K mg base (L2.CX P w) 2 (He.ga K "is_between") spBtw := by
  have G_is_integer : FnR P w K mg base (L2.CX P w) 1 (He.ga K "is_integer") (spIsInt K) := r_is_integer T
  refine fn_mk T.f_is_between sc_is_between (fun _ _ _ _ _ _ us hl => match us, hl with | [_, _, _], _ => rfl) (fun vs H Q E h => ?_) (fun cdv A outer s H vs Q E hr h => ?_)
  · obtain ⟨i, lo, hi, rfl, _⟩ := h
    rfl
  obtain ⟨i, lo, hi, rfl, q⟩ := h
  refine ⟨_, PSs.nox ((pss_one (ps_ret (pe_and (pe_callR G_is_integer (hr.mono (by omega)) rfl T.g_is_integer (kp_of T.f_is_integer) passL (pa_cons (pv 0) pa_nil)) (pe_one (pe_chain op_le op_le (pv 1) (pv 0) (pv 2))))))), ?_⟩
  exact s_ret (ev_andV (ev_callR (ea_cons (ev_var rfl) ea_nil) v_isInt) (fun _ => ev_chainI (ev_var rfl) (ev_var rfl) (ev_var rfl))) q
def spIsName : Sp := fun vs H Q _ => ∃ z, vs = [.str z] ∧ z.length ≤ 30000 ∧ RetV (.bl (isNameB z)) H Q
theorem v_isName {H : Hp} {z : Str} (hz : IsName z) : SpV spIsName [.str z] H (.bl true) := fun H1 e Q q E => ⟨z, rfl, by have := hz.2.1; omega, by rw [isNameB_of hz]; exact q⟩
abbrev N_is_name : List Str := ["value", "letter"]
theorem sc_is_name : FnScope N_is_name ["value"] (defScope s_is_name) := ⟨rfl, rfl, rfl, by decide +kernel, rfl, by decide +kernel, by decide +kernel⟩

theorem r_is_name (T : Txt K mg) : FnR P w K mg base (L2.CX P w) 1 (He.ga K "is_name") spIsName := by
  refine fn_mk T.f_is_name sc_is_name (fun _ _ _ _ _ _ us hl => match us, hl with | [_], _ => rfl) (fun vs H Q E h => ?_) (fun cdv A outer s H vs Q E hr h => ?_)
  · obtain ⟨z, rfl, _⟩ := h
    rfl
  obtain ⟨z, rfl, hz, q⟩ := h
  refine ⟨_, PSs.nox ((pss_cons (ps_if (PW.pt (pw_or (pt_not (pt_val (pe_callB call_isi (by rfl) T.b_isinstance (by decide +kernel) (pa_cons (pv 0) (pa_cons (pe_bltn (v := .ty "str") (by rfl) T.b_str (by decide +kernel) rfl) pa_nil))))) (pw_or1 (pt_not (pt_chain op_le op_le pe_int (pe_callB call_len_str (by rfl) T.b_len PySem.boot_len (pa_cons (pv 0) pa_nil)) (pe_gi rfl T.i_MOST_LETTERS)))))) (pss_one (ps_ret pe_bl)) pss_nil)
    (pss_one (ps_ret (pe_callB (cr_all rfl) (by rfl) T.b_all (by decide +kernel) (pa_cons (pe_lc (own := [("letter", 1)]) (g := gName 1) (tt := tYes) (te := (tChain rLeS rLeS (tC (.str "a")) (tVar 1) (tC (.str "z")))) (by rfl) sc_is_name.nd (pi_str (pv 0)) (blkOk_by (own := [("letter", 1)]) (N := N_is_name) (sc := defScope s_is_name) (by decide +kernel)) (fun _ _ _ _ _ => (pg_name (i := 1) sc_is_name.nd rfl (Or.inl rfl))) (fun _ _ _ _ _ => pts_nil) (fun _ _ _ _ _ => (pe_chain op_leS op_leS pe_str (pv 1) pe_str))) pa_nil)))))), ?_⟩
  have hz2 : z.length ≤ sizeLine := sz_of (by omega)
  refine q_by (A := ¬ (1 ≤ z.length ∧ z.length ≤ 12)) (et_or (et_not (et_B (ev_isi (b := true) (ev_var rfl) ev_c (.ty _) (fun _ _ => .base (.str z)) (kit_ty (by decide +kernel))))) (fun _ => et_not (et_test (ev_chainI ev_c (ev_lenS (ev_var rfl) hz2) ev_c)))) (boolBy (by
    simp only [Bool.not_true, Bool.false_or, Bool.not_eq_true', Bool.and_eq_false_iff, decide_eq_false_iff_not]
    omega)) (fun hA H1 e1 => ?_) (fun hA H1 e1 => ?_)
  · refine s_ret ev_c fun H2 e2 => ?_
    have e : isNameB z = false := by
      unfold isNameB
      by_cases h1 : 1 ≤ z.length
      · rw [decide_eq_false (show ¬ z.length ≤ 12 by omega), Bool.and_false, Bool.false_and]
      · rw [decide_eq_false h1, Bool.false_and, Bool.false_and]
    have := q H2 (e1.trans e2)
    rw [e] at this
    exact this
  · have q1 := el_signs (σ := [some (.str z), none]) (H := H1) (te := tChain rLeS rLeS (tC (.str "a")) (tVar 1) (tC (.str "z"))) (j := 1) (vs := [1]) (fun c => V.bl (decide (97 ≤ c) && decide (c ≤ 122))) (ev_var (i := 0) rfl) (show z.length ≤ 40000 by omega) (fun _ => rfl) (fun c H2 e2 => by
      refine ev_is (ev_chainS ev_c (ev_var rfl) ev_c) ?_
      have a1 : (!decide ((⟨#[c]⟩ : Str).cps.toList < (Str.ofString "a").cps.toList)) = decide (97 ≤ c) := by
        show (!decide ([c] < [97])) = _
        rw [one_lt]
        by_cases h : c < 97
        · rw [decide_eq_true h, decide_eq_false (by omega)]
          rfl
        · rw [decide_eq_false h, decide_eq_true (by omega)]
          rfl
      have a2 : (!decide ((Str.ofString "z").cps.toList < (⟨#[c]⟩ : Str).cps.toList)) = decide (c ≤ 122) := by
        show (!decide ([122] < [c])) = _
        rw [one_lt]
        by_cases h : 122 < c
        · rw [decide_eq_true h, decide_eq_false (by omega)]
          rfl
        · rw [decide_eq_false h, decide_eq_true (by omega)]
          rfl
      rw [a1, a2])
    have eL : z.cps.toList.map (fun c => V.bl (decide (97 ≤ c) && decide (c ≤ 122))) = (z.cps.toList.map fun c => decide (97 ≤ c) && decide (c ≤ 122)).map V.bl := by
      rw [List.map_map]
      rfl
    rw [eL] at q1
    refine s_ret (ev_all q1) fun H2 e2 => ?_
    have e : isNameB z = (z.cps.toList.map fun c => decide (97 ≤ c) && decide (c ≤ 122)).all id := by
      unfold isNameB
      rw [decide_eq_true (show 1 ≤ z.length by omega), decide_eq_true (show z.length ≤ 12 by omega), List.all_map]
      rfl
    rw [← e]
    exact q H2 (e1.trans e2)
/-! ### the checks, for what they accept -/
def spChkT : Sp := fun vs H Q _ => ∃ i, vs = [.int i] ∧ 0 ≤ i ∧ i ≤ mostT ∧ RetV .non H Q
theorem v_chkT {H : Hp} {i : Int} (h0 : 0 ≤ i) (h1 : i ≤ mostT) : SpV spChkT [.int i] H .non := fun H1 e Q q E => ⟨i, rfl, h0, h1, q⟩
abbrev N_check_time : List Str := ["value"]
theorem sc_check_time : FnScope N_check_time ["value"] (defScope s_check_time) := ⟨rfl, rfl, rfl, by decide +kernel, rfl, by decide +kernel, by decide +kernel⟩

theorem r_check_time (T : Txt K mg) : FnR P w K mg base (L2.CX P w) 3 (He.ga K "check_time") spChkT := by
  have G_is_between : FnR P w K mg base (L2.CX P w) 2 (He.ga K "is_between") spBtw := r_is_between T
  refine fn_mk T.f_check_time sc_check_time (fun _ _ _ _ _ _ us hl => match us, hl with | [_], _ => rfl) (fun vs H Q E h => ?_) (fun cdv A outer s H vs Q E hr h => ?_)
  · obtain ⟨i, rfl, _⟩ := h
    rfl
  obtain ⟨i, rfl, h0, h1, q⟩ := h
  refine ⟨_, PSs.nox ((pss_one (ps_if (pt_not (pt_val (pe_callR G_is_between (hr.mono (by omega)) rfl T.g_is_between (kp_of T.f_is_between) passL (pa_cons (pv 0) (pa_cons pe_int (pa_cons (pe_gi rfl T.i_MOST_TIME) pa_nil)))))) (pss_one (ps_never)) pss_nil))), ?_⟩
  refine s_when (b := false) (et_is (et_not (et_B (ev_callR (ea_cons (ev_var rfl) (ea_cons ev_c (ea_cons ev_c ea_nil))) v_btw))) ?_) (fun z => nomatch z) (fun _ H1 e1 => q H1 e1)
  have e : (1000000000000000000000000000000 : Int) = mostT := rfl
  rw [e, decide_eq_true h0, decide_eq_true h1]
  rfl
def spChkN : Sp := fun vs H Q _ => ∃ z, vs = [.str z] ∧ IsName z ∧ RetV .non H Q
theorem v_chkN {H : Hp} {z : Str} (h : IsName z) : SpV spChkN [.str z] H .non := fun H1 e Q q E => ⟨z, rfl, h, q⟩
abbrev N_check_name : List Str := ["value"]
theorem sc_check_name : FnScope N_check_name ["value"] (defScope s_check_name) := ⟨rfl, rfl, rfl, by decide +kernel, rfl, by decide +kernel, by decide +kernel⟩

theorem r_check_name (T : Txt K mg) : FnR P w K mg base (L2.CX P w) 2 (He.ga K "check_name") spChkN := by
  have G_is_name : FnR P w K mg base (L2.CX P w) 1 (He.ga K "is_name") spIsName := r_is_name T
  refine fn_mk T.f_check_name sc_check_name (fun _ _ _ _ _ _ us hl => match us, hl with | [_], _ => rfl) (fun vs H Q E h => ?_) (fun cdv A outer s H vs Q E hr h => ?_)
  · obtain ⟨z, rfl, _⟩ := h
    rfl
  obtain ⟨z, rfl, hz, q⟩ := h
  refine ⟨_, PSs.nox ((pss_one (ps_if (pt_not (pt_val (pe_callR G_is_name (hr.mono (by omega)) rfl T.g_is_name (kp_of T.f_is_name) passL (pa_cons (pv 0) pa_nil)))) (pss_one (ps_never)) pss_nil))), ?_⟩
  exact s_when (b := false) (et_not (et_B (ev_callR (ea_cons (ev_var rfl) ea_nil) (v_isName hz)))) (fun z => nomatch z) (fun _ H1 e1 => q H1 e1)
theorem tyP (T : Txt K mg) {H : Hp} {a : Addr} {p : Prog} (h : IsP (PC K) H a p) : TyOf K H (.ref a) (.ref (PC K)) := by
  obtain ⟨dx, l, w, ha, _⟩ := h.at_
  exact .ins ha T.cls_Program T.clsat_Program T.clsget_Program T.clstk_Program T.mro_Program
def spChkP (C : Addr) : Sp := fun vs H Q _ => ∃ z a p, vs = [.str z, .ref a] ∧ IsP C H a p ∧ RetV .non H Q
theorem v_chkP {C : Addr} {H : Hp} {z : Str} {a : Addr} {p : Prog} (h : IsP C H a p) : SpV (spChkP C) [.str z, .ref a] H .non := fun H1 e Q q E => ⟨z, a, p, rfl, h.ext e, q⟩
abbrev N_check_program : List Str := ["part", "value"]
theorem sc_check_program : FnScope N_check_program ["part", "value"] (defScope s_check_program) := ⟨rfl, rfl, rfl, by decide +kernel, rfl, by decide +kernel, by decide +kernel⟩

theorem r_check_program (T : Txt K mg) : FnR P w K mg base (L2.CX P w) 1 (He.ga K "check_program") (spChkP (PC K)) := by
  refine fn_mk T.f_check_program sc_check_program (fun _ _ _ _ _ _ us hl => match us, hl with | [_, _], _ => rfl) (fun vs H Q E h => ?_) (fun cdv A outer s H vs Q E hr h => ?_)
  · obtain ⟨z, a, p, rfl, _⟩ := h
    rfl
  obtain ⟨z, a, p, rfl, hp, q⟩ := h
  refine ⟨_, PSs.nox ((pss_one (ps_if (pt_not (pt_val (pe_callB call_isi (by rfl) T.b_isinstance (by decide +kernel) (pa_cons (pv 1) (pa_cons (pe_glob (v := .ref (He.ga K "Program")) rfl T.g_Program rfl) pa_nil))))) (pss_one (ps_never)) pss_nil))), ?_⟩
  exact s_when (b := false) (et_not (et_B (ev_isi (ev_var rfl) ev_c (.own _) (fun H1 e => .base (tyOf_ext e (tyP T hp))) T.kit_Program))) (fun z => nomatch z) (fun _ H1 e1 => q H1 e1)
def spChkNs : Sp := fun vs H Q _ => ∃ (l : Addr) (ws : List Str), vs = [.ref l] ∧ H l = some (.lst (ws.map V.str)) ∧ 1 ≤ ws.length ∧ ws.length ≤ 20 ∧ (∀ z ∈ ws, IsName z) ∧ ws.Nodup ∧ RetV .non H Q
theorem v_chkNs {H : Hp} {l : Addr} {ws : List Str} (hl : H l = some (.lst (ws.map V.str))) (h1 : 1 ≤ ws.length) (h2 : ws.length ≤ 20) (hn : ∀ z ∈ ws, IsName z) (hd : ws.Nodup) : SpV spChkNs [.ref l] H .non := fun H1 e Q q E => ⟨l, ws, rfl, e _ _ hl, h1, h2, hn, hd, q⟩
theorem ev_lenL {σ : L2.St} {H : Hp} {ta : TE} {p : Addr} {xs : List V} (ha : Ev ta σ H (.ref p)) (h : SqL K H p xs) : Ev (tCB (fun xs H Q => ∃ p ys, xs = [.ref p] ∧ (SqL K H p ys ∨ SqT K H p ys) ∧ Q (.int ys.length) H) (tCons ta tNil)) σ H (.int (xs.length : Int)) := fun H1 e Q q =>
  ha H1 e _ fun H2 e2 => ⟨p, xs, rfl, Or.inl (ex_l (e.trans e2) h), q H2 e2⟩
abbrev N_check_names : List Str := ["names", "at", "name"]
theorem sc_check_names : FnScope N_check_names ["names"] (defScope s_check_names) := ⟨rfl, rfl, rfl, by decide +kernel, rfl, by decide +kernel, by decide +kernel⟩

theorem r_check_names (T : Txt K mg) : FnR P w K mg base (L2.CX P w) 2 (He.ga K "check_names") spChkNs := by
  have G_is_name : FnR P w K mg base (L2.CX P w) 1 (He.ga K "is_name") spIsName := r_is_name T
  refine fn_mk T.f_check_names sc_check_names (fun _ _ _ _ _ _ us hl => match us, hl with | [_], _ => rfl) (fun vs H Q E h => ?_) (fun cdv A outer s H vs Q E hr h => ?_)
  · obtain ⟨l, ws, rfl, _⟩ := h
    rfl
  obtain ⟨l, ws, rfl, hl, h1, h2, hn, hd, q⟩ := h
  refine ⟨_, PSs.nox ((pss_cons (ps_if (PW.pt (pw_or (pt_not (pt_val (pe_callB call_isi (by rfl) T.b_isinstance (by decide +kernel) (pa_cons (pv 0) (pa_cons (pe_bltn (v := .ty "list") (by rfl) T.b_list (by decide +kernel) rfl) pa_nil))))) (pw_or1 (pt_not (pt_chain op_le op_le pe_int (pe_callB call_len_seq (by rfl) T.b_len PySem.boot_len (pa_cons (pv 0) pa_nil)) (pe_gi rfl T.i_MOST_PARTS)))))) (pss_one (ps_never)) pss_nil)
    (pss_one (ps_for PassesOwn.never rfl (pi_enum (by rfl) T.b_enumerate (pa_cons (pv 0) pa_nil)) (pg_tup rfl (pgs_cons (pg_name (i := 1) sc_check_names.nd rfl (Or.inl rfl)) (pgs_cons (pg_name (i := 2) sc_check_names.nd rfl (Or.inl rfl)) pgs_nil))) (pss_one (ps_if (PW.pt (pw_or (pt_not (pt_val (pe_callR G_is_name (hr.mono (by omega)) rfl T.g_is_name (kp_of T.f_is_name) passL (pa_cons (pv 2) pa_nil)))) (pw_or1 (pt_cmpR op_in_seq (pv 2) (pe_slice sl_list (pv 0) po_none (po_some (pv 1))) (by rfl))))) (pss_one (ps_never)) pss_nil)))))), ?_⟩
  refine q_no (et_is (et_or (et_not (et_B (ev_isi (b := true) (ev_var rfl) ev_c (.ty _) (fun H1 e => .base (.lst (e _ _ hl))) (kit_ty (by decide +kernel))))) (fun _ => et_not (et_test (ev_chainI ev_c (ev_lenL (ev_var rfl) (sq_of hl)) ev_c)))) ?_) fun H1 e1 => ?_
  · rw [List.length_map, decide_eq_true (show (1 : Int) ≤ (ws.length : Int) by omega), decide_eq_true (show (ws.length : Int) ≤ 20 by omega)]
    rfl
  have hl1 := e1 _ _ hl
  refine ⟨_, rfl, l, _, rfl, sq_of hl1, for_it (walk_enum (xs := ws.map V.str)) (fun i σ' H' => Ex H H' ∧ ∃ u v, σ' = [some (.ref l), u, v]) ⟨e1, none, none, rfl⟩ (fun i σ' H' _ hP => sq_of (hP.1 _ _ hl)) (fun i x σ' H2 H3 hi hP hy => ?_) (fun σ' H' hP => ?_)⟩
  · obtain ⟨e2, u, v, rfl⟩ := hP
    obtain ⟨Tt, x1, y1, rfl, hT, rfl, hx1, hy1⟩ := hy
    have ei : x1 = .int (i : Nat) := (Option.some.inj hx1).symm
    subst ei
    have hy2 : (ws.map V.str)[i]? = some y1 := hy1
    rw [List.getElem?_map] at hy2
    obtain ⟨z, hz, rfl⟩ := Option.map_eq_some_iff.mp hy2
    have e3 : Ex H (upd H2 Tt (.tup [.int (i : Nat), .str z])) := e2.trans (Ex.new hT)
    refine ⟨Tt, _, rfl, st_of upd_same, rfl, _, _, rfl, _, _, rfl, rfl, ?_⟩
    show tIfS _ _ _ _ _ _
    have hl3 := e3 _ _ hl
    have hsl : EvL (tSl (rSlL K) (tVar 0) tNoPart (tPart (tVar 1))) [some (.ref l), some (.int (i : Nat)), some (.str z)] (upd H2 Tt (.tup [.int (i : Nat), .str z])) (cutV (ws.map V.str) none (some (i : Int))) := el_sl (ev_var rfl) eo_none (eo_some (ev_var rfl)) (sq_of hl3)
    have ecut : cutV (ws.map V.str) none (some (i : Int)) = (ws.take i).map V.str := by
      have hi' : i ≤ (ws.map V.str).length := by omega
      rw [List.map_take]
      exact cutV_take hi'
    rw [ecut] at hsl
    refine s_when (b := false) (et_is (et_or (et_not (et_B (ev_callR (ea_cons (ev_var rfl) ea_nil) (v_isName (hn z (List.mem_of_getElem? hz)))))) (fun _ => et_test (ev_opL (r := rIn K false) (ev_var rfl) hsl fun p H4 hp _ => rv_isL (sq_of hp) rfl (flat_words _)))) ?_) (fun z => nomatch z) (fun _ H4 e4 => ⟨e3.trans e4, _, _, rfl⟩)
    have en : inV (.str z) ((ws.take i).map V.str) = false := by
      rw [show V.str z = brV (some z) from rfl, inV_words]
      show decide (z ∈ ws.take i) = false
      refine decide_eq_false fun hm => ?_
      obtain ⟨j, hj, ej⟩ := List.mem_iff_getElem.mp hm
      rw [List.length_take] at hj
      rw [List.getElem_take] at ej
      have hi2 : i < ws.length := (List.getElem?_eq_some_iff.mp hz).1
      have e1' : ws[j]? = some z := by rw [List.getElem?_eq_getElem (by omega), ej]
      have := nd_ix hd e1' hz
      omega
    rw [en]
    rfl
  · obtain ⟨e2, u, v, rfl⟩ := hP
    exact q H' e2
end
end Cu

/-! == Core5 -/
set_option maxHeartbeats 4000000
namespace Cu
open PySem PySem.Spec PyProof.Rows L2 Evl CuT
/-! ### what programs are made of -/
inductive Pure (C : Addr) : HO → Prop where
  | ins (dx : Addr) (k : Kind) (l : Addr) (n : Int) (w : Addr) (nd d s : Int) (b : Option Str) : Pure C (.ins C dx (flds k l n w nd d s b))
  | refs (as : List Addr) : Pure C (.lst (as.map V.ref))
  | txts (ws : List Str) : Pure C (.lst (ws.map V.str))
section
variable {C : Addr} {H H' : Hp} {a l : Addr} {p : Prog} {ps : List Prog}
theorem IsP.keep (k : ∀ b o, Pure C o → H b = some o → H' b = some o) (h : IsP C H a p) : IsP C H' a p := by
  induction h with
  | mk ha hl hw len sub ih => exact .mk (k _ _ (.ins ..) ha) (k _ _ (.refs _) hl) (k _ _ (.txts _) hw) len ih
theorem PL.keep (k : ∀ b o, Pure C o → H b = some o → H' b = some o) (h : PL C H l ps) : PL C H' l ps := by
  obtain ⟨as, h1, h2, h3⟩ := h
  exact ⟨as, k _ _ (.refs _) h1, h2, fun i x q a b => (h3 i x q a b).keep k⟩
/-- all but x is kept, and x is no such thing -/
theorem keep_but {x : Addr} {u : HO} (hx : H x = some u) (hu : ¬ Pure C u) (k : ∀ b o, b ≠ x → H b = some o → H' b = some o) : ∀ b o, Pure C o → H b = some o → H' b = some o := fun b o hp h => by
  refine k b o (fun e => ?_) h
  subst e
  rw [hx] at h
  cases h
  exact hu hp
theorem notPure_short {dx : Addr} {fs : List (Str × V)} (h : fs.length < 8) : ¬ Pure C (.ins C dx fs) := fun z => by
  generalize e : HO.ins C dx fs = o at z
  cases z with
  | ins dx' k l n w nd d s b =>
    injection e with _ _ e3
    rw [e3] at h
    have h' : (8 : Nat) < 8 := h
    omega
  | refs as => cases e
  | txts ws => cases e
theorem notPure_int {i : Int} {r : List V} : ¬ Pure C (.lst (.int i :: r)) := fun z => by
  generalize e : HO.lst (.int i :: r) = o at z
  cases z with
  | ins dx' k l n w nd d s b => cases e
  | refs as =>
    cases as with
    | nil => cases e
    | cons x r => cases e
  | txts ws =>
    cases ws with
    | nil => cases e
    | cons x r => cases e
end
/-- all but x is as it was -/
def But (x : Addr) (H H' : Hp) : Prop := ∀ b o, b ≠ x → H b = some o → H' b = some o
theorem But.of {x : Addr} {H H' : Hp} (e : Ex H H') : But x H H' := fun b o _ h => e b o h
theorem But.trans {x : Addr} {H H1 H2 : Hp} (a : But x H H1) (b : But x H1 H2) : But x H H2 := fun c o hc h => b c o hc (a c o hc h)
theorem But.upd {x : Addr} {H : Hp} {o : HO} : But x H (upd H x o) := fun b u hb h => by rw [upd_ne hb]; exact h
def RetP (C : Addr) (p : Prog) (H : Hp) (Q : VK) : Prop := ∀ H' a, Ex H H' → IsP C H' a p → Q (.ref a) H'
theorem RetP.ext {C : Addr} {p : Prog} {H H' : Hp} {Q : VK} (q : RetP C p H Q) (e : Ex H H') : RetP C p H' Q := fun H2 a e2 h => q H2 a (e.trans e2) h
section
variable {P : Program} {w : World} {K : PySem.W.Frag} {mg : Str → Option Value} {base : Heap}
/-! ### Program.__init__ -/
structure MkOk (k : Kind) (ps : List Prog) (n : Int) (ws : List Str) : Prop where
  wf : ∀ p ∈ ps, WF p
  sh : Shape k ps n ws
  ln : nodesOf ps ≤ 300
  ld : depthOf ps ≤ 60
theorem nodesOf_len {ps : List Prog} (h : ∀ p ∈ ps, WF p) : (ps.length : Int) + 1 ≤ nodesOf ps := by
  have key : ∀ l : List Prog, (∀ p ∈ l, WF p) → (l.length : Int) ≤ (l.map Prog.nodes).sum := by
    intro l
    induction l with
    | nil => intro _; exact Int.le_refl 0
    | cons p r ih =>
      intro h
      have h1 := (h p List.mem_cons_self).nodes_pos
      have h2 := ih fun q hq => h q (List.mem_cons_of_mem _ hq)
      rw [List.map_cons, List.sum_cons, List.length_cons]
      omega
  have := key ps h
  unfold nodesOf
  omega
theorem MkOk.few {k : Kind} {ps : List Prog} {n : Int} {ws : List Str} (m : MkOk k ps n ws) : ps.length ≤ 300 := by
  have := nodesOf_len m.wf
  have := m.ln
  omega
theorem MkOk.ok {k : Kind} {ps : List Prog} {n : Int} {ws : List Str} (m : MkOk k ps n ws) : WF (mkP k ps n ws) := mkP_wf m.wf m.sh m.ln m.ld
def spInit (C : Addr) : Sp := fun vs H Q _ => ∃ x dx k l ps n wl ws, vs = [.ref x, .str (Kind.s k), .ref l, .int n, .ref wl] ∧ H x = some (.ins C dx []) ∧ PL C H l ps ∧ H wl = some (.lst (ws.map V.str)) ∧ MkOk k ps n ws ∧
  ∀ H', But x H H' → H' x = some (.ins C dx (flds k l n wl (nodesOf ps) (depthOf ps) (meas k ps n ws).1 (meas k ps n ws).2)) → Q .non H'
abbrev N_Program_init : List Str := ["self", "kind", "parts", "number", "words", "nodes", "depth", "part"]
theorem sc_Program_init : FnScope N_Program_init ["self", "kind", "parts", "number", "words"] (defScope s_Program_init) := ⟨rfl, rfl, rfl, by decide +kernel, rfl, by decide +kernel, by decide +kernel⟩

theorem r_Program_init (T : Txt K mg) : FnR P w K mg base (L2.CX P w) 126 (He.ma K (He.ga K "Program") "__init__") (spInit (PC K)) := by
  have G_measure : FnR P w K mg base (L2.CX P w) 125 (He.ga K "measure") (spMeas (PC K)) := r_measure T
  refine fn_mk T.f_Program_init sc_Program_init (fun _ _ _ _ _ _ us hl => match us, hl with | [_, _, _, _, _], _ => rfl) (fun vs H Q E h => ?_) (fun cdv A outer s H vs Q E hr h => ?_)
  · obtain ⟨x, dx, k, l, ps, n, wl, ws, rfl, _⟩ := h
    rfl
  obtain ⟨x, dx, k, l, ps, n, wl, ws, rfl, hx, hl, hwl, mk, q⟩ := h
  refine ⟨_, PSs.nox ((pss_cons (ps_set (i := 5) sc_Program_init.nd rfl (Or.inl rfl) (pe_op op_add pe_int (pe_callB (cr_sum rfl) (by rfl) T.b_sum (by decide +kernel) (pa_cons (pe_lc (own := [("part", 7)]) (g := gName 7) (tt := tYes) (te := (tFld K (tVar 7) "nodes")) (by rfl) sc_Program_init.nd (pi_list (pv 2)) (blkOk_by (own := [("part", 7)]) (N := N_Program_init) (sc := defScope s_Program_init) (by decide +kernel)) (fun _ _ _ _ _ => (pg_name (i := 7) sc_Program_init.nd rfl (Or.inl rfl))) (fun _ _ _ _ _ => pts_nil) (fun _ _ _ _ _ => (pe_fld (pv 7) rfl))) pa_nil))))
    (pss_cons (ps_set (i := 6) sc_Program_init.nd rfl (Or.inl rfl) (pe_op op_add pe_int (pe_callB (cr_max rfl) (by rfl) T.b_max (by decide +kernel) (pa_cons (pe_op op_cat (pe_lst (pa_cons pe_int pa_nil)) (pe_lc (own := [("part", 7)]) (g := gName 7) (tt := tYes) (te := (tFld K (tVar 7) "depth")) (by rfl) sc_Program_init.nd (pi_list (pv 2)) (blkOk_by (own := [("part", 7)]) (N := N_Program_init) (sc := defScope s_Program_init) (by decide +kernel)) (fun _ _ _ _ _ => (pg_name (i := 7) sc_Program_init.nd rfl (Or.inl rfl))) (fun _ _ _ _ _ => pts_nil) (fun _ _ _ _ _ => (pe_fld (pv 7) rfl)))) pa_nil))))
    (pss_cons (ps_if (pt_cmpR op_gt (pv 5) (pe_gi rfl T.i_MOST_NODES) (nomark _)) (pss_one (ps_never)) pss_nil)
    (pss_cons (ps_if (pt_cmpR op_gt (pv 6) (pe_gi rfl T.i_MOST_DEPTH) (nomark _)) (pss_one (ps_never)) pss_nil)
    (pss_cons (ps_fld (pv 0) (pv 1) rfl)
    (pss_cons (ps_fld (pv 0) (pv 2) rfl)
    (pss_cons (ps_fld (pv 0) (pv 3) rfl)
    (pss_cons (ps_fld (pv 0) (pv 4) rfl)
    (pss_cons (ps_fld (pv 0) (pv 5) rfl)
    (pss_cons (ps_fld (pv 0) (pv 6) rfl)
    (pss_one (ps_asg (pe_callR G_measure (hr.mono (by omega)) rfl T.g_measure (kp_of T.f_measure) passL (pa_cons (pv 1) (pa_cons (pv 2) (pa_cons (pv 3) (pa_cons (pv 4) pa_nil))))) (pg_tup rfl (pgs_cons (pg_fld (pv 0)) (pgs_cons (pg_fld (pv 0)) pgs_nil)))))))))))))))), ?_⟩
  obtain ⟨zs, h1, h2, h3⟩ := hl.zs
  have hlz : zs.length ≤ 300 := by have := mk.few; rw [h2, List.length_map] at this; exact this
  have q1 := el_map (K := K) (σ := start N_Program_init [.ref x, .str k.s, .ref l, .int n, .ref wl]) (H := H) (te := tFld K (tVar 7) "nodes") (j := 7) (vs := [7]) (zs := zs) (toV := fun z => V.ref z.1) (fun z => V.int z.2.nodes) (ev_var (i := 2) rfl) (sq_of h1) (by omega) (fun _ => rfl)
    (fun z H3 e3 hz => ev_nodes T (ev_var rfl) ((h3 z hz).ext e3))
  have eL : zs.map (fun z => V.int z.2.nodes) = (ps.map Prog.nodes).map V.int := by
    rw [h2, List.map_map, List.map_map]
    rfl
  rw [eL] at q1
  refine q_asg (ev_op ev_c (ev_sum q1) rv_I0) fun H1 e1 => ?_
  have q2 := el_map (K := K) (σ := [some (.ref x), some (.str k.s), some (.ref l), some (.int n), some (.ref wl), some (.int (1 + (ps.map Prog.nodes).sum)), none, none]) (H := H1) (te := tFld K (tVar 7) "depth") (j := 7) (vs := [7]) (zs := zs) (toV := fun z => V.ref z.1) (fun z => V.int z.2.depth) (ev_var (i := 2) rfl) (sq_of (e1 _ _ h1)) (by omega) (fun _ => rfl)
    (fun z H3 e3 hz => ev_depth T (ev_var rfl) ((h3 z hz).ext (e1.trans e3)))
  have eL2 : zs.map (fun z => V.int z.2.depth) = (ps.map Prog.depth).map V.int := by
    rw [h2, List.map_map, List.map_map]
    rfl
  rw [eL2] at q2
  have q3 : EvL (tOp rCat (tLst (tCons (tC (.int 0)) tNil)) (tLc (iList K (tVar 2)) (gName 7) tYes (tFld K (tVar 7) "depth") [7])) [some (.ref x), some (.str k.s), some (.ref l), some (.int n), some (.ref wl), some (.int (1 + (ps.map Prog.nodes).sum)), none, none] H1 ((0 :: ps.map Prog.depth).map V.int) :=
    el_cat (el1 (ev_c (v := .int 0))) q2 (by
      rw [List.length_map, List.length_map, h2, List.length_map]
      show 1 + zs.length ≤ 100000
      omega)
  refine q_asg (ev_op ev_c (ev_max q3 (by simp)) rv_I0) fun H2 e2 => ?_
  have eN : nodesOf ps = 1 + (ps.map Prog.nodes).sum := rfl
  have eD : depthOf ps = 1 + maxL (0 :: ps.map Prog.depth) := rfl
  rw [← eN, ← eD]
  refine q_no (et_is (et_cmp (ev_var rfl) ev_c) (decide_eq_false (by have := mk.ln; omega))) fun H3 e3 => ?_
  refine q_no (et_is (et_cmp (ev_var rfl) ev_c) (decide_eq_false (by have := mk.ld; omega))) fun H4 e4 => ?_
  have e5 : Ex H H4 := ((e1.trans e2).trans e3).trans e4
  have hx4 := e5 _ _ hx
  refine ⟨_, rfl, _, rfl, x, _, dx, _, rfl, hx4, T.cls_Program, T.n_Program_kind, (by show (0 : Nat) < 1000; decide), ?_⟩
  refine ⟨_, rfl, _, rfl, x, _, dx, _, rfl, upd_same, T.cls_Program, T.n_Program_parts, (by show (1 : Nat) < 1000; decide), ?_⟩
  refine ⟨_, rfl, _, rfl, x, _, dx, _, rfl, upd_same, T.cls_Program, T.n_Program_number, (by show (2 : Nat) < 1000; decide), ?_⟩
  refine ⟨_, rfl, _, rfl, x, _, dx, _, rfl, upd_same, T.cls_Program, T.n_Program_words, (by show (3 : Nat) < 1000; decide), ?_⟩
  refine ⟨_, rfl, _, rfl, x, _, dx, _, rfl, upd_same, T.cls_Program, T.n_Program_nodes, (by show (4 : Nat) < 1000; decide), ?_⟩
  refine ⟨_, rfl, _, rfl, x, _, dx, _, rfl, upd_same, T.cls_Program, T.n_Program_depth, (by show (5 : Nat) < 1000; decide), ?_⟩
  rw [upd_upd, upd_upd, upd_upd, upd_upd, upd_upd]
  rw [show putF "depth" (.int (depthOf ps)) (putF "nodes" (.int (nodesOf ps)) (putF "words" (.ref wl) (putF "number" (.int n) (putF "parts" (.ref l) (putF "kind" (.str k.s) []))))) = ([("kind", .str k.s), ("parts", .ref l), ("number", .int n), ("words", .ref wl), ("nodes", .int (nodesOf ps)), ("depth", .int (depthOf ps))] : List (Str × V)) from rfl]
  have b6 : But x H (upd H4 x (.ins (PC K) dx [("kind", .str k.s), ("parts", .ref l), ("number", .int n), ("words", .ref wl), ("nodes", .int (nodesOf ps)), ("depth", .int (depthOf ps))])) := (But.of e5).trans But.upd
  have kk := keep_but (C := PC K) hx (notPure_short (by decide)) b6
  refine ⟨_, rfl, _, rfl, _, rfl, _, rfl, k, l, ps, n, wl, ws, rfl, hl.keep kk, kk _ _ (.txts _) hwl, mk.sh, mk.wf, fun t H7 ht e7 h7 => ?_⟩
  refine ⟨t, _, rfl, st_of h7, rfl, _, _, rfl, _, rfl, x, _, dx, _, rfl, e7 _ _ upd_same, T.cls_Program, T.n_Program_span, (by show (6 : Nat) < 1000; decide), _, _, rfl, _, rfl, x, _, dx, _, rfl, upd_same, T.cls_Program, T.n_Program_broken, (by show (7 : Nat) < 1000; decide), rfl, ?_⟩
  rw [upd_upd]
  exact q _ ((b6.trans (But.of e7)).trans But.upd) upd_same
/-- a new program -/
theorem make_ok {C : Addr} {H : Hp} {k : Kind} {l wl : Addr} {ps : List Prog} {n : Int} {ws : List Str} {Q : VK} {E : XK} (hl : PL C H l ps) (hwl : H wl = some (.lst (ws.map V.str))) (mk : MkOk k ps n ws) (q : RetP C (mkP k ps n ws) H Q) :
    ∀ x dx, H x = none → H dx = none → dx ≠ x → spInit C [.ref x, .str k.s, .ref l, .int n, .ref wl] (upd (upd H dx (.own x)) x (.ins C dx [])) (fun v H2 => v = .non ∧ Q (.ref x) H2) E := fun x dx nx ndx ne => by
  have e1 : Ex H (upd (upd H dx (.own x)) x (.ins C dx [])) := (Ex.new ndx).trans (Ex.new (by rw [upd_ne (Ne.symm ne)]; exact nx))
  refine ⟨x, dx, k, l, ps, n, wl, ws, rfl, upd_same, hl.ext e1, e1 _ _ hwl, mk, fun H' b hx => ⟨rfl, ?_⟩⟩
  have e2 : Ex H H' := fun c o h => b c o (ne_of_none h nx) (e1 c o h)
  refine q H' x e2 ?_
  obtain ⟨as, h1, h2, h3⟩ := hl.ext e2
  exact .mk hx h1 (e2 _ _ hwl) h2 h3
/-! ### methods that only tell -/
def spTL (C : Addr) : Sp := fun vs H Q _ => ∃ a p, vs = [.ref a] ∧ IsP C H a p ∧ RetV (.int p.span) H Q
abbrev N_Program_total_length : List Str := ["self"]
theorem sc_Program_total_length : FnScope N_Program_total_length ["self"] (defScope s_Program_total_length) := ⟨rfl, rfl, rfl, by decide +kernel, rfl, by decide +kernel, by decide +kernel⟩

theorem r_Program_total_length (T : Txt K mg) : FnR P w K mg base (L2.CX P w) 1 (He.ma K (He.ga K "Program") "total_length") (spTL (PC K)) := by
  refine fn_mk T.f_Program_total_length sc_Program_total_length (fun _ _ _ _ _ _ us hl => match us, hl with | [_], _ => rfl) (fun vs H Q E h => ?_) (fun cdv A outer s H vs Q E hr h => ?_)
  · obtain ⟨a, p, rfl, _⟩ := h
    rfl
  obtain ⟨a, p, rfl, hp, q⟩ := h
  refine ⟨_, PSs.nox ((pss_one (ps_ret (pe_fld (pv 0) rfl)))), ?_⟩
  exact s_ret (ev_span T (ev_var rfl) hp) q
def spFN (C : Addr) : Sp := fun vs H Q _ => ∃ a p, vs = [.ref a] ∧ IsP C H a p ∧ RetV (brV p.broken) H Q
abbrev N_Program_failure_name : List Str := ["self"]
theorem sc_Program_failure_name : FnScope N_Program_failure_name ["self"] (defScope s_Program_failure_name) := ⟨rfl, rfl, rfl, by decide +kernel, rfl, by decide +kernel, by decide +kernel⟩

theorem r_Program_failure_name (T : Txt K mg) : FnR P w K mg base (L2.CX P w) 1 (He.ma K (He.ga K "Program") "failure_name") (spFN (PC K)) := by
  refine fn_mk T.f_Program_failure_name sc_Program_failure_name (fun _ _ _ _ _ _ us hl => match us, hl with | [_], _ => rfl) (fun vs H Q E h => ?_) (fun cdv A outer s H vs Q E hr h => ?_)
  · obtain ⟨a, p, rfl, _⟩ := h
    rfl
  obtain ⟨a, p, rfl, hp, q⟩ := h
  refine ⟨_, PSs.nox ((pss_one (ps_ret (pe_fld (pv 0) rfl)))), ?_⟩
  exact s_ret (ev_broken T (ev_var rfl) hp) q
def spNC (C : Addr) : Sp := fun vs H Q _ => ∃ a p, vs = [.ref a] ∧ IsP C H a p ∧ RetV (.int p.nodes) H Q
/-! ### flat, the operators -/
def flatP (p : Prog) : List Prog := if p.kind = .seq then p.parts else [p]
def addP (p q : Prog) : Prog := mkP .seq (flatP p ++ flatP q) 0 []
def mulP (p : Prog) (n : Int) : Prog := mkP .loop [p] n []
def spFlat (C : Addr) : Sp := fun vs H Q _ => ∃ a p, vs = [.ref a] ∧ IsP C H a p ∧ ∀ H' l, Ex H H' → PL C H' l (flatP p) → Q (.ref l) H'
theorem PL.nil {C : Addr} {H : Hp} {l : Addr} (h : H l = some (.lst [])) : PL C H l [] := ⟨[], h, rfl, fun i x q hx => by simp at hx⟩
theorem PL.one {C : Addr} {H : Hp} {l a : Addr} {p : Prog} (h : H l = some (.lst [.ref a])) (hp : IsP C H a p) : PL C H l [p] := PL.of (zs := [(a, p)]) h fun z hz => by
  rw [List.mem_singleton.mp hz]
  exact hp
theorem PL.two {C : Addr} {H : Hp} {l a b : Addr} {p q : Prog} (h : H l = some (.lst [.ref a, .ref b])) (hp : IsP C H a p) (hq : IsP C H b q) : PL C H l [p, q] := PL.of (zs := [(a, p), (b, q)]) h fun z hz => by
  rcases List.mem_cons.mp hz with e | e
  · rw [e]
    exact hp
  · rw [List.mem_singleton.mp e]
    exact hq
theorem PL.cat {C : Addr} {H H' : Hp} {l1 l2 l : Addr} {xs ys : List V} {ps qs : List Prog} (h1 : PL C H l1 ps) (h2 : PL C H l2 qs) (e1 : H l1 = some (.lst xs)) (e2 : H l2 = some (.lst ys)) (e : Ex H H') (h : H' l = some (.lst (xs ++ ys))) : PL C H' l (ps ++ qs) := by
  obtain ⟨zs, a1, a2, a3⟩ := h1.zs
  obtain ⟨ws, b1, b2, b3⟩ := h2.zs
  rw [e1] at a1
  rw [e2] at b1
  cases a1
  cases b1
  rw [a2, b2, ← List.map_append]
  refine PL.of (by rw [h, List.map_append]) fun z hz => ?_
  rcases List.mem_append.mp hz with q | q
  · exact (a3 z q).ext e
  · exact (b3 z q).ext e
abbrev N_flat : List Str := ["program"]
theorem sc_flat : FnScope N_flat ["program"] (defScope s_flat) := ⟨rfl, rfl, rfl, by decide +kernel, rfl, by decide +kernel, by decide +kernel⟩

theorem r_flat (T : Txt K mg) : FnR P w K mg base (L2.CX P w) 1 (He.ga K "flat") (spFlat (PC K)) := by
  refine fn_mk T.f_flat sc_flat (fun _ _ _ _ _ _ us hl => match us, hl with | [_], _ => rfl) (fun vs H Q E h => ?_) (fun cdv A outer s H vs Q E hr h => ?_)
  · obtain ⟨a, p, rfl, _⟩ := h
    rfl
  obtain ⟨a, p, rfl, hp, q⟩ := h
  refine ⟨_, PSs.nox ((pss_one (ps_ret (pe_ifExp (pt_cmpR op_eq (pe_fld (pv 0) rfl) pe_str (nomark _)) (pe_fld (pv 0) rfl) (pe_lst (pa_cons (pv 0) pa_nil)))))), ?_⟩
  show tIf _ _ _ _ H Q
  refine et_kind T .seq (ta := tVar 0) (ev_var rfl) hp H (Ex.refl H) _ fun H1 e1 => ?_
  by_cases hk : p.kind = .seq
  · rw [decide_eq_true hk, if_pos rfl]
    obtain ⟨l, hl, el⟩ := ev_parts T (ta := tVar 0) (σ := start N_flat [.ref a]) (ev_var rfl) (hp.ext e1)
    refine el H1 (Ex.refl H1) _ fun H2 e2 => q H2 l (e1.trans e2) ?_
    unfold flatP
    rw [if_pos hk]
    exact hl.ext e2
  · rw [decide_eq_false hk, if_neg Bool.false_ne_true]
    refine ⟨_, rfl, by show 1 ≤ sizeLine; decide, fun l hl => q _ l (e1.trans (Ex.new hl)) ?_⟩
    unfold flatP
    rw [if_neg hk]
    exact PL.one upd_same (hp.ext (e1.trans (Ex.new hl)))
def spAdd (C : Addr) : Sp := fun vs H Q _ => ∃ a b p q, vs = [.ref a, .ref b] ∧ IsP C H a p ∧ IsP C H b q ∧ MkOk .seq (flatP p ++ flatP q) 0 [] ∧ RetP C (addP p q) H Q
abbrev N_Program_add : List Str := ["self", "other"]
theorem sc_Program_add : FnScope N_Program_add ["self", "other"] (defScope s_Program_add) := ⟨rfl, rfl, rfl, by decide +kernel, rfl, by decide +kernel, by decide +kernel⟩

theorem r_Program_add (T : Txt K mg) : FnR P w K mg base (L2.CX P w) 128 (He.ma K (He.ga K "Program") "__add__") (spAdd (PC K)) := by
  have G_flat : FnR P w K mg base (L2.CX P w) 1 (He.ga K "flat") (spFlat (PC K)) := r_flat T
  have G_Program_init : FnR P w K mg base (L2.CX P w) 126 (He.ma K (He.ga K "Program") "__init__") (spInit (PC K)) := r_Program_init T
  refine fn_mk T.f_Program_add sc_Program_add (fun _ _ _ _ _ _ us hl => match us, hl with | [_, _], _ => rfl) (fun vs H Q E h => ?_) (fun cdv A outer s H vs Q E hr h => ?_)
  · obtain ⟨a, b, p, q, rfl, _⟩ := h
    rfl
  obtain ⟨a, b, p, q, rfl, hp, hq, mk, k⟩ := h
  refine ⟨_, PSs.nox ((pss_cons (ps_if (pt_not (pt_val (pe_callB call_isi (by rfl) T.b_isinstance (by decide +kernel) (pa_cons (pv 1) (pa_cons (pe_glob (v := .ref (He.ga K "Program")) rfl T.g_Program rfl) pa_nil))))) (pss_one (ps_never)) pss_nil)
    (pss_one (ps_ret (StX.pe_makeR T.mk_Program G_Program_init (hr.mono (by omega)) rfl T.g_Program passL (pa_cons pe_str (pa_cons (pe_op op_cat (pe_callR G_flat (hr.mono (by omega)) rfl T.g_flat (kp_of T.f_flat) passL (pa_cons (pv 0) pa_nil)) (pe_callR G_flat (hr.mono (by omega)) rfl T.g_flat (kp_of T.f_flat) passL (pa_cons (pv 1) pa_nil))) (pa_cons pe_int (pa_cons (pe_lst pa_nil) pa_nil))))))))), ?_⟩
  refine q_no (et_not (et_B (ev_isi (ev_var rfl) ev_c (.own _) (fun H1 e => .base (tyOf_ext e (tyP T hq))) T.kit_Program))) fun H1 e1 => ?_
  refine ⟨_, rfl, a, p, rfl, hp.ext e1, fun H2 l1 e2 hl1 => ?_⟩
  refine ⟨_, rfl, b, q, rfl, hq.ext (e1.trans e2), fun H3 l2 e3 hl2 => ?_⟩
  obtain ⟨as, a1, a2, _⟩ := (hl1.ext e3)
  obtain ⟨bs, b1, b2, _⟩ := id hl2
  have few := mk.few
  rw [List.length_append] at few
  refine ⟨l1, l2, _, _, rfl, rfl, a1, b1, sz_of (by rw [List.length_map, List.length_map]; omega), fun l hl => ?_⟩
  have e4 := Ex.new (o := .lst (as.map V.ref ++ bs.map V.ref)) hl
  have hL := PL.cat (hl1.ext e3) hl2 a1 b1 e4 upd_same
  refine ⟨by show 0 ≤ sizeLine; decide, fun wl hwl => ?_⟩
  have e5 := Ex.new (o := .lst []) hwl
  exact make_ok (hL.ext e5) (ws := []) upd_same mk (k.ext ((((e1.trans e2).trans e3).trans e4).trans e5))
def spMul (C : Addr) : Sp := fun vs H Q _ => ∃ a p n, vs = [.ref a, .int n] ∧ IsP C H a p ∧ MkOk .loop [p] n [] ∧ RetP C (mulP p n) H Q
abbrev N_Program_mul : List Str := ["self", "count"]
theorem sc_Program_mul : FnScope N_Program_mul ["self", "count"] (defScope s_Program_mul) := ⟨rfl, rfl, rfl, by decide +kernel, rfl, by decide +kernel, by decide +kernel⟩

theorem r_Program_mul (T : Txt K mg) : FnR P w K mg base (L2.CX P w) 128 (He.ma K (He.ga K "Program") "__mul__") (spMul (PC K)) := by
  have G_is_between : FnR P w K mg base (L2.CX P w) 2 (He.ga K "is_between") spBtw := r_is_between T
  have G_Program_init : FnR P w K mg base (L2.CX P w) 126 (He.ma K (He.ga K "Program") "__init__") (spInit (PC K)) := r_Program_init T
  refine fn_mk T.f_Program_mul sc_Program_mul (fun _ _ _ _ _ _ us hl => match us, hl with | [_, _], _ => rfl) (fun vs H Q E h => ?_) (fun cdv A outer s H vs Q E hr h => ?_)
  · obtain ⟨a, p, n, rfl, _⟩ := h
    rfl
  obtain ⟨a, p, n, rfl, hp, mk, k⟩ := h
  refine ⟨_, PSs.nox ((pss_cons (ps_if (pt_not (pt_val (pe_callR G_is_between (hr.mono (by omega)) rfl T.g_is_between (kp_of T.f_is_between) passL (pa_cons (pv 1) (pa_cons pe_int (pa_cons (pe_gi rfl T.i_MOST_COUNT) pa_nil)))))) (pss_one (ps_never)) pss_nil)
    (pss_one (ps_ret (StX.pe_makeR T.mk_Program G_Program_init (hr.mono (by omega)) rfl T.g_Program passL (pa_cons pe_str (pa_cons (pe_lst (pa_cons (pv 0) pa_nil)) (pa_cons (pv 1) (pa_cons (pe_lst pa_nil) pa_nil))))))))), ?_⟩
  obtain ⟨_, n0, n1, _⟩ := mk.sh
  refine q_no (et_is (et_not (et_B (ev_callR (ea_cons (ev_var rfl) (ea_cons ev_c (ea_cons ev_c ea_nil))) v_btw))) ?_) fun H1 e1 => ?_
  · have e : (1000000000000000000000000000000 : Int) = mostT := rfl
    rw [e, decide_eq_true n0, decide_eq_true n1]
    rfl
  refine ⟨_, rfl, by show 1 ≤ sizeLine; decide, fun l hl => ?_⟩
  have e2 := Ex.new (o := .lst [.ref a]) hl
  refine ⟨_, rfl, by show 0 ≤ sizeLine; decide, fun wl hwl => ?_⟩
  have e3 := Ex.new (o := .lst []) hwl
  exact make_ok ((PL.one upd_same (hp.ext (e1.trans e2))).ext e3) (ws := []) upd_same mk (k.ext ((e1.trans e2).trans e3))
def spOr (C : Addr) : Sp := fun vs H Q _ => ∃ a b p q, vs = [.ref a, .ref b] ∧ IsP C H a p ∧ IsP C H b q ∧ MkOk .together [p, q] 0 [] ∧ RetP C (mkP .together [p, q] 0 []) H Q
abbrev N_Program_or : List Str := ["self", "other"]
theorem sc_Program_or : FnScope N_Program_or ["self", "other"] (defScope s_Program_or) := ⟨rfl, rfl, rfl, by decide +kernel, rfl, by decide +kernel, by decide +kernel⟩

theorem r_Program_or (T : Txt K mg) : FnR P w K mg base (L2.CX P w) 128 (He.ma K (He.ga K "Program") "__or__") (spOr (PC K)) := by
  have G_Program_init : FnR P w K mg base (L2.CX P w) 126 (He.ma K (He.ga K "Program") "__init__") (spInit (PC K)) := r_Program_init T
  refine fn_mk T.f_Program_or sc_Program_or (fun _ _ _ _ _ _ us hl => match us, hl with | [_, _], _ => rfl) (fun vs H Q E h => ?_) (fun cdv A outer s H vs Q E hr h => ?_)
  · obtain ⟨a, b, p, q, rfl, _⟩ := h
    rfl
  obtain ⟨a, b, p, q, rfl, hp, hq, mk, k⟩ := h
  refine ⟨_, PSs.nox ((pss_cons (ps_if (pt_not (pt_val (pe_callB call_isi (by rfl) T.b_isinstance (by decide +kernel) (pa_cons (pv 1) (pa_cons (pe_glob (v := .ref (He.ga K "Program")) rfl T.g_Program rfl) pa_nil))))) (pss_one (ps_never)) pss_nil)
    (pss_one (ps_ret (StX.pe_makeR T.mk_Program G_Program_init (hr.mono (by omega)) rfl T.g_Program passL (pa_cons pe_str (pa_cons (pe_lst (pa_cons (pv 0) (pa_cons (pv 1) pa_nil))) (pa_cons pe_int (pa_cons (pe_lst pa_nil) pa_nil))))))))), ?_⟩
  refine q_no (et_not (et_B (ev_isi (ev_var rfl) ev_c (.own _) (fun H1 e => .base (tyOf_ext e (tyP T hq))) T.kit_Program))) fun H1 e1 => ?_
  refine ⟨_, rfl, _, rfl, by show 2 ≤ sizeLine; decide, fun l hl => ?_⟩
  have e2 := Ex.new (o := .lst [.ref a, .ref b]) hl
  refine ⟨by show 0 ≤ sizeLine; decide, fun wl hwl => ?_⟩
  have e3 := Ex.new (o := .lst []) hwl
  exact make_ok ((PL.two upd_same (hp.ext (e1.trans e2)) (hq.ext (e1.trans e2))).ext e3) (ws := []) upd_same mk (k.ext ((e1.trans e2).trans e3))
def spCallP (C : Addr) : Sp := fun vs H Q _ => ∃ a p c, vs = [.ref a, .int c] ∧ IsP C H a p ∧ WF p ∧ 0 ≤ c ∧ RetV (.int (endA p c)) H Q
abbrev N_Program_call : List Str := ["self", "cut"]
theorem sc_Program_call : FnScope N_Program_call ["self", "cut"] (defScope s_Program_call) := ⟨rfl, rfl, rfl, by decide +kernel, rfl, by decide +kernel, by decide +kernel⟩

theorem r_Program_call (T : Txt K mg) : FnR P w K mg base (L2.CX P w) 124 (He.ma K (He.ga K "Program") "__call__") (spCallP (PC K)) := by
  have G_is_integer : FnR P w K mg base (L2.CX P w) 1 (He.ga K "is_integer") (spIsInt K) := r_is_integer T
  have G_end_after : FnR P w K mg base (L2.CX P w) 123 (He.ga K "end_after") (spEnd (PC K) 60) := end_all T 60
  refine fn_mk T.f_Program_call sc_Program_call (fun _ _ _ _ _ _ us hl => match us, hl with | [_, _], _ => rfl) (fun vs H Q E h => ?_) (fun cdv A outer s H vs Q E hr h => ?_)
  · obtain ⟨a, p, c, rfl, _⟩ := h
    rfl
  obtain ⟨a, p, c, rfl, hp, hw, hc, q⟩ := h
  refine ⟨_, PSs.nox ((pss_cons (ps_if (PW.pt (pw_or (pt_not (pt_val (pe_callR G_is_integer (hr.mono (by omega)) rfl T.g_is_integer (kp_of T.f_is_integer) passL (pa_cons (pv 1) pa_nil)))) (pw_or1 (pt_cmpR op_lt (pv 1) pe_int (nomark _))))) (pss_one (ps_never)) pss_nil)
    (pss_one (ps_ret (pe_callR G_end_after (hr.mono (by omega)) rfl T.g_end_after (kp_of T.f_end_after) passL (pa_cons (pv 0) (pa_cons (pv 1) pa_nil))))))), ?_⟩
  refine q_no (et_is (et_or (et_not (et_B (ev_callR (ea_cons (ev_var rfl) ea_nil) v_isInt))) (fun _ => et_cmp (ev_var rfl) ev_c)) ?_) fun H1 e1 => ?_
  · rw [decide_eq_false (show ¬ c < 0 by omega)]
    rfl
  refine s_ret (ev_callR (ea_cons (ev_var rfl) (ea_cons (ev_var rfl) ea_nil)) (v_end (hp.ext e1) hw hw.depth_le hc)) fun H2 e2 => q H2 (e1.trans e2)
/-! ### the constructors -/
def spSleep (C : Addr) : Sp := fun vs H Q _ => ∃ n, vs = [.int n] ∧ 0 ≤ n ∧ n ≤ mostT ∧ RetP C (mkP .sleep [] n []) H Q
theorem mk0 {k : Kind} {n : Int} {ws : List Str} (sh : Shape k [] n ws) : MkOk k [] n ws := ⟨(fun _ h => nomatch h), sh, by decide, by decide⟩
abbrev N_sleep : List Str := ["time"]
theorem sc_sleep : FnScope N_sleep ["time"] (defScope s_sleep) := ⟨rfl, rfl, rfl, by decide +kernel, rfl, by decide +kernel, by decide +kernel⟩

theorem r_sleep (T : Txt K mg) : FnR P w K mg base (L2.CX P w) 128 (He.ga K "sleep") (spSleep (PC K)) := by
  have G_check_time : FnR P w K mg base (L2.CX P w) 3 (He.ga K "check_time") spChkT := r_check_time T
  have G_Program_init : FnR P w K mg base (L2.CX P w) 126 (He.ma K (He.ga K "Program") "__init__") (spInit (PC K)) := r_Program_init T
  refine fn_mk T.f_sleep sc_sleep (fun _ _ _ _ _ _ us hl => match us, hl with | [_], _ => rfl) (fun vs H Q E h => ?_) (fun cdv A outer s H vs Q E hr h => ?_)
  · obtain ⟨n, rfl, _⟩ := h
    rfl
  obtain ⟨n, rfl, n0, n1, k⟩ := h
  refine ⟨_, PSs.nox ((pss_cons (ps_expr (pe_callR G_check_time (hr.mono (by omega)) rfl T.g_check_time (kp_of T.f_check_time) passL (pa_cons (pv 0) pa_nil)))
    (pss_one (ps_ret (StX.pe_makeR T.mk_Program G_Program_init (hr.mono (by omega)) rfl T.g_Program passL (pa_cons pe_str (pa_cons (pe_lst pa_nil) (pa_cons (pv 0) (pa_cons (pe_lst pa_nil) pa_nil))))))))), ?_⟩
  refine q_drop (ev_callR (ea_cons (ev_var rfl) ea_nil) (v_chkT n0 n1)) fun H1 e1 => ?_
  refine ⟨by show 0 ≤ sizeLine; decide, fun l hl => ?_⟩
  have e2 := Ex.new (o := .lst []) hl
  refine ⟨_, rfl, by show 0 ≤ sizeLine; decide, fun wl hwl => ?_⟩
  have e3 := Ex.new (o := .lst []) hwl
  exact make_ok ((PL.nil upd_same).ext e3) (ws := []) upd_same (mk0 (k := .sleep) ⟨rfl, n0, n1, rfl⟩) (k.ext ((e1.trans e2).trans e3))
def spFail (C : Addr) : Sp := fun vs H Q _ => ∃ z, vs = [.str z] ∧ IsName z ∧ RetP C (mkP .fail [] 0 [z]) H Q
abbrev N_fail : List Str := ["name"]
theorem sc_fail : FnScope N_fail ["name"] (defScope s_fail) := ⟨rfl, rfl, rfl, by decide +kernel, rfl, by decide +kernel, by decide +kernel⟩

theorem r_fail (T : Txt K mg) : FnR P w K mg base (L2.CX P w) 128 (He.ga K "fail") (spFail (PC K)) := by
  have G_check_name : FnR P w K mg base (L2.CX P w) 2 (He.ga K "check_name") spChkN := r_check_name T
  have G_Program_init : FnR P w K mg base (L2.CX P w) 126 (He.ma K (He.ga K "Program") "__init__") (spInit (PC K)) := r_Program_init T
  refine fn_mk T.f_fail sc_fail (fun _ _ _ _ _ _ us hl => match us, hl with | [_], _ => rfl) (fun vs H Q E h => ?_) (fun cdv A outer s H vs Q E hr h => ?_)
  · obtain ⟨z, rfl, _⟩ := h
    rfl
  obtain ⟨z, rfl, hz, k⟩ := h
  refine ⟨_, PSs.nox ((pss_cons (ps_expr (pe_callR G_check_name (hr.mono (by omega)) rfl T.g_check_name (kp_of T.f_check_name) passL (pa_cons (pv 0) pa_nil)))
    (pss_one (ps_ret (StX.pe_makeR T.mk_Program G_Program_init (hr.mono (by omega)) rfl T.g_Program passL (pa_cons pe_str (pa_cons (pe_lst pa_nil) (pa_cons pe_int (pa_cons (pe_lst (pa_cons (pv 0) pa_nil)) pa_nil))))))))), ?_⟩
  refine q_drop (ev_callR (ea_cons (ev_var rfl) ea_nil) (v_chkN hz)) fun H1 e1 => ?_
  refine ⟨by show 0 ≤ sizeLine; decide, fun l hl => ?_⟩
  have e2 := Ex.new (o := .lst []) hl
  refine ⟨_, rfl, by show 1 ≤ sizeLine; decide, fun wl hwl => ?_⟩
  have e3 := Ex.new (o := .lst [.str z]) hwl
  exact make_ok ((PL.nil upd_same).ext e3) (ws := [z]) upd_same (mk0 (k := .fail) ⟨rfl, rfl, z, rfl, hz⟩) (k.ext ((e1.trans e2).trans e3))
def spShield (C : Addr) : Sp := fun vs H Q _ => ∃ a p, vs = [.ref a] ∧ IsP C H a p ∧ MkOk .shield [p] 0 [] ∧ RetP C (mkP .shield [p] 0 []) H Q
abbrev N_shield : List Str := ["program"]
theorem sc_shield : FnScope N_shield ["program"] (defScope s_shield) := ⟨rfl, rfl, rfl, by decide +kernel, rfl, by decide +kernel, by decide +kernel⟩

theorem r_shield (T : Txt K mg) : FnR P w K mg base (L2.CX P w) 128 (He.ga K "shield") (spShield (PC K)) := by
  have G_check_program : FnR P w K mg base (L2.CX P w) 1 (He.ga K "check_program") (spChkP (PC K)) := r_check_program T
  have G_Program_init : FnR P w K mg base (L2.CX P w) 126 (He.ma K (He.ga K "Program") "__init__") (spInit (PC K)) := r_Program_init T
  refine fn_mk T.f_shield sc_shield (fun _ _ _ _ _ _ us hl => match us, hl with | [_], _ => rfl) (fun vs H Q E h => ?_) (fun cdv A outer s H vs Q E hr h => ?_)
  · obtain ⟨a, p, rfl, _⟩ := h
    rfl
  obtain ⟨a, p, rfl, hp, mk, k⟩ := h
  refine ⟨_, PSs.nox ((pss_cons (ps_expr (pe_callR G_check_program (hr.mono (by omega)) rfl T.g_check_program (kp_of T.f_check_program) passL (pa_cons pe_str (pa_cons (pv 0) pa_nil))))
    (pss_one (ps_ret (StX.pe_makeR T.mk_Program G_Program_init (hr.mono (by omega)) rfl T.g_Program passL (pa_cons pe_str (pa_cons (pe_lst (pa_cons (pv 0) pa_nil)) (pa_cons pe_int (pa_cons (pe_lst pa_nil) pa_nil))))))))), ?_⟩
  refine q_drop (ev_callR (ea_cons ev_c (ea_cons (ev_var rfl) ea_nil)) (v_chkP hp)) fun H1 e1 => ?_
  refine ⟨_, rfl, by show 1 ≤ sizeLine; decide, fun l hl => ?_⟩
  have e2 := Ex.new (o := .lst [.ref a]) hl
  refine ⟨by show 0 ≤ sizeLine; decide, fun wl hwl => ?_⟩
  have e3 := Ex.new (o := .lst []) hwl
  exact make_ok ((PL.one upd_same (hp.ext (e1.trans e2))).ext e3) (ws := []) upd_same mk (k.ext ((e1.trans e2).trans e3))
def spCleanup (C : Addr) : Sp := fun vs H Q _ => ∃ a b p q, vs = [.ref a, .ref b] ∧ IsP C H a p ∧ IsP C H b q ∧ MkOk .cleanup [p, q] 0 [] ∧ RetP C (mkP .cleanup [p, q] 0 []) H Q
abbrev N_cleanup : List Str := ["program", "last"]
theorem sc_cleanup : FnScope N_cleanup ["program", "last"] (defScope s_cleanup) := ⟨rfl, rfl, rfl, by decide +kernel, rfl, by decide +kernel, by decide +kernel⟩

theorem r_cleanup (T : Txt K mg) : FnR P w K mg base (L2.CX P w) 128 (He.ga K "cleanup") (spCleanup (PC K)) := by
  have G_check_program : FnR P w K mg base (L2.CX P w) 1 (He.ga K "check_program") (spChkP (PC K)) := r_check_program T
  have G_Program_init : FnR P w K mg base (L2.CX P w) 126 (He.ma K (He.ga K "Program") "__init__") (spInit (PC K)) := r_Program_init T
  refine fn_mk T.f_cleanup sc_cleanup (fun _ _ _ _ _ _ us hl => match us, hl with | [_, _], _ => rfl) (fun vs H Q E h => ?_) (fun cdv A outer s H vs Q E hr h => ?_)
  · obtain ⟨a, b, p, q, rfl, _⟩ := h
    rfl
  obtain ⟨a, b, p, q, rfl, hp, hq, mk, k⟩ := h
  refine ⟨_, PSs.nox ((pss_cons (ps_expr (pe_callR G_check_program (hr.mono (by omega)) rfl T.g_check_program (kp_of T.f_check_program) passL (pa_cons pe_str (pa_cons (pv 0) pa_nil))))
    (pss_cons (ps_expr (pe_callR G_check_program (hr.mono (by omega)) rfl T.g_check_program (kp_of T.f_check_program) passL (pa_cons pe_str (pa_cons (pv 1) pa_nil))))
    (pss_one (ps_ret (StX.pe_makeR T.mk_Program G_Program_init (hr.mono (by omega)) rfl T.g_Program passL (pa_cons pe_str (pa_cons (pe_lst (pa_cons (pv 0) (pa_cons (pv 1) pa_nil))) (pa_cons pe_int (pa_cons (pe_lst pa_nil) pa_nil)))))))))), ?_⟩
  refine q_drop (ev_callR (ea_cons ev_c (ea_cons (ev_var rfl) ea_nil)) (v_chkP hp)) fun H1 e1 => ?_
  refine q_drop (ev_callR (ea_cons ev_c (ea_cons (ev_var rfl) ea_nil)) (v_chkP (hq.ext e1))) fun H2 e2 => ?_
  have x2 := e1.trans e2
  refine ⟨_, rfl, _, rfl, by show 2 ≤ sizeLine; decide, fun l hl => ?_⟩
  have e3 := Ex.new (o := .lst [.ref a, .ref b]) hl
  refine ⟨by show 0 ≤ sizeLine; decide, fun wl hwl => ?_⟩
  have e4 := Ex.new (o := .lst []) hwl
  exact make_ok ((PL.two upd_same (hp.ext (x2.trans e3)) (hq.ext (x2.trans e3))).ext e4) (ws := []) upd_same mk (k.ext ((x2.trans e3).trans e4))
def spFallback (C : Addr) : Sp := fun vs H Q _ => ∃ (a b l : Addr) (p q : Prog) (ws : List Str), vs = [.ref a, .ref l, .ref b] ∧ IsP C H a p ∧ IsP C H b q ∧ H l = some (.lst (ws.map V.str)) ∧ 1 ≤ ws.length ∧ ws.length ≤ 20 ∧ (∀ z ∈ ws, IsName z) ∧ ws.Nodup ∧ MkOk .fallback [p, q] 0 ws ∧ RetP C (mkP .fallback [p, q] 0 ws) H Q
abbrev N_fallback : List Str := ["program", "names", "other"]
theorem sc_fallback : FnScope N_fallback ["program", "names", "other"] (defScope s_fallback) := ⟨rfl, rfl, rfl, by decide +kernel, rfl, by decide +kernel, by decide +kernel⟩

theorem r_fallback (T : Txt K mg) : FnR P w K mg base (L2.CX P w) 128 (He.ga K "fallback") (spFallback (PC K)) := by
  have G_check_program : FnR P w K mg base (L2.CX P w) 1 (He.ga K "check_program") (spChkP (PC K)) := r_check_program T
  have G_check_names : FnR P w K mg base (L2.CX P w) 2 (He.ga K "check_names") spChkNs := r_check_names T
  have G_Program_init : FnR P w K mg base (L2.CX P w) 126 (He.ma K (He.ga K "Program") "__init__") (spInit (PC K)) := r_Program_init T
  refine fn_mk T.f_fallback sc_fallback (fun _ _ _ _ _ _ us hl => match us, hl with | [_, _, _], _ => rfl) (fun vs H Q E h => ?_) (fun cdv A outer s H vs Q E hr h => ?_)
  · obtain ⟨a, b, l, p, q, ws, rfl, _⟩ := h
    rfl
  obtain ⟨a, b, nl, p, q, ws, rfl, hp, hq, hn, n1, n2, n3, n4, mk, k⟩ := h
  refine ⟨_, PSs.nox ((pss_cons (ps_expr (pe_callR G_check_program (hr.mono (by omega)) rfl T.g_check_program (kp_of T.f_check_program) passL (pa_cons pe_str (pa_cons (pv 0) pa_nil))))
    (pss_cons (ps_expr (pe_callR G_check_names (hr.mono (by omega)) rfl T.g_check_names (kp_of T.f_check_names) passL (pa_cons (pv 1) pa_nil)))
    (pss_cons (ps_expr (pe_callR G_check_program (hr.mono (by omega)) rfl T.g_check_program (kp_of T.f_check_program) passL (pa_cons pe_str (pa_cons (pv 2) pa_nil))))
    (pss_one (ps_ret (StX.pe_makeR T.mk_Program G_Program_init (hr.mono (by omega)) rfl T.g_Program passL (pa_cons pe_str (pa_cons (pe_lst (pa_cons (pv 0) (pa_cons (pv 2) pa_nil))) (pa_cons pe_int (pa_cons (pe_callTy call_list_of (by rfl) T.b_list (by decide +kernel) (pa_cons (pv 1) pa_nil)) pa_nil))))))))))), ?_⟩
  refine q_drop (ev_callR (ea_cons ev_c (ea_cons (ev_var rfl) ea_nil)) (v_chkP hp)) fun H1 e1 => ?_
  refine q_drop (ev_callR (ea_cons (ev_var rfl) ea_nil) (v_chkNs (e1 _ _ hn) n1 n2 n3 n4)) fun H2 e2 => ?_
  refine q_drop (ev_callR (ea_cons ev_c (ea_cons (ev_var rfl) ea_nil)) (v_chkP (hq.ext (e1.trans e2)))) fun H3 e3 => ?_
  have x2 := (e1.trans e2).trans e3
  refine ⟨_, rfl, _, rfl, by show 2 ≤ sizeLine; decide, fun l hl => ?_⟩
  have e4 := Ex.new (o := .lst [.ref a, .ref b]) hl
  refine ⟨_, rfl, nl, _, rfl, .inl (sq_of ((x2.trans e4) _ _ hn)), fun wl hwl => ?_⟩
  have e5 := Ex.new (o := .lst (ws.map V.str)) hwl
  exact make_ok ((PL.two upd_same (hp.ext (x2.trans e4)) (hq.ext (x2.trans e4))).ext e5) (ws := ws) upd_same mk (k.ext ((x2.trans e4).trans e5))
def spTimeout (C : Addr) : Sp := fun vs H Q _ => ∃ n a p z, vs = [.int n, .ref a, .str z] ∧ IsP C H a p ∧ IsName z ∧ MkOk .timeout [p] n [z] ∧ RetP C (mkP .timeout [p] n [z]) H Q
abbrev N_timeout : List Str := ["time", "program", "name"]
theorem sc_timeout : FnScope N_timeout ["time", "program", "name"] (defScope s_timeout) := ⟨rfl, rfl, rfl, by decide +kernel, rfl, by decide +kernel, by decide +kernel⟩

theorem r_timeout (T : Txt K mg) : FnR P w K mg base (L2.CX P w) 128 (He.ga K "timeout") (spTimeout (PC K)) := by
  have G_check_time : FnR P w K mg base (L2.CX P w) 3 (He.ga K "check_time") spChkT := r_check_time T
  have G_check_name : FnR P w K mg base (L2.CX P w) 2 (He.ga K "check_name") spChkN := r_check_name T
  have G_check_program : FnR P w K mg base (L2.CX P w) 1 (He.ga K "check_program") (spChkP (PC K)) := r_check_program T
  have G_Program_init : FnR P w K mg base (L2.CX P w) 126 (He.ma K (He.ga K "Program") "__init__") (spInit (PC K)) := r_Program_init T
  refine fn_mk T.f_timeout sc_timeout (fun _ _ _ _ _ _ us hl => match us, hl with | [_, _, _], _ => rfl) (fun vs H Q E h => ?_) (fun cdv A outer s H vs Q E hr h => ?_)
  · obtain ⟨n, a, p, z, rfl, _⟩ := h
    rfl
  obtain ⟨n, a, p, z, rfl, hp, hz, mk, k⟩ := h
  refine ⟨_, PSs.nox ((pss_cons (ps_expr (pe_callR G_check_time (hr.mono (by omega)) rfl T.g_check_time (kp_of T.f_check_time) passL (pa_cons (pv 0) pa_nil)))
    (pss_cons (ps_expr (pe_callR G_check_program (hr.mono (by omega)) rfl T.g_check_program (kp_of T.f_check_program) passL (pa_cons pe_str (pa_cons (pv 1) pa_nil))))
    (pss_cons (ps_expr (pe_callR G_check_name (hr.mono (by omega)) rfl T.g_check_name (kp_of T.f_check_name) passL (pa_cons (pv 2) pa_nil)))
    (pss_one (ps_ret (StX.pe_makeR T.mk_Program G_Program_init (hr.mono (by omega)) rfl T.g_Program passL (pa_cons pe_str (pa_cons (pe_lst (pa_cons (pv 1) pa_nil)) (pa_cons (pv 0) (pa_cons (pe_lst (pa_cons (pv 2) pa_nil)) pa_nil))))))))))), ?_⟩
  obtain ⟨_, n0, n1, _⟩ := mk.sh
  refine q_drop (ev_callR (ea_cons (ev_var rfl) ea_nil) (v_chkT n0 n1)) fun H1 e1 => ?_
  refine q_drop (ev_callR (ea_cons ev_c (ea_cons (ev_var rfl) ea_nil)) (v_chkP (hp.ext e1))) fun H2 e2 => ?_
  refine q_drop (ev_callR (ea_cons (ev_var rfl) ea_nil) (v_chkN hz)) fun H3 e3 => ?_
  have x2 := (e1.trans e2).trans e3
  refine ⟨_, rfl, by show 1 ≤ sizeLine; decide, fun l hl => ?_⟩
  have e4 := Ex.new (o := .lst [.ref a]) hl
  refine ⟨_, rfl, _, rfl, by show 1 ≤ sizeLine; decide, fun wl hwl => ?_⟩
  have e5 := Ex.new (o := .lst [.str z]) hwl
  exact make_ok ((PL.one upd_same (hp.ext (x2.trans e4))).ext e5) (ws := [z]) upd_same mk (k.ext ((x2.trans e4).trans e5))
def spMoveon (C : Addr) : Sp := fun vs H Q _ => ∃ n a p, vs = [.int n, .ref a] ∧ IsP C H a p ∧ MkOk .moveon [p] n [] ∧ RetP C (mkP .moveon [p] n []) H Q
abbrev N_move_on : List Str := ["time", "program"]
theorem sc_move_on : FnScope N_move_on ["time", "program"] (defScope s_move_on) := ⟨rfl, rfl, rfl, by decide +kernel, rfl, by decide +kernel, by decide +kernel⟩

theorem r_move_on (T : Txt K mg) : FnR P w K mg base (L2.CX P w) 128 (He.ga K "move_on") (spMoveon (PC K)) := by
  have G_check_time : FnR P w K mg base (L2.CX P w) 3 (He.ga K "check_time") spChkT := r_check_time T
  have G_check_program : FnR P w K mg base (L2.CX P w) 1 (He.ga K "check_program") (spChkP (PC K)) := r_check_program T
  have G_Program_init : FnR P w K mg base (L2.CX P w) 126 (He.ma K (He.ga K "Program") "__init__") (spInit (PC K)) := r_Program_init T
  refine fn_mk T.f_move_on sc_move_on (fun _ _ _ _ _ _ us hl => match us, hl with | [_, _], _ => rfl) (fun vs H Q E h => ?_) (fun cdv A outer s H vs Q E hr h => ?_)
  · obtain ⟨n, a, p, rfl, _⟩ := h
    rfl
  obtain ⟨n, a, p, rfl, hp, mk, k⟩ := h
  refine ⟨_, PSs.nox ((pss_cons (ps_expr (pe_callR G_check_time (hr.mono (by omega)) rfl T.g_check_time (kp_of T.f_check_time) passL (pa_cons (pv 0) pa_nil)))
    (pss_cons (ps_expr (pe_callR G_check_program (hr.mono (by omega)) rfl T.g_check_program (kp_of T.f_check_program) passL (pa_cons pe_str (pa_cons (pv 1) pa_nil))))
    (pss_one (ps_ret (StX.pe_makeR T.mk_Program G_Program_init (hr.mono (by omega)) rfl T.g_Program passL (pa_cons pe_str (pa_cons (pe_lst (pa_cons (pv 1) pa_nil)) (pa_cons (pv 0) (pa_cons (pe_lst pa_nil) pa_nil)))))))))), ?_⟩
  obtain ⟨_, n0, n1, _⟩ := mk.sh
  refine q_drop (ev_callR (ea_cons (ev_var rfl) ea_nil) (v_chkT n0 n1)) fun H1 e1 => ?_
  refine q_drop (ev_callR (ea_cons ev_c (ea_cons (ev_var rfl) ea_nil)) (v_chkP (hp.ext e1))) fun H2 e2 => ?_
  have x2 := e1.trans e2
  refine ⟨_, rfl, by show 1 ≤ sizeLine; decide, fun l hl => ?_⟩
  have e4 := Ex.new (o := .lst [.ref a]) hl
  refine ⟨_, rfl, by show 0 ≤ sizeLine; decide, fun wl hwl => ?_⟩
  have e5 := Ex.new (o := .lst []) hwl
  exact make_ok ((PL.one upd_same (hp.ext (x2.trans e4))).ext e5) (ws := []) upd_same mk (k.ext ((x2.trans e4).trans e5))
def spTogether (C : Addr) : Sp := fun vs H Q _ => ∃ l ps, vs = [.ref l] ∧ PL C H l ps ∧ MkOk .together ps 0 [] ∧ RetP C (mkP .together ps 0 []) H Q
abbrev N_together : List Str := ["programs", "program"]
theorem sc_together : FnScope N_together ["programs"] (defScope s_together) := ⟨rfl, rfl, rfl, by decide +kernel, rfl, by decide +kernel, by decide +kernel⟩

theorem r_together (T : Txt K mg) : FnR P w K mg base (L2.CX P w) 128 (He.ga K "together") (spTogether (PC K)) := by
  have G_check_program : FnR P w K mg base (L2.CX P w) 1 (He.ga K "check_program") (spChkP (PC K)) := r_check_program T
  have G_Program_init : FnR P w K mg base (L2.CX P w) 126 (He.ma K (He.ga K "Program") "__init__") (spInit (PC K)) := r_Program_init T
  refine fn_mk T.f_together sc_together (fun _ _ _ _ _ _ us hl => match us, hl with | [_], _ => rfl) (fun vs H Q E h => ?_) (fun cdv A outer s H vs Q E hr h => ?_)
  · obtain ⟨l, ps, rfl, _⟩ := h
    rfl
  obtain ⟨l, ps, rfl, hl, mk, k⟩ := h
  refine ⟨_, PSs.nox ((pss_cons (ps_if (PW.pt (pw_or (pt_not (pt_val (pe_callB call_isi (by rfl) T.b_isinstance (by decide +kernel) (pa_cons (pv 0) (pa_cons (pe_bltn (v := .ty "list") (by rfl) T.b_list (by decide +kernel) rfl) pa_nil))))) (pw_or1 (pt_not (pt_chain op_le op_le pe_int (pe_callB call_len_seq (by rfl) T.b_len PySem.boot_len (pa_cons (pv 0) pa_nil)) (pe_gi rfl T.i_MOST_PARTS)))))) (pss_one (ps_never)) pss_nil)
    (pss_cons (ps_for PassesOwn.never rfl (pi_list (pv 0)) (pg_name (i := 1) sc_together.nd rfl (Or.inl rfl)) (pss_one (ps_expr (pe_callR G_check_program (hr.mono (by omega)) rfl T.g_check_program (kp_of T.f_check_program) passL (pa_cons pe_str (pa_cons (pv 1) pa_nil))))))
    (pss_one (ps_ret (StX.pe_makeR T.mk_Program G_Program_init (hr.mono (by omega)) rfl T.g_Program passL (pa_cons pe_str (pa_cons (pe_callTy call_list_of (by rfl) T.b_list (by decide +kernel) (pa_cons (pv 0) pa_nil)) (pa_cons pe_int (pa_cons (pe_lst pa_nil) pa_nil)))))))))), ?_⟩
  obtain ⟨hne, hlen, _, _⟩ := mk.sh
  obtain ⟨as, h1, h2, h3⟩ := id hl
  have hpos : 0 < ps.length := List.length_pos_iff.mpr hne
  refine q_no (et_is (et_or (et_not (et_B (ev_isi (b := true) (ev_var rfl) ev_c (.ty _) (fun H1 e => .base (.lst (e _ _ h1))) (kit_ty (by decide +kernel))))) (fun _ => et_not (et_test (ev_chainI ev_c (ev_lenL (ev_var rfl) (sq_of h1)) ev_c)))) ?_) fun H1 e1 => ?_
  · rw [List.length_map, h2, decide_eq_true (show (1 : Int) ≤ (ps.length : Int) by omega), decide_eq_true (show (ps.length : Int) ≤ 20 by omega)]
    rfl
  refine q_forLn (xs := as.map V.ref) (ev_var rfl) (sq_of (e1 _ _ h1)) (fun i σ' H' => Ex H H' ∧ ∃ v, σ' = [some (.ref l), v]) (fun H2 e2 => ⟨e1.trans e2, none, rfl⟩) (fun i σ' H' hi hP => sq_of (hP.1 _ _ h1)) (fun i x σ' H' hx hP => ?_) (fun σ' H' hP => ?_)
  · obtain ⟨e3, v, rfl⟩ := hP
    rw [List.getElem?_map] at hx
    obtain ⟨y, hy, rfl⟩ := Option.map_eq_some_iff.mp hx
    have hi : i < as.length := (List.getElem?_eq_some_iff.mp hy).1
    have hip := (h3 i y _ hy (List.getElem?_eq_getElem (by omega))).ext e3
    exact s_drop (ev_callR (ea_cons ev_c (ea_cons (ev_var rfl) ea_nil)) (v_chkP hip)) fun H4 e4 => ⟨e3.trans e4, _, rfl⟩
  · obtain ⟨e3, v, rfl⟩ := hP
    refine ⟨_, rfl, l, _, rfl, .inl (sq_of (e3 _ _ h1)), fun l2 hl2 => ?_⟩
    have e4 := Ex.new (o := .lst (as.map V.ref)) hl2
    refine ⟨by show 0 ≤ sizeLine; decide, fun wl hwl => ?_⟩
    have e5 := Ex.new (o := .lst []) hwl
    have hL2 : PL (PC K) (upd H' l2 (.lst (as.map V.ref))) l2 ps := ⟨as, upd_same, h2, fun i x q a b => (h3 i x q a b).ext (e3.trans e4)⟩
    exact make_ok (hL2.ext e5) (ws := []) upd_same mk (k.ext ((e3.trans e4).trans e5))
end
end Cu

/-! == Core6 -/
set_option maxHeartbeats 4000000
namespace Cu
open PySem PySem.Spec PyProof.Rows L2 Evl CuT
section
variable {X : Cx} {n : Nat}
theorem rcG_insR {CX : CXT} {C f : Addr} {R : Addr → Addr → Hp → Prop} {E : XK} (F : FnR X.prog X.w X.K X.mg X.base CX n f (spEq R))
    (hs : PySem.W.findIn X.K (.ref C) "__eq__" = some (some (.ref f))) (hf : PySem.W.isFn X.K (.ref f) = true) (hx : Passes CX X E) : RcG X n (DIns C R) := by
  intro A pins s σ H x y u v sb I rx ry d
  obtain ⟨a, b, dx, dy, fs, gs, rfl, rfl, ha, hb', hr⟩ := d
  cases rx
  cases ry
  obtain ⟨mA, J, _⟩ := ins_get I.hok ha
  obtain ⟨mB, J', _⟩ := ins_get I.hok hb'
  obtain ⟨od, J, _⟩ := J.look
  obtain ⟨od', J', _⟩ := J'.look
  obtain ⟨m, hF⟩ := I.fr
  refine PySem.W.cmp_K (op := .Eq) (tb := .ref C) sb.room.units0 hF I.ok.mod.kin J J'.type (by simp [PySem.W.notFirst]) hs hf ?_
  have hsp : spEq R [.ref a, .ref b] H (fun v H' => v = .bl true ∧ Ext H H') E := ⟨a, b, rfl, hr, fun H' e => ⟨rfl, e⟩⟩
  have e0 : Env0 X.prog X.w X.K X.mg X.base A X.stack s H := by
    have e := I.env0
    exact ⟨by rw [sb.fr]; exact e.frames, e.mod, e.bs, e.bsz, e.funs, e.frf, e.hok, e.bare⟩
  refine wpAny_call (codeAny_mono (F A X.stack s H [.ref a, .ref b] [.ref a, .ref b] _ E sb.room e0 (.cons rfl (.cons rfl .nil)) hsp) fun r s' hq => ?_)
  cases r with
  | error e => exact hx pins σ H s e s' I hq
  | ok fl =>
    cases fl with
    | ret w =>
      obtain ⟨z, H', I', rz, ez, ex⟩ := I.after hq
      subst ez
      cases rz
      exact ⟨rfl, H', I', ex⟩
    | next => exact False.elim hq
    | brk => exact False.elim hq
    | cont => exact False.elim hq
end
/-- the same program at both -/
def REq (C : Addr) (n : Nat) (a b : Addr) (H : Hp) : Prop := ∃ p, IsP C H a p ∧ IsP C H b p ∧ WF p ∧ p.depth ≤ n
theorem REq.ext {C : Addr} {n : Nat} {a b : Addr} {H H' : Hp} (e : Ext H H') (h : REq C n a b H) : REq C n a b H' := by
  obtain ⟨p, h1, h2, h3⟩ := h
  exact ⟨p, h1.ext e, h2.ext e, h3⟩
/-- what stands in facts() -/
def DFact (C : Addr) (n : Nat) : Eqv := fun x y H => DFlat x y H ∨ DList (fun x y H => DFlat x y H ∨ DIns C (REq C n) x y H) x y H
theorem mon_fact {C : Addr} {n : Nat} : Mon (DFact C n) := Mon.or mon_flat (mon_list (Mon.or mon_flat (mon_ins fun _ _ _ _ e r => r.ext e)))
section
variable {P : Program} {w : World} {K : PySem.W.Frag} {mg : Str → Option Value} {base : Heap}
theorem rcEq {X : Cx} {k n : Nat} (T : Txt X.K X.mg) (F : FnR X.prog X.w X.K X.mg X.base (L2.CX X.prog X.w) k (He.ma X.K (PC X.K) "__eq__") (spEq (REq (PC X.K) n))) : RcG X (k + 2) (DTup X.K (DFact (PC X.K) n)) := by
  have e1 : EqG X k (DIns (PC X.K) (REq (PC X.K) n)) := (rcG_insR F T.m_Program_eq.at_ T.m_Program_eq.fn passL).eqG fun _ _ _ d => let ⟨a, b, _, _, _, _, hx, hy, _⟩ := d; ⟨a, b, hx, hy⟩
  have e2 : EqG X k (fun x y H => DFlat x y H ∨ DIns (PC X.K) (REq (PC X.K) n) x y H) := (eqG_flat.mono (Nat.zero_le k)).or e1
  have e3 := eqG_list (Mon.or mon_flat (mon_ins fun _ _ _ _ e r => r.ext e)) e2
  exact rcG_tup mon_fact ((eqG_flat.mono (Nat.zero_le _)).or e3)
/-! ### facts -/
def spFacts (C : Addr) : Sp := fun vs H Q _ => ∃ a p, vs = [.ref a] ∧ IsP C H a p ∧ ∀ t H' l wl, Ex H H' → H' t = some (.tup [.str p.kind.s, .ref l, .int p.number, .ref wl]) → PL C H' l p.parts → H' wl = some (.lst (p.words.map V.str)) → Q (.ref t) H'
abbrev N_Program_facts : List Str := ["self"]
theorem sc_Program_facts : FnScope N_Program_facts ["self"] (defScope s_Program_facts) := ⟨rfl, rfl, rfl, by decide +kernel, rfl, by decide +kernel, by decide +kernel⟩

theorem r_Program_facts (T : Txt K mg) : FnR P w K mg base (L2.CX P w) 1 (He.ma K (He.ga K "Program") "facts") (spFacts (PC K)) := by
  refine fn_mk T.f_Program_facts sc_Program_facts (fun _ _ _ _ _ _ us hl => match us, hl with | [_], _ => rfl) (fun vs H Q E h => ?_) (fun cdv A outer s H vs Q E hr h => ?_)
  · obtain ⟨a, p, rfl, _⟩ := h
    rfl
  obtain ⟨a, p, rfl, hp, q⟩ := h
  refine ⟨_, PSs.nox ((pss_one (ps_ret (pe_tup (pa_cons (pe_fld (pv 0) rfl) (pa_cons (pe_fld (pv 0) rfl) (pa_cons (pe_fld (pv 0) rfl) (pa_cons (pe_fld (pv 0) rfl) pa_nil)))))))), ?_⟩
  obtain ⟨l, hl, el⟩ := ev_parts T (ta := tVar 0) (σ := start N_Program_facts [.ref a]) (ev_var rfl) hp
  obtain ⟨wl, hw, ew⟩ := ev_words T (ta := tVar 0) (σ := start N_Program_facts [.ref a]) (ev_var rfl) hp
  refine s_retU (eu_tup (ea_cons (ev_kind T (ev_var rfl) hp) (ea_cons el (ea_cons (ev_number T (ev_var rfl) hp) (ea_cons ew ea_nil)))) (by show 4 ≤ 100000; decide)) fun t H1 ht e1 h1 => ?_
  exact q t H1 l wl e1 h1 (hl.ext e1) (e1 _ _ hw)
/-! ### __eq__ -/
theorem prs_same {C : Addr} {n : Nat} {H : Hp} {l1 l2 : Addr} {ps : List Prog} (h1 : PL C H l1 ps) (h2 : PL C H l2 ps) (hw : ∀ p ∈ ps, WF p ∧ p.depth ≤ n) : DList (fun x y H => DFlat x y H ∨ DIns C (REq C n) x y H) (.ref l1) (.ref l2) H := by
  obtain ⟨as, a1, a2, a3⟩ := h1
  obtain ⟨bs, b1, b2, b3⟩ := h2
  refine ⟨l1, l2, _, _, rfl, rfl, a1, b1, by rw [List.length_map, List.length_map, a2, b2], fun i x y hx hy => ?_⟩
  rw [List.getElem?_map] at hx hy
  obtain ⟨a, ha, rfl⟩ := Option.map_eq_some_iff.mp hx
  obtain ⟨b, hb, rfl⟩ := Option.map_eq_some_iff.mp hy
  have hi : i < ps.length := by rw [← a2]; exact (List.getElem?_eq_some_iff.mp ha).1
  have hp : ps[i]? = some ps[i] := List.getElem?_eq_getElem hi
  have ia := a3 i a _ ha hp
  have ib := b3 i b _ hb hp
  obtain ⟨dx, _, _, ea, _⟩ := ia.at_
  obtain ⟨dy, _, _, eb, _⟩ := ib.at_
  exact .inr ⟨a, b, dx, dy, _, _, rfl, rfl, ea, eb, ps[i], ia, ib, hw _ (List.getElem_mem _)⟩
theorem prs_words {C : Addr} {n : Nat} {H : Hp} {l1 l2 : Addr} {ws : List Str} (h1 : H l1 = some (.lst (ws.map V.str))) (h2 : H l2 = some (.lst (ws.map V.str))) : DList (fun x y H => DFlat x y H ∨ DIns C (REq C n) x y H) (.ref l1) (.ref l2) H := by
  refine ⟨l1, l2, _, _, rfl, rfl, h1, h2, rfl, fun i x y hx hy => ?_⟩
  rw [hx] at hy
  cases hy
  rw [List.getElem?_map] at hx
  obtain ⟨z, _, rfl⟩ := Option.map_eq_some_iff.mp hx
  exact .inl ⟨rfl, rfl, by show decide (z = z) = true; exact decide_eq_true rfl⟩
abbrev N_Program_eq : List Str := ["self", "other"]
theorem sc_Program_eq : FnScope N_Program_eq ["self", "other"] (defScope s_Program_eq) := ⟨rfl, rfl, rfl, by decide +kernel, rfl, by decide +kernel, by decide +kernel⟩

theorem r_Program_eq {n k : Nat} (T : Txt K mg) (G_Program_eq : FnR P w K mg base (L2.CX P w) k (He.ma K (PC K) "__eq__") (spEq (REq (PC K) n))) :
    FnR P w K mg base (L2.CX P w) (k + 3) (He.ma K (PC K) "__eq__") (spEq (REq (PC K) (n + 1))) := by
  have G_Program_facts : FnR P w K mg base (L2.CX P w) 1 (He.ma K (He.ga K "Program") "facts") (spFacts (PC K)) := r_Program_facts T
  refine fn_mk T.f_Program_eq sc_Program_eq (fun _ _ _ _ _ _ us hl => match us, hl with | [_, _], _ => rfl) (fun vs H Q E h => ?_) (fun cdv A outer s H vs Q E hr h => ?_)
  · obtain ⟨a, b, rfl, _⟩ := h
    rfl
  obtain ⟨a, b, rfl, ⟨p, ha, hb, hw, hd⟩, q⟩ := h
  refine ⟨_, PSs.nox ((pss_one (ps_ret (pe_and (pe_callB call_isi (by rfl) T.b_isinstance (by decide +kernel) (pa_cons (pv 1) (pa_cons (pe_glob (v := .ref (He.ga K "Program")) rfl T.g_Program rfl) pa_nil))) (pe_one (pe_cmpR (op_eqG (rcEq T G_Program_eq) (hr.mono (by omega))) (pe_methR0 (pv 0) T.cls_Program T.m_Program_facts G_Program_facts (hr.mono (by omega)) passL) (pe_methR0 (pv 1) T.cls_Program T.m_Program_facts G_Program_facts (hr.mono (by omega)) passL) (nomark _))))))), ?_⟩
  have sub : ∀ q ∈ p.parts, WF q ∧ q.depth ≤ n := fun q hq => ⟨hw.sub hq, by have := hw.depth_sub hq; omega⟩
  refine ev_isi (K := K) (ta := tVar 1) (tb := tC (.ref (PC K))) (σ := start N_Program_eq [.ref a, .ref b]) (ev_var rfl) ev_c (.own _) (fun H1 e => .base (tyOf_ext e (tyP T hb))) T.kit_Program H (Ex.refl H) _ fun H1 e1 => ⟨true, rfl, ?_⟩
  rw [if_pos rfl]
  obtain ⟨dx, _, _, ea, _⟩ := (ha.ext e1).at_
  refine ⟨_, rfl, a, dx, _, rfl, ea, rfl, a, p, rfl, ha.ext e1, fun t1 H2 l1 w1 e2 ht1 hl1 hw1 => ?_⟩
  obtain ⟨dy, _, _, eb, _⟩ := (hb.ext (e1.trans e2)).at_
  refine ⟨_, rfl, b, dy, _, rfl, eb, rfl, b, p, rfl, hb.ext (e1.trans e2), fun t2 H3 l2 w2 e3 ht2 hl2 hw2 => ?_⟩
  refine ⟨⟨t1, t2, _, _, rfl, rfl, st_of (e3 _ _ ht1), st_of ht2, ?_⟩, fun H4 e4 => q H4 (((e1.trans e2).trans e3).trans e4)⟩
  refine Prs.cons (.inl ⟨rfl, rfl, decide_eq_true rfl⟩) (Prs.cons (.inr (prs_same (hl1.ext e3) hl2 sub)) (Prs.cons (.inl ⟨rfl, rfl, decide_eq_true rfl⟩) (Prs.cons (.inr (prs_words (e3 _ _ hw1) hw2)) Prs.nil)))
theorem eq_all (T : Txt K mg) : ∀ n : Nat, FnR P w K mg base (L2.CX P w) (1 + 3 * n) (He.ma K (PC K) "__eq__") (spEq (REq (PC K) n))
  | 0 => fun A outer s H us vs Q E hr e0 r h => by
    obtain ⟨a, b, _, ⟨p, _, _, hw, hd⟩, _⟩ := h
    have := hw.depth_pos
    omega
  | n + 1 => by
    have h := r_Program_eq T (eq_all T n)
    have e : 1 + 3 * n + 3 = 1 + 3 * (n + 1) := by omega
    rw [e] at h
    exact h
/-- p != q of equal programs: False -/
def rNeSame (C : Addr) : R2 := fun x y H Q => ∃ a b p, x = .ref a ∧ y = .ref b ∧ IsP C H a p ∧ IsP C H b p ∧ WF p ∧ ∀ H', Ex H H' → Q (.bl false) H'
theorem op_neSame {X : Cx} (T : Txt X.K X.mg) (F : FnR X.prog X.w X.K X.mg X.base (L2.CX X.prog X.w) 181 (He.ma X.K (PC X.K) "__eq__") (spEq (REq (PC X.K) 60))) (hr : Room 182 X.A) : OpR X (compareOp .NotEq) (rNeSame (PC X.K)) := by
  intro pins s σ H x y v u Q I rx ry h
  obtain ⟨a, b, p, rfl, rfl, ha, hb, hw, q⟩ := h
  obtain rfl : v = Value.ref a := rx
  obtain rfl : u = Value.ref b := ry
  obtain ⟨dx, _, _, ea, _⟩ := ha.at_
  obtain ⟨dy, _, _, eb, _⟩ := hb.at_
  obtain ⟨mA, J, _⟩ := ins_get I.hok ea
  obtain ⟨mB, J', _⟩ := ins_get I.hok eb
  obtain ⟨od, J, _⟩ := J.look
  obtain ⟨od', J', _⟩ := J'.look
  refine ne_own (Nat.lt_of_le_of_lt (Nat.add_le_add_left (by decide : 1 ≤ 64) _) hr.units) I.kIn J J'.type T.ne_Program T.m_Program_eq.at_ T.m_Program_eq.fn T.ob_Program ?_
  have e0 : Env0 X.prog X.w X.K X.mg X.base X.A.in1 X.stack s H := I.env0.in1
  refine wpAny_call (codeAny_mono (F X.A.in1 X.stack s H [.ref a, .ref b] [.ref a, .ref b] (fun v H' => v = .bl true ∧ Ext H H') E0 hr.in1 e0 (.cons rfl (.cons rfl .nil)) ⟨a, b, rfl, ⟨p, ha, hb, hw, hw.depth_le⟩, fun H' e => ⟨rfl, e⟩⟩) fun r s' hq => ?_)
  cases r with
  | error e =>
    obtain ⟨_, _, _, _, _, _, _, _, _, _, _, _, z⟩ := hq
    exact z.elim
  | ok fl =>
    cases fl with
    | ret w =>
      obtain ⟨z, H', I', rz, ez, ex⟩ := I.after hq
      subst ez
      cases rz
      exact ⟨true, rfl, .bl false, H', I', rfl, q H' ex⟩
    | next => exact False.elim hq
    | brk => exact False.elim hq
    | cont => exact False.elim hq
/-! ### the operators of programs, a program called -/
theorem callO_P (T : Txt K mg) : StX.CallO K (PC K) (He.ma K (He.ga K "Program") "__call__") := ⟨T.m_Program_call.at_, T.m_Program_call.fn, T.fi_Program_call⟩
theorem op_addP {X : Cx} (T : Txt X.K X.mg) (F : FnR X.prog X.w X.K X.mg X.base (L2.CX X.prog X.w) 128 (He.ma X.K (He.ga X.K "Program") "__add__") (spAdd (PC X.K))) (hr : Room 128 X.A) : OpR X (binaryOp .Add) (rOwn (PC X.K) (spAdd (PC X.K)) E0) :=
  op_own F hr passL T.sf_Program T.m_Program_add.at_ T.m_Program_add.fn T.n_Program_radd (by rfl) (by rfl) T.sub_Program
theorem op_mulP {X : Cx} (T : Txt X.K X.mg) (F : FnR X.prog X.w X.K X.mg X.base (L2.CX X.prog X.w) 128 (He.ma X.K (He.ga X.K "Program") "__mul__") (spMul (PC X.K))) (hr : Room 128 X.A) : OpR X (binaryOp .Mult) (rOwn (PC X.K) (spMul (PC X.K)) E0) :=
  op_own F hr passL T.sf_Program T.m_Program_mul.at_ T.m_Program_mul.fn T.n_Program_rmul (by rfl) (by rfl) T.sub_Program
theorem op_orP {X : Cx} (T : Txt X.K X.mg) (F : FnR X.prog X.w X.K X.mg X.base (L2.CX X.prog X.w) 128 (He.ma X.K (He.ga X.K "Program") "__or__") (spOr (PC X.K))) (hr : Room 128 X.A) : OpR X (binaryOp .BitOr) (rOwn (PC X.K) (spOr (PC X.K)) E0) :=
  op_own F hr passL T.sf_Program T.m_Program_or.at_ T.m_Program_or.fn T.n_Program_ror (by rfl) (by rfl) T.sub_Program
end
end Cu

/-! == GenA -/
set_option maxHeartbeats 4000000
namespace Cu
open PySem PySem.Spec PyProof.Rows L2 Evl CuT
/-! ### the source of draws -/
def Src (H : Hp) (l : Addr) (n : Nat) : Prop := ∃ A B c : Int, H l = some (.lst [.int A, .int B, .int c]) ∧ 0 ≤ A ∧ 0 ≤ B ∧ B < 2147483647 ∧ 0 ≤ c ∧ c ≤ (n : Int)
section
variable {H H' : Hp} {l : Addr} {n m : Nat}
theorem Src.ext (e : Ex H H') (h : Src H l n) : Src H' l n := by
  obtain ⟨A, B, c, h1, h2⟩ := h
  exact ⟨A, B, c, e _ _ h1, h2⟩
theorem Src.mono (h : Src H l n) (hn : n ≤ m) : Src H l m := by
  obtain ⟨A, B, c, h1, h2, h3, h4, h5, h6⟩ := h
  exact ⟨A, B, c, h1, h2, h3, h4, h5, by omega⟩
theorem Src.at_ (h : Src H l n) : ∃ i r, H l = some (.lst (.int i :: r)) := by
  obtain ⟨A, B, c, h1, _⟩ := h
  exact ⟨_, _, h1⟩
theorem Src.ne (h : Src H l n) {b : Addr} (hb : H b = none) : b ≠ l := fun e => by
  obtain ⟨i, r, h1⟩ := h.at_
  rw [e, h1] at hb
  cases hb
theorem But.ex {x : Addr} {H H' H2 : Hp} (b : But x H H') (e : Ex H' H2) : But x H H2 := b.trans (But.of e)
theorem But.free {H H' : Hp} {l : Addr} {n : Nat} (b : But l H H') (h : Src H' l n) {x : Addr} (hx : H' x = none) : H x = none := by
  cases e : H x with
  | none => rfl
  | some o =>
    have := b x o (h.ne hx) e
    rw [hx] at this
    cases this
end
def rInt1 : List V → Hp → VK → Prop := fun xs H Q => (∃ i, xs = [.int i] ∧ Q (.int i) H) ∨ ∃ k, xs = [.bl k] ∧ Q (.int (if k then 1 else 0)) H
theorem call_int1r {X : Cx} : CallR X (.type "int") rInt1 := call_int1
section
variable {K : PySem.W.Frag} {σ : L2.St} {H : Hp} {ta tb te : TE}
theorem ev_int1 {i : Int} (h : Ev ta σ H (.int i)) : Ev (tCB rInt1 (tCons ta tNil)) σ H (.int i) := fun H1 e Q q => h H1 e _ fun H2 e2 => .inl ⟨i, rfl, q H2 e2⟩
theorem ev_intB {b : Bool} (h : Ev ta σ H (.bl b)) : Ev (tCB rInt1 (tCons ta tNil)) σ H (.int (if b then 1 else 0)) := fun H1 e Q q => h H1 e _ fun H2 e2 => .inr ⟨b, rfl, q H2 e2⟩
theorem ev_cmp {g : Int → Int → Bool} {i j : Int} (ha : Ev ta σ H (.int i)) (hb : Ev tb σ H (.int j)) : Ev (tOp (rI0 fun i j => .bl (g i j)) ta tb) σ H (.bl (g i j)) := ev_op ha hb rv_I0
/-- an item of a list that stands -/
theorem ev_at {l : Addr} {xs : List V} {v : V} {i : Nat} (h : Ev ta σ H (.ref l)) (hl : H l = some (.lst xs)) (hv : xs[i]? = some v) : Ev (tOp (rIxL K) ta (tC (.int (i : Int)))) σ H v := ev_op h ev_c (rv_ixL (sq_of hl) (atI_nat hv))
theorem ev_atT {l : Addr} {xs : List V} {v : V} {i : Nat} (h : Ev ta σ H (.ref l)) (hl : H l = some (.tup xs)) (hv : xs[i]? = some v) : Ev (tOp (rIxT K) ta (tC (.int (i : Int)))) σ H v := ev_op h ev_c (rv_ixT (st_of hl) (atI_nat hv))
end
def primes : List Int := [2147483647, 2147483629, 2147483587, 2147483579, 2147483563, 2147483549, 2147483543]
theorem primes_at (i : Int) (h0 : 0 ≤ i) (h1 : i < 7) : ∃ v : Int, atI (primes.map V.int) i = some (.int v) ∧ 1 ≤ v ∧ v ≤ 2147483647 := by
  have h : i = 0 ∨ i = 1 ∨ i = 2 ∨ i = 3 ∨ i = 4 ∨ i = 5 ∨ i = 6 := by omega
  rcases h with h | h | h | h | h | h | h <;> (rw [h]; exact ⟨_, rfl, by decide, by decide⟩)
section
variable {P : Program} {w : World} {K : PySem.W.Frag} {mg : Str → Option Value} {base : Heap}
def spSource : Sp := fun vs H Q _ => ∃ c, vs = [.int c] ∧ ∀ l H', H l = none → Ex H H' → Src H' l 0 → Q (.ref l) H'
abbrev N_law_source_of : List Str := ["_law_cell"]
theorem sc_law_source_of : FnScope N_law_source_of ["_law_cell"] (defScope s_law_source_of) := ⟨rfl, rfl, rfl, by decide +kernel, rfl, by decide +kernel, by decide +kernel⟩

theorem r_law_source_of (T : Txt K mg) : FnR P w K mg base (L2.CX P w) 1 (He.ga K "_law_source_of") spSource := by
  refine fn_mk T.f_law_source_of sc_law_source_of (fun _ _ _ _ _ _ us hl => match us, hl with | [_], _ => rfl) (fun vs H Q E h => ?_) (fun cdv A outer s H vs Q E hr h => ?_)
  · obtain ⟨c, rfl, _⟩ := h
    rfl
  obtain ⟨c, rfl, q⟩ := h
  refine ⟨_, PSs.nox ((pss_one (ps_ret (pe_lst (pa_cons (pe_op op_mul (pv 0) (pe_callTy call_int1r (by rfl) T.b_int (by decide +kernel) (pa_cons (pe_cmpR op_ge (pv 0) (pe_op op_pow pe_int pe_int) (nomark _)) pa_nil))) (pa_cons (pe_op op_mod (pe_callTy call_int1r (by rfl) T.b_int (by decide +kernel) (pa_cons (pv 0) pa_nil)) pe_int) (pa_cons pe_int pa_nil))))))), ?_⟩
  refine s_retL (el_lst (ea_cons (ev_op (ev_var rfl) (ev_intB (ev_cmp (ev_var rfl) (ev_op ev_c ev_c (rv_I ⟨by decide, by decide, by decide⟩)))) (rv_I (.inr ?_))) (ea_cons (ev_op (ev_int1 (ev_var rfl)) ev_c (rv_I (show (0 : Int) < 2147483647 by decide))) (ea_cons ev_c ea_nil))) (by show 3 ≤ 100000; decide)) fun l H1 hl e1 h1 => q l H1 hl e1 ?_
  · split <;> exact ⟨by decide, by decide⟩
  · refine ⟨_, _, _, h1, ?_, Int.emod_nonneg _ (by decide), Int.emod_lt_of_pos _ (by decide), Int.le_refl 0, Int.le_refl 0⟩
    have e : (10 : Int) ^ (18 : Int).toNat = 1000000000000000000 := by decide
    rw [e]
    split
    · rename_i hh
      have : (1000000000000000000 : Int) ≤ c := of_decide_eq_true hh
      omega
    · omega
def spNext : Sp := fun vs H Q _ => ∃ l m n, vs = [.ref l, .int m] ∧ Src H l n ∧ n ≤ 1000000000000 ∧ 0 < m ∧ m.natAbs < 2 ^ 8000 ∧ ∀ r H', 0 ≤ r → r < m → But l H H' → Src H' l (n + 1) → Q (.int r) H'
theorem fig_lt {x p : Int} (hp : 1 ≤ p) (hp2 : p ≤ 2147483647) : 0 ≤ x % p ∧ x % p < 2147483647 := by
  have h1 := Int.emod_nonneg x (show p ≠ 0 by omega)
  have h2 := Int.emod_lt_of_pos x (show 0 < p by omega)
  omega
abbrev N_law_next : List Str := ["_law_source", "_law_many", "_law_found", "_law_prime", "_law_figure"]
theorem sc_law_next : FnScope N_law_next ["_law_source", "_law_many"] (defScope s_law_next) := ⟨rfl, rfl, rfl, by decide +kernel, rfl, by decide +kernel, by decide +kernel⟩

theorem r_law_next (T : Txt K mg) : FnR P w K mg base (L2.CX P w) 1 (He.ga K "_law_next") spNext := by
  refine fn_mk T.f_law_next sc_law_next (fun _ _ _ _ _ _ us hl => match us, hl with | [_, _], _ => rfl) (fun vs H Q E h => ?_) (fun cdv A outer s H vs Q E hr h => ?_)
  · obtain ⟨l, m, n, rfl, _⟩ := h
    rfl
  obtain ⟨l, m, n, rfl, ⟨A0, B, c, hl, hA, hB, hB2, hc, hc2⟩, hn, hm, hm2, q⟩ := h
  refine ⟨_, PSs.nox ((pss_cons (ps_if (pt_cmpR op_gt (pe_ix ix_list (pv 0) pe_int (fun _ _ => rfl)) pe_int (nomark _)) (pss_cons (ps_set (i := 2) sc_law_next.nd rfl (Or.inl rfl) (pe_op op_mod (pe_callTy call_int1r (by rfl) T.b_int (by decide +kernel) (pa_cons (pe_ix ix_list (pv 0) pe_int (fun _ _ => rfl)) pa_nil)) (pv 1)))
    (pss_cons (ps_asg (pe_op op_fdivW (pe_ix ix_list (pv 0) pe_int (fun _ _ => rfl)) (pv 1)) (pg_sub (pv 0) pe_int set_list))
    (pss_one (ps_ret (pv 2))))) pss_nil)
    (pss_cons (ps_asg (pe_op op_add (pe_ix ix_list (pv 0) pe_int (fun _ _ => rfl)) pe_int) (pg_sub (pv 0) pe_int set_list))
    (pss_cons (ps_set (i := 3) sc_law_next.nd rfl (Or.inl rfl) (pe_ix ix_list (pe_lst (pa_cons pe_int (pa_cons pe_int (pa_cons pe_int (pa_cons pe_int (pa_cons pe_int (pa_cons pe_int (pa_cons pe_int pa_nil)))))))) (pe_op op_mod (pe_callTy call_int1r (by rfl) T.b_int (by decide +kernel) (pa_cons (pe_ix ix_list (pv 0) pe_int (fun _ _ => rfl)) pa_nil)) pe_int) (fun _ _ => rfl)))
    (pss_cons (ps_set (i := 4) sc_law_next.nd rfl (Or.inl rfl) (pe_op op_mod (pe_callTy call_int1r (by rfl) T.b_int (by decide +kernel) (pa_cons (pe_op op_pow (pe_op op_add (pe_op op_add (pe_ix ix_list (pv 0) pe_int (fun _ _ => rfl)) (pe_op op_mul pe_int (pe_ix ix_list (pv 0) pe_int (fun _ _ => rfl)))) pe_int) pe_int) pa_nil)) (pv 3)))
    (pss_cons (ps_set (i := 4) sc_law_next.nd rfl (Or.inl rfl) (pe_op op_mod (pe_callTy call_int1r (by rfl) T.b_int (by decide +kernel) (pa_cons (pe_op op_mul (pe_op op_add (pv 4) (pe_ix ix_list (pv 0) pe_int (fun _ _ => rfl))) (pe_op op_add (pe_op op_fdivW (pv 4) pe_int) pe_int)) pa_nil)) (pv 3)))
    (pss_one (ps_ret (pe_op op_mod (pe_callTy call_int1r (by rfl) T.b_int (by decide +kernel) (pa_cons (pe_op op_fdivW (pv 4) pe_int) pa_nil)) (pv 1)))))))))), ?_⟩
  refine q_by (A := 0 < A0) (et_cmp (ev_at (i := 0) (ev_var rfl) hl rfl) ev_c) rfl (fun hpos H1 e1 => ?_) (fun hpos H1 e1 => ?_)
  · refine q_asg (ev_op (ev_int1 (ev_at (i := 0) (ev_var rfl) (e1 _ _ hl) rfl)) (ev_var rfl) (rv_I (show (0 : Int) < m from hm))) fun H2 e2 => ?_
    have hl2 := (e1.trans e2) _ _ hl
    refine q_setL (j := 0) hl2 (ev_op (ev_at (i := 0) (ev_var rfl) hl2 rfl) (ev_var rfl) (rv_I (wide_div hm hm2 (by decide) (by decide)))) (ev_var rfl) ev_c (by show 0 < 3; decide) fun H3 e3 => ?_
    refine s_ret (ev_var rfl) fun H4 e4 => ?_
    have b : But l H H4 := ((But.of ((e1.trans e2).trans e3)).trans But.upd).ex e4
    exact q _ H4 (Int.emod_nonneg _ (by omega)) (Int.emod_lt_of_pos _ hm) b ⟨_, _, _, e4 _ _ upd_same, Int.ediv_nonneg hA (by omega), hB, hB2, hc, by omega⟩
  · have hl1 := e1 _ _ hl
    refine q_setL (j := 2) hl1 (ev_op (ev_at (i := 2) (ev_var rfl) hl1 rfl) ev_c rv_I0) (ev_var rfl) ev_c (by show 2 < 3; decide) fun H2 e2 => ?_
    have b2 : But l H (upd H2 l (.lst ([.int A0, .int B, .int c].set 2 (.int (c + 1))))) := (But.of (e1.trans e2)).trans But.upd
    have hl2 : upd H2 l (.lst ([.int A0, .int B, .int c].set 2 (.int (c + 1)))) l = some (.lst [.int A0, .int B, .int (c + 1)]) := upd_same
    generalize upd H2 l (.lst ([.int A0, .int B, .int c].set 2 (.int (c + 1)))) = H3 at *
    obtain ⟨pv, hpv, p1, p2⟩ := primes_at ((c + 1) % 7) (Int.emod_nonneg _ (by decide)) (Int.emod_lt_of_pos _ (by decide))
    refine q_asg (v := .int pv) (ev_opL1 (xs := primes.map V.int) (el_lst (ea_cons ev_c (ea_cons ev_c (ea_cons ev_c (ea_cons ev_c (ea_cons ev_c (ea_cons ev_c (ea_cons ev_c ea_nil))))))) (by show 7 ≤ 100000; decide)) (fun H4 e4 => ev_op (ev_int1 (ev_at (i := 2) (ev_var rfl) (e4 _ _ hl2) rfl)) ev_c (rv_I (show (0 : Int) < 7 by decide))) fun p H4 hp e4 => rv_ixL (sq_of hp) hpv) fun H4 e4 => ?_
    have hl4 := e4 _ _ hl2
    refine q_asg (ev_op (ev_int1 (ev_op (ev_op (ev_op (ev_at (i := 1) (ev_var rfl) hl4 rfl) (ev_op ev_c (ev_at (i := 2) (ev_var rfl) hl4 rfl) (rv_I (.inl ⟨by decide, by decide⟩))) rv_I0) ev_c rv_I0) ev_c (rv_I ⟨by decide, by decide, by omega⟩))) (ev_var rfl) (rv_I (show (0 : Int) < pv by omega))) fun H5 e5 => ?_
    obtain ⟨f1, f2⟩ := fig_lt (x := (B + 7919 * (c + 1) + 1) ^ (5 : Int).toNat) p1 p2
    generalize (B + 7919 * (c + 1) + 1) ^ (5 : Int).toNat % pv = F1 at *
    have hl5 := e5 _ _ hl4
    refine q_asg (ev_op (ev_int1 (ev_op (ev_op (ev_var rfl) (ev_at (i := 2) (ev_var rfl) hl5 rfl) rv_I0) (ev_op (ev_op (ev_var rfl) ev_c (rv_I (wide_div (b := 10) (by decide) (by decide) (by decide) (by decide)))) ev_c rv_I0) (rv_I (.inl ⟨by omega, by omega⟩)))) (ev_var rfl) (rv_I (show (0 : Int) < pv by omega))) fun H6 e6 => ?_
    obtain ⟨g1, g2⟩ := fig_lt (x := (F1 + (c + 1)) * (F1 / 1009 + 69621)) p1 p2
    generalize (F1 + (c + 1)) * (F1 / 1009 + 69621) % pv = F2 at *
    refine s_ret (ev_op (ev_int1 (ev_op (ev_var rfl) ev_c (rv_I (wide_div (b := 10) (by decide) (by decide) (by decide) (by decide))))) (ev_var rfl) (rv_I (show (0 : Int) < m from hm))) fun H7 e7 => ?_
    have x7 := ((e4.trans e5).trans e6).trans e7
    exact q _ H7 (Int.emod_nonneg _ (by omega)) (Int.emod_lt_of_pos _ hm) (b2.ex x7) ⟨_, _, _, x7 _ _ hl2, hA, hB, hB2, by omega, by omega⟩
def spOne : Sp := fun vs H Q _ => ∃ l lo n xs, vs = [.ref l, .ref lo] ∧ Src H l n ∧ n ≤ 1000000000000 ∧ lo ≠ l ∧ H lo = some (.lst xs) ∧ 0 < xs.length ∧ xs.length ≤ 1000 ∧ ∀ x H', x ∈ xs → But l H H' → Src H' l (n + 1) → Q x H'
abbrev N_law_one : List Str := ["_law_source", "_law_options"]
theorem sc_law_one : FnScope N_law_one ["_law_source", "_law_options"] (defScope s_law_one) := ⟨rfl, rfl, rfl, by decide +kernel, rfl, by decide +kernel, by decide +kernel⟩

theorem r_law_one (T : Txt K mg) : FnR P w K mg base (L2.CX P w) 2 (He.ga K "_law_one") spOne := by
  have G_law_next : FnR P w K mg base (L2.CX P w) 1 (He.ga K "_law_next") spNext := r_law_next T
  refine fn_mk T.f_law_one sc_law_one (fun _ _ _ _ _ _ us hl => match us, hl with | [_, _], _ => rfl) (fun vs H Q E h => ?_) (fun cdv A outer s H vs Q E hr h => ?_)
  · obtain ⟨l, lo, n, xs, rfl, _⟩ := h
    rfl
  obtain ⟨l, lo, n, xs, rfl, hs, hn, hne, ho, hp, hz, q⟩ := h
  refine ⟨_, PSs.nox ((pss_one (ps_ret (pe_ix ix_list (pv 1) (pe_callR G_law_next (hr.mono (by omega)) rfl T.g_law_next (kp_of T.f_law_next) passL (pa_cons (pv 0) (pa_cons (pe_callB call_len_seq (by rfl) T.b_len PySem.boot_len (pa_cons (pv 1) pa_nil)) pa_nil))) (fun _ _ => rfl))))), ?_⟩
  have hb : ((xs.length : Nat) : Int).natAbs < 2 ^ 8000 := Nat.lt_of_le_of_lt (show ((xs.length : Nat) : Int).natAbs ≤ 1000 by omega) (by decide +kernel)
  refine ⟨_, rfl, _, rfl, _, rfl, lo, xs, rfl, .inl (sq_of ho), l, _, n, rfl, hs, hn, by omega, hb, fun r H' r0 r1 b s' => ?_⟩
  have hr2 : r.toNat < xs.length := by omega
  have er : r = ((r.toNat : Nat) : Int) := by omega
  refine ⟨lo, xs, r, xs[r.toNat], rfl, rfl, sq_of (b lo _ hne ho), ?_, q _ H' (List.getElem_mem _) b s'⟩
  exact at_of er (List.getElem?_eq_getElem hr2)
def spCell (K : PySem.W.Frag) : Sp := fun vs H Q _ => ∃ (a : Addr) (ns : List Int) (k : Int), vs = [.ref a, .int k] ∧ SqL K H a (ns.map V.int) ∧ 0 ≤ k ∧ RetV (.int ((ns[k.toNat]?).getD 0)) H Q
theorem v_cell {K : PySem.W.Frag} {H : Hp} {a : Addr} {ns : List Int} {k : Int} (h : SqL K H a (ns.map V.int)) (hk : 0 ≤ k) : SpV (spCell K) [.ref a, .int k] H (.int ((ns[k.toNat]?).getD 0)) := fun H1 e Q q E => ⟨a, ns, k, rfl, ex_l e h, hk, q⟩
abbrev N_law_cell_at : List Str := ["_law_script", "_law_k"]
theorem sc_law_cell_at : FnScope N_law_cell_at ["_law_script", "_law_k"] (defScope s_law_cell_at) := ⟨rfl, rfl, rfl, by decide +kernel, rfl, by decide +kernel, by decide +kernel⟩

theorem r_law_cell_at (T : Txt K mg) : FnR P w K mg base (L2.CX P w) 1 (He.ga K "_law_cell_at") (spCell K) := by
  refine fn_mk T.f_law_cell_at sc_law_cell_at (fun _ _ _ _ _ _ us hl => match us, hl with | [_, _], _ => rfl) (fun vs H Q E h => ?_) (fun cdv A outer s H vs Q E hr h => ?_)
  · obtain ⟨a, ns, k, rfl, _⟩ := h
    rfl
  obtain ⟨a, ns, k, rfl, hS, hk, q⟩ := h
  refine ⟨_, PSs.nox ((pss_cons (ps_if (pt_cmpR op_lt (pv 1) (pe_callB call_len_seq (by rfl) T.b_len PySem.boot_len (pa_cons (pv 0) pa_nil)) (nomark _)) (pss_one (ps_ret (pe_ix ix_list (pv 0) (pv 1) (fun _ _ => rfl)))) pss_nil)
    (pss_one (ps_ret pe_int)))), ?_⟩
  refine q_by (A := k < ((ns.map V.int).length : Int)) (et_cmp (ev_var rfl) (ev_lenL (ev_var rfl) hS)) rfl (fun hlt H1 e1 => ?_) (fun hlt H1 e1 => ?_)
  · rw [List.length_map] at hlt
    have hi : k.toNat < ns.length := by omega
    have ek : k = ((k.toNat : Nat) : Int) := by omega
    refine s_ret (v := .int ns[k.toNat]) (ev_op (ev_var rfl) (ev_var rfl) (rv_ixL (ex_l e1 hS) ?_)) fun H2 e2 => ?_
    rotate_left
    · have := q H2 (e1.trans e2)
      rw [List.getElem?_eq_getElem hi] at this
      exact this
    exact at_of ek (by rw [List.getElem?_map, List.getElem?_eq_getElem hi]; rfl)
  · refine s_ret ev_c fun H2 e2 => ?_
    have := q H2 (e1.trans e2)
    rw [List.length_map] at hlt
    rw [List.getElem?_eq_none (by omega)] at this
    exact this
end
/-! ### forms -/
def seqF : List Prog → Prog
  | [] => mkP .sleep [] 0 []
  | p :: r => r.foldl addP p
inductive IsF (H : Hp) : Nat → Addr → Prog → Prop where
  | sleep {d : Nat} {t : Addr} {n : Int} (ht : H t = some (.tup [.str "sleep", .int n])) (h0 : 0 ≤ n) (h1 : n ≤ mostT) : IsF H d t (mkP .sleep [] n [])
  | fail {d : Nat} {t : Addr} {z : Str} (ht : H t = some (.tup [.str "fail", .str z])) (hz : IsName z) : IsF H d t (mkP .fail [] 0 [z])
  | seq {d : Nat} {t l : Addr} {as : List Addr} {ps : List Prog} (ht : H t = some (.tup [.str "seq", .ref l])) (hl : H l = some (.lst (as.map V.ref))) (len : as.length = ps.length) (h2 : 2 ≤ ps.length) (h3 : ps.length ≤ 3)
      (sub : ∀ (i : Nat) (x : Addr) (q : Prog), as[i]? = some x → ps[i]? = some q → IsF H d x q) : IsF H (d + 1) t (seqF ps)
  | together {d : Nat} {t l : Addr} {as : List Addr} {ps : List Prog} (ht : H t = some (.tup [.str "together", .ref l])) (hl : H l = some (.lst (as.map V.ref))) (len : as.length = ps.length) (h2 : 2 ≤ ps.length) (h3 : ps.length ≤ 3)
      (sub : ∀ (i : Nat) (x : Addr) (q : Prog), as[i]? = some x → ps[i]? = some q → IsF H d x q) : IsF H (d + 1) t (mkP .together ps 0 [])
  | loop {d : Nat} {t x : Addr} {p : Prog} {n : Int} (ht : H t = some (.tup [.str "loop", .ref x, .int n])) (sub : IsF H d x p) (h0 : 0 ≤ n) (h1 : n ≤ mostT) : IsF H (d + 1) t (mulP p n)
  | shield {d : Nat} {t x : Addr} {p : Prog} (ht : H t = some (.tup [.str "shield", .ref x])) (sub : IsF H d x p) : IsF H (d + 1) t (mkP .shield [p] 0 [])
  | cleanup {d : Nat} {t x y : Addr} {p q : Prog} (ht : H t = some (.tup [.str "cleanup", .ref x, .ref y])) (sub : IsF H d x p) (sub2 : IsF H d y q) : IsF H (d + 1) t (mkP .cleanup [p, q] 0 [])
  | fallback {d : Nat} {t x y wl : Addr} {p q : Prog} {ws : List Str} (ht : H t = some (.tup [.str "fallback", .ref x, .ref wl, .ref y])) (hw : H wl = some (.lst (ws.map V.str))) (n1 : 1 ≤ ws.length) (n2 : ws.length ≤ 20) (n3 : ∀ z ∈ ws, IsName z) (n4 : ws.Nodup)
      (sub : IsF H d x p) (sub2 : IsF H d y q) : IsF H (d + 1) t (mkP .fallback [p, q] 0 ws)
  | timeout {d : Nat} {t x : Addr} {p : Prog} {n : Int} {z : Str} (ht : H t = some (.tup [.str "timeout", .int n, .ref x, .str z])) (hz : IsName z) (sub : IsF H d x p) (h0 : 0 ≤ n) (h1 : n ≤ mostT) : IsF H (d + 1) t (mkP .timeout [p] n [z])
  | moveon {d : Nat} {t x : Addr} {p : Prog} {n : Int} (ht : H t = some (.tup [.str "moveon", .int n, .ref x])) (sub : IsF H d x p) (h0 : 0 ≤ n) (h1 : n ≤ mostT) : IsF H (d + 1) t (mkP .moveon [p] n [])
inductive PureF : HO → Prop where
  | tup (xs : List V) : PureF (.tup xs)
  | refs (as : List Addr) : PureF (.lst (as.map V.ref))
  | txts (ws : List Str) : PureF (.lst (ws.map V.str))
theorem IsF.keep {H H' : Hp} {d : Nat} {t : Addr} {p : Prog} (k : ∀ b o, PureF o → H b = some o → H' b = some o) (h : IsF H d t p) : IsF H' d t p := by
  induction h with
  | sleep ht h0 h1 => exact .sleep (k _ _ (.tup _) ht) h0 h1
  | fail ht hz => exact .fail (k _ _ (.tup _) ht) hz
  | seq ht hl len h2 h3 _ ih => exact .seq (k _ _ (.tup _) ht) (k _ _ (.refs _) hl) len h2 h3 ih
  | together ht hl len h2 h3 _ ih => exact .together (k _ _ (.tup _) ht) (k _ _ (.refs _) hl) len h2 h3 ih
  | loop ht _ h0 h1 ih => exact .loop (k _ _ (.tup _) ht) ih h0 h1
  | shield ht _ ih => exact .shield (k _ _ (.tup _) ht) ih
  | cleanup ht _ _ ih ih2 => exact .cleanup (k _ _ (.tup _) ht) ih ih2
  | fallback ht hw n1 n2 n3 n4 _ _ ih ih2 => exact .fallback (k _ _ (.tup _) ht) (k _ _ (.txts _) hw) n1 n2 n3 n4 ih ih2
  | timeout ht hz _ h0 h1 ih => exact .timeout (k _ _ (.tup _) ht) hz ih h0 h1
  | moveon ht _ h0 h1 ih => exact .moveon (k _ _ (.tup _) ht) ih h0 h1
theorem IsF.ext {H H' : Hp} {d : Nat} {t : Addr} {p : Prog} (e : Ex H H') (h : IsF H d t p) : IsF H' d t p := h.keep fun b o _ q => e b o q
theorem notPureF_int {i : Int} {r : List V} : ¬ PureF (.lst (.int i :: r)) := fun z => by
  generalize e : HO.lst (.int i :: r) = o at z
  cases z with
  | tup xs => cases e
  | refs as =>
    cases as with
    | nil => cases e
    | cons x r => cases e
  | txts ws =>
    cases ws with
    | nil => cases e
    | cons x r => cases e
theorem IsF.but {H H' : Hp} {l : Addr} {n d : Nat} {t : Addr} {p : Prog} (s : Src H l n) (b : But l H H') (h : IsF H d t p) : IsF H' d t p := h.keep fun c o hp q => by
  refine b c o (fun e => ?_) q
  obtain ⟨i, r, h1⟩ := s.at_
  rw [e, h1] at q
  cases q
  exact notPureF_int hp
theorem IsP.but {C : Addr} {H H' : Hp} {l : Addr} {n : Nat} {a : Addr} {p : Prog} (s : Src H l n) (b : But l H H') (h : IsP C H a p) : IsP C H' a p := by
  obtain ⟨i, r, h1⟩ := s.at_
  exact h.keep (keep_but h1 notPure_int b)
end Cu

/-! == GenB -/
set_option maxHeartbeats 4000000
namespace Cu
open PySem PySem.Spec PyProof.Rows L2 Evl CuT
/-! ### draws, in readings -/
section
variable {H : Hp} {l : Addr} {n : Nat} {σ : L2.St} {Q : VK} {ta : TA} {i : Nat}
theorem go_next {tm : TE} {m : Int} (hv : σ[i]? = some (some (.ref l))) (hm : Ev tm σ H (.int m)) (hs : Src H l n) (hn : n ≤ 1000000000000) (m0 : 0 < m) (m1 : m.natAbs < 2 ^ 8000) (q : ∀ r H', 0 ≤ r → r < m → But l H H' → Src H' l (n + 1) → Q (.int r) H') :
    tCallR spNext E0 (tCons (tVar i) (tCons tm tNil)) σ H Q := ⟨_, hv, hm H (Ex.refl H) _ fun H1 e1 => ⟨l, m, n, rfl, hs.ext e1, hn, m0, m1, fun r H' h0 h1 b s => q r H' h0 h1 ((But.of e1).trans b) s⟩⟩
theorem go_one {xs : List V} (hv : σ[i]? = some (some (.ref l))) (ha : EvA ta σ H xs) (hs : Src H l n) (hn : n ≤ 1000000000000) (x0 : 0 < xs.length) (x1 : xs.length ≤ 1000) (q : ∀ x H', x ∈ xs → But l H H' → Src H' l (n + 1) → Q x H') :
    tCallR spOne E0 (tCons (tVar i) (tCons (tLst ta) tNil)) σ H Q := ⟨_, hv, ha H (Ex.refl H) _ fun H1 e1 => ⟨sz_of (by omega), fun D hD =>
      have e2 : Ex H1 (upd H1 D (.lst xs)) := Ex.new hD
      ⟨l, D, n, xs, rfl, (hs.ext e1).ext e2, hn, (hs.ext e1).ne hD, upd_same, x0, x1, fun x H' hx b s => q x H' hx ((But.of (e1.trans e2)).trans b) s⟩⟩⟩
theorem go_oneV {xs : List V} {j : Nat} {lo : Addr} (hv : σ[i]? = some (some (.ref l))) (hw : σ[j]? = some (some (.ref lo))) (hne : lo ≠ l) (ho : H lo = some (.lst xs)) (hs : Src H l n) (hn : n ≤ 1000000000000) (x0 : 0 < xs.length) (x1 : xs.length ≤ 1000) (q : ∀ x H', x ∈ xs → But l H H' → Src H' l (n + 1) → Q x H') :
    tCallR spOne E0 (tCons (tVar i) (tCons (tVar j) tNil)) σ H Q := ⟨_, hv, _, hw, l, lo, n, xs, rfl, hs, hn, hne, ho, x0, x1, q⟩
theorem go_nextOne {ns : List Int} {M : Int} (hv : σ[i]? = some (some (.ref l))) (ha : EvA ta σ H (ns.map V.int)) (hs : Src H l n) (hn : n + 1 ≤ 1000000000000) (x0 : 0 < ns.length) (x1 : ns.length ≤ 1000) (hM : M.natAbs < 2 ^ 8000) (hx : ∀ m ∈ ns, 0 < m ∧ m ≤ M) (q : ∀ r H', 0 ≤ r → r < M → But l H H' → Src H' l (n + 2) → Q (.int r) H') :
    tCallR spNext E0 (tCons (tVar i) (tCons (tCallR spOne E0 (tCons (tVar i) (tCons (tLst ta) tNil))) tNil)) σ H Q := by
  refine ⟨_, hv, go_one hv ha hs (by omega) (by rw [List.length_map]; exact x0) (by rw [List.length_map]; exact x1) fun x H1 hx1 b1 s1 => ?_⟩
  obtain ⟨m, hm, rfl⟩ := List.mem_map.mp hx1
  obtain ⟨m0, m1⟩ := hx m hm
  exact ⟨l, m, n + 1, rfl, s1, hn, m0, by omega, fun r H' h0 h1 b s => q r H' h0 (by omega) (b1.trans b) s⟩
theorem br {b : Bool} {X Y : Prop} (h1 : b = true → X) (h2 : b = false → Y) : if b = true then X else Y := by
  cases b with
  | true => exact h1 rfl
  | false => exact h2 rfl
theorem brI {i j : Int} {X Y : Prop} (h1 : i = j → X) (h2 : i ≠ j → Y) : if decide (V.int i = V.int j) = true then X else Y := br (fun h => h1 (V.int.inj (of_decide_eq_true h))) fun h => h2 fun e => of_decide_eq_false h (by rw [e])
/-- one promise or the other -/
def spAlt (a b : Sp) : Sp := fun vs H Q E => a vs H Q E ∨ b vs H Q E
theorem fn_alt {P : Program} {w : World} {K : PySem.W.Frag} {mg : Str → Option Value} {base : Heap} {k : Nat} {f : Addr} {a b : Sp} (h1 : FnR P w K mg base (L2.CX P w) k f a) (h2 : FnR P w K mg base (L2.CX P w) k f b) : FnR P w K mg base (L2.CX P w) k f (spAlt a b) :=
  fun A outer s H us vs Q E hr e0 r h => h.elim (fun z => h1 A outer s H us vs Q E hr e0 r z) fun z => h2 A outer s H us vs Q E hr e0 r z
theorem Src.hid {D : Addr} (hs : Src H l n) (h : l ≠ D) : Src (hid D H) l n := by
  obtain ⟨A, B, c, h1, h2⟩ := hs
  exact ⟨A, B, c, by rw [hid_ne h]; exact h1, h2⟩
theorem Src.upd {D : Addr} {o : HO} (hs : Src H l n) (h : l ≠ D) : Src (upd H D o) l n := by
  obtain ⟨A, B, c, h1, h2⟩ := hs
  exact ⟨A, B, c, by rw [upd_ne h]; exact h1, h2⟩
end
/-! ### forms drawn -/
def costF : Nat → Nat
  | 0 => 5
  | d + 1 => 8 + 3 * costF d
theorem name_by (z : Str) (h : ((1 ≤ z.length && z.length ≤ 12) && z.cps.toList.all fun c => decide (97 ≤ c) && decide (c ≤ 122)) = true) : IsName z := by
  simp only [Bool.and_eq_true, decide_eq_true_eq, List.all_eq_true] at h
  exact ⟨h.1.1, h.1.2, h.2⟩
def spLeaf : Sp := fun vs H Q _ => ∃ l far n, vs = [.ref l, .int far] ∧ Src H l n ∧ n + 4 ≤ 1000000000000 ∧ 1 ≤ far ∧ far ≤ 100000000000000000000000000 ∧ ∀ t p H', But l H H' → Src H' l (n + 4) → (∀ d, IsF H' d t p) → Q (.ref t) H'
def spForm (d : Nat) : Sp := fun vs H Q _ => ∃ l e far many n, vs = [.ref l, .int (e : Nat), .int far, .int many] ∧ e < d ∧ Src H l n ∧ n + costF e ≤ 1000000000000 ∧ 1 ≤ far ∧ far ≤ 100000000000000000000000000 ∧ 1 ≤ many ∧ many ≤ 100000000000000000000000000 ∧
  ∀ t p H', But l H H' → Src H' l (n + costF e) → IsF H' e t p → Q (.ref t) H'
theorem far_bits {m : Int} (h0 : 0 ≤ m) (h : m ≤ 1000000000000000000000000000) : m.natAbs < 2 ^ 8000 := Nat.lt_of_le_of_lt (show m.natAbs ≤ 1000000000000000000000000000 by omega) (by decide +kernel)
section
variable {P : Program} {w : World} {K : PySem.W.Frag} {mg : Str → Option Value} {base : Heap}
abbrev N_law_leaf : List Str := ["_law_source", "_law_far"]
theorem sc_law_leaf : FnScope N_law_leaf ["_law_source", "_law_far"] (defScope s_law_leaf) := ⟨rfl, rfl, rfl, by decide +kernel, rfl, by decide +kernel, by decide +kernel⟩

theorem r_law_leaf (T : Txt K mg) : FnR P w K mg base (L2.CX P w) 3 (He.ga K "_law_leaf") spLeaf := by
  have G_law_next : FnR P w K mg base (L2.CX P w) 1 (He.ga K "_law_next") spNext := r_law_next T
  have G_law_one : FnR P w K mg base (L2.CX P w) 2 (He.ga K "_law_one") spOne := r_law_one T
  refine fn_mk T.f_law_leaf sc_law_leaf (fun _ _ _ _ _ _ us hl => match us, hl with | [_, _], _ => rfl) (fun vs H Q E h => ?_) (fun cdv A outer s H vs Q E hr h => ?_)
  · obtain ⟨l, far, n, rfl, _⟩ := h
    rfl
  obtain ⟨l, far, n, rfl, hs, hn, f0, f1, q⟩ := h
  refine ⟨_, PSs.nox ((pss_cons (ps_if (pt_cmpR op_eq (pe_callR G_law_next (hr.mono (by omega)) rfl T.g_law_next (kp_of T.f_law_next) passL (pa_cons (pv 0) (pa_cons pe_int pa_nil))) pe_int (nomark _)) (pss_one (ps_ret (pe_tup (pa_cons pe_str (pa_cons (pe_callR G_law_one (hr.mono (by omega)) rfl T.g_law_one (kp_of T.f_law_one) passL (pa_cons (pv 0) (pa_cons (pe_lst (pa_cons pe_str (pa_cons pe_str (pa_cons pe_str pa_nil)))) pa_nil))) pa_nil))))) pss_nil)
    (pss_one (ps_ret (pe_tup (pa_cons pe_str (pa_cons (pe_callR G_law_next (hr.mono (by omega)) rfl T.g_law_next (kp_of T.f_law_next) passL (pa_cons (pv 0) (pa_cons (pe_callR G_law_one (hr.mono (by omega)) rfl T.g_law_one (kp_of T.f_law_one) passL (pa_cons (pv 0) (pa_cons (pe_lst (pa_cons pe_int (pa_cons pe_int (pa_cons (pv 1) pa_nil)))) pa_nil))) pa_nil))) pa_nil))))))), ?_⟩
  refine go_next rfl ev_c hs (by omega) (by decide) (by decide +kernel) fun r H1 r0 r1 b1 s1 => ⟨rfl, ?_⟩
  refine ⟨_, rfl, brI (fun hr => ?_) fun hr => ?_⟩
  · refine go_one rfl (ea_cons ev_c (ea_cons ev_c (ea_cons ev_c ea_nil))) s1 (by omega) (by show 0 < 3; decide) (by show 3 ≤ 1000; decide) fun x H2 hx b2 s2 => ?_
    refine ⟨by show 2 ≤ sizeLine; decide, fun t ht => ?_⟩
    have e3 := Ex.new (o := .tup [.str "fail", x]) ht
    have hz : ∃ z, x = .str z ∧ IsName z := by
      simp only [List.mem_cons, List.not_mem_nil, or_false] at hx
      rcases hx with rfl | rfl | rfl <;> exact ⟨_, rfl, name_by _ (by decide +kernel)⟩
    obtain ⟨z, rfl, hz⟩ := hz
    exact q t _ _ ((b1.trans b2).ex e3) ((s2.ext e3).mono (by omega)) fun d => .fail upd_same hz
  · refine go_nextOne (ns := [2, 5, far]) (M := max 5 far) rfl (ea_cons ev_c (ea_cons ev_c (ea_cons (ev_var rfl) ea_nil))) s1 (by omega) (by show 0 < 3; decide) (by show 3 ≤ 1000; decide) (far_bits (by omega) (by omega)) (fun m hm => ?_) fun x H2 x0 x1 b2 s2 => ?_
    · simp only [List.mem_cons, List.not_mem_nil, or_false] at hm
      omega
    refine ⟨by show 2 ≤ sizeLine; decide, fun t ht => ?_⟩
    have e3 := Ex.new (o := .tup [.str "sleep", .int x]) ht
    exact q t _ _ ((b1.trans b2).ex e3) ((s2.ext e3).mono (by omega)) fun d => .sleep upd_same x0 (by unfold mostT; omega)
end
end Cu

/-! == GenC -/
set_option maxHeartbeats 4000000
namespace Cu
open PySem PySem.Spec PyProof.Rows L2 Evl CuT
theorem inS2 (z a b : Str) : inV (.str z) [.str a, .str b] = decide (z = a ∨ z = b) := by
  show (decide (a = z) || (decide (b = z) || false)) = _
  by_cases h1 : a = z
  · rw [decide_eq_true h1, decide_eq_true (Or.inl h1.symm)]
    rfl
  · by_cases h2 : b = z
    · rw [decide_eq_false h1, decide_eq_true h2, decide_eq_true (Or.inr h2.symm)]
      rfl
    · rw [decide_eq_false h1, decide_eq_false h2, decide_eq_false (fun h => h.elim (fun h => h1 h.symm) fun h => h2 h.symm)]
      rfl
theorem hid_but {D l : Addr} {H H' : Hp} (b : But l (hid D H) H') (hD : H' D = none) (xs : HO) : But l H (upd H' D xs) ∨ H D ≠ none := by
  by_cases h : H D = none
  · rw [hid_none h] at b
    exact .inl (b.ex (Ex.new hD))
  · exact .inr h
section
variable {P : Program} {w : World} {K : PySem.W.Frag} {mg : Str → Option Value} {base : Heap}
/-- the list of forms while it grows -/
def PvF (l : Addr) (n c d : Nat) (H1 : Hp) (D : Addr) (i : Nat) (H' : Hp) : Prop := ∃ (as : List Addr) (ps : List Prog), as.length = i ∧ ps.length = i ∧ H' D = some (.lst (as.map V.ref)) ∧ But l H1 (hid D H') ∧ Src (hid D H') l (n + i * c) ∧
  ∀ (j : Nat) (x : Addr) (q : Prog), as[j]? = some x → ps[j]? = some q → IsF (hid D H') d x q
theorem pvF_step {l : Addr} {n c d i : Nat} {H1 H' : Hp} {D : Addr} (hP : PvF l n c d H1 D i H') {as : List Addr} (hD : H' D = some (.lst (as.map V.ref))) {H2 : Hp} {t : Addr} {p : Prog} (h2 : H2 D = none) (b : But l (hid D H') H2) (s : Src H2 l (n + i * c + c)) (f : IsF H2 d t p) :
    PvF l n c d H1 D (i + 1) (upd (upd H2 D (.lst (as.map V.ref))) D (.lst (as.map V.ref ++ [.ref t]))) := by
  obtain ⟨as', ps, l1, l2, hD', b1, s1, sub⟩ := hP
  have e : as' = as := by
    rw [hD] at hD'
    have := List.map_inj_right (f := V.ref) (fun _ _ h => V.ref.inj h) |>.mp (HO.lst.inj (Option.some.inj hD'))
    exact this.symm
  subst e
  rw [upd_upd]
  refine ⟨as' ++ [t], ps ++ [p], by simp [l1], by simp [l2], by rw [upd_same, List.map_append]; rfl, ?_, ?_, ?_⟩
  · rw [hid_upd, hid_none h2]
    exact b1.trans b
  · rw [hid_upd, hid_none h2, Nat.succ_mul, ← Nat.add_assoc]
    exact s
  · rw [hid_upd, hid_none h2]
    intro j x q hx hq
    by_cases hj : j < i
    · rw [List.getElem?_append_left (by omega)] at hx hq
      exact (sub j x q hx hq).but s1 b
    · have hj2 : j = i := by
        have := (List.getElem?_eq_some_iff.mp hx).1
        rw [List.length_append, l1] at this
        have h3 : [t].length = 1 := rfl
        omega
      subst hj2
      rw [List.getElem?_append_right (by omega)] at hx hq
      rw [l1, Nat.sub_self] at hx
      rw [l2, Nat.sub_self] at hq
      cases hx
      cases hq
      exact f
abbrev N_law_form : List Str := ["_law_source", "_law_depth", "_law_far", "_law_many", "_law_kinds", "_law_kind", "_law_first", "_law_names", "_law_time", "_law_k"]
theorem sc_law_form : FnScope N_law_form ["_law_source", "_law_depth", "_law_far", "_law_many"] (defScope s_law_form) := ⟨rfl, rfl, rfl, by decide +kernel, rfl, by decide +kernel, by decide +kernel⟩

theorem r_law_form {n k : Nat} (hk : 3 ≤ k) (T : Txt K mg) (F : FnR P w K mg base (L2.CX P w) k (He.ga K "_law_form") (spForm n)) : FnR P w K mg base (L2.CX P w) (k + 1) (He.ga K "_law_form") (spForm (n + 1)) := by
  have G_law_next : FnR P w K mg base (L2.CX P w) 1 (He.ga K "_law_next") spNext := r_law_next T
  have G_law_one : FnR P w K mg base (L2.CX P w) 2 (He.ga K "_law_one") spOne := r_law_one T
  have G_law_leaf : FnR P w K mg base (L2.CX P w) 3 (He.ga K "_law_leaf") spLeaf := r_law_leaf T
  have G_law_form : FnR P w K mg base (L2.CX P w) k (He.ga K "_law_form") (spAlt (spForm n) (spFr (spForm n))) := fn_alt F (frame F)
  refine fn_mk T.f_law_form sc_law_form (fun _ _ _ _ _ _ us hl => match us, hl with | [_, _, _, _], _ => rfl) (fun vs H Q E h => ?_) (fun cdv A outer s H vs Q E hr h => ?_)
  · obtain ⟨l, e, far, many, m, rfl, _⟩ := h
    rfl
  obtain ⟨l, e, far, many, m, rfl, he, hs, hm, f0, f1, m0, m1, q⟩ := h
  refine ⟨_, PSs.nox ((pss_cons (ps_set (i := 4) sc_law_form.nd rfl (Or.inl rfl) (pe_lst (pa_cons pe_str (pa_cons pe_str (pa_cons pe_str (pa_cons pe_str (pa_cons pe_str (pa_cons pe_str (pa_cons pe_str (pa_cons pe_str (pa_cons pe_str (pa_cons pe_str pa_nil))))))))))))
    (pss_cons (ps_set (i := 5) sc_law_form.nd rfl (Or.inl rfl) (pe_callR G_law_one (hr.mono (by omega)) rfl T.g_law_one (kp_of T.f_law_one) passL (pa_cons (pv 0) (pa_cons (pv 4) pa_nil))))
    (pss_cons (ps_if (PW.pt (pw_or (pt_cmpR op_eq (pv 1) pe_int (nomark _)) (pw_or1 (pt_cmpR op_eq (pv 5) pe_str (nomark _))))) (pss_one (ps_ret (pe_callR G_law_leaf (hr.mono (by omega)) rfl T.g_law_leaf (kp_of T.f_law_leaf) passL (pa_cons (pv 0) (pa_cons (pv 2) pa_nil))))) pss_nil)
    (pss_cons (ps_if (pt_cmpR op_in_seq (pv 5) (pe_tup (pa_cons pe_str (pa_cons pe_str pa_nil))) (by rfl)) (pss_one (ps_ret (pe_tup (pa_cons (pv 5) (pa_cons (pe_lc (own := [("_law_k", 9)]) (g := gName 9) (tt := tYes) (te := (tCallR (spAlt (spForm n) (spFr (spForm n))) E0 (tCons (tVar 0) (tCons (tOp (rI0 fun i j => .int (i - j)) (tVar 1) (tC (.int 1))) (tCons (tVar 2) (tCons (tVar 3) tNil)))))) (by rfl) sc_law_form.nd (pi_range1 (by rfl) T.b_range (pa_cons (pe_op op_add pe_int (pe_callR G_law_next (hr.mono (by omega)) rfl T.g_law_next (kp_of T.f_law_next) passL (pa_cons (pv 0) (pa_cons pe_int pa_nil)))) pa_nil)) (blkOk_by (own := [("_law_k", 9)]) (N := N_law_form) (sc := defScope s_law_form) (by decide +kernel)) (fun _ _ _ _ _ => (pg_name (i := 9) sc_law_form.nd rfl (Or.inl rfl))) (fun _ _ _ _ _ => pts_nil) (fun _ _ _ _ _ => (pe_callR G_law_form (hr.mono (by omega)) rfl T.g_law_form (kp_of T.f_law_form) passL (pa_cons (pv 0) (pa_cons (pe_op op_sub (pv 1) pe_int) (pa_cons (pv 2) (pa_cons (pv 3) pa_nil))))))) pa_nil))))) pss_nil)
    (pss_cons (ps_set (i := 6) sc_law_form.nd rfl (Or.inl rfl) (pe_callR G_law_form (hr.mono (by omega)) rfl T.g_law_form (kp_of T.f_law_form) passL (pa_cons (pv 0) (pa_cons (pe_op op_sub (pv 1) pe_int) (pa_cons (pv 2) (pa_cons (pv 3) pa_nil))))))
    (pss_cons (ps_if (pt_cmpR op_eq (pv 5) pe_str (nomark _)) (pss_one (ps_ret (pe_tup (pa_cons (pv 5) (pa_cons (pv 6) (pa_cons (pe_callR G_law_next (hr.mono (by omega)) rfl T.g_law_next (kp_of T.f_law_next) passL (pa_cons (pv 0) (pa_cons (pe_callR G_law_one (hr.mono (by omega)) rfl T.g_law_one (kp_of T.f_law_one) passL (pa_cons (pv 0) (pa_cons (pe_lst (pa_cons pe_int (pa_cons (pv 3) pa_nil))) pa_nil))) pa_nil))) pa_nil)))))) pss_nil)
    (pss_cons (ps_if (pt_cmpR op_eq (pv 5) pe_str (nomark _)) (pss_one (ps_ret (pe_tup (pa_cons (pv 5) (pa_cons (pv 6) pa_nil))))) pss_nil)
    (pss_cons (ps_if (pt_cmpR op_eq (pv 5) pe_str (nomark _)) (pss_one (ps_ret (pe_tup (pa_cons (pv 5) (pa_cons (pv 6) (pa_cons (pe_callR G_law_form (hr.mono (by omega)) rfl T.g_law_form (kp_of T.f_law_form) passL (pa_cons (pv 0) (pa_cons (pe_op op_sub (pv 1) pe_int) (pa_cons (pv 2) (pa_cons (pv 3) pa_nil))))) pa_nil)))))) pss_nil)
    (pss_cons (ps_if (pt_cmpR op_eq (pv 5) pe_str (nomark _)) (pss_cons (ps_set (i := 7) sc_law_form.nd rfl (Or.inl rfl) (pe_ix ix_list (pe_lst (pa_cons (pe_lst (pa_cons pe_str pa_nil)) (pa_cons (pe_lst (pa_cons pe_str (pa_cons pe_str pa_nil))) (pa_cons (pe_lst (pa_cons pe_str (pa_cons pe_str (pa_cons pe_str pa_nil)))) pa_nil)))) (pe_callR G_law_next (hr.mono (by omega)) rfl T.g_law_next (kp_of T.f_law_next) passL (pa_cons (pv 0) (pa_cons pe_int pa_nil))) (fun _ _ => rfl)))
    (pss_one (ps_ret (pe_tup (pa_cons (pv 5) (pa_cons (pv 6) (pa_cons (pv 7) (pa_cons (pe_callR G_law_form (hr.mono (by omega)) rfl T.g_law_form (kp_of T.f_law_form) passL (pa_cons (pv 0) (pa_cons (pe_op op_sub (pv 1) pe_int) (pa_cons (pv 2) (pa_cons (pv 3) pa_nil))))) pa_nil)))))))) pss_nil)
    (pss_cons (ps_set (i := 8) sc_law_form.nd rfl (Or.inl rfl) (pe_callR G_law_next (hr.mono (by omega)) rfl T.g_law_next (kp_of T.f_law_next) passL (pa_cons (pv 0) (pa_cons (pe_callR G_law_one (hr.mono (by omega)) rfl T.g_law_one (kp_of T.f_law_one) passL (pa_cons (pv 0) (pa_cons (pe_lst (pa_cons pe_int (pa_cons (pe_op op_mul pe_int (pv 2)) pa_nil))) pa_nil))) pa_nil))))
    (pss_cons (ps_if (pt_cmpR op_eq (pv 5) pe_str (nomark _)) (pss_one (ps_ret (pe_tup (pa_cons (pv 5) (pa_cons (pv 8) (pa_cons (pv 6) (pa_cons (pe_callR G_law_one (hr.mono (by omega)) rfl T.g_law_one (kp_of T.f_law_one) passL (pa_cons (pv 0) (pa_cons (pe_lst (pa_cons pe_str (pa_cons pe_str pa_nil))) pa_nil))) pa_nil))))))) pss_nil)
    (pss_one (ps_ret (pe_tup (pa_cons (pv 5) (pa_cons (pv 8) (pa_cons (pv 6) pa_nil)))))))))))))))))), ?_⟩
  have hcost : 5 ≤ costF e := by
    cases e with
    | zero => exact Nat.le_refl 5
    | succ e => unfold costF; omega
  refine q_asgL (el_lst (ea_cons ev_c (ea_cons ev_c (ea_cons ev_c (ea_cons ev_c (ea_cons ev_c (ea_cons ev_c (ea_cons ev_c (ea_cons ev_c (ea_cons ev_c (ea_cons ev_c ea_nil)))))))))) (by show 10 ≤ 100000; decide)) fun kl H1 hkl e1 h1 => ?_
  refine go_oneV rfl rfl (hs.ne hkl) h1 (hs.ext e1) (by omega) (by show 0 < 10; decide) (by show 10 ≤ 1000; decide) fun x H2 hx b2 s2 => ?_
  have hz : ∃ z : Str, x = .str z ∧ (z = "seq" ∨ z = "loop" ∨ z = "shield" ∨ z = "cleanup" ∨ z = "fallback" ∨ z = "timeout" ∨ z = "moveon" ∨ z = "together" ∨ z = "leaf") := by
    simp only [List.mem_cons, List.not_mem_nil, or_false] at hx
    rcases hx with rfl | rfl | rfl | rfl | rfl | rfl | rfl | rfl | rfl | rfl <;> exact ⟨_, rfl, by simp⟩
  obtain ⟨z, rfl, hz⟩ := hz
  have B2 : But l H H2 := (But.of e1).trans b2
  clear b2 hx hkl
  refine q_by (A := e = 0 ∨ z = "leaf") (et_or (et_eqI (ev_var rfl) ev_c) (fun _ => et_eqS (ev_var rfl) ev_c)) (by
    rw [Bool.decide_or]
    congr 1
    exact decide_eq_decide.mpr (by omega)) (fun hA H3 e3 => ?_) (fun hA H3 e3 => ?_)
  · exact ⟨_, rfl, _, rfl, l, far, m + 1, rfl, s2.ext e3, by omega, f0, f1, fun t p H' b s' f => q t p H' ((B2.ex e3).trans b) (s'.mono (by omega)) (f e)⟩
  obtain ⟨e, rfl⟩ : ∃ e', e = e' + 1 := ⟨e - 1, by omega⟩
  have hzl : z ≠ "leaf" := fun h => hA (.inr h)
  have he2 : e < n := by omega
  have B3 := B2.ex e3
  have s3 := s2.ext e3
  have hee : ((e + 1 : Nat) : Int) - 1 = ((e : Nat) : Int) := by omega
  have hvs : [V.ref l, (fun i j : Int => V.int (i - j)) ((e + 1 : Nat) : Int) 1, .int far, .int many] = [V.ref l, .int ((e : Nat) : Int), .int far, .int many] := by
    show [V.ref l, .int (((e + 1 : Nat) : Int) - 1), .int far, .int many] = _
    rw [hee]
  have hc : costF (e + 1) = 8 + 3 * costF e := rfl
  have hst := et_test (ev_inU (K := K) (ta := tVar 5) (σ := [some (.ref l), some (.int ((e + 1 : Nat) : Int)), some (.int far), some (.int many), some (.ref kl), some (.str z), none, none, none, none]) (H := H3) (ev_var rfl) (eu_tup (ea_cons (ev_c (v := .str "seq")) (ea_cons (ev_c (v := .str "together")) ea_nil)) (by show 2 ≤ 100000; decide)) rfl rfl)
  rw [inS2] at hst
  refine q_by (A := z = "seq" ∨ z = "together") hst rfl (fun hB H4 e4 => ?_) (fun hB H4 e4 => ?_)
  · refine ⟨_, rfl, go_next rfl ev_c (s3.ext e4) (by omega) (by decide) (by decide +kernel) fun r H5 r0 r1 b5 s5 => ⟨2, r, rfl, rfl, 2 + r, rfl, by omega, by omega, fun D hD => ?_⟩⟩
    have hDl : l ≠ D := Ne.symm (s5.ne hD)
    refine lc_range (lo := 0) (n := (2 + r).toNat) (PvF l (m + 2) (costF e) e H5 D) ⟨[], [], rfl, rfl, upd_same, ?_, ?_, fun j x q hx => by simp at hx⟩ (fun i H' hi hP => ?_) (fun H' hP => ?_)
    · rw [hid_upd, hid_none hD]
      exact But.of (Ex.refl _)
    · rw [hid_upd, hid_none hD]
      exact s5.mono (by omega)
    · refine ⟨rfl, ?_⟩
      obtain ⟨as, ps, l1, l2, hD', b1, s1, sub⟩ := id hP
      have hi3 : i < 3 := by omega
      have hic : i * costF e ≤ 2 * costF e := Nat.mul_le_mul_right _ (by omega)
      refine ⟨_, rfl, _, rfl, _, _, rfl, rfl, _, rfl, _, rfl, .inr ⟨D, _, hD', l, e, far, many, m + 2 + i * costF e, hvs, he2, s1, by omega, f0, f1, m0, m1, fun t p H2 b s' f h2 => ⟨as.map V.ref, upd_same, ?_, ?_⟩⟩⟩
      · rw [List.length_map, l1]
        exact sz_lt (by omega)
      · exact pvF_step hP hD' h2 b s' f
    · obtain ⟨as, ps, l1, l2, hD', b1, s1, sub⟩ := hP
      have hi3 : (2 + r).toNat ≤ 3 := by omega
      have hic : (2 + r).toNat * costF e ≤ 3 * costF e := Nat.mul_le_mul_right _ hi3
      refine ⟨by show 2 ≤ sizeLine; decide, fun t ht => ?_⟩
      have e6 : Ex H' (upd H' t (.tup [.str z, .ref D])) := Ex.new ht
      have B6 : But l H (upd H' t (.tup [.str z, .ref D])) := (((B3.ex e4).trans b5).trans (b1.ex hid_ex)).ex e6
      have s6 : Src (upd H' t (.tup [.str z, .ref D])) l (m + costF (e + 1)) := ((s1.ext hid_ex).ext e6).mono (by omega)
      have sub6 : ∀ (j : Nat) (x : Addr) (q : Prog), as[j]? = some x → ps[j]? = some q → IsF (upd H' t (.tup [.str z, .ref D])) e x q := fun j x q hx hq => ((sub j x q hx hq).ext hid_ex).ext e6
      rcases hB with rfl | rfl
      · exact q t _ _ B6 s6 (.seq upd_same (e6 _ _ hD') (by omega) (by omega) (by omega) sub6)
      · exact q t _ _ B6 s6 (.together upd_same (e6 _ _ hD') (by omega) (by omega) (by omega) sub6)
  have s4 := s3.ext e4
  refine ⟨_, rfl, _, rfl, _, _, rfl, rfl, _, rfl, _, rfl, .inl ⟨l, e, far, many, m + 1, hvs, he2, s4, by omega, f0, f1, m0, m1, fun tx p H5 b5 s5 fp => ?_⟩⟩
  have B5 := (B3.ex e4).trans b5
  clear B2 B3 b5 hst
  refine q_by (A := z = "loop") (et_eqS (ev_var rfl) ev_c) rfl (fun hC H6 e6 => ?_) (fun hC H6 e6 => ?_)
  · subst hC
    refine ⟨_, rfl, _, rfl, go_nextOne (ns := [3, many]) (M := max 3 many) rfl (ea_cons ev_c (ea_cons (ev_var rfl) ea_nil)) (s5.ext e6) (by omega) (by show 0 < 2; decide) (by show 2 ≤ 1000; decide) (far_bits (by omega) (by omega)) (fun m hm => ?_) fun y H7 y0 y1 b7 s7 => ⟨by show 3 ≤ sizeLine; decide, fun t ht => ?_⟩⟩
    · simp only [List.mem_cons, List.not_mem_nil, or_false] at hm
      omega
    have e8 : Ex H7 (upd H7 t (.tup [.str "loop", .ref tx, .int y])) := Ex.new ht
    exact q t _ _ (((B5.ex e6).trans b7).ex e8) ((s7.ext e8).mono (by omega)) (.loop upd_same (((fp.ext e6).but (s5.ext e6) b7).ext e8) y0 (by unfold mostT; omega))
  refine q_by (A := z = "shield") (et_eqS (ev_var rfl) ev_c) rfl (fun hC1 H7 e7 => ?_) (fun hC1 H7 e7 => ?_)
  · subst hC1
    refine ⟨_, rfl, _, rfl, by show 2 ≤ sizeLine; decide, fun t ht => ?_⟩
    have e8 : Ex H7 (upd H7 t (.tup [.str "shield", .ref tx])) := Ex.new ht
    exact q t _ _ (((B5.ex e6).ex e7).ex e8) ((((s5.ext e6).ext e7).ext e8).mono (by omega)) (.shield upd_same (((fp.ext e6).ext e7).ext e8))
  refine q_by (A := z = "cleanup") (et_eqS (ev_var rfl) ev_c) rfl (fun hC2 H8 e8 => ?_) (fun hC2 H8 e8 => ?_)
  · subst hC2
    have x8 := (e6.trans e7).trans e8
    refine ⟨_, rfl, _, rfl, _, rfl, _, rfl, _, _, rfl, rfl, _, rfl, _, rfl, .inl ⟨l, e, far, many, m + 1 + costF e, hvs, he2, s5.ext x8, by omega, f0, f1, m0, m1, fun ty p2 H9 b9 s9 fp2 => ⟨by show 3 ≤ sizeLine; decide, fun t ht => ?_⟩⟩⟩
    have e10 : Ex H9 (upd H9 t (.tup [.str "cleanup", .ref tx, .ref ty])) := Ex.new ht
    exact q t _ _ (((B5.ex x8).trans b9).ex e10) ((s9.ext e10).mono (by omega)) (.cleanup upd_same (((fp.ext x8).but (s5.ext x8) b9).ext e10) (fp2.ext e10))
  refine q_by (A := z = "fallback") (et_eqS (ev_var rfl) ev_c) rfl (fun hC3 H9 e9 => ?_) (fun hC3 H9 e9 => ?_)
  · subst hC3
    have x9 := ((e6.trans e7).trans e8).trans e9
    refine ⟨by show 1 ≤ sizeLine; decide, fun a1 h1 => ⟨by show 2 ≤ sizeLine; decide, fun a2 h2 => ⟨by show 3 ≤ sizeLine; decide, fun a3 h3 => ⟨by show 3 ≤ sizeLine; decide, fun a4 h4 => ?_⟩⟩⟩⟩
    have y1 : Ex H9 (upd H9 a1 (.lst [.str "net"])) := Ex.new h1
    have y2 := Ex.new (o := .lst [.str "disk", .str "late"]) h2
    have y3 := Ex.new (o := .lst [.str "late", .str "net", .str "other"]) h3
    have y4 := Ex.new (o := .lst [.ref a1, .ref a2, .ref a3]) h4
    have y := ((x9.trans y1).trans y2).trans (y3.trans y4)
    refine go_next rfl ev_c (s5.ext y) (by omega) (by decide) (by decide +kernel) fun r HA r0 r1 bA sA => ?_
    have g1 : upd (upd (upd (upd H9 a1 (.lst [.str "net"])) a2 (.lst [.str "disk", .str "late"])) a3 (.lst [.str "late", .str "net", .str "other"])) a4 (.lst [.ref a1, .ref a2, .ref a3]) a1 = some (.lst [.str "net"]) := ((y2.trans y3).trans y4) _ _ upd_same
    have g2 : upd (upd (upd (upd H9 a1 (.lst [.str "net"])) a2 (.lst [.str "disk", .str "late"])) a3 (.lst [.str "late", .str "net", .str "other"])) a4 (.lst [.ref a1, .ref a2, .ref a3]) a2 = some (.lst [.str "disk", .str "late"]) := (y3.trans y4) _ _ upd_same
    have g3 : upd (upd (upd (upd H9 a1 (.lst [.str "net"])) a2 (.lst [.str "disk", .str "late"])) a3 (.lst [.str "late", .str "net", .str "other"])) a4 (.lst [.ref a1, .ref a2, .ref a3]) a3 = some (.lst [.str "late", .str "net", .str "other"]) := y4 _ _ upd_same
    have ne : ∀ (a : Addr) (ws : List V), upd (upd (upd (upd H9 a1 (.lst [.str "net"])) a2 (.lst [.str "disk", .str "late"])) a3 (.lst [.str "late", .str "net", .str "other"])) a4 (.lst [.ref a1, .ref a2, .ref a3]) a = some (.lst ws) → (∀ i r, ws ≠ V.int i :: r) → a ≠ l := fun a ws ha hw h => by
      obtain ⟨i, r, hi⟩ := (s5.ext y).at_
      rw [h, hi] at ha
      exact hw i r (HO.lst.inj (Option.some.inj ha)).symm
    have n4 := (((s5.ext x9).ext y1).ext y2).ext y3 |>.ne h4
    have g4 : HA a4 = some (.lst [.ref a1, .ref a2, .ref a3]) := bA _ _ n4 upd_same
    have k1 := bA _ _ (ne a1 _ g1 fun i r h => nomatch h) g1
    have k2 := bA _ _ (ne a2 _ g2 fun i r h => nomatch h) g2
    have k3 := bA _ _ (ne a3 _ g3 fun i r h => nomatch h) g3
    have hw : ∃ (aw : Addr) (ws : List Str), atI [V.ref a1, .ref a2, .ref a3] r = some (.ref aw) ∧ HA aw = some (.lst (ws.map V.str)) ∧ 1 ≤ ws.length ∧ ws.length ≤ 20 ∧ (∀ z ∈ ws, IsName z) ∧ ws.Nodup := by
      have hr : r = 0 ∨ r = 1 ∨ r = 2 := by omega
      rcases hr with rfl | rfl | rfl
      · exact ⟨a1, ["net"], rfl, k1, by decide, by decide, (fun z hz => by
          simp only [List.mem_cons, List.not_mem_nil, or_false] at hz
          subst hz
          exact name_by _ (by decide +kernel)), by decide +kernel⟩
      · exact ⟨a2, ["disk", "late"], rfl, k2, by decide, by decide, (fun z hz => by
          simp only [List.mem_cons, List.not_mem_nil, or_false] at hz
          rcases hz with rfl | rfl <;> exact name_by _ (by decide +kernel)), by decide +kernel⟩
      · exact ⟨a3, ["late", "net", "other"], rfl, k3, by decide, by decide, (fun z hz => by
          simp only [List.mem_cons, List.not_mem_nil, or_false] at hz
          rcases hz with rfl | rfl | rfl <;> exact name_by _ (by decide +kernel)), by decide +kernel⟩
    obtain ⟨aw, ws, hat, hws, w1, w2, w3, w4⟩ := hw
    refine ⟨a4, _, r, _, rfl, rfl, sq_of g4, hat, ?_⟩
    refine ⟨_, rfl, _, rfl, _, rfl, _, rfl, _, rfl, _, _, rfl, rfl, _, rfl, _, rfl, .inl ⟨l, e, far, many, m + 1 + costF e + 1, hvs, he2, sA, by omega, f0, f1, m0, m1, fun ty p2 HB bB sB fp2 => ⟨by show 4 ≤ sizeLine; decide, fun t ht => ?_⟩⟩⟩
    have e10 : Ex HB (upd HB t (.tup [.str "fallback", .ref tx, .ref aw, .ref ty])) := Ex.new ht
    have naw : aw ≠ l := fun h => by
      obtain ⟨i, r, hi⟩ := sA.at_
      rw [h, hi] at hws
      cases ws <;> cases hws
    exact q t _ _ ((((B5.ex y).trans bA).trans bB).ex e10) ((sB.ext e10).mono (by omega)) (.fallback upd_same (e10 _ _ (bB _ _ naw hws)) w1 w2 w3 w4 ((((fp.ext y).but (s5.ext y) bA).but sA bB).ext e10) (fp2.ext e10))
  have x9 := ((e6.trans e7).trans e8).trans e9
  refine go_nextOne (ns := [6, 4 * far]) (M := max 6 (4 * far)) rfl (ea_cons ev_c (ea_cons (ev_op ev_c (ev_var rfl) (rv_I (.inl ⟨by decide, by decide⟩))) ea_nil)) (s5.ext x9) (by omega) (by show 0 < 2; decide) (by show 2 ≤ 1000; decide) (far_bits (by omega) (by omega)) (fun m hm => ?_) fun y HA y0 y1 bA sA => ?_
  · simp only [List.mem_cons, List.not_mem_nil, or_false] at hm
    omega
  have fpA := (fp.ext x9).but (s5.ext x9) bA
  refine q_by (A := z = "timeout") (et_eqS (ev_var rfl) ev_c) rfl (fun hC4 HB eB => ?_) (fun hC4 HB eB => ?_)
  · subst hC4
    refine ⟨_, rfl, _, rfl, _, rfl, go_one rfl (ea_cons ev_c (ea_cons ev_c ea_nil)) (sA.ext eB) (by omega) (by show 0 < 2; decide) (by show 2 ≤ 1000; decide) fun x HC hx bC sC => ⟨by show 4 ≤ sizeLine; decide, fun t ht => ?_⟩⟩
    have hz : ∃ z, x = .str z ∧ IsName z := by
      simp only [List.mem_cons, List.not_mem_nil, or_false] at hx
      rcases hx with rfl | rfl <;> exact ⟨_, rfl, name_by _ (by decide +kernel)⟩
    obtain ⟨z2, rfl, hz2⟩ := hz
    have e10 : Ex HC (upd HC t (.tup [.str "timeout", .int y, .ref tx, .str z2])) := Ex.new ht
    exact q t _ _ (((((B5.ex x9).trans bA).ex eB).trans bC).ex e10) ((sC.ext e10).mono (by omega)) (.timeout upd_same hz2 (((fpA.ext eB).but (sA.ext eB) bC).ext e10) y0 (by unfold mostT; omega))
  have hmv : z = "moveon" := by
    rcases hz with h | h | h | h | h | h | h | h | h
    · exact absurd (.inl h) hB
    · exact absurd h hC
    · exact absurd h hC1
    · exact absurd h hC2
    · exact absurd h hC3
    · exact absurd h hC4
    · exact h
    · exact absurd (.inr h) hB
    · exact absurd h hzl
  subst hmv
  refine ⟨_, rfl, _, rfl, _, rfl, by show 3 ≤ sizeLine; decide, fun t ht => ?_⟩
  have e10 : Ex HB (upd HB t (.tup [.str "moveon", .int y, .ref tx])) := Ex.new ht
  exact q t _ _ ((((B5.ex x9).trans bA).ex eB).ex e10) (((sA.ext eB).ext e10).mono (by omega)) (.moveon upd_same ((fpA.ext eB).ext e10) y0 (by unfold mostT; omega))
theorem form_all (T : Txt K mg) : ∀ n : Nat, FnR P w K mg base (L2.CX P w) (3 + n) (He.ga K "_law_form") (spForm n)
  | 0 => fun A outer s H us vs Q E hr e0 r h => by
    obtain ⟨l, e, far, many, m, _, he, _⟩ := h
    omega
  | n + 1 => by
    have h := r_law_form (by omega) T (form_all T n)
    exact h
end
end Cu

/-! == GenD -/
set_option maxHeartbeats 4000000
namespace Cu
open PySem PySem.Spec PyProof.Rows L2 Evl CuT
/-! ### what forms make is within the limits -/
def nF : Nat → Int
  | 0 => 1
  | d + 1 => 1 + 3 * nF d
theorem nF_pos : ∀ d, 1 ≤ nF d
  | 0 => by decide
  | d + 1 => by have := nF_pos d; unfold nF; omega
def Small (p : Prog) (N D : Int) : Prop := WF p ∧ p.nodes ≤ N ∧ p.depth ≤ D
theorem depthOf_le {ps : List Prog} {D : Int} (h0 : 0 ≤ D) (h : ∀ p ∈ ps, p.depth ≤ D) : depthOf ps ≤ D + 1 := by
  have : maxL (0 :: ps.map Prog.depth) ≤ D := maxL_le (by simp) fun a ha => by
    rcases List.mem_cons.mp ha with e | e
    · omega
    · obtain ⟨p, hp, rfl⟩ := List.mem_map.mp e
      exact h p hp
  unfold depthOf
  omega
theorem sum_le_len {N : Int} : ∀ {ps : List Prog}, (∀ p ∈ ps, p.nodes ≤ N) → (ps.map Prog.nodes).sum ≤ ps.length * N
  | [], _ => by simp
  | p :: r, h => by
    have h1 := h p List.mem_cons_self
    have h2 := sum_le_len fun q hq => h q (List.mem_cons_of_mem _ hq)
    rw [List.map_cons, List.sum_cons, List.length_cons]
    have e : ((r.length + 1 : Nat) : Int) * N = r.length * N + N := by
      rw [show ((r.length + 1 : Nat) : Int) = r.length + 1 from rfl, Int.add_mul, Int.one_mul]
    omega
theorem mk_small {k : Kind} {ps : List Prog} {n : Int} {ws : List Str} {N D : Int} (h : ∀ p ∈ ps, Small p N D) (sh : Shape k ps n ws) (hl : ps.length ≤ 3) (n0 : 1 ≤ N) (d0 : 0 ≤ D) (n1 : 1 + 3 * N ≤ 300) (d1 : D + 1 ≤ 60) : MkOk k ps n ws ∧ Small (mkP k ps n ws) (1 + 3 * N) (D + 1) := by
  have a := sum_le_len (N := N) fun p hp => (h p hp).2.1
  have b : (ps.length : Int) * N ≤ 3 * N := Int.mul_le_mul_of_nonneg_right (by omega) (by omega)
  have c : nodesOf ps ≤ 1 + 3 * N := by unfold nodesOf; omega
  have d : depthOf ps ≤ D + 1 := depthOf_le d0 fun p hp => (h p hp).2.2
  have m : MkOk k ps n ws := ⟨fun p hp => (h p hp).1, sh, by omega, by omega⟩
  exact ⟨m, m.ok, c, d⟩
/-- by the flat parts -/
def FlatOk (p : Prog) (S D : Int) : Prop := WF p ∧ ((flatP p).map Prog.nodes).sum ≤ S ∧ ∀ q ∈ flatP p, WF q ∧ q.depth ≤ D
theorem flat_of {p : Prog} {N D : Int} (h : Small p N D) : FlatOk p N D := by
  obtain ⟨w, n, d⟩ := h
  unfold FlatOk flatP
  by_cases hk : p.kind = .seq
  · rw [if_pos hk]
    refine ⟨w, ?_, fun q hq => ⟨w.sub hq, by have := w.depth_sub hq; omega⟩⟩
    cases w with
    | mk sub sh hn hd hm ln ld =>
      have e : nodesOf _ ≤ N := hn ▸ n
      unfold nodesOf at e
      show (List.map Prog.nodes _).sum ≤ N
      simp only [Prog.parts] at *
      omega
  · rw [if_neg hk]
    refine ⟨w, by simpa using n, fun q hq => ?_⟩
    rw [List.mem_singleton.mp hq]
    exact ⟨w, d⟩
theorem flat_ne {p : Prog} (w : WF p) : flatP p ≠ [] := by
  unfold flatP
  by_cases hk : p.kind = .seq
  · rw [if_pos hk]
    have := w.shape
    rw [hk] at this
    exact this.1
  · rw [if_neg hk]
    simp
theorem add_ok {p q : Prog} {S S' D : Int} (h : FlatOk p S D) (h' : FlatOk q S' D) (d0 : 0 ≤ D) (d1 : D + 1 ≤ 60) (n1 : 1 + S + S' ≤ 300) : MkOk .seq (flatP p ++ flatP q) 0 [] ∧ FlatOk (addP p q) (S + S') D ∧ Small (addP p q) (1 + S + S') (D + 1) := by
  obtain ⟨w, s, d⟩ := h
  obtain ⟨w', s', d'⟩ := h'
  have all : ∀ x ∈ flatP p ++ flatP q, WF x ∧ x.depth ≤ D := fun x hx => (List.mem_append.mp hx).elim (d x) (d' x)
  have sum : ((flatP p ++ flatP q).map Prog.nodes).sum ≤ S + S' := by
    rw [List.map_append, List.sum_append]
    omega
  have nn : nodesOf (flatP p ++ flatP q) ≤ 1 + S + S' := by unfold nodesOf; omega
  have dd : depthOf (flatP p ++ flatP q) ≤ D + 1 := depthOf_le d0 fun x hx => (all x hx).2
  have m : MkOk .seq (flatP p ++ flatP q) 0 [] := ⟨fun x hx => (all x hx).1, ⟨fun e => flat_ne w (List.append_eq_nil_iff.mp e).1, rfl, rfl⟩, by omega, by omega⟩
  have ef : flatP (addP p q) = flatP p ++ flatP q := by
    show (if (addP p q).kind = .seq then (addP p q).parts else [addP p q]) = _
    rw [if_pos (show (addP p q).kind = .seq from rfl)]
    rfl
  refine ⟨m, ⟨m.ok, by rw [ef]; exact sum, by rw [ef]; exact all⟩, m.ok, nn, dd⟩
theorem nF_le {d : Nat} (h : d ≤ 4) : nF d ≤ 121 := by
  have : d = 0 ∨ d = 1 ∨ d = 2 ∨ d = 3 ∨ d = 4 := by omega
  rcases this with rfl | rfl | rfl | rfl | rfl <;> decide
theorem nF_le3 {d : Nat} (h : d ≤ 3) : nF d ≤ 40 := by
  have : d = 0 ∨ d = 1 ∨ d = 2 ∨ d = 3 := by omega
  rcases this with rfl | rfl | rfl | rfl <;> decide
theorem seq_small {d : Nat} (hd : d ≤ 3) {ps : List Prog} (h2 : 2 ≤ ps.length) (h3 : ps.length ≤ 3) (h : ∀ p ∈ ps, Small p (nF d) (d + 1)) : Small (seqF ps) (nF (d + 1)) ((d : Int) + 1 + 1) := by
  have p0 := nF_pos d
  have p1 := nF_le3 hd
  have e : nF (d + 1) = 1 + 3 * nF d := rfl
  match ps, h2, h3, h with
  | [a, b], _, _, h =>
    obtain ⟨_, _, w, n, d'⟩ := add_ok (flat_of (h a (by simp))) (flat_of (h b (by simp))) (by omega) (by omega) (by omega)
    exact ⟨w, by show (addP a b).nodes ≤ _; omega, d'⟩
  | [a, b, c], _, _, h =>
    obtain ⟨_, f, _⟩ := add_ok (flat_of (h a (by simp))) (flat_of (h b (by simp))) (by omega) (by omega) (by omega)
    obtain ⟨_, _, w, n, d'⟩ := add_ok f (flat_of (h c (by simp))) (by omega) (by omega) (by omega)
    exact ⟨w, by show (addP (addP a b) c).nodes ≤ _; omega, d'⟩
theorem small1 {p : Prog} {N D : Int} (h : Small p N D) : ∀ q ∈ [p], Small q N D := fun q hq => by
  rw [List.mem_singleton.mp hq]
  exact h
theorem small2 {p p2 : Prog} {N D : Int} (h : Small p N D) (h2 : Small p2 N D) : ∀ q ∈ [p, p2], Small q N D := fun q hq => by
  rcases List.mem_cons.mp hq with e | e
  · rw [e]
    exact h
  · rw [List.mem_singleton.mp e]
    exact h2
theorem isF_small {H : Hp} {d : Nat} {t : Addr} {p : Prog} (h : IsF H d t p) (hd : d ≤ 4) : Small p (nF d) (d + 1) := by
  have key0 : ∀ {d : Nat} {k : Kind} {n : Int} {ws : List Str}, Shape k [] n ws → Small (mkP k [] n ws) (nF d) (d + 1) := fun {d k n ws} sh => by
    have m := mk0 sh
    exact ⟨m.ok, nF_pos d, by show (1 : Int) ≤ d + 1; omega⟩
  have key : ∀ {d : Nat} {k : Kind} {ps : List Prog} {n : Int} {ws : List Str}, d ≤ 3 → (∀ p ∈ ps, Small p (nF d) (d + 1)) → Shape k ps n ws → ps.length ≤ 3 → Small (mkP k ps n ws) (nF (d + 1)) ((d + 1 : Nat) + 1) := fun {d k ps n ws} hd h sh hl => by
    have := (mk_small h sh hl (nF_pos d) (by omega) (by have := nF_le3 hd; omega) (by omega)).2
    exact this
  induction h with
  | sleep ht h0 h1 => exact key0 (k := .sleep) ⟨rfl, h0, h1, rfl⟩
  | fail ht hz => exact key0 (k := .fail) ⟨rfl, rfl, _, rfl, hz⟩
  | seq ht hl len h2 h3 sub ih =>
    refine seq_small (by omega) h2 h3 fun p hp => ?_
    obtain ⟨i, hi, e⟩ := List.mem_iff_getElem.mp hp
    exact ih i _ p (List.getElem?_eq_getElem (by omega)) (by rw [List.getElem?_eq_getElem hi, e]) (by omega)
  | together ht hl len h2 h3 sub ih =>
    rename_i d _ _ _ ps
    have ms : ∀ p ∈ ps, Small p (nF d) (d + 1) := fun p hp => by
      obtain ⟨i, hi, e⟩ := List.mem_iff_getElem.mp hp
      exact ih i _ p (List.getElem?_eq_getElem (by omega)) (by rw [List.getElem?_eq_getElem hi, e]) (by omega)
    exact key (k := .together) (by omega) ms ⟨fun e => by rw [e] at h2; exact absurd h2 (by decide), by omega, rfl, rfl⟩ h3
  | loop ht sub h0 h1 ih => exact key (k := .loop) (by omega) (small1 (ih (by omega))) ⟨⟨_, rfl⟩, h0, h1, rfl⟩ (by show 1 ≤ 3; decide)
  | shield ht sub ih => exact key (k := .shield) (by omega) (small1 (ih (by omega))) ⟨⟨_, rfl⟩, rfl, rfl⟩ (by show 1 ≤ 3; decide)
  | cleanup ht sub sub2 ih ih2 => exact key (k := .cleanup) (by omega) (small2 (ih (by omega)) (ih2 (by omega))) ⟨⟨_, _, rfl⟩, rfl, rfl⟩ (by show 2 ≤ 3; decide)
  | fallback ht hw n1 n2 n3 n4 sub sub2 ih ih2 => exact key (k := .fallback) (by omega) (small2 (ih (by omega)) (ih2 (by omega))) ⟨⟨_, _, rfl⟩, rfl, n2⟩ (by show 2 ≤ 3; decide)
  | timeout ht hz sub h0 h1 ih => exact key (k := .timeout) (by omega) (small1 (ih (by omega))) ⟨⟨_, rfl⟩, h0, h1, _, rfl, hz⟩ (by show 1 ≤ 3; decide)
  | moveon ht sub h0 h1 ih => exact key (k := .moveon) (by omega) (small1 (ih (by omega))) ⟨⟨_, rfl⟩, h0, h1, rfl⟩ (by show 1 ≤ 3; decide)
/-- what makes up a small program may be made -/
theorem mk_of {d : Nat} {k : Kind} {ps : List Prog} {n : Int} {ws : List Str} (hd : d + 1 ≤ 4) (h : ∀ p ∈ ps, Small p (nF d) (d + 1)) (sh : Shape k ps n ws) (hl : ps.length ≤ 3) : MkOk k ps n ws :=
  (mk_small h sh hl (nF_pos d) (by omega) (by have := nF_le3 (d := d) (by omega); omega) (by omega)).1
section
variable {P : Program} {w : World} {K : PySem.W.Frag} {mg : Str → Option Value} {base : Heap}
def spMade (C : Addr) (n : Nat) : Sp := fun vs H Q _ => ∃ t p e, vs = [.ref t] ∧ e < n ∧ e ≤ 4 ∧ IsF H e t p ∧ RetP C p H Q
/-- the list of programs while it grows -/
def PvM (C : Addr) (ps : List Prog) (H1 : Hp) (D : Addr) (i : Nat) (H' : Hp) : Prop := ∃ as : List Addr, as.length = i ∧ H' D = some (.lst (as.map V.ref)) ∧ Ex H1 (hid D H') ∧
  ∀ (j : Nat) (x : Addr) (q : Prog), as[j]? = some x → ps[j]? = some q → IsP C (hid D H') x q
theorem pvM_step {C : Addr} {ps : List Prog} {i : Nat} {H1 H' : Hp} {D : Addr} (hP : PvM C ps H1 D i H') {as : List Addr} (hD : H' D = some (.lst (as.map V.ref))) {H2 : Hp} {t : Addr} {p : Prog} (h2 : H2 D = none) (b : Ex (hid D H') H2) (hp : ps[i]? = some p) (f : IsP C H2 t p) :
    PvM C ps H1 D (i + 1) (upd (upd H2 D (.lst (as.map V.ref))) D (.lst (as.map V.ref ++ [.ref t]))) := by
  obtain ⟨as', l1, hD', b1, sub⟩ := hP
  have e : as' = as := by
    rw [hD] at hD'
    have := List.map_inj_right (f := V.ref) (fun _ _ h => V.ref.inj h) |>.mp (HO.lst.inj (Option.some.inj hD'))
    exact this.symm
  subst e
  rw [upd_upd]
  refine ⟨as' ++ [t], by simp [l1], by rw [upd_same, List.map_append]; rfl, ?_, ?_⟩
  · rw [hid_upd, hid_none h2]
    exact b1.trans b
  · rw [hid_upd, hid_none h2]
    intro j x q hx hq
    by_cases hj : j < i
    · rw [List.getElem?_append_left (by omega)] at hx
      exact (sub j x q hx hq).ext b
    · have hj2 : j = i := by
        have := (List.getElem?_eq_some_iff.mp hx).1
        rw [List.length_append, l1] at this
        have h3 : [t].length = 1 := rfl
        omega
      subst hj2
      rw [List.getElem?_append_right (by omega), l1, Nat.sub_self] at hx
      rw [hp] at hq
      cases hx
      cases hq
      exact f
abbrev N_law_made : List Str := ["_law_form_here", "_law_kind", "_law_found", "_law_part"]
theorem sc_law_made : FnScope N_law_made ["_law_form_here"] (defScope s_law_made) := ⟨rfl, rfl, rfl, by decide +kernel, rfl, by decide +kernel, by decide +kernel⟩

theorem r_law_made {n k : Nat} (hk : 128 ≤ k) (T : Txt K mg) (F : FnR P w K mg base (L2.CX P w) k (He.ga K "_law_made") (spMade (PC K) n)) : FnR P w K mg base (L2.CX P w) (k + 1) (He.ga K "_law_made") (spMade (PC K) (n + 1)) := by
  have G_sleep : FnR P w K mg base (L2.CX P w) 128 (He.ga K "sleep") (spSleep (PC K)) := r_sleep T
  have G_fail : FnR P w K mg base (L2.CX P w) 128 (He.ga K "fail") (spFail (PC K)) := r_fail T
  have G_shield : FnR P w K mg base (L2.CX P w) 128 (He.ga K "shield") (spShield (PC K)) := r_shield T
  have G_cleanup : FnR P w K mg base (L2.CX P w) 128 (He.ga K "cleanup") (spCleanup (PC K)) := r_cleanup T
  have G_fallback : FnR P w K mg base (L2.CX P w) 128 (He.ga K "fallback") (spFallback (PC K)) := r_fallback T
  have G_timeout : FnR P w K mg base (L2.CX P w) 128 (He.ga K "timeout") (spTimeout (PC K)) := r_timeout T
  have G_move_on : FnR P w K mg base (L2.CX P w) 128 (He.ga K "move_on") (spMoveon (PC K)) := r_move_on T
  have G_together : FnR P w K mg base (L2.CX P w) 128 (He.ga K "together") (spTogether (PC K)) := r_together T
  have G_Program_add : FnR P w K mg base (L2.CX P w) 128 (He.ma K (He.ga K "Program") "__add__") (spAdd (PC K)) := r_Program_add T
  have G_Program_mul : FnR P w K mg base (L2.CX P w) 128 (He.ma K (He.ga K "Program") "__mul__") (spMul (PC K)) := r_Program_mul T
  have G_law_made : FnR P w K mg base (L2.CX P w) k (He.ga K "_law_made") (spAlt (spMade (PC K) n) (spFr (spMade (PC K) n))) := fn_alt F (frame F)
  refine fn_mk T.f_law_made sc_law_made (fun _ _ _ _ _ _ us hl => match us, hl with | [_], _ => rfl) (fun vs H Q E h => ?_) (fun cdv A outer s H vs Q E hr h => ?_)
  · obtain ⟨t, p, e, rfl, _⟩ := h
    rfl
  obtain ⟨t, p, e, rfl, he, he4, hf, q⟩ := h
  refine ⟨_, PSs.nox ((pss_cons (ps_set (i := 1) sc_law_made.nd rfl (Or.inl rfl) (pe_ix ix_tup (pv 0) pe_int (fun _ _ => rfl)))
    (pss_cons (ps_if (pt_cmpR op_eq (pv 1) pe_str (nomark _)) (pss_one (ps_ret (pe_callR G_sleep (hr.mono (by omega)) rfl T.g_sleep (kp_of T.f_sleep) passL (pa_cons (pe_ix ix_tup (pv 0) pe_int (fun _ _ => rfl)) pa_nil)))) pss_nil)
    (pss_cons (ps_if (pt_cmpR op_eq (pv 1) pe_str (nomark _)) (pss_one (ps_ret (pe_callR G_fail (hr.mono (by omega)) rfl T.g_fail (kp_of T.f_fail) passL (pa_cons (pe_ix ix_tup (pv 0) pe_int (fun _ _ => rfl)) pa_nil)))) pss_nil)
    (pss_cons (ps_if (pt_cmpR op_eq (pv 1) pe_str (nomark _)) (pss_cons (ps_set (i := 2) sc_law_made.nd rfl (Or.inl rfl) (pe_callR G_law_made (hr.mono (by omega)) rfl T.g_law_made (kp_of T.f_law_made) passL (pa_cons (pe_ix ix_list (pe_ix ix_tup (pv 0) pe_int (fun _ _ => rfl)) pe_int (fun _ _ => rfl)) pa_nil)))
    (pss_cons (ps_for PassesOwn.never rfl (pi_list (pe_slice sl_list (pe_ix ix_tup (pv 0) pe_int (fun _ _ => rfl)) (po_some pe_int) po_none)) (pg_name (i := 3) sc_law_made.nd rfl (Or.inl rfl)) (pss_one (ps_set (i := 2) sc_law_made.nd rfl (Or.inl rfl) (pe_op (op_addP T G_Program_add (hr.mono (by omega))) (pv 2) (pe_callR G_law_made (hr.mono (by omega)) rfl T.g_law_made (kp_of T.f_law_made) passL (pa_cons (pv 3) pa_nil))))))
    (pss_one (ps_ret (pv 2))))) pss_nil)
    (pss_cons (ps_if (pt_cmpR op_eq (pv 1) pe_str (nomark _)) (pss_one (ps_ret (pe_op (op_mulP T G_Program_mul (hr.mono (by omega))) (pe_callR G_law_made (hr.mono (by omega)) rfl T.g_law_made (kp_of T.f_law_made) passL (pa_cons (pe_ix ix_tup (pv 0) pe_int (fun _ _ => rfl)) pa_nil)) (pe_ix ix_tup (pv 0) pe_int (fun _ _ => rfl))))) pss_nil)
    (pss_cons (ps_if (pt_cmpR op_eq (pv 1) pe_str (nomark _)) (pss_one (ps_ret (pe_callR G_shield (hr.mono (by omega)) rfl T.g_shield (kp_of T.f_shield) passL (pa_cons (pe_callR G_law_made (hr.mono (by omega)) rfl T.g_law_made (kp_of T.f_law_made) passL (pa_cons (pe_ix ix_tup (pv 0) pe_int (fun _ _ => rfl)) pa_nil)) pa_nil)))) pss_nil)
    (pss_cons (ps_if (pt_cmpR op_eq (pv 1) pe_str (nomark _)) (pss_one (ps_ret (pe_callR G_cleanup (hr.mono (by omega)) rfl T.g_cleanup (kp_of T.f_cleanup) passL (pa_cons (pe_callR G_law_made (hr.mono (by omega)) rfl T.g_law_made (kp_of T.f_law_made) passL (pa_cons (pe_ix ix_tup (pv 0) pe_int (fun _ _ => rfl)) pa_nil)) (pa_cons (pe_callR G_law_made (hr.mono (by omega)) rfl T.g_law_made (kp_of T.f_law_made) passL (pa_cons (pe_ix ix_tup (pv 0) pe_int (fun _ _ => rfl)) pa_nil)) pa_nil))))) pss_nil)
    (pss_cons (ps_if (pt_cmpR op_eq (pv 1) pe_str (nomark _)) (pss_one (ps_ret (pe_callR G_fallback (hr.mono (by omega)) rfl T.g_fallback (kp_of T.f_fallback) passL (pa_cons (pe_callR G_law_made (hr.mono (by omega)) rfl T.g_law_made (kp_of T.f_law_made) passL (pa_cons (pe_ix ix_tup (pv 0) pe_int (fun _ _ => rfl)) pa_nil)) (pa_cons (pe_callTy call_list_of (by rfl) T.b_list (by decide +kernel) (pa_cons (pe_ix ix_tup (pv 0) pe_int (fun _ _ => rfl)) pa_nil)) (pa_cons (pe_callR G_law_made (hr.mono (by omega)) rfl T.g_law_made (kp_of T.f_law_made) passL (pa_cons (pe_ix ix_tup (pv 0) pe_int (fun _ _ => rfl)) pa_nil)) pa_nil)))))) pss_nil)
    (pss_cons (ps_if (pt_cmpR op_eq (pv 1) pe_str (nomark _)) (pss_one (ps_ret (pe_callR G_timeout (hr.mono (by omega)) rfl T.g_timeout (kp_of T.f_timeout) passL (pa_cons (pe_ix ix_tup (pv 0) pe_int (fun _ _ => rfl)) (pa_cons (pe_callR G_law_made (hr.mono (by omega)) rfl T.g_law_made (kp_of T.f_law_made) passL (pa_cons (pe_ix ix_tup (pv 0) pe_int (fun _ _ => rfl)) pa_nil)) (pa_cons (pe_ix ix_tup (pv 0) pe_int (fun _ _ => rfl)) pa_nil)))))) pss_nil)
    (pss_cons (ps_if (pt_cmpR op_eq (pv 1) pe_str (nomark _)) (pss_one (ps_ret (pe_callR G_move_on (hr.mono (by omega)) rfl T.g_move_on (kp_of T.f_move_on) passL (pa_cons (pe_ix ix_tup (pv 0) pe_int (fun _ _ => rfl)) (pa_cons (pe_callR G_law_made (hr.mono (by omega)) rfl T.g_law_made (kp_of T.f_law_made) passL (pa_cons (pe_ix ix_tup (pv 0) pe_int (fun _ _ => rfl)) pa_nil)) pa_nil))))) pss_nil)
    (pss_one (ps_ret (pe_callR G_together (hr.mono (by omega)) rfl T.g_together (kp_of T.f_together) passL (pa_cons (pe_lc (own := [("_law_part", 3)]) (g := gName 3) (tt := tYes) (te := (tCallR (spAlt (spMade (PC K) n) (spFr (spMade (PC K) n))) E0 (tCons (tVar 3) tNil))) (by rfl) sc_law_made.nd (pi_list (pe_ix ix_tup (pv 0) pe_int (fun _ _ => rfl))) (blkOk_by (own := [("_law_part", 3)]) (N := N_law_made) (sc := defScope s_law_made) (by decide +kernel)) (fun _ _ _ _ _ => (pg_name (i := 3) sc_law_made.nd rfl (Or.inl rfl))) (fun _ _ _ _ _ => pts_nil) (fun _ _ _ _ _ => (pe_callR G_law_made (hr.mono (by omega)) rfl T.g_law_made (kp_of T.f_law_made) passL (pa_cons (pv 3) pa_nil)))) pa_nil))))))))))))))), ?_⟩
  cases hf with

  | sleep ht h0 h1 =>
    refine q_asg (ev_atT (K := K) (i := 0) (ev_var rfl) ht rfl) fun H0 E0' => ?_
    refine q_yes (et_is (et_eqS (ev_var rfl) ev_c) (decide_eq_true rfl)) fun H1 f1 => ?_
    have E1' := E0'.trans f1
    have X := E1'
    clear E0' E1'
    exact ⟨_, rfl, t, _, 1, _, rfl, rfl, st_of ((X) _ _ ht), rfl, _, rfl, h0, h1, q.ext X⟩
  | fail ht hz =>
    refine q_asg (ev_atT (K := K) (i := 0) (ev_var rfl) ht rfl) fun H0 E0' => ?_
    refine q_no (et_is (et_eqS (ev_var rfl) ev_c) (by decide +kernel)) fun H1 f1 => ?_
    have E1' := E0'.trans f1
    refine q_yes (et_is (et_eqS (ev_var rfl) ev_c) (decide_eq_true rfl)) fun H2 f2 => ?_
    have E2' := E1'.trans f2
    have X := E2'
    clear E0' E1' E2'
    exact ⟨_, rfl, t, _, 1, _, rfl, rfl, st_of ((X) _ _ ht), rfl, _, rfl, hz, q.ext X⟩
  | seq ht hl len h2 h3 sub =>
    refine q_asg (ev_atT (K := K) (i := 0) (ev_var rfl) ht rfl) fun H0 E0' => ?_
    refine q_no (et_is (et_eqS (ev_var rfl) ev_c) (by decide +kernel)) fun H1 f1 => ?_
    have E1' := E0'.trans f1
    refine q_no (et_is (et_eqS (ev_var rfl) ev_c) (by decide +kernel)) fun H2 f2 => ?_
    have E2' := E1'.trans f2
    refine q_yes (et_is (et_eqS (ev_var rfl) ev_c) (decide_eq_true rfl)) fun H3 f3 => ?_
    have E3' := E2'.trans f3
    have X := E3'
    clear E0' E1' E2' E3'
    rename_i d lf as ps
    have ms : ∀ p ∈ ps, Small p (nF d) (d + 1) := fun p hp => by
      obtain ⟨i, hi, e⟩ := List.mem_iff_getElem.mp hp
      exact isF_small (sub i _ p (List.getElem?_eq_getElem (by omega)) (by rw [List.getElem?_eq_getElem hi, e])) (by omega)
    obtain ⟨p0, pr, rfl⟩ : ∃ p0 pr, ps = p0 :: pr := by
      cases ps with
      | nil => exact absurd h2 (by decide)
      | cons a r => exact ⟨a, r, rfl⟩
    obtain ⟨a0, ar, rfl⟩ : ∃ a0 ar, as = a0 :: ar := by
      cases as with
      | nil => rw [← len] at h2; exact absurd h2 (by decide)
      | cons a r => exact ⟨a, r, rfl⟩
    have lr : ar.length = pr.length := by simpa using len
    have lp : pr.length ≤ 2 := by simpa using h3
    have nf := nF_le3 (d := d) (by omega)
    have nf1 := nF_pos d
    refine ⟨_, rfl, t, _, 1, _, rfl, rfl, st_of ((X) _ _ ht), rfl, _, _, 0, _, rfl, rfl, sq_of (X _ _ hl), at_of (j := 0) rfl rfl, .inl ⟨a0, p0, d, rfl, by omega, by omega, (sub 0 a0 p0 rfl rfl).ext X, fun Ha a ea1 hp => ?_⟩⟩
    have XA := X.trans ea1
    have hsl := el_sl (K := K) (te := tOp (rIxT K) (tVar 0) (tC (.int 1))) (σ := [some (.ref t), some (.str "seq"), some (.ref a), none]) (H := Ha) (tl := tPart (tC (.int 1))) (th := tNoPart) (lo := some ((1 : Nat) : Int)) (hi := none) (ev_atT (K := K) (i := 1) (ev_var rfl) (XA _ _ ht) rfl) (eo_some ev_c) eo_none (sq_of (XA _ _ hl))
    rw [cutV_drop (by rw [List.length_map]; simp)] at hsl
    refine q_forNLn (xs := ar.map V.ref) hsl (fun p i σ' H' => Ex Ha H' ∧ H' p = some (.lst (ar.map V.ref)) ∧ ∃ (b : Addr) (v : Option V) (S : Int), σ' = [some (.ref t), some (.str "seq"), some (.ref b), v] ∧ IsP (PC K) H' b ((pr.take i).foldl addP p0) ∧ FlatOk ((pr.take i).foldl addP p0) S (d + 1) ∧ S ≤ (i + 1) * nF d) (fun p H1 hn e1 h1 => ⟨e1, h1, a, none, nF d, rfl, hp.ext e1, flat_of (ms p0 (by simp)), by simp⟩)
      (fun p i σ' H' _ hP => sq_of hP.2.1) (fun p i x σ' H' hx hP => ?_) (fun p σ' H' hP => ?_)
    · obtain ⟨e1, h1, b, v, S, rfl, hb, fo, hS⟩ := hP
      rw [List.getElem?_map] at hx
      obtain ⟨y, hy, rfl⟩ := Option.map_eq_some_iff.mp hx
      have hi : i < ar.length := (List.getElem?_eq_some_iff.mp hy).1
      have hpi : pr[i]? = some pr[i] := List.getElem?_eq_getElem (by omega)
      refine ⟨_, rfl, _, rfl, .inl ⟨y, pr[i], d, rfl, by omega, by omega, ((sub (i + 1) y pr[i] hy hpi).ext XA).ext e1, fun H2 c ec hc => ?_⟩⟩
      obtain ⟨dx, _, _, eb, _⟩ := (hb.ext ec).at_
      obtain ⟨dy, _, _, eb2, _⟩ := hc.at_
      have hSi : ((i : Int) + 1) * nF d ≤ 2 * nF d := Int.mul_le_mul_of_nonneg_right (by omega) (by omega)
      obtain ⟨mo, fo2, _⟩ := add_ok fo (flat_of (ms pr[i] (List.mem_cons_of_mem _ (List.getElem_mem _)))) (by omega) (by omega) (by omega)
      refine ⟨b, dx, _, rfl, eb, .inr ⟨c, dy, _, rfl, eb2⟩, b, c, _, _, rfl, hb.ext ec, hc, mo, fun H3 z e3 hz => ⟨(e1.trans ec).trans e3, (ec.trans e3) _ _ h1, z, _, S + nF d, rfl, ?_, ?_, ?_⟩⟩
      · rw [List.take_succ, hpi]
        simp only [Option.toList_some, List.foldl_append, List.foldl_cons, List.foldl_nil]
        exact hz
      · rw [List.take_succ, hpi]
        simp only [Option.toList_some, List.foldl_append, List.foldl_cons, List.foldl_nil]
        exact fo2
      · have e : ((i + 1 : Nat) : Int) + 1 = (i : Int) + 1 + 1 := rfl
        rw [e, Int.add_mul ((i : Int) + 1), Int.one_mul]
        omega
    · obtain ⟨e1, h1, b, v, S, rfl, hb, _⟩ := hP
      rw [List.length_map, lr, List.take_length] at hb
      exact ⟨_, rfl, q _ b (XA.trans e1) hb⟩
  | loop ht sub h0 h1 =>
    refine q_asg (ev_atT (K := K) (i := 0) (ev_var rfl) ht rfl) fun H0 E0' => ?_
    refine q_no (et_is (et_eqS (ev_var rfl) ev_c) (by decide +kernel)) fun H1 f1 => ?_
    have E1' := E0'.trans f1
    refine q_no (et_is (et_eqS (ev_var rfl) ev_c) (by decide +kernel)) fun H2 f2 => ?_
    have E2' := E1'.trans f2
    refine q_no (et_is (et_eqS (ev_var rfl) ev_c) (by decide +kernel)) fun H3 f3 => ?_
    have E3' := E2'.trans f3
    refine q_yes (et_is (et_eqS (ev_var rfl) ev_c) (decide_eq_true rfl)) fun H4 f4 => ?_
    have E4' := E3'.trans f4
    have X := E4'
    clear E0' E1' E2' E3' E4'
    have m1 := isF_small sub (by omega)
    refine ⟨_, rfl, t, _, 1, _, rfl, rfl, st_of ((X) _ _ ht), rfl, .inl ⟨_, _, _, rfl, (by omega : _ < n), by omega, sub.ext (X), fun Ha a ea1 hp => ?_⟩⟩
    obtain ⟨dx, _, _, ea, _⟩ := hp.at_
    exact ⟨_, rfl, t, _, 2, _, rfl, rfl, st_of ((X.trans ea1) _ _ ht), rfl, a, dx, _, rfl, ea, .inl ⟨_, rfl⟩, a, _, _, rfl, hp, mk_of he4 (small1 m1) ⟨⟨_, rfl⟩, h0, h1, rfl⟩ (by show 1 ≤ 3; decide), q.ext (X.trans ea1)⟩
  | shield ht sub =>
    refine q_asg (ev_atT (K := K) (i := 0) (ev_var rfl) ht rfl) fun H0 E0' => ?_
    refine q_no (et_is (et_eqS (ev_var rfl) ev_c) (by decide +kernel)) fun H1 f1 => ?_
    have E1' := E0'.trans f1
    refine q_no (et_is (et_eqS (ev_var rfl) ev_c) (by decide +kernel)) fun H2 f2 => ?_
    have E2' := E1'.trans f2
    refine q_no (et_is (et_eqS (ev_var rfl) ev_c) (by decide +kernel)) fun H3 f3 => ?_
    have E3' := E2'.trans f3
    refine q_no (et_is (et_eqS (ev_var rfl) ev_c) (by decide +kernel)) fun H4 f4 => ?_
    have E4' := E3'.trans f4
    refine q_yes (et_is (et_eqS (ev_var rfl) ev_c) (decide_eq_true rfl)) fun H5 f5 => ?_
    have E5' := E4'.trans f5
    have X := E5'
    clear E0' E1' E2' E3' E4' E5'
    have m1 := isF_small sub (by omega)
    exact ⟨_, rfl, t, _, 1, _, rfl, rfl, st_of ((X) _ _ ht), rfl, .inl ⟨_, _, _, rfl, (by omega : _ < n), by omega, sub.ext (X), fun Ha a ea1 hp => ⟨a, _, rfl, hp, mk_of he4 (small1 m1) ⟨⟨_, rfl⟩, rfl, rfl⟩ (by show 1 ≤ 3; decide), q.ext (X.trans ea1)⟩⟩⟩
  | cleanup ht sub sub2 =>
    refine q_asg (ev_atT (K := K) (i := 0) (ev_var rfl) ht rfl) fun H0 E0' => ?_
    refine q_no (et_is (et_eqS (ev_var rfl) ev_c) (by decide +kernel)) fun H1 f1 => ?_
    have E1' := E0'.trans f1
    refine q_no (et_is (et_eqS (ev_var rfl) ev_c) (by decide +kernel)) fun H2 f2 => ?_
    have E2' := E1'.trans f2
    refine q_no (et_is (et_eqS (ev_var rfl) ev_c) (by decide +kernel)) fun H3 f3 => ?_
    have E3' := E2'.trans f3
    refine q_no (et_is (et_eqS (ev_var rfl) ev_c) (by decide +kernel)) fun H4 f4 => ?_
    have E4' := E3'.trans f4
    refine q_no (et_is (et_eqS (ev_var rfl) ev_c) (by decide +kernel)) fun H5 f5 => ?_
    have E5' := E4'.trans f5
    refine q_yes (et_is (et_eqS (ev_var rfl) ev_c) (decide_eq_true rfl)) fun H6 f6 => ?_
    have E6' := E5'.trans f6
    have X := E6'
    clear E0' E1' E2' E3' E4' E5' E6'
    have m1 := isF_small sub (by omega)
    have m2 := isF_small sub2 (by omega)
    exact ⟨_, rfl, t, _, 1, _, rfl, rfl, st_of ((X) _ _ ht), rfl, .inl ⟨_, _, _, rfl, (by omega : _ < n), by omega, sub.ext (X), fun Ha a ea1 hp => ⟨_, rfl, t, _, 2, _, rfl, rfl, st_of ((X.trans ea1) _ _ ht), rfl, .inl ⟨_, _, _, rfl, (by omega : _ < n), by omega, sub2.ext (X.trans ea1), fun Hb b eb1 hp2 => ⟨a, b, _, _, rfl, hp.ext eb1, hp2, mk_of he4 (small2 m1 m2) ⟨⟨_, _, rfl⟩, rfl, rfl⟩ (by show 2 ≤ 3; decide), q.ext ((X.trans ea1).trans eb1)⟩⟩⟩⟩⟩
  | fallback ht hw n1 n2 n3 n4 sub sub2 =>
    refine q_asg (ev_atT (K := K) (i := 0) (ev_var rfl) ht rfl) fun H0 E0' => ?_
    refine q_no (et_is (et_eqS (ev_var rfl) ev_c) (by decide +kernel)) fun H1 f1 => ?_
    have E1' := E0'.trans f1
    refine q_no (et_is (et_eqS (ev_var rfl) ev_c) (by decide +kernel)) fun H2 f2 => ?_
    have E2' := E1'.trans f2
    refine q_no (et_is (et_eqS (ev_var rfl) ev_c) (by decide +kernel)) fun H3 f3 => ?_
    have E3' := E2'.trans f3
    refine q_no (et_is (et_eqS (ev_var rfl) ev_c) (by decide +kernel)) fun H4 f4 => ?_
    have E4' := E3'.trans f4
    refine q_no (et_is (et_eqS (ev_var rfl) ev_c) (by decide +kernel)) fun H5 f5 => ?_
    have E5' := E4'.trans f5
    refine q_no (et_is (et_eqS (ev_var rfl) ev_c) (by decide +kernel)) fun H6 f6 => ?_
    have E6' := E5'.trans f6
    refine q_yes (et_is (et_eqS (ev_var rfl) ev_c) (decide_eq_true rfl)) fun H7 f7 => ?_
    have E7' := E6'.trans f7
    have X := E7'
    clear E0' E1' E2' E3' E4' E5' E6' E7'
    rename_i ws
    have m1 := isF_small sub (by omega)
    have m2 := isF_small sub2 (by omega)
    refine ⟨_, rfl, t, _, 1, _, rfl, rfl, st_of ((X) _ _ ht), rfl, .inl ⟨_, _, _, rfl, (by omega : _ < n), by omega, sub.ext (X), fun Ha a ea1 hp => ⟨_, rfl, t, _, 2, _, rfl, rfl, st_of ((X.trans ea1) _ _ ht), rfl, _, _, rfl, .inl (sq_of ((X.trans ea1) _ _ hw)), fun wl hwl => ?_⟩⟩⟩
    have el : Ex Ha (upd Ha wl (.lst (ws.map V.str))) := Ex.new hwl
    exact ⟨_, rfl, t, _, 3, _, rfl, rfl, st_of (((X.trans ea1).trans el) _ _ ht), rfl, .inl ⟨_, _, _, rfl, (by omega : _ < n), by omega, sub2.ext ((X.trans ea1).trans el), fun Hb b eb1 hp2 => ⟨a, b, wl, _, _, _, rfl, hp.ext (el.trans eb1), hp2, eb1 _ _ upd_same, n1, n2, n3, n4, mk_of he4 (small2 m1 m2) ⟨⟨_, _, rfl⟩, rfl, n2⟩ (by show 2 ≤ 3; decide), q.ext (((X.trans ea1).trans el).trans eb1)⟩⟩⟩
  | timeout ht hz sub h0 h1 =>
    refine q_asg (ev_atT (K := K) (i := 0) (ev_var rfl) ht rfl) fun H0 E0' => ?_
    refine q_no (et_is (et_eqS (ev_var rfl) ev_c) (by decide +kernel)) fun H1 f1 => ?_
    have E1' := E0'.trans f1
    refine q_no (et_is (et_eqS (ev_var rfl) ev_c) (by decide +kernel)) fun H2 f2 => ?_
    have E2' := E1'.trans f2
    refine q_no (et_is (et_eqS (ev_var rfl) ev_c) (by decide +kernel)) fun H3 f3 => ?_
    have E3' := E2'.trans f3
    refine q_no (et_is (et_eqS (ev_var rfl) ev_c) (by decide +kernel)) fun H4 f4 => ?_
    have E4' := E3'.trans f4
    refine q_no (et_is (et_eqS (ev_var rfl) ev_c) (by decide +kernel)) fun H5 f5 => ?_
    have E5' := E4'.trans f5
    refine q_no (et_is (et_eqS (ev_var rfl) ev_c) (by decide +kernel)) fun H6 f6 => ?_
    have E6' := E5'.trans f6
    refine q_no (et_is (et_eqS (ev_var rfl) ev_c) (by decide +kernel)) fun H7 f7 => ?_
    have E7' := E6'.trans f7
    refine q_yes (et_is (et_eqS (ev_var rfl) ev_c) (decide_eq_true rfl)) fun H8 f8 => ?_
    have E8' := E7'.trans f8
    have X := E8'
    clear E0' E1' E2' E3' E4' E5' E6' E7' E8'
    have m1 := isF_small sub (by omega)
    exact ⟨_, rfl, t, _, 1, _, rfl, rfl, st_of ((X) _ _ ht), rfl, _, rfl, t, _, 2, _, rfl, rfl, st_of ((X) _ _ ht), rfl, .inl ⟨_, _, _, rfl, (by omega : _ < n), by omega, sub.ext (X), fun Ha a ea1 hp => ⟨_, rfl, t, _, 3, _, rfl, rfl, st_of ((X.trans ea1) _ _ ht), rfl, _, a, _, _, rfl, hp, hz, mk_of he4 (small1 m1) ⟨⟨_, rfl⟩, h0, h1, _, rfl, hz⟩ (by show 1 ≤ 3; decide), q.ext (X.trans ea1)⟩⟩⟩
  | moveon ht sub h0 h1 =>
    refine q_asg (ev_atT (K := K) (i := 0) (ev_var rfl) ht rfl) fun H0 E0' => ?_
    refine q_no (et_is (et_eqS (ev_var rfl) ev_c) (by decide +kernel)) fun H1 f1 => ?_
    have E1' := E0'.trans f1
    refine q_no (et_is (et_eqS (ev_var rfl) ev_c) (by decide +kernel)) fun H2 f2 => ?_
    have E2' := E1'.trans f2
    refine q_no (et_is (et_eqS (ev_var rfl) ev_c) (by decide +kernel)) fun H3 f3 => ?_
    have E3' := E2'.trans f3
    refine q_no (et_is (et_eqS (ev_var rfl) ev_c) (by decide +kernel)) fun H4 f4 => ?_
    have E4' := E3'.trans f4
    refine q_no (et_is (et_eqS (ev_var rfl) ev_c) (by decide +kernel)) fun H5 f5 => ?_
    have E5' := E4'.trans f5
    refine q_no (et_is (et_eqS (ev_var rfl) ev_c) (by decide +kernel)) fun H6 f6 => ?_
    have E6' := E5'.trans f6
    refine q_no (et_is (et_eqS (ev_var rfl) ev_c) (by decide +kernel)) fun H7 f7 => ?_
    have E7' := E6'.trans f7
    refine q_no (et_is (et_eqS (ev_var rfl) ev_c) (by decide +kernel)) fun H8 f8 => ?_
    have E8' := E7'.trans f8
    refine q_yes (et_is (et_eqS (ev_var rfl) ev_c) (decide_eq_true rfl)) fun H9 f9 => ?_
    have E9' := E8'.trans f9
    have X := E9'
    clear E0' E1' E2' E3' E4' E5' E6' E7' E8' E9'
    have m1 := isF_small sub (by omega)
    exact ⟨_, rfl, t, _, 1, _, rfl, rfl, st_of ((X) _ _ ht), rfl, _, rfl, t, _, 2, _, rfl, rfl, st_of ((X) _ _ ht), rfl, .inl ⟨_, _, _, rfl, (by omega : _ < n), by omega, sub.ext (X), fun Ha a ea1 hp => ⟨_, a, _, rfl, hp, mk_of he4 (small1 m1) ⟨⟨_, rfl⟩, h0, h1, rfl⟩ (by show 1 ≤ 3; decide), q.ext (X.trans ea1)⟩⟩⟩
  | together ht hl len h2 h3 sub =>
    refine q_asg (ev_atT (K := K) (i := 0) (ev_var rfl) ht rfl) fun H0 E0' => ?_
    refine q_no (et_is (et_eqS (ev_var rfl) ev_c) (by decide +kernel)) fun H1 f1 => ?_
    have E1' := E0'.trans f1
    refine q_no (et_is (et_eqS (ev_var rfl) ev_c) (by decide +kernel)) fun H2 f2 => ?_
    have E2' := E1'.trans f2
    refine q_no (et_is (et_eqS (ev_var rfl) ev_c) (by decide +kernel)) fun H3 f3 => ?_
    have E3' := E2'.trans f3
    refine q_no (et_is (et_eqS (ev_var rfl) ev_c) (by decide +kernel)) fun H4 f4 => ?_
    have E4' := E3'.trans f4
    refine q_no (et_is (et_eqS (ev_var rfl) ev_c) (by decide +kernel)) fun H5 f5 => ?_
    have E5' := E4'.trans f5
    refine q_no (et_is (et_eqS (ev_var rfl) ev_c) (by decide +kernel)) fun H6 f6 => ?_
    have E6' := E5'.trans f6
    refine q_no (et_is (et_eqS (ev_var rfl) ev_c) (by decide +kernel)) fun H7 f7 => ?_
    have E7' := E6'.trans f7
    refine q_no (et_is (et_eqS (ev_var rfl) ev_c) (by decide +kernel)) fun H8 f8 => ?_
    have E8' := E7'.trans f8
    refine q_no (et_is (et_eqS (ev_var rfl) ev_c) (by decide +kernel)) fun H9 f9 => ?_
    have E9' := E8'.trans f9
    have X := E9'
    clear E0' E1' E2' E3' E4' E5' E6' E7' E8' E9'
    rename_i d lf as ps
    have ms : ∀ p ∈ ps, Small p (nF d) (d + 1) := fun p hp => by
      obtain ⟨i, hi, e⟩ := List.mem_iff_getElem.mp hp
      exact isF_small (sub i _ p (List.getElem?_eq_getElem (by omega)) (by rw [List.getElem?_eq_getElem hi, e])) (by omega)
    refine ⟨_, rfl, t, _, 1, _, rfl, rfl, st_of ((X) _ _ ht), rfl, lf, rfl, ⟨_, sq_of (X _ _ hl)⟩, fun D hD => ?_⟩
    refine lc_list (xs := as.map V.ref) (PvM (PC K) ps H9 D) ⟨[], rfl, upd_same, ?_, fun j x q hx => by simp at hx⟩ (fun i H' hi hP => ?_) (fun i x H' hx hP => ?_) (fun H' hP => ?_)
    · rw [hid_upd, hid_none hD]
      exact Ex.refl _
    · obtain ⟨bs, l1, hD', b1, sub'⟩ := hP
      exact sq_of (hid_ex _ _ (b1 _ _ (X _ _ hl)))
    · rw [List.getElem?_map] at hx
      obtain ⟨y, hy, rfl⟩ := Option.map_eq_some_iff.mp hx
      have hi : i < as.length := (List.getElem?_eq_some_iff.mp hy).1
      have hpi : ps[i]? = some ps[i] := List.getElem?_eq_getElem (by omega)
      obtain ⟨bs, l1, hD', b1, sub'⟩ := id hP
      refine ⟨rfl, ?_⟩
      refine ⟨_, rfl, .inr ⟨D, _, hD', y, ps[i], d, rfl, by omega, by omega, ((sub i y _ hy hpi).ext X).ext b1, fun H2 a ea ha h2 => ⟨bs.map V.ref, upd_same, ?_, ?_⟩⟩⟩
      · rw [List.length_map, l1]
        exact sz_lt (by omega)
      · exact pvM_step hP hD' h2 ea hpi ha
    · obtain ⟨bs, l1, hD', b1, sub'⟩ := hP
      rw [List.length_map] at l1
      exact ⟨D, ps, rfl, ⟨bs, hD', by omega, fun j x q hx hq => (sub' j x q hx hq).ext hid_ex⟩, mk_of he4 ms ⟨fun e => by rw [e] at h2; exact absurd h2 (by decide), by omega, rfl, rfl⟩ h3, q.ext (X.trans (b1.trans hid_ex))⟩
theorem made_all (T : Txt K mg) : ∀ n : Nat, FnR P w K mg base (L2.CX P w) (128 + n) (He.ga K "_law_made") (spMade (PC K) n)
  | 0 => fun A outer s H us vs Q E hr e0 r h => by
    obtain ⟨t, p, e, _, he, _⟩ := h
    omega
  | n + 1 => by
    have h := r_law_made (by omega) T (made_all T n)
    exact h
end
end Cu

/-! == GenE -/
set_option maxHeartbeats 4000000
namespace Cu
open PySem PySem.Spec PyProof.Rows L2 Evl CuT
/-! ### a program called, in readings -/
def tCallP (C : Addr) (sp : Sp) (tf : TE) (t : TA) : TE := fun σ H Q => tf σ H fun y H1 => ∃ a, y = V.ref a ∧ t σ H1 fun vs H2 => (∃ dx fs, H2 a = some (.ins C dx fs)) ∧ sp (V.ref a :: vs) H2 Q E0
theorem pe_callP {X : Cx} {k : Nat} {g C : Addr} {sp : Sp} {fe e : Expr} {es : List Expr} {pos : Pos} {tf : TE} {t : TA} (hf : PE X fe tf) (c : StX.CallO X.K C g) (F : FnR X.prog X.w X.K X.mg X.base (L2.CX X.prog X.w) k g sp) (hr : Room k X.A) (ha : PA X (e :: es) t)
    (ht : eval (.Call fe (e :: es) [] pos) X.env = (do callWith pos (← eval fe X.env) [] (backTo pos (starEach (e :: es) X.env)) (backToKw pos (keywordEach [] X.env))) := by rfl)
    (he : starEach (e :: es) X.env = (false, eval e X.env) :: starEach es X.env := by rfl) (hpl : (backTo pos (starEach es X.env)).any (·.1) = false := by rfl) : PE X (.Call fe (e :: es) [] pos) (tCallP C sp tf t) := by
  refine ⟨fun pins s σ H Q I h => ?_⟩
  refine Call_ (thn (hf.run pins s σ H _ I h) fun u s1 ⟨y, H1, I1, ry, a, ey, q⟩ => ?_) ht
  subst ey
  obtain rfl : u = Value.ref a := ry
  refine StX.callO_with (thn (ha.run pos pins s1 σ H1 _ I1 q) fun us s2 ⟨vs, H2, I2, r, hi, q2⟩ => ?_) he hpl
  have hi' : StX.InsC X H2 a C := .inr hi
  obtain ⟨ox, od, J, hd⟩ := StX.insC_at I2 hi'
  exact ⟨⟨C, ox, od, J, hd⟩, StX.run_callO c F hr passL I2 hi' r q2⟩
abbrev rMin2 : List V → Hp → VK → Prop := fun xs H Q => ∃ i j, xs = [.int i, .int j] ∧ Q (.int (if j < i then j else i)) H
section
variable {K : PySem.W.Frag} {σ : L2.St} {H : Hp} {ta tb te tf : TE} {C : Addr}
theorem ev_callP {a : Addr} {p : Prog} {c : Int} (hf : Ev tf σ H (.ref a)) (ha : Ev ta σ H (.int c)) (hp : IsP C H a p) (hw : WF p) (hc : 0 ≤ c) : Ev (tCallP C (spCallP C) tf (tCons ta tNil)) σ H (.int (endA p c)) := fun H1 e Q q =>
  hf H1 e _ fun H2 e2 => ⟨a, rfl, ha H2 (e.trans e2) _ fun H3 e3 => by
    have x := (e.trans e2).trans e3
    obtain ⟨dx, _, _, ea, _⟩ := (hp.ext x).at_
    exact ⟨⟨dx, _, ea⟩, a, p, c, rfl, hp.ext x, hw, hc, fun H4 e4 => q H4 ((e2.trans e3).trans e4)⟩⟩
theorem ev_maxS {i j : Int} (ha : Ev ta σ H (.int i)) (hb : Ev tb σ H (.int j)) : Ev (tCB rMax2 (tCons ta (tCons tb tNil))) σ H (.int (max i j)) := by
  have h := ev_max2 ha hb
  refine ev_is h ?_
  congr 1
  split <;> omega
/-- lists of ints that are the same -/
theorem dpI {a : Addr} {ns : List Int} (h : SqL K H a (ns.map V.int)) : Dp K H (.ref a) (.list (ns.map PyData.int)) := by
  refine .lst h ?_
  clear h
  induction ns with
  | nil => exact .nil
  | cons n r ih => exact .cons (.int n) ih
theorem canLayI : ∀ ns : List Int, PyData.canLayAll0 (ns.map PyData.int) = true
  | [] => rfl
  | n :: r => by
    show (PyData.canLay0 (.int n) && PyData.canLayAll0 (r.map PyData.int)) = true
    rw [canLayI r]
    rfl
theorem depthI : ∀ ns : List Int, PyData.depthAll (ns.map PyData.int) ≤ 1
  | [] => by decide
  | n :: r => by
    have h := depthI r
    simp only [List.map_cons, PyData.depthAll, PyData.depth]
    omega
theorem shapedI (ns : List Int) : SeqAt.shaped (.list (ns.map PyData.int)) = true := by
  unfold SeqAt.shaped
  rw [show PyData.canLay0 (.list (ns.map PyData.int)) = PyData.canLayAll0 (ns.map PyData.int) from rfl, canLayI ns, Bool.true_and]
  refine decide_eq_true ?_
  have h := depthI ns
  simp only [PyData.depth]
  omega
theorem eqvI : ∀ ns : List Int, PyData.eqvAll (ns.map PyData.int) (ns.map PyData.int) = true
  | [] => rfl
  | n :: r => by
    show (PyData.eqv (.int n) (.int n) && PyData.eqvAll (r.map PyData.int) (r.map PyData.int)) = true
    rw [eqvI r, Bool.and_true]
    exact beq_self_eq_true n
theorem rv_neI {a b : Addr} {ns : List Int} (ha : SqL K H a (ns.map V.int)) (hb : SqL K H b (ns.map V.int)) : RV (rNeD K) (.ref a) (.ref b) H (.bl false) := fun H1 e Q q =>
  ⟨_, _, dpI (ex_l e ha), dpI (ex_l e hb), shapedI ns, shapedI ns, by
    have h : PyData.eqv (.list (ns.map PyData.int)) (.list (ns.map PyData.int)) = true := eqvI ns
    rw [h]
    exact q H1 (Ex.refl H1)⟩
/-- [_law_next(source, m) for k in range(N)] -/
theorem lc_draws {l : Addr} {n N i j : Nat} {m : Int} {vs : List Nat} {tm : TE} {Q : VK} {ta : TA} (ha : EvA ta σ H [.int (N : Int)]) (hv : ∀ x, ((wipe σ vs).set j (some x))[i]? = some (some (.ref l))) (hw : ∀ x, wipe ((wipe σ vs).set j (some x)) vs = wipe σ vs) (hm : ∀ x H', Ev tm ((wipe σ vs).set j (some x)) H' (.int m))
    (hs : Src H l n) (hn : n + N ≤ 1000000000000) (hN : N ≤ 50000) (m0 : 0 < m) (m1 : m.natAbs < 2 ^ 8000)
    (q : ∀ (D : Addr) (ns : List Int) (H' : Hp), ns.length = N → (∀ x ∈ ns, 0 ≤ x ∧ x < m) → H D = none → But l H H' → H' D = some (.lst (ns.map V.int)) → Src H' l (n + N) → Q (.ref D) H') :
    tLc (iRng1 ta) (gName j) tYes (tCallR spNext E0 (tCons (tVar i) (tCons tm tNil))) vs σ H Q := by
  refine ha H (Ex.refl H) _ fun H0 e0 => ⟨(N : Int), rfl, by omega, by omega, fun D hD => ?_⟩
  have s0 := hs.ext e0
  have hDl : D ≠ l := s0.ne hD
  refine lc_range (lo := 0) (n := ((N : Nat) : Int).toNat) (fun k H' => ∃ ns : List Int, ns.length = k ∧ (∀ x ∈ ns, 0 ≤ x ∧ x < m) ∧ But l H0 H' ∧ H' D = some (.lst (ns.map V.int)) ∧ Src H' l (n + k)) ⟨[], rfl, (fun x hx => by cases hx), (But.of (Ex.new hD)), upd_same, s0.upd (Ne.symm hDl)⟩ (fun k H' hk hP => ?_) (fun H' hP => ?_)
  · obtain ⟨ns, ln, hx, b, hDs, s'⟩ := hP
    refine ⟨hw _, ?_⟩
    refine go_next (hv _) (hm _ _) s' (by omega) m0 m1 fun r H2 r0 r1 b2 s2 => ⟨ns.map V.int, b2 _ _ hDl hDs, by rw [List.length_map, ln]; exact sz_lt (by omega), ns ++ [r], by simp [ln], fun x hx' => ?_, ?_, ?_, s2.upd (Ne.symm hDl)⟩
    · rcases List.mem_append.mp hx' with z | z
      · exact hx x z
      · rw [List.mem_singleton.mp z]
        exact ⟨r0, r1⟩
    · intro c o hc ho
      have : c ≠ D := fun z => by rw [z, hD] at ho; cases ho
      rw [upd_ne this]
      exact (b.trans b2) c o hc ho
    · rw [upd_same, List.map_append]
      rfl
  · obtain ⟨ns, ln, hx, b, hDs, s'⟩ := hP
    rw [Int.toNat_natCast] at ln s'
    exact q D ns H' ln hx (fresh_back e0 hD) ((But.of e0).trans b) hDs s'
end
theorem ex_of_but {l : Addr} {H H1 H' : Hp} (hl : H l = none) (e : Ex H H1) (b : But l H1 H') : Ex H H' := fun x o h => b x o (fun z => by rw [z, hl] at h; cases h) (e x o h)
theorem costF_le {d : Nat} (h : d ≤ 4) : costF d ≤ 725 := by
  have : d = 0 ∨ d = 1 ∨ d = 2 ∨ d = 3 ∨ d = 4 := by omega
  rcases this with rfl | rfl | rfl | rfl | rfl <;> decide
theorem WF.pos {p : Prog} (h : WF p) : 0 ≤ p.span := (wf_good h).sp
theorem span1_bits {p : Prog} (h : WF p) {m : Int} (h0 : 0 ≤ m) (h1 : m ≤ p.span + 1) : m.natAbs < 2 ^ 8000 := by
  have a := span_bits h
  have e : (2 : Nat) ^ 6000 + 1 < 2 ^ 8000 := by decide +kernel
  omega
/-- the law's own promise -/
def spLaw (K : PySem.W.Frag) : Sp := fun vs H Q _ => ∃ (a : Addr) (ns : List Int), vs = [.ref a] ∧ SqL K H a (ns.map V.int) ∧ ns.length ≤ 63 ∧ ∀ H', Q (.bl true) H'
end Cu

/-! == GenG -/
set_option maxHeartbeats 4000000
namespace Cu
open PySem PySem.Spec PyProof.Rows L2 Evl CuT
section
variable {K : PySem.W.Frag} {σ : L2.St} {H : Hp} {ta : TE} {C : Addr}
theorem et_neSorted {D : Addr} {es : List Int} (h : Ev ta σ H (.ref D)) (hD : SqL K H D (es.map V.int)) (hs : es.Pairwise (· ≤ ·)) : EvT (tTest (tOp (rNeD K) ta (tCB (rSortedI K) (tCons ta tNil)))) σ H false := fun H1 e Q q =>
  h H1 e _ fun H2 e2 => h H2 (e.trans e2) _ fun H3 e3 => ⟨D, es, rfl, ex_l ((e.trans e2).trans e3) hD, fun ns' p perm pw hp => by
    have en : ns' = es := List.Perm.eq_of_pairwise (fun _ _ _ _ a b => Int.le_antisymm a b) pw hs perm
    subst en
    have e4 := Ex.new (o := .lst (ns'.map V.int)) hp
    exact rv_neI (K := K) (ex_l (((e.trans e2).trans e3).trans e4) hD) (sq_of upd_same) _ (Ex.refl _) _ fun H5 e5 => ⟨false, rfl, q H5 (((e2.trans e3).trans e4).trans e5)⟩⟩
theorem ev_pow {i j : Int} (h : CPow i j) : Ev (tOp (rI CPow fun i j => .int (i ^ j.toNat)) (tC (.int i)) (tC (.int j))) σ H (.int (i ^ j.toNat)) := ev_op ev_c ev_c (rv_I h)
theorem ev_addI {tb : TE} {i j : Int} (ha : Ev ta σ H (.int i)) (hb : Ev tb σ H (.int j)) : Ev (tOp (rI0 fun i j => .int (i + j)) ta tb) σ H (.int (i + j)) := ev_op ha hb rv_I0
theorem q_cat {tl tr : TE} {tz : TS} {D : Ends} {i : Nat} (h : tl σ H fun x H1 => tr σ H1 fun y H2 => rCat x y H2 fun v H3 => tz D (σ.set i (some v)) H3) : tSeq (tAsg (tOp rCat tl tr) (gName i)) tz D σ H := h
theorem go_lst {tA : TA} {xs : List V} {Q : VK} (ha : EvA tA σ H xs) (hl : xs.length ≤ 100000) (q : ∀ H1 D, Ex H H1 → H1 D = none → Q (.ref D) (upd H1 D (.lst xs))) : tLst tA σ H Q := ha H (Ex.refl H) _ fun H1 e => ⟨sz_of hl, fun D hD => q H1 D e hD⟩
theorem et_neMade {σ : L2.St} {H : Hp} {i j n : Nat} {pa t : Addr} {p : Prog} {e : Nat} (hi : σ[i]? = some (some (.ref pa))) (hj : σ[j]? = some (some (.ref t))) (hp : IsP C H pa p) (hw : WF p) (hf : IsF H e t p) (he : e < n) (he4 : e ≤ 4) : EvT (tTest (tOp (rNeSame C) (tVar i) (tCallR (spMade C n) E0 (tCons (tVar j) tNil)))) σ H false := fun H1 e1 Q q =>
  ⟨_, hi, _, hj, t, p, e, rfl, he, he4, hf.ext e1, fun H2 b e2 hb => ⟨pa, b, p, rfl, rfl, hp.ext (e1.trans e2), hb, hw, fun H3 e3 => ⟨false, rfl, q H3 (e2.trans e3)⟩⟩⟩
theorem ev_tl {pa : Addr} {p : Prog} (h : Ev ta σ H (.ref pa)) (hp : IsP C H pa p) : Ev (tMethR C "total_length" (spTL C) E0 ta tNil) σ H (.int p.span) := fun H1 e Q q =>
  h H1 e _ fun H2 e2 => by
    obtain ⟨dx, _, _, ea, _⟩ := (hp.ext (e.trans e2)).at_
    exact ⟨pa, dx, _, rfl, ea, rfl, pa, p, rfl, hp.ext (e.trans e2), fun H3 e3 => q H3 (e2.trans e3)⟩
theorem et_neI {tb : TE} {i j : Int} (ha : Ev ta σ H (.int i)) (hb : Ev tb σ H (.int j)) : EvT (tTest (tOp rNe ta tb)) σ H (!decide (V.int i = V.int j)) := et_test (ev_op ha hb (rv_ne rfl))
theorem et_neS {tb : TE} {i : Int} (ha : Ev ta σ H (.int i)) (hb : Ev tb σ H (.int i)) : EvT (tTest (tOp rNe ta tb)) σ H false := et_is (et_test (ev_op ha hb (rv_ne rfl))) (by rw [decide_eq_true rfl]; rfl)
end
theorem ends_sorted {p : Prog} (hw : WF p) {cs : List Int} (h0 : ∀ c ∈ cs, 0 ≤ c) (hs : cs.Pairwise (· ≤ ·)) : (cs.map (endA p)).Pairwise (· ≤ ·) := by
  induction cs with
  | nil => exact .nil
  | cons c r ih =>
    cases hs with
    | cons h1 h2 =>
      refine .cons (fun x hx => ?_) (ih (fun c hc => h0 c (List.mem_cons_of_mem _ hc)) h2)
      obtain ⟨d, hd, rfl⟩ := List.mem_map.mp hx
      exact (wf_good hw).mono _ _ (h0 c List.mem_cons_self) (h1 d hd)
section
variable {K : PySem.W.Frag} {σ : L2.St} {H : Hp} {ta tb : TE}
/-- a list that stands and a new one -/
theorem el_catV {a : Addr} {xs ys : List V} (ha : Ev ta σ H (.ref a)) (hx : H a = some (.lst xs)) (hb : EvL tb σ H ys) (hl : xs.length + ys.length ≤ 100000) : EvL (tOp rCat ta tb) σ H (xs ++ ys) := fun H1 e Q q =>
  ha H1 e _ fun H2 e2 => hb H2 (e.trans e2) _ fun b H3 hn e3 h3 => ⟨a, b, _, _, rfl, rfl, (e2.trans e3) _ _ (e _ _ hx), h3, sz_of hl, fun D hD => q D _ (fresh_back (e2.trans e3) hD) ((e2.trans e3).trans (Ex.new hD)) upd_same⟩
end
end Cu

/-! == GenF -/
set_option maxHeartbeats 4000000
namespace Cu
open PySem PySem.Spec PyProof.Rows L2 Evl CuT
/-! ### expressions that give a program -/
def EvP (C : Addr) (te : TE) (σ : L2.St) (H : Hp) (p : Prog) : Prop := ∀ H1, Ex H H1 → ∀ Q : VK, (∀ a H2, Ex H1 H2 → IsP C H2 a p → Q (.ref a) H2) → te σ H1 Q
section
variable {K : PySem.W.Frag} {C : Addr} {σ : L2.St} {H : Hp} {ta tb te tf : TE} {p q : Prog}
theorem ep_of {a : Addr} (h : Ev te σ H (.ref a)) (hp : IsP C H a p) : EvP C te σ H p := fun H1 e Q k => h H1 e _ fun H2 e2 => k a H2 e2 (hp.ext (e.trans e2))
theorem ep_add (ha : EvP C ta σ H p) (hb : EvP C tb σ H q) (mk : MkOk .seq (flatP p ++ flatP q) 0 []) : EvP C (tOp (rOwn C (spAdd C) E0) ta tb) σ H (addP p q) := fun H1 e Q k =>
  ha H1 e _ fun a H2 e2 hp => hb H2 (e.trans e2) _ fun b H3 e3 hq => by
    obtain ⟨dx, _, _, ea, _⟩ := (hp.ext e3).at_
    obtain ⟨dy, _, _, eb, _⟩ := hq.at_
    exact ⟨a, dx, _, rfl, ea, .inr ⟨b, dy, _, rfl, eb⟩, a, b, p, q, rfl, hp.ext e3, hq, mk, fun H4 z e4 hz => k z H4 ((e2.trans e3).trans e4) hz⟩
theorem ep_or (ha : EvP C ta σ H p) (hb : EvP C tb σ H q) (mk : MkOk .together [p, q] 0 []) : EvP C (tOp (rOwn C (spOr C) E0) ta tb) σ H (mkP .together [p, q] 0 []) := fun H1 e Q k =>
  ha H1 e _ fun a H2 e2 hp => hb H2 (e.trans e2) _ fun b H3 e3 hq => by
    obtain ⟨dx, _, _, ea, _⟩ := (hp.ext e3).at_
    obtain ⟨dy, _, _, eb, _⟩ := hq.at_
    exact ⟨a, dx, _, rfl, ea, .inr ⟨b, dy, _, rfl, eb⟩, a, b, p, q, rfl, hp.ext e3, hq, mk, fun H4 z e4 hz => k z H4 ((e2.trans e3).trans e4) hz⟩
theorem ep_mul {n : Int} (ha : EvP C ta σ H p) (hb : Ev tb σ H (.int n)) (mk : MkOk .loop [p] n []) : EvP C (tOp (rOwn C (spMul C) E0) ta tb) σ H (mulP p n) := fun H1 e Q k =>
  ha H1 e _ fun a H2 e2 hp => hb H2 (e.trans e2) _ fun H3 e3 => by
    obtain ⟨dx, _, _, ea, _⟩ := (hp.ext e3).at_
    exact ⟨a, dx, _, rfl, ea, .inl ⟨_, rfl⟩, a, p, n, rfl, hp.ext e3, mk, fun H4 z e4 hz => k z H4 ((e2.trans e3).trans e4) hz⟩
theorem ep_shield (ha : EvP C ta σ H p) (mk : MkOk .shield [p] 0 []) : EvP C (tCallR (spShield C) E0 (tCons ta tNil)) σ H (mkP .shield [p] 0 []) := fun H1 e Q k =>
  ha H1 e _ fun a H2 e2 hp => ⟨a, p, rfl, hp, mk, fun H4 z e4 hz => k z H4 (e2.trans e4) hz⟩
theorem ep_cleanup (ha : EvP C ta σ H p) (hb : EvP C tb σ H q) (mk : MkOk .cleanup [p, q] 0 []) : EvP C (tCallR (spCleanup C) E0 (tCons ta (tCons tb tNil))) σ H (mkP .cleanup [p, q] 0 []) := fun H1 e Q k =>
  ha H1 e _ fun a H2 e2 hp => hb H2 (e.trans e2) _ fun b H3 e3 hq => ⟨a, b, p, q, rfl, hp.ext e3, hq, mk, fun H4 z e4 hz => k z H4 ((e2.trans e3).trans e4) hz⟩
theorem ep_fallback {tl : TE} {l : Addr} {ws : List Str} (ha : EvP C ta σ H p) (hl : Ev tl σ H (.ref l)) (hb : EvP C tb σ H q) (hw : H l = some (.lst (ws.map V.str))) (n1 : 1 ≤ ws.length) (n2 : ws.length ≤ 20) (n3 : ∀ z ∈ ws, IsName z) (n4 : ws.Nodup) (mk : MkOk .fallback [p, q] 0 ws) :
    EvP C (tCallR (spFallback C) E0 (tCons ta (tCons tl (tCons tb tNil)))) σ H (mkP .fallback [p, q] 0 ws) := fun H1 e Q k =>
  ha H1 e _ fun a H2 e2 hp => hl H2 (e.trans e2) _ fun H3 e3 => hb H3 ((e.trans e2).trans e3) _ fun b H4 e4 hq =>
    ⟨a, b, l, p, q, ws, rfl, hp.ext (e3.trans e4), hq, (((e.trans e2).trans e3).trans e4) _ _ hw, n1, n2, n3, n4, mk, fun H5 z e5 hz => k z H5 (((e2.trans e3).trans e4).trans e5) hz⟩
theorem ep_timeout {tn tz : TE} {n : Int} {z : Str} (hn : Ev tn σ H (.int n)) (ha : EvP C ta σ H p) (hz : Ev tz σ H (.str z)) (nz : IsName z) (mk : MkOk .timeout [p] n [z]) : EvP C (tCallR (spTimeout C) E0 (tCons tn (tCons ta (tCons tz tNil)))) σ H (mkP .timeout [p] n [z]) := fun H1 e Q k =>
  hn H1 e _ fun H2 e2 => ha H2 (e.trans e2) _ fun a H3 e3 hp => hz H3 ((e.trans e2).trans e3) _ fun H4 e4 => ⟨n, a, p, z, rfl, hp.ext e4, nz, mk, fun H5 y e5 hy => k y H5 (((e2.trans e3).trans e4).trans e5) hy⟩
theorem ep_moveon {tn : TE} {n : Int} (hn : Ev tn σ H (.int n)) (ha : EvP C ta σ H p) (mk : MkOk .moveon [p] n []) : EvP C (tCallR (spMoveon C) E0 (tCons tn (tCons ta tNil))) σ H (mkP .moveon [p] n []) := fun H1 e Q k =>
  hn H1 e _ fun H2 e2 => ha H2 (e.trans e2) _ fun a H3 e3 hp => ⟨n, a, p, rfl, hp, mk, fun H5 y e5 hy => k y H5 ((e2.trans e3).trans e5) hy⟩
theorem ep_sleep {n : Int} (hn : Ev ta σ H (.int n)) (n0 : 0 ≤ n) (n1 : n ≤ mostT) : EvP C (tCallR (spSleep C) E0 (tCons ta tNil)) σ H (mkP .sleep [] n []) := fun H1 e Q k =>
  hn H1 e _ fun H2 e2 => ⟨n, rfl, n0, n1, fun H5 y e5 hy => k y H5 (e2.trans e5) hy⟩
theorem ep_fail {z : Str} (hn : Ev ta σ H (.str z)) (nz : IsName z) : EvP C (tCallR (spFail C) E0 (tCons ta tNil)) σ H (mkP .fail [] 0 [z]) := fun H1 e Q k =>
  hn H1 e _ fun H2 e2 => ⟨z, rfl, nz, fun H5 y e5 hy => k y H5 (e2.trans e5) hy⟩
theorem ev_callE {c : Int} (hf : EvP C tf σ H p) (ha : Ev ta σ H (.int c)) (hw : WF p) (hc : 0 ≤ c) : Ev (tCallP C (spCallP C) tf (tCons ta tNil)) σ H (.int (endA p c)) := fun H1 e Q k =>
  hf H1 e _ fun a H2 e2 hp => ⟨a, rfl, ha H2 (e.trans e2) _ fun H3 e3 => by
    obtain ⟨dx, _, _, ea, _⟩ := (hp.ext e3).at_
    exact ⟨⟨dx, _, ea⟩, a, p, c, rfl, hp.ext e3, hw, hc, fun H4 e4 => k H4 ((e2.trans e3).trans e4)⟩⟩
theorem ev_tlE (h : EvP C ta σ H p) : Ev (tMethR C "total_length" (spTL C) E0 ta tNil) σ H (.int p.span) := fun H1 e Q k =>
  h H1 e _ fun a H2 e2 hp => by
    obtain ⟨dx, _, _, ea, _⟩ := hp.at_
    exact ⟨a, dx, _, rfl, ea, rfl, a, p, rfl, hp, fun H3 e3 => k H3 (e2.trans e3)⟩
theorem ev_fnE (h : EvP C ta σ H p) : Ev (tMethR C "failure_name" (spFN C) E0 ta tNil) σ H (brV p.broken) := fun H1 e Q k =>
  h H1 e _ fun a H2 e2 hp => by
    obtain ⟨dx, _, _, ea, _⟩ := hp.at_
    exact ⟨a, dx, _, rfl, ea, rfl, a, p, rfl, hp, fun H3 e3 => k H3 (e2.trans e3)⟩
theorem ev_ncE (h : EvP C ta σ H p) : Ev (tMethR C "node_count" (spNC C) E0 ta tNil) σ H (.int p.nodes) := fun H1 e Q k =>
  h H1 e _ fun a H2 e2 hp => by
    obtain ⟨dx, _, _, ea, _⟩ := hp.at_
    exact ⟨a, dx, _, rfl, ea, rfl, a, p, rfl, hp, fun H3 e3 => k H3 (e2.trans e3)⟩
variable {D : Ends} {tz : TS}
theorem q_asgP {i : Nat} (h : EvP C te σ H p) (k : ∀ a H1, Ex H H1 → IsP C H1 a p → tz D (σ.set i (some (.ref a))) H1) : tSeq (tAsg te (gName i)) tz D σ H := h H (Ex.refl H) _ k
theorem et_neP (ha : EvP C ta σ H p) (hb : EvP C tb σ H p) (hw : WF p) : EvT (tTest (tOp (rNeSame C) ta tb)) σ H false := fun H1 e Q k =>
  ha H1 e _ fun a H2 e2 hp => hb H2 (e.trans e2) _ fun b H3 e3 hq => ⟨a, b, p, rfl, rfl, hp.ext e3, hq, hw, fun H4 e4 => ⟨false, rfl, k H4 ((e2.trans e3).trans e4)⟩⟩
theorem scal_br (a b : Option Str) : scal (brV a) (brV b) = true := by cases a <;> cases b <;> rfl
theorem brV_inj {a b : Option Str} : (brV a = brV b) ↔ a = b := by
  constructor
  · intro h
    cases a <;> cases b <;> first | rfl | cases h
    rfl
  · intro h
    rw [h]
theorem et_neB {a b : Option Str} (ha : Ev ta σ H (brV a)) (hb : Ev tb σ H (brV b)) : EvT (tTest (tOp rNe ta tb)) σ H (!decide (a = b)) := et_is (et_test (ev_op ha hb (rv_ne (scal_br a b)))) (by rw [decide_eq_decide.mpr brV_inj])
theorem et_neZ {tb : TE} {i j : Int} (ha : Ev ta σ H (.int i)) (hb : Ev tb σ H (.int j)) : EvT (tTest (tOp rNe ta tb)) σ H (!decide (i = j)) := et_is (et_test (ev_op ha hb (rv_ne rfl))) (by rw [decide_eq_decide.mpr ⟨fun h => V.int.inj h, fun h => by rw [h]⟩])
theorem ev_subI {i j : Int} (ha : Ev ta σ H (.int i)) (hb : Ev tb σ H (.int j)) : Ev (tOp (rI0 fun i j => .int (i - j)) ta tb) σ H (.int (i - j)) := ev_op ha hb rv_I0
theorem ev_mulI {i j : Int} (ha : Ev ta σ H (.int i)) (hb : Ev tb σ H (.int j)) (h : CMulW i j) : Ev (tOp (rI CMulW fun i j => .int (i * j)) ta tb) σ H (.int (i * j)) := ev_op ha hb (rv_I h)
theorem ev_divI {i j : Int} (ha : Ev ta σ H (.int i)) (hb : Ev tb σ H (.int j)) (h : CDivW i j) : Ev (tOp (rI CDivW fun i j => .int (i / j)) ta tb) σ H (.int (i / j)) := ev_op ha hb (rv_I h)
end
end Cu

/-! == MathB -/
set_option maxHeartbeats 4000000
namespace Cu
open PySem
/-! ### sequences by their parts -/
theorem seqM_shift : ∀ (ps : List Prog) (t : Int), seqM ps t = (t + (seqM ps 0).1, (seqM ps 0).2)
  | [], t => by simp [seqM]
  | p :: r, t => by
    unfold seqM
    cases h : p.broken with
    | some w => simp
    | none =>
      dsimp only
      rw [seqM_shift r (t + p.span), seqM_shift r (0 + p.span)]
      refine Prod.ext ?_ rfl
      show t + p.span + _ = t + (0 + p.span + _)
      omega
theorem seqM_append : ∀ (xs ys : List Prog) (t : Int), seqM (xs ++ ys) t = if (seqM xs t).2 = none then seqM ys (seqM xs t).1 else seqM xs t
  | [], ys, t => by simp [seqM]
  | p :: r, ys, t => by
    rw [List.cons_append, seqM_cons, seqM_cons]
    cases h : p.broken with
    | some w => simp
    | none => exact seqM_append r ys (t + p.span)
theorem WF.meas_eq {p : Prog} (w : WF p) : p.span = (meas p.kind p.parts p.number p.words).1 ∧ p.broken = (meas p.kind p.parts p.number p.words).2 := by
  cases w with
  | mk sub sh hn hd hm ln ld => exact meas_of hm
theorem seqM_flat {p : Prog} (w : WF p) (t : Int) : seqM (flatP p) t = (t + p.span, p.broken) := by
  unfold flatP
  by_cases hk : p.kind = .seq
  · rw [if_pos hk, seqM_shift]
    have h := w.meas_eq
    rw [hk] at h
    have e : meas Kind.seq p.parts p.number p.words = seqM p.parts 0 := rfl
    rw [e] at h
    rw [h.1, h.2]
  · rw [if_neg hk]
    unfold seqM
    cases h : p.broken with
    | some w => rfl
    | none => rfl
theorem add_span {p q : Prog} (wp : WF p) (wq : WF q) : (addP p q).span = p.span + (if p.broken = none then q.span else 0) ∧ (addP p q).broken = if p.broken = none then q.broken else p.broken := by
  have e1 : (addP p q).span = (seqM (flatP p ++ flatP q) 0).1 := rfl
  have e2 : (addP p q).broken = (seqM (flatP p ++ flatP q) 0).2 := rfl
  rw [e1, e2, seqM_append, seqM_flat wp]
  by_cases h : p.broken = none
  · rw [if_pos h, if_pos h, if_pos h, seqM_flat wq]
    exact ⟨by show 0 + p.span + q.span = _; omega, rfl⟩
  · rw [if_neg h, if_neg h, if_neg h]
    exact ⟨by show 0 + p.span = p.span + 0; omega, rfl⟩
theorem endS_left : ∀ (xs ys : List Prog) (b c : Int), c < (seqM xs b).1 → b ≤ c → endS (xs ++ ys) b c = endS xs b c
  | [], ys, b, c, h, hb => by
    have : c < b := h
    omega
  | p :: r, ys, b, c, h, hb => by
    rw [List.cons_append, endS_cons, endS_cons]
    by_cases hc : c < b + p.span
    · rw [if_pos hc, if_pos hc]
    · rw [if_neg hc, if_neg hc]
      unfold seqM at h
      cases hp : p.broken with
      | some w =>
        rw [hp] at h
        exact absurd h hc
      | none =>
        rw [hp] at h
        exact endS_left r ys _ c h (by omega)
theorem endS_right : ∀ (xs ys : List Prog) (b c : Int), (∀ p ∈ xs, Good p) → (seqM xs b).2 = none → (seqM xs b).1 ≤ c → endS (xs ++ ys) b c = endS ys (seqM xs b).1 c
  | [], ys, b, c, _, _, _ => rfl
  | p :: r, ys, b, c, hg, h, hc => by
    rw [List.cons_append, endS_cons]
    unfold seqM at h hc ⊢
    cases hp : p.broken with
    | some w =>
      rw [hp] at h
      cases h
    | none =>
      rw [hp] at h hc
      dsimp only at h hc ⊢
      have hr : ∀ q ∈ r, Good q := fun q hq => hg q (List.mem_cons_of_mem _ hq)
      have := (seqM_bounds (t := b + p.span) hr).1
      rw [if_neg (by omega)]
      exact endS_right r ys _ c hr h hc
theorem endS_shift : ∀ (ps : List Prog) (b x c : Int), endS ps (b + x) c = b + endS ps x (c - b)
  | [], b, x, c => by rw [endS_nil, endS_nil]
  | p :: r, b, x, c => by
    rw [endS_cons, endS_cons]
    by_cases h : c < b + x + p.span
    · rw [if_pos h, if_pos (by omega), show c - b - x = c - (b + x) by omega]
      omega
    · rw [if_neg h, if_neg (by omega), show b + x + p.span = b + (x + p.span) by omega]
      exact endS_shift r b (x + p.span) c
theorem endS_at : ∀ (ps : List Prog) (b : Int), (∀ p ∈ ps, Good p) → endS ps b b = b
  | [], b, _ => endS_nil b b
  | p :: r, b, hg => by
    have g := hg p List.mem_cons_self
    have sp := g.sp
    rw [endS_cons]
    by_cases h : b < b + p.span
    · rw [if_pos h, show b - b = 0 by omega, endA_zero sp]
      omega
    · rw [if_neg h, show b + p.span = b by omega]
      exact endS_at r b fun q hq => hg q (List.mem_cons_of_mem _ hq)
theorem flat_good {p : Prog} (w : WF p) : ∀ q ∈ flatP p, Good q := fun q hq => by
  unfold flatP at hq
  by_cases hk : p.kind = .seq
  · rw [if_pos hk] at hq
    exact wf_good (w.sub hq)
  · rw [if_neg hk] at hq
    rw [List.mem_singleton.mp hq]
    exact wf_good w
theorem endS_flat {p : Prog} (w : WF p) {c : Int} (h0 : 0 ≤ c) (h1 : c < p.span) : endS (flatP p) 0 c = endA p c := by
  by_cases hc : c = 0
  · subst hc
    rw [endS_at _ _ (flat_good w), endA_zero w.pos]
  · unfold flatP
    by_cases hk : p.kind = .seq
    · rw [if_pos hk, endA_seq (.inl hk) (by omega) h1]
    · rw [if_neg hk, endS_cons, if_pos (by omega)]
      rw [show c - 0 = c by omega]
      omega
theorem add_end {p q : Prog} (wp : WF p) (wq : WF q) {c : Int} (h0 : 0 ≤ c) : endA (addP p q) c = if c < p.span then endA p c else p.span + (if p.broken = none then endA q (c - p.span) else 0) := by
  obtain ⟨hs, _⟩ := add_span wp wq
  have pn := wp.pos
  have qn := wq.pos
  by_cases hS : (addP p q).span ≤ c
  · rw [endA_late hS, hs]
    by_cases hb : p.broken = none
    · rw [if_pos hb] at hs ⊢
      rw [if_neg (by omega), if_pos hb, endA_late (by omega)]
    · rw [if_neg hb] at hs ⊢
      rw [if_neg (by omega), if_neg hb]
  · by_cases hc : c = 0
    · subst hc
      rw [endA_zero (by omega)]
      by_cases hn : 0 < p.span
      · rw [if_pos hn, endA_zero pn]
      · have : p.span = 0 := by omega
        rw [if_neg hn, this, show (0 : Int) - 0 = 0 by omega, endA_zero qn]
        split <;> rfl
    · rw [endA_seq (p := addP p q) (.inl rfl) (by omega) (by omega)]
      show endS (flatP p ++ flatP q) 0 c = _
      by_cases hn : c < p.span
      · rw [if_pos hn, endS_left _ _ _ _ (by rw [seqM_flat wp]; show c < 0 + p.span; omega) h0, endS_flat wp h0 hn]
      · rw [if_neg hn]
        by_cases hb : p.broken = none
        · rw [if_pos hb] at hs ⊢
          rw [endS_right _ _ _ _ (flat_good wp) (by rw [seqM_flat wp]; exact hb) (by rw [seqM_flat wp]; show 0 + p.span ≤ c; omega), seqM_flat wp]
          show endS (flatP q) (0 + p.span) c = _
          rw [show (0 : Int) + p.span = p.span + 0 by omega, endS_shift, endS_flat wq (by omega) (by omega)]
        · rw [if_neg hb] at hs
          omega
/-! ### names of failures -/
theorem seqM_broken : ∀ (ps : List Prog) (t : Int) (z : Str), (seqM ps t).2 = some z → ∃ p ∈ ps, p.broken = some z
  | [], t, z, h => by cases h
  | p :: r, t, z, h => by
    rw [seqM_cons] at h
    cases hp : p.broken with
    | some w =>
      rw [hp] at h
      exact ⟨p, List.mem_cons_self, by rw [hp]; exact h⟩
    | none =>
      rw [hp] at h
      obtain ⟨q, hq, e⟩ := seqM_broken r _ z h
      exact ⟨q, List.mem_cons_of_mem _ hq, e⟩
theorem brokenAt_mem {ps : List Prog} {i : Nat} {z : Str} (h : brokenAt ps i = some z) : ∃ p ∈ ps, p.broken = some z := by
  unfold brokenAt at h
  split at h
  · rename_i p hp
    exact ⟨p, List.mem_of_getElem? hp, h⟩
  · cases h
theorem meas_name {k : Kind} {ps : List Prog} {n : Int} {ws : List Str} (sh : Shape k ps n ws) {z : Str} (h : (meas k ps n ws).2 = some z) : IsName z ∨ ∃ p ∈ ps, p.broken = some z := by
  cases k with
  | sleep => cases h
  | fail =>
    obtain ⟨_, _, w, rfl, hw⟩ := sh
    have e : some w = some z := h
    cases e
    exact .inl hw
  | seq => exact .inr (seqM_broken _ _ _ h)
  | loop =>
    unfold meas at h
    by_cases hn : n = 0
    · rw [if_pos hn] at h
      cases h
    · rw [if_neg hn] at h
      exact .inr (brokenAt_mem h)
  | shield => exact .inr (brokenAt_mem h)
  | cleanup =>
    have e : (if brokenAt ps 1 = none then brokenAt ps 0 else brokenAt ps 1) = some z := h
    by_cases hn : brokenAt ps 1 = none
    · rw [if_pos hn] at e
      exact .inr (brokenAt_mem e)
    · rw [if_neg hn] at e
      exact .inr (brokenAt_mem e)
  | fallback =>
    unfold meas at h
    dsimp only at h
    cases hb : brokenAt ps 0 with
    | none =>
      rw [hb] at h
      cases h
    | some w =>
      rw [hb] at h
      dsimp only at h
      by_cases hw : w ∈ ws
      · rw [if_pos hw] at h
        exact .inr (brokenAt_mem h)
      · rw [if_neg hw] at h
        exact .inr (brokenAt_mem (hb.trans h))
  | timeout =>
    obtain ⟨_, _, _, w, rfl, hw⟩ := sh
    unfold meas at h
    dsimp only at h
    split at h
    · have e : some w = some z := h
      cases e
      exact .inl hw
    · exact .inr (brokenAt_mem h)
  | moveon =>
    obtain ⟨_, _, _, rfl⟩ := sh
    unfold meas at h
    dsimp only at h
    split at h
    · cases h
    · exact .inr (brokenAt_mem h)
  | together =>
    have e : (grpM ps).2 = some z := h
    unfold grpM at e
    cases hf : firstFail ps with
    | none =>
      rw [hf] at e
      cases e
    | some f =>
      rw [hf] at e
      exact .inr ⟨f, (firstFail_some hf).1, e⟩
theorem wf_name {p : Prog} (w : WF p) : ∀ z, p.broken = some z → IsName z := by
  induction w with
  | mk sub sh hn hd hm ln ld ih =>
    intro z hz
    have e := (meas_of hm).2
    have hz2 := e.symm.trans hz
    rcases meas_name sh hz2 with h | ⟨p, hp, h⟩
    · exact h
    · exact ih p hp z h
theorem name_ok {z : Str} (h : IsName z) : PyData.strOk z = true := by
  unfold PyData.strOk
  rw [← Array.all_toList, List.all_eq_true]
  intro c hc
  have := h.2.2 c hc
  exact decide_eq_true (by omega)
/-! ### the others -/
theorem shield_end {p : Prog} (wp : WF p) {c : Int} (h0 : 0 ≤ c) : endA (mkP .shield [p] 0 []) c = if 0 < c then p.span else 0 := by
  have hs : (mkP .shield [p] 0 []).span = p.span := rfl
  have pn := wp.pos
  by_cases hc : 0 < c
  · rw [if_pos hc]
    by_cases h : p.span ≤ c
    · rw [endA_late (by omega), hs]
    · rw [endA_shield (p := mkP .shield [p] 0 []) rfl hc (by omega), hs]
  · rw [if_neg hc, show c = 0 by omega, endA_zero (by omega)]
theorem cleanup_end {p q : Prog} (wp : WF p) (wq : WF q) {c : Int} (h0 : 0 ≤ c) : endA (mkP .cleanup [p, q] 0 []) c = if 0 < c then min (endA p (min c p.span) + q.span) (p.span + q.span) else 0 := by
  have hs : (mkP .cleanup [p, q] 0 []).span = p.span + q.span := rfl
  have pn := wp.pos
  have qn := wq.pos
  by_cases hc : 0 < c
  · rw [if_pos hc]
    by_cases h : p.span + q.span ≤ c
    · rw [endA_late (by omega), hs, show min c p.span = p.span by omega, endA_late (Int.le_refl _)]
      omega
    · rw [endA_cleanup (p := mkP .cleanup [p, q] 0 []) rfl hc (by omega), hs]
      have e1 : endH (mkP .cleanup [p, q] 0 []).parts c = endA p c := by
        show endH [p, q] c = _
        rw [endH]
      have e2 : spanAt (mkP .cleanup [p, q] 0 []).parts 1 = q.span := rfl
      rw [e1, e2]
      by_cases h2 : p.span ≤ c
      · rw [show min c p.span = p.span by omega, endA_late h2, endA_late (Int.le_refl _)]
      · rw [show min c p.span = c by omega]
  · rw [if_neg hc, show c = 0 by omega, endA_zero (by omega)]
theorem cleanup_broken {p q : Prog} : (mkP .cleanup [p, q] 0 []).broken = if q.broken = none then p.broken else q.broken := rfl
theorem loop_span2 {p : Prog} {k : Int} : (mulP p k).span = (if k = 0 then 0 else p.span * (if p.broken = none then k else 1)) ∧ (mulP p k).broken = if k = 0 then none else p.broken := by
  have e1 : (mulP p k).span = (meas .loop [p] k []).1 := rfl
  have e2 : (mulP p k).broken = (meas .loop [p] k []).2 := rfl
  rw [e1, e2]
  unfold meas
  by_cases h : k = 0
  · rw [if_pos h, if_pos h]
    exact ⟨rfl, by rw [if_pos h]⟩
  · rw [if_neg h, if_neg h]
    exact ⟨rfl, by rw [if_neg h]; rfl⟩
theorem loop_mid {p : Prog} {k c : Int} (h0 : 0 < c) (h1 : c < (mulP p k).span) : endA (mulP p k) c = (let r := if p.span = 0 then 0 else min (c / p.span) (k - 1); r * p.span + endA p (c - r * p.span)) := by
  rw [endA_loop (p := mulP p k) rfl h0 h1]
  have e : ∀ x, endH (mulP p k).parts x = endA p x := fun x => by
    show endH [p] x = _
    rw [endH]
  simp only [e]
  rfl
theorem loop_end_ok {p : Prog} (wp : WF p) (hb : p.broken = none) {k t c : Int} (t0 : 0 ≤ t) (t1 : t ≤ k) (c0 : 0 ≤ c) (c1 : c ≤ p.span) : endA (mulP p k) (min (t * p.span + c) (p.span * k)) = min (t * p.span + endA p c) (p.span * k) := by
  have g := wf_good wp
  have pn := wp.pos
  have hs : (mulP p k).span = p.span * k := by
    rw [loop_span2.1, if_pos hb]
    by_cases h : k = 0
    · rw [if_pos h, h, Int.mul_zero]
    · rw [if_neg h]
  have lo := g.lo c c0 c1
  have hi := g.hi c c0
  by_cases hc : p.span * k ≤ t * p.span + c
  · rw [show min (t * p.span + c) (p.span * k) = p.span * k by omega, endA_late (by rw [hs]; exact Int.le_refl _), hs]
    omega
  · have tp : 0 ≤ t * p.span := Int.mul_nonneg t0 pn
    rw [show min (t * p.span + c) (p.span * k) = t * p.span + c by omega]
    have np : 0 < p.span := by
      rcases Int.lt_or_eq_of_le pn with h | h
      · exact h
      · rw [← h] at hc c1
        omega
    have up : (t + 1) * p.span ≤ p.span * k := by
      have : t < k := by
        rcases Int.lt_or_eq_of_le t1 with h | h
        · exact h
        · rw [h, Int.mul_comm] at hc
          omega
      rw [Int.mul_comm p.span k]
      exact Int.mul_le_mul_of_nonneg_right (by omega) pn
    have tk : t < k := by
      rcases Int.lt_or_eq_of_le t1 with h | h
      · exact h
      · rw [h, Int.mul_comm] at hc
        omega
    rw [Int.add_mul, Int.one_mul] at up
    by_cases hz : t * p.span + c = 0
    · have : c = 0 := by omega
      rw [hz, this, endA_zero (by rw [hs]; omega), endA_zero pn]
      omega
    · rw [loop_mid (by omega) (by rw [hs]; omega)]
      by_cases hcn : c = p.span
      · have ed : (t * p.span + c) / p.span = t + 1 := by
          rw [hcn, show t * p.span + p.span = (t + 1) * p.span by rw [Int.add_mul, Int.one_mul]]
          exact Int.mul_ediv_cancel _ (by omega)
        have tk2 : t + 1 < k := by
          rcases Int.lt_or_eq_of_le (show t + 1 ≤ k by omega) with h | h
          · exact h
          · rw [← h, Int.mul_comm, Int.add_mul, Int.one_mul] at hc
            omega
        simp only [ed]
        rw [if_neg (by omega), show min (t + 1) (k - 1) = t + 1 by omega, hcn, Int.add_mul, Int.one_mul, show t * p.span + p.span - (t * p.span + p.span) = 0 by omega, endA_zero pn, endA_late (Int.le_refl _)]
        omega
      · have ed : (t * p.span + c) / p.span = t := by
          rw [Int.add_comm, Int.add_mul_ediv_right _ _ (by omega), Int.ediv_eq_zero_of_lt c0 (by omega)]
          omega
        simp only [ed]
        rw [if_neg (by omega), show min t (k - 1) = t by omega, show t * p.span + c - t * p.span = c by omega]
        omega
theorem loop_end_fail {p : Prog} (wp : WF p) (hb : p.broken ≠ none) {k c : Int} (k1 : 1 ≤ k) (c0 : 0 ≤ c) (c1 : c ≤ p.span) : endA (mulP p k) c = endA p c := by
  have pn := wp.pos
  have hs : (mulP p k).span = p.span := by
    rw [loop_span2.1, if_neg (by omega), if_neg hb, Int.mul_one]
  by_cases hc : p.span ≤ c
  · rw [endA_late (by omega), endA_late hc, hs]
  · by_cases hz : c = 0
    · subst hz
      rw [endA_zero (by omega), endA_zero pn]
    · rw [loop_mid (by omega) (by omega), if_neg (by omega), Int.ediv_eq_zero_of_lt c0 (by omega), show min 0 (k - 1) = 0 by omega]
      simp
theorem fb_caught {p q : Prog} {ws : List Str} {w : Str} (hb : p.broken = some w) (hw : w ∈ ws) : (mkP .fallback [p, q] 0 ws).span = p.span + q.span ∧ (mkP .fallback [p, q] 0 ws).broken = q.broken := by
  have e1 : (mkP .fallback [p, q] 0 ws).span = (meas .fallback [p, q] 0 ws).1 := rfl
  have e2 : (mkP .fallback [p, q] 0 ws).broken = (meas .fallback [p, q] 0 ws).2 := rfl
  rw [e1, e2]
  unfold meas
  have : brokenAt [p, q] 0 = some w := hb
  simp only [this, if_pos hw]
  exact ⟨rfl, rfl⟩
theorem fb_other {p q : Prog} {ws : List Str} (hb : ∀ w, p.broken = some w → w ∉ ws) : (mkP .fallback [p, q] 0 ws).span = p.span ∧ (mkP .fallback [p, q] 0 ws).broken = p.broken := by
  have e1 : (mkP .fallback [p, q] 0 ws).span = (meas .fallback [p, q] 0 ws).1 := rfl
  have e2 : (mkP .fallback [p, q] 0 ws).broken = (meas .fallback [p, q] 0 ws).2 := rfl
  rw [e1, e2]
  unfold meas
  have h : brokenAt [p, q] 0 = p.broken := rfl
  cases hp : p.broken with
  | none =>
    rw [hp] at h
    rw [h]
    exact ⟨rfl, rfl⟩
  | some w =>
    rw [hp] at h
    rw [h]
    dsimp only
    rw [if_neg (hb w hp)]
    exact ⟨rfl, rfl⟩
theorem fb_end {p q : Prog} (wp : WF p) (wq : WF q) {ws : List Str} {c : Int} (c0 : 0 ≤ c) (hs : p.span ≤ (mkP .fallback [p, q] 0 ws).span) (h : c ≤ p.span) : endA (mkP .fallback [p, q] 0 ws) c = endA p c ∨ c = p.span := by
  have pn := wp.pos
  by_cases hc : c = p.span
  · exact .inr hc
  · refine .inl ?_
    by_cases hz : c = 0
    · subst hz
      rw [endA_zero (by omega), endA_zero pn]
    · rw [endA_seq (p := mkP .fallback [p, q] 0 ws) (.inr rfl) (by omega) (by omega)]
      show endS [p, q] 0 c = _
      rw [endS_cons, if_pos (by omega), show c - 0 = c by omega]
      omega
theorem fb_end2 {p q : Prog} (wp : WF p) (wq : WF q) {ws : List Str} {c : Int} (c0 : p.span ≤ c) (hs : (mkP .fallback [p, q] 0 ws).span = p.span + q.span) : endA (mkP .fallback [p, q] 0 ws) c = p.span + endA q (c - p.span) := by
  have pn := wp.pos
  have qn := wq.pos
  by_cases hS : p.span + q.span ≤ c
  · rw [endA_late (by omega), hs, endA_late (by omega)]
  · by_cases hz : c = 0
    · have : p.span = 0 := by omega
      rw [hz, endA_zero (by omega), this, show (0 : Int) - 0 = 0 by omega, endA_zero qn]
      rfl
    · rw [endA_seq (p := mkP .fallback [p, q] 0 ws) (.inr rfl) (by omega) (by omega)]
      show endS [p, q] 0 c = _
      rw [endS_cons, if_neg (by omega), endS_cons, if_pos (by omega), show c - (0 + p.span) = c - p.span by omega]
      omega
theorem lim_meas {p : Prog} {k : Kind} (hk : k = .timeout ∨ k = .moveon) {n : Int} {ws : List Str} : (mkP k [p] n ws).span = (if n < p.span then endA p n else p.span) ∧ (mkP k [p] n ws).broken = if n < p.span then ws.head? else p.broken := by
  have e1 : (mkP k [p] n ws).span = (meas k [p] n ws).1 := rfl
  have e2 : (mkP k [p] n ws).broken = (meas k [p] n ws).2 := rfl
  rw [e1, e2]
  have e3 : meas k [p] n ws = if n < p.span then (endA p n, ws.head?) else (p.span, p.broken) := by
    have e4 : endH [p] n = endA p n := by rw [endH]
    rcases hk with rfl | rfl
    · unfold meas
      rw [e4]
      rfl
    · unfold meas
      rw [e4]
      rfl
  rw [e3]
  split <;> exact ⟨rfl, rfl⟩
theorem lim_end {p : Prog} (wp : WF p) {k : Kind} (hk : k = .timeout ∨ k = .moveon) {n : Int} {ws : List Str} (n0 : 0 ≤ n) {c : Int} (c0 : 0 ≤ c) : endA (mkP k [p] n ws) c = if n ≤ c ∧ n < p.span then (if 0 < c then endA p n else 0) else endA p c := by
  have pn := wp.pos
  have g := wf_good wp
  have hs := (lim_meas (p := p) hk (n := n) (ws := ws)).1
  by_cases hn : n < p.span
  · rw [if_pos hn] at hs
    have lo := g.lo n n0 (by omega)
    by_cases hc : n ≤ c
    · rw [if_pos ⟨hc, hn⟩]
      by_cases hz : 0 < c
      · rw [if_pos hz]
        by_cases hS : endA p n ≤ c
        · rw [endA_late (by omega), hs]
        · rw [endA_limit (p := mkP k [p] n ws) hk hz (by omega), if_pos (show (mkP k [p] n ws).number ≤ c from hc), hs]
      · rw [if_neg hz, show c = 0 by omega, endA_zero (by omega)]
    · rw [if_neg (fun h => hc h.1)]
      by_cases hz : c = 0
      · subst hz
        rw [endA_zero (by omega), endA_zero pn]
      · rw [endA_limit (p := mkP k [p] n ws) hk (by omega) (by omega), if_neg (show ¬ (mkP k [p] n ws).number ≤ c from hc)]
        show endH [p] c = _
        rw [endH]
  · rw [if_neg hn] at hs
    rw [if_neg (fun h => hn h.2)]
    by_cases hS : p.span ≤ c
    · rw [endA_late (by omega), hs, endA_late hS]
    · by_cases hz : c = 0
      · subst hz
        rw [endA_zero (by omega), endA_zero pn]
      · rw [endA_limit (p := mkP k [p] n ws) hk (by omega) (by omega), if_neg (show ¬ (mkP k [p] n ws).number ≤ c from by show ¬ n ≤ c; omega)]
        show endH [p] c = _
        rw [endH]
end Cu

/-! == LawK04a -/
set_option maxHeartbeats 4000000
namespace Cu
open PySem PySem.Spec PyProof.Rows L2 Evl CuT
section
variable {P : Program} {w : World} {K : PySem.W.Frag} {mg : Str → Option Value} {base : Heap}
def spFailing (C : Addr) : Sp := fun vs H Q _ => ∃ a p, vs = [.ref a] ∧ IsP C H a p ∧ RetV (.bl (!decide (p.broken = none))) H Q
theorem v_failing {C : Addr} {H : Hp} {a : Addr} {p : Prog} (h : IsP C H a p) : SpV (spFailing C) [.ref a] H (.bl (!decide (p.broken = none))) := fun H1 e Q q E => ⟨a, p, rfl, h.ext e, q⟩
theorem brV_nonI {b : Option Str} : decide (brV b = .non) = decide (b = none) := decide_eq_decide.mpr ⟨fun h => brV_inj.mp (h.trans (rfl : V.non = brV none)), fun h => by rw [h]; rfl⟩
abbrev N_law_failing : List Str := ["_law_program"]
theorem sc_law_failing : FnScope N_law_failing ["_law_program"] (defScope s_law_failing) := ⟨rfl, rfl, rfl, by decide +kernel, rfl, by decide +kernel, by decide +kernel⟩

theorem r_law_failing (T : Txt K mg) : FnR P w K mg base (L2.CX P w) 2 (He.ga K "_law_failing") (spFailing (PC K)) := by
  have G_Program_failure_name : FnR P w K mg base (L2.CX P w) 1 (He.ma K (He.ga K "Program") "failure_name") (spFN (PC K)) := r_Program_failure_name T
  refine fn_mk T.f_law_failing sc_law_failing (fun _ _ _ _ _ _ us hl => match us, hl with | [_], _ => rfl) (fun vs H Q E h => ?_) (fun cdv A outer s H vs Q E hr h => ?_)
  · obtain ⟨a, p, rfl, _⟩ := h
    rfl
  obtain ⟨a, p, rfl, hp, q⟩ := h
  refine ⟨_, PSs.nox ((pss_one (ps_ret (pe_cmpR op_notN1 (pe_methR0 (pv 0) T.cls_Program T.m_Program_failure_name G_Program_failure_name (hr.mono (by omega)) passL) pe_non (nomark _))))), ?_⟩
  refine s_ret (ev_op (ev_fnE (ep_of (ev_var rfl) hp)) ev_c fun H1 e1 Q' q' => ⟨rfl, q' H1 (Ex.refl H1)⟩) fun H1 e1 => ?_
  have := q H1 e1
  rw [← brV_nonI] at this
  exact this
def spCuts : Sp := fun vs H Q _ => ∃ (l bl : Addr) (bs : List Int) (n : Nat), vs = [.ref l, .ref bl] ∧ Src H l n ∧ n + 2 * bs.length ≤ 1000000000000 ∧ bl ≠ l ∧ H bl = some (.lst (bs.map V.int)) ∧ bs.length ≤ 10 ∧ (∀ b ∈ bs, 0 ≤ b ∧ (b + 1).natAbs < 2 ^ 8000) ∧
  ∀ (D : Addr) (cs : List Int) (H' : Hp), D ≠ l → H D = none → H' D = some (.lst (cs.map V.int)) → (∀ c ∈ cs, 0 ≤ c) → But l H H' → Src H' l (n + 2 * bs.length) → Q (.ref D) H'
abbrev N_law_cuts : List Str := ["_law_source", "_law_bounds", "_law_found", "_law_bound"]
theorem sc_law_cuts : FnScope N_law_cuts ["_law_source", "_law_bounds"] (defScope s_law_cuts) := ⟨rfl, rfl, rfl, by decide +kernel, rfl, by decide +kernel, by decide +kernel⟩

theorem r_law_cuts (T : Txt K mg) : FnR P w K mg base (L2.CX P w) 2 (He.ga K "_law_cuts") spCuts := by
  have G_law_next : FnR P w K mg base (L2.CX P w) 1 (He.ga K "_law_next") spNext := r_law_next T
  refine fn_mk T.f_law_cuts sc_law_cuts (fun _ _ _ _ _ _ us hl => match us, hl with | [_, _], _ => rfl) (fun vs H Q E h => ?_) (fun cdv A outer s H vs Q E hr h => ?_)
  · obtain ⟨l, bl, bs, n, rfl, _⟩ := h
    rfl
  obtain ⟨l, bl, bs, n, rfl, hs, hn, hne, hb, hlen, hbs, q⟩ := h
  refine ⟨_, PSs.nox ((pss_cons (ps_set (i := 2) sc_law_cuts.nd rfl (Or.inl rfl) (pe_lst (pa_cons pe_int (pa_cons pe_int pa_nil))))
    (pss_cons (ps_for PassesOwn.never rfl (pi_list (pv 1)) (pg_name (i := 3) sc_law_cuts.nd rfl (Or.inl rfl)) (pss_cons (ps_set (i := 2) sc_law_cuts.nd rfl (Or.inl rfl) (pe_op op_cat (pv 2) (pe_lst (pa_cons (pe_callB (call_max2 rfl) (by rfl) T.b_max (by decide +kernel) (pa_cons pe_int (pa_cons (pe_op op_sub (pv 3) pe_int) pa_nil))) (pa_cons (pv 3) (pa_cons (pe_op op_add (pv 3) pe_int) pa_nil))))))
    (pss_one (ps_set (i := 2) sc_law_cuts.nd rfl (Or.inl rfl) (pe_op op_cat (pv 2) (pe_lst (pa_cons (pe_callR G_law_next (hr.mono (by omega)) rfl T.g_law_next (kp_of T.f_law_next) passL (pa_cons (pv 0) (pa_cons (pe_op op_add (pv 3) pe_int) pa_nil))) (pa_cons (pe_callR G_law_next (hr.mono (by omega)) rfl T.g_law_next (kp_of T.f_law_next) passL (pa_cons (pv 0) (pa_cons (pe_op op_add (pv 3) pe_int) pa_nil))) pa_nil))))))))
    (pss_one (ps_ret (pv 2)))))), ?_⟩
  refine q_asgL (el_lst (ea_cons ev_c (ea_cons ev_c ea_nil)) (by show 2 ≤ 100000; decide)) fun D0 H1 hD0 e1 h1 => ?_
  refine q_forLn (xs := bs.map V.int) (ev_var rfl) (sq_of (e1 _ _ hb)) (fun i σ' H' => ∃ (D : Addr) (cs : List Int) (v : Option V), σ' = [some (.ref l), some (.ref bl), some (.ref D), v] ∧ D ≠ l ∧ H D = none ∧ H' D = some (.lst (cs.map V.int)) ∧ (∀ c ∈ cs, 0 ≤ c) ∧ cs.length ≤ 2 + 5 * i ∧ But l H H' ∧ Src H' l (n + 2 * i))
    (fun H2 e2 => ⟨D0, [0, 1], none, rfl, hs.ne hD0, hD0, e2 _ _ h1, (fun c hc => by simp only [List.mem_cons, List.not_mem_nil, or_false] at hc; omega), by show 2 ≤ 2 + 5 * 0; decide, But.of (e1.trans e2), hs.ext (e1.trans e2)⟩)
    (fun i σ' H' _ hP => by
      obtain ⟨D, cs, v, _, _, _, _, _, _, b, _⟩ := hP
      exact sq_of (b _ _ hne hb)) (fun i x σ' H' hx hP => ?_) (fun σ' H' hP => ?_)
  · obtain ⟨D, cs, v, rfl, nD, fD, hD, hc, hcl, b, s'⟩ := hP
    rw [List.getElem?_map] at hx
    obtain ⟨z, hz, rfl⟩ := Option.map_eq_some_iff.mp hx
    have hi : i < bs.length := (List.getElem?_eq_some_iff.mp hz).1
    obtain ⟨z0, z1⟩ := hbs z (List.mem_of_getElem? hz)
    refine q_asgL (el_catV (ev_var rfl) hD (el_lst (ea_cons (ev_maxS ev_c (ev_subI (ev_var rfl) ev_c)) (ea_cons (ev_var rfl) (ea_cons (ev_addI (ev_var rfl) ev_c) ea_nil))) (by show 3 ≤ 100000; decide)) (by rw [List.length_map]; show cs.length + 3 ≤ 100000; omega)) fun D2 H2 hD2 e2 h2 => ?_
    have s2 := s'.ext e2
    have nD2 := s'.ne hD2
    refine ⟨_, rfl, ?_⟩
    refine go_next rfl (ev_addI (ev_var rfl) ev_c) s2 (by omega) (by omega) z1 fun r1 H3 r10 r11 b3 s3 => ?_
    refine go_next rfl (ev_addI (ev_var rfl) ev_c) s3 (by omega) (by omega) z1 fun r2 H4 r20 r21 b4 s4 => ?_
    refine ⟨by show 2 ≤ sizeLine; decide, fun D3 hD3 => ?_⟩
    have e5 := Ex.new (o := .lst [V.int r1, .int r2]) hD3
    have n3 := s4.ne hD3
    refine ⟨D2, D3, _, _, rfl, rfl, e5 _ _ (b4 _ _ nD2 (b3 _ _ nD2 h2)), upd_same, sz_of (by rw [List.length_append, List.length_map]; show cs.length + 3 + 2 ≤ 100000; omega), fun D4 hD4 => ?_⟩
    have e6 := Ex.new (o := .lst (cs.map V.int ++ [V.int (max 0 (z - 1)), .int z, .int (z + 1)] ++ [V.int r1, .int r2])) hD4
    have B : But l H _ := ((((b.ex e2).trans b3).trans b4).ex e5).ex e6
    have S : Src _ l (n + 2 * i + 1 + 1) := (s4.ext e5).ext e6
    refine ⟨D4, cs ++ [max 0 (z - 1), z, z + 1] ++ [r1, r2], _, rfl, (s4.ext e5).ne hD4, But.free ((((b.ex e2).trans b3).trans b4).ex e5) (s4.ext e5) hD4, ?_, fun c hc' => ?_, ?_, B, ?_⟩
    · rw [upd_same, List.map_append, List.map_append]
      rfl
    · rcases List.mem_append.mp hc' with y | y
      · rcases List.mem_append.mp y with y | y
        · exact hc c y
        · simp only [List.mem_cons, List.not_mem_nil, or_false] at y
          omega
      · simp only [List.mem_cons, List.not_mem_nil, or_false] at y
        omega
    · rw [List.length_append, List.length_append]
      show cs.length + 3 + 2 ≤ _
      omega
    · rw [show n + 2 * (i + 1) = n + 2 * i + 1 + 1 by omega]
      exact S
  · obtain ⟨D, cs, v, rfl, nD, fD, hD, hc, hcl, b, s'⟩ := hP
    rw [List.length_map] at s'
    exact ⟨_, rfl, q D cs H' nD fD hD hc b s'⟩
end
end Cu

/-! == GenH -/
set_option maxHeartbeats 4000000
namespace Cu
open PySem PySem.Spec PyProof.Rows L2 Evl CuT
section
variable {K : PySem.W.Frag} {C : Addr} {σ : L2.St} {H : Hp} {ta tb te tf t1 t2 t3 : TE} {D : Ends} {tz : TS}
theorem q_par {i j : Nat} {tA : TA} {v w : V} (h : EvA tA σ H [v, w]) (k : ∀ H1, Ex H H1 → tz D ((σ.set i (some v)).set j (some w)) H1) : tSeq (tPar i j tA) tz D σ H := h H (Ex.refl H) _ fun H1 e => ⟨v, w, rfl, k H1 e⟩
/-! ### failure names as data -/
def pdB : Option Str → PyData
  | none => .none
  | some z => .str z
def okB (b : Option Str) : Prop := ∀ z, b = some z → IsName z
theorem dpB {b : Option Str} : Dp K H (brV b) (pdB b) := by
  cases b with
  | none => exact .non
  | some z => exact .str z
theorem eqv_pdB {a b : Option Str} : PyData.eqv (pdB a) (pdB b) = decide (a = b) := by
  cases a with
  | none =>
    cases b with
    | none => rfl
    | some z => rfl
  | some y =>
    cases b with
    | none => rfl
    | some z =>
      show decide (y = z) = decide (some y = some z)
      exact decide_eq_decide.mpr ⟨fun h => by rw [h], fun h => Option.some.inj h⟩
theorem lay_pdB {b : Option Str} (h : okB b) : (pdB b).canLay0 = true := by
  cases b with
  | none => rfl
  | some z => exact name_ok (h z rfl)
theorem depth_pdB (b : Option Str) : (pdB b).depth = 0 := by cases b <;> rfl
theorem shaped2 {a b : Option Str} (ha : okB a) (hb : okB b) : SeqAt.shaped (.tuple [pdB a, pdB b]) = true := by
  unfold SeqAt.shaped
  have h1 : PyData.canLay0 (.tuple [pdB a, pdB b]) = ((pdB a).canLay0 && ((pdB b).canLay0 && true)) := rfl
  have h2 : PyData.depth (.tuple [pdB a, pdB b]) = max (pdB a).depth (max (pdB b).depth 0) + 1 := rfl
  rw [h1, h2, lay_pdB ha, lay_pdB hb, depth_pdB, depth_pdB]
  rfl
theorem et_neTup2 {a b c : Option Str} (h1 : Ev t1 σ H (brV a)) (h2 : Ev t2 σ H (brV b)) (h3 : Ev t3 σ H (brV c)) (oa : okB a) (ob : okB b) (oc : okB c) :
    EvT (tTest (tOp (rNeD K) (tTup (tCons t1 (tCons t2 tNil))) (tOp (rRepT K) (tTup (tCons t3 tNil)) (tC (.int 2))))) σ H (!(decide (a = c) && decide (b = c))) := fun H1 e Q q =>
  h1 H1 e _ fun H2 e2 => h2 H2 (e.trans e2) _ fun H3 e3 => ⟨by show 2 ≤ sizeLine; decide, fun T1 hT1 => by
    have x1 : Ex H3 (upd H3 T1 (.tup [brV a, brV b])) := Ex.new hT1
    refine h3 _ (((e.trans e2).trans e3).trans x1) _ fun H4 e4 => ⟨by show 1 ≤ sizeLine; decide, fun T2 hT2 => ?_⟩
    have x2 : Ex H4 (upd H4 T2 (.tup [brV c])) := Ex.new hT2
    refine ⟨T2, 2, [brV c], rfl, rfl, st_of upd_same, by simp, by decide, by decide, by show 1 ≤ 1000; decide, fun T3 hT3 => ?_⟩
    have x3 : Ex (upd H4 T2 (.tup [brV c])) (upd (upd H4 T2 (.tup [brV c])) T3 (.tup [brV c, brV c])) := Ex.new hT3
    refine ⟨.tuple [pdB a, pdB b], .tuple [pdB c, pdB c], .tup (st_of (((e4.trans x2).trans x3) _ _ upd_same)) (.cons dpB (.cons dpB .nil)), .tup (st_of upd_same) (.cons dpB (.cons dpB .nil)), shaped2 oa ob, shaped2 oc oc, ?_⟩
    have ev : PyData.eqv (.tuple [pdB a, pdB b]) (.tuple [pdB c, pdB c]) = (decide (a = c) && decide (b = c)) := by
      show (PyData.eqv (pdB a) (pdB c) && (PyData.eqv (pdB b) (pdB c) && true)) = _
      rw [eqv_pdB, eqv_pdB, Bool.and_true]
    rw [ev]
    exact ⟨_, rfl, q _ ((((e2.trans e3).trans x1).trans e4).trans (x2.trans x3))⟩⟩
/-! ### a loop over drawn cuts; the body only makes things -/
theorem q_forCuts {l : Addr} {n j : Nat} {bs : List Int} {tl : TA} {tu : TS} (Sh : L2.St → Prop) (hv : σ[0]? = some (some (.ref l))) (ha : EvA tl σ H (bs.map V.int)) (hs : Src H l n) (hn : n + 2 * bs.length ≤ 1000000000000) (hl : bs.length ≤ 10) (hb : ∀ b ∈ bs, 0 ≤ b ∧ (b + 1).natAbs < 2 ^ 8000) (h0 : Sh σ)
    (hu : ∀ (c : Int) (σ' : L2.St) (H1 H' : Hp) (N : L2.St → Hp → Prop), 0 ≤ c → But l H H1 → Src H1 l (n + 2 * bs.length) → Ex H1 H' → Sh σ' → (∀ σ2 H2, Ex H1 H2 → Sh σ2 → N σ2 H2) → tu { D with nx := N, ct := N, bk := tz D } (σ'.set j (some (.int c))) H')
    (hd : ∀ σ' H', But l H H' → Src H' l (n + 2 * bs.length) → Sh σ' → tz D σ' H') : tSeq (tFor (iList K (tCallR spCuts E0 (tCons (tVar 0) (tCons (tLst tl) tNil)))) (gName j) tu) tz D σ H := by
  refine ⟨_, hv, ha H (Ex.refl H) _ fun Ha ea => ⟨sz_of (by rw [List.length_map]; omega), fun bl hbl => ?_⟩⟩
  have eb : Ex Ha (upd Ha bl (.lst (bs.map V.int))) := Ex.new hbl
  refine ⟨l, bl, bs, n, rfl, (hs.ext ea).ext eb, hn, (hs.ext ea).ne hbl, upd_same, hl, hb, fun Dc cs H1 nD fD hD hc b1 s1 => ?_⟩
  have B1 : But l H H1 := (But.of (ea.trans eb)).trans b1
  refine ⟨Dc, rfl, ⟨_, sq_of hD⟩, for_it (walk_list (xs := cs.map V.int)) (fun i σ' H' => Ex H1 H' ∧ Sh σ') ⟨Ex.refl _, h0⟩ (fun i σ' H' _ hP => sq_of (hP.1 _ _ hD)) (fun i x σ' H' H'' hi hP hY => ?_) (fun σ' H' hP => hd σ' H' (B1.ex hP.1) (s1.ext hP.1) hP.2)⟩
  obtain ⟨rfl, hx⟩ := hY
  rw [List.getElem?_map] at hx
  obtain ⟨c, hc', rfl⟩ := Option.map_eq_some_iff.mp hx
  exact hu c σ' H1 _ _ (hc c (List.mem_of_getElem? hc')) B1 s1 hP.1 hP.2 fun σ2 H2 e2 h2 => ⟨e2, h2⟩
theorem s_forCuts {l : Addr} {n j : Nat} {bs : List Int} {tl : TA} {tu : TS} (Sh : L2.St → Prop) (hv : σ[0]? = some (some (.ref l))) (ha : EvA tl σ H (bs.map V.int)) (hs : Src H l n) (hn : n + 2 * bs.length ≤ 1000000000000) (hl : bs.length ≤ 10) (hb : ∀ b ∈ bs, 0 ≤ b ∧ (b + 1).natAbs < 2 ^ 8000) (h0 : Sh σ)
    (hu : ∀ (c : Int) (σ' : L2.St) (H1 H' : Hp) (N : L2.St → Hp → Prop), 0 ≤ c → But l H H1 → Src H1 l (n + 2 * bs.length) → Ex H1 H' → Sh σ' → (∀ σ2 H2, Ex H1 H2 → Sh σ2 → N σ2 H2) → tu { D with nx := N, ct := N, bk := D.nx } (σ'.set j (some (.int c))) H')
    (hd : ∀ σ' H', But l H H' → Src H' l (n + 2 * bs.length) → Sh σ' → D.nx σ' H') : tFor (iList K (tCallR spCuts E0 (tCons (tVar 0) (tCons (tLst tl) tNil)))) (gName j) tu D σ H :=
  q_forCuts (K := K) (tz := fun D => D.nx) (D := D) Sh hv ha hs hn hl hb h0 hu hd
end
end Cu

/-! == LawK04b -/
set_option maxHeartbeats 4000000
namespace Cu
open PySem PySem.Spec PyProof.Rows L2 Evl CuT
theorem span_sum_bits {x y : Int} (hx : x.natAbs < 2 ^ 6000) (hy : y.natAbs < 2 ^ 6000) : (x + y + 1).natAbs < 2 ^ 8000 := by
  have e : (2 : Nat) ^ 6000 + 2 ^ 6000 + 1 < 2 ^ 8000 := by decide +kernel
  omega
theorem endA_bits {p : Prog} (w : WF p) {c : Int} (h : 0 ≤ c) : (endA p c).natAbs < 2 ^ 6000 := by
  have g := wf_good w
  have a := g.nonneg h
  have b := g.hi c h
  have s := span_bits w
  omega
theorem small_bits {x : Int} (h0 : 0 ≤ x) (h : x ≤ 1000000000000000000000000000) : x.natAbs < 2 ^ 100 := Nat.lt_of_le_of_lt (show x.natAbs ≤ 1000000000000000000000000000 by omega) (by decide +kernel)
section
variable {P : Program} {w : World} {K : PySem.W.Frag} {mg : Str → Option Value} {base : Heap}
theorem mk_loop {p : Prog} (h : Small p 60 10) {k : Int} (h0 : 0 ≤ k) (h1 : k ≤ mostT) : MkOk .loop [p] k [] := (mk_small (k := .loop) (ws := []) (small1 h) ⟨⟨_, rfl⟩, h0, h1, rfl⟩ (by show 1 ≤ 3; decide) (by decide) (by decide) (by decide) (by decide)).1
def spTurns (C : Addr) : Sp := fun vs H Q _ => ∃ (l pa qa : Addr) (p q : Prog) (count : Int) (n : Nat), vs = [.ref l, .ref pa, .ref qa, .int count] ∧ Src H l n ∧ n + 100 ≤ 1000000000000 ∧ IsP C H pa p ∧ IsP C H qa q ∧ Small p 60 10 ∧ Small q 60 10 ∧ 0 ≤ count ∧ count ≤ 100000000000000000000000000 ∧
  ∀ H', But l H H' → Src H' l (n + 100) → Q (.bl true) H'
abbrev N_law_turns_right : List Str := ["_law_source", "_law_p", "_law_q", "_law_count", "_law_n", "_law_m", "_law_both", "_law_cut", "_law_due", "_law_loop", "_law_k", "_law_turns"]
theorem sc_law_turns_right : FnScope N_law_turns_right ["_law_source", "_law_p", "_law_q", "_law_count"] (defScope s_law_turns_right) := ⟨rfl, rfl, rfl, by decide +kernel, rfl, by decide +kernel, by decide +kernel⟩

theorem r_law_turns_right (T : Txt K mg) : FnR P w K mg base (L2.CX P w) 130 (He.ga K "_law_turns_right") (spTurns (PC K)) := by
  have G_law_next : FnR P w K mg base (L2.CX P w) 1 (He.ga K "_law_next") spNext := r_law_next T
  have G_law_cuts : FnR P w K mg base (L2.CX P w) 2 (He.ga K "_law_cuts") spCuts := r_law_cuts T
  have G_law_failing : FnR P w K mg base (L2.CX P w) 2 (He.ga K "_law_failing") (spFailing (PC K)) := r_law_failing T
  have G_Program_total_length : FnR P w K mg base (L2.CX P w) 1 (He.ma K (He.ga K "Program") "total_length") (spTL (PC K)) := r_Program_total_length T
  have G_Program_failure_name : FnR P w K mg base (L2.CX P w) 1 (He.ma K (He.ga K "Program") "failure_name") (spFN (PC K)) := r_Program_failure_name T
  have G_Program_call : FnR P w K mg base (L2.CX P w) 124 (He.ma K (He.ga K "Program") "__call__") (spCallP (PC K)) := r_Program_call T
  have G_Program_add : FnR P w K mg base (L2.CX P w) 128 (He.ma K (He.ga K "Program") "__add__") (spAdd (PC K)) := r_Program_add T
  have G_Program_mul : FnR P w K mg base (L2.CX P w) 128 (He.ma K (He.ga K "Program") "__mul__") (spMul (PC K)) := r_Program_mul T
  refine fn_mk T.f_law_turns_right sc_law_turns_right (fun _ _ _ _ _ _ us hl => match us, hl with | [_, _, _, _], _ => rfl) (fun vs H Q E h => ?_) (fun cdv A outer s H vs Q E hr h => ?_)
  · obtain ⟨l, pa, qa, p, q, count, n, rfl, _⟩ := h
    rfl
  obtain ⟨l, pa, qa, p, q, count, n0, rfl, hs, hn, hp, hq, smp, smq, c0, c1, k⟩ := h
  refine ⟨_, PSs.nox ((pss_cons (ps_par (i := 4) (j := 5) (by rfl) sc_law_turns_right.nd rfl rfl (by decide) rfl rfl (pa_cons (pe_methR0 (pv 1) T.cls_Program T.m_Program_total_length G_Program_total_length (hr.mono (by omega)) passL) (pa_cons (pe_methR0 (pv 2) T.cls_Program T.m_Program_total_length G_Program_total_length (hr.mono (by omega)) passL) pa_nil)) (by rfl))
    (pss_cons (ps_set (i := 6) sc_law_turns_right.nd rfl (Or.inl rfl) (pe_op (op_addP T G_Program_add (hr.mono (by omega))) (pv 1) (pv 2)))
    (pss_cons (ps_if (pt_val (pe_callR G_law_failing (hr.mono (by omega)) rfl T.g_law_failing (kp_of T.f_law_failing) passL (pa_cons (pv 1) pa_nil))) (pss_one (ps_set (i := 5) sc_law_turns_right.nd rfl (Or.inl rfl) pe_int)) pss_nil)
    (pss_cons (ps_if (PW.pt (pw_or (pt_cmpR op_ne (pe_methR0 (pv 6) T.cls_Program T.m_Program_total_length G_Program_total_length (hr.mono (by omega)) passL) (pe_op op_add (pv 4) (pv 5)) (nomark _)) (pw_or1 (PW.pt (pw_and (pt_cmpR op_ne (pe_methR0 (pv 6) T.cls_Program T.m_Program_failure_name G_Program_failure_name (hr.mono (by omega)) passL) (pe_methR0 (pv 2) T.cls_Program T.m_Program_failure_name G_Program_failure_name (hr.mono (by omega)) passL) (nomark _)) (pw_and1 (pt_not (pt_val (pe_callR G_law_failing (hr.mono (by omega)) rfl T.g_law_failing (kp_of T.f_law_failing) passL (pa_cons (pv 1) pa_nil)))))))))) (pss_one (ps_ret pe_bl)) pss_nil)
    (pss_cons (ps_if (PW.pt (pw_and (pt_val (pe_callR G_law_failing (hr.mono (by omega)) rfl T.g_law_failing (kp_of T.f_law_failing) passL (pa_cons (pv 1) pa_nil))) (pw_and (pt_cmpR (op_neD hr.units) (pe_tup (pa_cons (pe_methR0 (pv 6) T.cls_Program T.m_Program_failure_name G_Program_failure_name (hr.mono (by omega)) passL) (pa_cons (pe_methR0 (pe_op (op_mulP T G_Program_mul (hr.mono (by omega))) (pv 1) (pv 3)) T.cls_Program T.m_Program_failure_name G_Program_failure_name (hr.mono (by omega)) passL) pa_nil))) (pe_op op_repT (pe_tup (pa_cons (pe_methR0 (pv 1) T.cls_Program T.m_Program_failure_name G_Program_failure_name (hr.mono (by omega)) passL) pa_nil)) pe_int) (nomark _)) (pw_and1 (pt_cmpR op_gt (pv 3) pe_int (nomark _)))))) (pss_one (ps_ret pe_bl)) pss_nil)
    (pss_cons (ps_for PassesOwn.never rfl (pi_list (pe_callR G_law_cuts (hr.mono (by omega)) rfl T.g_law_cuts (kp_of T.f_law_cuts) passL (pa_cons (pv 0) (pa_cons (pe_lst (pa_cons (pv 4) (pa_cons (pe_op op_add (pv 4) (pv 5)) pa_nil))) pa_nil)))) (pg_name (i := 7) sc_law_turns_right.nd rfl (Or.inl rfl)) (pss_cons (ps_set (i := 8) sc_law_turns_right.nd rfl (Or.inl rfl) (pe_callP (pv 1) (callO_P T) G_Program_call (hr.mono (by omega)) (pa_cons (pv 7) pa_nil)))
    (pss_cons (ps_if (pt_cmpR op_ge (pv 7) (pv 4) (nomark _)) (pss_one (ps_set (i := 8) sc_law_turns_right.nd rfl (Or.inl rfl) (pe_op op_add (pv 4) (pe_op op_mulW (pe_callP (pv 2) (callO_P T) G_Program_call (hr.mono (by omega)) (pa_cons (pe_op op_sub (pv 7) (pv 4)) pa_nil)) (pe_callTy call_int1r (by rfl) T.b_int (by decide +kernel) (pa_cons (pe_not (pe_callR G_law_failing (hr.mono (by omega)) rfl T.g_law_failing (kp_of T.f_law_failing) passL (pa_cons (pv 1) pa_nil))) pa_nil)))))) pss_nil)
    (pss_one (ps_if (pt_cmpR op_ne (pe_callP (pv 6) (callO_P T) G_Program_call (hr.mono (by omega)) (pa_cons (pv 7) pa_nil)) (pv 8) (nomark _)) (pss_one (ps_ret pe_bl)) pss_nil)))))
    (pss_cons (ps_set (i := 9) sc_law_turns_right.nd rfl (Or.inl rfl) (pe_op (op_mulP T G_Program_mul (hr.mono (by omega))) (pv 1) (pv 3)))
    (pss_cons (ps_if (pt_val (pe_callR G_law_failing (hr.mono (by omega)) rfl T.g_law_failing (kp_of T.f_law_failing) passL (pa_cons (pv 1) pa_nil))) (pss_one (ps_ret (pe_and (pe_cmpR op_eq (pe_methR0 (pe_op (op_mulP T G_Program_mul (hr.mono (by omega))) (pv 1) (pe_op op_add (pv 3) pe_int)) T.cls_Program T.m_Program_total_length G_Program_total_length (hr.mono (by omega)) passL) (pv 4) (nomark _)) (pe_one (pe_cmpR op_eq (pe_callP (pe_op (op_mulP T G_Program_mul (hr.mono (by omega))) (pv 1) (pe_op op_add (pv 3) pe_int)) (callO_P T) G_Program_call (hr.mono (by omega)) (pa_cons (pe_op op_fdivW (pv 4) pe_int) pa_nil)) (pe_callP (pv 1) (callO_P T) G_Program_call (hr.mono (by omega)) (pa_cons (pe_op op_fdivW (pv 4) pe_int) pa_nil)) (nomark _)))))) pss_nil)
    (pss_cons (ps_if (PW.pt (pw_or (pt_cmpR op_ne (pe_methR0 (pv 9) T.cls_Program T.m_Program_total_length G_Program_total_length (hr.mono (by omega)) passL) (pe_op op_mulW (pv 4) (pv 3)) (nomark _)) (pw_or (pt_cmpR op_notN1 (pe_methR0 (pv 9) T.cls_Program T.m_Program_failure_name G_Program_failure_name (hr.mono (by omega)) passL) pe_non (nomark _)) (pw_or1 (pt_cmpR op_ne (pe_methR0 (pe_op (op_mulP T G_Program_mul (hr.mono (by omega))) (pv 1) pe_int) T.cls_Program T.m_Program_total_length G_Program_total_length (hr.mono (by omega)) passL) pe_int (nomark _)))))) (pss_one (ps_ret pe_bl)) pss_nil)
    (pss_cons (ps_for PassesOwn.never rfl (pi_range1 (by rfl) T.b_range (pa_cons pe_int pa_nil)) (pg_name (i := 10) sc_law_turns_right.nd rfl (Or.inl rfl)) (pss_cons (ps_set (i := 11) sc_law_turns_right.nd rfl (Or.inl rfl) (pe_callR G_law_next (hr.mono (by omega)) rfl T.g_law_next (kp_of T.f_law_next) passL (pa_cons (pv 0) (pa_cons (pe_op op_add (pv 3) pe_int) pa_nil))))
    (pss_cons (ps_set (i := 7) sc_law_turns_right.nd rfl (Or.inl rfl) (pe_callR G_law_next (hr.mono (by omega)) rfl T.g_law_next (kp_of T.f_law_next) passL (pa_cons (pv 0) (pa_cons (pe_op op_add (pv 4) pe_int) pa_nil))))
    (pss_cons (ps_set (i := 8) sc_law_turns_right.nd rfl (Or.inl rfl) (pe_callB (call_min2 rfl) (by rfl) T.b_min (by decide +kernel) (pa_cons (pe_op op_add (pe_op op_mulW (pv 11) (pv 4)) (pe_callP (pv 1) (callO_P T) G_Program_call (hr.mono (by omega)) (pa_cons (pv 7) pa_nil))) (pa_cons (pe_op op_mulW (pv 4) (pv 3)) pa_nil))))
    (pss_one (ps_if (pt_cmpR op_ne (pe_callP (pv 9) (callO_P T) G_Program_call (hr.mono (by omega)) (pa_cons (pe_callB (call_min2 rfl) (by rfl) T.b_min (by decide +kernel) (pa_cons (pe_op op_add (pe_op op_mulW (pv 11) (pv 4)) (pv 7)) (pa_cons (pe_op op_mulW (pv 4) (pv 3)) pa_nil))) pa_nil)) (pv 8) (nomark _)) (pss_one (ps_ret pe_bl)) pss_nil))))))
    (pss_one (ps_ret pe_bl))))))))))))), ?_⟩
  have wp := smp.1
  have wq := smq.1
  have pn := wp.pos
  have qn := wq.pos
  have pb := span_bits wp
  have qb := span_bits wq
  obtain ⟨mkA, _, sma⟩ := add_ok (flat_of smp) (flat_of smq) (by decide) (by decide) (by decide)
  have wa := sma.1
  obtain ⟨as, ab⟩ := add_span wp wq
  have cm : count ≤ mostT := by unfold mostT; omega
  have cm1 : count + 1 ≤ mostT := by unfold mostT; omega
  have mkL := mk_loop smp c0 cm
  have mkL1 := mk_loop (k := count + 1) smp (by omega) cm1
  have mkL0 := mk_loop (k := 0) smp (by decide) (by decide)
  refine q_par (ea_cons (ev_tlE (ep_of (ev_var rfl) hp)) (ea_cons (ev_tlE (ep_of (ev_var rfl) hq)) ea_nil)) fun H1 e1 => ?_
  refine q_asgP (ep_add (ep_of (ev_var rfl) (hp.ext e1)) (ep_of (ev_var rfl) (hq.ext e1)) mkA) fun ba H2 e2 hb => ?_
  have x2 := e1.trans e2
  obtain ⟨M, hM⟩ : ∃ M : Int, M = if p.broken = none then q.span else 0 := ⟨_, rfl⟩
  have M0 : 0 ≤ M ∧ M.natAbs < 2 ^ 6000 := by
    rw [hM]
    split
    · exact ⟨qn, qb⟩
    · exact ⟨by decide, by decide +kernel⟩
  refine q_ifAsg (v := .int M) (et_B (ev_callR (ea_cons (ev_var rfl) ea_nil) (v_failing (hp.ext x2)))) (fun hf => ev_is (ev_c (v := .int 0)) (by
    rw [hM, if_neg]
    intro z
    rw [z] at hf
    cases hf)) (fun hf => by
    have z : p.broken = none := by
      cases hz : p.broken with
      | none => rfl
      | some y =>
        rw [hz] at hf
        cases hf
    rw [hM, if_pos z]
    rfl) fun H3 e3 => ?_
  have x3 := x2.trans e3
  have hb3 := hb.ext e3
  refine q_no (et_is (et_or (et_neZ (ev_tlE (ep_of (ev_var rfl) hb3)) (ev_addI (ev_var rfl) (ev_var rfl))) (fun _ => et_and (et_neB (ev_fnE (ep_of (ev_var rfl) hb3)) (ev_fnE (ep_of (ev_var rfl) (hq.ext x3)))) (fun _ => et_not (et_B (ev_callR (ea_cons (ev_var rfl) ea_nil) (v_failing (hp.ext x3))))))) ?_) fun H4 e4 => ?_
  · rw [as, ab, hM, decide_eq_true rfl]
    by_cases hk : p.broken = none
    · rw [if_pos hk, decide_eq_true rfl]
      rfl
    · rw [decide_eq_false hk]
      cases decide ((if p.broken = none then q.broken else p.broken) = q.broken) <;> rfl
  have x4 := x3.trans e4
  have hb4 := hb3.ext e4
  have ok_p : okB p.broken := wf_name wp
  refine q_no (et_is (et_and (et_B (ev_callR (ea_cons (ev_var rfl) ea_nil) (v_failing (hp.ext x4)))) (fun _ => et_and (et_neTup2 (ev_fnE (ep_of (ev_var rfl) hb4)) (ev_fnE (ep_mul (ep_of (ev_var rfl) (hp.ext x4)) (ev_var rfl) mkL)) (ev_fnE (ep_of (ev_var rfl) (hp.ext x4))) (wf_name wa) (wf_name mkL.ok) ok_p) (fun _ => et_cmp (ev_var rfl) ev_c))) ?_) fun H5 e5 => ?_
  · by_cases hk : p.broken = none
    · rw [decide_eq_true hk]
      rfl
    · rw [decide_eq_false hk, ab, if_neg hk, decide_eq_true rfl]
      by_cases hz : count = 0
      · rw [hz]
        cases decide ((mulP p 0).broken = p.broken) <;> rfl
      · rw [show (mulP p count).broken = p.broken from by rw [loop_span2.2, if_neg hz], decide_eq_true rfl]
        rfl
  have x5 := x4.trans e5
  refine q_forCuts (bs := [p.span, p.span + M]) (fun σ' => ∃ w7 w8, σ' = [some (.ref l), some (.ref pa), some (.ref qa), some (.int count), some (.int p.span), some (.int M), some (.ref ba), w7, w8, none, none, none]) rfl (ea_cons (ev_var rfl) (ea_cons (ev_addI (ev_var rfl) (ev_var rfl)) ea_nil)) (hs.ext x5) (by show n0 + 2 * 2 ≤ _; omega) (by show 2 ≤ 10; decide) (fun b hb => ?_) ⟨_, _, rfl⟩ (fun c σ' H6 H' N hc b6 s6 e6 hSh hN => ?_) (fun σ' H6 b6 s6 hSh => ?_)
  · simp only [List.mem_cons, List.not_mem_nil, or_false] at hb
    have z := span_sum_bits pb M0.2
    have z2 := span_sum_bits pb (y := 0) (by decide +kernel)
    rcases hb with rfl | rfl
    · exact ⟨pn, by rw [Int.add_zero] at z2; exact z2⟩
    · exact ⟨by omega, z⟩
  · obtain ⟨w7, w8, rfl⟩ := hSh
    have hpX := ((hp.ext x5).but (hs.ext x5) b6).ext e6
    have hqX := ((hq.ext x5).but (hs.ext x5) b6).ext e6
    have hbX := ((hb4.ext e5).but (hs.ext x5) b6).ext e6
    refine q_asg (ev_callE (ep_of (ev_var rfl) hpX) (ev_var rfl) wp hc) fun H7 e7 => ?_
    have ae := add_end wp wq hc
    refine q_ifAsg (v := .int (endA (addP p q) c)) (et_cmp (ev_var rfl) (ev_var rfl)) (fun hf => ?_) (fun hf => ?_) fun H8 e8 => ?_
    · have hf : p.span ≤ c := of_decide_eq_true hf
      rw [ae, if_neg (by omega)]
      refine ev_is (ev_addI (ev_var rfl) (ev_mulI (ev_callE (ep_of (ev_var rfl) (hqX.ext e7)) (ev_subI (ev_var rfl) (ev_var rfl)) wq (by omega)) (ev_intB (ev_notV (ev_callR (ea_cons (ev_var rfl) ea_nil) (v_failing (hpX.ext e7))))) (wide_mul (a := 6000) (b := 10) (endA_bits wq (by omega)) (by split <;> decide) (by decide) (by decide) (by decide)))) ?_
      by_cases hk : p.broken = none
      · rw [if_pos hk, decide_eq_true hk]
        show V.int (p.span + endA q (c - p.span) * 1) = _
        rw [Int.mul_one]
      · rw [if_neg hk, decide_eq_false hk]
        show V.int (p.span + endA q (c - p.span) * 0) = _
        rw [Int.mul_zero]
    · have hf : ¬ p.span ≤ c := of_decide_eq_false hf
      rw [ae, if_pos (by omega)]
      rfl
    · refine s_when (b := false) (et_is (et_neZ (ev_callE (ep_of (ev_var rfl) (hbX.ext (e7.trans e8))) (ev_var rfl) wa hc) (ev_var rfl)) (by rw [decide_eq_true rfl]; rfl)) (fun z => nomatch z) (fun _ H9 e9 => hN _ _ (e6.trans ((e7.trans e8).trans e9)) ⟨_, _, rfl⟩)
  · obtain ⟨w7, w8, rfl⟩ := hSh
    have hp6 := (hp.ext x5).but (hs.ext x5) b6
    have B6 : But l H H6 := (But.of x5).trans b6
    have s6 : Src H6 l (n0 + 4) := s6
    refine q_asgP (ep_mul (ep_of (ev_var rfl) hp6) (ev_var rfl) mkL) fun la H7 e7 hl7 => ?_
    have hp7 := hp6.ext e7
    have dv : ∀ j : Int, CDivW j 2 := fun j => wide_div (b := 10) (by decide) (by decide) (by decide) (by decide)
    refine q_by (A := p.broken ≠ none) (et_B (ev_callR (ea_cons (ev_var rfl) ea_nil) (v_failing hp7))) (by rw [decide_not]) (fun hk H8 e8 => ?_) (fun hk H8 e8 => ?_)
    · have hp8 := hp7.ext e8
      have l1 : (mulP p (count + 1)).span = p.span := by rw [loop_span2.1, if_neg (by omega), if_neg hk, Int.mul_one]
      have hd0 : 0 ≤ p.span / 2 := Int.ediv_nonneg pn (by decide)
      have hd1 : p.span / 2 ≤ p.span := by omega
      have l2 := loop_end_fail wp hk (k := count + 1) (by omega) hd0 hd1
      refine s_ret (ev_is (ev_andV (ev_op (ev_tlE (ep_mul (ep_of (ev_var rfl) hp8) (ev_addI (ev_var rfl) ev_c) mkL1)) (ev_var rfl) (rv_eq rfl)) (fun _ => ev_op (ev_callE (ep_mul (ep_of (ev_var rfl) hp8) (ev_addI (ev_var rfl) ev_c) mkL1) (ev_divI (ev_var rfl) ev_c (dv _)) mkL1.ok hd0) (ev_callE (ep_of (ev_var rfl) hp8) (ev_divI (ev_var rfl) ev_c (dv _)) wp hd0) (rv_eq rfl))) (w := .bl true) ?_) fun H9 e9 => ?_
      · rw [l1, l2, decide_eq_true rfl, decide_eq_true rfl]
        rfl
      · exact k H9 (((B6.ex e7).ex e8).ex e9) (((((s6.ext e7).ext e8).ext e9)).mono (by omega))
    · have hk : p.broken = none := Classical.byContradiction hk
      have hp8 := hp7.ext e8
      have hl8 := hl7.ext e8
      have ls : (mulP p count).span = p.span * count := by
        rw [loop_span2.1, if_pos hk]
        by_cases h : count = 0
        · rw [if_pos h, h, Int.mul_zero]
        · rw [if_neg h]
      have lb : (mulP p count).broken = none := by
        rw [loop_span2.2, hk]
        split <;> rfl
      have cb : count.natAbs < 2 ^ 100 := small_bits c0 (by omega)
      have mw : CMulW p.span count := wide_mul pb cb (by decide) (by decide) (by decide)
      refine q_no (et_is (et_or (et_neZ (ev_tlE (ep_of (ev_var rfl) hl8)) (ev_mulI (ev_var rfl) (ev_var rfl) mw)) (fun _ => et_or (et_notN (ev_fnE (ep_of (ev_var rfl) hl8))) (fun _ => et_neZ (ev_tlE (ep_mul (ep_of (ev_var rfl) hp8) ev_c mkL0)) ev_c))) ?_) fun H9 e9 => ?_
      · rw [ls, lb, decide_eq_true rfl, loop_span2.1, if_pos rfl]
        rfl
      have hp9 := hp8.ext e9
      have hl9 := hl8.ext e9
      have B9 := ((B6.ex e7).ex e8).ex e9
      have s9 := ((s6.ext e7).ext e8).ext e9
      refine q_forR1 (n := 6) (ea_cons ev_c ea_nil) (by decide) (fun i σ' H' => But l H9 H' ∧ Src H' l (n0 + 4 + 2 * i) ∧ ∃ u7 u8 u10 u11, σ' = [some (.ref l), some (.ref pa), some (.ref qa), some (.int count), some (.int p.span), some (.int M), some (.ref ba), u7, u8, some (.ref la), u10, u11]) (fun H10 e10 => ⟨But.of e10, s9.ext e10, _, _, _, _, rfl⟩) (fun i σ' H' hi hP => ?_) (fun σ' H' hP => ?_)
      · obtain ⟨b, s', u7, u8, u10, u11, rfl⟩ := hP
        refine go_next rfl (ev_addI (ev_var rfl) ev_c) s' (by omega) (by omega) (far_bits (by omega) (by omega)) fun t Ha t0 t1 ba' sa => ?_
        refine go_next rfl (ev_addI (ev_var rfl) ev_c) sa (by omega) (by omega) (span1_bits wp (by omega) (by omega)) fun c Hb c0' c1' bb' sb => ?_
        have Bb := (b.trans ba').trans bb'
        have hpb := hp9.but s9 Bb
        have hlb := hl9.but s9 Bb
        have tb : t.natAbs < 2 ^ 100 := small_bits t0 (by omega)
        have tw : CMulW t p.span := wide_mul tb pb (by decide) (by decide) (by decide)
        have le := loop_end_ok wp hk (k := count) (t := t) (c := c) t0 (by omega) c0' (by omega)
        have np : 0 ≤ p.span * count := Int.mul_nonneg pn c0
        have nt : 0 ≤ t * p.span := Int.mul_nonneg t0 pn
        refine q_asg (ev_min2 (ev_addI (ev_mulI (ev_var rfl) (ev_var rfl) tw) (ev_callE (ep_of (ev_var rfl) hpb) (ev_var rfl) wp c0')) (ev_mulI (ev_var rfl) (ev_var rfl) mw)) fun Hc ec => ?_
        refine s_when (b := false) (et_is (et_neZ (ev_callE (ep_of (ev_var rfl) (hlb.ext ec)) (ev_min2 (ev_addI (ev_mulI (ev_var rfl) (ev_var rfl) tw) (ev_var rfl)) (ev_mulI (ev_var rfl) (ev_var rfl) mw)) mkL.ok (by omega)) (ev_var rfl)) (by rw [le, decide_eq_true rfl]; rfl)) (fun z => nomatch z) (fun _ Hd ed => ⟨Bb.ex (ec.trans ed), ?_, _, _, _, _, rfl⟩)
        rw [show n0 + 4 + 2 * (i + 1) = n0 + 4 + 2 * i + 1 + 1 by omega]
        exact sb.ext (ec.trans ed)
      · obtain ⟨b, s', u7, u8, u10, u11, rfl⟩ := hP
        exact k H' (B9.trans b) (s'.mono (by show n0 + 4 + 2 * 6 ≤ n0 + 100; omega))
end
end Cu

/-! == LawK04c -/
set_option maxHeartbeats 4000000
namespace Cu
open PySem PySem.Spec PyProof.Rows L2 Evl CuT
/-! ### a program that does not hold a list -/
theorem IsP.ne {C D : Addr} {H : Hp} {a : Addr} {p : Prog} (h : IsP C (hid D H) a p) : a ≠ D := by
  obtain ⟨dx, _, _, ea, _⟩ := h.at_
  exact (hid_some ea).1
theorem IsP.un {C D : Addr} {H : Hp} {a : Addr} {p : Prog} (h : IsP C (hid D H) a p) : IsP C H a p := h.ext hid_ex
theorem hid_Ex {D : Addr} {H H' : Hp} (e : Ex H H') : Ex (hid D H) (hid D H') := fun b o h => by
  obtain ⟨n, h⟩ := hid_some h
  rw [hid_ne n]
  exact e b o h
/-- after a change at D -/
theorem IsP.mut {C D : Addr} {H : Hp} {a : Addr} {p : Prog} {o : HO} (h : IsP C (hid D H) a p) : IsP C (upd H D o) a p := by
  have h2 : IsP C (hid D (upd H D o)) a p := by rw [hid_upd]; exact h
  exact h2.un
theorem IsP.hidden {C D : Addr} {H H' : Hp} {a : Addr} {p : Prog} (h : IsP C H a p) (hD : H D = none) (e : Ex H H') : IsP C (hid D H') a p := by
  rw [← hid_none hD] at h
  exact h.ext (hid_Ex e)
section
variable {P : Program} {w : World} {K : PySem.W.Frag} {mg : Str → Option Value} {base : Heap}
theorem make_okD {C : Addr} {H : Hp} {k : Kind} {l wl D : Addr} {u : HO} {ps : List Prog} {n : Int} {ws : List Str} {Q : VK} {E : XK} (hD : H D = some u) (hl : PL C (hid D H) l ps) (hwl : H wl = some (.lst (ws.map V.str))) (hne : wl ≠ D) (mk : MkOk k ps n ws) (q : ∀ H' a, Ex H H' → IsP C (hid D H') a (mkP k ps n ws) → Q (.ref a) H') :
    ∀ x dx, H x = none → H dx = none → dx ≠ x → spInit C [.ref x, .str k.s, .ref l, .int n, .ref wl] (upd (upd H dx (.own x)) x (.ins C dx [])) (fun v H2 => v = .non ∧ Q (.ref x) H2) E := fun x dx nx ndx ne => by
  have e1 : Ex H (upd (upd H dx (.own x)) x (.ins C dx [])) := (Ex.new ndx).trans (Ex.new (by rw [upd_ne (Ne.symm ne)]; exact nx))
  have hl0 : PL C H l ps := hl.ext hid_ex
  refine ⟨x, dx, k, l, ps, n, wl, ws, rfl, upd_same, hl0.ext e1, e1 _ _ hwl, mk, fun H' b hx => ⟨rfl, ?_⟩⟩
  have e2 : Ex H H' := fun c o h => b c o (ne_of_none h nx) (e1 c o h)
  refine q H' x e2 ?_
  obtain ⟨as, h1, h2, h3⟩ := hl.ext (hid_Ex e2)
  have nxD : x ≠ D := fun z => by rw [z, hD] at nx; cases nx
  exact .mk (by rw [hid_ne nxD]; exact hx) h1 (by rw [hid_ne hne]; exact e2 _ _ hwl) h2 h3
def spFallbackD (C : Addr) : Sp := fun vs H Q _ => ∃ (a b l : Addr) (p q : Prog) (ws : List Str), vs = [.ref a, .ref l, .ref b] ∧ IsP C (hid l H) a p ∧ IsP C (hid l H) b q ∧ H l = some (.lst (ws.map V.str)) ∧ 1 ≤ ws.length ∧ ws.length ≤ 20 ∧ (∀ z ∈ ws, IsName z) ∧ ws.Nodup ∧ MkOk .fallback [p, q] 0 ws ∧
  ∀ H' a, Ex H H' → IsP C (hid l H') a (mkP .fallback [p, q] 0 ws) → Q (.ref a) H'
theorem r_fallbackD (T : Txt K mg) : FnR P w K mg base (L2.CX P w) 128 (He.ga K "fallback") (spFallbackD (PC K)) := by
  have G_check_program : FnR P w K mg base (L2.CX P w) 1 (He.ga K "check_program") (spChkP (PC K)) := r_check_program T
  have G_check_names : FnR P w K mg base (L2.CX P w) 2 (He.ga K "check_names") spChkNs := r_check_names T
  have G_Program_init : FnR P w K mg base (L2.CX P w) 126 (He.ma K (He.ga K "Program") "__init__") (spInit (PC K)) := r_Program_init T
  refine fn_mk T.f_fallback sc_fallback (fun _ _ _ _ _ _ us hl => match us, hl with | [_, _, _], _ => rfl) (fun vs H Q E h => ?_) (fun cdv A outer s H vs Q E hr h => ?_)
  · obtain ⟨a, b, l, p, q, ws, rfl, _⟩ := h
    rfl
  obtain ⟨a, b, nl, p, q, ws, rfl, hp, hq, hn, n1, n2, n3, n4, mk, k⟩ := h
  refine ⟨_, PSs.nox ((pss_cons (ps_expr (pe_callR G_check_program (hr.mono (by omega)) rfl T.g_check_program (kp_of T.f_check_program) passL (pa_cons pe_str (pa_cons (pv 0) pa_nil))))
    (pss_cons (ps_expr (pe_callR G_check_names (hr.mono (by omega)) rfl T.g_check_names (kp_of T.f_check_names) passL (pa_cons (pv 1) pa_nil)))
    (pss_cons (ps_expr (pe_callR G_check_program (hr.mono (by omega)) rfl T.g_check_program (kp_of T.f_check_program) passL (pa_cons pe_str (pa_cons (pv 2) pa_nil))))
    (pss_one (ps_ret (StX.pe_makeR T.mk_Program G_Program_init (hr.mono (by omega)) rfl T.g_Program passL (pa_cons pe_str (pa_cons (pe_lst (pa_cons (pv 0) (pa_cons (pv 2) pa_nil))) (pa_cons pe_int (pa_cons (pe_callTy call_list_of (by rfl) T.b_list (by decide +kernel) (pa_cons (pv 1) pa_nil)) pa_nil))))))))))), ?_⟩
  refine q_drop (ev_callR (ea_cons ev_c (ea_cons (ev_var rfl) ea_nil)) (v_chkP hp.un)) fun H1 e1 => ?_
  refine q_drop (ev_callR (ea_cons (ev_var rfl) ea_nil) (v_chkNs (e1 _ _ hn) n1 n2 n3 n4)) fun H2 e2 => ?_
  refine q_drop (ev_callR (ea_cons ev_c (ea_cons (ev_var rfl) ea_nil)) (v_chkP (hq.un.ext (e1.trans e2)))) fun H3 e3 => ?_
  have x2 := (e1.trans e2).trans e3
  refine ⟨_, rfl, _, rfl, by show 2 ≤ sizeLine; decide, fun l hl => ?_⟩
  have e4 := Ex.new (o := .lst [.ref a, .ref b]) hl
  have hn3 := x2 _ _ hn
  have nl1 : l ≠ nl := fun z => by rw [z, hn3] at hl; cases hl
  refine ⟨_, rfl, nl, _, rfl, .inl (sq_of ((x2.trans e4) _ _ hn)), fun wl hwl => ?_⟩
  have e5 := Ex.new (o := .lst (ws.map V.str)) hwl
  have nl2 : wl ≠ nl := fun z => by rw [z, (e4 _ _ hn3)] at hwl; cases hwl
  have x4 := (x2.trans e4).trans e5
  refine make_okD (x4 _ _ hn) (PL.two (by rw [hid_ne nl1]; exact e5 _ _ upd_same) (hp.ext (hid_Ex x4)) (hq.ext (hid_Ex x4))) upd_same nl2 mk fun H' z ez hz => k H' z (x4.trans ez) hz
end
end Cu

/-! == LawK04d -/
set_option maxHeartbeats 4000000
namespace Cu
open PySem PySem.Spec PyProof.Rows L2 Evl CuT
section
variable {K : PySem.W.Frag} {C : Addr} {σ : L2.St} {H : Hp} {t : TT} {te tl : TE}
theorem el_compN {α : Type} {zs : List α} {toV : α → V} {j : Nat} {vs : List Nat} (f : α → Bool) (g : α → V) (h : EvL tl σ H (zs.map toV)) (hz : zs.length ≤ 40000) (hw : ∀ x, wipe ((wipe σ vs).set j (some x)) vs = wipe σ vs)
    (ht : ∀ z H1, Ex H H1 → z ∈ zs → EvT t ((wipe σ vs).set j (some (toV z))) H1 (f z)) (he : ∀ z H1, Ex H H1 → z ∈ zs → f z = true → Ev te ((wipe σ vs).set j (some (toV z))) H1 (g z)) :
    EvL (tLc (iList K tl) (gName j) t te vs) σ H ((zs.filter f).map g) := by
  have q := el_lcNL (K := K) (t := t) (te := te) (σ := σ) (H := H) (tl := tl) (j := j) (vs := vs) (xs := zs.map toV) (fun i => match zs[i]? with | some z => f z | none => false) (fun i => match zs[i]? with | some z => g z | none => .non) h (by rw [List.length_map]; exact hz) hw
    (fun i x H1 e hi => by
      rw [List.getElem?_map] at hi
      obtain ⟨z, hz1, rfl⟩ := Option.map_eq_some_iff.mp hi
      have := ht z H1 e (List.mem_of_getElem? hz1)
      rw [hz1]
      exact this) (fun i x H1 e hi hf => by
      rw [List.getElem?_map] at hi
      obtain ⟨z, hz1, rfl⟩ := Option.map_eq_some_iff.mp hi
      rw [hz1] at hf
      have := he z H1 e (List.mem_of_getElem? hz1) hf
      rw [hz1]
      exact this)
  rw [List.length_map] at q
  rw [← given_eq f g zs]
  exact q
theorem eqvB_refl (b : Option Str) : PyData.eqv (pdB b) (pdB b) = true := by rw [eqv_pdB]; exact decide_eq_true rfl
/-- (i, b, j) != (i, b, j) -/
theorem et_neTup3 {tA tB : TA} {i j : Int} {b : Option Str} (hA : EvA tA σ H [.int i, brV b, .int j]) (hB : EvA tB σ H [.int i, brV b, .int j]) (ok : okB b) : EvT (tTest (tOp (rNeD K) (tTup tA) (tTup tB))) σ H false := fun H1 e Q q =>
  hA H1 e _ fun H2 e2 => ⟨by show 3 ≤ sizeLine; decide, fun T1 hT1 => by
    have x1 : Ex H2 (upd H2 T1 (.tup [.int i, brV b, .int j])) := Ex.new hT1
    refine hB _ ((e.trans e2).trans x1) _ fun H4 e4 => ⟨by show 3 ≤ sizeLine; decide, fun T2 hT2 => ?_⟩
    have x2 : Ex H4 (upd H4 T2 (.tup [.int i, brV b, .int j])) := Ex.new hT2
    have sh : SeqAt.shaped (.tuple [.int i, pdB b, .int j]) = true := by
      unfold SeqAt.shaped
      have h1 : PyData.canLay0 (.tuple [.int i, pdB b, .int j]) = (true && ((pdB b).canLay0 && (true && true))) := rfl
      have h2 : PyData.depth (.tuple [.int i, pdB b, .int j]) = max 0 (max (pdB b).depth (max 0 0)) + 1 := rfl
      rw [h1, h2, lay_pdB ok, depth_pdB]
      rfl
    refine ⟨.tuple [.int i, pdB b, .int j], .tuple [.int i, pdB b, .int j], .tup (st_of ((e4.trans x2) _ _ upd_same)) (.cons (.int i) (.cons dpB (.cons (.int j) .nil))), .tup (st_of upd_same) (.cons (.int i) (.cons dpB (.cons (.int j) .nil))), sh, sh, ?_⟩
    have ev : PyData.eqv (.tuple [.int i, pdB b, .int j]) (.tuple [.int i, pdB b, .int j]) = true := by
      show ((i == i) && (PyData.eqv (pdB b) (pdB b) && ((j == j) && true))) = true
      rw [eqvB_refl, beq_self_eq_true, beq_self_eq_true]
      rfl
    rw [ev]
    exact ⟨_, rfl, q _ (((e2.trans x1).trans e4).trans x2)⟩⟩
theorem in_words {b : Option Str} {ws : List Str} : inV (brV b) (ws.map V.str) = true ↔ ∃ z, b = some z ∧ z ∈ ws := by
  unfold inV
  rw [List.any_eq_true]
  constructor
  · rintro ⟨x, hx, he⟩
    obtain ⟨z, hz, rfl⟩ := List.mem_map.mp hx
    cases b with
    | none => cases he
    | some y =>
      have : z = y := by
        have h : (z == y) = true := he
        exact of_decide_eq_true h
      exact ⟨y, rfl, this ▸ hz⟩
  · rintro ⟨z, rfl, hz⟩
    exact ⟨.str z, List.mem_map.mpr ⟨z, hz, rfl⟩, by show decide (z = z) = true; exact decide_eq_true rfl⟩
end
theorem int01 {c : Int} : (if decide (0 < c) = true then (1 : Int) else 0) = if 0 < c then 1 else 0 := by
  by_cases h : 0 < c
  · rw [decide_eq_true h, if_pos rfl, if_pos h]
  · rw [decide_eq_false h, if_neg Bool.false_ne_true, if_neg h]
section
variable {P : Program} {w : World} {K : PySem.W.Frag} {mg : Str → Option Value} {base : Heap}
def spCovers (C : Addr) : Sp := fun vs H Q _ => ∃ (l pa qa : Addr) (p q : Prog) (n : Nat), vs = [.ref l, .ref pa, .ref qa] ∧ Src H l n ∧ n + 100 ≤ 1000000000000 ∧ IsP C H pa p ∧ IsP C H qa q ∧ Small p 60 10 ∧ Small q 60 10 ∧
  ∀ H', But l H H' → Src H' l (n + 100) → Q (.bl true) H'
abbrev N_law_covers_right : List Str := ["_law_source", "_law_p", "_law_q", "_law_n", "_law_m", "_law_guarded", "_law_tidy", "_law_cut", "_law_names", "_law_handed", "_law_found", "_law_name"]
theorem sc_law_covers_right : FnScope N_law_covers_right ["_law_source", "_law_p", "_law_q"] (defScope s_law_covers_right) := ⟨rfl, rfl, rfl, by decide +kernel, rfl, by decide +kernel, by decide +kernel⟩

theorem r_law_covers_right (T : Txt K mg) : FnR P w K mg base (L2.CX P w) 183 (He.ga K "_law_covers_right") (spCovers (PC K)) := by
  have G_law_cuts : FnR P w K mg base (L2.CX P w) 2 (He.ga K "_law_cuts") spCuts := r_law_cuts T
  have G_Program_total_length : FnR P w K mg base (L2.CX P w) 1 (He.ma K (He.ga K "Program") "total_length") (spTL (PC K)) := r_Program_total_length T
  have G_Program_failure_name : FnR P w K mg base (L2.CX P w) 1 (He.ma K (He.ga K "Program") "failure_name") (spFN (PC K)) := r_Program_failure_name T
  have G_Program_call : FnR P w K mg base (L2.CX P w) 124 (He.ma K (He.ga K "Program") "__call__") (spCallP (PC K)) := r_Program_call T
  have G_Program_eq : FnR P w K mg base (L2.CX P w) 181 (He.ma K (PC K) "__eq__") (spEq (REq (PC K) 60)) := eq_all T 60
  have G_shield : FnR P w K mg base (L2.CX P w) 128 (He.ga K "shield") (spShield (PC K)) := r_shield T
  have G_cleanup : FnR P w K mg base (L2.CX P w) 128 (He.ga K "cleanup") (spCleanup (PC K)) := r_cleanup T
  have G_fallback : FnR P w K mg base (L2.CX P w) 128 (He.ga K "fallback") (spAlt (spFallback (PC K)) (spFallbackD (PC K))) := fn_alt (r_fallback T) (r_fallbackD T)
  refine fn_mk T.f_law_covers_right sc_law_covers_right (fun _ _ _ _ _ _ us hl => match us, hl with | [_, _, _], _ => rfl) (fun vs H Q E h => ?_) (fun cdv A outer s H vs Q E hr h => ?_)
  · obtain ⟨l, pa, qa, p, q, n, rfl, _⟩ := h
    rfl
  obtain ⟨l, pa, qa, p, q, n0, rfl, hs, hn, hp, hq, smp, smq, k⟩ := h
  refine ⟨_, PSs.nox ((pss_cons (ps_par (i := 3) (j := 4) (by rfl) sc_law_covers_right.nd rfl rfl (by decide) rfl rfl (pa_cons (pe_methR0 (pv 1) T.cls_Program T.m_Program_total_length G_Program_total_length (hr.mono (by omega)) passL) (pa_cons (pe_methR0 (pv 2) T.cls_Program T.m_Program_total_length G_Program_total_length (hr.mono (by omega)) passL) pa_nil)) (by rfl))
    (pss_cons (ps_set (i := 5) sc_law_covers_right.nd rfl (Or.inl rfl) (pe_callR G_shield (hr.mono (by omega)) rfl T.g_shield (kp_of T.f_shield) passL (pa_cons (pv 1) pa_nil)))
    (pss_cons (ps_set (i := 6) sc_law_covers_right.nd rfl (Or.inl rfl) (pe_callR G_cleanup (hr.mono (by omega)) rfl T.g_cleanup (kp_of T.f_cleanup) passL (pa_cons (pv 1) (pa_cons (pv 2) pa_nil))))
    (pss_cons (ps_for PassesOwn.never rfl (pi_list (pe_callR G_law_cuts (hr.mono (by omega)) rfl T.g_law_cuts (kp_of T.f_law_cuts) passL (pa_cons (pv 0) (pa_cons (pe_lst (pa_cons (pv 3) (pa_cons (pe_op op_add (pv 3) (pv 4)) pa_nil))) pa_nil)))) (pg_name (i := 7) sc_law_covers_right.nd rfl (Or.inl rfl)) (pss_cons (ps_if (pt_cmpR op_ne (pe_callP (pv 5) (callO_P T) G_Program_call (hr.mono (by omega)) (pa_cons (pv 7) pa_nil)) (pe_op op_mulW (pv 3) (pe_callTy call_int1r (by rfl) T.b_int (by decide +kernel) (pa_cons (pe_cmpR op_gt (pv 7) pe_int (nomark _)) pa_nil))) (nomark _)) (pss_one (ps_ret pe_bl)) pss_nil)
    (pss_one (ps_if (pt_cmpR op_ne (pe_callP (pv 6) (callO_P T) G_Program_call (hr.mono (by omega)) (pa_cons (pv 7) pa_nil)) (pe_op op_mulW (pe_callB (call_min2 rfl) (by rfl) T.b_min (by decide +kernel) (pa_cons (pe_op op_add (pe_callP (pv 1) (callO_P T) G_Program_call (hr.mono (by omega)) (pa_cons (pe_callB (call_min2 rfl) (by rfl) T.b_min (by decide +kernel) (pa_cons (pv 7) (pa_cons (pv 3) pa_nil))) pa_nil)) (pv 4)) (pa_cons (pe_op op_add (pv 3) (pv 4)) pa_nil))) (pe_callTy call_int1r (by rfl) T.b_int (by decide +kernel) (pa_cons (pe_cmpR op_gt (pv 7) pe_int (nomark _)) pa_nil))) (nomark _)) (pss_one (ps_ret pe_bl)) pss_nil))))
    (pss_cons (ps_if (pt_cmpR (op_neD hr.units) (pe_tup (pa_cons (pe_methR0 (pv 5) T.cls_Program T.m_Program_total_length G_Program_total_length (hr.mono (by omega)) passL) (pa_cons (pe_methR0 (pv 5) T.cls_Program T.m_Program_failure_name G_Program_failure_name (hr.mono (by omega)) passL) (pa_cons (pe_methR0 (pv 6) T.cls_Program T.m_Program_total_length G_Program_total_length (hr.mono (by omega)) passL) pa_nil)))) (pe_tup (pa_cons (pv 3) (pa_cons (pe_methR0 (pv 1) T.cls_Program T.m_Program_failure_name G_Program_failure_name (hr.mono (by omega)) passL) (pa_cons (pe_op op_add (pv 3) (pv 4)) pa_nil)))) (nomark _)) (pss_one (ps_ret pe_bl)) pss_nil)
    (pss_cons (ps_setLc (i := 8) (own := [("_law_name", 11)]) (g := gName 11) (tt := (tTest (tOp rNotN (tVar 11) (tC .non)))) (te := (tVar 11)) (by rfl) sc_law_covers_right.nd rfl rfl (sw_true rfl rfl rfl (by decide +kernel)) (pi_list (pe_lst (pa_cons (pe_methR0 (pv 2) T.cls_Program T.m_Program_failure_name G_Program_failure_name (hr.mono (by omega)) passL) (pa_cons (pe_methR0 (pv 1) T.cls_Program T.m_Program_failure_name G_Program_failure_name (hr.mono (by omega)) passL) pa_nil)))) (blkOk_by (own := [("_law_name", 11)]) (N := N_law_covers_right) (sc := defScope s_law_covers_right) (by decide +kernel)) (fun _ _ _ _ _ => (pg_name (i := 11) sc_law_covers_right.nd rfl (Or.inl rfl))) (fun _ _ _ _ _ => (pts_one (pt_cmpR op_notN1 (pv 11) pe_non (nomark _)))) (fun _ _ _ _ _ => (pv 11)))
    (pss_cons (ps_if (pt_cmpR op_ne (pe_methR0 (pv 6) T.cls_Program T.m_Program_failure_name G_Program_failure_name (hr.mono (by omega)) passL) (pe_ix ix_list (pe_op op_cat (pv 8) (pe_lst (pa_cons pe_non pa_nil))) pe_int (fun _ _ => rfl)) (nomark _)) (pss_one (ps_ret pe_bl)) pss_nil)
    (pss_cons (ps_for PassesOwn.never rfl (pi_list (pe_lst (pa_cons (pe_lst (pa_cons pe_str pa_nil)) (pa_cons (pe_lst (pa_cons pe_str (pa_cons pe_str (pa_cons pe_str pa_nil)))) (pa_cons (pe_lst (pa_cons pe_str pa_nil)) pa_nil))))) (pg_name (i := 8) sc_law_covers_right.nd rfl (Or.inl rfl)) (pss_cons (ps_set (i := 9) sc_law_covers_right.nd rfl (Or.inl rfl) (pe_callTy call_list_of (by rfl) T.b_list (by decide +kernel) (pa_cons (pv 8) pa_nil)))
    (pss_cons (ps_set (i := 10) sc_law_covers_right.nd rfl (Or.inl rfl) (pe_callR G_fallback (hr.mono (by omega)) rfl T.g_fallback (kp_of T.f_fallback) passL (pa_cons (pv 1) (pa_cons (pv 9) (pa_cons (pv 2) pa_nil)))))
    (pss_cons (ps_asg pe_str (pg_sub (pv 9) pe_int set_list))
    (pss_cons (ps_expr (pe_bm PySem.F.plainAttrs_list PySem.F.slot_list_append PySem.F.type_list_append mt_append (pv 9) (pa_cons pe_str pa_nil)))
    (pss_cons (ps_if (pt_cmpR (op_neSame T G_Program_eq (hr.mono (by omega))) (pv 10) (pe_callR G_fallback (hr.mono (by omega)) rfl T.g_fallback (kp_of T.f_fallback) passL (pa_cons (pv 1) (pa_cons (pv 8) (pa_cons (pv 2) pa_nil)))) (nomark _)) (pss_one (ps_ret pe_bl)) pss_nil)
    (pss_one (ps_if (pt_cmpR op_in_seq (pe_methR0 (pv 1) T.cls_Program T.m_Program_failure_name G_Program_failure_name (hr.mono (by omega)) passL) (pv 8) (by rfl)) (pss_cons (ps_if (PW.pt (pw_or (pt_cmpR op_ne (pe_methR0 (pv 10) T.cls_Program T.m_Program_total_length G_Program_total_length (hr.mono (by omega)) passL) (pe_op op_add (pv 3) (pv 4)) (nomark _)) (pw_or1 (pt_cmpR op_ne (pe_methR0 (pv 10) T.cls_Program T.m_Program_failure_name G_Program_failure_name (hr.mono (by omega)) passL) (pe_methR0 (pv 2) T.cls_Program T.m_Program_failure_name G_Program_failure_name (hr.mono (by omega)) passL) (nomark _))))) (pss_one (ps_ret pe_bl)) pss_nil)
    (pss_one (ps_if (PW.pt (pw_or (pt_cmpR op_ne (pe_callP (pv 10) (callO_P T) G_Program_call (hr.mono (by omega)) (pa_cons (pv 3) pa_nil)) (pv 3) (nomark _)) (pw_or (pt_cmpR op_ne (pe_callP (pv 10) (callO_P T) G_Program_call (hr.mono (by omega)) (pa_cons (pe_op op_add (pv 3) (pe_op op_fdivW (pv 4) pe_int)) pa_nil)) (pe_op op_add (pv 3) (pe_callP (pv 2) (callO_P T) G_Program_call (hr.mono (by omega)) (pa_cons (pe_op op_fdivW (pv 4) pe_int) pa_nil))) (nomark _)) (pw_or1 (pt_cmpR op_ne (pe_callP (pv 10) (callO_P T) G_Program_call (hr.mono (by omega)) (pa_cons (pe_op op_fdivW (pv 3) pe_int) pa_nil)) (pe_callP (pv 1) (callO_P T) G_Program_call (hr.mono (by omega)) (pa_cons (pe_op op_fdivW (pv 3) pe_int) pa_nil)) (nomark _)))))) (pss_one (ps_ret pe_bl)) pss_nil))) (pss_one (ps_if (pt_cmpR (op_neD hr.units) (pe_tup (pa_cons (pe_methR0 (pv 10) T.cls_Program T.m_Program_total_length G_Program_total_length (hr.mono (by omega)) passL) (pa_cons (pe_methR0 (pv 10) T.cls_Program T.m_Program_failure_name G_Program_failure_name (hr.mono (by omega)) passL) (pa_cons (pe_callP (pv 10) (callO_P T) G_Program_call (hr.mono (by omega)) (pa_cons (pe_op op_fdivW (pv 3) pe_int) pa_nil)) pa_nil)))) (pe_tup (pa_cons (pv 3) (pa_cons (pe_methR0 (pv 1) T.cls_Program T.m_Program_failure_name G_Program_failure_name (hr.mono (by omega)) passL) (pa_cons (pe_callP (pv 1) (callO_P T) G_Program_call (hr.mono (by omega)) (pa_cons (pe_op op_fdivW (pv 3) pe_int) pa_nil)) pa_nil)))) (nomark _)) (pss_one (ps_ret pe_bl)) pss_nil))))))))))
    (pss_one (ps_ret pe_bl))))))))))), ?_⟩
  have wp := smp.1
  have wq := smq.1
  have pn := wp.pos
  have qn := wq.pos
  have pb := span_bits wp
  have qb := span_bits wq
  have mkS : MkOk .shield [p] 0 [] := (mk_small (k := .shield) (ws := []) (small1 smp) ⟨⟨_, rfl⟩, rfl, rfl⟩ (by show 1 ≤ 3; decide) (by decide) (by decide) (by decide) (by decide)).1
  have mkC : MkOk .cleanup [p, q] 0 [] := (mk_small (k := .cleanup) (ws := []) (small2 smp smq) ⟨⟨_, _, rfl⟩, rfl, rfl⟩ (by show 2 ≤ 3; decide) (by decide) (by decide) (by decide) (by decide)).1
  have mkF : ∀ ws : List Str, ws.length ≤ 20 → MkOk .fallback [p, q] 0 ws := fun ws hl => (mk_small (k := .fallback) (ws := ws) (small2 smp smq) ⟨⟨_, _, rfl⟩, rfl, hl⟩ (by show 2 ≤ 3; decide) (by decide) (by decide) (by decide) (by decide)).1
  refine q_par (ea_cons (ev_tlE (ep_of (ev_var rfl) hp)) (ea_cons (ev_tlE (ep_of (ev_var rfl) hq)) ea_nil)) fun H1 e1 => ?_
  refine q_asgP (ep_shield (ep_of (ev_var rfl) (hp.ext e1)) mkS) fun ga H2 e2 hg => ?_
  refine q_asgP (ep_cleanup (ep_of (ev_var rfl) (hp.ext (e1.trans e2))) (ep_of (ev_var rfl) (hq.ext (e1.trans e2))) mkC) fun ta H3 e3 ht => ?_
  have x3 := (e1.trans e2).trans e3
  have hg3 := hg.ext e3
  have bit1 : ∀ c : Int, (if decide (0 < c) = true then (1 : Int) else 0).natAbs < 2 ^ 10 := fun c => by split <;> decide
  refine q_forCuts (bs := [p.span, p.span + q.span]) (fun σ' => ∃ w7, σ' = [some (.ref l), some (.ref pa), some (.ref qa), some (.int p.span), some (.int q.span), some (.ref ga), some (.ref ta), w7, none, none, none, none]) rfl (ea_cons (ev_var rfl) (ea_cons (ev_addI (ev_var rfl) (ev_var rfl)) ea_nil)) (hs.ext x3) (by show n0 + 2 * 2 ≤ _; omega) (by show 2 ≤ 10; decide) (fun b hb => ?_) ⟨_, rfl⟩ (fun c σ' H6 H' N hc b6 s6 e6 hSh hN => ?_) (fun σ' H6 b6 s6 hSh => ?_)
  · simp only [List.mem_cons, List.not_mem_nil, or_false] at hb
    have z := span_sum_bits pb qb
    have z2 := span_sum_bits pb (y := 0) (by decide +kernel)
    rcases hb with rfl | rfl
    · exact ⟨pn, by rw [Int.add_zero] at z2; exact z2⟩
    · exact ⟨by omega, z⟩
  · obtain ⟨w7, rfl⟩ := hSh
    have hpX := ((hp.ext x3).but (hs.ext x3) b6).ext e6
    have hgX := (hg3.but (hs.ext x3) b6).ext e6
    have htX := (ht.but (hs.ext x3) b6).ext e6
    refine q_no (et_is (et_neZ (ev_callE (ep_of (ev_var rfl) hgX) (ev_var rfl) mkS.ok hc) (ev_mulI (ev_var rfl) (ev_intB (ev_cmp (ev_var rfl) ev_c)) (wide_mul pb (bit1 c) (by decide) (by decide) (by decide)))) ?_) fun H7 e7 => ?_
    · rw [shield_end wp hc, int01]
      by_cases h : 0 < c
      · rw [if_pos h, if_pos h, Int.mul_one, decide_eq_true rfl]
        rfl
      · rw [if_neg h, if_neg h, Int.mul_zero, decide_eq_true rfl]
        rfl
    have pm : 0 ≤ min c p.span := by omega
    have hb8 : (min (endA p (min c p.span) + q.span) (p.span + q.span)).natAbs < 2 ^ 8000 := by
      have g := (wf_good wp).nonneg pm
      have z := span_sum_bits pb qb
      omega
    refine s_when (b := false) (et_is (et_neZ (ev_callE (ep_of (ev_var rfl) (htX.ext e7)) (ev_var rfl) mkC.ok hc) (ev_mulI (ev_min2 (ev_addI (ev_callE (ep_of (ev_var rfl) (hpX.ext e7)) (ev_min2 (ev_var rfl) (ev_var rfl)) wp pm) (ev_var rfl)) (ev_addI (ev_var rfl) (ev_var rfl))) (ev_intB (ev_cmp (ev_var rfl) ev_c)) (wide_mul hb8 (bit1 c) (by decide) (by decide) (by decide)))) ?_) (fun z => nomatch z) (fun _ H9 e9 => hN _ _ (e6.trans (e7.trans e9)) ⟨_, rfl⟩)
    rw [cleanup_end wp wq hc, int01]
    by_cases h : 0 < c
    · rw [if_pos h, if_pos h, Int.mul_one, decide_eq_true rfl]
      rfl
    · rw [if_neg h, if_neg h, Int.mul_zero, decide_eq_true rfl]
      rfl
  · obtain ⟨w7, rfl⟩ := hSh
    have hp6 := (hp.ext x3).but (hs.ext x3) b6
    have hq6 := (hq.ext x3).but (hs.ext x3) b6
    have hg6 := hg3.but (hs.ext x3) b6
    have ht6 := ht.but (hs.ext x3) b6
    have B6 : But l H H6 := (But.of x3).trans b6
    have s6 : Src H6 l (n0 + 4) := s6
    clear b6 hg3 ht hg x3 e1 e2 e3
    refine q_no (et_neTup3 (i := p.span) (b := p.broken) (j := p.span + q.span) (ea_cons (ev_tlE (p := mkP .shield [p] 0 []) (ep_of (ev_var rfl) hg6)) (ea_cons (ev_fnE (p := mkP .shield [p] 0 []) (ep_of (ev_var rfl) hg6)) (ea_cons (ev_tlE (p := mkP .cleanup [p, q] 0 []) (ep_of (ev_var rfl) ht6)) ea_nil))) (ea_cons (ev_var rfl) (ea_cons (ev_fnE (ep_of (ev_var rfl) hp6)) (ea_cons (ev_addI (ev_var rfl) (ev_var rfl)) ea_nil))) (wf_name wp)) fun H7 e7 => ?_
    have hp7 := hp6.ext e7
    have hq7 := hq6.ext e7
    have ht7 := ht6.ext e7
    refine q_asgL (el_compN (zs := [q.broken, p.broken]) (toV := brV) (fun b => !decide (b = none)) brV (el_lst (ea_cons (ev_fnE (ep_of (ev_var rfl) hq7)) (ea_cons (ev_fnE (ep_of (ev_var rfl) hp7)) ea_nil)) (by show 2 ≤ 100000; decide)) (by show 2 ≤ 40000; decide) (fun _ => rfl) (fun z Hx ex hz => et_is (et_notN (ev_var rfl)) (by rw [brV_nonI])) (fun z Hx ex hz _ => ev_var rfl)) fun nl H8 hnl e8 h8 => ?_
    have ht8 := ht7.ext e8
    refine q_no (et_is (et_neB (b := (mkP .cleanup [p, q] 0 []).broken) (ev_fnE (ep_of (ev_var rfl) ht8)) (ev_opL1 (el_catV (ev_var rfl) h8 (el_lst (ea_cons ev_c ea_nil) (by show 1 ≤ 100000; decide)) (by
      have hfl : ([q.broken, p.broken].filter fun b => !decide (b = none)).length ≤ 2 := List.length_filter_le _ _
      rw [List.length_map]
      show _ + 1 ≤ 100000
      omega)) (fun Hx ex => ev_c (v := .int ((0 : Nat) : Int))) (fun pL Hx hx ex => rv_ixL (sq_of hx) (atI_nat ?_)))) (by rw [decide_eq_true rfl]; rfl)) fun H9 e9 => ?_
    · rw [cleanup_broken]
      generalize q.broken = bq
      generalize p.broken = bp
      cases bq <;> cases bp <;> rfl
    have x9 := (e7.trans e8).trans e9
    have hp9 := hp6.ext x9
    have hq9 := hq6.ext x9
    have B9 := B6.ex x9
    have s9 := s6.ext x9
    clear ht8 ht7 ht6 hg6 hp7 hq7 h8
    refine ⟨by show 1 ≤ sizeLine; decide, fun a1 h1 => ⟨by show 3 ≤ sizeLine; decide, fun a2 h2 => ⟨by show 1 ≤ sizeLine; decide, fun a3 h3 => ⟨by show 3 ≤ sizeLine; decide, fun a4 h4 => ?_⟩⟩⟩⟩
    have y1 : Ex H9 (upd H9 a1 (.lst [.str "net"])) := Ex.new h1
    have y2 := Ex.new (o := .lst [.str "late", .str "disk", .str "slow"]) h2
    have y3 := Ex.new (o := .lst [.str "none"]) h3
    have y4 := Ex.new (o := .lst [.ref a1, .ref a2, .ref a3]) h4
    have y := (y1.trans y2).trans (y3.trans y4)
    have g1 := ((y2.trans y3).trans y4) a1 _ upd_same
    have g2 := (y3.trans y4) a2 _ upd_same
    have g3 := y4 a3 _ upd_same
    have g4 : upd (upd (upd (upd H9 a1 (.lst [.str "net"])) a2 (.lst [.str "late", .str "disk", .str "slow"])) a3 (.lst [.str "none"])) a4 (.lst [.ref a1, .ref a2, .ref a3]) a4 = some (.lst [.ref a1, .ref a2, .ref a3]) := upd_same
    clear y1 y2 y3 y4 h1 h2 h3 h4
    generalize upd (upd (upd (upd H9 a1 (.lst [.str "net"])) a2 (.lst [.str "late", .str "disk", .str "slow"])) a3 (.lst [.str "none"])) a4 (.lst [.ref a1, .ref a2, .ref a3]) = HA at *
    have hw3 : ∀ x ∈ [V.ref a1, .ref a2, .ref a3], ∃ (aw : Addr) (ws : List Str), x = .ref aw ∧ HA aw = some (.lst (ws.map V.str)) ∧ 1 ≤ ws.length ∧ ws.length ≤ 20 ∧ (∀ z ∈ ws, IsName z) ∧ ws.Nodup := fun x hx => by
      simp only [List.mem_cons, List.not_mem_nil, or_false] at hx
      rcases hx with rfl | rfl | rfl
      · exact ⟨a1, ["net"], rfl, g1, by decide, by decide, (fun z hz => by
          simp only [List.mem_cons, List.not_mem_nil, or_false] at hz
          subst hz
          exact name_by _ (by decide +kernel)), by decide +kernel⟩
      · exact ⟨a2, ["late", "disk", "slow"], rfl, g2, by decide, by decide, (fun z hz => by
          simp only [List.mem_cons, List.not_mem_nil, or_false] at hz
          rcases hz with rfl | rfl | rfl <;> exact name_by _ (by decide +kernel)), by decide +kernel⟩
      · exact ⟨a3, ["none"], rfl, g3, by decide, by decide, (fun z hz => by
          simp only [List.mem_cons, List.not_mem_nil, or_false] at hz
          subst hz
          exact name_by _ (by decide +kernel)), by decide +kernel⟩
    have dv : ∀ j : Int, CDivW j 2 := fun j => wide_div (b := 10) (by decide) (by decide) (by decide) (by decide)
    have dv3 : ∀ j : Int, CDivW j 3 := fun j => wide_div (b := 10) (by decide) (by decide) (by decide) (by decide)
    refine ⟨a4, rfl, ⟨_, sq_of g4⟩, for_it (walk_list (xs := [V.ref a1, .ref a2, .ref a3])) (fun i σ' H' => Ex HA H' ∧ ∃ u8 u9 u10, σ' = [some (.ref l), some (.ref pa), some (.ref qa), some (.int p.span), some (.int q.span), some (.ref ga), some (.ref ta), w7, u8, u9, u10, none]) ⟨Ex.refl _, _, _, _, rfl⟩ (fun i σ' H' _ hP => sq_of (hP.1 _ _ g4)) (fun i x σ' Hc Hc2 hi hP hY => ?_) (fun σ' H' hP => ?_)⟩
    · obtain ⟨ex, u8, u9, u10, rfl⟩ := hP
      obtain ⟨rfl, hx⟩ := hY
      obtain ⟨aw, ws, rfl, hws, w1, w2, w3, w4⟩ := hw3 x (List.mem_of_getElem? hx)
      refine ⟨_, rfl, aw, _, rfl, .inl (sq_of (ex _ _ hws)), fun hd hhd => ?_⟩
      have ed := Ex.new (o := .lst (ws.map V.str)) hhd
      have hpc := (hp9.ext y).ext ex
      have hqc := (hq9.ext y).ext ex
      have mF := mkF ws w2
      refine ⟨_, rfl, _, rfl, _, rfl, .inr ⟨pa, qa, hd, p, q, ws, rfl, hpc.hidden hhd ed, hqc.hidden hhd ed, upd_same, w1, w2, w3, w4, mF, fun Hf fa ef hf => ?_⟩⟩
      have hdf : Hf hd = some (.lst (ws.map V.str)) := ef _ _ upd_same
      have hpf := (hpc.hidden hhd ed).ext (hid_Ex ef)
      have hqf := (hqc.hidden hhd ed).ext (hid_Ex ef)
      have edf := ed.trans ef
      have haf := edf _ _ (ex _ _ hws)
      have naw : aw ≠ hd := fun z => by
        have := ex _ _ hws
        rw [z, hhd] at this
        cases this
      refine q_setL (j := 0) hdf ev_c (ev_var rfl) ev_c (by rw [List.length_map]; omega) fun Hg eg => ?_
      refine q_app (xs := (ws.map V.str).set 0 (.str "other")) upd_same (ev_var rfl) ev_c (by rw [List.length_set, List.length_map]; omega) fun Hh eh => ?_
      have chain : ∀ (a : Addr) (r : Prog), IsP (PC K) (hid hd Hf) a r → IsP (PC K) (upd Hh hd (.lst ((ws.map V.str).set 0 (.str "other") ++ [.str "more"]))) a r := fun a r h => by
        have h2 := h.ext (hid_Ex eg)
        rw [← hid_upd (o := .lst ((ws.map V.str).set 0 (.str "other")))] at h2
        exact (h2.ext (hid_Ex eh)).mut
      have hfI := chain _ _ hf
      have hpI := chain _ _ hpf
      have hqI := chain _ _ hqf
      have haI : upd Hh hd (.lst ((ws.map V.str).set 0 (.str "other") ++ [.str "more"])) aw = some (.lst (ws.map V.str)) := by
        rw [upd_ne naw]
        refine eh _ _ ?_
        rw [upd_ne naw]
        exact eg _ _ haf
      have exI : Ex Hc2 (upd Hh hd (.lst ((ws.map V.str).set 0 (.str "other") ++ [.str "more"]))) := Ex.mut ((Ex.mut (edf.trans eg) hhd).trans eh) hhd
      clear chain hf hpf hqf edf haf eh eg ef ed hdf
      generalize upd Hh hd (.lst ((ws.map V.str).set 0 (.str "other") ++ [.str "more"])) = HI at *
      refine q_no (fun Hx ex' Q' q' => ⟨_, rfl, _, rfl, _, rfl, _, rfl, .inl ⟨pa, qa, aw, p, q, ws, rfl, hpI.ext ex', hqI.ext ex', ex' _ _ haI, w1, w2, w3, w4, mF, fun Hy z ez hz => ⟨fa, z, _, rfl, rfl, hfI.ext (ex'.trans ez), hz, mF.ok, fun Hz ezz => ⟨false, rfl, q' Hz (ez.trans ezz)⟩⟩⟩⟩) fun HJ eJ => ?_
      have hpJ := hpI.ext eJ
      have hqJ := hqI.ext eJ
      have hfJ := hfI.ext eJ
      have haJ := eJ _ _ haI
      have exJ := (ex.trans exI).trans eJ
      have hsF : ∀ c : Int, 0 ≤ c → c ≤ p.span → p.span ≤ (mkP .fallback [p, q] 0 ws).span → (c = p.span → c = 0) → endA (mkP .fallback [p, q] 0 ws) c = endA p c := fun c c0 c1 hs hz => by
        rcases fb_end wp wq (ws := ws) c0 hs c1 with h | h
        · exact h
        · rw [hz h, endA_zero (by omega), endA_zero pn]
      have h20 : 0 ≤ p.span / 2 := Int.ediv_nonneg pn (by decide)
      have h30 : 0 ≤ p.span / 3 := Int.ediv_nonneg pn (by decide)
      have q20 : 0 ≤ q.span / 2 := Int.ediv_nonneg qn (by decide)
      refine s_if (et_test (ev_op (ev_fnE (ep_of (ev_var rfl) hpJ)) (ev_var rfl) (rv_isL (sq_of haJ) (flat_brV _) (flat_words ws)))) (fun hb Hk ek => ?_) (fun hb Hk ek => ?_)
      · obtain ⟨z, hz, hzw⟩ := in_words.mp hb
        obtain ⟨fs, fb⟩ := fb_caught (q := q) hz hzw
        refine q_no (et_is (et_or (et_neZ (ev_tlE (ep_of (ev_var rfl) (hfJ.ext ek))) (ev_addI (ev_var rfl) (ev_var rfl))) (fun _ => et_neB (ev_fnE (ep_of (ev_var rfl) (hfJ.ext ek))) (ev_fnE (ep_of (ev_var rfl) (hqJ.ext ek))))) (by rw [fs, fb, decide_eq_true rfl, decide_eq_true rfl]; rfl)) fun Hl el => ?_
        have hfl := hfJ.ext (ek.trans el)
        have hpl := hpJ.ext (ek.trans el)
        have hql := hqJ.ext (ek.trans el)
        have r1 : endA (mkP .fallback [p, q] 0 ws) p.span = p.span := by
          rw [fb_end2 wp wq (Int.le_refl _) fs, show p.span - p.span = 0 by omega, endA_zero qn]
          omega
        have r2 : endA (mkP .fallback [p, q] 0 ws) (p.span + q.span / 2) = p.span + endA q (q.span / 2) := by
          rw [fb_end2 wp wq (by omega) fs, show p.span + q.span / 2 - p.span = q.span / 2 by omega]
        have r3 := hsF (p.span / 2) h20 (by omega) (by omega) (by omega)
        refine s_when (b := false) (et_is (et_or (et_neZ (ev_callE (ep_of (ev_var rfl) hfl) (ev_var rfl) mF.ok pn) (ev_var rfl)) (fun _ => et_or (et_neZ (ev_callE (ep_of (ev_var rfl) hfl) (ev_addI (ev_var rfl) (ev_divI (ev_var rfl) ev_c (dv _))) mF.ok (by omega)) (ev_addI (ev_var rfl) (ev_callE (ep_of (ev_var rfl) hql) (ev_divI (ev_var rfl) ev_c (dv _)) wq q20))) (fun _ => et_neZ (ev_callE (ep_of (ev_var rfl) hfl) (ev_divI (ev_var rfl) ev_c (dv _)) mF.ok h20) (ev_callE (ep_of (ev_var rfl) hpl) (ev_divI (ev_var rfl) ev_c (dv _)) wp h20)))) (by rw [r1, r2, r3, decide_eq_true rfl, decide_eq_true rfl, decide_eq_true rfl]; rfl)) (fun z => nomatch z) (fun _ Hm em => ⟨exJ.trans ((ek.trans el).trans em), _, _, _, rfl⟩)
      · have hno : ∀ z, p.broken = some z → z ∉ ws := fun z hz hzw => by
          have := in_words.mpr ⟨z, hz, hzw⟩
          rw [this] at hb
          cases hb
        obtain ⟨fs, fb⟩ := fb_other (q := q) hno
        have r3 := hsF (p.span / 3) h30 (by omega) (by omega) (by omega)
        refine s_when (b := false) (et_neTup3 (i := p.span) (b := p.broken) (j := endA p (p.span / 3)) (ea_cons (ev_is (ev_tlE (ep_of (ev_var rfl) (hfJ.ext ek))) (by rw [fs])) (ea_cons (ev_is (ev_fnE (ep_of (ev_var rfl) (hfJ.ext ek))) (by rw [fb])) (ea_cons (ev_is (ev_callE (ep_of (ev_var rfl) (hfJ.ext ek)) (ev_divI (ev_var rfl) ev_c (dv3 _)) mF.ok h30) (by rw [r3])) ea_nil))) (ea_cons (ev_var rfl) (ea_cons (ev_fnE (ep_of (ev_var rfl) (hpJ.ext ek))) (ea_cons (ev_callE (ep_of (ev_var rfl) (hpJ.ext ek)) (ev_divI (ev_var rfl) ev_c (dv3 _)) wp h30) ea_nil))) (wf_name wp)) (fun z => nomatch z) (fun _ Hm em => ⟨exJ.trans (ek.trans em), _, _, _, rfl⟩)
    · obtain ⟨ex, u8, u9, u10, rfl⟩ := hP
      exact k _ (B9.ex (y.trans ex)) ((s9.ext (y.trans ex)).mono (by omega))
end
end Cu

/-! == LawK04e -/
set_option maxHeartbeats 4000000
namespace Cu
open PySem PySem.Spec PyProof.Rows L2 Evl CuT
section
variable {σ : L2.St} {H : Hp} {t : TT} {te te2 : TE} {D : Ends} {tz : TS}
theorem q_ifTwo {i j : Nat} {v u : V} {b : Bool} (h : EvT t σ H b) (h1 : b = true → Ev te σ H v ∧ ∀ H1, Ex H H1 → Ev te2 (σ.set i (some v)) H1 u) (h2 : b = false → (σ.set i (some v)).set j (some u) = σ) (k : ∀ H1, Ex H H1 → tz D ((σ.set i (some v)).set j (some u)) H1) :
    tSeq (tIfS t (tSeq (tAsg te (gName i)) (tAsg te2 (gName j))) tNext) tz D σ H := by
  refine q_when h (fun hb H1 e1 => ?_) (fun hb H1 e1 => ?_)
  · obtain ⟨g1, g2⟩ := h1 hb
    exact q_asg (g1.mono e1) fun H2 e2 => s_asg (g2 H2 (e1.trans e2)) fun H3 e3 => k H3 ((e1.trans e2).trans e3)
  · have := k H1 e1
    rw [h2 hb] at this
    exact this
end
section
variable {P : Program} {w : World} {K : PySem.W.Frag} {mg : Str → Option Value} {base : Heap}
def spLimits (C : Addr) : Sp := fun vs H Q _ => ∃ (l pa : Addr) (p : Prog) (tm : Int) (n : Nat), vs = [.ref l, .ref pa, .int tm] ∧ Src H l n ∧ n + 100 ≤ 1000000000000 ∧ IsP C H pa p ∧ Small p 60 10 ∧ 0 ≤ tm ∧ tm ≤ mostT ∧
  ∀ H', But l H H' → Src H' l (n + 100) → Q (.bl true) H'
abbrev N_law_limits_right : List Str := ["_law_source", "_law_p", "_law_time", "_law_n", "_law_program", "_law_name", "_law_size", "_law_failure", "_law_cut", "_law_due"]
theorem sc_law_limits_right : FnScope N_law_limits_right ["_law_source", "_law_p", "_law_time"] (defScope s_law_limits_right) := ⟨rfl, rfl, rfl, by decide +kernel, rfl, by decide +kernel, by decide +kernel⟩

theorem r_law_limits_right (T : Txt K mg) : FnR P w K mg base (L2.CX P w) 130 (He.ga K "_law_limits_right") (spLimits (PC K)) := by
  have G_law_cuts : FnR P w K mg base (L2.CX P w) 2 (He.ga K "_law_cuts") spCuts := r_law_cuts T
  have G_Program_total_length : FnR P w K mg base (L2.CX P w) 1 (He.ma K (He.ga K "Program") "total_length") (spTL (PC K)) := r_Program_total_length T
  have G_Program_failure_name : FnR P w K mg base (L2.CX P w) 1 (He.ma K (He.ga K "Program") "failure_name") (spFN (PC K)) := r_Program_failure_name T
  have G_Program_call : FnR P w K mg base (L2.CX P w) 124 (He.ma K (He.ga K "Program") "__call__") (spCallP (PC K)) := r_Program_call T
  have G_timeout : FnR P w K mg base (L2.CX P w) 128 (He.ga K "timeout") (spTimeout (PC K)) := r_timeout T
  have G_move_on : FnR P w K mg base (L2.CX P w) 128 (He.ga K "move_on") (spMoveon (PC K)) := r_move_on T
  refine fn_mk T.f_law_limits_right sc_law_limits_right (fun _ _ _ _ _ _ us hl => match us, hl with | [_, _, _], _ => rfl) (fun vs H Q E h => ?_) (fun cdv A outer s H vs Q E hr h => ?_)
  · obtain ⟨l, pa, p, tm, n, rfl, _⟩ := h
    rfl
  obtain ⟨l, pa, p, tm, n0, rfl, hs, hn, hp, smp, t0, t1, k⟩ := h
  refine ⟨_, PSs.nox ((pss_cons (ps_set (i := 3) sc_law_limits_right.nd rfl (Or.inl rfl) (pe_methR0 (pv 1) T.cls_Program T.m_Program_total_length G_Program_total_length (hr.mono (by omega)) passL))
    (pss_cons (ps_for PassesOwn.never rfl (pi_list (pe_lst (pa_cons (pe_tup (pa_cons (pe_callR G_timeout (hr.mono (by omega)) rfl T.g_timeout (kp_of T.f_timeout) passL (pa_cons (pv 2) (pa_cons (pv 1) (pa_cons pe_str pa_nil)))) (pa_cons pe_str pa_nil))) (pa_cons (pe_tup (pa_cons (pe_callR G_move_on (hr.mono (by omega)) rfl T.g_move_on (kp_of T.f_move_on) passL (pa_cons (pv 2) (pa_cons (pv 1) pa_nil))) (pa_cons pe_non pa_nil))) pa_nil)))) (pg_tup rfl (pgs_cons (pg_name (i := 4) sc_law_limits_right.nd rfl (Or.inl rfl)) (pgs_cons (pg_name (i := 5) sc_law_limits_right.nd rfl (Or.inl rfl)) pgs_nil))) (pss_cons (ps_set (i := 6) sc_law_limits_right.nd rfl (Or.inl rfl) (pv 3))
    (pss_cons (ps_set (i := 7) sc_law_limits_right.nd rfl (Or.inl rfl) (pe_methR0 (pv 1) T.cls_Program T.m_Program_failure_name G_Program_failure_name (hr.mono (by omega)) passL))
    (pss_cons (ps_if (pt_cmpR op_gt (pv 3) (pv 2) (nomark _)) (pss_cons (ps_set (i := 6) sc_law_limits_right.nd rfl (Or.inl rfl) (pe_callP (pv 1) (callO_P T) G_Program_call (hr.mono (by omega)) (pa_cons (pv 2) pa_nil)))
    (pss_one (ps_set (i := 7) sc_law_limits_right.nd rfl (Or.inl rfl) (pv 5)))) pss_nil)
    (pss_cons (ps_if (PW.pt (pw_or (pt_cmpR op_ne (pe_methR0 (pv 4) T.cls_Program T.m_Program_total_length G_Program_total_length (hr.mono (by omega)) passL) (pv 6) (nomark _)) (pw_or1 (pt_cmpR op_ne (pe_methR0 (pv 4) T.cls_Program T.m_Program_failure_name G_Program_failure_name (hr.mono (by omega)) passL) (pv 7) (nomark _))))) (pss_one (ps_ret pe_bl)) pss_nil)
    (pss_one (ps_for PassesOwn.never rfl (pi_list (pe_callR G_law_cuts (hr.mono (by omega)) rfl T.g_law_cuts (kp_of T.f_law_cuts) passL (pa_cons (pv 0) (pa_cons (pe_lst (pa_cons (pe_callB (call_min2 rfl) (by rfl) T.b_min (by decide +kernel) (pa_cons (pv 2) (pa_cons (pv 3) pa_nil))) (pa_cons (pv 3) pa_nil))) pa_nil)))) (pg_name (i := 8) sc_law_limits_right.nd rfl (Or.inl rfl)) (pss_cons (ps_set (i := 9) sc_law_limits_right.nd rfl (Or.inl rfl) (pe_callP (pv 1) (callO_P T) G_Program_call (hr.mono (by omega)) (pa_cons (pv 8) pa_nil)))
    (pss_cons (ps_if (PW.pt (pw_and (pt_cmpR op_ge (pv 8) (pv 2) (nomark _)) (pw_and1 (pt_cmpR op_gt (pv 3) (pv 2) (nomark _))))) (pss_one (ps_set (i := 9) sc_law_limits_right.nd rfl (Or.inl rfl) (pe_op op_mulW (pv 6) (pe_callTy call_int1r (by rfl) T.b_int (by decide +kernel) (pa_cons (pe_cmpR op_gt (pv 8) pe_int (nomark _)) pa_nil))))) pss_nil)
    (pss_one (ps_if (pt_cmpR op_ne (pe_callP (pv 4) (callO_P T) G_Program_call (hr.mono (by omega)) (pa_cons (pv 8) pa_nil)) (pv 9) (nomark _)) (pss_one (ps_ret pe_bl)) pss_nil)))))))))))
    (pss_one (ps_ret pe_bl))))), ?_⟩
  have wp := smp.1
  have pn := wp.pos
  have pb := span_bits wp
  have nslow : IsName "slow" := name_by _ (by decide +kernel)
  have mkT : MkOk .timeout [p] tm ["slow"] := (mk_small (k := .timeout) (small1 smp) ⟨⟨_, rfl⟩, t0, t1, _, rfl, nslow⟩ (by show 1 ≤ 3; decide) (by decide) (by decide) (by decide) (by decide)).1
  have mkM : MkOk .moveon [p] tm [] := (mk_small (k := .moveon) (ws := []) (small1 smp) ⟨⟨_, rfl⟩, t0, t1, rfl⟩ (by show 1 ≤ 3; decide) (by decide) (by decide) (by decide) (by decide)).1
  refine q_asg (ev_tlE (ep_of (ev_var rfl) hp)) fun H1 e1 => ?_
  refine ⟨_, rfl, _, rfl, tm, pa, p, "slow", rfl, hp.ext e1, nslow, mkT, fun H2 ta e2 hta => ⟨by show 2 ≤ sizeLine; decide, fun T1 hT1 => ?_⟩⟩
  have x1 : Ex H2 (upd H2 T1 (.tup [.ref ta, .str "slow"])) := Ex.new hT1
  refine ⟨_, rfl, _, rfl, tm, pa, p, rfl, hp.ext ((e1.trans e2).trans x1), mkM, fun H3 tb e3 htb => ⟨by show 2 ≤ sizeLine; decide, fun T2 hT2 => ⟨by show 2 ≤ sizeLine; decide, fun L hL => ?_⟩⟩⟩
  have x2 : Ex H3 (upd H3 T2 (.tup [.ref tb, .non])) := Ex.new hT2
  have x3 := Ex.new (o := .lst [V.ref T1, .ref T2]) hL
  have gL : upd (upd H3 T2 (.tup [.ref tb, .non])) L (.lst [V.ref T1, .ref T2]) L = some (.lst [V.ref T1, .ref T2]) := upd_same
  have gT1 : upd (upd H3 T2 (.tup [.ref tb, .non])) L (.lst [V.ref T1, .ref T2]) T1 = some (.tup [.ref ta, brV (some "slow")]) := ((e3.trans x2).trans x3) _ _ upd_same
  have gT2 : upd (upd H3 T2 (.tup [.ref tb, .non])) L (.lst [V.ref T1, .ref T2]) T2 = some (.tup [.ref tb, brV none]) := x3 _ _ upd_same
  have gta := hta.ext ((x1.trans e3).trans (x2.trans x3))
  have gtb := htb.ext (x2.trans x3)
  have X := (((e1.trans e2).trans x1).trans e3).trans (x2.trans x3)
  clear hT1 hT2 hL x1 x2 x3 e1 e2 e3 hta htb
  generalize upd (upd H3 T2 (.tup [.ref tb, .non])) L (.lst [V.ref T1, .ref T2]) = HA at *
  have hpA := hp.ext X
  have sA := hs.ext X
  have items : ∀ x ∈ [V.ref T1, V.ref T2], ∃ (Tx pr : Addr) (kk : Kind) (ws : List Str), x = .ref Tx ∧ HA Tx = some (.tup [.ref pr, brV ws.head?]) ∧ (kk = .timeout ∨ kk = .moveon) ∧ IsP (PC K) HA pr (mkP kk [p] tm ws) ∧ WF (mkP kk [p] tm ws) := fun x hx => by
    simp only [List.mem_cons, List.not_mem_nil, or_false] at hx
    rcases hx with rfl | rfl
    · exact ⟨T1, ta, .timeout, ["slow"], rfl, gT1, .inl rfl, gta, mkT.ok⟩
    · exact ⟨T2, tb, .moveon, [], rfl, gT2, .inr rfl, gtb, mkM.ok⟩
  have lnl : L ≠ l := fun z => by
    obtain ⟨i, r, hi⟩ := sA.at_
    rw [z, hi] at gL
    cases gL
  have bit1 : ∀ c : Int, (if decide (0 < c) = true then (1 : Int) else 0).natAbs < 2 ^ 10 := fun c => by split <;> decide
  refine ⟨L, rfl, ⟨_, sq_of gL⟩, for_it (walk_list (xs := [V.ref T1, V.ref T2])) (fun i σ' H' => But l HA H' ∧ Src H' l (n0 + 4 * i) ∧ ∃ u4 u5 u6 u7 u8 u9, σ' = [some (.ref l), some (.ref pa), some (.int tm), some (.int p.span), u4, u5, u6, u7, u8, u9]) ⟨But.of (Ex.refl _), sA, _, _, _, _, _, _, rfl⟩ (fun i σ' H' _ hP => sq_of (hP.1 _ _ lnl gL)) (fun i x σ' Hc Hc2 hi hP hY => ?_) (fun σ' H' hP => ?_)⟩
  · obtain ⟨bc, sc, u4, u5, u6, u7, u8, u9, rfl⟩ := hP
    obtain ⟨rfl, hx⟩ := hY
    have hi2 : i < 2 := hi
    obtain ⟨Tx, pr, kk, ws, rfl, hTx, hkk, hpr, wM⟩ := items x (List.mem_of_getElem? hx)
    have nTx : Tx ≠ l := fun z => by
      obtain ⟨i, r, hi⟩ := sA.at_
      rw [z, hi] at hTx
      cases hTx
    refine ⟨Tx, _, rfl, st_of (bc _ _ nTx hTx), rfl, _, _, rfl, _, _, rfl, rfl, ?_⟩
    have hpc := hpA.but sA bc
    have hprc := hpr.but sA bc
    obtain ⟨ls, lb⟩ := lim_meas (p := p) hkk (n := tm) (ws := ws)
    show tSeq _ _ _ [some (.ref l), some (.ref pa), some (.int tm), some (.int p.span), some (.ref pr), some (brV ws.head?), u6, u7, u8, u9] _
    refine q_asg (ev_var rfl) fun H4 e4 => ?_
    refine q_asg (ev_fnE (ep_of (ev_var rfl) (hpc.ext e4))) fun H5 e5 => ?_
    have x5 := e4.trans e5
    refine q_ifTwo (v := .int (mkP kk [p] tm ws).span) (u := brV (mkP kk [p] tm ws).broken) (et_cmp (ev_var rfl) (ev_var rfl)) (fun hb => ?_) (fun hb => ?_) fun H6 e6 => ?_
    · have hb : tm < p.span := of_decide_eq_true hb
      rw [ls, lb, if_pos hb, if_pos hb]
      exact ⟨ev_callE (ep_of (ev_var rfl) (hpc.ext x5)) (ev_var rfl) wp t0, fun H7 e7 => ev_var rfl⟩
    · have hb : ¬ tm < p.span := of_decide_eq_false hb
      rw [ls, lb, if_neg hb, if_neg hb]
      rfl
    have x6 := x5.trans e6
    refine q_no (et_is (et_or (et_neZ (ev_tlE (ep_of (ev_var rfl) (hprc.ext x6))) (ev_var rfl)) (fun _ => et_neB (ev_fnE (ep_of (ev_var rfl) (hprc.ext x6))) (ev_var rfl))) (by rw [decide_eq_true rfl, decide_eq_true rfl]; rfl)) fun H7 e7 => ?_
    have x7 := x6.trans e7
    have s7 := sc.ext x7
    have hp7 := hpc.ext x7
    have hpr7 := hprc.ext x7
    refine s_forCuts (bs := [min tm p.span, p.span]) (fun σ' => ∃ u8 u9, σ' = [some (.ref l), some (.ref pa), some (.int tm), some (.int p.span), some (.ref pr), some (brV ws.head?), some (.int (mkP kk [p] tm ws).span), some (brV (mkP kk [p] tm ws).broken), u8, u9]) rfl (ea_cons (ev_min2 (ev_var rfl) (ev_var rfl)) (ea_cons (ev_var rfl) ea_nil)) s7 (by show n0 + 4 * i + 2 * 2 ≤ _; omega) (by show 2 ≤ 10; decide) (fun b hb => ?_) ⟨_, _, rfl⟩ (fun c σ' H8 H' N hc b8 s8 e8 hSh hN => ?_) (fun σ' H8 b8 s8 hSh => ?_)
    · simp only [List.mem_cons, List.not_mem_nil, or_false] at hb
      have z2 := span_sum_bits pb (y := 0) (by decide +kernel)
      rw [Int.add_zero] at z2
      rcases hb with rfl | rfl
      · exact ⟨by omega, by omega⟩
      · exact ⟨pn, z2⟩
    · obtain ⟨u8, u9, rfl⟩ := hSh
      have hpX := (hp7.but s7 b8).ext e8
      have hprX := (hpr7.but s7 b8).ext e8
      refine q_asg (ev_callE (ep_of (ev_var rfl) hpX) (ev_var rfl) wp hc) fun H9 e9 => ?_
      have le := lim_end wp hkk (n := tm) (ws := ws) t0 hc
      refine q_ifAsg (v := .int (endA (mkP kk [p] tm ws) c)) (et_and (et_cmp (ev_var rfl) (ev_var rfl)) (fun _ => et_cmp (ev_var rfl) (ev_var rfl))) (fun hf => ?_) (fun hf => ?_) fun H10 e10 => ?_
      · obtain ⟨f1, f2⟩ := (Bool.and_eq_true _ _).mp hf
        have f1 : tm ≤ c := of_decide_eq_true f1
        have f2 : tm < p.span := of_decide_eq_true f2
        rw [le, if_pos ⟨f1, f2⟩]
        refine ev_is (ev_mulI (ev_var rfl) (ev_intB (ev_cmp (ev_var rfl) ev_c)) (wide_mul (span_bits wM) (bit1 c) (by decide) (by decide) (by decide))) ?_
        rw [int01, ls, if_pos f2]
        by_cases h : 0 < c
        · rw [if_pos h, if_pos h, Int.mul_one]
        · rw [if_neg h, if_neg h, Int.mul_zero]
      · have hno : ¬ (tm ≤ c ∧ tm < p.span) := fun ⟨f1, f2⟩ => by
          have h1 : decide (tm ≤ c) = true := decide_eq_true f1
          have h2 : decide (tm < p.span) = true := decide_eq_true f2
          have : (decide (tm ≤ c) && decide (tm < p.span)) = false := hf
          rw [h1, h2] at this
          cases this
        rw [le, if_neg hno]
        rfl
      · exact s_when (b := false) (et_is (et_neZ (ev_callE (ep_of (ev_var rfl) (hprX.ext (e9.trans e10))) (ev_var rfl) wM hc) (ev_var rfl)) (by rw [decide_eq_true rfl]; rfl)) (fun z => nomatch z) (fun _ H11 e11 => hN _ _ (e8.trans ((e9.trans e10).trans e11)) ⟨_, _, rfl⟩)
    · obtain ⟨u8, u9, rfl⟩ := hSh
      have s8 : Src H8 l (n0 + 4 * i + 4) := s8
      exact ⟨(bc.ex x7).trans b8, s8.mono (by omega), _, _, _, _, _, _, rfl⟩
  · obtain ⟨bc, sc, u4, u5, u6, u7, u8, u9, rfl⟩ := hP
    exact k _ ((But.of X).trans bc) (sc.mono (by show n0 + 4 * 2 ≤ n0 + 100; omega))
end
end Cu

/-! == GenI -/
set_option maxHeartbeats 4000000
namespace Cu
open PySem PySem.Spec PyProof.Rows L2 Evl CuT
/-! ### a law's loop over the script's first numbers -/
section
variable {K : PySem.W.Frag} {σ : L2.St} {H : Hp} {D : Ends} {tz tu : TS}
theorem q_forScript {a : Addr} {ns : List Int} {j : Nat} {hi : Int} (hv : σ[0]? = some (some (.ref a))) (hS : SqL K H a (ns.map V.int)) (hlen : ns.length ≤ 63) (Sh : L2.St → Prop) (h0 : Sh σ)
    (hu : ∀ (c : Int) (σ' : L2.St) (H' : Hp) (N : L2.St → Hp → Prop), Ex H H' → Sh σ' → (∀ σ2 H2, Ex H' H2 → Sh σ2 → N σ2 H2) → tu { D with nx := N, ct := N, bk := tz D } (σ'.set j (some (.int c))) H')
    (hd : ∀ σ' H', Ex H H' → Sh σ' → tz D σ' H') :
    tSeq (tFor (iList K (tOp rCat (tLst (tCons (tCallR (spCell K) E0 (tCons (tVar 0) (tCons (tC (.int 0)) tNil))) tNil)) (tSl (rSlL K) (tVar 0) (tPart (tC (.int 1))) (tPart (tC (.int hi)))))) (gName j) tu) tz D σ H := by
  have hcl := cutV_length (ns.map V.int) (some 1) (some hi)
  have hcm : ∀ x ∈ cutV (ns.map V.int) (some 1) (some hi), ∃ c, x = V.int c := fun x hx => by
    have := List.mem_of_mem_drop (List.mem_of_mem_take hx)
    obtain ⟨c, _, e⟩ := List.mem_map.mp this
    exact ⟨c, e.symm⟩
  rw [List.length_map] at hcl
  have hl := el_cat (σ := σ) (H := H) (el_lst (ea_cons (ev_callR (E := E0) (ea_cons (ev_var (i := 0) hv) (ea_cons (ev_c (v := .int 0)) ea_nil)) (v_cell hS (by decide))) ea_nil) (by show 1 ≤ 100000; decide)) (el_sl (K := K) (te := tVar 0) (tl := tPart (tC (.int 1))) (th := tPart (tC (.int hi))) (ev_var hv) (eo_some ev_c) (eo_some ev_c) hS) (by
    show 1 + _ ≤ 100000
    omega)
  generalize hxs : [V.int ((ns[(0 : Int).toNat]?).getD 0)] ++ cutV (ns.map V.int) (some 1) (some hi) = xs at hl
  have hxi : ∀ x ∈ xs, ∃ c, x = V.int c := fun x hx => by
    rw [← hxs] at hx
    rcases List.mem_append.mp hx with z | z
    · exact ⟨_, List.mem_singleton.mp z⟩
    · exact hcm x z
  refine q_forNLn (xs := xs) hl (fun p i σ' H' => Ex H H' ∧ H' p = some (.lst xs) ∧ Sh σ') (fun p H1 _ e1 h1 => ⟨e1, h1, h0⟩) (fun p i σ' H' _ hP => sq_of hP.2.1) (fun p i x σ' H' hx hP => ?_) (fun p σ' H' hP => hd σ' H' hP.1 hP.2.2)
  obtain ⟨c, rfl⟩ := hxi x (List.mem_of_getElem? hx)
  exact hu c σ' H' _ hP.1 hP.2.2 fun σ2 H2 e2 h2 => ⟨hP.1.trans e2, e2 _ _ hP.2.1, h2⟩
end
theorem Small.mono {p : Prog} {N D N' D' : Int} (h : Small p N D) (hN : N ≤ N') (hD : D ≤ D') : Small p N' D' := ⟨h.1, by have := h.2.1; omega, by have := h.2.2; omega⟩
end Cu

/-! == LawK04f -/
set_option maxHeartbeats 4000000
namespace Cu
open PySem PySem.Spec PyProof.Rows L2 Evl CuT
section
variable {P : Program} {w : World} {K : PySem.W.Frag} {mg : Str → Option Value} {base : Heap}
abbrev N_law : List Str := ["_law_script", "_law_cell", "_law_source", "_law_far", "_law_many", "_law_p", "_law_q", "_law_time"]
theorem sc_law : FnScope N_law ["_law_script"] (defScope s_law) := ⟨rfl, rfl, rfl, by decide +kernel, rfl, by decide +kernel, by decide +kernel⟩

theorem r_law {fd : FuncData} (T : Txt K mg) (F : FunD K "law" "law" (defArgs s_law) (defBody s_law) (defScope s_law) [] [] (He.ga K "law") fd) : FnOk P w K mg base (L2.CX P w) 184 (He.ga K "law") fd ["_law_script"] (spLaw K) := by
  have G_law_cell_at : FnR P w K mg base (L2.CX P w) 1 (He.ga K "_law_cell_at") (spCell K) := r_law_cell_at T
  have G_law_source_of : FnR P w K mg base (L2.CX P w) 1 (He.ga K "_law_source_of") spSource := r_law_source_of T
  have G_law_next : FnR P w K mg base (L2.CX P w) 1 (He.ga K "_law_next") spNext := r_law_next T
  have G_law_one : FnR P w K mg base (L2.CX P w) 2 (He.ga K "_law_one") spOne := r_law_one T
  have G_law_form : FnR P w K mg base (L2.CX P w) 7 (He.ga K "_law_form") (spForm 4) := form_all T 4
  have G_law_made : FnR P w K mg base (L2.CX P w) 132 (He.ga K "_law_made") (spMade (PC K) 4) := made_all T 4
  have G_Program_total_length : FnR P w K mg base (L2.CX P w) 1 (He.ma K (He.ga K "Program") "total_length") (spTL (PC K)) := r_Program_total_length T
  have G_law_turns_right : FnR P w K mg base (L2.CX P w) 130 (He.ga K "_law_turns_right") (spTurns (PC K)) := r_law_turns_right T
  have G_law_covers_right : FnR P w K mg base (L2.CX P w) 183 (He.ga K "_law_covers_right") (spCovers (PC K)) := r_law_covers_right T
  have G_law_limits_right : FnR P w K mg base (L2.CX P w) 130 (He.ga K "_law_limits_right") (spLimits (PC K)) := r_law_limits_right T
  refine F.ok sc_law (fun vs H Q E h => ?_) (fun cdv A outer s H vs Q E hr h => ?_)
  · obtain ⟨a, ns, rfl, _⟩ := h
    rfl
  obtain ⟨a, ns, rfl, hS, hlen, q⟩ := h
  refine ⟨_, PSs.nox ((pss_cons (ps_for PassesOwn.never rfl (pi_list (pe_op op_cat (pe_lst (pa_cons (pe_callR G_law_cell_at (hr.mono (by omega)) rfl T.g_law_cell_at (kp_of T.f_law_cell_at) passL (pa_cons (pv 0) (pa_cons pe_int pa_nil))) pa_nil)) (pe_slice sl_list (pv 0) (po_some pe_int) (po_some pe_int)))) (pg_name (i := 1) sc_law.nd rfl (Or.inl rfl)) (pss_cons (ps_set (i := 2) sc_law.nd rfl (Or.inl rfl) (pe_callR G_law_source_of (hr.mono (by omega)) rfl T.g_law_source_of (kp_of T.f_law_source_of) passL (pa_cons (pv 1) pa_nil)))
    (pss_cons (ps_set (i := 3) sc_law.nd rfl (Or.inl rfl) (pe_callR G_law_one (hr.mono (by omega)) rfl T.g_law_one (kp_of T.f_law_one) passL (pa_cons (pv 2) (pa_cons (pe_lst (pa_cons pe_int (pa_cons pe_int (pa_cons (pe_op op_pow pe_int pe_int) pa_nil)))) pa_nil))))
    (pss_cons (ps_set (i := 4) sc_law.nd rfl (Or.inl rfl) (pe_callR G_law_one (hr.mono (by omega)) rfl T.g_law_one (kp_of T.f_law_one) passL (pa_cons (pv 2) (pa_cons (pe_lst (pa_cons pe_int (pa_cons (pe_op op_pow pe_int pe_int) (pa_cons (pe_op op_pow pe_int pe_int) pa_nil)))) pa_nil))))
    (pss_cons (ps_set (i := 5) sc_law.nd rfl (Or.inl rfl) (pe_callR G_law_made (hr.mono (by omega)) rfl T.g_law_made (kp_of T.f_law_made) passL (pa_cons (pe_callR G_law_form (hr.mono (by omega)) rfl T.g_law_form (kp_of T.f_law_form) passL (pa_cons (pv 2) (pa_cons (pe_callR G_law_next (hr.mono (by omega)) rfl T.g_law_next (kp_of T.f_law_next) passL (pa_cons (pv 2) (pa_cons pe_int pa_nil))) (pa_cons (pv 3) (pa_cons (pv 4) pa_nil))))) pa_nil)))
    (pss_cons (ps_set (i := 6) sc_law.nd rfl (Or.inl rfl) (pe_callR G_law_made (hr.mono (by omega)) rfl T.g_law_made (kp_of T.f_law_made) passL (pa_cons (pe_callR G_law_form (hr.mono (by omega)) rfl T.g_law_form (kp_of T.f_law_form) passL (pa_cons (pv 2) (pa_cons (pe_callR G_law_next (hr.mono (by omega)) rfl T.g_law_next (kp_of T.f_law_next) passL (pa_cons (pv 2) (pa_cons pe_int pa_nil))) (pa_cons (pv 3) (pa_cons (pv 4) pa_nil))))) pa_nil)))
    (pss_cons (ps_if (PW.pt (pw_or (pt_not (pt_val (pe_callR G_law_turns_right (hr.mono (by omega)) rfl T.g_law_turns_right (kp_of T.f_law_turns_right) passL (pa_cons (pv 2) (pa_cons (pv 5) (pa_cons (pv 6) (pa_cons (pe_callR G_law_next (hr.mono (by omega)) rfl T.g_law_next (kp_of T.f_law_next) passL (pa_cons (pv 2) (pa_cons (pv 4) pa_nil))) pa_nil))))))) (pw_or1 (pt_not (pt_val (pe_callR G_law_covers_right (hr.mono (by omega)) rfl T.g_law_covers_right (kp_of T.f_law_covers_right) passL (pa_cons (pv 2) (pa_cons (pv 5) (pa_cons (pv 6) pa_nil))))))))) (pss_one (ps_ret pe_bl)) pss_nil)
    (pss_cons (ps_set (i := 7) sc_law.nd rfl (Or.inl rfl) (pe_callB (call_min2 rfl) (by rfl) T.b_min (by decide +kernel) (pa_cons (pe_callR G_law_next (hr.mono (by omega)) rfl T.g_law_next (kp_of T.f_law_next) passL (pa_cons (pv 2) (pa_cons (pe_callR G_law_one (hr.mono (by omega)) rfl T.g_law_one (kp_of T.f_law_one) passL (pa_cons (pv 2) (pa_cons (pe_lst (pa_cons pe_int (pa_cons (pv 3) (pa_cons (pe_op op_add (pe_methR0 (pv 5) T.cls_Program T.m_Program_total_length G_Program_total_length (hr.mono (by omega)) passL) pe_int) pa_nil)))) pa_nil))) pa_nil))) (pa_cons (pe_op op_pow pe_int pe_int) pa_nil))))
    (pss_one (ps_if (pt_not (pt_val (pe_callR G_law_limits_right (hr.mono (by omega)) rfl T.g_law_limits_right (kp_of T.f_law_limits_right) passL (pa_cons (pv 2) (pa_cons (pv 5) (pa_cons (pv 7) pa_nil)))))) (pss_one (ps_ret pe_bl)) pss_nil))))))))))
    (pss_one (ps_ret pe_bl)))), ?_⟩
  refine q_forScript rfl hS hlen (fun σ' => ∃ v1 v2 v3 v4 v5 v6 v7, σ' = [some (.ref a), v1, v2, v3, v4, v5, v6, v7]) ⟨_, _, _, _, _, _, _, rfl⟩ (fun c σ' H' N e0 hSh hN => ?_) (fun σ' H' e0 hSh => q H')
  obtain ⟨v1, v2, v3, v4, v5, v6, v7, rfl⟩ := hSh
  refine ⟨_, rfl, c, rfl, fun l H1 hl1 e1 s1 => ?_⟩
  refine go_one rfl (ea_cons ev_c (ea_cons ev_c (ea_cons (ev_pow ⟨by decide, by decide, by decide⟩) ea_nil))) s1 (by decide) (by show 0 < 3; decide) (by show 3 ≤ 1000; decide) fun x H2 hx b2 s2 => ?_
  obtain ⟨far, rfl, f0, f1⟩ : ∃ far : Int, x = .int far ∧ 1 ≤ far ∧ far ≤ 100000000000000000000000000 := by
    simp only [List.mem_cons, List.not_mem_nil, or_false] at hx
    rcases hx with rfl | rfl | rfl <;> exact ⟨_, rfl, by decide, by decide⟩
  refine go_one rfl (ea_cons ev_c (ea_cons (ev_pow ⟨by decide, by decide, by decide⟩) (ea_cons (ev_pow ⟨by decide, by decide, by decide⟩) ea_nil))) s2 (by decide) (by show 0 < 3; decide) (by show 3 ≤ 1000; decide) fun x H3 hx b3 s3 => ?_
  obtain ⟨many, rfl, m0, m1⟩ : ∃ many : Int, x = .int many ∧ 1 ≤ many ∧ many ≤ 100000000000000000000000000 := by
    simp only [List.mem_cons, List.not_mem_nil, or_false] at hx
    rcases hx with rfl | rfl | rfl <;> exact ⟨_, rfl, by decide, by decide⟩
  have B3 : But l H1 H3 := b2.trans b3
  -- p
  refine ⟨_, rfl, go_next rfl ev_c s3 (by decide) (by decide) (by decide +kernel) fun r H4 r0 r1 b4 s4 => ⟨_, rfl, _, rfl, ?_⟩⟩
  obtain ⟨d, hd, hd3⟩ : ∃ d : Nat, r = ((d : Nat) : Int) ∧ d ≤ 3 := ⟨r.toNat, by omega, by omega⟩
  have hc4 := costF_le (show d ≤ 4 by omega)
  refine ⟨l, d, far, many, _, by rw [hd], by omega, s4, by omega, f0, f1, m0, m1, fun t p H5 b5 s5 f5 => ⟨t, p, d, rfl, by omega, by omega, f5, fun H6 pa e6 hp => ?_⟩⟩
  have smp : Small p 60 10 := (isF_small f5 (by omega)).mono (by have := nF_le3 hd3; omega) (by omega)
  have B6 := ((B3.trans b4).trans b5).ex e6
  have s6 := (s5.ext e6).mono (m := 1000) (by omega)
  clear b2 b3 b4 b5 s1 s2 s3 s4 s5 f5 B3
  -- q
  refine ⟨_, rfl, go_next rfl ev_c s6 (by decide) (by decide) (by decide +kernel) fun r' H7 r0' r1' b7 s7 => ⟨_, rfl, _, rfl, ?_⟩⟩
  obtain ⟨d', hd', hd3'⟩ : ∃ d : Nat, r' = ((d : Nat) : Int) ∧ d ≤ 3 := ⟨r'.toNat, by omega, by omega⟩
  have hc4' := costF_le (show d' ≤ 4 by omega)
  refine ⟨l, d', far, many, _, by rw [hd'], by omega, s7, by omega, f0, f1, m0, m1, fun t' q' H8 b8 s8 f8 => ⟨t', q', d', rfl, by omega, by omega, f8, fun H9 qa e9 hq => ?_⟩⟩
  have smq : Small q' 60 10 := (isF_small f8 (by omega)).mono (by have := nF_le3 hd3'; omega) (by omega)
  have b9 : But l H6 H9 := (b7.trans b8).ex e9
  have hp9 := hp.but s6 b9
  have B9 := B6.trans b9
  have s9 := (s8.ext e9).mono (m := 3000) (by omega)
  clear b7 b8 s7 s8 f8
  -- turns, covers
  refine ⟨_, rfl, _, rfl, _, rfl, go_next rfl (ev_var rfl) s9 (by decide) (by omega) (far_bits (by omega) (by omega)) fun cnt H10 k0 k1 b10 s10 => ?_⟩
  have hp10 := hp9.but s9 b10
  have hq10 := hq.but s9 b10
  refine ⟨l, pa, qa, p, q', cnt, _, rfl, s10, by decide, hp10, hq10, smp, smq, k0, by omega, fun H11 b11 s11 => ⟨true, rfl, ?_⟩⟩
  refine br (b := !true) (fun z => nomatch z) fun _ => ?_
  refine ⟨_, rfl, _, rfl, _, rfl, l, pa, qa, p, q', _, rfl, s11, by decide, hp10.but s10 b11, hq10.but s10 b11, smp, smq, fun H12 b12 s12 => ⟨true, rfl, ?_⟩⟩
  refine br (b := !true) (fun z => nomatch z) fun _ => ?_
  have hp12 := (hp10.but s10 b11).but s11 b12
  have B12 := ((B9.trans b10).trans b11).trans b12
  -- time
  have pn := smp.1.pos
  refine go_nextOne (ns := [4, far, p.span + 2]) (M := max 4 (max far (p.span + 2))) rfl (ea_cons ev_c (ea_cons (ev_var rfl) (ea_cons (ev_addI (ev_tlE (ep_of (ev_var rfl) hp12)) ev_c) ea_nil))) s12 (by decide) (by show 0 < 3; decide) (by show 3 ≤ 1000; decide) (by
    have a := span_bits smp.1
    have e : (2 : Nat) ^ 6000 + 100000000000000000000000000 + 2 < 2 ^ 8000 := by decide +kernel
    omega) (fun m hm => ?_) fun tm0 H13 t0 t1 b13 s13 => ?_
  · simp only [List.mem_cons, List.not_mem_nil, or_false] at hm
    omega
  refine ⟨10, 30, rfl, rfl, ⟨by decide, by decide, by decide⟩, tm0, _, rfl, ?_⟩
  have ep : (10 : Int) ^ (30 : Int).toNat = mostT := by decide
  rw [ep]
  obtain ⟨tm, htm, tm0', tm1⟩ : ∃ tm : Int, (if mostT < tm0 then mostT else tm0) = tm ∧ 0 ≤ tm ∧ tm ≤ mostT := by
    refine ⟨_, rfl, ?_, ?_⟩
    · split
      · decide
      · exact t0
    · split
      · exact Int.le_refl _
      · omega
  rw [htm]
  have hp13 := hp12.but s12 b13
  refine ⟨_, rfl, _, rfl, _, rfl, l, pa, p, tm, _, rfl, s13, by decide, hp13, smp, tm0', tm1, fun H14 b14 s14 => ⟨true, rfl, ?_⟩⟩
  refine br (b := !true) (fun z => nomatch z) fun _ => ?_
  exact hN _ _ (ex_of_but hl1 e1 ((B12.trans b13).trans b14)) ⟨_, _, _, _, _, _, _, rfl⟩
end
end Cu

/-! == End -/
set_option maxHeartbeats 4000000
namespace Cu
open PySem PySem.Spec PyProof.Rows L2 Evl CuT
/-- nothing is raised -/
theorem ok_calm {P : Program} {w : World} {K : PySem.W.Frag} {mg : Str → Option Value} {base : Heap} {k : Nat} {f : Addr} {fd : FuncData} {ps : List Str} (F : FnOk P w K mg base (L2.CX P w) k f fd ps (spLaw K)) : FnOk P w K mg base CX0 k f fd ps (spLaw K) := by
  refine ⟨F.len, fun A outer s H args us vs Q E hr e0 b r h => ?_⟩
  refine codeAny_mono (F.run A outer s H args us vs Q L2.E0 hr e0 b r h) fun rs s' hq => ?_
  cases rs with
  | error e =>
    obtain ⟨_, _, _, _, _, _, _, _, _, _, _, _, z⟩ := hq
    exact z.elim
  | ok fl =>
    cases fl with
    | ret u => exact hq
    | next => exact False.elim hq
    | brk => exact False.elim hq
    | cont => exact False.elim hq
theorem law_facts {P : Program} {w : World} {K : PySem.W.Frag} {h hh : Heap} {mg : Str → Option Value} {f : Addr} (X : K.In h) (G : h.Ns mainGlobals mg) (hfa : mg ("law" : Str) = some (.ref f)) (c : He.SaysX fa fn [] [] ex w hh K) :
    ∃ fd : FuncData, (∀ (s : Shared) (v : Value), BindsTo s fd ⟨[v], []⟩ [("_law_script", v)]) ∧ ∀ base : Heap, K.In base → base.Ns mainGlobals mg → FnOk P w K mg base CX0 184 f fd ["_law_script"] (spLaw K) := by
  have T := txt_of X G c
  have e := hfa.symm.trans T.g_law
  cases e
  obtain ⟨fd, F⟩ := T.f_law
  have b := FunD.bindsA (ps := ["_law_script"]) F fun _ _ _ _ _ _ us hl => match us, hl with | [_], _ => rfl
  exact ⟨fd, fun s v => b s [v] rfl, fun base _ _ => ok_calm (r_law T F)⟩
end Cu
open PySem PySem.W PySem.Calls PyProof.Rows
theorem PySem.Challenge.cw_cutends_k04_whole_constructs_of_great_pa_holds : PySem.Challenge.rw_cutends_k04_whole_constructs_of_great_pa.Holds := by
  w_on; o_law
  refine HandSHeadRun.head_any (r := CuT.R) (q := view CuT.R.prog [56]) (H := CuT.hk) (ob := CuT.ob) (M := 4000) (loose := CuT.loose) (d := HandSHeadRun.topDef CuT.R.prog 56) (kwd := []) CuT.ob_eq
    (by kernel_rfl) (fun s => by kernel_rfl) CuT.run (by kernel_rfl) (by kernel_rfl) (by kernel_rfl) (by rfl) (by first | assumption | decide +kernel) (by decide +kernel) ⟨rfl, rfl, rfl, rfl, rfl, by decide +kernel⟩ ?hw ?hc
  case hw => w_witness2
  case hc =>
    refine L2.walk_ofE (l := PySem.Challenge.rw_cutends_k04_whole_constructs_of_great_pa) (n := 63) (k := 184) (x := "_law_script") (CX := L2.CX0) rfl (by decide) (by kernel_rfl) ⟨rfl, by decide, by decide⟩ ?F (fun _ _ _ _ z => z)
    intro w mg fa h Y G hmg0
    obtain ⟨K, KX, c⟩ := Y
    have hmg : mg ("law" : PySem.Str) = some (.ref fa) := by
      have e : (HandSHeadRun.topDef CuT.R.prog 56).name = ("law" : PySem.Str) := by kernel_rfl
      rw [← e]
      exact hmg0
    obtain ⟨fd, hb, hF⟩ := Cu.law_facts (P := (PySem.Challenge.rw_cutends_k04_whole_constructs_of_great_pa).prog) (w := w) KX G hmg c
    exact ⟨K, fd, Cu.spLaw K, KX, hb, fun H a ns hl _ hS => ⟨a, ns, rfl, hS, hl, fun _ => rfl⟩, hF⟩
