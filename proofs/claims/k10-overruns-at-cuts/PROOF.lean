import PyProof.Rows.All
import Wide.All
import OpenK.AllK
import Wide.FinOn
import KE.KStateDown
import Lean
import HandS.ForMost
import HandS.ForExc
import HandS.More
import HandS.Defaults
import HandS.Evl
import HandS.Wide
import HandS.WideBits
import HandS.OwnEq
import HandS.Star
import HandS.IsInst
import HandS.SortInts
import HandS.SortKw
import HandS.Steps
import HandS.Zip
import HandS.Head0
import HandS.Head1
import HandS.Head2
import HandS.HeadEnd
import HandS.HeadHook1
import HandS.HeadHook2
import HandS.HeadHook3
import HandS.HeadHook4
import HandS.EndBits
import KE.KMinKey
import KE.DataMinMax
import KE.KOpsOwn
import PyProof.NeKinds
import HandS.Walk
import PyProof.InstNe
import HandS.TupMul
import HandS.Style
import HandS.TupAny
import KE.KExcInit
import PySem.Challenge.RW_cutends_k10_overruns_at_cuts
import KE.KeyNested
import HandS.ExcInit
import HandS.Exc
import HandS.Lambda
import PyProof.ReprDict
import PyProof.ReprHeadsTuple
import PyProof.ReprHeads
import PyProof.StrHeap
set_option Elab.async false
set_option linter.all false
set_option maxRecDepth 100000
/-! == Head -/
set_option maxHeartbeats 0
namespace CuT
open PySem L2
def top (i : Nat) : Stmt := PySem.Challenge.pw_cutends_k10_overruns_at_cuts.main.body.getD i (.Pass ⟨0, 0, 0, 0⟩)
abbrev s_wall : Stmt := top 0
abbrev s_InvalidProgram_init : Stmt := inClass (top 3) 0
abbrev s_InvalidTime_init : Stmt := inClass (top 4) 0
abbrev s_InvalidCount_init : Stmt := inClass (top 5) 0
abbrev s_InvalidName_init : Stmt := inClass (top 6) 0
abbrev s_InvalidCut_init : Stmt := inClass (top 7) 0
abbrev s_LimitExceeded_init : Stmt := inClass (top 8) 0
abbrev s_is_integer : Stmt := top 11
abbrev s_is_between : Stmt := top 12
abbrev s_is_name : Stmt := top 13
abbrev s_end_of_sequence : Stmt := top 20
abbrev s_end_of_loop : Stmt := top 21
abbrev s_first_failure : Stmt := top 22
abbrev s_length_of : Stmt := top 23
abbrev s_end_of_group : Stmt := top 24
abbrev s_end_after : Stmt := top 25
abbrev s_sequence_measure : Stmt := top 26
abbrev s_group_measure : Stmt := top 27
abbrev s_measure : Stmt := top 28
abbrev s_Program_init : Stmt := inClass (top 29) 0
abbrev s_Program_eq : Stmt := inClass (top 29) 1
abbrev s_Program_add : Stmt := inClass (top 29) 2
abbrev s_Program_mul : Stmt := inClass (top 29) 3
abbrev s_Program_or : Stmt := inClass (top 29) 4
abbrev s_Program_call : Stmt := inClass (top 29) 5
abbrev s_Program_facts : Stmt := inClass (top 29) 6
abbrev s_Program_total_length : Stmt := inClass (top 29) 7
abbrev s_Program_failure_name : Stmt := inClass (top 29) 8
abbrev s_Program_node_count : Stmt := inClass (top 29) 9
abbrev s_flat : Stmt := top 30
abbrev s_check_program : Stmt := top 31
abbrev s_check_time : Stmt := top 32
abbrev s_check_name : Stmt := top 33
abbrev s_check_names : Stmt := top 34
abbrev s_sleep : Stmt := top 35
abbrev s_fail : Stmt := top 36
abbrev s_shield : Stmt := top 37
abbrev s_cleanup : Stmt := top 38
abbrev s_fallback : Stmt := top 39
abbrev s_timeout : Stmt := top 40
abbrev s_move_on : Stmt := top 41
abbrev s_together : Stmt := top 42
abbrev s_overrun : Stmt := top 44
abbrev s_law_cell_at : Stmt := top 46
abbrev s_law_source_of : Stmt := top 47
abbrev s_law_draw : Stmt := top 48
abbrev s_law_choice : Stmt := top 49
abbrev s_law_times : Stmt := top 50
abbrev s_law_spec : Stmt := top 51
abbrev s_law_built : Stmt := top 52
abbrev s_law_row_of : Stmt := top 53
abbrev s_law_group_of : Stmt := top 54
abbrev s_law_table : Stmt := top 55
abbrev s_law_refused : Stmt := top 56
abbrev s_law : Stmt := top 57
def d_InvalidCut_init : He.DefD := ⟨("InvalidCut", some "__init__"), "__init__", "InvalidCut.__init__", defArgs s_InvalidCut_init, defBody s_InvalidCut_init, defScope s_InvalidCut_init, [], []⟩
def d_is_integer : He.DefD := ⟨("is_integer", none), "is_integer", "is_integer", defArgs s_is_integer, defBody s_is_integer, defScope s_is_integer, [], []⟩
def d_is_between : He.DefD := ⟨("is_between", none), "is_between", "is_between", defArgs s_is_between, defBody s_is_between, defScope s_is_between, [], []⟩
def d_is_name : He.DefD := ⟨("is_name", none), "is_name", "is_name", defArgs s_is_name, defBody s_is_name, defScope s_is_name, [], []⟩
def d_end_of_sequence : He.DefD := ⟨("end_of_sequence", none), "end_of_sequence", "end_of_sequence", defArgs s_end_of_sequence, defBody s_end_of_sequence, defScope s_end_of_sequence, [], []⟩
def d_end_of_loop : He.DefD := ⟨("end_of_loop", none), "end_of_loop", "end_of_loop", defArgs s_end_of_loop, defBody s_end_of_loop, defScope s_end_of_loop, [], []⟩
def d_first_failure : He.DefD := ⟨("first_failure", none), "first_failure", "first_failure", defArgs s_first_failure, defBody s_first_failure, defScope s_first_failure, [], []⟩
def d_length_of : He.DefD := ⟨("length_of", none), "length_of", "length_of", defArgs s_length_of, defBody s_length_of, defScope s_length_of, [], []⟩
def d_end_of_group : He.DefD := ⟨("end_of_group", none), "end_of_group", "end_of_group", defArgs s_end_of_group, defBody s_end_of_group, defScope s_end_of_group, [], []⟩
def d_end_after : He.DefD := ⟨("end_after", none), "end_after", "end_after", defArgs s_end_after, defBody s_end_after, defScope s_end_after, [], []⟩
def d_sequence_measure : He.DefD := ⟨("sequence_measure", none), "sequence_measure", "sequence_measure", defArgs s_sequence_measure, defBody s_sequence_measure, defScope s_sequence_measure, [], []⟩
def d_group_measure : He.DefD := ⟨("group_measure", none), "group_measure", "group_measure", defArgs s_group_measure, defBody s_group_measure, defScope s_group_measure, [], []⟩
def d_measure : He.DefD := ⟨("measure", none), "measure", "measure", defArgs s_measure, defBody s_measure, defScope s_measure, [], []⟩
def d_Program_init : He.DefD := ⟨("Program", some "__init__"), "__init__", "Program.__init__", defArgs s_Program_init, defBody s_Program_init, defScope s_Program_init, [], []⟩
def d_Program_eq : He.DefD := ⟨("Program", some "__eq__"), "__eq__", "Program.__eq__", defArgs s_Program_eq, defBody s_Program_eq, defScope s_Program_eq, [], []⟩
def d_Program_add : He.DefD := ⟨("Program", some "__add__"), "__add__", "Program.__add__", defArgs s_Program_add, defBody s_Program_add, defScope s_Program_add, [], []⟩
def d_Program_mul : He.DefD := ⟨("Program", some "__mul__"), "__mul__", "Program.__mul__", defArgs s_Program_mul, defBody s_Program_mul, defScope s_Program_mul, [], []⟩
def d_Program_or : He.DefD := ⟨("Program", some "__or__"), "__or__", "Program.__or__", defArgs s_Program_or, defBody s_Program_or, defScope s_Program_or, [], []⟩
def d_Program_call : He.DefD := ⟨("Program", some "__call__"), "__call__", "Program.__call__", defArgs s_Program_call, defBody s_Program_call, defScope s_Program_call, [], []⟩
def d_Program_facts : He.DefD := ⟨("Program", some "facts"), "facts", "Program.facts", defArgs s_Program_facts, defBody s_Program_facts, defScope s_Program_facts, [], []⟩
def d_Program_total_length : He.DefD := ⟨("Program", some "total_length"), "total_length", "Program.total_length", defArgs s_Program_total_length, defBody s_Program_total_length, defScope s_Program_total_length, [], []⟩
def d_Program_failure_name : He.DefD := ⟨("Program", some "failure_name"), "failure_name", "Program.failure_name", defArgs s_Program_failure_name, defBody s_Program_failure_name, defScope s_Program_failure_name, [], []⟩
def d_Program_node_count : He.DefD := ⟨("Program", some "node_count"), "node_count", "Program.node_count", defArgs s_Program_node_count, defBody s_Program_node_count, defScope s_Program_node_count, [], []⟩
def d_flat : He.DefD := ⟨("flat", none), "flat", "flat", defArgs s_flat, defBody s_flat, defScope s_flat, [], []⟩
def d_check_program : He.DefD := ⟨("check_program", none), "check_program", "check_program", defArgs s_check_program, defBody s_check_program, defScope s_check_program, [], []⟩
def d_check_time : He.DefD := ⟨("check_time", none), "check_time", "check_time", defArgs s_check_time, defBody s_check_time, defScope s_check_time, [], []⟩
def d_check_name : He.DefD := ⟨("check_name", none), "check_name", "check_name", defArgs s_check_name, defBody s_check_name, defScope s_check_name, [], []⟩
def d_check_names : He.DefD := ⟨("check_names", none), "check_names", "check_names", defArgs s_check_names, defBody s_check_names, defScope s_check_names, [], []⟩
def d_sleep : He.DefD := ⟨("sleep", none), "sleep", "sleep", defArgs s_sleep, defBody s_sleep, defScope s_sleep, [], []⟩
def d_fail : He.DefD := ⟨("fail", none), "fail", "fail", defArgs s_fail, defBody s_fail, defScope s_fail, [], []⟩
def d_shield : He.DefD := ⟨("shield", none), "shield", "shield", defArgs s_shield, defBody s_shield, defScope s_shield, [], []⟩
def d_cleanup : He.DefD := ⟨("cleanup", none), "cleanup", "cleanup", defArgs s_cleanup, defBody s_cleanup, defScope s_cleanup, [], []⟩
def d_fallback : He.DefD := ⟨("fallback", none), "fallback", "fallback", defArgs s_fallback, defBody s_fallback, defScope s_fallback, [], []⟩
def d_timeout : He.DefD := ⟨("timeout", none), "timeout", "timeout", defArgs s_timeout, defBody s_timeout, defScope s_timeout, [], []⟩
def d_move_on : He.DefD := ⟨("move_on", none), "move_on", "move_on", defArgs s_move_on, defBody s_move_on, defScope s_move_on, [], []⟩
def d_together : He.DefD := ⟨("together", none), "together", "together", defArgs s_together, defBody s_together, defScope s_together, [], []⟩
def d_overrun : He.DefD := ⟨("overrun", none), "overrun", "overrun", defArgs s_overrun, defBody s_overrun, defScope s_overrun, [], []⟩
def d_law_cell_at : He.DefD := ⟨("_law_cell_at", none), "_law_cell_at", "_law_cell_at", defArgs s_law_cell_at, defBody s_law_cell_at, defScope s_law_cell_at, [], []⟩
def d_law_source_of : He.DefD := ⟨("_law_source_of", none), "_law_source_of", "_law_source_of", defArgs s_law_source_of, defBody s_law_source_of, defScope s_law_source_of, [], []⟩
def d_law_draw : He.DefD := ⟨("_law_draw", none), "_law_draw", "_law_draw", defArgs s_law_draw, defBody s_law_draw, defScope s_law_draw, [], []⟩
def d_law_choice : He.DefD := ⟨("_law_choice", none), "_law_choice", "_law_choice", defArgs s_law_choice, defBody s_law_choice, defScope s_law_choice, [], []⟩
def d_law_times : He.DefD := ⟨("_law_times", none), "_law_times", "_law_times", defArgs s_law_times, defBody s_law_times, defScope s_law_times, [], []⟩
def d_law_spec : He.DefD := ⟨("_law_spec", none), "_law_spec", "_law_spec", defArgs s_law_spec, defBody s_law_spec, defScope s_law_spec, [], []⟩
def d_law_built : He.DefD := ⟨("_law_built", none), "_law_built", "_law_built", defArgs s_law_built, defBody s_law_built, defScope s_law_built, [], []⟩
def d_law_row_of : He.DefD := ⟨("_law_row_of", none), "_law_row_of", "_law_row_of", defArgs s_law_row_of, defBody s_law_row_of, defScope s_law_row_of, [], []⟩
def d_law_group_of : He.DefD := ⟨("_law_group_of", none), "_law_group_of", "_law_group_of", defArgs s_law_group_of, defBody s_law_group_of, defScope s_law_group_of, [], []⟩
def d_law_table : He.DefD := ⟨("_law_table", none), "_law_table", "_law_table", defArgs s_law_table, defBody s_law_table, defScope s_law_table, [], []⟩
def d_law_refused : He.DefD := ⟨("_law_refused", none), "_law_refused", "_law_refused", defArgs s_law_refused, defBody s_law_refused, defScope s_law_refused, [], []⟩
def d_law : He.DefD := ⟨("law", none), "law", "law", defArgs s_law, defBody s_law, defScope s_law, [], []⟩
def fn0 : List He.DefD := [d_InvalidCut_init, d_is_integer, d_is_between, d_is_name, d_end_of_sequence, d_end_of_loop, d_first_failure, d_length_of, d_end_of_group, d_end_after, d_sequence_measure, d_group_measure, d_measure, d_Program_init, d_Program_eq, d_Program_add, d_Program_mul, d_Program_or, d_Program_call, d_Program_facts]
def fn1 : List He.DefD := [d_Program_total_length, d_Program_failure_name, d_Program_node_count, d_flat, d_check_program, d_check_time, d_check_name, d_check_names, d_sleep, d_fail, d_shield, d_cleanup, d_fallback, d_timeout, d_move_on, d_together, d_overrun, d_law_cell_at, d_law_source_of, d_law_draw]
def fn2 : List He.DefD := [d_law_choice, d_law_times, d_law_spec, d_law_built, d_law_row_of, d_law_group_of, d_law_table, d_law_refused, d_law]
def fn : List He.DefD := fn0 ++ fn1 ++ fn2
def fa0 : List He.Fa := [.glo "_wall", .glo "CutError", .glo "InvalidProgram", .glo "InvalidTime", .glo "InvalidCount", .glo "InvalidName", .glo "InvalidCut", .glo "LimitExceeded", .glo "is_integer", .glo "is_between", .glo "is_name", .glo "end_of_sequence", .glo "end_of_loop", .glo "first_failure", .glo "length_of", .glo "end_of_group", .glo "end_after", .glo "sequence_measure", .glo "group_measure", .glo "measure"]
def fa1 : List He.Fa := [.glo "Program", .glo "flat", .glo "check_program", .glo "check_time", .glo "check_name", .glo "check_names", .glo "sleep", .glo "fail", .glo "shield", .glo "cleanup", .glo "fallback", .glo "timeout", .glo "move_on", .glo "together", .glo "overrun", .glo "_law_cell_at", .glo "_law_source_of", .glo "_law_draw", .glo "_law_choice", .glo "_law_times"]
def fa2 : List He.Fa := [.glo "_law_spec", .glo "_law_built", .glo "_law_row_of", .glo "_law_group_of", .glo "_law_table", .glo "_law_refused", .glo "law", .int "MOST_LETTERS" 12, .int "MOST_TIME" 1000000000000000000000000000000, .int "MOST_COUNT" 1000000000000000000000000000000, .int "MOST_PARTS" 20, .int "MOST_NODES" 300, .int "MOST_DEPTH" 60, .free "ArithmeticError", .free "all", .free "bool", .free "enumerate", .free "int", .free "isinstance", .free "len"]
def fa3 : List He.Fa := [.free "list", .free "max", .free "min", .free "range", .free "repr", .free "str", .free "sum", .free "tuple", .cls "Program", .mkr "Program", .meth "Program" "__init__", .meth "Program" "__eq__", .meth "Program" "__add__", .meth "Program" "__mul__", .meth "Program" "__or__", .meth "Program" "__call__", .meth "Program" "facts", .meth "Program" "total_length", .meth "Program" "failure_name", .meth "Program" "node_count"]
def fa4 : List He.Fa := [.noat "Program" "broken", .noat "Program" "depth", .noat "Program" "kind", .noat "Program" "nodes", .noat "Program" "number", .noat "Program" "parts", .noat "Program" "span", .noat "Program" "words", .noat "Program" "__radd__", .noat "Program" "__rmul__", .noat "Program" "__ror__"]
def fa : List He.Fa := fa0 ++ fa1 ++ fa2 ++ fa3 ++ fa4
def cutInit (K : PySem.W.Frag) : Bool := match PySem.W.findCls K (.ref (He.ga K "CutError")) (.type "type") "__init__" with | some (.val (.builtin n)) => n == "ArithmeticError.__init__" | _ => false
def tf : List He.Defn := []
def ex (K : PySem.W.Frag) : Bool := PySem.W.selfFirst K (He.ga K "Program") && (decide (PySem.W.kitOne K (.ref (He.ga K "Program")) (.ref (He.ga K "Program")) = some true) && (He.eqO (PySem.W.findIn K (.ref (He.ga K "Program")) "__class__") (some (some (.builtin "object.__class__"))) && (He.eqO (PySem.W.specialIn K (.builtin "object.__class__") "__get__") (some (some (.builtin "getset_descriptor.__get__"))) && (decide (PySem.W.takesIn K (.builtin "object.__class__") = some true) && (decide (PySem.W.mroIn K (He.ga K "Program") (.type "object") = some true) && (decide (PySem.W.subIn K (.type "int") (.ref (He.ga K "Program")) = some false) && (decide (PySem.W.subIn K (.ref (He.ga K "Program")) (.type "object") = some true) && (He.eqO (PySem.W.findIn K (.ref (He.ga K "Program")) "__ne__") (some (some (.builtin "object.__ne__"))) && (PySem.W.fnIn K (He.ma K (He.ga K "Program") "__call__") && (PySem.W.readsIn K (He.ga K "CutError") (.type "type") && (He.eqO (PySem.W.specialIn K (.ref (He.ga K "CutError")) "__getattribute__") (some (some (.builtin "type.__getattribute__"))) && (cutInit K && (PySem.W.excInitIn K (He.ga K "InvalidCut") [.type "ArithmeticError", .type "Exception", .type "BaseException", .type "object"] "ArithmeticError.__new__" && (PySem.W.excOver K (He.ga K "InvalidCut") [.type "ArithmeticError", .type "Exception", .type "BaseException", .type "object"] && (He.eqO (PySem.W.findIn K (.ref (He.ga K "InvalidCut")) "__setattr__") (some (some (.builtin "object.__setattr__"))) && (He.eqO (PySem.W.findIn K (.ref (He.ga K "InvalidCut")) "__getattribute__") (some (some (.builtin "BaseException.__getattribute__"))) && (He.eqO (PySem.W.findIn K (.ref (He.ga K "InvalidCut")) "__getattr__") (some none) && (He.eqO (PySem.W.findIn K (.ref (He.ga K "InvalidCut")) "cut") (some none) && (He.eqO (PySem.W.findIn K (.ref (He.ga K "InvalidCut")) "__init__") (some (some (.ref (He.ma K (He.ga K "InvalidCut") "__init__")))) && ((PySem.W.typeIn K (.ref (He.ma K (He.ga K "InvalidCut") "__init__")) == some (.type "function")) && (PySem.W.keepIn K (.ref (He.ga K "InvalidCut")) && ((PySem.W.subIn K (.ref (He.ga K "InvalidCut")) (.type "BaseException") == some true) && ((PySem.W.typeIn K (.ref (He.ga K "InvalidCut")) == some (.type "type")) && (PySem.W.hasDictIn K (He.ga K "InvalidCut") && ((PySem.W.exmOne K (.ref (He.ga K "InvalidCut")) (.ref (He.ga K "InvalidCut")) == some true) && ((PySem.W.exmOne K (.ref (He.ga K "InvalidCut")) (.ref (He.ga K "CutError")) == some true)))))))))))))))))))))))))))
def loose0 : List PySem.Str := ["_wall", "CutError", "InvalidProgram", "InvalidTime", "InvalidCount", "InvalidName", "InvalidCut", "LimitExceeded", "MOST_LETTERS", "is_integer", "is_between", "is_name", "MOST_TIME", "MOST_COUNT", "MOST_PARTS", "MOST_NODES", "MOST_DEPTH", "end_of_sequence", "end_of_loop", "first_failure"]
def loose1 : List PySem.Str := ["length_of", "end_of_group", "end_after", "sequence_measure", "group_measure", "measure", "Program", "flat", "check_program", "check_time", "check_name", "check_names", "sleep", "fail", "shield", "cleanup", "fallback", "timeout", "move_on", "together"]
def loose2 : List PySem.Str := ["overrun", "_law_cell_at", "_law_source_of", "_law_draw", "_law_choice", "_law_times", "_law_spec", "_law_built", "_law_row_of", "_law_group_of", "_law_table", "_law_refused"]
def loose : List PySem.Str := loose0 ++ loose1 ++ loose2
abbrev R : PySem.W.OpenRow := PySem.W.OpenLaw.row PySem.Challenge.rw_cutends_k10_overruns_at_cuts
/-! the facts of the written part, the interpreter's own statics among it -/
section
variable {fa : List He.Fa} {fn : List He.DefD} {tf : List He.Defn} {ex : PySem.W.Frag → Bool} {w : World}
def partS (g : Addr → Option Obj) : PySem.W.Frag := He.frT g (He.asD g 5 ++ [cStatics])
theorem partS_as (g : Addr → Option Obj) : ∃ as, partS g = He.frT g as := ⟨_, rfl⟩
theorem partS_in {h : Heap} : (partS h.get?).In h := by
  obtain ⟨as, e⟩ := partS_as h.get?
  rw [e]
  exact He.frT_in
def obS (fa : List He.Fa) (fn : List He.DefD) (tf : List He.Defn) (ex : PySem.W.Frag → Bool) (g : Addr → Option Obj) : He.AlX := (He.obsT fa fn [] (partS g), ex (partS g) && He.tabsB g tf (partS g))
theorem saysS {h : Heap} (e : obS fa fn tf ex h.get? = He.valX fn [] w) : He.SaysX fa fn [] tf ex w h (partS h.get?) := by
  have e1 : He.obsT fa fn [] (partS h.get?) = He.valT fn [] w := congrArg Prod.fst e
  obtain ⟨yes, tabs⟩ := He.ba (congrArg Prod.snd e)
  have lone : ∀ a o, h.get? a = some o → He.emptyTab o = true → (partS h.get?).lookup a = none := fun a o q z => by
    obtain ⟨as, e⟩ := partS_as h.get?
    rw [e]
    exact He.frT_none q z
  have sub : (partS h.get?).In h := partS_in
  clear e
  generalize partS h.get? = K at *
  have each : ∀ p ∈ tf, PySem.W.codeHdIn K (He.cT K p).1 (He.cT K p).2 = true ∧ ∃ o, h.get? (He.cT K p).2 = some o ∧ He.emptyTab o = true := by
    intro p hp
    obtain ⟨hd, tl⟩ := He.ba (List.all_eq_true.mp tabs p hp)
    cases z : h.get? (He.cT K p).2 with
    | some o => exact ⟨hd, o, rfl, by rw [z] at tl; exact tl⟩
    | none => rw [z] at tl; cases tl
  refine ⟨e1, yes, fun p hp => (each p hp).1, ?_, ?_⟩
  · intro p hp
    obtain ⟨_, o, at_, em⟩ := each p hp
    exact lone _ o at_ em
  · intro p hp
    obtain ⟨_, o, at_, em⟩ := each p hp
    exact at_.trans (congrArg some (He.emptyTab_eq em))
def hkS (fa : List He.Fa) (fn : List He.DefD) (tf : List He.Defn) (ex : PySem.W.Frag → Bool) : PySem.W.Hook where
  α := He.AlX
  obs := fun s => obS fa fn tf ex s.heap.get?
  val := fun w => He.valX fn [] w
  says := fun w h => ∃ K : PySem.W.Frag, K.In h ∧ He.SaysX fa fn [] tf ex w h K
  of := fun _ _ e => ⟨_, partS_in, saysS e⟩
  keeps := fun _ _ _ h k => by
    obtain ⟨K, sub, c⟩ := h
    exact ⟨K, PySem.W.Frag.In.keeps sub k, c.t, c.more, c.hd, c.out, fun p hp => k _ _ (c.empty p hp)⟩
theorem obS_eq {g : Addr → Option Obj} {s : Shared} (same : ∀ a, g a = s.heap.get? a) : obS fa fn tf ex g = (hkS fa fn tf ex).obs s := by
  obtain rfl : g = s.heap.get? := funext same
  rfl
end
abbrev hk : PySem.W.Hook := hkS fa fn tf ex
def ob (s : PySem.W.SharedT) : He.AlX := obS fa fn tf ex (HandSHeadRun.getT s)
theorem ob_eq (s : PySem.W.SharedT) : ob s = hk.obs s.abs := obS_eq (HandSHeadRun.getT_eq s)
theorem run (w : World) : HandSHeadRun.RunEq R (PySem.W.view R.prog [57]) hk ob 12000 loose w := by
  intro os
  kernel_rfl
end CuT
namespace CuT
open PySem PySem.Spec L2
structure Txt (K : PySem.W.Frag) (mg : Str → Option Value) : Prop where
  g_wall : mg "_wall" = some (.ref (He.ga K "_wall"))
  g_CutError : mg "CutError" = some (.ref (He.ga K "CutError"))
  g_InvalidProgram : mg "InvalidProgram" = some (.ref (He.ga K "InvalidProgram"))
  g_InvalidTime : mg "InvalidTime" = some (.ref (He.ga K "InvalidTime"))
  g_InvalidCount : mg "InvalidCount" = some (.ref (He.ga K "InvalidCount"))
  g_InvalidName : mg "InvalidName" = some (.ref (He.ga K "InvalidName"))
  g_InvalidCut : mg "InvalidCut" = some (.ref (He.ga K "InvalidCut"))
  g_LimitExceeded : mg "LimitExceeded" = some (.ref (He.ga K "LimitExceeded"))
  g_is_integer : mg "is_integer" = some (.ref (He.ga K "is_integer"))
  g_is_between : mg "is_between" = some (.ref (He.ga K "is_between"))
  g_is_name : mg "is_name" = some (.ref (He.ga K "is_name"))
  g_end_of_sequence : mg "end_of_sequence" = some (.ref (He.ga K "end_of_sequence"))
  g_end_of_loop : mg "end_of_loop" = some (.ref (He.ga K "end_of_loop"))
  g_first_failure : mg "first_failure" = some (.ref (He.ga K "first_failure"))
  g_length_of : mg "length_of" = some (.ref (He.ga K "length_of"))
  g_end_of_group : mg "end_of_group" = some (.ref (He.ga K "end_of_group"))
  g_end_after : mg "end_after" = some (.ref (He.ga K "end_after"))
  g_sequence_measure : mg "sequence_measure" = some (.ref (He.ga K "sequence_measure"))
  g_group_measure : mg "group_measure" = some (.ref (He.ga K "group_measure"))
  g_measure : mg "measure" = some (.ref (He.ga K "measure"))
  g_Program : mg "Program" = some (.ref (He.ga K "Program"))
  g_flat : mg "flat" = some (.ref (He.ga K "flat"))
  g_check_program : mg "check_program" = some (.ref (He.ga K "check_program"))
  g_check_time : mg "check_time" = some (.ref (He.ga K "check_time"))
  g_check_name : mg "check_name" = some (.ref (He.ga K "check_name"))
  g_check_names : mg "check_names" = some (.ref (He.ga K "check_names"))
  g_sleep : mg "sleep" = some (.ref (He.ga K "sleep"))
  g_fail : mg "fail" = some (.ref (He.ga K "fail"))
  g_shield : mg "shield" = some (.ref (He.ga K "shield"))
  g_cleanup : mg "cleanup" = some (.ref (He.ga K "cleanup"))
  g_fallback : mg "fallback" = some (.ref (He.ga K "fallback"))
  g_timeout : mg "timeout" = some (.ref (He.ga K "timeout"))
  g_move_on : mg "move_on" = some (.ref (He.ga K "move_on"))
  g_together : mg "together" = some (.ref (He.ga K "together"))
  g_overrun : mg "overrun" = some (.ref (He.ga K "overrun"))
  g_law_cell_at : mg "_law_cell_at" = some (.ref (He.ga K "_law_cell_at"))
  g_law_source_of : mg "_law_source_of" = some (.ref (He.ga K "_law_source_of"))
  g_law_draw : mg "_law_draw" = some (.ref (He.ga K "_law_draw"))
  g_law_choice : mg "_law_choice" = some (.ref (He.ga K "_law_choice"))
  g_law_times : mg "_law_times" = some (.ref (He.ga K "_law_times"))
  g_law_spec : mg "_law_spec" = some (.ref (He.ga K "_law_spec"))
  g_law_built : mg "_law_built" = some (.ref (He.ga K "_law_built"))
  g_law_row_of : mg "_law_row_of" = some (.ref (He.ga K "_law_row_of"))
  g_law_group_of : mg "_law_group_of" = some (.ref (He.ga K "_law_group_of"))
  g_law_table : mg "_law_table" = some (.ref (He.ga K "_law_table"))
  g_law_refused : mg "_law_refused" = some (.ref (He.ga K "_law_refused"))
  g_law : mg "law" = some (.ref (He.ga K "law"))
  i_MOST_LETTERS : ∃ t, mg "MOST_LETTERS" = some (.int 12 t)
  i_MOST_TIME : ∃ t, mg "MOST_TIME" = some (.int 1000000000000000000000000000000 t)
  i_MOST_COUNT : ∃ t, mg "MOST_COUNT" = some (.int 1000000000000000000000000000000 t)
  i_MOST_PARTS : ∃ t, mg "MOST_PARTS" = some (.int 20 t)
  i_MOST_NODES : ∃ t, mg "MOST_NODES" = some (.int 300 t)
  i_MOST_DEPTH : ∃ t, mg "MOST_DEPTH" = some (.int 60 t)
  b_ArithmeticError : mg "ArithmeticError" = none
  b_all : mg "all" = none
  b_bool : mg "bool" = none
  b_enumerate : mg "enumerate" = none
  b_int : mg "int" = none
  b_isinstance : mg "isinstance" = none
  b_len : mg "len" = none
  b_list : mg "list" = none
  b_max : mg "max" = none
  b_min : mg "min" = none
  b_range : mg "range" = none
  b_repr : mg "repr" = none
  b_str : mg "str" = none
  b_sum : mg "sum" = none
  b_tuple : mg "tuple" = none
  cls_Program : Cls K (He.ga K "Program")
  mk_Program : Mk K (He.ga K "Program") (He.ma K (He.ga K "Program") "__init__")
  m_Program_init : Meth K (He.ga K "Program") "__init__" (He.ma K (He.ga K "Program") "__init__")
  m_Program_eq : Meth K (He.ga K "Program") "__eq__" (He.ma K (He.ga K "Program") "__eq__")
  m_Program_add : Meth K (He.ga K "Program") "__add__" (He.ma K (He.ga K "Program") "__add__")
  m_Program_mul : Meth K (He.ga K "Program") "__mul__" (He.ma K (He.ga K "Program") "__mul__")
  m_Program_or : Meth K (He.ga K "Program") "__or__" (He.ma K (He.ga K "Program") "__or__")
  m_Program_call : Meth K (He.ga K "Program") "__call__" (He.ma K (He.ga K "Program") "__call__")
  m_Program_facts : Meth K (He.ga K "Program") "facts" (He.ma K (He.ga K "Program") "facts")
  m_Program_total_length : Meth K (He.ga K "Program") "total_length" (He.ma K (He.ga K "Program") "total_length")
  m_Program_failure_name : Meth K (He.ga K "Program") "failure_name" (He.ma K (He.ga K "Program") "failure_name")
  m_Program_node_count : Meth K (He.ga K "Program") "node_count" (He.ma K (He.ga K "Program") "node_count")
  n_Program_broken : NoAttr K (He.ga K "Program") "broken"
  n_Program_depth : NoAttr K (He.ga K "Program") "depth"
  n_Program_kind : NoAttr K (He.ga K "Program") "kind"
  n_Program_nodes : NoAttr K (He.ga K "Program") "nodes"
  n_Program_number : NoAttr K (He.ga K "Program") "number"
  n_Program_parts : NoAttr K (He.ga K "Program") "parts"
  n_Program_span : NoAttr K (He.ga K "Program") "span"
  n_Program_words : NoAttr K (He.ga K "Program") "words"
  n_Program_radd : NoAttr K (He.ga K "Program") "__radd__"
  n_Program_rmul : NoAttr K (He.ga K "Program") "__rmul__"
  n_Program_ror : NoAttr K (He.ga K "Program") "__ror__"
  f_InvalidCut_init : ∃ fd, FunD K "__init__" "InvalidCut.__init__" (defArgs s_InvalidCut_init) (defBody s_InvalidCut_init) (defScope s_InvalidCut_init) [] [] (He.ma K (He.ga K "InvalidCut") "__init__") fd
  f_is_integer : ∃ fd, FunD K "is_integer" "is_integer" (defArgs s_is_integer) (defBody s_is_integer) (defScope s_is_integer) [] [] (He.ga K "is_integer") fd
  f_is_between : ∃ fd, FunD K "is_between" "is_between" (defArgs s_is_between) (defBody s_is_between) (defScope s_is_between) [] [] (He.ga K "is_between") fd
  f_is_name : ∃ fd, FunD K "is_name" "is_name" (defArgs s_is_name) (defBody s_is_name) (defScope s_is_name) [] [] (He.ga K "is_name") fd
  f_end_of_sequence : ∃ fd, FunD K "end_of_sequence" "end_of_sequence" (defArgs s_end_of_sequence) (defBody s_end_of_sequence) (defScope s_end_of_sequence) [] [] (He.ga K "end_of_sequence") fd
  f_end_of_loop : ∃ fd, FunD K "end_of_loop" "end_of_loop" (defArgs s_end_of_loop) (defBody s_end_of_loop) (defScope s_end_of_loop) [] [] (He.ga K "end_of_loop") fd
  f_first_failure : ∃ fd, FunD K "first_failure" "first_failure" (defArgs s_first_failure) (defBody s_first_failure) (defScope s_first_failure) [] [] (He.ga K "first_failure") fd
  f_length_of : ∃ fd, FunD K "length_of" "length_of" (defArgs s_length_of) (defBody s_length_of) (defScope s_length_of) [] [] (He.ga K "length_of") fd
  f_end_of_group : ∃ fd, FunD K "end_of_group" "end_of_group" (defArgs s_end_of_group) (defBody s_end_of_group) (defScope s_end_of_group) [] [] (He.ga K "end_of_group") fd
  f_end_after : ∃ fd, FunD K "end_after" "end_after" (defArgs s_end_after) (defBody s_end_after) (defScope s_end_after) [] [] (He.ga K "end_after") fd
  f_sequence_measure : ∃ fd, FunD K "sequence_measure" "sequence_measure" (defArgs s_sequence_measure) (defBody s_sequence_measure) (defScope s_sequence_measure) [] [] (He.ga K "sequence_measure") fd
  f_group_measure : ∃ fd, FunD K "group_measure" "group_measure" (defArgs s_group_measure) (defBody s_group_measure) (defScope s_group_measure) [] [] (He.ga K "group_measure") fd
  f_measure : ∃ fd, FunD K "measure" "measure" (defArgs s_measure) (defBody s_measure) (defScope s_measure) [] [] (He.ga K "measure") fd
  f_Program_init : ∃ fd, FunD K "__init__" "Program.__init__" (defArgs s_Program_init) (defBody s_Program_init) (defScope s_Program_init) [] [] (He.ma K (He.ga K "Program") "__init__") fd
  f_Program_eq : ∃ fd, FunD K "__eq__" "Program.__eq__" (defArgs s_Program_eq) (defBody s_Program_eq) (defScope s_Program_eq) [] [] (He.ma K (He.ga K "Program") "__eq__") fd
  f_Program_add : ∃ fd, FunD K "__add__" "Program.__add__" (defArgs s_Program_add) (defBody s_Program_add) (defScope s_Program_add) [] [] (He.ma K (He.ga K "Program") "__add__") fd
  f_Program_mul : ∃ fd, FunD K "__mul__" "Program.__mul__" (defArgs s_Program_mul) (defBody s_Program_mul) (defScope s_Program_mul) [] [] (He.ma K (He.ga K "Program") "__mul__") fd
  f_Program_or : ∃ fd, FunD K "__or__" "Program.__or__" (defArgs s_Program_or) (defBody s_Program_or) (defScope s_Program_or) [] [] (He.ma K (He.ga K "Program") "__or__") fd
  f_Program_call : ∃ fd, FunD K "__call__" "Program.__call__" (defArgs s_Program_call) (defBody s_Program_call) (defScope s_Program_call) [] [] (He.ma K (He.ga K "Program") "__call__") fd
  f_Program_facts : ∃ fd, FunD K "facts" "Program.facts" (defArgs s_Program_facts) (defBody s_Program_facts) (defScope s_Program_facts) [] [] (He.ma K (He.ga K "Program") "facts") fd
  f_Program_total_length : ∃ fd, FunD K "total_length" "Program.total_length" (defArgs s_Program_total_length) (defBody s_Program_total_length) (defScope s_Program_total_length) [] [] (He.ma K (He.ga K "Program") "total_length") fd
  f_Program_failure_name : ∃ fd, FunD K "failure_name" "Program.failure_name" (defArgs s_Program_failure_name) (defBody s_Program_failure_name) (defScope s_Program_failure_name) [] [] (He.ma K (He.ga K "Program") "failure_name") fd
  f_Program_node_count : ∃ fd, FunD K "node_count" "Program.node_count" (defArgs s_Program_node_count) (defBody s_Program_node_count) (defScope s_Program_node_count) [] [] (He.ma K (He.ga K "Program") "node_count") fd
  f_flat : ∃ fd, FunD K "flat" "flat" (defArgs s_flat) (defBody s_flat) (defScope s_flat) [] [] (He.ga K "flat") fd
  f_check_program : ∃ fd, FunD K "check_program" "check_program" (defArgs s_check_program) (defBody s_check_program) (defScope s_check_program) [] [] (He.ga K "check_program") fd
  f_check_time : ∃ fd, FunD K "check_time" "check_time" (defArgs s_check_time) (defBody s_check_time) (defScope s_check_time) [] [] (He.ga K "check_time") fd
  f_check_name : ∃ fd, FunD K "check_name" "check_name" (defArgs s_check_name) (defBody s_check_name) (defScope s_check_name) [] [] (He.ga K "check_name") fd
  f_check_names : ∃ fd, FunD K "check_names" "check_names" (defArgs s_check_names) (defBody s_check_names) (defScope s_check_names) [] [] (He.ga K "check_names") fd
  f_sleep : ∃ fd, FunD K "sleep" "sleep" (defArgs s_sleep) (defBody s_sleep) (defScope s_sleep) [] [] (He.ga K "sleep") fd
  f_fail : ∃ fd, FunD K "fail" "fail" (defArgs s_fail) (defBody s_fail) (defScope s_fail) [] [] (He.ga K "fail") fd
  f_shield : ∃ fd, FunD K "shield" "shield" (defArgs s_shield) (defBody s_shield) (defScope s_shield) [] [] (He.ga K "shield") fd
  f_cleanup : ∃ fd, FunD K "cleanup" "cleanup" (defArgs s_cleanup) (defBody s_cleanup) (defScope s_cleanup) [] [] (He.ga K "cleanup") fd
  f_fallback : ∃ fd, FunD K "fallback" "fallback" (defArgs s_fallback) (defBody s_fallback) (defScope s_fallback) [] [] (He.ga K "fallback") fd
  f_timeout : ∃ fd, FunD K "timeout" "timeout" (defArgs s_timeout) (defBody s_timeout) (defScope s_timeout) [] [] (He.ga K "timeout") fd
  f_move_on : ∃ fd, FunD K "move_on" "move_on" (defArgs s_move_on) (defBody s_move_on) (defScope s_move_on) [] [] (He.ga K "move_on") fd
  f_together : ∃ fd, FunD K "together" "together" (defArgs s_together) (defBody s_together) (defScope s_together) [] [] (He.ga K "together") fd
  f_overrun : ∃ fd, FunD K "overrun" "overrun" (defArgs s_overrun) (defBody s_overrun) (defScope s_overrun) [] [] (He.ga K "overrun") fd
  f_law_cell_at : ∃ fd, FunD K "_law_cell_at" "_law_cell_at" (defArgs s_law_cell_at) (defBody s_law_cell_at) (defScope s_law_cell_at) [] [] (He.ga K "_law_cell_at") fd
  f_law_source_of : ∃ fd, FunD K "_law_source_of" "_law_source_of" (defArgs s_law_source_of) (defBody s_law_source_of) (defScope s_law_source_of) [] [] (He.ga K "_law_source_of") fd
  f_law_draw : ∃ fd, FunD K "_law_draw" "_law_draw" (defArgs s_law_draw) (defBody s_law_draw) (defScope s_law_draw) [] [] (He.ga K "_law_draw") fd
  f_law_choice : ∃ fd, FunD K "_law_choice" "_law_choice" (defArgs s_law_choice) (defBody s_law_choice) (defScope s_law_choice) [] [] (He.ga K "_law_choice") fd
  f_law_times : ∃ fd, FunD K "_law_times" "_law_times" (defArgs s_law_times) (defBody s_law_times) (defScope s_law_times) [] [] (He.ga K "_law_times") fd
  f_law_spec : ∃ fd, FunD K "_law_spec" "_law_spec" (defArgs s_law_spec) (defBody s_law_spec) (defScope s_law_spec) [] [] (He.ga K "_law_spec") fd
  f_law_built : ∃ fd, FunD K "_law_built" "_law_built" (defArgs s_law_built) (defBody s_law_built) (defScope s_law_built) [] [] (He.ga K "_law_built") fd
  f_law_row_of : ∃ fd, FunD K "_law_row_of" "_law_row_of" (defArgs s_law_row_of) (defBody s_law_row_of) (defScope s_law_row_of) [] [] (He.ga K "_law_row_of") fd
  f_law_group_of : ∃ fd, FunD K "_law_group_of" "_law_group_of" (defArgs s_law_group_of) (defBody s_law_group_of) (defScope s_law_group_of) [] [] (He.ga K "_law_group_of") fd
  f_law_table : ∃ fd, FunD K "_law_table" "_law_table" (defArgs s_law_table) (defBody s_law_table) (defScope s_law_table) [] [] (He.ga K "_law_table") fd
  f_law_refused : ∃ fd, FunD K "_law_refused" "_law_refused" (defArgs s_law_refused) (defBody s_law_refused) (defScope s_law_refused) [] [] (He.ga K "_law_refused") fd
  f_law : ∃ fd, FunD K "law" "law" (defArgs s_law) (defBody s_law) (defScope s_law) [] [] (He.ga K "law") fd
  sf_Program : PySem.W.selfFirst K (He.ga K "Program") = true
  kit_Program : PySem.W.kitOne K (.ref (He.ga K "Program")) (.ref (He.ga K "Program")) = some true
  clsat_Program : PySem.W.findIn K (.ref (He.ga K "Program")) "__class__" = some (some (.builtin "object.__class__"))
  clsget_Program : PySem.W.specialIn K (.builtin "object.__class__") "__get__" = some (some (.builtin "getset_descriptor.__get__"))
  clstk_Program : PySem.W.takesIn K (.builtin "object.__class__") = some true
  mro_Program : PySem.W.mroIn K (He.ga K "Program") (.type "object") = some true
  sub_Program : PySem.W.subIn K (.type "int") (.ref (He.ga K "Program")) = some false
  ob_Program : PySem.W.subIn K (.ref (He.ga K "Program")) (.type "object") = some true
  ne_Program : PySem.W.findIn K (.ref (He.ga K "Program")) "__ne__" = some (some (.builtin "object.__ne__"))
  fi_Program_call : PySem.W.fnIn K (He.ma K (He.ga K "Program") "__call__") = true
  be_rd : PySem.W.readsIn K (He.ga K "CutError") (.type "type") = true
  be_sp : PySem.W.specialIn K (.ref (He.ga K "CutError")) "__getattribute__" = some (some (.builtin "type.__getattribute__"))
  be_at : cutInit K = true
  eq_InvalidCut : PySem.W.excInitIn K (He.ga K "InvalidCut") [.type "ArithmeticError", .type "Exception", .type "BaseException", .type "object"] "ArithmeticError.__new__" = true
  eov_InvalidCut : PySem.W.excOver K (He.ga K "InvalidCut") [.type "ArithmeticError", .type "Exception", .type "BaseException", .type "object"] = true
  esa_InvalidCut : PySem.W.findIn K (.ref (He.ga K "InvalidCut")) "__setattr__" = some (some (.builtin "object.__setattr__"))
  ega_InvalidCut : PySem.W.findIn K (.ref (He.ga K "InvalidCut")) "__getattribute__" = some (some (.builtin "BaseException.__getattribute__"))
  egg_InvalidCut : PySem.W.findIn K (.ref (He.ga K "InvalidCut")) "__getattr__" = some none
  eno_InvalidCut : PySem.W.findIn K (.ref (He.ga K "InvalidCut")) "cut" = some none
  einit_InvalidCut : PySem.W.findIn K (.ref (He.ga K "InvalidCut")) "__init__" = some (some (.ref (He.ma K (He.ga K "InvalidCut") "__init__")))
  efn_InvalidCut : PySem.W.typeIn K (.ref (He.ma K (He.ga K "InvalidCut") "__init__")) = some (.type "function")
  ekC_InvalidCut : PySem.W.keepIn K (.ref (He.ga K "InvalidCut")) = true
  eexC_InvalidCut : PySem.W.subIn K (.ref (He.ga K "InvalidCut")) (.type "BaseException") = some true
  etyC_InvalidCut : PySem.W.typeIn K (.ref (He.ga K "InvalidCut")) = some (.type "type")
  ehd_InvalidCut : PySem.W.hasDictIn K (He.ga K "InvalidCut") = true
  exm_InvalidCut_InvalidCut : PySem.W.exmOne K (.ref (He.ga K "InvalidCut")) (.ref (He.ga K "InvalidCut")) = some true
  exm_CutError_InvalidCut : PySem.W.exmOne K (.ref (He.ga K "InvalidCut")) (.ref (He.ga K "CutError")) = some true
theorem txt_of {K : PySem.W.Frag} {h : Heap} {mg : Str → Option Value} {w : World} {hh : Heap} (X : K.In h) (G : h.Ns mainGlobals mg) (c : He.SaysX fa fn [] tf ex w hh K) : Txt K mg := by
  have z0 := c.more
  unfold ex at z0
  obtain ⟨y0, z1⟩ := He.ba z0
  obtain ⟨y1, z2⟩ := He.ba z1
  obtain ⟨y2, z3⟩ := He.ba z2
  obtain ⟨y3, z4⟩ := He.ba z3
  obtain ⟨y4, z5⟩ := He.ba z4
  obtain ⟨y5, z6⟩ := He.ba z5
  obtain ⟨y6, z7⟩ := He.ba z6
  obtain ⟨y7, z8⟩ := He.ba z7
  obtain ⟨y8, z9⟩ := He.ba z8
  obtain ⟨y9, z10⟩ := He.ba z9
  obtain ⟨y10, z11⟩ := He.ba z10
  obtain ⟨y11, z12⟩ := He.ba z11
  obtain ⟨y12, z13⟩ := He.ba z12
  obtain ⟨y13, z14⟩ := He.ba z13
  obtain ⟨y14, z15⟩ := He.ba z14
  obtain ⟨y15, z16⟩ := He.ba z15
  obtain ⟨y16, z17⟩ := He.ba z16
  obtain ⟨y17, z18⟩ := He.ba z17
  obtain ⟨y18, z19⟩ := He.ba z18
  obtain ⟨y19, z20⟩ := He.ba z19
  obtain ⟨y20, z21⟩ := He.ba z20
  obtain ⟨y21, z22⟩ := He.ba z21
  obtain ⟨y22, z23⟩ := He.ba z22
  obtain ⟨y23, z24⟩ := He.ba z23
  obtain ⟨y24, z25⟩ := He.ba z24
  obtain ⟨y25, z26⟩ := He.ba z25
  exact {
    g_wall := He.glo_ok X G (c.t.d.fact 0 rfl),
    g_CutError := He.glo_ok X G (c.t.d.fact 1 rfl),
    g_InvalidProgram := He.glo_ok X G (c.t.d.fact 2 rfl),
    g_InvalidTime := He.glo_ok X G (c.t.d.fact 3 rfl),
    g_InvalidCount := He.glo_ok X G (c.t.d.fact 4 rfl),
    g_InvalidName := He.glo_ok X G (c.t.d.fact 5 rfl),
    g_InvalidCut := He.glo_ok X G (c.t.d.fact 6 rfl),
    g_LimitExceeded := He.glo_ok X G (c.t.d.fact 7 rfl),
    g_is_integer := He.glo_ok X G (c.t.d.fact 8 rfl),
    g_is_between := He.glo_ok X G (c.t.d.fact 9 rfl),
    g_is_name := He.glo_ok X G (c.t.d.fact 10 rfl),
    g_end_of_sequence := He.glo_ok X G (c.t.d.fact 11 rfl),
    g_end_of_loop := He.glo_ok X G (c.t.d.fact 12 rfl),
    g_first_failure := He.glo_ok X G (c.t.d.fact 13 rfl),
    g_length_of := He.glo_ok X G (c.t.d.fact 14 rfl),
    g_end_of_group := He.glo_ok X G (c.t.d.fact 15 rfl),
    g_end_after := He.glo_ok X G (c.t.d.fact 16 rfl),
    g_sequence_measure := He.glo_ok X G (c.t.d.fact 17 rfl),
    g_group_measure := He.glo_ok X G (c.t.d.fact 18 rfl),
    g_measure := He.glo_ok X G (c.t.d.fact 19 rfl),
    g_Program := He.glo_ok X G (c.t.d.fact 20 rfl),
    g_flat := He.glo_ok X G (c.t.d.fact 21 rfl),
    g_check_program := He.glo_ok X G (c.t.d.fact 22 rfl),
    g_check_time := He.glo_ok X G (c.t.d.fact 23 rfl),
    g_check_name := He.glo_ok X G (c.t.d.fact 24 rfl),
    g_check_names := He.glo_ok X G (c.t.d.fact 25 rfl),
    g_sleep := He.glo_ok X G (c.t.d.fact 26 rfl),
    g_fail := He.glo_ok X G (c.t.d.fact 27 rfl),
    g_shield := He.glo_ok X G (c.t.d.fact 28 rfl),
    g_cleanup := He.glo_ok X G (c.t.d.fact 29 rfl),
    g_fallback := He.glo_ok X G (c.t.d.fact 30 rfl),
    g_timeout := He.glo_ok X G (c.t.d.fact 31 rfl),
    g_move_on := He.glo_ok X G (c.t.d.fact 32 rfl),
    g_together := He.glo_ok X G (c.t.d.fact 33 rfl),
    g_overrun := He.glo_ok X G (c.t.d.fact 34 rfl),
    g_law_cell_at := He.glo_ok X G (c.t.d.fact 35 rfl),
    g_law_source_of := He.glo_ok X G (c.t.d.fact 36 rfl),
    g_law_draw := He.glo_ok X G (c.t.d.fact 37 rfl),
    g_law_choice := He.glo_ok X G (c.t.d.fact 38 rfl),
    g_law_times := He.glo_ok X G (c.t.d.fact 39 rfl),
    g_law_spec := He.glo_ok X G (c.t.d.fact 40 rfl),
    g_law_built := He.glo_ok X G (c.t.d.fact 41 rfl),
    g_law_row_of := He.glo_ok X G (c.t.d.fact 42 rfl),
    g_law_group_of := He.glo_ok X G (c.t.d.fact 43 rfl),
    g_law_table := He.glo_ok X G (c.t.d.fact 44 rfl),
    g_law_refused := He.glo_ok X G (c.t.d.fact 45 rfl),
    g_law := He.glo_ok X G (c.t.d.fact 46 rfl),
    i_MOST_LETTERS := He.int_ok X G (c.t.d.fact 47 rfl),
    i_MOST_TIME := He.int_ok X G (c.t.d.fact 48 rfl),
    i_MOST_COUNT := He.int_ok X G (c.t.d.fact 49 rfl),
    i_MOST_PARTS := He.int_ok X G (c.t.d.fact 50 rfl),
    i_MOST_NODES := He.int_ok X G (c.t.d.fact 51 rfl),
    i_MOST_DEPTH := He.int_ok X G (c.t.d.fact 52 rfl),
    b_ArithmeticError := He.free_ok X G (c.t.d.fact 53 rfl),
    b_all := He.free_ok X G (c.t.d.fact 54 rfl),
    b_bool := He.free_ok X G (c.t.d.fact 55 rfl),
    b_enumerate := He.free_ok X G (c.t.d.fact 56 rfl),
    b_int := He.free_ok X G (c.t.d.fact 57 rfl),
    b_isinstance := He.free_ok X G (c.t.d.fact 58 rfl),
    b_len := He.free_ok X G (c.t.d.fact 59 rfl),
    b_list := He.free_ok X G (c.t.d.fact 60 rfl),
    b_max := He.free_ok X G (c.t.d.fact 61 rfl),
    b_min := He.free_ok X G (c.t.d.fact 62 rfl),
    b_range := He.free_ok X G (c.t.d.fact 63 rfl),
    b_repr := He.free_ok X G (c.t.d.fact 64 rfl),
    b_str := He.free_ok X G (c.t.d.fact 65 rfl),
    b_sum := He.free_ok X G (c.t.d.fact 66 rfl),
    b_tuple := He.free_ok X G (c.t.d.fact 67 rfl),
    cls_Program := He.cls_ok (c.t.d.fact 68 rfl),
    mk_Program := He.mkr_ok (c.t.d.fact 69 rfl),
    m_Program_init := He.meth_ok (c.t.d.fact 70 rfl),
    m_Program_eq := He.meth_ok (c.t.d.fact 71 rfl),
    m_Program_add := He.meth_ok (c.t.d.fact 72 rfl),
    m_Program_mul := He.meth_ok (c.t.d.fact 73 rfl),
    m_Program_or := He.meth_ok (c.t.d.fact 74 rfl),
    m_Program_call := He.meth_ok (c.t.d.fact 75 rfl),
    m_Program_facts := He.meth_ok (c.t.d.fact 76 rfl),
    m_Program_total_length := He.meth_ok (c.t.d.fact 77 rfl),
    m_Program_failure_name := He.meth_ok (c.t.d.fact 78 rfl),
    m_Program_node_count := He.meth_ok (c.t.d.fact 79 rfl),
    n_Program_broken := He.noat_ok (c.t.d.fact 80 rfl),
    n_Program_depth := He.noat_ok (c.t.d.fact 81 rfl),
    n_Program_kind := He.noat_ok (c.t.d.fact 82 rfl),
    n_Program_nodes := He.noat_ok (c.t.d.fact 83 rfl),
    n_Program_number := He.noat_ok (c.t.d.fact 84 rfl),
    n_Program_parts := He.noat_ok (c.t.d.fact 85 rfl),
    n_Program_span := He.noat_ok (c.t.d.fact 86 rfl),
    n_Program_words := He.noat_ok (c.t.d.fact 87 rfl),
    n_Program_radd := He.noat_ok (c.t.d.fact 88 rfl),
    n_Program_rmul := He.noat_ok (c.t.d.fact 89 rfl),
    n_Program_ror := He.noat_ok (c.t.d.fact 90 rfl),
    f_InvalidCut_init := c.t.d.def_ 0 (d := d_InvalidCut_init) rfl,
    f_is_integer := c.t.d.def_ 1 (d := d_is_integer) rfl,
    f_is_between := c.t.d.def_ 2 (d := d_is_between) rfl,
    f_is_name := c.t.d.def_ 3 (d := d_is_name) rfl,
    f_end_of_sequence := c.t.d.def_ 4 (d := d_end_of_sequence) rfl,
    f_end_of_loop := c.t.d.def_ 5 (d := d_end_of_loop) rfl,
    f_first_failure := c.t.d.def_ 6 (d := d_first_failure) rfl,
    f_length_of := c.t.d.def_ 7 (d := d_length_of) rfl,
    f_end_of_group := c.t.d.def_ 8 (d := d_end_of_group) rfl,
    f_end_after := c.t.d.def_ 9 (d := d_end_after) rfl,
    f_sequence_measure := c.t.d.def_ 10 (d := d_sequence_measure) rfl,
    f_group_measure := c.t.d.def_ 11 (d := d_group_measure) rfl,
    f_measure := c.t.d.def_ 12 (d := d_measure) rfl,
    f_Program_init := c.t.d.def_ 13 (d := d_Program_init) rfl,
    f_Program_eq := c.t.d.def_ 14 (d := d_Program_eq) rfl,
    f_Program_add := c.t.d.def_ 15 (d := d_Program_add) rfl,
    f_Program_mul := c.t.d.def_ 16 (d := d_Program_mul) rfl,
    f_Program_or := c.t.d.def_ 17 (d := d_Program_or) rfl,
    f_Program_call := c.t.d.def_ 18 (d := d_Program_call) rfl,
    f_Program_facts := c.t.d.def_ 19 (d := d_Program_facts) rfl,
    f_Program_total_length := c.t.d.def_ 20 (d := d_Program_total_length) rfl,
    f_Program_failure_name := c.t.d.def_ 21 (d := d_Program_failure_name) rfl,
    f_Program_node_count := c.t.d.def_ 22 (d := d_Program_node_count) rfl,
    f_flat := c.t.d.def_ 23 (d := d_flat) rfl,
    f_check_program := c.t.d.def_ 24 (d := d_check_program) rfl,
    f_check_time := c.t.d.def_ 25 (d := d_check_time) rfl,
    f_check_name := c.t.d.def_ 26 (d := d_check_name) rfl,
    f_check_names := c.t.d.def_ 27 (d := d_check_names) rfl,
    f_sleep := c.t.d.def_ 28 (d := d_sleep) rfl,
    f_fail := c.t.d.def_ 29 (d := d_fail) rfl,
    f_shield := c.t.d.def_ 30 (d := d_shield) rfl,
    f_cleanup := c.t.d.def_ 31 (d := d_cleanup) rfl,
    f_fallback := c.t.d.def_ 32 (d := d_fallback) rfl,
    f_timeout := c.t.d.def_ 33 (d := d_timeout) rfl,
    f_move_on := c.t.d.def_ 34 (d := d_move_on) rfl,
    f_together := c.t.d.def_ 35 (d := d_together) rfl,
    f_overrun := c.t.d.def_ 36 (d := d_overrun) rfl,
    f_law_cell_at := c.t.d.def_ 37 (d := d_law_cell_at) rfl,
    f_law_source_of := c.t.d.def_ 38 (d := d_law_source_of) rfl,
    f_law_draw := c.t.d.def_ 39 (d := d_law_draw) rfl,
    f_law_choice := c.t.d.def_ 40 (d := d_law_choice) rfl,
    f_law_times := c.t.d.def_ 41 (d := d_law_times) rfl,
    f_law_spec := c.t.d.def_ 42 (d := d_law_spec) rfl,
    f_law_built := c.t.d.def_ 43 (d := d_law_built) rfl,
    f_law_row_of := c.t.d.def_ 44 (d := d_law_row_of) rfl,
    f_law_group_of := c.t.d.def_ 45 (d := d_law_group_of) rfl,
    f_law_table := c.t.d.def_ 46 (d := d_law_table) rfl,
    f_law_refused := c.t.d.def_ 47 (d := d_law_refused) rfl,
    f_law := c.t.d.def_ 48 (d := d_law) rfl,
    sf_Program := y0,
    kit_Program := of_decide_eq_true y1,
    clsat_Program := He.eqO_ok y2,
    clsget_Program := He.eqO_ok y3,
    clstk_Program := of_decide_eq_true y4,
    mro_Program := of_decide_eq_true y5,
    sub_Program := of_decide_eq_true y6,
    ob_Program := of_decide_eq_true y7,
    ne_Program := He.eqO_ok y8,
    fi_Program_call := y9,
    be_rd := y10,
    be_sp := He.eqO_ok y11,
    be_at := y12,
    eq_InvalidCut := y13,
    eov_InvalidCut := y14,
    esa_InvalidCut := He.eqO_ok y15,
    ega_InvalidCut := He.eqO_ok y16,
    egg_InvalidCut := He.eqO_ok y17,
    eno_InvalidCut := He.eqO_ok y18,
    einit_InvalidCut := He.eqO_ok y19,
    efn_InvalidCut := beq_iff_eq.mp y20,
    ekC_InvalidCut := y21,
    eexC_InvalidCut := beq_iff_eq.mp y22,
    etyC_InvalidCut := beq_iff_eq.mp y23,
    ehd_InvalidCut := y24,
    exm_InvalidCut_InvalidCut := beq_iff_eq.mp y25,
    exm_CutError_InvalidCut := beq_iff_eq.mp z26 }
end CuT

/-! == CuMath -/
set_option maxHeartbeats 4000000
/-! The mirror of cutends.programs in plain Lean, and its main guarantee. -/
namespace Cu
open PySem

inductive Kind where
  | sleep | fail | seq | loop | shield | cleanup | fallback | timeout | moveon | together
  deriving DecidableEq

def Kind.s : Kind → Str
  | .sleep => "sleep"
  | .fail => "fail"
  | .seq => "seq"
  | .loop => "loop"
  | .shield => "shield"
  | .cleanup => "cleanup"
  | .fallback => "fallback"
  | .timeout => "timeout"
  | .moveon => "moveon"
  | .together => "together"

/-- a program as it stands in the heap: its arguments and what it keeps of them -/
inductive Prog where
  | mk (kind : Kind) (parts : List Prog) (number : Int) (words : List Str) (nodes depth span : Int) (broken : Option Str)

namespace Prog
def kind : Prog → Kind | .mk k _ _ _ _ _ _ _ => k
def parts : Prog → List Prog | .mk _ ps _ _ _ _ _ _ => ps
def number : Prog → Int | .mk _ _ n _ _ _ _ _ => n
def words : Prog → List Str | .mk _ _ _ ws _ _ _ _ => ws
def nodes : Prog → Int | .mk _ _ _ _ nd _ _ _ => nd
def depth : Prog → Int | .mk _ _ _ _ _ d _ _ => d
def span : Prog → Int | .mk _ _ _ _ _ _ s _ => s
def broken : Prog → Option Str | .mk _ _ _ _ _ _ _ b => b
end Prog

/-- the greatest of a list -/
def maxL : List Int → Int
  | [] => 0
  | x :: r => r.foldl max x
theorem foldl_max_ge : ∀ (l : List Int) (x : Int), x ≤ l.foldl max x
  | [], x => Int.le_refl x
  | y :: r, x => Int.le_trans (Int.le_max_left x y) (foldl_max_ge r (max x y))
theorem foldl_max_mem_ge : ∀ (l : List Int) (x y : Int), y ∈ l → y ≤ l.foldl max x
  | [], _, _, h => nomatch h
  | z :: r, x, y, h => by
    rcases List.mem_cons.mp h with e | e
    · subst e
      exact Int.le_trans (Int.le_max_right x y) (foldl_max_ge r (max x y))
    · exact foldl_max_mem_ge r (max x z) y e
theorem foldl_max_mem : ∀ (l : List Int) (x : Int), l.foldl max x = x ∨ l.foldl max x ∈ l
  | [], _ => .inl rfl
  | y :: r, x => by
    rcases foldl_max_mem r (max x y) with e | e
    · show r.foldl max (max x y) = x ∨ r.foldl max (max x y) ∈ y :: r
      rw [e]
      by_cases h : x ≤ y
      · rw [Int.max_eq_right h]
        exact .inr List.mem_cons_self
      · rw [Int.max_eq_left (by omega)]
        exact .inl rfl
    · exact .inr (List.mem_cons_of_mem _ e)
theorem le_maxL {l : List Int} {x : Int} (h : x ∈ l) : x ≤ maxL l := by
  cases l with
  | nil => cases h
  | cons y r =>
    rcases List.mem_cons.mp h with e | e
    · subst e
      exact foldl_max_ge r x
    · exact foldl_max_mem_ge r y x e
theorem maxL_mem {l : List Int} (h : l ≠ []) : maxL l ∈ l := by
  cases l with
  | nil => exact absurd rfl h
  | cons y r =>
    rcases foldl_max_mem r y with e | e
    · show r.foldl max y ∈ y :: r
      rw [e]
      exact List.mem_cons_self
    · exact List.mem_cons_of_mem _ e
theorem maxL_unique {l : List Int} {m : Int} (h : m ∈ l) (hm : ∀ a ∈ l, a ≤ m) : m = maxL l := by
  have h1 := le_maxL h
  have h2 := hm _ (maxL_mem (l := l) (fun e => by rw [e] at h; cases h))
  omega
theorem maxL_le {l : List Int} {b : Int} (hne : l ≠ []) (h : ∀ a ∈ l, a ≤ b) : maxL l ≤ b := h _ (maxL_mem hne)

/-- the first of the shortest -/
def minBy : List Prog → Option Prog
  | [] => none
  | p :: r => some (r.foldl (fun m x => if x.span < m.span then x else m) p)
/-- the first part that fails earliest -/
def firstFail (ps : List Prog) : Option Prog := minBy (ps.filter fun p => p.broken.isSome)

theorem foldl_min_spec : ∀ (l : List Prog) (p : Prog), (let m := l.foldl (fun m x => if x.span < m.span then x else m) p; (m = p ∨ m ∈ l) ∧ m.span ≤ p.span ∧ ∀ x ∈ l, m.span ≤ x.span)
  | [], p => ⟨.inl rfl, Int.le_refl _, fun _ h => nomatch h⟩
  | y :: r, p => by
    by_cases h : y.span < p.span
    · obtain ⟨h1, h2, h3⟩ := foldl_min_spec r y
      show (let m := r.foldl (fun m x => if x.span < m.span then x else m) (if y.span < p.span then y else p); (m = p ∨ m ∈ y :: r) ∧ m.span ≤ p.span ∧ ∀ x ∈ y :: r, m.span ≤ x.span)
      rw [if_pos h]
      refine ⟨.inr ?_, by omega, fun x hx => ?_⟩
      · rcases h1 with e | e
        · rw [e]
          exact List.mem_cons_self
        · exact List.mem_cons_of_mem _ e
      · rcases List.mem_cons.mp hx with e | e
        · subst e
          exact h2
        · exact h3 x e
    · obtain ⟨h1, h2, h3⟩ := foldl_min_spec r p
      show (let m := r.foldl (fun m x => if x.span < m.span then x else m) (if y.span < p.span then y else p); (m = p ∨ m ∈ y :: r) ∧ m.span ≤ p.span ∧ ∀ x ∈ y :: r, m.span ≤ x.span)
      rw [if_neg h]
      refine ⟨?_, h2, fun x hx => ?_⟩
      · rcases h1 with e | e
        · exact .inl e
        · exact .inr (List.mem_cons_of_mem _ e)
      · rcases List.mem_cons.mp hx with e | e
        · subst e
          omega
        · exact h3 x e
theorem minBy_spec {l : List Prog} {m : Prog} (h : minBy l = some m) : m ∈ l ∧ ∀ x ∈ l, m.span ≤ x.span := by
  cases l with
  | nil => cases h
  | cons p r =>
    have e : r.foldl (fun m x => if x.span < m.span then x else m) p = m := Option.some.inj h
    obtain ⟨h1, h2, h3⟩ := foldl_min_spec r p
    rw [e] at h1 h2 h3
    refine ⟨?_, fun x hx => ?_⟩
    · rcases h1 with z | z
      · rw [z]
        exact List.mem_cons_self
      · exact List.mem_cons_of_mem _ z
    · rcases List.mem_cons.mp hx with z | z
      · subst z
        exact h2
      · exact h3 x z
theorem minBy_none {l : List Prog} (h : minBy l = none) : l = [] := by
  cases l with
  | nil => rfl
  | cons p r => cases h
theorem firstFail_some {ps : List Prog} {m : Prog} (h : firstFail ps = some m) : m ∈ ps ∧ m.broken.isSome = true ∧ ∀ x ∈ ps, x.broken.isSome = true → m.span ≤ x.span := by
  obtain ⟨h1, h2⟩ := minBy_spec h
  obtain ⟨h3, h4⟩ := List.mem_filter.mp h1
  exact ⟨h3, h4, fun x hx hb => h2 x (List.mem_filter.mpr ⟨hx, hb⟩)⟩
theorem firstFail_none {ps : List Prog} (h : firstFail ps = none) : ∀ x ∈ ps, x.broken = none := fun x hx => by
  have e := minBy_none h
  cases q : x.broken with
  | none => rfl
  | some w =>
    have : x ∈ ps.filter fun p => p.broken.isSome := List.mem_filter.mpr ⟨hx, by rw [q]; rfl⟩
    rw [e] at this
    cases this

def spanAt (ps : List Prog) (i : Nat) : Int := match ps[i]? with
  | some p => p.span
  | none => 0
def brokenAt (ps : List Prog) (i : Nat) : Option Str := match ps[i]? with
  | some p => p.broken
  | none => none

mutual
/-- the end after a cut -/
def endA : Prog → Int → Int
  | .mk k ps n _ _ _ s _, c =>
    if s ≤ c then s else if c = 0 then 0 else
    match k with
    | .sleep => c
    | .seq => endS ps 0 c
    | .fallback => endS ps 0 c
    | .loop =>
      let r := if spanAt ps 0 = 0 then 0 else min (c / spanAt ps 0) (n - 1)
      r * spanAt ps 0 + endH ps (c - r * spanAt ps 0)
    | .shield => s
    | .cleanup => min (endH ps c + spanAt ps 1) s
    | .together => (match firstFail ps with
      | some f => if f.span ≤ c then s else maxL (endL ps c)
      | none => maxL (endL ps c))
    | .fail => if n ≤ c then s else endH ps c
    | .timeout => if n ≤ c then s else endH ps c
    | .moveon => if n ≤ c then s else endH ps c
/-- .. of the first part -/
def endH : List Prog → Int → Int
  | [], _ => 0
  | p :: _, c => endA p c
/-- .. of parts that follow one another, from a begin on -/
def endS : List Prog → Int → Int → Int
  | [], b, _ => b
  | p :: r, b, c => if c < b + p.span then b + endA p (c - b) else endS r (b + p.span) c
/-- .. of those that are longer -/
def endL : List Prog → Int → List Int
  | [], _ => []
  | p :: r, c => if p.span > c then endA p c :: endL r c else endL r c
end

/-- length and failure of a sequence -/
def seqM : List Prog → Int → Int × Option Str
  | [], t => (t, none)
  | p :: r, t => match p.broken with
    | some w => (t + p.span, some w)
    | none => seqM r (t + p.span)
def grpM (ps : List Prog) : Int × Option Str := match firstFail ps with
  | none => (maxL (ps.map Prog.span), none)
  | some f => (maxL (ps.map fun p => endA p f.span), f.broken)
def meas (k : Kind) (ps : List Prog) (n : Int) (ws : List Str) : Int × Option Str := match k with
  | .sleep => (n, none)
  | .fail => (0, ws.head?)
  | .seq => seqM ps 0
  | .loop => if n = 0 then (0, none) else (spanAt ps 0 * (if brokenAt ps 0 = none then n else 1), brokenAt ps 0)
  | .shield => (spanAt ps 0, brokenAt ps 0)
  | .cleanup => (spanAt ps 0 + spanAt ps 1, if brokenAt ps 1 = none then brokenAt ps 0 else brokenAt ps 1)
  | .fallback => (match brokenAt ps 0 with
    | some w => if w ∈ ws then (spanAt ps 0 + spanAt ps 1, brokenAt ps 1) else (spanAt ps 0, some w)
    | none => (spanAt ps 0, none))
  | .together => grpM ps
  | .timeout => if n < spanAt ps 0 then (endH ps n, ws.head?) else (spanAt ps 0, brokenAt ps 0)
  | .moveon => if n < spanAt ps 0 then (endH ps n, ws.head?) else (spanAt ps 0, brokenAt ps 0)

def mostT : Int := 1000000000000000000000000000000
/-- a name: one to twelve letters from a to z -/
def IsName (w : Str) : Prop := 1 ≤ w.length ∧ w.length ≤ 12 ∧ ∀ c ∈ w.cps.toList, 97 ≤ c ∧ c ≤ 122
/-- the arguments that the constructors take -/
def Shape (k : Kind) (ps : List Prog) (n : Int) (ws : List Str) : Prop := match k with
  | .sleep => ps = [] ∧ 0 ≤ n ∧ n ≤ mostT ∧ ws = []
  | .fail => ps = [] ∧ n = 0 ∧ ∃ w, ws = [w] ∧ IsName w
  | .seq => ps ≠ [] ∧ n = 0 ∧ ws = []
  | .loop => (∃ p, ps = [p]) ∧ 0 ≤ n ∧ n ≤ mostT ∧ ws = []
  | .shield => (∃ p, ps = [p]) ∧ n = 0 ∧ ws = []
  | .cleanup => (∃ p q, ps = [p, q]) ∧ n = 0 ∧ ws = []
  | .fallback => (∃ p q, ps = [p, q]) ∧ n = 0 ∧ ws.length ≤ 20
  | .timeout => (∃ p, ps = [p]) ∧ 0 ≤ n ∧ n ≤ mostT ∧ ∃ w, ws = [w] ∧ IsName w
  | .moveon => (∃ p, ps = [p]) ∧ 0 ≤ n ∧ n ≤ mostT ∧ ws = []
  | .together => ps ≠ [] ∧ ps.length ≤ 20 ∧ n = 0 ∧ ws = []

def nodesOf (ps : List Prog) : Int := 1 + (ps.map Prog.nodes).sum
def depthOf (ps : List Prog) : Int := 1 + maxL (0 :: ps.map Prog.depth)

inductive WF : Prog → Prop where
  | mk {k : Kind} {ps : List Prog} {n : Int} {ws : List Str} {nd d s : Int} {b : Option Str} (sub : ∀ p ∈ ps, WF p) (sh : Shape k ps n ws) (hn : nd = nodesOf ps) (hd : d = depthOf ps) (hm : (s, b) = meas k ps n ws)
      (ln : nd ≤ 300) (ld : d ≤ 60) : WF (.mk k ps n ws nd d s b)

/-- the program of these arguments -/
def mkP (k : Kind) (ps : List Prog) (n : Int) (ws : List Str) : Prog := .mk k ps n ws (nodesOf ps) (depthOf ps) (meas k ps n ws).1 (meas k ps n ws).2
theorem mkP_wf {k : Kind} {ps : List Prog} {n : Int} {ws : List Str} (sub : ∀ p ∈ ps, WF p) (sh : Shape k ps n ws) (ln : nodesOf ps ≤ 300) (ld : depthOf ps ≤ 60) : WF (mkP k ps n ws) := .mk sub sh rfl rfl rfl ln ld

/-! ### the main guarantee -/
structure Good (p : Prog) : Prop where
  sp : 0 ≤ p.span
  lo : ∀ c, 0 ≤ c → c ≤ p.span → c ≤ endA p c
  hi : ∀ c, 0 ≤ c → endA p c ≤ p.span
  mono : ∀ c c', 0 ≤ c → c ≤ c' → endA p c ≤ endA p c'

theorem endA_late {p : Prog} {c : Int} (h : p.span ≤ c) : endA p c = p.span := by
  obtain ⟨k, ps, n, ws, nd, d, s, b⟩ := p
  unfold endA
  exact if_pos h
theorem endA_zero {p : Prog} (h : 0 ≤ p.span) : endA p 0 = 0 := by
  obtain ⟨k, ps, n, ws, nd, d, s, b⟩ := p
  unfold endA
  by_cases h' : s ≤ 0
  · rw [if_pos h']
    have h2 : 0 ≤ s := h
    omega
  · rw [if_neg h', if_pos rfl]
theorem Good.nonneg {p : Prog} (g : Good p) {c : Int} (h : 0 ≤ c) : 0 ≤ endA p c := by
  have := g.mono 0 c (Int.le_refl 0) h
  rw [endA_zero g.sp] at this
  exact this

/-- the sum of the lengths -/
def sumS (ps : List Prog) : Int := (ps.map Prog.span).sum
theorem sumS_nonneg : ∀ {ps : List Prog}, (∀ p ∈ ps, Good p) → 0 ≤ sumS ps
  | [], _ => Int.le_refl 0
  | p :: r, h => by
    have h1 := (h p List.mem_cons_self).sp
    have h2 := sumS_nonneg (ps := r) fun q hq => h q (List.mem_cons_of_mem _ hq)
    show 0 ≤ (p.span :: r.map Prog.span).sum
    rw [List.sum_cons]
    unfold sumS at h2
    omega
theorem sumS_cons (p : Prog) (r : List Prog) : sumS (p :: r) = p.span + sumS r := by
  unfold sumS
  rw [List.map_cons, List.sum_cons]

theorem endS_bounds : ∀ {ps : List Prog} {b c : Int}, (∀ p ∈ ps, Good p) → b ≤ c → endS ps b c ≤ b + sumS ps ∧ b ≤ endS ps b c ∧ (c ≤ b + sumS ps → c ≤ endS ps b c)
  | [], b, c, _, h => by
    unfold endS
    have e : sumS ([] : List Prog) = 0 := rfl
    rw [e]
    exact ⟨by omega, Int.le_refl b, fun q => by omega⟩
  | p :: r, b, c, hg, h => by
    have g := hg p List.mem_cons_self
    have hr : ∀ q ∈ r, Good q := fun q hq => hg q (List.mem_cons_of_mem _ hq)
    have sr := sumS_nonneg hr
    have sp := g.sp
    rw [sumS_cons]
    unfold endS
    by_cases q : c < b + p.span
    · rw [if_pos q]
      have h1 := g.hi (c - b) (by omega)
      have h2 := g.lo (c - b) (by omega) (by omega)
      exact ⟨by omega, by omega, fun _ => by omega⟩
    · rw [if_neg q]
      obtain ⟨i1, i2, i3⟩ := endS_bounds (ps := r) (b := b + p.span) (c := c) hr (by omega)
      exact ⟨by omega, by omega, fun z => i3 (by omega)⟩
theorem endS_mono : ∀ {ps : List Prog} {b c c' : Int}, (∀ p ∈ ps, Good p) → b ≤ c → c ≤ c' → endS ps b c ≤ endS ps b c'
  | [], b, c, c', _, _, _ => by unfold endS; exact Int.le_refl _
  | p :: r, b, c, c', hg, h, h' => by
    have g := hg p List.mem_cons_self
    have hr : ∀ q ∈ r, Good q := fun q hq => hg q (List.mem_cons_of_mem _ hq)
    unfold endS
    by_cases q : c < b + p.span
    · rw [if_pos q]
      by_cases q' : c' < b + p.span
      · rw [if_pos q']
        have := g.mono (c - b) (c' - b) (by omega) (by omega)
        omega
      · rw [if_neg q']
        have h1 := g.hi (c - b) (by omega)
        have h2 := (endS_bounds (ps := r) (b := b + p.span) (c := c') hr (by omega)).2.1
        omega
    · rw [if_neg q, if_neg (by omega)]
      exact endS_mono hr (by omega) h'

theorem seqM_bounds : ∀ {ps : List Prog} {t : Int}, (∀ p ∈ ps, Good p) → t ≤ (seqM ps t).1 ∧ (seqM ps t).1 ≤ t + sumS ps
  | [], t, _ => by
    have e : sumS ([] : List Prog) = 0 := rfl
    show t ≤ t ∧ t ≤ t + _
    rw [e]
    omega
  | p :: r, t, hg => by
    have g := hg p List.mem_cons_self
    have hr : ∀ q ∈ r, Good q := fun q hq => hg q (List.mem_cons_of_mem _ hq)
    have sr := sumS_nonneg hr
    have sp := g.sp
    rw [sumS_cons]
    unfold seqM
    cases hb : p.broken with
    | some w =>
      show t ≤ t + p.span ∧ t + p.span ≤ _
      omega
    | none =>
      have := seqM_bounds (ps := r) (t := t + p.span) hr
      show t ≤ (seqM r (t + p.span)).1 ∧ (seqM r (t + p.span)).1 ≤ _
      omega
/-- the end of a sequence after a cut below its length does not reach behind its length -/
theorem endS_le_seqM : ∀ {ps : List Prog} {b c : Int}, (∀ p ∈ ps, Good p) → b ≤ c → c < (seqM ps b).1 → endS ps b c ≤ (seqM ps b).1
  | [], b, c, _, h, q => by
    have q' : c < b := q
    omega
  | p :: r, b, c, hg, h, q => by
    have g := hg p List.mem_cons_self
    have hr : ∀ q ∈ r, Good q := fun q hq => hg q (List.mem_cons_of_mem _ hq)
    unfold seqM at q ⊢
    unfold endS
    by_cases z : c < b + p.span
    · rw [if_pos z]
      have h1 := g.hi (c - b) (by omega)
      cases hb : p.broken with
      | some w =>
        show b + endA p (c - b) ≤ b + p.span
        omega
      | none =>
        have := (seqM_bounds (ps := r) (t := b + p.span) hr).1
        show b + endA p (c - b) ≤ (seqM r (b + p.span)).1
        omega
    · rw [if_neg z]
      cases hb : p.broken with
      | some w =>
        rw [hb] at q
        have q' : c < b + p.span := q
        omega
      | none =>
        rw [hb] at q
        exact endS_le_seqM (ps := r) (b := b + p.span) (c := c) hr (by omega) q

theorem mem_endL : ∀ {ps : List Prog} {c x : Int}, x ∈ endL ps c ↔ ∃ p ∈ ps, p.span > c ∧ x = endA p c
  | [], c, x => by
    unfold endL
    exact ⟨fun h => (nomatch h), fun ⟨_, h, _⟩ => (nomatch h)⟩
  | p :: r, c, x => by
    unfold endL
    by_cases h : p.span > c
    · rw [if_pos h, List.mem_cons, mem_endL (ps := r)]
      constructor
      · rintro (e | ⟨q, h1, h2⟩)
        · exact ⟨p, List.mem_cons_self, h, e⟩
        · exact ⟨q, List.mem_cons_of_mem _ h1, h2⟩
      · rintro ⟨q, h1, h2, h3⟩
        rcases List.mem_cons.mp h1 with e | e
        · subst e
          exact .inl h3
        · exact .inr ⟨q, e, h2, h3⟩
    · rw [if_neg h, mem_endL (ps := r)]
      constructor
      · rintro ⟨q, h1, h2⟩
        exact ⟨q, List.mem_cons_of_mem _ h1, h2⟩
      · rintro ⟨q, h1, h2, h3⟩
        rcases List.mem_cons.mp h1 with e | e
        · subst e
          exact absurd h2 h
        · exact ⟨q, e, h2, h3⟩

/-- the time from which on a cut of a group changes nothing -/
theorem grp_facts {ps : List Prog} (hne : ps ≠ []) (hg : ∀ p ∈ ps, Good p) : 0 ≤ (grpM ps).1 ∧
    (∀ f, firstFail ps = some f → f.span ≤ (grpM ps).1 ∧ f.span ∈ ps.map Prog.span ∧ (grpM ps).1 = maxL (ps.map fun p => endA p f.span)) ∧
    (firstFail ps = none → (grpM ps).1 = maxL (ps.map Prog.span)) := by
  have hne' : ps.map Prog.span ≠ [] := fun e => hne (List.map_eq_nil_iff.mp e)
  cases hf : firstFail ps with
  | none =>
    have e : (grpM ps).1 = maxL (ps.map Prog.span) := by unfold grpM; rw [hf]
    refine ⟨?_, fun f h => (nomatch h), fun _ => e⟩
    rw [e]
    obtain ⟨p, hp, ep⟩ := List.mem_map.mp (maxL_mem hne')
    rw [← ep]
    exact (hg p hp).sp
  | some f =>
    have e : (grpM ps).1 = maxL (ps.map fun p => endA p f.span) := by unfold grpM; rw [hf]
    obtain ⟨h1, h2, h3⟩ := firstFail_some hf
    have hs : f.span ≤ (grpM ps).1 := by
      rw [e]
      refine Int.le_trans ?_ (le_maxL (List.mem_map.mpr ⟨f, h1, rfl⟩))
      show f.span ≤ endA f f.span
      rw [endA_late (Int.le_refl _)]
      exact Int.le_refl _
    refine ⟨Int.le_trans (hg f h1).sp hs, fun g h => ?_, fun h => nomatch h⟩
    cases h
    exact ⟨hs, List.mem_map.mpr ⟨f, h1, rfl⟩, e⟩

theorem endG_facts {ps : List Prog} {c : Int} (hne : ps ≠ []) (hg : ∀ p ∈ ps, Good p) (hc : 0 ≤ c) (h : c < (grpM ps).1) (hf : ∀ f, firstFail ps = some f → c < f.span) :
    endL ps c ≠ [] ∧ c ≤ maxL (endL ps c) ∧ maxL (endL ps c) ≤ (grpM ps).1 := by
  obtain ⟨_, g1, g2⟩ := grp_facts hne hg
  have ex : ∃ p ∈ ps, p.span > c := by
    cases q : firstFail ps with
    | some f => exact ⟨f, (firstFail_some q).1, hf f q⟩
    | none =>
      rw [g2 q] at h
      obtain ⟨p, hp, ep⟩ := List.mem_map.mp (maxL_mem (l := ps.map Prog.span) fun e => hne (List.map_eq_nil_iff.mp e))
      exact ⟨p, hp, by rw [ep]; exact h⟩
  obtain ⟨p, hp, hs⟩ := ex
  have m : endA p c ∈ endL ps c := mem_endL.mpr ⟨p, hp, hs, rfl⟩
  have ne : endL ps c ≠ [] := fun e => by rw [e] at m; cases m
  refine ⟨ne, ?_, ?_⟩
  · exact Int.le_trans ((hg p hp).lo c hc (by omega)) (le_maxL m)
  · refine maxL_le ne fun x hx => ?_
    obtain ⟨q, hq, hs', rfl⟩ := mem_endL.mp hx
    cases z : firstFail ps with
    | some f =>
      rw [(g1 f z).2.2]
      refine Int.le_trans ((hg q hq).mono c f.span hc (Int.le_of_lt (hf f z))) ?_
      exact le_maxL (List.mem_map.mpr ⟨q, hq, rfl⟩)
    | none =>
      rw [g2 z]
      exact Int.le_trans ((hg q hq).hi c hc) (le_maxL (List.mem_map.mpr ⟨q, hq, rfl⟩))

theorem endG_mono {ps : List Prog} {c c' : Int} (hg : ∀ p ∈ ps, Good p) (hc : 0 ≤ c) (h : c ≤ c') (ne : endL ps c ≠ []) (ne' : endL ps c' ≠ []) (hs : c' ≤ maxL (endL ps c')) : maxL (endL ps c) ≤ maxL (endL ps c') := by
  refine maxL_le ne fun x hx => ?_
  obtain ⟨q, hq, hs', rfl⟩ := mem_endL.mp hx
  by_cases z : q.span > c'
  · exact Int.le_trans ((hg q hq).mono c c' hc h) (le_maxL (mem_endL.mpr ⟨q, hq, z, rfl⟩))
  · have := (hg q hq).hi c hc
    omega

theorem meas_of {k : Kind} {ps : List Prog} {n : Int} {ws : List Str} {s : Int} {b : Option Str} (h : (s, b) = meas k ps n ws) : s = (meas k ps n ws).1 ∧ b = (meas k ps n ws).2 := by
  rw [← h]
  exact ⟨rfl, rfl⟩

/-- from an end for the cuts between 0 and the length to all cuts -/
theorem good_of {p : Prog} (f : Int → Int) (sp : 0 ≤ p.span) (he : ∀ c, 0 < c → c < p.span → endA p c = f c) (lo : ∀ c, 0 < c → c < p.span → c ≤ f c) (hi : ∀ c, 0 < c → c < p.span → f c ≤ p.span)
    (mono : ∀ c c', 0 < c → c ≤ c' → c' < p.span → f c ≤ f c') : Good p := by
  have z := endA_zero sp
  refine ⟨sp, fun c h0 h1 => ?_, fun c h0 => ?_, fun c c' h0 h1 => ?_⟩
  · by_cases e : c = 0
    · subst e
      rw [z]
      exact Int.le_refl 0
    · by_cases l : c < p.span
      · rw [he c (by omega) l]
        exact lo c (by omega) l
      · rw [endA_late (by omega)]
        exact h1
  · by_cases e : c = 0
    · subst e
      rw [z]
      exact sp
    · by_cases l : c < p.span
      · rw [he c (by omega) l]
        exact hi c (by omega) l
      · rw [endA_late (by omega)]
        exact Int.le_refl _
  · by_cases e : c = 0
    · subst e
      rw [z]
      by_cases e' : c' = 0
      · subst e'
        rw [z]
        exact Int.le_refl 0
      · by_cases l : c' < p.span
        · rw [he c' (by omega) l]
          exact Int.le_trans h1 (lo c' (by omega) l)
        · rw [endA_late (by omega)]
          exact sp
    · by_cases l' : c' < p.span
      · rw [he c (by omega) (by omega), he c' (by omega) l']
        exact mono c c' (by omega) h1 l'
      · rw [endA_late (p := p) (c := c') (by omega)]
        by_cases l : c < p.span
        · rw [he c (by omega) l]
          exact hi c (by omega) l
        · rw [endA_late (by omega)]
          exact Int.le_refl _
theorem mid {k : Kind} {ps : List Prog} {n : Int} {ws : List Str} {nd d s : Int} {b : Option Str} {c : Int} (h0 : 0 < c) (h1 : c < s) {X : Int} (h : (match k with
    | .sleep => c
    | .seq => endS ps 0 c
    | .fallback => endS ps 0 c
    | .loop =>
      let r := if spanAt ps 0 = 0 then 0 else min (c / spanAt ps 0) (n - 1)
      r * spanAt ps 0 + endH ps (c - r * spanAt ps 0)
    | .shield => s
    | .cleanup => min (endH ps c + spanAt ps 1) s
    | .together => (match firstFail ps with
      | some f => if f.span ≤ c then s else maxL (endL ps c)
      | none => maxL (endL ps c))
    | .fail => if n ≤ c then s else endH ps c
    | .timeout => if n ≤ c then s else endH ps c
    | .moveon => if n ≤ c then s else endH ps c) = X) : endA (.mk k ps n ws nd d s b) c = X := by
  unfold endA
  rw [if_neg (by omega), if_neg (by omega)]
  exact h

theorem hd_facts {p : Prog} : spanAt [p] 0 = p.span ∧ brokenAt [p] 0 = p.broken ∧ ∀ c, endH [p] c = endA p c := ⟨rfl, rfl, fun c => by unfold endH; rfl⟩
theorem two_facts {p q : Prog} : spanAt [p, q] 0 = p.span ∧ spanAt [p, q] 1 = q.span ∧ brokenAt [p, q] 0 = p.broken ∧ brokenAt [p, q] 1 = q.broken ∧ ∀ c, endH [p, q] c = endA p c := ⟨rfl, rfl, rfl, rfl, fun c => by unfold endH; rfl⟩

/-- the round of a loop in which a cut comes -/
theorem round_facts {c S : Int} (hS : 0 < S) (h : 0 ≤ c) : 0 ≤ c / S ∧ c / S * S ≤ c ∧ c < c / S * S + S := by
  have e := Int.mul_ediv_add_emod c S
  have h1 := Int.emod_nonneg c (show S ≠ 0 by omega)
  have h2 := Int.emod_lt_of_pos c hS
  have h3 : 0 ≤ c / S := Int.ediv_nonneg h (by omega)
  rw [Int.mul_comm] at e
  exact ⟨h3, by omega, by omega⟩
theorem loop_span {n S s : Int} {bn : Bool} (hn : 0 ≤ n) (hS : 0 ≤ S) (h : s = if n = 0 then 0 else S * (if bn = true then n else 1)) : 0 ≤ s ∧ (∀ c, 0 < c → c < s → 0 < S ∧ min (c / S) (n - 1) = c / S ∧ c / S * S + S ≤ s) := by
  by_cases hz : n = 0
  · rw [if_pos hz] at h
    exact ⟨by omega, fun c h0 h1 => by omega⟩
  · rw [if_neg hz] at h
    cases bn with
    | false =>
      have h' : s = S := by rw [h]; simp
      refine ⟨by omega, fun c h0 h1 => ?_⟩
      have e : c / S = 0 := Int.ediv_eq_zero_of_lt (by omega) (by omega)
      rw [e]
      exact ⟨by omega, by omega, by omega⟩
    | true =>
      have h' : s = S * n := by rw [h]; simp
      have p : 0 ≤ S * n := Int.mul_nonneg hS hn
      refine ⟨by omega, fun c h0 h1 => ?_⟩
      have hS' : 0 < S := by
        rcases Int.lt_or_eq_of_le hS with q | q
        · exact q
        · rw [← q, Int.zero_mul] at h'
          omega
      have hr : c / S < n := Int.ediv_lt_of_lt_mul hS' (by rw [Int.mul_comm]; omega)
      refine ⟨hS', by omega, ?_⟩
      have q : (c / S + 1) * S ≤ n * S := Int.mul_le_mul_of_nonneg_right (by omega) hS
      rw [Int.add_mul, Int.one_mul, Int.mul_comm n S] at q
      omega

theorem wf_good {p : Prog} (h : WF p) : Good p := by
  induction h with
  | @mk k ps n ws nd d s b sub sh hn hd hm ln ld ih =>
    have es := (meas_of hm).1
    clear hm hn hd ln ld
    cases k with
    | sleep =>
      obtain ⟨_, h1, _, _⟩ := sh
      have es' : s = n := es
      exact good_of (fun c => c) (by show 0 ≤ s; omega) (fun c h0 h1 => mid h0 h1 rfl) (fun c _ _ => Int.le_refl c) (fun c _ h => Int.le_of_lt h) (fun c c' _ h _ => h)
    | fail =>
      have es' : s = 0 := es
      exact good_of (fun c => c) (by show 0 ≤ s; omega) (fun c h0 (h1 : c < s) => by omega) (fun c _ _ => Int.le_refl c) (fun c _ h => Int.le_of_lt h) (fun c c' _ h _ => h)
    | seq =>
      have es' : s = (seqM ps 0).1 := es
      have sb := seqM_bounds (t := 0) ih
      refine good_of (fun c => endS ps 0 c) (by show 0 ≤ s; omega) (fun c h0 h1 => mid h0 h1 rfl) (fun c h0 (h1 : c < s) => (endS_bounds ih (by omega)).2.2 (by omega)) (fun c h0 (h1 : c < s) => ?_) (fun c c' h0 h _ => endS_mono ih (by omega) h)
      show endS ps 0 c ≤ s
      rw [es']
      exact endS_le_seqM ih (by omega) (by omega)
    | loop =>
      obtain ⟨⟨p, rfl⟩, h0, _, _⟩ := sh
      have g := ih p List.mem_cons_self
      have es' : s = if n = 0 then 0 else p.span * (if p.broken.isNone = true then n else 1) := by
        have e : s = (if n = 0 then ((0 : Int), (none : Option Str)) else (p.span * (if p.broken = none then n else 1), p.broken)).1 := es
        rw [e]
        by_cases hz : n = 0
        · rw [if_pos hz, if_pos hz]
        · rw [if_neg hz, if_neg hz]
          cases hb : p.broken with
          | none => rfl
          | some w => rfl
      obtain ⟨s0, hc⟩ := loop_span (S := p.span) h0 g.sp es'
      have key : ∀ c, 0 < c → c < s → endA (.mk .loop [p] n ws nd d s b) c = c / p.span * p.span + endA p (c - c / p.span * p.span) := fun c c0 c1 => by
        obtain ⟨z1, z2, _⟩ := hc c c0 c1
        refine mid c0 c1 ?_
        have e1 : spanAt [p] 0 = p.span := rfl
        rw [e1, if_neg (show ¬ p.span = 0 by omega), z2]
        unfold endH
        rfl
      refine good_of (fun c => c / p.span * p.span + endA p (c - c / p.span * p.span)) s0 (fun c c0 (c1 : c < s) => ?_) (fun c c0 (c1 : c < s) => ?_) (fun c c0 (c1 : c < s) => ?_) (fun c c' c0 cc (c1 : c' < s) => ?_)
      · exact key c c0 c1
      · obtain ⟨z1, _, _⟩ := hc c c0 c1
        obtain ⟨r0, r1, r2⟩ := round_facts z1 (show 0 ≤ c by omega)
        have := g.lo (c - c / p.span * p.span) (by omega) (by omega)
        show c ≤ c / p.span * p.span + endA p (c - c / p.span * p.span)
        omega
      · obtain ⟨z1, _, z3⟩ := hc c c0 c1
        obtain ⟨r0, r1, r2⟩ := round_facts z1 (show 0 ≤ c by omega)
        have := g.hi (c - c / p.span * p.span) (by omega)
        show c / p.span * p.span + endA p (c - c / p.span * p.span) ≤ s
        omega
      · obtain ⟨z1, _, _⟩ := hc c c0 (by omega)
        obtain ⟨r0, r1, r2⟩ := round_facts z1 (show 0 ≤ c by omega)
        obtain ⟨q0, q1, q2⟩ := round_facts z1 (show 0 ≤ c' by omega)
        show c / p.span * p.span + endA p (c - c / p.span * p.span) ≤ c' / p.span * p.span + endA p (c' - c' / p.span * p.span)
        by_cases e : c / p.span = c' / p.span
        · rw [e]
          rw [e] at r1 r2
          have := g.mono (c - c' / p.span * p.span) (c' - c' / p.span * p.span) (by omega) (by omega)
          omega
        · have l : c / p.span ≤ c' / p.span := Int.ediv_le_ediv z1 cc
          have m : (c / p.span + 1) * p.span ≤ c' / p.span * p.span := Int.mul_le_mul_of_nonneg_right (by omega) g.sp
          rw [Int.add_mul, Int.one_mul] at m
          have h1 := g.hi (c - c / p.span * p.span) (by omega)
          have h2 := g.nonneg (c := c' - c' / p.span * p.span) (by omega)
          omega
    | shield =>
      obtain ⟨⟨p, rfl⟩, _, _⟩ := sh
      have g := ih p List.mem_cons_self
      have es' : s = p.span := es
      exact good_of (fun c => s) (by show 0 ≤ s; rw [es']; exact g.sp) (fun c h0 h1 => mid h0 h1 rfl) (fun c _ h => Int.le_of_lt h) (fun c _ _ => Int.le_refl s) (fun c c' _ _ _ => Int.le_refl s)
    | cleanup =>
      obtain ⟨⟨p, q, rfl⟩, _, _⟩ := sh
      have g := ih p List.mem_cons_self
      have g2 := ih q (List.mem_cons_of_mem _ List.mem_cons_self)
      have es' : s = p.span + q.span := es
      have sp := g.sp
      have sq := g2.sp
      refine good_of (fun c => min (endA p c + q.span) s) (by show 0 ≤ s; omega) (fun c h0 h1 => mid h0 h1 (by unfold endH; rfl)) (fun c h0 (h1 : c < s) => ?_) (fun c _ _ => Int.min_le_right _ _) (fun c c' h0 h _ => ?_)
      · show c ≤ min (endA p c + q.span) s
        by_cases l : c ≤ p.span
        · have := g.lo c (by omega) l
          omega
        · rw [endA_late (by omega)]
          omega
      · show min (endA p c + q.span) s ≤ min (endA p c' + q.span) s
        have := g.mono c c' (by omega) h
        omega
    | fallback =>
      obtain ⟨⟨p, q, rfl⟩, _, _⟩ := sh
      have g := ih p List.mem_cons_self
      have g2 := ih q (List.mem_cons_of_mem _ List.mem_cons_self)
      have sp := g.sp
      have sq := g2.sp
      have su : sumS [p, q] = p.span + (q.span + 0) := by rw [sumS_cons, sumS_cons] <;> rfl
      have es' : s = p.span + q.span ∨ s = p.span := by
        have e : s = ((match p.broken with
          | some w => if w ∈ ws then (p.span + q.span, q.broken) else (p.span, some w)
          | none => (p.span, none)) : Int × Option Str).1 := es
        cases hb : p.broken with
        | none =>
          rw [hb] at e
          exact .inr e
        | some w =>
          rw [hb] at e
          by_cases hw : w ∈ ws
          · rw [show ((match (some w : Option Str) with
              | some w => if w ∈ ws then (p.span + q.span, q.broken) else (p.span, some w)
              | none => (p.span, none)) : Int × Option Str) = if w ∈ ws then (p.span + q.span, q.broken) else (p.span, some w) from rfl, if_pos hw] at e
            exact .inl e
          · rw [show ((match (some w : Option Str) with
              | some w => if w ∈ ws then (p.span + q.span, q.broken) else (p.span, some w)
              | none => (p.span, none)) : Int × Option Str) = if w ∈ ws then (p.span + q.span, q.broken) else (p.span, some w) from rfl, if_neg hw] at e
            exact .inr e
      refine good_of (fun c => endS [p, q] 0 c) (by show 0 ≤ s; omega) (fun c h0 h1 => mid h0 h1 rfl) (fun c h0 (h1 : c < s) => (endS_bounds ih (by omega)).2.2 (by omega)) (fun c h0 (h1 : c < s) => ?_) (fun c c' h0 h _ => endS_mono ih (by omega) h)
      show endS [p, q] 0 c ≤ s
      rcases es' with e | e
      · have := (endS_bounds (b := 0) (c := c) ih (by omega)).1
        omega
      · unfold endS
        rw [if_pos (by omega)]
        have := g.hi (c - 0) (by omega)
        omega
    | together =>
      obtain ⟨hne, _, _, _⟩ := sh
      have es' : s = (grpM ps).1 := es
      obtain ⟨z0, z1, z2⟩ := grp_facts hne ih
      have key : ∀ c, 0 < c → c < s → ∀ nd d, endA (.mk .together ps n ws nd d s b) c = (match firstFail ps with
        | some f => if f.span ≤ c then s else maxL (endL ps c)
        | none => maxL (endL ps c)) := fun c c0 c1 nd d => mid c0 c1 rfl
      refine good_of (fun c => match firstFail ps with
        | some f => if f.span ≤ c then s else maxL (endL ps c)
        | none => maxL (endL ps c)) (by show 0 ≤ s; omega) (fun c h0 h1 => key c h0 h1 _ _) (fun c h0 (h1 : c < s) => ?_) (fun c h0 (h1 : c < s) => ?_) (fun c c' h0 hcc (h1 : c' < s) => ?_)
      · show c ≤ (match firstFail ps with
          | some f => if f.span ≤ c then s else maxL (endL ps c)
          | none => maxL (endL ps c))
        cases hf : firstFail ps with
        | none =>
          exact (endG_facts hne ih (by omega) (by omega) (fun f h => by rw [hf] at h; cases h)).2.1
        | some f =>
          show c ≤ if f.span ≤ c then s else maxL (endL ps c)
          by_cases q : f.span ≤ c
          · rw [if_pos q]
            omega
          · rw [if_neg q]
            exact (endG_facts hne ih (by omega) (by omega) (fun f' h => by rw [hf] at h; cases h; omega)).2.1
      · show (match firstFail ps with
          | some f => if f.span ≤ c then s else maxL (endL ps c)
          | none => maxL (endL ps c)) ≤ s
        cases hf : firstFail ps with
        | none =>
          rw [es']
          exact (endG_facts hne ih (by omega) (by omega) (fun f h => by rw [hf] at h; cases h)).2.2
        | some f =>
          show (if f.span ≤ c then s else maxL (endL ps c)) ≤ s
          by_cases q : f.span ≤ c
          · rw [if_pos q]
            exact Int.le_refl s
          · rw [if_neg q, es']
            exact (endG_facts hne ih (by omega) (by omega) (fun f' h => by rw [hf] at h; cases h; omega)).2.2
      · show (match firstFail ps with
          | some f => if f.span ≤ c then s else maxL (endL ps c)
          | none => maxL (endL ps c)) ≤ (match firstFail ps with
          | some f => if f.span ≤ c' then s else maxL (endL ps c')
          | none => maxL (endL ps c'))
        cases hf : firstFail ps with
        | none =>
          have a := endG_facts (c := c) hne ih (by omega) (by omega) (fun f h => by rw [hf] at h; cases h)
          have b := endG_facts (c := c') hne ih (by omega) (by omega) (fun f h => by rw [hf] at h; cases h)
          exact endG_mono ih (by omega) hcc a.1 b.1 b.2.1
        | some f =>
          show (if f.span ≤ c then s else maxL (endL ps c)) ≤ (if f.span ≤ c' then s else maxL (endL ps c'))
          by_cases q : f.span ≤ c
          · rw [if_pos q, if_pos (by omega)]
            exact Int.le_refl s
          · rw [if_neg q]
            have a := endG_facts (c := c) hne ih (by omega) (by omega) (fun f' h => by rw [hf] at h; cases h; omega)
            by_cases q' : f.span ≤ c'
            · rw [if_pos q', es']
              exact a.2.2
            · rw [if_neg q']
              have b := endG_facts (c := c') hne ih (by omega) (by omega) (fun f' h => by rw [hf] at h; cases h; omega)
              exact endG_mono ih (by omega) hcc a.1 b.1 b.2.1
    | timeout =>
      obtain ⟨⟨p, rfl⟩, n0, _, _⟩ := sh
      have g := ih p List.mem_cons_self
      have sp := g.sp
      have es' : s = if n < p.span then endA p n else p.span := by
        have e : s = (if n < p.span then (endH [p] n, ws.head?) else (p.span, p.broken)).1 := es
        rw [e]
        by_cases z : n < p.span
        · rw [if_pos z, if_pos z]
          unfold endH
          rfl
        · rw [if_neg z, if_neg z]
      have hs : s ≤ p.span ∧ 0 ≤ s ∧ (∀ c, 0 ≤ c → c < n → endA p c ≤ s) := by
        by_cases z : n < p.span
        · rw [if_pos z] at es'
          rw [es']
          exact ⟨g.hi n n0, g.nonneg n0, fun c c0 c1 => g.mono c n c0 (by omega)⟩
        · rw [if_neg z] at es'
          rw [es']
          exact ⟨Int.le_refl _, sp, fun c c0 _ => g.hi c c0⟩
      refine good_of (fun c => if n ≤ c then s else endA p c) hs.2.1 (fun c h0 h1 => mid h0 h1 (by unfold endH; rfl)) (fun c h0 (h1 : c < s) => ?_) (fun c h0 (h1 : c < s) => ?_) (fun c c' h0 hcc (h1 : c' < s) => ?_)
      · show c ≤ if n ≤ c then s else endA p c
        by_cases z : n ≤ c
        · rw [if_pos z]
          omega
        · rw [if_neg z]
          exact g.lo c (by omega) (by omega)
      · show (if n ≤ c then s else endA p c) ≤ s
        by_cases z : n ≤ c
        · rw [if_pos z]
          exact Int.le_refl s
        · rw [if_neg z]
          exact hs.2.2 c (by omega) (by omega)
      · show (if n ≤ c then s else endA p c) ≤ (if n ≤ c' then s else endA p c')
        by_cases z : n ≤ c
        · rw [if_pos z, if_pos (by omega)]
          exact Int.le_refl s
        · rw [if_neg z]
          by_cases z' : n ≤ c'
          · rw [if_pos z']
            exact hs.2.2 c (by omega) (by omega)
          · rw [if_neg z']
            exact g.mono c c' (by omega) hcc
    | moveon =>
      obtain ⟨⟨p, rfl⟩, n0, _, _⟩ := sh
      have g := ih p List.mem_cons_self
      have sp := g.sp
      have es' : s = if n < p.span then endA p n else p.span := by
        have e : s = (if n < p.span then (endH [p] n, ws.head?) else (p.span, p.broken)).1 := es
        rw [e]
        by_cases z : n < p.span
        · rw [if_pos z, if_pos z]
          unfold endH
          rfl
        · rw [if_neg z, if_neg z]
      have hs : s ≤ p.span ∧ 0 ≤ s ∧ (∀ c, 0 ≤ c → c < n → endA p c ≤ s) := by
        by_cases z : n < p.span
        · rw [if_pos z] at es'
          rw [es']
          exact ⟨g.hi n n0, g.nonneg n0, fun c c0 c1 => g.mono c n c0 (by omega)⟩
        · rw [if_neg z] at es'
          rw [es']
          exact ⟨Int.le_refl _, sp, fun c c0 _ => g.hi c c0⟩
      refine good_of (fun c => if n ≤ c then s else endA p c) hs.2.1 (fun c h0 h1 => mid h0 h1 (by unfold endH; rfl)) (fun c h0 (h1 : c < s) => ?_) (fun c h0 (h1 : c < s) => ?_) (fun c c' h0 hcc (h1 : c' < s) => ?_)
      · show c ≤ if n ≤ c then s else endA p c
        by_cases z : n ≤ c
        · rw [if_pos z]
          omega
        · rw [if_neg z]
          exact g.lo c (by omega) (by omega)
      · show (if n ≤ c then s else endA p c) ≤ s
        by_cases z : n ≤ c
        · rw [if_pos z]
          exact Int.le_refl s
        · rw [if_neg z]
          exact hs.2.2 c (by omega) (by omega)
      · show (if n ≤ c then s else endA p c) ≤ (if n ≤ c' then s else endA p c')
        by_cases z : n ≤ c
        · rw [if_pos z, if_pos (by omega)]
          exact Int.le_refl s
        · rw [if_neg z]
          by_cases z' : n ≤ c'
          · rw [if_pos z']
            exact hs.2.2 c (by omega) (by omega)
          · rw [if_neg z']
            exact g.mono c c' (by omega) hcc

/-! ### sizes -/
theorem depth_child {ps : List Prog} {q : Prog} (h : q ∈ ps) : q.depth + 1 ≤ depthOf ps := by
  have := le_maxL (l := 0 :: ps.map Prog.depth) (List.mem_cons_of_mem _ (List.mem_map.mpr ⟨q, h, rfl⟩))
  unfold depthOf
  omega
theorem depthOf_pos (ps : List Prog) : 1 ≤ depthOf ps := by
  have := le_maxL (l := 0 :: ps.map Prog.depth) List.mem_cons_self
  unfold depthOf
  omega
theorem WF.sub {p q : Prog} (h : WF p) (hq : q ∈ p.parts) : WF q := by
  cases h with
  | mk sub _ _ _ _ _ _ => exact sub q hq
theorem WF.depth_pos {p : Prog} (h : WF p) : 1 ≤ p.depth := by
  cases h with
  | @mk k ps n ws nd d s b sub sh hn hd hm ln ld =>
    show 1 ≤ d
    rw [hd]
    exact depthOf_pos ps
theorem WF.depth_le {p : Prog} (h : WF p) : p.depth ≤ 60 := by
  cases h with
  | mk _ _ _ _ _ _ ld => exact ld
theorem WF.nodes_le {p : Prog} (h : WF p) : p.nodes ≤ 300 := by
  cases h with
  | mk _ _ _ _ _ ln _ => exact ln
theorem WF.depth_sub {p q : Prog} (h : WF p) (hq : q ∈ p.parts) : q.depth + 1 ≤ p.depth := by
  cases h with
  | @mk k ps n ws nd d s b sub sh hn hd hm ln ld =>
    show q.depth + 1 ≤ d
    rw [hd]
    exact depth_child hq
theorem WF.shape {p : Prog} (h : WF p) : Shape p.kind p.parts p.number p.words := by
  cases h with
  | mk _ sh _ _ _ _ _ => exact sh
theorem sum_nonneg : ∀ {l : List Int}, (∀ x ∈ l, 0 ≤ x) → 0 ≤ l.sum
  | [], _ => Int.le_refl 0
  | x :: r, h => by
    have h1 := h x List.mem_cons_self
    have h2 := sum_nonneg (l := r) fun y hy => h y (List.mem_cons_of_mem _ hy)
    rw [List.sum_cons]
    omega
theorem WF.nodes_pos {p : Prog} (h : WF p) : 1 ≤ p.nodes := by
  induction h with
  | @mk k ps n ws nd d s b sub sh hn hd hm ln ld ih =>
    show 1 ≤ nd
    rw [hn]
    unfold nodesOf
    have := sum_nonneg (l := ps.map Prog.nodes) fun x hx => by
      obtain ⟨q, hq, rfl⟩ := List.mem_map.mp hx
      have := ih q hq
      omega
    omega
theorem le_sum_of_mem : ∀ {l : List Int} {x : Int}, (∀ y ∈ l, 0 ≤ y) → x ∈ l → x ≤ l.sum
  | y :: r, x, h, hx => by
    rw [List.sum_cons]
    have h1 := h y List.mem_cons_self
    have h2 := sum_nonneg (l := r) fun z hz => h z (List.mem_cons_of_mem _ hz)
    rcases List.mem_cons.mp hx with e | e
    · subst e
      omega
    · have := le_sum_of_mem (l := r) (fun z hz => h z (List.mem_cons_of_mem _ hz)) e
      omega
theorem nodes_child {ps : List Prog} {q : Prog} (hw : ∀ p ∈ ps, WF p) (h : q ∈ ps) : q.nodes + 1 ≤ nodesOf ps := by
  have := le_sum_of_mem (l := ps.map Prog.nodes) (x := q.nodes) (fun x hx => by
    obtain ⟨p, hp, rfl⟩ := List.mem_map.mp hx
    have := (hw p hp).nodes_pos
    omega) (List.mem_map.mpr ⟨q, h, rfl⟩)
  unfold nodesOf
  omega
/-- how great a length may be at a depth -/
def tenP (n : Nat) : Int := 10 ^ (30 * n)
theorem tenP_pos (n : Nat) : 0 < tenP n := Int.pow_pos (by decide)
theorem tenP_succ (n : Nat) : tenP (n + 1) = mostT * tenP n := by
  unfold tenP mostT
  rw [Nat.mul_add, Int.pow_add, Int.mul_comm] <;> rfl
theorem tenP_mono {n m : Nat} (h : n ≤ m) : tenP n ≤ tenP m := by
  induction h with
  | refl => exact Int.le_refl _
  | @step m _ ih =>
    rw [tenP_succ]
    refine Int.le_trans ih ?_
    have h1 := Int.mul_le_mul_of_nonneg_right (show (1 : Int) ≤ mostT by decide) (Int.le_of_lt (tenP_pos m))
    rw [Int.one_mul] at h1
    exact h1
theorem sumS_bound : ∀ {ps : List Prog} {M : Int}, (∀ q ∈ ps, q.span ≤ q.nodes * M) → sumS ps ≤ (ps.map Prog.nodes).sum * M
  | [], M, _ => by
    show (0 : Int) ≤ 0 * M
    rw [Int.zero_mul]
    exact Int.le_refl 0
  | p :: r, M, h => by
    have h1 := h p List.mem_cons_self
    have h2 := sumS_bound (ps := r) (M := M) fun q hq => h q (List.mem_cons_of_mem _ hq)
    rw [sumS_cons, List.map_cons, List.sum_cons, Int.add_mul]
    omega
theorem span_bound {p : Prog} (h : WF p) : p.span ≤ p.nodes * tenP p.depth.toNat := by
  have hg := wf_good h
  induction h with
  | @mk k ps n ws nd d s b sub sh hn hd hm ln ld ih =>
    have es := (meas_of hm).1
    have gs : ∀ q ∈ ps, Good q := fun q hq => wf_good (sub q hq)
    have dp := depthOf_pos ps
    have ed : d.toNat = (d.toNat - 1) + 1 := by omega
    have hM : ∀ q ∈ ps, q.span ≤ q.nodes * tenP (d.toNat - 1) := fun q hq => by
      have h1 := ih q hq (gs q hq)
      have h2 := depth_child hq
      have h3 := (sub q hq).nodes_pos
      have h4 : tenP q.depth.toNat ≤ tenP (d.toNat - 1) := tenP_mono (by omega)
      exact Int.le_trans h1 (Int.mul_le_mul_of_nonneg_left h4 (by omega))
    have hnn : ∀ x ∈ ps.map Prog.nodes, 0 ≤ x := fun x hx => by
      obtain ⟨q, hq, rfl⟩ := List.mem_map.mp hx
      have := (sub q hq).nodes_pos
      omega
    have s0 := sum_nonneg hnn
    have M0 := tenP_pos (d.toNat - 1)
    have T0 : tenP d.toNat = mostT * tenP (d.toNat - 1) := by rw [ed, tenP_succ]; congr 1
    have MT : tenP (d.toNat - 1) ≤ tenP d.toNat := tenP_mono (by omega)
    have nd1 : nd = 1 + (ps.map Prog.nodes).sum := hn
    have base : (ps.map Prog.nodes).sum * tenP (d.toNat - 1) ≤ nd * tenP d.toNat := by
      refine Int.le_trans (Int.mul_le_mul_of_nonneg_left MT s0) (Int.mul_le_mul_of_nonneg_right (by omega) (by omega))
    have sums : sumS ps ≤ nd * tenP d.toNat := Int.le_trans (sumS_bound hM) base
    have each : ∀ q ∈ ps, q.span ≤ nd * tenP d.toNat := fun q hq => by
      have h1 := hM q hq
      have h2 : q.nodes ≤ (ps.map Prog.nodes).sum := le_sum_of_mem hnn (List.mem_map.mpr ⟨q, hq, rfl⟩)
      exact Int.le_trans h1 (Int.le_trans (Int.mul_le_mul_of_nonneg_right h2 (by omega)) base)
    have zero : (0 : Int) ≤ nd * tenP d.toNat := Int.mul_nonneg (by omega) (by omega)
    show s ≤ nd * tenP d.toNat
    cases k with
    | sleep =>
      obtain ⟨rfl, h1, h2, _⟩ := sh
      have es' : s = n := es
      have e1 : nd = 1 := nd1
      have e2 : d = 1 := hd
      rw [e1, e2, es', Int.one_mul]
      exact h2
    | fail =>
      have es' : s = 0 := es
      rw [es']
      exact zero
    | seq =>
      have es' : s = (seqM ps 0).1 := es
      have := (seqM_bounds (t := 0) gs).2
      omega
    | loop =>
      obtain ⟨⟨p, rfl⟩, h0, h1, _⟩ := sh
      have hp := hM p List.mem_cons_self
      have es' : s = (if n = 0 then ((0 : Int), (none : Option Str)) else (p.span * (if p.broken = none then n else 1), p.broken)).1 := es
      by_cases hz : n = 0
      · rw [if_pos hz] at es'
        rw [es']
        exact zero
      · rw [if_neg hz] at es'
        have hk : p.span * (if p.broken = none then n else 1) ≤ p.span * mostT := by
          refine Int.mul_le_mul_of_nonneg_left ?_ (gs p List.mem_cons_self).sp
          split
          · exact h1
          · decide
        have hk2 : p.span * mostT ≤ p.nodes * tenP (d.toNat - 1) * mostT := Int.mul_le_mul_of_nonneg_right hp (by decide)
        have e1 : p.nodes * tenP (d.toNat - 1) * mostT = p.nodes * tenP d.toNat := by rw [T0, Int.mul_assoc, Int.mul_comm (tenP (d.toNat - 1)) mostT]
        have hk3 : p.nodes * tenP d.toNat ≤ nd * tenP d.toNat := Int.mul_le_mul_of_nonneg_right (by
          have e : (([p] : List Prog).map Prog.nodes).sum = p.nodes := by simp
          omega) (by omega)
        rw [es']
        show p.span * (if p.broken = none then n else 1) ≤ _
        omega
    | shield =>
      obtain ⟨⟨p, rfl⟩, _, _⟩ := sh
      have es' : s = p.span := es
      rw [es']
      exact each p List.mem_cons_self
    | cleanup =>
      obtain ⟨⟨p, q, rfl⟩, _, _⟩ := sh
      have es' : s = p.span + q.span := es
      have su : sumS [p, q] = p.span + (q.span + 0) := by rw [sumS_cons, sumS_cons] <;> rfl
      omega
    | fallback =>
      obtain ⟨⟨p, q, rfl⟩, _, _⟩ := sh
      have su : sumS [p, q] = p.span + (q.span + 0) := by rw [sumS_cons, sumS_cons] <;> rfl
      have sq := (gs q (List.mem_cons_of_mem _ List.mem_cons_self)).sp
      have e : s = ((match p.broken with
          | some w => if w ∈ ws then (p.span + q.span, q.broken) else (p.span, some w)
          | none => (p.span, none)) : Int × Option Str).1 := es
      cases hb : p.broken with
      | none =>
        rw [hb] at e
        have e' : s = p.span := e
        omega
      | some w =>
        rw [hb] at e
        have e' : s = (if w ∈ ws then (p.span + q.span, q.broken) else (p.span, some w)).1 := e
        by_cases hw : w ∈ ws
        · rw [if_pos hw] at e'
          have e2 : s = p.span + q.span := e'
          omega
        · rw [if_neg hw] at e'
          have e2 : s = p.span := e'
          omega
    | together =>
      obtain ⟨hne, _, _, _⟩ := sh
      have es' : s = (grpM ps).1 := es
      obtain ⟨z0, z1, z2⟩ := grp_facts hne gs
      cases hf : firstFail ps with
      | none =>
        rw [es', z2 hf]
        refine maxL_le (fun e => hne (List.map_eq_nil_iff.mp e)) fun x hx => ?_
        obtain ⟨q, hq, rfl⟩ := List.mem_map.mp hx
        exact each q hq
      | some f =>
        rw [es', (z1 f hf).2.2]
        refine maxL_le (fun e => hne (List.map_eq_nil_iff.mp e)) fun x hx => ?_
        obtain ⟨q, hq, rfl⟩ := List.mem_map.mp hx
        exact Int.le_trans ((gs q hq).hi _ (gs f (firstFail_some hf).1).sp) (each q hq)
    | timeout =>
      obtain ⟨⟨p, rfl⟩, n0, _, _⟩ := sh
      have e : s = (if n < p.span then (endH [p] n, ws.head?) else (p.span, p.broken)).1 := es
      have ep := each p List.mem_cons_self
      by_cases z : n < p.span
      · rw [if_pos z] at e
        have e' : s = endA p n := by rw [e]; unfold endH; rfl
        have := (gs p List.mem_cons_self).hi n n0
        omega
      · rw [if_neg z] at e
        have e' : s = p.span := e
        omega
    | moveon =>
      obtain ⟨⟨p, rfl⟩, n0, _, _⟩ := sh
      have e : s = (if n < p.span then (endH [p] n, ws.head?) else (p.span, p.broken)).1 := es
      have ep := each p List.mem_cons_self
      by_cases z : n < p.span
      · rw [if_pos z] at e
        have e' : s = endA p n := by rw [e]; unfold endH; rfl
        have := (gs p List.mem_cons_self).hi n n0
        omega
      · rw [if_neg z] at e
        have e' : s = p.span := e
        omega
theorem span_lt {p : Prog} (h : WF p) : p.span < 300 * tenP 60 + 1 := by
  have h1 := span_bound h
  have h2 := h.nodes_le
  have h3 := h.depth_le
  have h4 := h.nodes_pos
  have h5 : tenP p.depth.toNat ≤ tenP 60 := tenP_mono (by omega)
  have h6 : p.nodes * tenP p.depth.toNat ≤ 300 * tenP 60 := Int.le_trans (Int.mul_le_mul_of_nonneg_left h5 (by omega)) (Int.mul_le_mul_of_nonneg_right h2 (Int.le_of_lt (tenP_pos 60)))
  omega
theorem big_lt : (300 * tenP 60 + 1).natAbs < 2 ^ 6000 := by decide +kernel
theorem span_bits {p : Prog} (h : WF p) : p.span.natAbs < 2 ^ 6000 := by
  have h1 := span_lt h
  have h2 := (wf_good h).sp
  have h3 := big_lt
  generalize 300 * tenP 60 + 1 = B at *
  omega

/-! ### the end, kind by kind -/
theorem Kind.s_eq {k k' : Kind} : decide (k.s = k'.s) = decide (k = k') := by
  cases k <;> cases k' <;> decide
section
variable {p : Prog} {c : Int}
theorem endA_sleep (hk : p.kind = .sleep) (h0 : 0 < c) (h1 : c < p.span) : endA p c = c := by
  obtain ⟨k, ps, n, ws, nd, d, s, b⟩ := p
  cases (show k = .sleep from hk)
  exact mid h0 h1 rfl
theorem endA_seq (hk : p.kind = .seq ∨ p.kind = .fallback) (h0 : 0 < c) (h1 : c < p.span) : endA p c = endS p.parts 0 c := by
  obtain ⟨k, ps, n, ws, nd, d, s, b⟩ := p
  rcases hk with hk | hk
  · cases (show k = .seq from hk)
    exact mid h0 h1 rfl
  · cases (show k = .fallback from hk)
    exact mid h0 h1 rfl
theorem endA_loop (hk : p.kind = .loop) (h0 : 0 < c) (h1 : c < p.span) : endA p c = (let r := if spanAt p.parts 0 = 0 then 0 else min (c / spanAt p.parts 0) (p.number - 1); r * spanAt p.parts 0 + endH p.parts (c - r * spanAt p.parts 0)) := by
  obtain ⟨k, ps, n, ws, nd, d, s, b⟩ := p
  cases (show k = .loop from hk)
  exact mid h0 h1 rfl
theorem endA_shield (hk : p.kind = .shield) (h0 : 0 < c) (h1 : c < p.span) : endA p c = p.span := by
  obtain ⟨k, ps, n, ws, nd, d, s, b⟩ := p
  cases (show k = .shield from hk)
  exact mid h0 h1 rfl
theorem endA_cleanup (hk : p.kind = .cleanup) (h0 : 0 < c) (h1 : c < p.span) : endA p c = min (endH p.parts c + spanAt p.parts 1) p.span := by
  obtain ⟨k, ps, n, ws, nd, d, s, b⟩ := p
  cases (show k = .cleanup from hk)
  exact mid h0 h1 rfl
def endG (ps : List Prog) (s c : Int) : Int := match firstFail ps with
  | some f => if f.span ≤ c then s else maxL (endL ps c)
  | none => maxL (endL ps c)
theorem endA_group (hk : p.kind = .together) (h0 : 0 < c) (h1 : c < p.span) : endA p c = endG p.parts p.span c := by
  obtain ⟨k, ps, n, ws, nd, d, s, b⟩ := p
  cases (show k = .together from hk)
  exact mid h0 h1 rfl
theorem endA_limit (hk : p.kind = .timeout ∨ p.kind = .moveon) (h0 : 0 < c) (h1 : c < p.span) : endA p c = if p.number ≤ c then p.span else endH p.parts c := by
  obtain ⟨k, ps, n, ws, nd, d, s, b⟩ := p
  rcases hk with hk | hk
  · cases (show k = .timeout from hk)
    exact mid h0 h1 rfl
  · cases (show k = .moveon from hk)
    exact mid h0 h1 rfl
end
theorem endL_eq : ∀ (ps : List Prog) (c : Int), endL ps c = (ps.filter fun p => decide (p.span > c)).map fun p => endA p c
  | [], c => by unfold endL; rfl
  | p :: r, c => by
    unfold endL
    rw [endL_eq r c]
    by_cases h : p.span > c
    · rw [if_pos h, List.filter_cons, if_pos (by rw [decide_eq_true h])]
      rfl
    · rw [if_neg h, List.filter_cons, if_neg (by rw [decide_eq_false h]; decide)]
/-- the first of the shortest, by its place -/
theorem fold_keep : ∀ (l : List Prog) (a : Prog), (∀ q ∈ l, a.span ≤ q.span) → l.foldl (fun m x => if x.span < m.span then x else m) a = a
  | [], _, _ => rfl
  | q :: r, a, h => by
    have h1 := h q List.mem_cons_self
    show r.foldl (fun m x => if x.span < m.span then x else m) (if q.span < a.span then q else a) = a
    rw [if_neg (by omega)]
    exact fold_keep r a fun z hz => h z (List.mem_cons_of_mem _ hz)
theorem fold_first : ∀ (l : List Prog) (a p : Prog) (i : Nat), l[i]? = some p → p.span < a.span → (∀ (j : Nat) (q : Prog), l[j]? = some q → p.span ≤ q.span ∧ (j < i → p.span < q.span)) → l.foldl (fun m x => if x.span < m.span then x else m) a = p
  | [], _, _, _, h, _, _ => by simp at h
  | q :: r, a, p, 0, h, ha, hm => by
    have e : q = p := by simpa using h
    subst e
    show r.foldl (fun m x => if x.span < m.span then x else m) (if q.span < a.span then q else a) = q
    rw [if_pos ha]
    refine fold_keep r q fun z hz => ?_
    obtain ⟨j, hj, ej⟩ := List.mem_iff_getElem.mp hz
    exact (hm (j + 1) z (by rw [List.getElem?_cons_succ, List.getElem?_eq_getElem hj, ej])).1
  | q :: r, a, p, i + 1, h, ha, hm => by
    have hq := (hm 0 q rfl).2 (Nat.succ_pos i)
    show r.foldl (fun m x => if x.span < m.span then x else m) (if q.span < a.span then q else a) = p
    have hr : ∀ (j : Nat) (z : Prog), r[j]? = some z → p.span ≤ z.span ∧ (j < i → p.span < z.span) := fun j z hz => by
      have := hm (j + 1) z (by rw [List.getElem?_cons_succ]; exact hz)
      exact ⟨this.1, fun l => this.2 (by omega)⟩
    have hi : r[i]? = some p := by simpa using h
    by_cases c : q.span < a.span
    · rw [if_pos c]
      exact fold_first r q p i hi hq hr
    · rw [if_neg c]
      exact fold_first r a p i hi ha hr
theorem minBy_first {l : List Prog} {i : Nat} {p : Prog} (h : l[i]? = some p) (hm : ∀ (j : Nat) (q : Prog), l[j]? = some q → p.span ≤ q.span ∧ (j < i → p.span < q.span)) : minBy l = some p := by
  cases l with
  | nil => simp at h
  | cons a r =>
    show some (r.foldl (fun m x => if x.span < m.span then x else m) a) = some p
    refine congrArg some ?_
    cases i with
    | zero =>
      have e : a = p := by simpa using h
      subst e
      refine fold_keep r a fun z hz => ?_
      obtain ⟨j, hj, ej⟩ := List.mem_iff_getElem.mp hz
      exact (hm (j + 1) z (by rw [List.getElem?_cons_succ, List.getElem?_eq_getElem hj, ej])).1
    | succ i =>
      refine fold_first r a p i (by simpa using h) ((hm 0 a rfl).2 (Nat.succ_pos i)) fun j z hz => ?_
      have := hm (j + 1) z (by rw [List.getElem?_cons_succ]; exact hz)
      exact ⟨this.1, fun l => this.2 (by omega)⟩
end Cu

/-! == CuRules -/
set_option maxHeartbeats 4000000
/-! Rules of my own over the hand layer. -/
namespace Cu
open PySem PySem.Spec PyProof.Rows L2 Evl

/-! ### a def by its body: a promise by positional values -/
theorem fn_mk {P : Program} {w : World} {K : PySem.W.Frag} {mg : Str → Option Value} {base : Heap} {x qual : Str} {st : Stmt} {f : Addr} {CX : CXT} {N ps : List Str} {k : Nat} {sp : Sp}
    (F : ∃ fd, FunD K x qual (defArgs st) (defBody st) (defScope st) [] [] f fd) (S : FnScope N ps (defScope st))
    (hb : ∀ (kV doc pm : Value) (an : Option Addr) (cdv ct : Value) (us : List Value), us.length = ps.length → bindArgs (PySem.W.fnOf x qual (defArgs st) (defBody st) (defScope st) .none kV doc pm an cdv ct) ⟨us, []⟩ = pure (ps.zip us))
    (len : ∀ vs H Q E, sp vs H Q E → vs.length = ps.length)
    (hbody : ∀ (cdv : Value) (A : Around) (outer : List Env) (s : Shared) (H : Hp) (vs : List V) (Q : VK) (E : XK), Room k (A.deeper (envOfC qual (defScope st) s.heap.objs.size f cdv)) → sp vs H Q E →
      ∃ t, PSs (cxOf CX P w K mg base N qual (defScope st) f cdv A outer s H E) (defBody st) t ∧ t { nx := fun _ H' => Q .non H', rt := Q } (start N vs) H) : FnR P w K mg base CX (k + 1) f sp := by
  obtain ⟨fd, F⟩ := F
  have b : Binds K fd ps [] := F.bindsN hb
  have h := (F.ok (CX := CX) S len hbody).raw b (dvs := []) .nil
  intro A outer s H us vs Q E hr e0 r hs
  exact h A outer s H us vs Q E hr e0 r (by show sp (vs ++ []) H Q E; rw [List.append_nil]; exact hs)

theorem kp_of {K : PySem.W.Frag} {x qual : Str} {ag : Arguments} {bd : List Stmt} {scp : Scope} {dvs : List V} {kws : List (Str × V)} {f : Addr} (F : ∃ fd, FunD K x qual ag bd scp dvs kws f fd) : PySem.W.keepIn K (.ref f) = true := by
  obtain ⟨fd, F⟩ := F
  exact F.kp
/-! ### f(e, ..) -/
def tCallR (sp : Sp) (E : XK) (t : TA) : TE := fun σ H Q => t σ H fun vs H1 => sp vs H1 Q E
section
variable {X : Cx} {CX : CXT} {k : Nat} {f : Addr} {sp : Sp} {E : XK} {x : Str} {p pos : Pos} {e : Expr} {es : List Expr} {t : TA}
theorem pe_callR (F : FnR X.prog X.w X.K X.mg X.base CX k f sp) (hr : Room k X.A) (hg : Gl X x) (hm : X.mg x = some (.ref f)) (hk : PySem.W.keepIn X.K (.ref f) = true) (hx : Passes CX X E)
    (ha : PA X (e :: es) t) (hdb : (x == ("__debug__" : Str)) = false := by decide) (he : starEach (e :: es) X.env = (false, eval e X.env) :: starEach es X.env := by rfl) (hpl : (backTo pos (starEach es X.env)).any (·.1) = false := by rfl) :
    PE X (.Call (.Name x p) (e :: es) [] pos) (tCallR sp E t) := by
  refine ⟨fun pins s σ H Q I h => ?_⟩
  refine wpAny_Call_Name_kw (ld_glob I hg hm ?_ hdb)
  refine PySem.W.callWith_K (h₀ := X.base) I.ok.mod.kin hk (thn (ha.run pos pins s σ H _ I h) fun us s1 ⟨vs, H1, I1, r, q⟩ => ⟨I1.kIn, ?_⟩) he hpl
  exact wpAny_call (run_fnR F hr hx I1 r q)
/-- f() -/
theorem pe_callR0 (F : FnR X.prog X.w X.K X.mg X.base CX k f sp) (hr : Room k X.A) (hg : Gl X x) (hm : X.mg x = some (.ref f)) (hk : PySem.W.keepIn X.K (.ref f) = true) (hx : Passes CX X E) (hdb : (x == ("__debug__" : Str)) = false := by decide) :
    PE X (.Call (.Name x p) [] [] pos) (tCallR sp E tNil) := by
  refine ⟨fun pins s σ H Q I h => ?_⟩
  refine wpAny_Call_Name_kw (ld_glob I hg hm ?_ hdb)
  exact PySem.W.callWith_K0 I.kIn hk (wpAny_call (run_fnR (us := []) F hr hx I .nil h))
end

/-! ### o.m(e, ..) of an instance of the class at C -/
def tMethR (C : Addr) (m : Str) (sp : Sp) (E : XK) (ta : TE) (t : TA) : TE := fun σ H Q => ta σ H fun x H1 => ∃ a dx fs, x = .ref a ∧ H1 a = some (.ins C dx fs) ∧ fs.lookup m = none ∧ t σ H1 fun vs H2 => sp (x :: vs) H2 Q E
section
variable {X : Cx} {CX : CXT} {k : Nat} {f C : Addr} {sp : Sp} {E : XK} {m : Str} {pos apos : Pos} {e o : Expr} {es : List Expr} {ta : TE} {t : TA}
theorem pe_methR {pl : Sem Bool} (he : PE X o ta) (c : Cls X.K C) (hm : Meth X.K C m f) (F : FnR X.prog X.w X.K X.mg X.base CX k f sp) (hr : Room k X.A) (hx : Passes CX X E) (ha : PA X (e :: es) t)
    (hst : starEach (e :: es) X.env = (false, eval e X.env) :: starEach es X.env := by rfl) (hpl : (backTo pos (starEach es X.env)).any (·.1) = false := by rfl)
    (ht : eval (.Call (.Attribute o m apos) (e :: es) [] pos) X.env = (do
      let ov ← eval o X.env
      standAt apos.atName
      let (f, first) ← holding [ov] (getMethod ov m pl)
      callWith pos f first (backTo pos (starEach (e :: es) X.env)) (backToKw pos (keywordEach [] X.env))) := by rfl) :
    PE X (.Call (.Attribute o m apos) (e :: es) [] pos) (tMethR C m sp E ta t) := by
  refine ⟨fun pins s σ H Q I h => ?_⟩
  refine PySem.W.methodCall_KW (pl := pl) (thn (he.run pins s σ H _ I h) fun u s1 ⟨x, H1, I1, rx, a, dx, fs, ex, ea, l, q⟩ => ?_) ht
  subst ex
  obtain rfl : u = Value.ref a := rx
  refine getmeth_ok I1 ea c hm l ?_
  refine PySem.W.callWith_K (first := [.ref a]) (h₀ := X.base) I.ok.mod.kin hm.kp (thn (ha.run pos pins s1 σ H1 _ I1 q) fun us s2 ⟨vs, H2, I2, r, q2⟩ => ⟨I2.kIn, ?_⟩) hst hpl
  exact wpAny_call (run_fnR (us := .ref a :: us) (vs := .ref a :: vs) F hr hx I2 (.cons rfl r) q2)
theorem pe_methR0 {pl : Sem Bool} (he : PE X o ta) (c : Cls X.K C) (hm : Meth X.K C m f) (F : FnR X.prog X.w X.K X.mg X.base CX k f sp) (hr : Room k X.A) (hx : Passes CX X E)
    (ht : eval (.Call (.Attribute o m apos) [] [] pos) X.env = (do
      let ov ← eval o X.env
      standAt apos.atName
      let (f, first) ← holding [ov] (getMethod ov m pl)
      callWith pos f first (backTo pos (starEach [] X.env)) (backToKw pos (keywordEach [] X.env))) := by rfl) :
    PE X (.Call (.Attribute o m apos) [] [] pos) (tMethR C m sp E ta tNil) := by
  refine ⟨fun pins s σ H Q I h => ?_⟩
  refine PySem.W.methodCall_KW (pl := pl) (thn (he.run pins s σ H _ I h) fun u s1 ⟨x, H1, I1, rx, a, dx, fs, ex, ea, l, q⟩ => ?_) ht
  subst ex
  obtain rfl : u = Value.ref a := rx
  refine getmeth_ok I1 ea c hm l ?_
  exact PySem.W.callWith_K0 (first := [.ref a]) I1.kIn hm.kp (wpAny_call (run_fnR (us := [.ref a]) (vs := [.ref a]) F hr hx I1 (.cons rfl .nil) q))
end

/-! ### p op q by the own method of an instance -/
/-- the right one: an instance of the same class, or an int -/
def rOwn (C : Addr) (sp : Sp) (E : XK) : R2 := fun x y H Q => ∃ a dx fs, x = .ref a ∧ H a = some (.ins C dx fs) ∧ ((∃ i, y = .int i) ∨ ∃ b dy gs, y = .ref b ∧ H b = some (.ins C dy gs)) ∧ sp [x, y] H Q E
section
variable {X : Cx} {CX : CXT} {k : Nat} {f C : Addr} {sp : Sp} {E : XK} {op : Operator}
theorem cmpBack_of {v : V} {u : Value} {Q : Value → Shared → Prop} {s : Shared} (r : RelV v u) (h : Q u s) : PySem.W.CmpBack Q u s := by
  cases v with
  | non => cases (show u = Value.none from r); exact h
  | bl b => cases (show u = Value.bool b from r); exact h
  | int i => obtain ⟨t, e⟩ := (show ∃ t, u = Value.int i t from r); cases e; exact h
  | str x => obtain ⟨t, e⟩ := (show ∃ t, u = Value.str x t from r); cases e; exact h
  | byt b => obtain ⟨t, e⟩ := (show ∃ t, u = Value.bytes b t from r); cases e; exact h
  | flt b => obtain ⟨t, e⟩ := (show ∃ t, u = Value.float b t from r); cases e; exact h
  | ref a => cases (show u = Value.ref a from r); exact h
  | ty n => cases (show u = Value.type n from r); exact h
theorem op_own {fo ro : Option Value} (F : FnR X.prog X.w X.K X.mg X.base CX k f sp) (hr : Room k X.A) (hx : Passes CX X E) (hc : PySem.W.selfFirst X.K C = true)
    (hs : PySem.W.findIn X.K (.ref C) (PySem.dunder op.info.2) = some (some (.ref f))) (hf : PySem.W.isFn X.K (.ref f) = true) (hrr : PySem.W.findIn X.K (.ref C) (dunderR op.info.2) = some none)
    (h1 : PySem.W.findIn X.K (.type "int") (PySem.dunder op.info.2) = some fo) (h2 : PySem.W.findIn X.K (.type "int") (dunderR op.info.2) = some ro) (hsub : PySem.W.subIn X.K (.type "int") (.ref C) = some false) :
    OpR X (binaryOp op) (rOwn C sp E) := by
  intro pins s σ H x y v u Q I rx ry h
  obtain ⟨a, dx, fs, rfl, ha, hy, h⟩ := h
  obtain rfl : v = Value.ref a := rx
  obtain ⟨m, hF⟩ := I.fr
  obtain ⟨mA, O, _⟩ := ins_get I.hok ha
  obtain ⟨od, J, _⟩ := O.look
  have run : wpAny (model X.prog X.w) X.A (call (.ref f) [.ref a, u]) (PySem.W.CmpBack (EP X pins σ Q)) X.xe s := by
    refine thn (wpAny_call (run_fnR (us := [.ref a, u]) (vs := [.ref a, y]) F hr hx I (.cons rfl (.cons ry .nil)) h)) fun z s' q => ?_
    obtain ⟨zv, H', I', rz, hq⟩ := id q
    exact cmpBack_of rz q
  rcases hy with ⟨i, rfl⟩ | ⟨b, dy, gs, rfl, hb⟩
  · obtain ⟨t, rfl⟩ := (show ∃ t, u = Value.int i t from ry)
    exact PySem.W.ksp_binT (T := "int") hF I.ok.mod.kin J rfl hc hs hf hrr (.inl rfl) h1 h2 hsub run
  · obtain rfl : u = Value.ref b := ry
    obtain ⟨mB, O', _⟩ := ins_get I.hok hb
    obtain ⟨od', J', _⟩ := O'.look
    exact PySem.W.binop_K hF I.ok.mod.kin J J'.type hc hs hf run
end

/-! ### o.f as a target -/
def gFld (K : PySem.W.Frag) (ta : TE) (f : Str) : TG := fun y σ H Q => ta σ H fun x H2 => ∃ a C dx fs, x = .ref a ∧ H2 a = some (.ins C dx fs) ∧ Cls K C ∧ NoAttr K C f ∧ fs.length < 1000 ∧ Q σ (upd H2 a (.ins C dx (putF f y fs)))
theorem pg_fld {X : Cx} {o : Expr} {f : Str} {pos : Pos} {ta : TE} (ho : PE X o ta)
    (ha : ∀ v, assign (.Attribute o f pos) X.env v = (do
      let ov ← holding [v] (eval o X.env)
      standAt pos.atName
      holding [v, ov] (setAttr ov f v)
      release [v, ov] []) := by intro _; rfl) : PG X (.Attribute o f pos) (gFld X.K ta f) := by
  refine ⟨fun pins s σ H v u Q I r h => ?_⟩
  rw [ha]
  refine wpAny_bind (wpAny_holding (thn (ho.run pins s σ H _ I h) fun ov s1 ⟨x, H1, I1, rx, a, C, dx, fs, ex, ea, c, n, l, q1⟩ => ?_))
  subst ex
  obtain rfl : ov = Value.ref a := rx
  refine wpAny_bind (wpAny_standAt (wpAny_bind (wpAny_holding (setattr_ok I1 ea c n l r fun s3 I3 => ?_))))
  exact wpAny_release ⟨σ, _, I3, q1⟩

/-! ### xs == [], xs != [] -/
def rEqNil (b : Bool) : R2 := fun x y H Q => ∃ p q xs, x = .ref p ∧ y = .ref q ∧ H p = some (.lst xs) ∧ H q = some (.lst []) ∧ Q (.bl (if b then xs.isEmpty else !xs.isEmpty)) H
theorem lst_at {X : Cx} {pins : List (Addr × Obj)} {σ : L2.St} {H : Hp} {s : Shared} {p : Addr} {xs : List V} (I : Inv X pins σ H s) (h : H p = some (.lst xs)) : ∃ its : List Value, Vals xs its ∧ s.heap.IsList p its.toArray := by
  obtain ⟨_, its, n, r, e⟩ := (show ObjOk X.prog X.w H s.heap p (.lst xs) from I.hok p _ h)
  exact ⟨its, r, _, e, rfl, n, rfl⟩
theorem op_eqNil {X : Cx} (hu : X.A.units < cLine) : OpR X (compareOp .Eq) (rEqNil true) := by
  intro pins s σ H x y v u Q I rx ry h
  obtain ⟨p, q, xs, rfl, rfl, hp, hq, h⟩ := h
  obtain rfl : v = Value.ref p := rx
  obtain rfl : u = Value.ref q := ry
  obtain ⟨its, r, e⟩ := lst_at I hp
  obtain ⟨its2, r2, e2⟩ := lst_at I hq
  cases r2
  cases r with
  | nil => exact SeqAt.eq_listAt (e := fun _ => true) e e2 rfl hu (fun j h1 _ => absurd h1 (Nat.not_lt_zero _)) ⟨.bl true, H, I, rfl, h⟩
  | cons r r' => exact SeqAt.eq_list_lengthsAt e e2 (by simp) hu ⟨.bl false, H, I, rfl, h⟩

theorem op_neNil {X : Cx} (hu : X.A.units < cLine) : OpR X (compareOp .NotEq) (rEqNil false) := by
  intro pins s σ H x y v u Q I rx ry h
  obtain ⟨p, q, xs, rfl, rfl, hp, hq, h⟩ := h
  obtain rfl : v = Value.ref p := rx
  obtain rfl : u = Value.ref q := ry
  obtain ⟨its, r, e⟩ := lst_at I hp
  obtain ⟨its2, r2, e2⟩ := lst_at I hq
  cases r2
  cases r with
  | nil => exact SeqAt.RcNeAt.lists (e := fun _ => true) e e2 rfl hu (fun j h1 _ => absurd h1 (Nat.not_lt_zero _)) X.prog X.w X.xe _ ⟨.bl false, H, I, rfl, h⟩
  | cons r r' => exact SeqAt.RcNeAt.lists_lengths e e2 (by simp) hu X.prog X.w X.xe _ ⟨.bl true, H, I, rfl, h⟩
/-! ### p != q by the own == of an instance -/
section
variable {prog : Program} {w : World} {A : Around} {E : Value → Shared → Prop} {s : Shared} {K : PySem.W.Frag} {x y C f : Addr} {ox : Obj} {od : Option Obj}
theorem ne_body {Q : PySem.Fin → Shared → Prop} (hu : A.units < cLine) (X : K.In s.heap) (I : PySem.W.InstAt s.heap x ox C od) (heq : PySem.W.findIn K (.ref C) "__eq__" = some (some (.ref f))) (hf : PySem.W.isFn K (.ref f) = true)
    (h : wpAny (model prog w) A (call (.ref f) [.ref x, .ref y]) (fun v s' => ∃ b, v = .bool b ∧ Q (.done (.ret (.bool (!b)))) s') E s) : wpAny (model prog w) A (Builtin.«object.__ne__» ⟨[.ref x, .ref y], []⟩) Q E s := by
  have one : wpAny (model prog w) A (callSpecialIfBound? (.ref x) (Str.ofString "__eq__") [.ref y]) (fun r s' => ∃ b, r = some (.bool b) ∧ Q (.done (.ret (.bool (!b)))) s') E s :=
    PySem.W.ifBound_K X I heq hf (wpAny_mono h (fun v s' hv => by
      obtain ⟨b, rfl, q⟩ := hv
      exact ⟨b, rfl, q⟩) fun _ _ e => e)
  obtain ⟨hh, g, d, tt, os⟩ := s
  unfold Builtin.«object.__ne__»
  repeat (first
    | with_reducible refine wpAny_cRoomFor hu ?_
    | (refine wpAny_bind (m := callSpecialIfBound? (.ref x) (Str.ofString "__eq__") [.ref y]) (wpAny_mono one (fun r s' hr => by
          obtain ⟨b, rfl, hq⟩ := hr
          repeat (first | exact hq | exact wpAny_pure hq | exact wpAny_truthy_bool hq | (refine wpAny_bind (m := truthy (.bool _)) (wpAny_truthy_bool ?_)) | wp_step)) fun _ _ e => e))
    | wp_step)
theorem ne_own {Q : Value → Shared → Prop} (hu : A.units + 1 < cLine) (X : K.In s.heap) (I : PySem.W.InstAt s.heap x ox C od) (J : PySem.W.Looks (model prog w) s.heap (typeOf (.ref y)) (.ref C)) (hne : PySem.W.findIn K (.ref C) "__ne__" = some (some (.builtin "object.__ne__")))
    (heq : PySem.W.findIn K (.ref C) "__eq__" = some (some (.ref f))) (hf : PySem.W.isFn K (.ref f) = true) (hob : PySem.W.subIn K (.ref C) (.type "object") = some true)
    (h : wpAny (model prog w) A.in1 (call (.ref f) [.ref x, .ref y]) (fun v s' => ∃ b, v = .bool b ∧ Q (.bool (!b)) s') E s) : wpAny (model prog w) A (richCompare .NotEq (.ref x) (.ref y)) Q E s := by
  have chk : ∀ {M : Model} {A : Around} {E : Value → Shared → Prop} {Q : Unit → Shared → Prop}, Q () s → wpAny M A (checkBuiltinCall "object.__ne__" ⟨[.ref x, .ref y], []⟩) Q E s := fun {M A E Q} hq => by
    have ha := F.cmpArgs_ne (.ref x) (.ref y)
    simp only [checkBuiltinCall, F.cmpKind_ne, F.cmpSplit_ne]
    refine wpAny_bind ?_
    unfold isInstance
    refine wpAny_bind (I.type.here ((PySem.W.looks_subIn X hob).here ?_))
    simp only [Bool.not_true, Bool.false_eq_true, if_false]
    cases hsig : Manifest.signature? "object.__ne__" with
    | none => exact wpAny_pure hq
    | some sig =>
      simp only [argsOk, hsig] at ha
      have h2 : Bind.checkArgs "object.__ne__" sig ⟨[.ref x, .ref y], []⟩ = pure () := ha
      show wpAny M A (Bind.checkArgs "object.__ne__" sig ⟨[.ref x, .ref y], []⟩) Q E _
      rw [h2]
      exact wpAny_pure hq
  have one : wpAny (model prog w) A (tryCompare (.ref x) "__ne__" (.ref y)) (fun r s' => ∃ v, r = some v ∧ Q v s') E s := by
    unfold tryCompare
    simp only [callSpecialIfBound?, bindSpecialIfBound?]
    have fin : wpAny (model prog w) A (call (.builtin "object.__ne__") ([.ref x] ++ [.ref y]) >>= fun v => pure (some v)) (fun r s' => ∃ b, r = some (.bool b) ∧ Q (.bool b) s') E s := by
      refine wpAny_bind (wpAny_call (codeAny_call_builtin F.cmp_object.ne.plain F.cmpEntry_ne (chk ?_)))
      refine ne_body (A := A.in1) hu X I heq hf (wpAny_mono h (fun v s' hv => ?_) fun _ _ e => e)
      obtain ⟨b, rfl, hq⟩ := hv
      exact ⟨b, rfl, wpAny_pure ⟨_, rfl, hq⟩⟩
    have fin2 : wpAny (model prog w) A (holding [Value.ref x, Value.ref y] (do
        let __x ← (do
          let __x ← specialOf (Value.ref x) (Str.ofString "__ne__")
          match __x with
          | some f =>
            let bind : Sem (Option (Value × List Value)) := do
              let __do_lift ← bindSpecial f (Value.ref x)
              pure (some __do_lift)
            let __do_lift ← ask
            if __do_lift.params.followText "special-get-raises" then bind else bind.tryCatch fun _ => do rule "special.get-raises-dropped"; pure none
          | _ => pure none)
        match __x with
        | some (g, first) => do
          let __do_lift ← call g (first ++ [Value.ref y])
          pure (some __do_lift)
        | _ => pure none)) (fun r s' => ∃ b, r = some (.bool b) ∧ Q (.bool b) s') E s := by
      refine wpAny_holding (wpAny_bind (wpAny_bind (wpAny_bind (I.type.here ((PySem.W.looks_findIn X hne).here ?_)))))
      simp only [F.cmp_object.ne.bind]
      refine wpAny_bind (wpAny_askSetting (wpAny_ite ?_))
      split
      · exact wpAny_bind (wpAny_pure (wpAny_pure (by exact fin)))
      · exact wpAny_tryCatch (wpAny_bind (wpAny_pure (wpAny_pure (by exact fin))))
    refine wpAny_bind (wpAny_mono fin2 (fun r s' hr => ?_) fun _ _ e => e)
    obtain ⟨b, rfl, hq⟩ := hr
    exact wpAny_pure ⟨_, rfl, hq⟩
  unfold richCompare
  simp only [oneThing_ref]
  refine wpAny_holding (wpAny_bind (wpAny_cRoomFor (Nat.lt_of_succ_lt hu) ?_))
  rw [cmpInfo_NotEq]
  dsimp only
  refine wpAny_bind (I.type.here (wpAny_bind (J.here ?_)))
  rw [show (Value.ref C != Value.ref C) = false from by simp]
  simp only [Bool.false_eq_true, if_false]
  refine wpAny_bind (wpAny_pure ?_)
  simp only [Bool.false_eq_true, if_false]
  refine wpAny_bind (wpAny_mono one (fun r s' hr => ?_) fun _ _ e => e)
  obtain ⟨v, rfl, hq⟩ := hr
  exact wpAny_pure hq
end
/-! ### min(xs, key=f) -/
section
variable {X : Cx} {pins : List (Addr × Obj)} {σ : L2.St} {H : Hp} {g l : Addr} {xs : List V} {kf : Nat → Int} {k : Nat} {sp : Sp}
/-- the key of an item, by the def's promise -/
theorem key_of (F : FnR X.prog X.w X.K X.mg X.base (L2.CX X.prog X.w) k g sp) (hr : Room k X.A.in1) {x : V} {n : Int} (h : sp [x] H (fun v H' => v = .int n ∧ H' = H) E0) {ps : List (Addr × Obj)} {s : Shared} (I : Inv X ps σ H s) {u : Value} (r : RelV x u) :
    wpAny (model X.prog X.w) X.A.in1 (call (.ref g) [u]) (fun v s' => (∃ t, v = .int n t) ∧ Inv X ps σ H s') (fun _ _ => False) s := by
  refine wpAny_call (codeAny_mono (F X.A.in1 X.stack s H [u] [x] _ E0 hr I.env0.in1 (.cons r .nil) h) fun rs s' hq => ?_)
  cases rs with
  | error e =>
    obtain ⟨_, _, _, _, _, _, _, _, _, _, _, _, z⟩ := hq
    exact z.elim
  | ok fl =>
    cases fl with
    | ret w =>
      obtain ⟨v, H', I', rv, ev, eH⟩ := I.after hq
      subst ev
      subst eH
      obtain ⟨t, rfl⟩ := rv
      exact ⟨⟨t, rfl⟩, I'⟩
    | next => exact False.elim hq
    | brk => exact False.elim hq
    | cont => exact False.elim hq

/-- an untracked record of ours -/
structure Mine (X : Cx) (H : Hp) (ps : List (Addr × Obj)) (a : Addr) : Prop where
  hn : H a = none
  hL : a ≠ X.env.locals
  h1 : a ∈ X.ex ∨ X.s_0.heap.objs.size ≤ a
  h2 : ∀ x c, X.env.cells.lookup x = some c → c ≠ a
  h3 : ∀ p ∈ X.pn ++ ps, p.1 ≠ a
  h4 : a ∉ X.fs
theorem Mine.of {ps : List (Addr × Obj)} {s : Shared} (I : Inv X ps σ H s) {a : Addr} (h : s.heap.objs.size ≤ a) : Mine X H ps a where
  hn := I.hok.fresh h
  hL := Nat.ne_of_gt (Nat.lt_of_lt_of_le I.lt h)
  h1 := .inr (Nat.le_trans I.sz h)
  h2 := fun x c e z => by
    obtain ⟨v, o, ho, _⟩ := I.cell x c e
    rw [z] at ho
    exact absurd (Nat.lt_of_lt_of_le (Heap.lt_size ho) h) (Nat.lt_irrefl _)
  h3 := fun p hp z => by
    have e := (I.pin p hp).1
    rw [z] at e
    exact absurd (Nat.lt_of_lt_of_le (Heap.lt_size e) h) (Nat.lt_irrefl _)
  h4 := I.nofs h
theorem Mine.pinned {ps : List (Addr × Obj)} {s : Shared} {a : Addr} {o : Obj} (m : Mine X H ps a) (I : Inv X ps σ H s) (e : s.heap.get? a = some o) (d : ∀ v, o.data ≠ .cell v) : Inv X ((a, o) :: ps) σ H s := by
  refine ⟨I.ok, I.os, I.bare, I.base, I.loc, I.cell, I.free, I.freeC, fun p hp => ?_, I.hok, I.len⟩
  rcases List.mem_append.mp hp with z | z
  · exact I.pin p (List.mem_append_left _ z)
  · rcases List.mem_cons.mp z with z | z
    · subst z
      exact ⟨e, m.hn, m.hL, m.h4, d⟩
    · exact I.pin p (List.mem_append_right _ z)
theorem unpin {ps : List (Addr × Obj)} {s : Shared} {q : Addr × Obj} (I : Inv X (q :: ps) σ H s) : Inv X ps σ H s :=
  ⟨I.ok, I.os, I.bare, I.base, I.loc, I.cell, I.free, I.freeC, fun p hp => (List.mem_append.mp hp).elim (fun z => I.pin p (List.mem_append_left _ z)) fun z => I.pin p (List.mem_append_right _ (List.mem_cons_of_mem _ z)), I.hok, I.len⟩
theorem pin_at {ps : List (Addr × Obj)} {s : Shared} {q : Addr × Obj} (I : Inv X (q :: ps) σ H s) : s.heap.get? q.1 = some q.2 := (I.pin q (List.mem_append_right _ List.mem_cons_self)).1

theorem sqL_at {ps : List (Addr × Obj)} {s : Shared} (I : Inv X ps σ H s) (h : SqL X.K H l xs) : ∃ its : List Value, Vals xs its ∧ s.heap.IsList l its.toArray := by
  obtain ⟨its, r, pl, _⟩ := I.list h
  exact ⟨its, r, pl.isList⟩

abbrev seqL (its : Array Value) (c : Nat) : Obj := seqObj "list" its c
theorem min_loop (hh : X.A.handled = none) (hl : SqL X.K H l xs) {I S : Addr} (hlI : l ≠ I) (hSI : S ≠ I) (mI : Mine X H pins I) (mS : Mine X H pins S)
    (key : ∀ (i : Nat) (x : V), xs[i]? = some x → ∀ (ps : List (Addr × Obj)) (s : Shared), Inv X ps σ H s → ∀ u, RelV x u → wpAny (model X.prog X.w) X.A.in1 (call (.ref g) [u]) (fun v s' => (∃ t, v = .int (kf i) t) ∧ Inv X ps σ H s') (fun _ _ => False) s)
    {Q : Value → Shared → Prop} (hQ : ∀ i x u s', xs[i]? = some x → RelV x u → (∀ j, j < xs.length → kf i ≤ kf j ∧ (j < i → kf i < kf j)) → Inv X pins σ H s' → Q u s') :
    ∀ (r j i : Nat) (s : Shared) (xb : V) (vb : Value) (tb : Tok) (c : Nat), xs.length - (j + 1) = r → j + 1 ≤ xs.length → Inv X ((S, seqL #[vb, .int (kf i) tb] c) :: pins) σ H s →
      s.heap.IsListIter I l (j + 1) → xs[i]? = some xb → RelV xb vb → i ≤ j → (∀ j', j' ≤ j → kf i ≤ kf j' ∧ (j' < i → kf i < kf j')) →
      codeAny (model X.prog X.w) X.A (.builtin "min.loop" ⟨[.ref I, .ref g, .ref S], []⟩) (fun r s' => match r with | .ok (.ret v) => Q v s' | .ok _ => False | .error e => X.xe e s') s := by
  have hname : (toString "min" ++ toString ".loop" : String) = "min.loop" := by decide
  have hcell : ∀ (its : Array Value) (c : Nat) (v : Option Value), (seqL its c).data ≠ .cell v := fun _ _ _ z => nomatch z
  intro r
  induction r with
  | zero =>
    intro j i s xb vb tb c hr hj Iv hit hxb rb hij hbest
    have hin : j + 1 = xs.length := by omega
    obtain ⟨its, rv, hL⟩ := sqL_at Iv hl
    have W := Walks.list (prog := X.prog) (w := X.w) (A := X.A.in1) hh I l hlI its.toArray
    have hsz : its.toArray.size = xs.length := by rw [List.size_toArray, rv.length]
    have gS := pin_at Iv
    refine codeAny_builtin PySem.F.entry_min_loop ?_
    rw [Around.under_plainId PySem.F.plain_min_loop _]
    show wpAny _ X.A.in1 (seqItems? (.ref S) >>= _) _ _ _
    refine wpAny_bind (wpAny_seqItems gS rfl ?_)
    show wpAny _ X.A.in1 (tryCatch (pyNext (.ref I)) _ >>= _) _ _ _
    refine wpAny_bind (wpAny_tryCatch (W.done _ _ _ ⟨by rw [hsz, ← hin]; exact hit, hL⟩ fun h' tk' hk' => ?_))
    have I1 : Inv X ((S, seqL #[vb, .int (kf i) tb] c) :: pins) σ H { s with heap := h', toks := tk' } :=
      Iv.turned (it := I) (fun b o hb e => hk' b o (by simpa using hb) e) mI.hn mI.hL mI.h1 mI.h2 (fun p hp => by
        rcases List.mem_append.mp hp with z | z
        · exact mI.h3 p (List.mem_append_left _ z)
        · rcases List.mem_cons.mp z with z | z
          · subst z
            exact hSI
          · exact mI.h3 p (List.mem_append_right _ z))
    have gS1 := pin_at I1
    show wpAny _ X.A.in1 (updateSeq S (fun _ => #[]) >>= _) _ _ _
    refine wpAny_bind ?_
    refine wpAny_updateSeq gS1 rfl (wpAny_bind (wpAny_letGo (wpAny_pure ?_)))
    have s1 := Heap.SameBut.update h' S (Obj.mapSeq fun _ => (#[] : Array Value))
    have I2 := (unpin I1).turned (t' := tk') (it := S) (fun b o hb e => (s1.2 b hb).trans e) mS.hn mS.hL mS.h1 mS.h2 mS.h3
    exact hQ i xb vb _ hxb rb (fun j' hj' => hbest j' (by omega)) I2
  | succ r ih =>
    intro j i s xb vb tb c hr hj Iv hit hxb rb hij hbest
    have hlt : j + 1 < xs.length := by omega
    obtain ⟨its, rv, hL⟩ := sqL_at Iv hl
    have W := Walks.list (prog := X.prog) (w := X.w) (A := X.A.in1) hh I l hlI its.toArray
    have hsz : its.toArray.size = xs.length := by rw [List.size_toArray, rv.length]
    have gS := pin_at Iv
    refine codeAny_builtin PySem.F.entry_min_loop ?_
    rw [Around.under_plainId PySem.F.plain_min_loop _]
    show wpAny _ X.A.in1 (seqItems? (.ref S) >>= _) _ _ _
    refine wpAny_bind (wpAny_seqItems gS rfl ?_)
    show wpAny _ X.A.in1 (tryCatch (pyNext (.ref I)) _ >>= _) _ _ _
    refine wpAny_bind (wpAny_tryCatch (W.item (j + 1) _ _ _ (by rw [hsz]; exact hlt) ⟨hit, hL⟩ fun v h' tk' hP hst' hk' => ?_))
    have hv : its[j + 1]? = some v := by simpa using hP
    obtain ⟨u2, hu2, rx⟩ := rv.get (i := j + 1) (x := xs[j + 1]) (List.getElem?_eq_getElem hlt)
    have eu : u2 = v := Option.some.inj (hu2.symm.trans hv)
    subst eu
    obtain ⟨oI', hoI', hoc, hod⟩ := id hst'.1
    have hne : ∀ p ∈ X.pn ++ (S, seqL #[vb, .int (kf i) tb] c) :: pins, p.1 ≠ I := fun p hp => by
      rcases List.mem_append.mp hp with z | z
      · exact mI.h3 p (List.mem_append_left _ z)
      · rcases List.mem_cons.mp z with z | z
        · subst z
          exact hSI
        · exact mI.h3 p (List.mem_append_right _ z)
    have I1 : Inv X ((S, seqL #[vb, .int (kf i) tb] c) :: pins) σ H { s with heap := h', toks := tk' } :=
      Iv.turned (it := I) (fun b o hb e => hk' b o (by simpa using hb) e) mI.hn mI.hL mI.h1 mI.h2 hne
    have I1' : Inv X ((I, oI') :: (S, seqL #[vb, .int (kf i) tb] c) :: pins) σ H { s with heap := h', toks := tk' } :=
      (Mine.mk mI.hn mI.hL mI.h1 mI.h2 hne mI.h4).pinned I1 hoI' (fun v z => by rw [hod] at z; cases z)
    show wpAny _ X.A.in1 (tryCatch (holding [u2] (call (.ref g) [u2])) _ >>= _) _ _ _
    refine wpAny_bind (wpAny_tryCatch (wpAny_holding (wpAny_mono (key (j + 1) xs[j + 1] (List.getElem?_eq_getElem hlt) _ _ I1' u2 rx) (fun z s2 he => ?_) fun _ _ hF => hF.elim)))
    obtain ⟨⟨t2, rfl⟩, I2⟩ := he
    have gI2 := pin_at I2
    have I3 := unpin I2
    have gS2 := pin_at I3
    have hit2 : s2.heap.IsListIter I l (j + 1 + 1) := ⟨oI', gI2, hoc, hod⟩
    show wpAny _ X.A.in1 (tryCatch (holding [u2, .int (kf (j + 1)) t2] (richCompare .Lt (.int (kf (j + 1)) t2) (.int (kf i) tb) >>= _)) _ >>= _) _ _ _
    refine wpAny_bind (wpAny_tryCatch (wpAny_holding (wpAny_bind (CmpOf.ints_lt (prog := X.prog) (w := X.w) (A := X.A.in1) (P := fun i v => ∃ t, v = .int (kf i) t) kf (fun i v h => h) (j + 1) i _ _ _ _ _ ⟨t2, rfl⟩ ⟨tb, rfl⟩ ?_))))
    refine wpAny_bind (wpAny_holding (wpAny_truthy_bool ?_))
    refine wpAny_bind (wpAny_letGo (wpAny_pure ?_))
    by_cases hb' : kf (j + 1) < kf i
    · have s1 := Heap.SameBut.update s2.heap S (Obj.mapSeq fun _ => #[u2, .int (kf (j + 1)) t2])
      obtain ⟨c2, hc2⟩ : ∃ c2, (s2.heap.update S (Obj.mapSeq fun _ => #[u2, .int (kf (j + 1)) t2])).get? S = some (seqL #[u2, .int (kf (j + 1)) t2] c2) := ⟨_, get?_update_seq gS2 fun _ => #[u2, .int (kf (j + 1)) t2]⟩
      have I4 := (unpin I3).turned (t' := s2.toks) (it := S) (fun b o hb e => (s1.2 b hb).trans e) mS.hn mS.hL mS.h1 mS.h2 mS.h3
      have I5 := mS.pinned I4 hc2 (hcell _ _)
      simp only [hb', decide_true, if_true]
      refine wpAny_bind ?_
      refine wpAny_updateSeq gS2 rfl (wpAny_bind (wpAny_letGo ?_))
      rw [hname]
      refine wpAny_pure ⟨plainId_quiet PySem.F.plain_min_loop _, ih (j + 1) (j + 1) _ xs[j + 1] u2 t2 c2 (by omega) hlt I5 ⟨oI', (s1.2 I hSI.symm).trans gI2, hoc, hod⟩ (List.getElem?_eq_getElem hlt) rx (Nat.le_refl _) fun j' hj' => ?_⟩
      by_cases e : j' = j + 1
      · subst e
        exact ⟨by omega, fun _ => by omega⟩
      · have hb1 := hbest j' (by omega)
        have hb2 := hb1.1
        exact ⟨by omega, fun _ => by omega⟩
    · simp only [hb', decide_false, Bool.false_eq_true, if_false]
      refine wpAny_bind (wpAny_letGo ?_)
      rw [hname]
      refine wpAny_pure ⟨plainId_quiet PySem.F.plain_min_loop _, ih (j + 1) i _ xb vb tb c (by omega) hlt I3 hit2 hxb rb (by omega) fun j' hj' => ?_⟩
      by_cases e : j' = j + 1
      · subst e
        exact ⟨by omega, fun _ => by omega⟩
      · exact hbest j' (by omega)
def rMinKey (K : PySem.W.Frag) (g : Addr) (sp : Sp) : List V → List V → Hp → VK → Prop := fun vs zs H Q => ∃ (a : Addr) (xs : List V) (kf : Nat → Int), vs = [.ref a] ∧ zs = [.ref g] ∧ SqL K H a xs ∧ 0 < xs.length ∧
  (∀ (i : Nat) (x : V), xs[i]? = some x → sp [x] H (fun v H' => v = .int (kf i) ∧ H' = H) E0) ∧ ∀ (i : Nat) (x : V), xs[i]? = some x → (∀ j, j < xs.length → kf i ≤ kf j ∧ (j < i → kf i < kf j)) → Q x H
theorem cr_minKey (hc : X.calm = true) (F : FnR X.prog X.w X.K X.mg X.base (L2.CX X.prog X.w) k g sp) (hr : Room (k + 1) X.A) : CallRK X (.builtin "min") [Str.ofString "key"] (rMinKey X.K g sp) := by
  intro pins s σ H vs zs us ws Q Iv rv rz h
  obtain ⟨l, xs, kf, rfl, rfl, hl, hpos, hkey, hq⟩ := h
  cases rv with
  | cons r1 r2 =>
  cases r2
  cases rz with
  | cons r3 r4 =>
  cases r4
  cases r1
  cases r3
  have hh : X.A.handled = none := Iv.ok.hd hc
  have hname : (toString "min" ++ toString ".loop" : String) = "min.loop" := by decide
  have hcell : ∀ (its : Array Value) (c : Nat) (v : Option Value), (seqL its c).data ≠ .cell v := fun _ _ _ z => nomatch z
  have key : ∀ (i : Nat) (x : V), xs[i]? = some x → ∀ (ps : List (Addr × Obj)) (s : Shared), Inv X ps σ H s → ∀ u, RelV x u → wpAny (model X.prog X.w) X.A.in1 (call (.ref g) [u]) (fun v s' => (∃ t, v = .int (kf i) t) ∧ Inv X ps σ H s') (fun _ _ => False) s :=
    fun i x hx ps s J u ru => key_of F hr.in1 (hkey i x hx) J ru
  obtain ⟨its, rl, hL⟩ := sqL_at Iv hl
  have hsz : its.toArray.size = xs.length := by rw [List.size_toArray, rl.length]
  obtain ⟨ol, hol, _⟩ := id hL
  have hll : l < s.heap.objs.size := Heap.lt_size hol
  show wpAny (model X.prog X.w) X.A (call (.builtin "min") [.ref l] [(Str.ofString "key", .ref g)]) (EP X pins σ Q) X.xe s
  refine kmk_tree PySem.F.kind_min PySem.F.plain_min PySem.F.entry_min (kmk_min_key _ _) ?_
  show wpAny _ X.A.in1 (Builtin.Builtins.bindParams "min" ["key", "default"] 0 ⟨[], [(Str.ofString "key", .ref g)]⟩ >>= _) _ _ s
  refine wpAny_bind (wpAny_of_eq (show Builtin.Builtins.bindParams "min" ["key", "default"] 0 ⟨[], [(Str.ofString "key", .ref g)]⟩ = pure [some (.ref g), none] from rfl) ?_)
  refine wpAny_bind (wpAny_pure ?_)
  refine wpAny_bind (wpAny_pyIter_list hL ?_)
  refine wpAny_bind (wpAny_newList ?_ (Nat.zero_le _))
  rw [hname]
  have mI : Mine X H pins s.heap.objs.size := Mine.of Iv (Nat.le_refl _)
  have hS : (s.heap.push { cls := .type "list_iterator", data := .fields #[.ref l, .int 0 0] }).objs.size = s.heap.objs.size + 1 := size_push' ..
  have mS : Mine X H pins (s.heap.push { cls := .type "list_iterator", data := .fields #[.ref l, .int 0 0] }).objs.size := Mine.of Iv (by rw [hS]; exact Nat.le_succ _)
  have hlI : l ≠ s.heap.objs.size := Nat.ne_of_lt hll
  have hSI : (s.heap.push { cls := .type "list_iterator", data := .fields #[.ref l, .int 0 0] }).objs.size ≠ s.heap.objs.size := by rw [hS]; exact Nat.ne_of_gt (Nat.lt_succ_self _)
  refine wpAny_pure ⟨plainId_quiet PySem.F.plain_min_loop _, ?_⟩
  have kp : ∀ b o, s.heap.get? b = some o → ((s.heap.push { cls := .type "list_iterator", data := .fields #[.ref l, .int 0 0] }).push (seqL #[] 0)).get? b = some o := fun b o e => Heap.get?_push_of_some _ (Heap.get?_push_of_some _ e)
  have I0 : Inv X pins σ H { s with heap := (s.heap.push { cls := .type "list_iterator", data := .fields #[.ref l, .int 0 0] }).push (seqL #[] 0) } := Iv.kept (t' := s.toks) kp
  have gI : ((s.heap.push { cls := .type "list_iterator", data := .fields #[.ref l, .int 0 0] }).push (seqL #[] 0)).get? s.heap.objs.size = some { cls := .type "list_iterator", data := .fields #[.ref l, .int 0 0] } :=
    Heap.get?_push_of_some _ (Heap.get?_push_size _ rfl)
  have gS : ((s.heap.push { cls := .type "list_iterator", data := .fields #[.ref l, .int 0 0] }).push (seqL #[] 0)).get? (s.heap.push { cls := .type "list_iterator", data := .fields #[.ref l, .int 0 0] }).objs.size = some (seqL #[] 0) := Heap.get?_push_size _ rfl
  have hL0 := (sqL_at I0 hl)
  obtain ⟨its0, rl0, hL0⟩ := hL0
  have hsz0 : its0.toArray.size = xs.length := by rw [List.size_toArray, rl0.length]
  have W := Walks.list (prog := X.prog) (w := X.w) (A := X.A.in1) hh s.heap.objs.size l hlI its0.toArray
  refine codeAny_builtin PySem.F.entry_min_loop ?_
  rw [Around.under_plainId PySem.F.plain_min_loop _]
  show wpAny _ X.A.in1 (seqItems? (.ref _) >>= _) _ _ _
  refine wpAny_bind (wpAny_seqItems gS rfl ?_)
  show wpAny _ X.A.in1 (tryCatch (pyNext (.ref s.heap.objs.size)) _ >>= _) _ _ _
  refine wpAny_bind (wpAny_tryCatch (W.item 0 _ _ _ (by rw [hsz0]; exact hpos) ⟨⟨_, gI, rfl, rfl⟩, hL0⟩ fun v h' tk' hP hst' hk' => ?_))
  have hv : its0[0]? = some v := by simpa using hP
  obtain ⟨u2, hu2, rx⟩ := rl0.get (i := 0) (x := xs[0]) (List.getElem?_eq_getElem hpos)
  have eu : u2 = v := Option.some.inj (hu2.symm.trans hv)
  subst eu
  obtain ⟨oI', hoI', hoc, hod⟩ := id hst'.1
  have I1a := I0.turned (it := s.heap.objs.size) (t' := tk') (h' := h') (fun b o hb e => hk' b o (by simpa using hb) e) mI.hn mI.hL mI.h1 mI.h2 mI.h3
  have I1 : Inv X pins σ H { s with heap := h', toks := tk' } := I1a
  have gS1 : h'.get? (s.heap.push { cls := .type "list_iterator", data := .fields #[.ref l, .int 0 0] }).objs.size = some (seqL #[] 0) := hk' _ _ (by simpa using hSI) gS
  have I2 := mS.pinned I1 gS1 (hcell _ _)
  have I3 : Inv X ((s.heap.objs.size, oI') :: ((s.heap.push { cls := .type "list_iterator", data := .fields #[.ref l, .int 0 0] }).objs.size, seqL #[] 0) :: pins) σ H { s with heap := h', toks := tk' } :=
    (Mine.mk mI.hn mI.hL mI.h1 mI.h2 (fun p hp => by
      rcases List.mem_append.mp hp with z | z
      · exact mI.h3 p (List.mem_append_left _ z)
      · rcases List.mem_cons.mp z with z | z
        · subst z
          exact hSI
        · exact mI.h3 p (List.mem_append_right _ z)) mI.h4).pinned I2 hoI' (fun v z => by rw [hod] at z; cases z)
  show wpAny _ X.A.in1 (tryCatch (holding [u2] (call (.ref g) [u2])) _ >>= _) _ _ _
  refine wpAny_bind (wpAny_tryCatch (wpAny_holding (wpAny_mono (key 0 xs[0] (List.getElem?_eq_getElem hpos) _ _ I3 u2 rx) (fun z s2 he => ?_) fun _ _ hF => hF.elim)))
  obtain ⟨⟨t2, rfl⟩, I4⟩ := he
  have gI2 := pin_at I4
  have I5 := unpin I4
  have gS2 := pin_at I5
  have s1 := Heap.SameBut.update s2.heap (s.heap.push { cls := .type "list_iterator", data := .fields #[.ref l, .int 0 0] }).objs.size (Obj.mapSeq fun _ => #[u2, .int (kf 0) t2])
  obtain ⟨c2, hc2⟩ : ∃ c2, (s2.heap.update (s.heap.push { cls := .type "list_iterator", data := .fields #[.ref l, .int 0 0] }).objs.size (Obj.mapSeq fun _ => #[u2, .int (kf 0) t2])).get? (s.heap.push { cls := .type "list_iterator", data := .fields #[.ref l, .int 0 0] }).objs.size = some (seqL #[u2, .int (kf 0) t2] c2) := ⟨_, get?_update_seq gS2 fun _ => #[u2, .int (kf 0) t2]⟩
  have I6 := (unpin I5).turned (t' := s2.toks) (it := (s.heap.push { cls := .type "list_iterator", data := .fields #[.ref l, .int 0 0] }).objs.size) (fun b o hb e => (s1.2 b hb).trans e) mS.hn mS.hL mS.h1 mS.h2 mS.h3
  have I7 := mS.pinned I6 hc2 (hcell _ _)
  show wpAny _ X.A.in1 (updateSeq (s.heap.push { cls := .type "list_iterator", data := .fields #[.ref l, .int 0 0] }).objs.size (fun _ => #[u2, .int (kf 0) t2]) >>= _) _ _ _
  refine wpAny_bind ?_
  refine wpAny_updateSeq gS2 rfl ?_
  rw [hname]
  refine wpAny_pure ⟨plainId_quiet PySem.F.plain_min_loop _, min_loop hh hl hlI hSI mI mS key (Q := EP X pins σ Q) (fun i x u s' hx ru hb J => ⟨x, H, J, ru, hq i x hx hb⟩) _ 0 0 _ xs[0] u2 t2 c2 rfl hpos I7 ⟨oI', (s1.2 _ hSI.symm).trans gI2, hoc, hod⟩ (List.getElem?_eq_getElem hpos) rx (Nat.le_refl _) fun j' hj' => ?_⟩
  have e : j' = 0 := by omega
  subst e
  exact ⟨by omega, fun h => absurd h (Nat.lt_irrefl _)⟩
end

/-! ### a call beside a list that it does not see -/
def hid (D : Addr) (H : Hp) : Hp := fun b => if b = D then none else H b
theorem hid_self {D : Addr} {H : Hp} : hid D H D = none := if_pos rfl
theorem hid_ne {D b : Addr} {H : Hp} (h : b ≠ D) : hid D H b = H b := if_neg h
theorem hid_upd {D : Addr} {H : Hp} {o : HO} : hid D (upd H D o) = hid D H := by
  funext b
  by_cases h : b = D
  · rw [h, hid_self, hid_self]
  · rw [hid_ne h, hid_ne h, upd_ne h]
theorem hid_none {D : Addr} {H : Hp} (h : H D = none) : hid D H = H := by
  funext b
  by_cases e : b = D
  · rw [e, hid_self, h]
  · rw [hid_ne e]
theorem hid_ex {D : Addr} {H : Hp} : Ex (hid D H) H := fun b o h => by
  by_cases e : b = D
  · rw [e, hid_self] at h
    cases h
  · rw [hid_ne e] at h
    exact h
theorem hid_some {D b : Addr} {H : Hp} {o : HO} (h : hid D H b = some o) : b ≠ D ∧ H b = some o := by
  by_cases e : b = D
  · rw [e, hid_self] at h
    cases h
  · rw [hid_ne e] at h
    exact ⟨e, h⟩
def spFr (sp : Sp) : Sp := fun vs H Q _ => ∃ D xs, H D = some (.lst xs) ∧ sp vs (hid D H) (fun v H2 => H2 D = none → Q v (upd H2 D (.lst xs))) E0
theorem frame {P : Program} {w : World} {K : PySem.W.Frag} {mg : Str → Option Value} {base : Heap} {k : Nat} {f : Addr} {sp : Sp} (F : FnR P w K mg base (L2.CX P w) k f sp) : FnR P w K mg base (L2.CX P w) k f (spFr sp) := by
  intro A outer s H us vs Q E hr e0 r h
  obtain ⟨D, xs, hD, h⟩ := h
  have nl : ∀ b (u : HO), H b = some u → (∀ ys, u ≠ .lst ys) → b ≠ D := fun b u hb hu e => by
    rw [e, hD] at hb
    exact hu xs (Option.some.inj hb).symm
  have hok' : HOk P w (hid D H) s.heap := fun a o e => by
    obtain ⟨_, e1⟩ := hid_some e
    refine (e0.hok a o e1).stay (fun b u _ q => q) (fun b q => ?_) (fun b ys q => ?_)
    · rw [hid_ne (nl b _ q fun ys z => nomatch z)]
      exact q
    · rw [hid_ne (nl b _ q fun ys z => nomatch z)]
      exact q
  have hnone : ∀ b, H b = none → hid D H b = none := fun b hb => by
    by_cases e : b = D
    · rw [e, hid_self]
    · rw [hid_ne e]
      exact hb
  have e0' : Env0 P w K mg base A outer s (hid D H) := ⟨e0.frames, e0.mod, fun b o e => ⟨(e0.bs b o e).1, hnone b (e0.bs b o e).2⟩, e0.bsz, e0.funs, fun b hb => hnone b (e0.frf b hb), hok', e0.bare⟩
  refine codeAny_mono (F A outer s (hid D H) us vs _ E0 hr e0' r h) fun rs s' hq => ?_
  cases rs with
  | error e =>
    obtain ⟨_, _, _, _, _, _, _, _, _, _, _, _, z⟩ := hq
    exact z.elim
  | ok fl =>
    cases fl with
    | ret u =>
      obtain ⟨v, H', os, bare, un, hok, rv, q⟩ := hq
      have nD : D ∉ frs outer := fun z => by
        have := e0.frf D z
        rw [hD] at this
        cases this
      obtain ⟨hz, its, n, rl, ho⟩ := (show ObjOk P w H s.heap D (.lst xs) from e0.hok D _ hD)
      have kD := un.keep D _ ho hid_self nD (by simp)
      have fD := un.free D _ ho hid_self (by simp)
      refine ⟨v, upd H' D (.lst xs), os, bare, ⟨fun b o e n' hb hx => ?_, fun b o e n' hb hx => ?_, fun b o e n' hx => ?_, un.there, fun b ys e => ?_, fun b o' u' e => ?_, fun b ps e => ?_⟩, fun b o e => ?_, rv, q fD⟩
      · exact un.keep b o e (hnone b n') hb hx
      · exact un.slot b o e (hnone b n') hb hx
      · have hbD : b ≠ D := fun z => by rw [z, hD] at n'; cases n'
        rw [upd_ne hbD]
        exact un.free b o e (hnone b n') hx
      · have hbD := nl b _ e fun ys z => nomatch z
        rw [upd_ne hbD]
        exact un.tups b ys (by rw [hid_ne hbD]; exact e)
      · have hbD := nl b _ e fun ys z => nomatch z
        rw [upd_ne hbD]
        exact un.frzs b o' u' (by rw [hid_ne hbD]; exact e)
      · have hbD := nl b _ e fun ys z => nomatch z
        rw [upd_ne hbD]
        exact un.tbls b ps (by rw [hid_ne hbD]; exact e)
      · by_cases hbD : b = D
        · rw [hbD, upd_same] at e
          cases e
          rw [hbD]
          exact ⟨hz, its, n, rl, kD⟩
        · rw [upd_ne hbD] at e
          refine (hok b o e).stay (fun c u' _ q' => q') (fun c q' => ?_) (fun c ys q' => ?_)
          · rw [upd_ne (ne_of_none q' fD)]
            exact q'
          · rw [upd_ne (ne_of_none q' fD)]
            exact q'
    | next => exact False.elim hq
    | brk => exact False.elim hq
    | cont => exact False.elim hq
end Cu

/-! == Core1 -/
set_option maxHeartbeats 4000000
/-! ### what stands in the heap -/
namespace Cu
open PySem PySem.Spec PyProof.Rows L2 Evl CuT
def brV : Option Str → V
  | none => .non
  | some w => .str w
def flds (k : Kind) (l : Addr) (n : Int) (w : Addr) (nd d s : Int) (b : Option Str) : List (Str × V) :=
  [("kind", .str k.s), ("parts", .ref l), ("number", .int n), ("words", .ref w), ("nodes", .int nd), ("depth", .int d), ("span", .int s), ("broken", brV b)]
/-- the program p stands at a -/
inductive IsP (C : Addr) (H : Hp) : Addr → Prog → Prop where
  | mk {a dx l w : Addr} {as : List Addr} {k : Kind} {ps : List Prog} {n : Int} {ws : List Str} {nd d s : Int} {b : Option Str} (ha : H a = some (.ins C dx (flds k l n w nd d s b))) (hl : H l = some (.lst (as.map V.ref)))
      (hw : H w = some (.lst (ws.map V.str))) (len : as.length = ps.length) (sub : ∀ (i : Nat) (x : Addr) (q : Prog), as[i]? = some x → ps[i]? = some q → IsP C H x q) : IsP C H a (.mk k ps n ws nd d s b)
/-- the programs ps stand in the list at l -/
def PL (C : Addr) (H : Hp) (l : Addr) (ps : List Prog) : Prop := ∃ as : List Addr, H l = some (.lst (as.map V.ref)) ∧ as.length = ps.length ∧ ∀ (i : Nat) (x : Addr) (q : Prog), as[i]? = some x → ps[i]? = some q → IsP C H x q
section
variable {C : Addr} {H H' : Hp} {a l : Addr} {p : Prog} {ps : List Prog}
theorem IsP.ext (e : Ex H H') (h : IsP C H a p) : IsP C H' a p := by
  induction h with
  | mk ha hl hw len sub ih => exact .mk (e _ _ ha) (e _ _ hl) (e _ _ hw) len ih
theorem PL.ext (e : Ex H H') (h : PL C H l ps) : PL C H' l ps := by
  obtain ⟨as, h1, h2, h3⟩ := h
  exact ⟨as, e _ _ h1, h2, fun i x q a b => (h3 i x q a b).ext e⟩
theorem IsP.at_ (h : IsP C H a p) : ∃ dx l w, H a = some (.ins C dx (flds p.kind l p.number w p.nodes p.depth p.span p.broken)) ∧ PL C H l p.parts ∧ H w = some (.lst (p.words.map V.str)) := by
  cases h with
  | mk ha hl hw len sub => exact ⟨_, _, _, ha, ⟨_, hl, len, sub⟩, hw⟩
theorem PL.len (h : PL C H l ps) : ∃ as : List Addr, H l = some (.lst (as.map V.ref)) ∧ as.length = ps.length ∧ ∀ (i : Nat) (p : Prog), ps[i]? = some p → ∃ x, as[i]? = some x ∧ IsP C H x p := by
  obtain ⟨as, h1, h2, h3⟩ := h
  refine ⟨as, h1, h2, fun i p hp => ?_⟩
  have hi : i < as.length := by
    rw [h2]
    exact (List.getElem?_eq_some_iff.mp hp).1
  exact ⟨as[i], List.getElem?_eq_getElem hi, h3 i _ p (List.getElem?_eq_getElem hi) hp⟩
/-- the i-th of them -/
theorem PL.get (h : PL C H l ps) {i : Nat} (hp : ps[i]? = some p) : ∃ x, IsP C H x p ∧ ∃ xs : List V, H l = some (.lst xs) ∧ xs[i]? = some (.ref x) := by
  obtain ⟨as, h1, h2, h3⟩ := h.len
  obtain ⟨x, hx, q⟩ := h3 i p hp
  exact ⟨x, q, _, h1, by rw [List.getElem?_map, hx] <;> rfl⟩
end
/-! ### evaluation, further words -/
section
variable {K : PySem.W.Frag} {σ : L2.St} {H : Hp} {ta te : TE} {a C dx : Addr} {fs : List (Str × V)} {f : Str} {v : V}
theorem ev_fld (h : Ev ta σ H (.ref a)) (ho : H a = some (.ins C dx fs)) (hc : Cls K C) (hn : NoAttr K C f) (hl : fs.lookup f = some v) : Ev (tFld K ta f) σ H v := fun H1 e Q q =>
  h H1 e _ fun H2 e2 => ⟨a, C, dx, fs, v, rfl, e2 _ _ (e _ _ ho), hc, hn, hl, q H2 e2⟩
theorem ev_callR {sp : Sp} {vs : List V} {E : XK} {ta : TA} {z : V} (h : EvA ta σ H vs) (hs : SpV sp vs H z) : Ev (tCallR sp E ta) σ H z := fun H1 e Q q =>
  h H1 e _ fun H2 e2 => hs H2 (e.trans e2) Q (fun H3 e3 => q H3 (e2.trans e3)) E
theorem ev_min2 {i j : Int} {tb : TE} (ha : Ev ta σ H (.int i)) (hb : Ev tb σ H (.int j)) : Ev (tCB (fun xs H Q => ∃ i j, xs = [.int i, .int j] ∧ Q (.int (if j < i then j else i)) H) (tCons ta (tCons tb tNil))) σ H (.int (min i j)) := fun H1 e Q q =>
  ha H1 e _ fun H2 e2 => hb H2 (e.trans e2) _ fun H3 e3 => ⟨i, j, rfl, by
    have h : (if j < i then j else i) = min i j := by
      by_cases h : j < i
      · rw [if_pos h, Int.min_eq_right (by omega)]
      · rw [if_neg h, Int.min_eq_left (by omega)]
    rw [h]
    exact q H3 (e2.trans e3)⟩
theorem et_cmp {g : Int → Int → Bool} {tb : TE} {i j : Int} (ha : Ev ta σ H (.int i)) (hb : Ev tb σ H (.int j)) : EvT (tTest (tOp (rI0 fun i j => .bl (g i j)) ta tb)) σ H (g i j) := et_test (ev_op ha hb rv_I0)
theorem et_eqI {tb : TE} {i j : Int} (ha : Ev ta σ H (.int i)) (hb : Ev tb σ H (.int j)) : EvT (tTest (tOp rEq ta tb)) σ H (decide (i = j)) := by
  have h := et_test (ev_op ha hb (rv_eq (H := H) (x := .int i) (y := .int j) rfl))
  refine et_is h ?_
  by_cases e : i = j
  · subst e
    simp
  · rw [decide_eq_false e, decide_eq_false (fun z => e (V.int.inj z))]
theorem et_eqS {tb : TE} {x y : Str} (ha : Ev ta σ H (.str x)) (hb : Ev tb σ H (.str y)) : EvT (tTest (tOp rEq ta tb)) σ H (decide (x = y)) := by
  have h := et_test (ev_op ha hb (rv_eq (H := H) (x := .str x) (y := .str y) rfl))
  refine et_is h ?_
  by_cases e : x = y
  · subst e
    simp
  · rw [decide_eq_false e, decide_eq_false (fun z => e (V.str.inj z))]
theorem et_isN (ha : Ev ta σ H v) : EvT (tTest (tOp rIsN ta (tC .non))) σ H (decide (v = .non)) := et_test (ev_op ha ev_c fun H1 _ _ q => ⟨rfl, q H1 (Ex.refl H1)⟩)
theorem et_notN (ha : Ev ta σ H v) : EvT (tTest (tOp rNotN ta (tC .non))) σ H (!decide (v = .non)) := et_test (ev_op ha ev_c fun H1 _ _ q => ⟨rfl, q H1 (Ex.refl H1)⟩)
end
theorem brV_non {b : Option Str} : decide (brV b = .non) = b.isNone := by
  cases b with
  | none => rfl
  | some w => rfl
theorem pe_gi {X : Cx} {x : Str} {i : Int} {pos : Pos} (hg : Gl X x) (hm : ∃ t, X.mg x = some (.int i t)) (hd : (x == ("__debug__" : Str)) = false := by decide) : PE X (.Name x pos) (tC (.int i)) := by
  obtain ⟨t, hm⟩ := hm
  exact pe_glob hg hm ⟨t, rfl⟩ (by first | exact hd | decide)
section
variable {P : Program} {w : World} {K : PySem.W.Frag} {mg : Str → Option Value} {base : Heap}
abbrev PC (K : PySem.W.Frag) : Addr := He.ga K "Program"
section
variable (T : Txt K mg) {σ : L2.St} {H : Hp} {ta : TE} {a : Addr} {p : Prog}
include T
theorem ev_span (h : Ev ta σ H (.ref a)) (hp : IsP (PC K) H a p) : Ev (tFld K ta "span") σ H (.int p.span) := by
  obtain ⟨dx, l, w, ha, _⟩ := hp.at_
  exact ev_fld h ha T.cls_Program T.n_Program_span rfl
theorem ev_number (h : Ev ta σ H (.ref a)) (hp : IsP (PC K) H a p) : Ev (tFld K ta "number") σ H (.int p.number) := by
  obtain ⟨dx, l, w, ha, _⟩ := hp.at_
  exact ev_fld h ha T.cls_Program T.n_Program_number rfl
theorem ev_nodes (h : Ev ta σ H (.ref a)) (hp : IsP (PC K) H a p) : Ev (tFld K ta "nodes") σ H (.int p.nodes) := by
  obtain ⟨dx, l, w, ha, _⟩ := hp.at_
  exact ev_fld h ha T.cls_Program T.n_Program_nodes rfl
theorem ev_depth (h : Ev ta σ H (.ref a)) (hp : IsP (PC K) H a p) : Ev (tFld K ta "depth") σ H (.int p.depth) := by
  obtain ⟨dx, l, w, ha, _⟩ := hp.at_
  exact ev_fld h ha T.cls_Program T.n_Program_depth rfl
theorem ev_kind (h : Ev ta σ H (.ref a)) (hp : IsP (PC K) H a p) : Ev (tFld K ta "kind") σ H (.str p.kind.s) := by
  obtain ⟨dx, l, w, ha, _⟩ := hp.at_
  exact ev_fld h ha T.cls_Program T.n_Program_kind rfl
theorem ev_broken (h : Ev ta σ H (.ref a)) (hp : IsP (PC K) H a p) : Ev (tFld K ta "broken") σ H (brV p.broken) := by
  obtain ⟨dx, l, w, ha, _⟩ := hp.at_
  exact ev_fld h ha T.cls_Program T.n_Program_broken rfl
theorem ev_parts (h : Ev ta σ H (.ref a)) (hp : IsP (PC K) H a p) : ∃ l, PL (PC K) H l p.parts ∧ Ev (tFld K ta "parts") σ H (.ref l) := by
  obtain ⟨dx, l, w, ha, hl, _⟩ := hp.at_
  exact ⟨l, hl, ev_fld h ha T.cls_Program T.n_Program_parts rfl⟩
theorem ev_words (h : Ev ta σ H (.ref a)) (hp : IsP (PC K) H a p) : ∃ l, H l = some (.lst (p.words.map V.str)) ∧ Ev (tFld K ta "words") σ H (.ref l) := by
  obtain ⟨dx, l, w, ha, _, hw⟩ := hp.at_
  exact ⟨w, hw, ev_fld h ha T.cls_Program T.n_Program_words rfl⟩
end
/-- xs[i] of a list of programs -/
theorem ev_part {σ : L2.St} {H : Hp} {tl : TE} {l : Addr} {ps : List Prog} {p : Prog} {i : Nat} (h : Ev tl σ H (.ref l)) (hl : PL (PC K) H l ps) (hp : ps[i]? = some p) : ∃ x, IsP (PC K) H x p ∧ Ev (tOp (rIxL K) tl (tC (.int (i : Int)))) σ H (.ref x) := by
  obtain ⟨x, hx, xs, h1, h2⟩ := hl.get hp
  exact ⟨x, hx, ev_op h ev_c (rv_ixL (sq_of h1) (atI_nat h2))⟩

/-! ### promises -/
def spEnd (C : Addr) (n : Nat) : Sp := fun vs H Q _ => ∃ a p c, vs = [.ref a, .int c] ∧ IsP C H a p ∧ WF p ∧ p.depth ≤ n ∧ 0 ≤ c ∧ RetV (.int (endA p c)) H Q
def spSeqEnd (C : Addr) (n : Nat) : Sp := fun vs H Q _ => ∃ l ps c, vs = [.ref l, .int c] ∧ PL C H l ps ∧ (∀ p ∈ ps, WF p ∧ p.depth ≤ n) ∧ 0 ≤ c ∧ RetV (.int (endS ps 0 c)) H Q
theorem endS_nil (b c : Int) : endS [] b c = b := by unfold endS; rfl
theorem endS_cons (p : Prog) (r : List Prog) (b c : Int) : endS (p :: r) b c = if c < b + p.span then b + endA p (c - b) else endS r (b + p.span) c := by
  rw [endS]
theorem v_end {C : Addr} {n : Nat} {H : Hp} {a : Addr} {p : Prog} {c : Int} (h : IsP C H a p) (hw : WF p) (hd : p.depth ≤ n) (hc : 0 ≤ c) : SpV (spEnd C n) [.ref a, .int c] H (.int (endA p c)) :=
  fun H1 e Q q E => ⟨a, p, c, rfl, h.ext e, hw, hd, hc, q⟩
theorem v_seqEnd {C : Addr} {n : Nat} {H : Hp} {l : Addr} {ps : List Prog} {c : Int} (h : PL C H l ps) (hw : ∀ p ∈ ps, WF p ∧ p.depth ≤ n) (hc : 0 ≤ c) : SpV (spSeqEnd C n) [.ref l, .int c] H (.int (endS ps 0 c)) :=
  fun H1 e Q q E => ⟨l, ps, c, rfl, h.ext e, hw, hc, q⟩
/-- cutends.programs.end_of_sequence -/
abbrev N_end_of_sequence : List Str := ["parts", "cut", "begin", "part"]
theorem sc_end_of_sequence : FnScope N_end_of_sequence ["parts", "cut"] (defScope s_end_of_sequence) := ⟨rfl, rfl, rfl, by decide +kernel, rfl, by decide +kernel, by decide +kernel⟩

theorem r_end_of_sequence {n k : Nat} (T : Txt K mg) (G_end_after : FnR P w K mg base (L2.CX P w) k (He.ga K "end_after") (spEnd (PC K) n)) :
    FnR P w K mg base (L2.CX P w) (k + 1) (He.ga K "end_of_sequence") (spSeqEnd (PC K) n) := by
  refine fn_mk T.f_end_of_sequence sc_end_of_sequence (fun _ _ _ _ _ _ us hl => match us, hl with | [_, _], _ => rfl) (fun vs H Q E h => ?_) (fun cdv A outer s H vs Q E hr h => ?_)
  · obtain ⟨l, ps, c, rfl, _⟩ := h
    rfl
  obtain ⟨l, ps, c, rfl, hl, hw, hc, q⟩ := h
  refine ⟨_, PSs.nox ((pss_cons (ps_set (i := 2) sc_end_of_sequence.nd rfl (Or.inl rfl) pe_int)
    (pss_cons (ps_for PassesOwn.never rfl (pi_list (pv 0)) (pg_name (i := 3) sc_end_of_sequence.nd rfl (Or.inl rfl)) (pss_cons (ps_if (pt_cmpR op_lt (pv 1) (pe_op op_add (pv 2) (pe_fld (pv 3) rfl)) (nomark _)) (pss_one (ps_ret (pe_op op_add (pv 2) (pe_callR G_end_after (hr.mono (by omega)) rfl T.g_end_after (kp_of T.f_end_after) passL (pa_cons (pv 3) (pa_cons (pe_op op_sub (pv 1) (pv 2)) pa_nil)))))) pss_nil)
    (pss_one (ps_set (i := 2) sc_end_of_sequence.nd rfl (Or.inl rfl) (pe_op op_add (pv 2) (pe_fld (pv 3) rfl))))))
    (pss_one (ps_ret (pv 2)))))), ?_⟩
  obtain ⟨as, h1, h2, h3⟩ := hl
  refine q_asg ev_c fun H1 e1 => ?_
  refine q_forLn (xs := as.map V.ref) (ev_var rfl) (sq_of (e1 _ _ h1))
    (fun i σ' H' => Ex H H' ∧ ∃ b v, σ' = [some (.ref l), some (.int c), some (.int b), v] ∧ b ≤ c ∧ endS ps 0 c = endS (ps.drop i) b c) (fun H2 e2 => ⟨e1.trans e2, 0, none, rfl, hc, rfl⟩) (fun i σ' H' hi hP => sq_of (hP.1 _ _ h1)) (fun i x σ' H' hx hP => ?_) (fun σ' H' hP => ?_)
  · obtain ⟨e3, b, v, rfl, hb, he⟩ := hP
    rw [List.getElem?_map] at hx
    obtain ⟨y, hy, rfl⟩ := Option.map_eq_some_iff.mp hx
    have hi : i < as.length := (List.getElem?_eq_some_iff.mp hy).1
    have hpi : ps[i]? = some ps[i] := List.getElem?_eq_getElem (by omega)
    have hip := (h3 i y _ hy hpi).ext e3
    have hpd : ps.drop i = ps[i] :: ps.drop (i + 1) := List.drop_eq_getElem_cons (by omega)
    have hm : ps[i] ∈ ps := List.getElem_mem _
    rw [hpd, endS_cons] at he
    refine q_when (et_cmp (ev_var rfl) (ev_op (ev_var rfl) (ev_span T (ev_var rfl) hip) rv_I0)) (fun hb1 H4 e4 => ?_) (fun hb1 H4 e4 => ?_)
    · have hlt : c < b + ps[i].span := of_decide_eq_true hb1
      rw [if_pos hlt] at he
      refine s_ret (v := .int (endS ps 0 c)) (ev_is (ev_op (ev_var rfl) (ev_callR (ea_cons (ev_var rfl) (ea_cons (ev_op (ev_var rfl) (ev_var rfl) rv_I0) ea_nil)) (v_end (hip.ext e4) (hw _ hm).1 (hw _ hm).2 (by omega))) rv_I0) (by rw [he])) fun H5 e5 => ?_
      exact q H5 ((e3.trans e4).trans e5)
    · have hlt : ¬ c < b + ps[i].span := of_decide_eq_false hb1
      rw [if_neg hlt] at he
      refine s_asg (ev_op (ev_var rfl) (ev_span T (ev_var rfl) (hip.ext e4)) rv_I0) fun H5 e5 => ?_
      exact ⟨(e3.trans e4).trans e5, b + ps[i].span, _, rfl, by omega, he⟩
  · obtain ⟨e3, b, v, rfl, hb, he⟩ := hP
    rw [List.length_map, h2, List.drop_length, endS_nil] at he
    refine s_ret (ev_var rfl) fun H5 e5 => ?_
    rw [← he]
    exact q H5 (e3.trans e5)
end
end Cu

/-! == Core2 -/
set_option maxHeartbeats 4000000
namespace Cu
open PySem PySem.Spec PyProof.Rows L2 Evl CuT
/-! ### lists of programs with their places -/
section
variable {C : Addr} {H H' : Hp} {l : Addr} {ps : List Prog}
theorem PL.zs (h : PL C H l ps) : ∃ zs : List (Addr × Prog), H l = some (.lst (zs.map fun z => V.ref z.1)) ∧ ps = zs.map (·.2) ∧ ∀ z ∈ zs, IsP C H z.1 z.2 := by
  obtain ⟨as, h1, h2, h3⟩ := h
  refine ⟨as.zip ps, ?_, ?_, fun z hz => ?_⟩
  · rw [h1]
    have e : (as.zip ps).map (fun z => V.ref z.1) = ((as.zip ps).map Prod.fst).map V.ref := by rw [List.map_map]; rfl
    rw [e, List.map_fst_zip (by omega)]
  · exact (List.map_snd_zip (by omega)).symm
  · obtain ⟨i, hi, e⟩ := List.mem_iff_getElem.mp hz
    have e1 : (as.zip ps)[i]? = some z := by rw [List.getElem?_eq_getElem hi, e]
    obtain ⟨e2, e3⟩ := List.getElem?_zip_eq_some.mp e1
    exact h3 i _ _ e2 e3
theorem PL.of {zs : List (Addr × Prog)} (h : H l = some (.lst (zs.map fun z => V.ref z.1))) (hz : ∀ z ∈ zs, IsP C H z.1 z.2) : PL C H l (zs.map (·.2)) := by
  refine ⟨zs.map (·.1), ?_, by rw [List.length_map, List.length_map], fun i x q hx hq => ?_⟩
  · rw [h, List.map_map]
    rfl
  · rw [List.getElem?_map] at hx hq
    obtain ⟨z, hz1, rfl⟩ := Option.map_eq_some_iff.mp hx
    rw [hz1] at hq
    have e : z.2 = q := Option.some.inj hq
    subst e
    exact hz z (List.mem_of_getElem? hz1)
end
/-! ### comprehensions over a list, by lists -/
theorem given_eq {α : Type} (f : α → Bool) (g : α → V) : ∀ zs : List α, given zs.length (fun i => match zs[i]? with | some z => f z | none => false) (fun i => match zs[i]? with | some z => g z | none => .non) = (zs.filter f).map g := by
  intro zs
  have key : ∀ n, n ≤ zs.length → given n (fun i => match zs[i]? with | some z => f z | none => false) (fun i => match zs[i]? with | some z => g z | none => .non) = ((zs.take n).filter f).map g := by
    intro n
    induction n with
    | zero => intro _; rfl
    | succ n ih =>
      intro hn
      have hlt : n < zs.length := hn
      have e : zs[n]? = some zs[n] := List.getElem?_eq_getElem hlt
      rw [List.take_succ, e]
      cases hb : f zs[n] with
      | true =>
        rw [given_yes (by show (match zs[n]? with | some z => f z | none => false) = true; rw [e]; exact hb), ih (by omega), List.filter_append, List.map_append]
        show _ ++ [match zs[n]? with | some z => g z | none => V.non] = _
        rw [e]
        simp [hb]
      | false =>
        rw [given_no (by show (match zs[n]? with | some z => f z | none => false) = false; rw [e]; exact hb), ih (by omega), List.filter_append]
        simp [hb]
  rw [key zs.length (Nat.le_refl _), List.take_length]
section
variable {K : PySem.W.Frag} {σ : L2.St} {H : Hp} {te : TE} {t : TT}
theorem el_comp {α : Type} {zs : List α} {toV : α → V} {tl : TE} {j : Nat} {vs : List Nat} (f : α → Bool) (g : α → V) {a : Addr} (h : Ev tl σ H (.ref a)) (hx : SqL K H a (zs.map toV)) (hz : zs.length ≤ 40000) (hw : ∀ x, wipe ((wipe σ vs).set j (some x)) vs = wipe σ vs)
    (ht : ∀ z H1, Ex H H1 → z ∈ zs → EvT t ((wipe σ vs).set j (some (toV z))) H1 (f z)) (he : ∀ z H1, Ex H H1 → z ∈ zs → f z = true → Ev te ((wipe σ vs).set j (some (toV z))) H1 (g z)) :
    EvL (tLc (iList K tl) (gName j) t te vs) σ H ((zs.filter f).map g) := by
  have q := el_lcL (K := K) (t := t) (te := te) (σ := σ) (H := H) (tl := tl) (j := j) (vs := vs) (xs := zs.map toV) (fun i => match zs[i]? with | some z => f z | none => false) (fun i => match zs[i]? with | some z => g z | none => .non) h hx (by rw [List.length_map]; exact hz) hw
    (fun i x H1 e hi => by
      rw [List.getElem?_map] at hi
      obtain ⟨z, hz1, rfl⟩ := Option.map_eq_some_iff.mp hi
      have := ht z H1 e (List.mem_of_getElem? hz1)
      rw [hz1]
      exact this) (fun i x H1 e hi hf => by
      rw [List.getElem?_map] at hi
      obtain ⟨z, hz1, rfl⟩ := Option.map_eq_some_iff.mp hi
      rw [hz1] at hf
      have := he z H1 e (List.mem_of_getElem? hz1) hf
      rw [hz1]
      exact this)
  rw [List.length_map, given_eq] at q
  exact q
theorem et_true : EvT (fun _ H Q => Q true H) σ H true := fun H1 _ _ q => q H1 (Ex.refl H1)
/-- .. without an if -/
theorem el_map {α : Type} {zs : List α} {toV : α → V} {tl : TE} {j : Nat} {vs : List Nat} (g : α → V) {a : Addr} (h : Ev tl σ H (.ref a)) (hx : SqL K H a (zs.map toV)) (hz : zs.length ≤ 40000) (hw : ∀ x, wipe ((wipe σ vs).set j (some x)) vs = wipe σ vs)
    (he : ∀ z H1, Ex H H1 → z ∈ zs → Ev te ((wipe σ vs).set j (some (toV z))) H1 (g z)) : EvL (tLc (iList K tl) (gName j) tYes te vs) σ H (zs.map g) := by
  have q := el_comp (K := K) (t := tYes) (te := te) (zs := zs) (toV := toV) (j := j) (vs := vs) (fun _ => true) g h hx hz hw (fun _ H1 _ _ => fun H2 _ _ q => q H2 (Ex.refl H2)) (fun z H1 e hz _ => he z H1 e hz)
  rw [List.filter_eq_self.mpr (fun _ _ => rfl)] at q
  exact q
theorem ev_max {ns : List Int} (h : EvL te σ H (ns.map V.int)) (hne : ns ≠ []) : Ev (tCB (rMax K) (tCons te tNil)) σ H (.int (maxL ns)) := fun H1 e Q q =>
  h H1 e _ fun p H2 _ e2 hp => ⟨p, ns, rfl, sq_of hp, List.length_pos_iff.mpr hne, fun m hm hle => by
    rw [maxL_unique hm hle]
    exact q H2 e2⟩
theorem ev_sum {ns : List Int} (h : EvL te σ H (ns.map V.int)) : Ev (tCB (rSum K) (tCons te tNil)) σ H (.int ns.sum) := fun H1 e Q q =>
  h H1 e _ fun p H2 _ e2 hp => ⟨p, ns, rfl, sq_of hp, q H2 e2⟩
theorem et_eqNil {ta : TE} {p : Addr} {xs : List V} (h : Ev ta σ H (.ref p)) (hp : H p = some (.lst xs)) : EvT (tTest (tOp (rEqNil true) ta (tLst tNil))) σ H xs.isEmpty :=
  et_test (ev_opL h (el_lst ea_nil (by decide)) fun q H1 hq e => fun H2 e2 Q k => ⟨p, q, xs, rfl, rfl, e2 _ _ (e _ _ hp), e2 _ _ hq, k H2 (Ex.refl H2)⟩)
variable {D : Ends} {tu tw tz : TS}
theorem q_no (h : EvT t σ H false) (k : ∀ H1, Ex H H1 → tz D σ H1) : tSeq (tIfS t tu tNext) tz D σ H := q_when h (fun z => nomatch z) fun _ => k
theorem q_yes (h : EvT t σ H true) (k : ∀ H1, Ex H H1 → tu { D with nx := tz D } σ H1) : tSeq (tIfS t tu tw) tz D σ H := q_if h (fun _ => k) fun z => nomatch z
/-- a test by a word -/
theorem q_by {b : Bool} {A : Prop} [Decidable A] (h : EvT t σ H b) (hb : b = decide A) (h1 : A → ∀ H1, Ex H H1 → tu { D with nx := tz D } σ H1) (h2 : ¬ A → ∀ H1, Ex H H1 → tz D σ H1) : tSeq (tIfS t tu tNext) tz D σ H := by
  subst hb
  exact q_when h (fun z => h1 (of_decide_eq_true z)) fun z => h2 (of_decide_eq_false z)
end
section
variable {P : Program} {w : World} {K : PySem.W.Frag} {mg : Str → Option Value} {base : Heap}
/-! ### end_of_loop -/
def spLoopEnd (C : Addr) (n : Nat) : Sp := fun vs H Q _ => ∃ a p m c, vs = [.ref a, .int m, .int c] ∧ IsP C H a p ∧ WF p ∧ p.depth ≤ n ∧ 0 ≤ m ∧ m ≤ mostT ∧ 0 ≤ c ∧
  RetV (.int (let r := if p.span = 0 then 0 else min (c / p.span) (m - 1); r * p.span + endA p (c - r * p.span))) H Q
theorem v_loopEnd {C : Addr} {n : Nat} {H : Hp} {a : Addr} {p : Prog} {m c : Int} (h : IsP C H a p) (hw : WF p) (hd : p.depth ≤ n) (h0 : 0 ≤ m) (h1 : m ≤ mostT) (hc : 0 ≤ c) :
    SpV (spLoopEnd C n) [.ref a, .int m, .int c] H (.int (let r := if p.span = 0 then 0 else min (c / p.span) (m - 1); r * p.span + endA p (c - r * p.span))) := fun H1 e Q q E => ⟨a, p, m, c, rfl, h.ext e, hw, hd, h0, h1, hc, q⟩
theorem round_le {c S m : Int} (hS : 0 ≤ S) (hc : 0 ≤ c) (hm : 0 ≤ m) (hm2 : m ≤ mostT) (r : Int) (h : r = if S = 0 then 0 else min (c / S) (m - 1)) : r.natAbs < 2 ^ 100 ∧ r * S ≤ c := by
  have e : mostT < 2 ^ 100 := by decide
  by_cases hz : S = 0
  · rw [if_pos hz] at h
    subst h
    rw [hz]
    exact ⟨by decide, by omega⟩
  · rw [if_neg hz] at h
    have h3 : 0 ≤ c / S := Int.ediv_nonneg hc hS
    have r1 : r ≤ c / S := by omega
    have r2 : r ≤ m - 1 := by omega
    have r3 : -1 ≤ r := by omega
    refine ⟨by omega, ?_⟩
    have k := (round_facts (S := S) (c := c) (by omega) hc).2.1
    have := Int.mul_le_mul_of_nonneg_right r1 hS
    omega
abbrev N_end_of_loop : List Str := ["part", "count", "cut", "rounds"]
theorem sc_end_of_loop : FnScope N_end_of_loop ["part", "count", "cut"] (defScope s_end_of_loop) := ⟨rfl, rfl, rfl, by decide +kernel, rfl, by decide +kernel, by decide +kernel⟩

theorem r_end_of_loop {n k : Nat} (T : Txt K mg) (G_end_after : FnR P w K mg base (L2.CX P w) k (He.ga K "end_after") (spEnd (PC K) n)) :
    FnR P w K mg base (L2.CX P w) (k + 1) (He.ga K "end_of_loop") (spLoopEnd (PC K) n) := by
  refine fn_mk T.f_end_of_loop sc_end_of_loop (fun _ _ _ _ _ _ us hl => match us, hl with | [_, _, _], _ => rfl) (fun vs H Q E h => ?_) (fun cdv A outer s H vs Q E hr h => ?_)
  · obtain ⟨a, p, m, c, rfl, _⟩ := h
    rfl
  obtain ⟨a, p, m, c, rfl, hp, hw, hd, h0, h1, hc, q⟩ := h
  refine ⟨_, PSs.nox ((pss_cons (ps_set (i := 3) sc_end_of_loop.nd rfl (Or.inl rfl) (pe_ifExp (pt_cmpR op_eq (pe_fld (pv 0) rfl) pe_int (nomark _)) pe_int (pe_callB (call_min2 rfl) (by rfl) T.b_min (by decide +kernel) (pa_cons (pe_op op_fdivW (pv 2) (pe_fld (pv 0) rfl)) (pa_cons (pe_op op_sub (pv 1) pe_int) pa_nil)))))
    (pss_one (ps_ret (pe_op op_add (pe_op op_mulW (pv 3) (pe_fld (pv 0) rfl)) (pe_callR G_end_after (hr.mono (by omega)) rfl T.g_end_after (kp_of T.f_end_after) passL (pa_cons (pv 0) (pa_cons (pe_op op_sub (pv 2) (pe_op op_mulW (pv 3) (pe_fld (pv 0) rfl))) pa_nil)))))))), ?_⟩
  have sp := (wf_good hw).sp
  have sb := span_bits hw
  obtain ⟨rb, rl⟩ := round_le sp hc h0 h1 _ rfl
  have er : Ev (tIf (tTest (tOp rEq (tFld K (tVar 0) "span") (tC (.int 0)))) (tC (.int 0)) (tCB (fun xs H Q => ∃ i j, xs = [.int i, .int j] ∧ Q (.int (if j < i then j else i)) H) (tCons (tOp (rI CDivW fun i j => .int (i / j)) (tVar 2) (tFld K (tVar 0) "span")) (tCons (tOp (rI0 fun i j => .int (i - j)) (tVar 1) (tC (.int 1))) tNil))))
      (start N_end_of_loop [.ref a, .int m, .int c]) H (.int (if p.span = 0 then 0 else min (c / p.span) (m - 1))) := by
    refine ev_if (et_eqI (ev_span T (ev_var rfl) hp) ev_c) (fun hb => ?_) (fun hb => ?_)
    · rw [if_pos (of_decide_eq_true hb)]
      exact ev_c
    · have hz : ¬ p.span = 0 := of_decide_eq_false hb
      rw [if_neg hz]
      exact ev_min2 (ev_op (ev_var rfl) (ev_span T (ev_var rfl) hp) (rv_I (wide_div (by omega) sb (by decide) (by decide)))) (ev_op (ev_var rfl) ev_c rv_I0)
  refine q_asg er fun H1 e1 => ?_
  generalize hrr : (if p.span = 0 then 0 else min (c / p.span) (m - 1)) = r at *
  have hp1 := hp.ext e1
  refine s_ret (ev_op (ev_op (ev_var rfl) (ev_span T (ev_var rfl) hp1) (rv_I (wide_mul rb sb (by decide) (by decide) (by decide))))
    (ev_callR (ea_cons (ev_var rfl) (ea_cons (ev_op (ev_var rfl) (ev_op (ev_var rfl) (ev_span T (ev_var rfl) hp1) (rv_I (wide_mul rb sb (by decide) (by decide) (by decide)))) rv_I0) ea_nil)) (v_end hp1 hw hd (by omega))) rv_I0) fun H2 e2 => ?_
  exact q H2 (e1.trans e2)
/-! ### length_of, first_failure -/
def spLen (C : Addr) : Sp := fun vs H Q _ => ∃ a p, vs = [.ref a] ∧ IsP C H a p ∧ Q (.int p.span) H
abbrev N_length_of : List Str := ["program"]
theorem sc_length_of : FnScope N_length_of ["program"] (defScope s_length_of) := ⟨rfl, rfl, rfl, by decide +kernel, rfl, by decide +kernel, by decide +kernel⟩

theorem r_length_of (T : Txt K mg) : FnR P w K mg base (L2.CX P w) 1 (He.ga K "length_of") (spLen (PC K)) := by
  refine fn_mk T.f_length_of sc_length_of (fun _ _ _ _ _ _ us hl => match us, hl with | [_], _ => rfl) (fun vs H Q E h => ?_) (fun cdv A outer s H vs Q E hr h => ?_)
  · obtain ⟨a, p, rfl, _⟩ := h
    rfl
  obtain ⟨a, p, rfl, hp, q⟩ := h
  refine ⟨_, PSs.nox ((pss_one (ps_ret (pe_fld (pv 0) rfl)))), ?_⟩
  obtain ⟨dx, l, w, ha, _⟩ := hp.at_
  exact ⟨_, rfl, a, _, dx, _, _, rfl, ha, T.cls_Program, T.n_Program_span, rfl, q⟩
/-- what stands for the first failure -/
def FFV (C : Addr) (H : Hp) (v : V) : Option Prog → Prop
  | none => v = .non
  | some f => ∃ x, v = .ref x ∧ IsP C H x f
def spFF (C : Addr) : Sp := fun vs H Q _ => ∃ l ps, vs = [.ref l] ∧ PL C H l ps ∧ ps.length ≤ 1000 ∧ ∀ H' v, Ex H H' → FFV C H' v (firstFail ps) → Q v H'
abbrev N_first_failure : List Str := ["parts", "broken", "part"]
theorem sc_first_failure : FnScope N_first_failure ["parts"] (defScope s_first_failure) := ⟨rfl, rfl, rfl, by decide +kernel, rfl, by decide +kernel, by decide +kernel⟩

theorem r_first_failure (T : Txt K mg) : FnR P w K mg base (L2.CX P w) 3 (He.ga K "first_failure") (spFF (PC K)) := by
  have G_length_of : FnR P w K mg base (L2.CX P w) 1 (He.ga K "length_of") (spLen (PC K)) := r_length_of T
  refine fn_mk T.f_first_failure sc_first_failure (fun _ _ _ _ _ _ us hl => match us, hl with | [_], _ => rfl) (fun vs H Q E h => ?_) (fun cdv A outer s H vs Q E hr h => ?_)
  · obtain ⟨l, ps, rfl, _⟩ := h
    rfl
  obtain ⟨l, ps, rfl, hl, hlen, q⟩ := h
  refine ⟨_, PSs.nox ((pss_cons (ps_setLc (i := 1) (own := [("part", 2)]) (g := gName 2) (tt := (tTest (tOp rNotN (tFld K (tVar 2) "broken") (tC .non)))) (te := (tVar 2)) (by rfl) sc_first_failure.nd rfl rfl (sw_true rfl rfl rfl (by decide +kernel)) (pi_list (pv 0)) (blkOk_by (own := [("part", 2)]) (N := N_first_failure) (sc := defScope s_first_failure) (by decide +kernel)) (fun _ _ _ _ _ => (pg_name (i := 2) sc_first_failure.nd rfl (Or.inl rfl))) (fun _ _ _ _ _ => (pts_one (pt_cmpR op_notN1 (pe_fld (pv 2) rfl) pe_non (nomark _)))) (fun _ _ _ _ _ => (pv 2)))
    (pss_one (ps_ret (pe_ifExp (pt_cmpR (op_eqNil hr.units0) (pv 1) (pe_lst pa_nil) (nomark _)) pe_non (pe_callBK (cr_minKey rfl G_length_of (hr.mono (by omega))) (by rfl) T.b_min (by decide +kernel) (pa_cons (pv 1) pa_nil) (pk_cons (pe_glob (v := .ref (He.ga K "length_of")) rfl T.g_length_of rfl) pk_nil))))))), ?_⟩
  obtain ⟨zs, h1, h2, h3⟩ := hl.zs
  have hlz : zs.length ≤ 1000 := by rw [h2, List.length_map] at hlen; exact hlen
  refine q_asgL (el_comp (zs := zs) (toV := fun z => V.ref z.1) (fun z => z.2.broken.isSome) (fun z => V.ref z.1) (ev_var rfl) (sq_of h1) (by omega) (fun _ => rfl) (fun z H1 e hz => ?_) (fun z H1 e hz _ => ev_var rfl)) fun p H1 hp e1 hp1 => ?_
  · refine et_is (et_notN (ev_broken T (ev_var rfl) ((h3 z hz).ext e))) ?_
    rw [brV_non]
    cases z.2.broken <;> rfl
  have hsub : ∀ z ∈ zs.filter (fun z => z.2.broken.isSome), IsP (PC K) H1 z.1 z.2 := fun z hz => (h3 z (List.mem_filter.mp hz).1).ext e1
  have eF : ps.filter (fun p => p.broken.isSome) = (zs.filter (fun z => z.2.broken.isSome)).map (·.2) := by
    rw [h2, List.filter_map]
    rfl
  have eFF : firstFail ps = minBy ((zs.filter (fun z => z.2.broken.isSome)).map (·.2)) := by
    unfold firstFail
    rw [eF]
  generalize zs.filter (fun z => z.2.broken.isSome) = ys at *
  show tIf _ _ _ _ H1 Q
  refine et_eqNil (ev_var rfl) hp1 H1 (Ex.refl H1) _ fun H2 e2 => ?_
  cases ys with
  | nil =>
    show Q .non H2
    refine q H2 .non (e1.trans e2) ?_
    rw [eFF]
    exact rfl
  | cons y r =>
    rw [if_neg (by simp)]
    have hsub2 : ∀ z ∈ y :: r, IsP (PC K) H2 z.1 z.2 := fun z hz => (hsub z hz).ext e2
    refine ⟨_, rfl, p, _, fun i => (((y :: r)[i]?).map fun z => z.2.span).getD 0, rfl, rfl, sq_of (e2 _ _ hp1), by simp, fun i x hx => ?_, fun i x hx hmin => ?_⟩
    · rw [List.getElem?_map] at hx
      obtain ⟨z, hz, rfl⟩ := Option.map_eq_some_iff.mp hx
      refine ⟨z.1, z.2, rfl, hsub2 z (List.mem_of_getElem? hz), ?_, rfl⟩
      dsimp only
      rw [hz]
      rfl
    · rw [List.getElem?_map] at hx
      obtain ⟨z, hz, rfl⟩ := Option.map_eq_some_iff.mp hx
      refine q H2 _ (e1.trans e2) ?_
      have em : minBy ((y :: r).map (·.2)) = some z.2 := by
        refine minBy_first (i := i) (by rw [List.getElem?_map, hz]; rfl) fun j qq hj => ?_
        rw [List.getElem?_map] at hj
        obtain ⟨z', hz', rfl⟩ := Option.map_eq_some_iff.mp hj
        have hjl : j < (y :: r).length := (List.getElem?_eq_some_iff.mp hz').1
        have hm := hmin j (by rw [List.length_map]; exact hjl)
        dsimp only at hm
        rw [hz, hz'] at hm
        exact hm
      rw [eFF, em]
      exact ⟨z.1, rfl, hsub2 z (List.mem_of_getElem? hz)⟩
/-! ### end_of_group -/
def spGrpEnd (C : Addr) (n : Nat) : Sp := fun vs H Q _ => ∃ l ps s c, vs = [.ref l, .int s, .int c] ∧ PL C H l ps ∧ ps.length ≤ 1000 ∧ (∀ p ∈ ps, WF p ∧ p.depth ≤ n) ∧ 0 ≤ c ∧ ((∀ f, firstFail ps = some f → c < f.span) → endL ps c ≠ []) ∧ RetV (.int (endG ps s c)) H Q
theorem v_grpEnd {C : Addr} {n : Nat} {H : Hp} {l : Addr} {ps : List Prog} {s c : Int} (h : PL C H l ps) (hl : ps.length ≤ 1000) (hw : ∀ p ∈ ps, WF p ∧ p.depth ≤ n) (hc : 0 ≤ c) (hn : (∀ f, firstFail ps = some f → c < f.span) → endL ps c ≠ []) :
    SpV (spGrpEnd C n) [.ref l, .int s, .int c] H (.int (endG ps s c)) := fun H1 e Q q E => ⟨l, ps, s, c, rfl, h.ext e, hl, hw, hc, hn, q⟩
abbrev N_end_of_group : List Str := ["parts", "whole", "cut", "first", "part"]
theorem sc_end_of_group : FnScope N_end_of_group ["parts", "whole", "cut"] (defScope s_end_of_group) := ⟨rfl, rfl, rfl, by decide +kernel, rfl, by decide +kernel, by decide +kernel⟩

theorem r_end_of_group {n k : Nat} (hk : 3 ≤ k) (T : Txt K mg) (G_end_after : FnR P w K mg base (L2.CX P w) k (He.ga K "end_after") (spEnd (PC K) n)) :
    FnR P w K mg base (L2.CX P w) (k + 1) (He.ga K "end_of_group") (spGrpEnd (PC K) n) := by
  have G_first_failure : FnR P w K mg base (L2.CX P w) 3 (He.ga K "first_failure") (spFF (PC K)) := r_first_failure T
  refine fn_mk T.f_end_of_group sc_end_of_group (fun _ _ _ _ _ _ us hl => match us, hl with | [_, _, _], _ => rfl) (fun vs H Q E h => ?_) (fun cdv A outer s H vs Q E hr h => ?_)
  · obtain ⟨l, ps, s, c, rfl, _⟩ := h
    rfl
  obtain ⟨l, ps, s', c, rfl, hl, hlen, hw, hc, hn, q⟩ := h
  refine ⟨_, PSs.nox ((pss_cons (ps_set (i := 3) sc_end_of_group.nd rfl (Or.inl rfl) (pe_callR G_first_failure (hr.mono (by omega)) rfl T.g_first_failure (kp_of T.f_first_failure) passL (pa_cons (pv 0) pa_nil)))
    (pss_cons (ps_if (PW.pt (pw_and (pt_cmpR op_notN1 (pv 3) pe_non (nomark _)) (pw_and1 (pt_cmpR op_ge (pv 2) (pe_fld (pv 3) rfl) (nomark _))))) (pss_one (ps_ret (pv 1))) pss_nil)
    (pss_one (ps_ret (pe_callB (cr_max rfl) (by rfl) T.b_max (by decide +kernel) (pa_cons (pe_lc (own := [("part", 4)]) (g := gName 4) (tt := (tTest (tOp (rI0 fun i j => .bl (decide (j < i))) (tFld K (tVar 4) "span") (tVar 2)))) (te := (tCallR (spEnd (PC K) n) E0 (tCons (tVar 4) (tCons (tVar 2) tNil)))) (by rfl) sc_end_of_group.nd (pi_list (pv 0)) (blkOk_by (own := [("part", 4)]) (N := N_end_of_group) (sc := defScope s_end_of_group) (by decide +kernel)) (fun _ _ _ _ _ => (pg_name (i := 4) sc_end_of_group.nd rfl (Or.inl rfl))) (fun _ _ _ _ _ => (pts_one (pt_cmpR op_gt (pe_fld (pv 4) rfl) (pv 2) (nomark _)))) (fun _ _ _ _ _ => (pe_callR G_end_after (hr.mono (by omega)) rfl T.g_end_after (kp_of T.f_end_after) passL (pa_cons (pv 4) (pa_cons (pv 2) pa_nil))))) pa_nil))))))), ?_⟩
  refine ⟨_, rfl, l, ps, rfl, hl, hlen, fun H1 v e1 hv => ?_⟩
  have hl1 := hl.ext e1
  obtain ⟨zs, h1, h2, h3⟩ := hl1.zs
  have hlz : zs.length ≤ 1000 := by rw [h2, List.length_map] at hlen; exact hlen
  have last : ∀ (hne : endL ps c ≠ []) (he : endG ps s' c = maxL (endL ps c)) (H2 : Hp), Ex H1 H2 → tRet (tCB (rMax K) (tCons (tLc (iList K (tVar 0)) (gName 4) (tTest (tOp (rI0 fun i j => .bl (decide (j < i))) (tFld K (tVar 4) "span") (tVar 2))) (tCallR (spEnd (PC K) n) E0 (tCons (tVar 4) (tCons (tVar 2) tNil))) [4]) tNil)) { nx := fun _ H' => Q .non H', rt := Q } [some (.ref l), some (.int s'), some (.int c), some v, none] H2 := fun hne he H2 e2 => by
    have eL : (zs.filter (fun z => decide (z.2.span > c))).map (fun z => V.int (endA z.2 c)) = (endL ps c).map V.int := by
      rw [endL_eq, h2, List.filter_map, List.map_map, List.map_map]
      rfl
    have q1 := el_comp (K := K) (σ := [some (.ref l), some (.int s'), some (.int c), some v, none]) (H := H2) (t := tTest (tOp (rI0 fun i j => .bl (decide (j < i))) (tFld K (tVar 4) "span") (tVar 2))) (te := tCallR (spEnd (PC K) n) E0 (tCons (tVar 4) (tCons (tVar 2) tNil))) (j := 4) (vs := [4]) (zs := zs) (toV := fun z => V.ref z.1) (fun z => decide (z.2.span > c)) (fun z => V.int (endA z.2 c)) (ev_var (i := 0) rfl) (sq_of (e2 _ _ h1)) (by omega) (fun _ => rfl)
      (fun z H3 e3 hz => et_cmp (ev_span T (ev_var rfl) ((h3 z hz).ext (e2.trans e3))) (ev_var rfl)) (fun z H3 e3 hz _ => by
        have hm : z.2 ∈ ps := by rw [h2]; exact List.mem_map.mpr ⟨z, hz, rfl⟩
        exact ev_callR (ea_cons (ev_var rfl) (ea_cons (ev_var rfl) ea_nil)) (v_end ((h3 z hz).ext (e2.trans e3)) (hw _ hm).1 (hw _ hm).2 hc))
    rw [eL] at q1
    refine s_ret (ev_max q1 hne) fun H3 e3 => ?_
    rw [← he]
    exact q H3 ((e1.trans e2).trans e3)
  cases hf : firstFail ps with
  | none =>
    rw [hf] at hv
    have hv' : v = .non := hv
    subst hv'
    refine q_no (et_is (et_and (et_notN (ev_var rfl)) (b := false) (fun z => absurd z (by decide))) rfl) fun H2 e2 => last (hn fun f z => by rw [hf] at z; cases z) (by unfold endG; rw [hf]) H2 e2
  | some f =>
    rw [hf] at hv
    obtain ⟨x, rfl, hx⟩ := hv
    refine q_by (A := f.span ≤ c) (et_and (et_notN (ev_var rfl)) (fun _ => et_cmp (ev_var rfl) (ev_span T (ev_var rfl) hx))) (by simp) (fun hle H2 e2 => ?_) (fun hle H2 e2 => ?_)
    · refine s_ret (ev_var rfl) fun H3 e3 => ?_
      have he : endG ps s' c = s' := by
        unfold endG
        rw [hf]
        exact if_pos hle
      have := q H3 ((e1.trans e2).trans e3)
      rw [he] at this
      exact this
    · refine last (hn fun f' z => by rw [hf] at z; cases z; omega) ?_ H2 e2
      unfold endG
      rw [hf]
      exact if_neg hle
/-! ### end_after -/
theorem et_kind {H : Hp} {σ : L2.St} {a : Addr} {p : Prog} {ta : TE} (T : Txt K mg) (k : Kind) (h : Ev ta σ H (.ref a)) (hp : IsP (PC K) H a p) : EvT (tTest (tOp rEq (tFld K ta "kind") (tC (.str k.s)))) σ H (decide (p.kind = k)) := by
  have q := et_eqS (ev_kind T h hp) (ev_c (v := .str k.s))
  rw [Kind.s_eq] at q
  exact q
theorem Kind.in2 (k k1 k2 : Kind) : inV (.str k.s) [.str k1.s, .str k2.s] = decide (k = k1 ∨ k = k2) := by
  cases k <;> cases k1 <;> cases k2 <;> decide
theorem et_kindIn {H : Hp} {σ : L2.St} {a : Addr} {p : Prog} {ta : TE} (T : Txt K mg) (k1 k2 : Kind) (h : Ev ta σ H (.ref a)) (hp : IsP (PC K) H a p) :
    EvT (tTest (tOp (rIn K false) (tFld K ta "kind") (tTup (tCons (tC (.str k1.s)) (tCons (tC (.str k2.s)) tNil))))) σ H (decide (p.kind = k1 ∨ p.kind = k2)) := by
  have q := et_test (ev_inU (K := K) (ev_kind T h hp) (eu_tup (ea_cons (ev_c (v := .str k1.s)) (ea_cons (ev_c (v := .str k2.s)) ea_nil)) (by show 2 ≤ 100000; decide)) rfl rfl)
  rw [Kind.in2] at q
  exact q
theorem getElem0 {ps : List Prog} {p : Prog} (h : ps = [p]) : ps[0]? = some p := by rw [h]; rfl
abbrev N_end_after : List Str := ["program", "cut"]
theorem sc_end_after : FnScope N_end_after ["program", "cut"] (defScope s_end_after) := ⟨rfl, rfl, rfl, by decide +kernel, rfl, by decide +kernel, by decide +kernel⟩

theorem r_end_after {n k : Nat} (hk : 3 ≤ k) (T : Txt K mg) (G_end_after : FnR P w K mg base (L2.CX P w) k (He.ga K "end_after") (spEnd (PC K) n)) :
    FnR P w K mg base (L2.CX P w) (k + 2) (He.ga K "end_after") (spEnd (PC K) (n + 1)) := by
  have G_end_of_sequence := r_end_of_sequence T G_end_after
  have G_end_of_loop := r_end_of_loop T G_end_after
  have G_end_of_group := r_end_of_group hk T G_end_after
  refine fn_mk T.f_end_after sc_end_after (fun _ _ _ _ _ _ us hl => match us, hl with | [_, _], _ => rfl) (fun vs H Q E h => ?_) (fun cdv A outer s H vs Q E hr h => ?_)
  · obtain ⟨a, p, c, rfl, _⟩ := h
    rfl
  obtain ⟨a, p, c, rfl, hp, hw, hd, hc, q⟩ := h
  refine ⟨_, PSs.nox ((pss_cons (ps_if (PW.pt (pw_or (pt_cmpR op_ge (pv 1) (pe_fld (pv 0) rfl) (nomark _)) (pw_or1 (pt_cmpR op_eq (pv 1) pe_int (nomark _))))) (pss_one (ps_ret (pe_ifExp (pt_cmpR op_ge (pv 1) (pe_fld (pv 0) rfl) (nomark _)) (pe_fld (pv 0) rfl) pe_int))) pss_nil)
    (pss_cons (ps_if (pt_cmpR op_eq (pe_fld (pv 0) rfl) pe_str (nomark _)) (pss_one (ps_ret (pv 1))) pss_nil)
    (pss_cons (ps_if (pt_cmpR op_in_seq (pe_fld (pv 0) rfl) (pe_tup (pa_cons pe_str (pa_cons pe_str pa_nil))) (by rfl)) (pss_one (ps_ret (pe_callR G_end_of_sequence (hr.mono (by omega)) rfl T.g_end_of_sequence (kp_of T.f_end_of_sequence) passL (pa_cons (pe_fld (pv 0) rfl) (pa_cons (pv 1) pa_nil))))) pss_nil)
    (pss_cons (ps_if (pt_cmpR op_eq (pe_fld (pv 0) rfl) pe_str (nomark _)) (pss_one (ps_ret (pe_callR G_end_of_loop (hr.mono (by omega)) rfl T.g_end_of_loop (kp_of T.f_end_of_loop) passL (pa_cons (pe_ix ix_list (pe_fld (pv 0) rfl) pe_int (fun _ _ => rfl)) (pa_cons (pe_fld (pv 0) rfl) (pa_cons (pv 1) pa_nil)))))) pss_nil)
    (pss_cons (ps_if (pt_cmpR op_eq (pe_fld (pv 0) rfl) pe_str (nomark _)) (pss_one (ps_ret (pe_fld (pv 0) rfl))) pss_nil)
    (pss_cons (ps_if (pt_cmpR op_eq (pe_fld (pv 0) rfl) pe_str (nomark _)) (pss_one (ps_ret (pe_callB (call_min2 rfl) (by rfl) T.b_min (by decide +kernel) (pa_cons (pe_op op_add (pe_callR G_end_after (hr.mono (by omega)) rfl T.g_end_after (kp_of T.f_end_after) passL (pa_cons (pe_ix ix_list (pe_fld (pv 0) rfl) pe_int (fun _ _ => rfl)) (pa_cons (pv 1) pa_nil))) (pe_fld (pe_ix ix_list (pe_fld (pv 0) rfl) pe_int (fun _ _ => rfl)) rfl)) (pa_cons (pe_fld (pv 0) rfl) pa_nil))))) pss_nil)
    (pss_cons (ps_if (pt_cmpR op_eq (pe_fld (pv 0) rfl) pe_str (nomark _)) (pss_one (ps_ret (pe_callR G_end_of_group (hr.mono (by omega)) rfl T.g_end_of_group (kp_of T.f_end_of_group) passL (pa_cons (pe_fld (pv 0) rfl) (pa_cons (pe_fld (pv 0) rfl) (pa_cons (pv 1) pa_nil)))))) pss_nil)
    (pss_cons (ps_if (pt_cmpR op_ge (pv 1) (pe_fld (pv 0) rfl) (nomark _)) (pss_one (ps_ret (pe_fld (pv 0) rfl))) pss_nil)
    (pss_one (ps_ret (pe_callR G_end_after (hr.mono (by omega)) rfl T.g_end_after (kp_of T.f_end_after) passL (pa_cons (pe_ix ix_list (pe_fld (pv 0) rfl) pe_int (fun _ _ => rfl)) (pa_cons (pv 1) pa_nil)))))))))))))), ?_⟩
  have sub : ∀ q ∈ p.parts, WF q ∧ q.depth ≤ n := fun q hq => ⟨hw.sub hq, by have := hw.depth_sub hq; omega⟩
  have shp := hw.shape
  have g := wf_good hw
  refine q_by (A := p.span ≤ c ∨ c = 0) (et_or (et_cmp (ev_var rfl) (ev_span T (ev_var rfl) hp)) (fun _ => et_eqI (ev_var rfl) ev_c)) (by simp) (fun hA H1 e1 => ?_) (fun hA H1 e1 => ?_)
  · refine s_ret (v := .int (endA p c)) (ev_if (et_cmp (ev_var rfl) (ev_span T (ev_var rfl) (hp.ext e1))) (fun hb => ?_) (fun hb => ?_)) fun H2 e2 => q H2 (e1.trans e2)
    · have hle : p.span ≤ c := of_decide_eq_true hb
      rw [endA_late hle]
      exact ev_span T (ev_var rfl) (hp.ext e1)
    · have hle : ¬ p.span ≤ c := of_decide_eq_false hb
      have hz : c = 0 := by omega
      subst hz
      rw [endA_zero g.sp]
      exact ev_c
  have h0 : 0 < c := by omega
  have h1 : c < p.span := by omega
  have hp1 := hp.ext e1
  refine q_by (et_kind T .sleep (ev_var rfl) hp1) rfl (fun hA H2 e2 => ?_) (fun k1 H2 e2 => ?_)
  · refine s_ret (ev_var rfl) fun H3 e3 => ?_
    have := q H3 ((e1.trans e2).trans e3)
    rw [endA_sleep hA h0 h1] at this
    exact this
  have hp2 := hp1.ext e2
  have ex2 := e1.trans e2
  clear e1 e2 hp1 H1
  refine q_by (et_kindIn T .seq .fallback (ev_var rfl) hp2) rfl (fun hA H3 e3 => ?_) (fun k2 H3 e3 => ?_)
  · obtain ⟨l, hl, el⟩ := ev_parts T (ta := tVar 0) (σ := start N_end_after [.ref a, .int c]) (ev_var rfl) (hp2.ext e3)
    refine s_ret (ev_callR (ea_cons el (ea_cons (ev_var rfl) ea_nil)) (v_seqEnd hl sub hc)) fun H4 e4 => ?_
    rw [← endA_seq hA h0 h1]
    exact q H4 ((ex2.trans e3).trans e4)
  have hp3 := hp2.ext e3
  have ex3 := ex2.trans e3
  clear e3 hp2 ex2 H2
  refine q_by (et_kind T .loop (ev_var rfl) hp3) rfl (fun hA H4 e4 => ?_) (fun k3 H4 e4 => ?_)
  · rw [hA] at shp
    obtain ⟨⟨q0, hq0⟩, n0, n1, _⟩ := shp
    obtain ⟨l, hl, el⟩ := ev_parts T (ta := tVar 0) (σ := start N_end_after [.ref a, .int c]) (ev_var rfl) (hp3.ext e4)
    obtain ⟨x, hx, ex⟩ := ev_part (i := 0) el hl (getElem0 hq0)
    have hm : q0 ∈ p.parts := by rw [hq0]; exact List.mem_cons_self
    refine s_ret (ev_callR (ea_cons ex (ea_cons (ev_number T (ev_var rfl) (hp3.ext e4)) (ea_cons (ev_var rfl) ea_nil))) (v_loopEnd hx (sub _ hm).1 (sub _ hm).2 n0 n1 hc)) fun H5 e5 => ?_
    have := q H5 ((ex3.trans e4).trans e5)
    rw [endA_loop hA h0 h1, hq0] at this
    obtain ⟨z1, _, z3⟩ := hd_facts (p := q0)
    simp only [z1, z3] at this
    exact this
  have hp4 := hp3.ext e4
  have ex4 := ex3.trans e4
  clear e4 hp3 ex3 H3
  refine q_by (et_kind T .shield (ev_var rfl) hp4) rfl (fun hA H5 e5 => ?_) (fun k4 H5 e5 => ?_)
  · refine s_ret (ev_span T (ev_var rfl) (hp4.ext e5)) fun H6 e6 => ?_
    rw [← endA_shield hA h0 h1]
    exact q H6 ((ex4.trans e5).trans e6)
  have hp5 := hp4.ext e5
  have ex5 := ex4.trans e5
  clear e5 hp4 ex4 H4
  refine q_by (et_kind T .cleanup (ev_var rfl) hp5) rfl (fun hA H6 e6 => ?_) (fun k5 H6 e6 => ?_)
  · rw [hA] at shp
    obtain ⟨⟨q0, q1, hq0⟩, _, _⟩ := shp
    have hp6 := hp5.ext e6
    obtain ⟨l, hl, el⟩ := ev_parts T (ta := tVar 0) (σ := start N_end_after [.ref a, .int c]) (ev_var rfl) hp6
    obtain ⟨x, hx, ex⟩ := ev_part (i := 0) el hl (by rw [hq0]; rfl)
    obtain ⟨x1, hx1, ex1⟩ := ev_part (i := 1) el hl (by rw [hq0]; rfl)
    have hm : q0 ∈ p.parts := by rw [hq0]; exact List.mem_cons_self
    refine s_ret (ev_min2 (ev_op (ev_callR (ea_cons ex (ea_cons (ev_var rfl) ea_nil)) (v_end hx (sub _ hm).1 (sub _ hm).2 hc)) (ev_span T ex1 hx1) rv_I0) (ev_span T (ev_var rfl) hp6)) fun H7 e7 => ?_
    have := q H7 ((ex5.trans e6).trans e7)
    rw [endA_cleanup hA h0 h1, hq0] at this
    obtain ⟨z1, z2, _, _, z3⟩ := two_facts (p := q0) (q := q1)
    simp only [z2, z3] at this
    exact this
  have hp6 := hp5.ext e6
  have ex6 := ex5.trans e6
  clear e6 hp5 ex5 H5
  refine q_by (et_kind T .together (ev_var rfl) hp6) rfl (fun hA H7 e7 => ?_) (fun k6 H7 e7 => ?_)
  · rw [hA] at shp
    obtain ⟨hne, hlen, _, _⟩ := shp
    have hp7 := hp6.ext e7
    obtain ⟨l, hl, el⟩ := ev_parts T (ta := tVar 0) (σ := start N_end_after [.ref a, .int c]) (ev_var rfl) hp7
    refine s_ret (ev_callR (ea_cons el (ea_cons (ev_span T (ev_var rfl) hp7) (ea_cons (ev_var rfl) ea_nil))) (v_grpEnd hl (by omega) sub hc fun hf => ?_)) fun H8 e8 => ?_
    · have es : p.span = (grpM p.parts).1 := by
        cases hw with
        | mk _ _ _ _ hm _ _ =>
          cases (show _ = Kind.together from hA)
          exact (meas_of hm).1
      exact (endG_facts hne (fun q hq => wf_good (sub q hq).1) hc (by omega) hf).1
    · have := q H8 ((ex6.trans e7).trans e8)
      rw [endA_group hA h0 h1] at this
      exact this
  have hp7 := hp6.ext e7
  have ex7 := ex6.trans e7
  clear e7 hp6 ex6 H6
  have hk7 : p.kind = .timeout ∨ p.kind = .moveon := by
    cases hkk : p.kind with
    | fail =>
      exfalso
      have es : p.span = 0 := by
        cases hw with
        | mk _ _ _ _ hm _ _ =>
          cases (show _ = Kind.fail from hkk)
          exact (meas_of hm).1
      omega
    | timeout => exact .inl rfl
    | moveon => exact .inr rfl
    | sleep => exact absurd hkk k1
    | seq => exact absurd (.inl hkk) k2
    | fallback => exact absurd (.inr hkk) k2
    | loop => exact absurd hkk k3
    | shield => exact absurd hkk k4
    | cleanup => exact absurd hkk k5
    | together => exact absurd hkk k6
  have eL := endA_limit hk7 h0 h1
  refine q_by (A := p.number ≤ c) (et_cmp (ev_var rfl) (ev_number T (ev_var rfl) hp7)) rfl (fun hA H8 e8 => ?_) (fun hA H8 e8 => ?_)
  · refine s_ret (ev_span T (ev_var rfl) (hp7.ext e8)) fun H9 e9 => ?_
    rw [if_pos hA] at eL
    rw [← eL]
    exact q H9 ((ex7.trans e8).trans e9)
  · rw [if_neg hA] at eL
    have hq : ∃ q0, p.parts = [q0] := by
      rcases hk7 with z | z
      · rw [z] at shp
        exact shp.1
      · rw [z] at shp
        exact shp.1
    obtain ⟨q0, hq0⟩ := hq
    obtain ⟨l, hl, el⟩ := ev_parts T (ta := tVar 0) (σ := start N_end_after [.ref a, .int c]) (ev_var rfl) (hp7.ext e8)
    obtain ⟨x, hx, ex⟩ := ev_part (i := 0) el hl (getElem0 hq0)
    have hm : q0 ∈ p.parts := by rw [hq0]; exact List.mem_cons_self
    refine s_ret (ev_callR (ea_cons ex (ea_cons (ev_var rfl) ea_nil)) (v_end hx (sub _ hm).1 (sub _ hm).2 hc)) fun H9 e9 => ?_
    have := q H9 ((ex7.trans e8).trans e9)
    rw [eL, hq0, (hd_facts (p := q0)).2.2] at this
    exact this
/-- end_after at every depth -/
theorem end_all (T : Txt K mg) : ∀ n : Nat, FnR P w K mg base (L2.CX P w) (3 + 2 * n) (He.ga K "end_after") (spEnd (PC K) n)
  | 0 => fun A outer s H us vs Q E hr e0 r h => by
    obtain ⟨a, p, c, _, _, hw, hd, _⟩ := h
    have := hw.depth_pos
    omega
  | n + 1 => by
    have h := r_end_after (by omega) T (end_all T n)
    have e : 3 + 2 * n + 2 = 3 + 2 * (n + 1) := by omega
    rw [e] at h
    exact h
end
end Cu

/-! == Core3 -/
set_option maxHeartbeats 4000000
namespace Cu
open PySem PySem.Spec PyProof.Rows L2 Evl CuT
def RetU (xs : List V) (H : Hp) (Q : VK) : Prop := ∀ p H2, H p = none → Ex H H2 → H2 p = some (.tup xs) → Q (.ref p) H2
def SpU (sp : Sp) (vs : List V) (H : Hp) (xs : List V) : Prop := ∀ H1, Ex H H1 → ∀ Q : VK, RetU xs H1 Q → ∀ E : XK, sp vs H1 Q E
section
variable {K : PySem.W.Frag} {σ : L2.St} {H : Hp} {ta tb te : TE} {x y v : V}
theorem eu_callR {sp : Sp} {vs xs : List V} {E : XK} {ta : TA} (h : EvA ta σ H vs) (hs : SpU sp vs H xs) : EvU (tCallR sp E ta) σ H xs := fun H1 e Q q =>
  h H1 e _ fun H2 e2 => hs H2 (e.trans e2) Q (fun p H3 hp e3 h3 => q p H3 (fresh_back e2 hp) (e2.trans e3) h3) E
theorem eu2 (h1 : Ev ta σ H x) (h2 : Ev tb σ H y) : EvU (tTup (tCons ta (tCons tb tNil))) σ H [x, y] := eu_tup (ea_cons h1 (ea_cons h2 ea_nil)) (by show 2 ≤ 100000; decide)
theorem el_cat {xs ys : List V} (ha : EvL ta σ H xs) (hb : EvL tb σ H ys) (hz : xs.length + ys.length ≤ 100000) : EvL (tOp rCat ta tb) σ H (xs ++ ys) := fun H1 e Q q =>
  ha H1 e _ fun p H2 np e2 hp => hb H2 (e.trans e2) _ fun r H3 nr e3 hr => ⟨p, r, xs, ys, rfl, rfl, e3 _ _ hp, hr, sz_of hz, fun l hl => q l _ (fresh_back (e2.trans e3) hl) ((e2.trans e3).trans (Ex.new hl)) upd_same⟩
theorem el1 (h : Ev ta σ H x) : EvL (tLst (tCons ta tNil)) σ H [x] := el_lst (ea_cons h ea_nil) (by show 1 ≤ 100000; decide)
theorem ev_isi {c : V} {t u : Value} {b : Bool} (ha : Ev ta σ H x) (hb : Ev tb σ H c) (hc : ClsV c u) (ht : ∀ H1, Ex H H1 → TyX K H1 x t) (hk : PySem.W.kitOne K t u = some b) : Ev (tCB (rIsi K) (tCons ta (tCons tb tNil))) σ H (.bl b) := fun H1 e Q q =>
  ha H1 e _ fun H2 e2 => hb H2 (e.trans e2) _ fun H3 e3 => ⟨x, c, t, u, b, rfl, hc, ht H3 ((e.trans e2).trans e3), hk, q H3 (e2.trans e3)⟩
theorem ev_chainI {tc : TE} {g g' : Int → Int → Bool} {i j l : Int} (ha : Ev ta σ H (.int i)) (hb : Ev tb σ H (.int j)) (hc : Ev tc σ H (.int l)) : Ev (tChain (rI0 fun i j => .bl (g i j)) (rI0 fun i j => .bl (g' i j)) ta tb tc) σ H (.bl (g i j && g' j l)) := fun H1 e Q q =>
  ha H1 e _ fun H2 e2 => hb H2 (e.trans e2) _ fun H3 e3 => ⟨i, j, rfl, rfl, g i j, rfl, by
    cases hg : g i j with
    | true =>
      rw [hg] at q
      exact hc H3 ((e.trans e2).trans e3) _ fun H4 e4 => ⟨j, l, rfl, rfl, q H4 ((e2.trans e3).trans e4)⟩
    | false =>
      rw [hg] at q
      exact iteF (q H3 (e2.trans e3))⟩
theorem et_neNil {p : Addr} {xs : List V} (h : Ev ta σ H (.ref p)) (hp : H p = some (.lst xs)) : EvT (tTest (tOp (rEqNil false) ta (tLst tNil))) σ H (!xs.isEmpty) :=
  et_test (ev_opL h (el_lst ea_nil (by decide)) fun q H1 hq e => fun H2 e2 Q k => ⟨p, q, xs, rfl, rfl, e2 _ _ (e _ _ hp), e2 _ _ hq, k H2 (Ex.refl H2)⟩)
/-- an item of a written place of a list of texts -/
theorem ev_word {tl : TE} {l : Addr} {ws : List Str} {z : Str} {i : Nat} (h : Ev tl σ H (.ref l)) (hl : H l = some (.lst (ws.map V.str))) (hz : ws[i]? = some z) : Ev (tOp (rIxL K) tl (tC (.int (i : Int)))) σ H (.str z) :=
  ev_op h ev_c (rv_ixL (sq_of hl) (atI_nat (by rw [List.getElem?_map, hz]; rfl)))
end
theorem inV_words {b : Option Str} {ws : List Str} : inV (brV b) (ws.map V.str) = (match b with | some w => decide (w ∈ ws) | none => false) := by
  induction ws with
  | nil => cases b <;> rfl
  | cons z r ih =>
    cases b with
    | none =>
      have e : inV (brV none) ((z :: r).map V.str) = (eqV (.str z) .non || inV (brV none) (r.map V.str)) := rfl
      rw [e, ih]
      rfl
    | some w =>
      have e : inV (brV (some w)) ((z :: r).map V.str) = (eqV (.str z) (.str w) || inV (brV (some w)) (r.map V.str)) := rfl
      rw [e, ih]
      have e2 : eqV (.str z) (.str w) = decide (z = w) := rfl
      rw [e2]
      by_cases h : z = w
      · subst h
        simp
      · have h' : ¬ w = z := fun q => h q.symm
        simp [h, h']
theorem flat_words (ws : List Str) : (ws.map V.str).all flatV = true := by
  rw [List.all_eq_true]
  intro x hx
  obtain ⟨w, _, rfl⟩ := List.mem_map.mp hx
  rfl
theorem flat_brV (b : Option Str) : flatV (brV b) = true := by cases b <;> rfl
section
variable {P : Program} {w : World} {K : PySem.W.Frag} {mg : Str → Option Value} {base : Heap}
/-! ### sequence_measure -/
def spSeqM (C : Addr) : Sp := fun vs H Q _ => ∃ l ps, vs = [.ref l] ∧ PL C H l ps ∧ RetU [.int (seqM ps 0).1, brV (seqM ps 0).2] H Q
theorem u_seqM {C : Addr} {H : Hp} {l : Addr} {ps : List Prog} (h : PL C H l ps) : SpU (spSeqM C) [.ref l] H [.int (seqM ps 0).1, brV (seqM ps 0).2] := fun H1 e Q q E => ⟨l, ps, rfl, h.ext e, q⟩
theorem seqM_cons (p : Prog) (r : List Prog) (t : Int) : seqM (p :: r) t = (match p.broken with | some w => (t + p.span, some w) | none => seqM r (t + p.span)) := by
  rw [seqM] <;> rfl
abbrev N_sequence_measure : List Str := ["parts", "total", "part"]
theorem sc_sequence_measure : FnScope N_sequence_measure ["parts"] (defScope s_sequence_measure) := ⟨rfl, rfl, rfl, by decide +kernel, rfl, by decide +kernel, by decide +kernel⟩

theorem r_sequence_measure (T : Txt K mg) : FnR P w K mg base (L2.CX P w) 1 (He.ga K "sequence_measure") (spSeqM (PC K)) := by
  refine fn_mk T.f_sequence_measure sc_sequence_measure (fun _ _ _ _ _ _ us hl => match us, hl with | [_], _ => rfl) (fun vs H Q E h => ?_) (fun cdv A outer s H vs Q E hr h => ?_)
  · obtain ⟨l, ps, rfl, _⟩ := h
    rfl
  obtain ⟨l, ps, rfl, hl, q⟩ := h
  refine ⟨_, PSs.nox ((pss_cons (ps_set (i := 1) sc_sequence_measure.nd rfl (Or.inl rfl) pe_int)
    (pss_cons (ps_for PassesOwn.never rfl (pi_list (pv 0)) (pg_name (i := 2) sc_sequence_measure.nd rfl (Or.inl rfl)) (pss_cons (ps_set (i := 1) sc_sequence_measure.nd rfl (Or.inl rfl) (pe_op op_add (pv 1) (pe_fld (pv 2) rfl)))
    (pss_one (ps_if (pt_cmpR op_notN1 (pe_fld (pv 2) rfl) pe_non (nomark _)) (pss_one (ps_ret (pe_tup (pa_cons (pv 1) (pa_cons (pe_fld (pv 2) rfl) pa_nil))))) pss_nil))))
    (pss_one (ps_ret (pe_tup (pa_cons (pv 1) (pa_cons pe_non pa_nil)))))))), ?_⟩
  obtain ⟨as, h1, h2, h3⟩ := hl
  refine q_asg ev_c fun H1 e1 => ?_
  refine q_forLn (xs := as.map V.ref) (ev_var rfl) (sq_of (e1 _ _ h1))
    (fun i σ' H' => Ex H H' ∧ ∃ b v, σ' = [some (.ref l), some (.int b), v] ∧ seqM ps 0 = seqM (ps.drop i) b) (fun H2 e2 => ⟨e1.trans e2, 0, none, rfl, rfl⟩) (fun i σ' H' hi hP => sq_of (hP.1 _ _ h1)) (fun i x σ' H' hx hP => ?_) (fun σ' H' hP => ?_)
  · obtain ⟨e3, b, v, rfl, he⟩ := hP
    rw [List.getElem?_map] at hx
    obtain ⟨y, hy, rfl⟩ := Option.map_eq_some_iff.mp hx
    have hi : i < as.length := (List.getElem?_eq_some_iff.mp hy).1
    have hpi : ps[i]? = some ps[i] := List.getElem?_eq_getElem (by omega)
    have hip := (h3 i y _ hy hpi).ext e3
    have hpd : ps.drop i = ps[i] :: ps.drop (i + 1) := List.drop_eq_getElem_cons (by omega)
    rw [hpd, seqM_cons] at he
    refine q_asg (ev_op (ev_var rfl) (ev_span T (ev_var rfl) hip) rv_I0) fun H4 e4 => ?_
    refine s_when (et_notN (ev_broken T (ev_var rfl) (hip.ext e4))) (fun hb H5 e5 => ?_) (fun hb H5 e5 => ?_)
    · rw [brV_non] at hb
      cases hbr : ps[i].broken with
      | none =>
        rw [hbr] at hb
        exact absurd hb (by decide)
      | some z =>
        rw [hbr] at he
        have he' : seqM ps 0 = (b + ps[i].span, some z) := he
        refine s_retU (eu2 (ev_var rfl) (ev_broken T (ev_var rfl) (hip.ext (e4.trans e5)))) fun p H6 hp e6 h6 => ?_
        rw [hbr] at h6
        refine q p H6 (fresh_back ((e3.trans e4).trans e5) hp) (((e3.trans e4).trans e5).trans e6) ?_
        rw [he']
        exact h6
    · rw [brV_non] at hb
      cases hbr : ps[i].broken with
      | none =>
        rw [hbr] at he
        exact ⟨(e3.trans e4).trans e5, b + ps[i].span, _, rfl, he⟩
      | some z =>
        rw [hbr] at hb
        exact absurd hb (by simp)
  · obtain ⟨e3, b, v, rfl, he⟩ := hP
    rw [List.length_map, h2, List.drop_length] at he
    have he' : seqM ps 0 = (b, none) := he
    refine s_retU (eu2 (ev_var rfl) ev_c) fun p H5 hp e5 h5 => ?_
    refine q p H5 (fresh_back e3 hp) (e3.trans e5) ?_
    rw [he']
    exact h5
/-! ### group_measure -/
def spGrpM (C : Addr) : Sp := fun vs H Q _ => ∃ l ps, vs = [.ref l] ∧ PL C H l ps ∧ ps ≠ [] ∧ ps.length ≤ 1000 ∧ (∀ p ∈ ps, WF p) ∧ RetU [.int (grpM ps).1, brV (grpM ps).2] H Q
theorem u_grpM {C : Addr} {H : Hp} {l : Addr} {ps : List Prog} (h : PL C H l ps) (hne : ps ≠ []) (hl : ps.length ≤ 1000) (hw : ∀ p ∈ ps, WF p) : SpU (spGrpM C) [.ref l] H [.int (grpM ps).1, brV (grpM ps).2] := fun H1 e Q q E => ⟨l, ps, rfl, h.ext e, hne, hl, hw, q⟩
abbrev N_group_measure : List Str := ["parts", "first", "part"]
theorem sc_group_measure : FnScope N_group_measure ["parts"] (defScope s_group_measure) := ⟨rfl, rfl, rfl, by decide +kernel, rfl, by decide +kernel, by decide +kernel⟩

theorem r_group_measure (T : Txt K mg) : FnR P w K mg base (L2.CX P w) 124 (He.ga K "group_measure") (spGrpM (PC K)) := by
  have G_end_after : FnR P w K mg base (L2.CX P w) 123 (He.ga K "end_after") (spEnd (PC K) 60) := end_all T 60
  have G_first_failure : FnR P w K mg base (L2.CX P w) 3 (He.ga K "first_failure") (spFF (PC K)) := r_first_failure T
  refine fn_mk T.f_group_measure sc_group_measure (fun _ _ _ _ _ _ us hl => match us, hl with | [_], _ => rfl) (fun vs H Q E h => ?_) (fun cdv A outer s H vs Q E hr h => ?_)
  · obtain ⟨l, ps, rfl, _⟩ := h
    rfl
  obtain ⟨l, ps, rfl, hl, hne, hlen, hw, q⟩ := h
  refine ⟨_, PSs.nox ((pss_cons (ps_set (i := 1) sc_group_measure.nd rfl (Or.inr rfl) (pe_callR G_first_failure (hr.mono (by omega)) rfl T.g_first_failure (kp_of T.f_first_failure) passL (pa_cons (pv 0) pa_nil)))
    (pss_cons (ps_if (pt_cmpR op_isN1 (pv 1) pe_non (nomark _)) (pss_one (ps_ret (pe_tup (pa_cons (pe_callB (cr_max rfl) (by rfl) T.b_max (by decide +kernel) (pa_cons (pe_lc (own := [("part", 2)]) (g := gName 2) (tt := tYes) (te := (tFld K (tVar 2) "span")) (by rfl) sc_group_measure.nd (pi_list (pv 0)) (blkOk_by (own := [("part", 2)]) (N := N_group_measure) (sc := defScope s_group_measure) (by decide +kernel)) (fun _ _ _ _ _ => (pg_name (i := 2) sc_group_measure.nd rfl (Or.inl rfl))) (fun _ _ _ _ _ => pts_nil) (fun _ _ _ _ _ => (pe_fld (pv 2) rfl))) pa_nil)) (pa_cons pe_non pa_nil))))) pss_nil)
    (pss_one (ps_ret (pe_tup (pa_cons (pe_callB (cr_max rfl) (by rfl) T.b_max (by decide +kernel) (pa_cons (pe_lc (own := [("part", 2)]) (g := gName 2) (tt := tYes) (te := (tCallR (spEnd (PC K) 60) E0 (tCons (tVar 2) (tCons (tFld K (tVar 1) "span") tNil)))) (by rfl) sc_group_measure.nd (pi_list (pv 0)) (blkOk_by (own := [("part", 2)]) (N := N_group_measure) (sc := defScope s_group_measure) (by decide +kernel)) (fun _ _ _ _ _ => (pg_name (i := 2) sc_group_measure.nd rfl (Or.inl rfl))) (fun _ _ _ _ _ => pts_nil) (fun _ _ _ _ _ => (pe_callR G_end_after (hr.mono (by omega)) rfl T.g_end_after (kp_of T.f_end_after) passL (pa_cons (pv 2) (pa_cons (pe_fld (pv 1) rfl) pa_nil))))) pa_nil)) (pa_cons (pe_fld (pv 1) rfl) pa_nil)))))))), ?_⟩
  refine ⟨_, rfl, l, ps, rfl, hl, hlen, fun H1 v e1 hv => ?_⟩
  have hl1 := hl.ext e1
  obtain ⟨zs, h1, h2, h3⟩ := hl1.zs
  have hlz : zs.length ≤ 1000 := by rw [h2, List.length_map] at hlen; exact hlen
  have hnz : zs ≠ [] := fun z => hne (by rw [h2, z]; rfl)
  cases hf : firstFail ps with
  | none =>
    rw [hf] at hv
    have hv' : v = .non := hv
    subst hv'
    have eG : grpM ps = (maxL (ps.map Prog.span), none) := by unfold grpM; rw [hf]
    refine q_yes (et_is (et_isN (ev_var rfl)) rfl) fun H2 e2 => ?_
    have q1 := el_map (K := K) (σ := [some (.ref l), some .non, none]) (H := H2) (te := tFld K (tVar 2) "span") (j := 2) (vs := [2]) (zs := zs) (toV := fun z => V.ref z.1) (fun z => V.int z.2.span) (ev_var (i := 0) rfl) (sq_of (e2 _ _ h1)) (by omega) (fun _ => rfl)
      (fun z H3 e3 hz => ev_span T (ev_var rfl) ((h3 z hz).ext (e2.trans e3)))
    have eL : zs.map (fun z => V.int z.2.span) = (ps.map Prog.span).map V.int := by
      rw [h2, List.map_map, List.map_map]
      rfl
    rw [eL] at q1
    refine s_retU (eu2 (ev_max q1 (fun z => hne (List.map_eq_nil_iff.mp z))) ev_c) fun p H3 hp e3 h4 => ?_
    refine q p H3 (fresh_back (e1.trans e2) hp) ((e1.trans e2).trans e3) ?_
    rw [eG]
    exact h4
  | some f =>
    rw [hf] at hv
    obtain ⟨x, rfl, hx⟩ := hv
    obtain ⟨f1, f2, f3⟩ := firstFail_some hf
    have eG : grpM ps = (maxL (ps.map fun p => endA p f.span), f.broken) := by unfold grpM; rw [hf]
    refine q_no (et_is (et_isN (ev_var rfl)) rfl) fun H2 e2 => ?_
    have q1 := el_map (K := K) (σ := [some (.ref l), some (.ref x), none]) (H := H2) (te := tCallR (spEnd (PC K) 60) E0 (tCons (tVar 2) (tCons (tFld K (tVar 1) "span") tNil))) (j := 2) (vs := [2]) (zs := zs) (toV := fun z => V.ref z.1) (fun z => V.int (endA z.2 f.span)) (ev_var (i := 0) rfl) (sq_of (e2 _ _ h1)) (by omega) (fun _ => rfl)
      (fun z H3 e3 hz => by
        have hm : z.2 ∈ ps := by rw [h2]; exact List.mem_map.mpr ⟨z, hz, rfl⟩
        exact ev_callR (ea_cons (ev_var rfl) (ea_cons (ev_span T (ev_var rfl) (hx.ext (e2.trans e3))) ea_nil)) (v_end ((h3 z hz).ext (e2.trans e3)) (hw _ hm) (hw _ hm).depth_le (wf_good (hw _ f1)).sp))
    have eL : zs.map (fun z => V.int (endA z.2 f.span)) = (ps.map fun p => endA p f.span).map V.int := by
      rw [h2, List.map_map, List.map_map]
      rfl
    rw [eL] at q1
    refine s_retU (eu2 (ev_max q1 (fun z => hne (List.map_eq_nil_iff.mp z))) (ev_broken T (ev_var rfl) (hx.ext e2))) fun p H3 hp e3 h4 => ?_
    refine q p H3 (fresh_back (e1.trans e2) hp) ((e1.trans e2).trans e3) ?_
    rw [eG]
    exact h4
/-! ### measure -/
def spMeas (C : Addr) : Sp := fun vs H Q _ => ∃ k l ps n wl ws, vs = [.str (Kind.s k), .ref l, .int n, .ref wl] ∧ PL C H l ps ∧ H wl = some (.lst (ws.map V.str)) ∧ Shape k ps n ws ∧ (∀ p ∈ ps, WF p) ∧ RetU [.int (meas k ps n ws).1, brV (meas k ps n ws).2] H Q
theorem u_meas {C : Addr} {H : Hp} {k : Kind} {l wl : Addr} {ps : List Prog} {n : Int} {ws : List Str} (h : PL C H l ps) (hw : H wl = some (.lst (ws.map V.str))) (sh : Shape k ps n ws) (wf : ∀ p ∈ ps, WF p) :
    SpU (spMeas C) [.str k.s, .ref l, .int n, .ref wl] H [.int (meas k ps n ws).1, brV (meas k ps n ws).2] := fun H1 e Q q E => ⟨k, l, ps, n, wl, ws, rfl, h.ext e, e _ _ hw, sh, wf, q⟩
theorem et_kd {σ : L2.St} {H : Hp} {i : Nat} {k : Kind} (k' : Kind) (h : σ[i]? = some (some (.str k.s))) : EvT (tTest (tOp rEq (tVar i) (tC (.str k'.s)))) σ H (decide (k = k')) := by
  have q := et_eqS (H := H) (ev_var h) (ev_c (v := .str k'.s))
  rw [Kind.s_eq] at q
  exact q
abbrev N_measure : List Str := ["kind", "parts", "number", "words", "failure"]
theorem sc_measure : FnScope N_measure ["kind", "parts", "number", "words"] (defScope s_measure) := ⟨rfl, rfl, rfl, by decide +kernel, rfl, by decide +kernel, by decide +kernel⟩

theorem r_measure (T : Txt K mg) : FnR P w K mg base (L2.CX P w) 125 (He.ga K "measure") (spMeas (PC K)) := by
  have G_end_after : FnR P w K mg base (L2.CX P w) 123 (He.ga K "end_after") (spEnd (PC K) 60) := end_all T 60
  have G_sequence_measure : FnR P w K mg base (L2.CX P w) 1 (He.ga K "sequence_measure") (spSeqM (PC K)) := r_sequence_measure T
  have G_group_measure : FnR P w K mg base (L2.CX P w) 124 (He.ga K "group_measure") (spGrpM (PC K)) := r_group_measure T
  refine fn_mk T.f_measure sc_measure (fun _ _ _ _ _ _ us hl => match us, hl with | [_, _, _, _], _ => rfl) (fun vs H Q E h => ?_) (fun cdv A outer s H vs Q E hr h => ?_)
  · obtain ⟨k, l, ps, n, wl, ws, rfl, _⟩ := h
    rfl
  obtain ⟨k, l, ps, n, wl, ws, rfl, hl, hwl, sh, wf, q⟩ := h
  refine ⟨_, PSs.nox ((pss_cons (ps_if (pt_cmpR op_eq (pv 0) pe_str (nomark _)) (pss_one (ps_ret (pe_tup (pa_cons (pv 2) (pa_cons pe_non pa_nil))))) pss_nil)
    (pss_cons (ps_if (pt_cmpR op_eq (pv 0) pe_str (nomark _)) (pss_one (ps_ret (pe_tup (pa_cons pe_int (pa_cons (pe_ix ix_list (pv 3) pe_int (fun _ _ => rfl)) pa_nil))))) pss_nil)
    (pss_cons (ps_if (pt_cmpR op_eq (pv 0) pe_str (nomark _)) (pss_one (ps_ret (pe_callR G_sequence_measure (hr.mono (by omega)) rfl T.g_sequence_measure (kp_of T.f_sequence_measure) passL (pa_cons (pv 1) pa_nil)))) pss_nil)
    (pss_cons (ps_if (pt_cmpR op_eq (pv 0) pe_str (nomark _)) (pss_cons (ps_if (pt_cmpR op_eq (pv 2) pe_int (nomark _)) (pss_one (ps_ret (pe_tup (pa_cons pe_int (pa_cons pe_non pa_nil))))) pss_nil)
    (pss_one (ps_ret (pe_tup (pa_cons (pe_op op_mulW (pe_fld (pe_ix ix_list (pv 1) pe_int (fun _ _ => rfl)) rfl) (pe_ifExp (pt_cmpR op_isN1 (pe_fld (pe_ix ix_list (pv 1) pe_int (fun _ _ => rfl)) rfl) pe_non (nomark _)) (pv 2) pe_int)) (pa_cons (pe_fld (pe_ix ix_list (pv 1) pe_int (fun _ _ => rfl)) rfl) pa_nil)))))) pss_nil)
    (pss_cons (ps_if (pt_cmpR op_eq (pv 0) pe_str (nomark _)) (pss_one (ps_ret (pe_tup (pa_cons (pe_fld (pe_ix ix_list (pv 1) pe_int (fun _ _ => rfl)) rfl) (pa_cons (pe_fld (pe_ix ix_list (pv 1) pe_int (fun _ _ => rfl)) rfl) pa_nil))))) pss_nil)
    (pss_cons (ps_if (pt_cmpR op_eq (pv 0) pe_str (nomark _)) (pss_cons (ps_set (i := 4) sc_measure.nd rfl (Or.inl rfl) (pe_ifExp (pt_cmpR op_isN1 (pe_fld (pe_ix ix_list (pv 1) pe_int (fun _ _ => rfl)) rfl) pe_non (nomark _)) (pe_fld (pe_ix ix_list (pv 1) pe_int (fun _ _ => rfl)) rfl) (pe_fld (pe_ix ix_list (pv 1) pe_int (fun _ _ => rfl)) rfl)))
    (pss_one (ps_ret (pe_tup (pa_cons (pe_op op_add (pe_fld (pe_ix ix_list (pv 1) pe_int (fun _ _ => rfl)) rfl) (pe_fld (pe_ix ix_list (pv 1) pe_int (fun _ _ => rfl)) rfl)) (pa_cons (pv 4) pa_nil)))))) pss_nil)
    (pss_cons (ps_if (pt_cmpR op_eq (pv 0) pe_str (nomark _)) (pss_cons (ps_if (pt_cmpR op_in_seq (pe_fld (pe_ix ix_list (pv 1) pe_int (fun _ _ => rfl)) rfl) (pv 3) (by rfl)) (pss_one (ps_ret (pe_tup (pa_cons (pe_op op_add (pe_fld (pe_ix ix_list (pv 1) pe_int (fun _ _ => rfl)) rfl) (pe_fld (pe_ix ix_list (pv 1) pe_int (fun _ _ => rfl)) rfl)) (pa_cons (pe_fld (pe_ix ix_list (pv 1) pe_int (fun _ _ => rfl)) rfl) pa_nil))))) pss_nil)
    (pss_one (ps_ret (pe_tup (pa_cons (pe_fld (pe_ix ix_list (pv 1) pe_int (fun _ _ => rfl)) rfl) (pa_cons (pe_fld (pe_ix ix_list (pv 1) pe_int (fun _ _ => rfl)) rfl) pa_nil)))))) pss_nil)
    (pss_cons (ps_if (pt_cmpR op_eq (pv 0) pe_str (nomark _)) (pss_one (ps_ret (pe_callR G_group_measure (hr.mono (by omega)) rfl T.g_group_measure (kp_of T.f_group_measure) passL (pa_cons (pv 1) pa_nil)))) pss_nil)
    (pss_cons (ps_if (pt_cmpR op_gt (pe_fld (pe_ix ix_list (pv 1) pe_int (fun _ _ => rfl)) rfl) (pv 2) (nomark _)) (pss_one (ps_ret (pe_tup (pa_cons (pe_callR G_end_after (hr.mono (by omega)) rfl T.g_end_after (kp_of T.f_end_after) passL (pa_cons (pe_ix ix_list (pv 1) pe_int (fun _ _ => rfl)) (pa_cons (pv 2) pa_nil))) (pa_cons (pe_ifExp (pt_cmpR (op_neNil hr.units0) (pv 3) (pe_lst pa_nil) (nomark _)) (pe_ix ix_list (pv 3) pe_int (fun _ _ => rfl)) pe_non) pa_nil))))) pss_nil)
    (pss_one (ps_ret (pe_tup (pa_cons (pe_fld (pe_ix ix_list (pv 1) pe_int (fun _ _ => rfl)) rfl) (pa_cons (pe_fld (pe_ix ix_list (pv 1) pe_int (fun _ _ => rfl)) rfl) pa_nil))))))))))))))), ?_⟩
  have ret : ∀ {H1 : Hp} {te : TE} {σ : L2.St}, Ex H H1 → EvU te σ H1 [.int (meas k ps n ws).1, brV (meas k ps n ws).2] → ∀ D : Ends, D.rt = Q → tRet te D σ H1 := fun {H1 te σ} e h D hD => by
    refine s_retU h fun p H2 hp e2 h2 => ?_
    rw [hD]
    exact q p H2 (fresh_back e hp) (e.trans e2) h2
  refine q_by (et_kd .sleep rfl) rfl (fun hA H1 e1 => ?_) (fun k1 H1 e1 => ?_)
  · subst hA
    exact ret e1 (eu2 (ev_var rfl) ev_c) _ rfl
  refine q_by (et_kd .fail rfl) rfl (fun hA H2 e2 => ?_) (fun k2 H2 e2 => ?_)
  · subst hA
    obtain ⟨_, _, z, rfl, _⟩ := sh
    exact ret (e1.trans e2) (eu2 ev_c (ev_word (i := 0) (ev_var rfl) ((e1.trans e2) _ _ hwl) rfl)) _ rfl
  have x2 := e1.trans e2
  clear e1 e2
  refine q_by (et_kd .seq rfl) rfl (fun hA H3 e3 => ?_) (fun k3 H3 e3 => ?_)
  · subst hA
    exact ret (x2.trans e3) (eu_callR (ea_cons (ev_var rfl) ea_nil) (u_seqM (hl.ext (x2.trans e3)))) _ rfl
  have x3 := x2.trans e3
  clear e3 x2
  refine q_by (et_kd .loop rfl) rfl (fun hA H4 e4 => ?_) (fun k4 H4 e4 => ?_)
  · subst hA
    obtain ⟨⟨p, rfl⟩, n0, n1, _⟩ := sh
    have wp := wf p List.mem_cons_self
    have x4 := x3.trans e4
    refine q_by (A := n = 0) (et_eqI (ev_var rfl) ev_c) rfl (fun hz H5 e5 => ?_) (fun hz H5 e5 => ?_)
    · have em : meas .loop [p] n ws = (0, none) := if_pos hz
      refine ret (x4.trans e5) ?_ _ rfl
      rw [em]
      exact eu2 ev_c ev_c
    · have em : meas .loop [p] n ws = (p.span * (if p.broken = none then n else 1), p.broken) := if_neg hz
      obtain ⟨x, hx, ex⟩ := ev_part (K := K) (σ := start N_measure [.str (Kind.s .loop), .ref l, .int n, .ref wl]) (tl := tVar 1) (i := 0) (ev_var rfl) (hl.ext (x4.trans e5)) rfl
      refine ret (x4.trans e5) ?_ _ rfl
      rw [em]
      have en : Ev (tIf (tTest (tOp rIsN (tFld K (tOp (rIxL K) (tVar 1) (tC (.int (0 : Nat)))) "broken") (tC .non))) (tVar 2) (tC (.int 1))) (start N_measure [.str (Kind.s .loop), .ref l, .int n, .ref wl]) H5 (.int (if p.broken = none then n else 1)) := by
        refine ev_if (et_isN (ev_broken T ex hx)) (fun hb => ?_) (fun hb => ?_)
        · rw [brV_non] at hb
          rw [if_pos (Option.isNone_iff_eq_none.mp hb)]
          exact ev_var rfl
        · rw [brV_non] at hb
          rw [if_neg (fun z => by rw [z] at hb; cases hb)]
          exact ev_c
      have hb : (if p.broken = none then n else 1).natAbs < 2 ^ 100 := by
        have e : mostT < 2 ^ 100 := by decide
        split <;> omega
      exact eu2 (ev_op (ev_span T ex hx) en (rv_I (wide_mul (span_bits wp) hb (by decide) (by decide) (by decide)))) (ev_broken T ex hx)
  have x4 := x3.trans e4
  clear e4 x3
  refine q_by (et_kd .shield rfl) rfl (fun hA H5 e5 => ?_) (fun k5 H5 e5 => ?_)
  · subst hA
    obtain ⟨⟨p, rfl⟩, _, _⟩ := sh
    obtain ⟨x, hx, ex⟩ := ev_part (K := K) (σ := start N_measure [.str (Kind.s .shield), .ref l, .int n, .ref wl]) (tl := tVar 1) (i := 0) (ev_var rfl) (hl.ext (x4.trans e5)) rfl
    exact ret (x4.trans e5) (eu2 (ev_span T ex hx) (ev_broken T ex hx)) _ rfl
  have x5 := x4.trans e5
  clear e5 x4
  refine q_by (et_kd .cleanup rfl) rfl (fun hA H6 e6 => ?_) (fun k6 H6 e6 => ?_)
  · subst hA
    obtain ⟨⟨p, p2, rfl⟩, _, _⟩ := sh
    have x6 := x5.trans e6
    obtain ⟨x, hx, ex⟩ := ev_part (K := K) (σ := start N_measure [.str (Kind.s .cleanup), .ref l, .int n, .ref wl]) (tl := tVar 1) (i := 0) (ev_var rfl) (hl.ext x6) rfl
    obtain ⟨y, hy, ey⟩ := ev_part (K := K) (σ := start N_measure [.str (Kind.s .cleanup), .ref l, .int n, .ref wl]) (tl := tVar 1) (i := 1) (ev_var rfl) (hl.ext x6) rfl
    have ef : Ev (tIf (tTest (tOp rIsN (tFld K (tOp (rIxL K) (tVar 1) (tC (.int (1 : Nat)))) "broken") (tC .non))) (tFld K (tOp (rIxL K) (tVar 1) (tC (.int (0 : Nat)))) "broken") (tFld K (tOp (rIxL K) (tVar 1) (tC (.int (1 : Nat)))) "broken")) (start N_measure [.str (Kind.s .cleanup), .ref l, .int n, .ref wl]) H6 (brV (if p2.broken = none then p.broken else p2.broken)) := by
      refine ev_if (et_isN (ev_broken T ey hy)) (fun hb => ?_) (fun hb => ?_)
      · rw [brV_non] at hb
        rw [if_pos (Option.isNone_iff_eq_none.mp hb)]
        exact ev_broken T ex hx
      · rw [brV_non] at hb
        rw [if_neg (fun z => by rw [z] at hb; cases hb)]
        exact ev_broken T ey hy
    refine q_asg ef fun H7 e7 => ?_
    obtain ⟨x', hx', ex'⟩ := ev_part (K := K) (σ := [some (.str (Kind.s .cleanup)), some (.ref l), some (.int n), some (.ref wl), some (brV (if p2.broken = none then p.broken else p2.broken))]) (tl := tVar 1) (i := 0) (ev_var rfl) (hl.ext (x6.trans e7)) rfl
    obtain ⟨y', hy', ey'⟩ := ev_part (K := K) (σ := [some (.str (Kind.s .cleanup)), some (.ref l), some (.int n), some (.ref wl), some (brV (if p2.broken = none then p.broken else p2.broken))]) (tl := tVar 1) (i := 1) (ev_var rfl) (hl.ext (x6.trans e7)) rfl
    exact ret (x6.trans e7) (eu2 (ev_op (ev_span T ex' hx') (ev_span T ey' hy') rv_I0) (ev_var rfl)) _ rfl
  have x6 := x5.trans e6
  clear e6 x5
  refine q_by (et_kd .fallback rfl) rfl (fun hA H7 e7 => ?_) (fun k7 H7 e7 => ?_)
  · subst hA
    obtain ⟨⟨p, p2, rfl⟩, _, _⟩ := sh
    have x7 := x6.trans e7
    obtain ⟨x, hx, ex⟩ := ev_part (K := K) (σ := start N_measure [.str (Kind.s .fallback), .ref l, .int n, .ref wl]) (tl := tVar 1) (i := 0) (ev_var rfl) (hl.ext x7) rfl
    have ei := et_test (ev_op (r := rIn K false) (ev_broken T ex hx) (ev_var (i := 3) rfl) (rv_isL (sq_of (x7 _ _ hwl)) (flat_brV p.broken) (flat_words ws)))
    rw [inV_words] at ei
    cases hb : p.broken with
    | none =>
      rw [hb] at ei
      have em : meas .fallback [p, p2] n ws = (p.span, none) := by
        show (match p.broken with | some w => if w ∈ ws then (p.span + p2.span, p2.broken) else (p.span, some w) | none => (p.span, none)) = _
        rw [hb]
      refine q_no ei fun H8 e8 => ?_
      obtain ⟨x, hx, ex⟩ := ev_part (K := K) (σ := start N_measure [.str (Kind.s .fallback), .ref l, .int n, .ref wl]) (tl := tVar 1) (i := 0) (ev_var rfl) (hl.ext (x7.trans e8)) rfl
      refine ret (x7.trans e8) ?_ _ rfl
      rw [em]
      have := ev_broken T ex hx
      rw [hb] at this
      exact eu2 (ev_span T ex hx) this
    | some z =>
      rw [hb] at ei
      refine q_by (A := z ∈ ws) ei rfl (fun hz H8 e8 => ?_) (fun hz H8 e8 => ?_)
      · have em : meas .fallback [p, p2] n ws = (p.span + p2.span, p2.broken) := by
          show (match p.broken with | some w => if w ∈ ws then (p.span + p2.span, p2.broken) else (p.span, some w) | none => (p.span, none)) = _
          rw [hb]
          exact if_pos hz
        obtain ⟨x, hx, ex⟩ := ev_part (K := K) (σ := start N_measure [.str (Kind.s .fallback), .ref l, .int n, .ref wl]) (tl := tVar 1) (i := 0) (ev_var rfl) (hl.ext (x7.trans e8)) rfl
        obtain ⟨y, hy, ey⟩ := ev_part (K := K) (σ := start N_measure [.str (Kind.s .fallback), .ref l, .int n, .ref wl]) (tl := tVar 1) (i := 1) (ev_var rfl) (hl.ext (x7.trans e8)) rfl
        refine ret (x7.trans e8) ?_ _ rfl
        rw [em]
        exact eu2 (ev_op (ev_span T ex hx) (ev_span T ey hy) rv_I0) (ev_broken T ey hy)
      · have em : meas .fallback [p, p2] n ws = (p.span, some z) := by
          show (match p.broken with | some w => if w ∈ ws then (p.span + p2.span, p2.broken) else (p.span, some w) | none => (p.span, none)) = _
          rw [hb]
          exact if_neg hz
        obtain ⟨x, hx, ex⟩ := ev_part (K := K) (σ := start N_measure [.str (Kind.s .fallback), .ref l, .int n, .ref wl]) (tl := tVar 1) (i := 0) (ev_var rfl) (hl.ext (x7.trans e8)) rfl
        refine ret (x7.trans e8) ?_ _ rfl
        rw [em]
        have := ev_broken T ex hx
        rw [hb] at this
        exact eu2 (ev_span T ex hx) this
  have x7 := x6.trans e7
  clear e7 x6
  refine q_by (et_kd .together rfl) rfl (fun hA H8 e8 => ?_) (fun k8 H8 e8 => ?_)
  · subst hA
    obtain ⟨hne, hlen, _, _⟩ := sh
    exact ret (x7.trans e8) (eu_callR (ea_cons (ev_var rfl) ea_nil) (u_grpM (hl.ext (x7.trans e8)) hne (by omega) wf)) _ rfl
  have x8 := x7.trans e8
  clear e8 x7
  have hp : ∃ p, ps = [p] ∧ 0 ≤ n ∧ meas k ps n ws = if n < p.span then (endA p n, ws.head?) else (p.span, p.broken) := by
    cases k with
    | timeout =>
      obtain ⟨⟨p, rfl⟩, n0, _, _⟩ := sh
      refine ⟨p, rfl, n0, ?_⟩
      show (if n < p.span then (endH [p] n, ws.head?) else (p.span, p.broken)) = _
      rw [(hd_facts (p := p)).2.2]
    | moveon =>
      obtain ⟨⟨p, rfl⟩, n0, _, _⟩ := sh
      refine ⟨p, rfl, n0, ?_⟩
      show (if n < p.span then (endH [p] n, ws.head?) else (p.span, p.broken)) = _
      rw [(hd_facts (p := p)).2.2]
    | sleep => exact absurd rfl k1
    | fail => exact absurd rfl k2
    | seq => exact absurd rfl k3
    | loop => exact absurd rfl k4
    | shield => exact absurd rfl k5
    | cleanup => exact absurd rfl k6
    | fallback => exact absurd rfl k7
    | together => exact absurd rfl k8
  obtain ⟨p, rfl, n0, em⟩ := hp
  have wp := wf p List.mem_cons_self
  obtain ⟨x, hx, ex⟩ := ev_part (K := K) (σ := start N_measure [.str k.s, .ref l, .int n, .ref wl]) (tl := tVar 1) (i := 0) (ev_var rfl) (hl.ext x8) rfl
  refine q_by (A := n < p.span) (et_cmp (ev_span T ex hx) (ev_var rfl)) rfl (fun hA H9 e9 => ?_) (fun hA H9 e9 => ?_)
  · rw [if_pos hA] at em
    obtain ⟨x, hx, ex⟩ := ev_part (K := K) (σ := start N_measure [.str k.s, .ref l, .int n, .ref wl]) (tl := tVar 1) (i := 0) (ev_var rfl) (hl.ext (x8.trans e9)) rfl
    refine ret (x8.trans e9) ?_ _ rfl
    rw [em]
    refine eu2 (ev_callR (ea_cons ex (ea_cons (ev_var rfl) ea_nil)) (v_end hx wp wp.depth_le n0)) ?_
    refine ev_if (et_neNil (ev_var rfl) ((x8.trans e9) _ _ hwl)) (fun hb => ?_) (fun hb => ?_)
    · cases ws with
      | nil => exact absurd hb (by decide)
      | cons z r => exact ev_word (i := 0) (ev_var rfl) ((x8.trans e9) _ _ hwl) rfl
    · cases ws with
      | nil => exact ev_c
      | cons z r => exact absurd hb (by simp)
  · rw [if_neg hA] at em
    obtain ⟨x, hx, ex⟩ := ev_part (K := K) (σ := start N_measure [.str k.s, .ref l, .int n, .ref wl]) (tl := tVar 1) (i := 0) (ev_var rfl) (hl.ext (x8.trans e9)) rfl
    refine ret (x8.trans e9) ?_ _ rfl
    rw [em]
    exact eu2 (ev_span T ex hx) (ev_broken T ex hx)
end
end Cu

/-! == Core4 -/
set_option maxHeartbeats 4000000
namespace Cu
open PySem PySem.Spec PyProof.Rows L2 Evl CuT
/-! ### texts sign by sign -/
def rLeS : R2 := fun x y H Q => ∃ i j, x = .str i ∧ y = .str j ∧ Q (.bl (!decide (j.cps.toList < i.cps.toList))) H
theorem op_leS {X : Cx} : OpR X (compareOp .LtE) rLeS := op_le_str
section
variable {K : PySem.W.Frag} {σ : L2.St} {H : Hp} {ta tb tc te : TE}
theorem ev_chainS {i j l : Str} (ha : Ev ta σ H (.str i)) (hb : Ev tb σ H (.str j)) (hc : Ev tc σ H (.str l)) : Ev (tChain rLeS rLeS ta tb tc) σ H (.bl ((!decide (j.cps.toList < i.cps.toList)) && (!decide (l.cps.toList < j.cps.toList)))) := fun H1 e Q q =>
  ha H1 e _ fun H2 e2 => hb H2 (e.trans e2) _ fun H3 e3 => ⟨i, j, rfl, rfl, _, rfl, by
    cases hg : !decide (j.cps.toList < i.cps.toList) with
    | true =>
      rw [hg] at q
      exact hc H3 ((e.trans e2).trans e3) _ fun H4 e4 => ⟨j, l, rfl, rfl, q H4 ((e2.trans e3).trans e4)⟩
    | false =>
      rw [hg] at q
      exact iteF (q H3 (e2.trans e3))⟩
theorem ev_lenS {z : Str} (ha : Ev ta σ H (.str z)) (hz : z.length ≤ sizeLine) : Ev (tCB (fun xs H Q => ∃ z, xs = [.str z] ∧ z.length ≤ sizeLine ∧ Q (.int z.length) H) (tCons ta tNil)) σ H (.int z.length) := fun H1 e Q q =>
  ha H1 e _ fun H2 e2 => ⟨z, rfl, hz, q H2 e2⟩
theorem ev_all {bs : List Bool} (h : EvL te σ H (bs.map V.bl)) : Ev (tCB (rAll K) (tCons te tNil)) σ H (.bl (bs.all id)) := fun H1 e Q q =>
  h H1 e _ fun p H2 _ e2 hp => ⟨p, bs, rfl, sq_of hp, q H2 e2⟩
theorem el_signs {z : Str} {tl : TE} {j : Nat} {vs : List Nat} (g : Nat → V) (h : Ev tl σ H (.str z)) (hz : z.cps.size ≤ 40000) (hw : ∀ x, wipe ((wipe σ vs).set j (some x)) vs = wipe σ vs)
    (he : ∀ c H1, Ex H H1 → Ev te ((wipe σ vs).set j (some (.str ⟨#[c]⟩))) H1 (g c)) : EvL (tLc (iStr tl) (gName j) tYes te vs) σ H (z.cps.toList.map g) := fun H0 e Q q =>
  h H0 e _ fun H1 e1 => ⟨z, rfl, fun Dl hD => lc_it (walk_str (z := z)) (fun i H' => H1 Dl = none ∧ Ex H1 H' ∧ H' Dl = some (.lst ((z.cps.toList.take i).map g))) ⟨hD, Ex.new hD, upd_same⟩ (fun _ _ _ _ => True.intro)
    (fun i x H2 H' hi p y => by
      obtain ⟨rfl, c, hc, rfl⟩ := y
      obtain ⟨p1, p2, p3⟩ := p
      refine ⟨hw _, ?_⟩
      unfold tYes
      dsimp only
      rw [if_pos rfl]
      refine he c H1 (e.trans e1) H' p2 _ fun H3 e3 => ⟨_, e3 _ _ p3, ?_, p1, Ex.mut (p2.trans e3) p1, ?_⟩
      · rw [List.length_map]
        have := List.length_take_le i z.cps.toList
        exact sz_lt (by omega)
      · have hc' : z.cps.toList[i]? = some c := by rw [Array.getElem?_toList]; exact hc
        rw [upd_same, List.take_succ, hc', List.map_append]
        rfl)
    (fun H' p => by
      obtain ⟨p1, p2, p3⟩ := p
      rw [show z.cps.size = z.cps.toList.length from (Array.length_toList).symm, List.take_length] at p3
      exact q Dl H' (fresh_back e1 p1) (e1.trans p2) p3)⟩
end
theorem tyOf_ext {K : PySem.W.Frag} {H H' : Hp} {v : V} {t : Value} (e : Ex H H') (h : TyOf K H v t) : TyOf K H' v t := by
  cases h with
  | non => exact .non
  | bl x => exact .bl x
  | int i => exact .int i
  | str x => exact .str x
  | flt x => exact .flt x
  | lst h => exact .lst (e _ _ h)
  | frz h => exact .frz (e _ _ h)
  | tup h => exact .tup (e _ _ h)
  | dK h => exact .dK (e _ _ h)
  | dT h => exact .dT (e _ _ h)
  | ins h cl ha hn htk hm => exact .ins (e _ _ h) cl ha hn htk hm
theorem boolBy {A : Prop} [Decidable A] {b : Bool} (h : b = true ↔ A) : b = decide A := by
  by_cases hA : A
  · rw [decide_eq_true hA]
    exact h.mpr hA
  · rw [decide_eq_false hA]
    cases b with
    | true => exact absurd (h.mp rfl) hA
    | false => rfl
def isNameB (z : Str) : Bool := (decide (1 ≤ z.length) && decide (z.length ≤ 12)) && z.cps.toList.all fun c => decide (97 ≤ c) && decide (c ≤ 122)
theorem isNameB_of {z : Str} (h : IsName z) : isNameB z = true := by
  obtain ⟨h1, h2, h3⟩ := h
  unfold isNameB
  rw [decide_eq_true h1, decide_eq_true h2]
  simp only [Bool.true_and]
  rw [List.all_eq_true]
  intro c hc
  obtain ⟨a, b⟩ := h3 c hc
  rw [decide_eq_true a, decide_eq_true b]
  rfl
theorem cutV_take {xs : List V} {i : Nat} (h : i ≤ xs.length) : cutV xs none (some (i : Int)) = xs.take i := by
  have e1 : HT.sIx xs.length 0 none = 0 := rfl
  have e2 : HT.sIx xs.length xs.length (some (i : Int)) = i := by
    rw [HT.sIx_nat]
    omega
  unfold cutV
  rw [e1, e2]
  simp
theorem cutV_drop {xs : List V} {i : Nat} (h : i ≤ xs.length) : cutV xs (some (i : Int)) none = xs.drop i := by
  have e1 : HT.sIx xs.length xs.length none = xs.length := rfl
  have e2 : HT.sIx xs.length 0 (some (i : Int)) = i := by
    rw [HT.sIx_nat]
    omega
  unfold cutV
  rw [e1, e2, List.take_of_length_le (by rw [List.length_drop]; omega)]
theorem one_lt (a b : Nat) : decide ([a] < [b]) = decide (a < b) := by
  by_cases h : a < b
  · rw [decide_eq_true h, decide_eq_true (List.cons_lt_cons_iff.mpr (.inl h))]
  · rw [decide_eq_false h, decide_eq_false (fun z => by
      rcases List.cons_lt_cons_iff.mp z with q | ⟨_, q⟩
      · exact h q
      · exact absurd q (List.not_lt_nil _))]
section
variable {P : Program} {w : World} {K : PySem.W.Frag} {mg : Str → Option Value} {base : Heap}
/-! ### is_integer, is_between, is_name -/
def spIsInt (K : PySem.W.Frag) : Sp := fun vs H Q _ => ∃ v t b1 b2, vs = [v] ∧ TyX K H v t ∧ (∀ H1, Ex H H1 → TyX K H1 v t) ∧ PySem.W.kitOne K t (.type "int") = some b1 ∧ PySem.W.kitOne K t (.type "bool") = some b2 ∧ RetV (.bl (b1 && !b2)) H Q
theorem v_isInt {H : Hp} {i : Int} : SpV (spIsInt K) [.int i] H (.bl true) := fun H1 e Q q E => ⟨.int i, .type "int", true, false, rfl, .base (.int i), fun _ _ => .base (.int i), kit_ty (by decide +kernel), kit_ty (by decide +kernel), q⟩
abbrev N_is_integer : List Str := ["value"]
theorem sc_is_integer : FnScope N_is_integer ["value"] (defScope s_is_integer) := ⟨rfl, rfl, rfl, by decide +kernel, rfl, by decide +kernel, by decide +kernel⟩

theorem r_is_integer (T : Txt K mg) : FnR P w K mg base (L2.CX P w) 1 (He.ga K "is_integer") (spIsInt K) := by
  refine fn_mk T.f_is_integer sc_is_integer (fun _ _ _ _ _ _ us hl => match us, hl with | [_], _ => rfl) (fun vs H Q E h => ?_) (fun cdv A outer s H vs Q E hr h => ?_)
  · obtain ⟨v, t, b1, b2, rfl, _⟩ := h
    rfl
  obtain ⟨v, t, b1, b2, rfl, _, ht, h1, h2, q⟩ := h
  refine ⟨_, PSs.nox ((pss_one (ps_ret (pe_and (pe_callB call_isi (by rfl) T.b_isinstance (by decide +kernel) (pa_cons (pv 0) (pa_cons (pe_bltn (v := .ty "int") (by rfl) T.b_int (by decide +kernel) rfl) pa_nil))) (pe_one (pe_not (pe_callB call_isi (by rfl) T.b_isinstance (by decide +kernel) (pa_cons (pv 0) (pa_cons (pe_bltn (v := .ty "bool") (by rfl) T.b_bool (by decide +kernel) rfl) pa_nil))))))))), ?_⟩
  exact s_ret (ev_andV (ev_isi (ev_var rfl) ev_c (.ty _) ht h1) (fun _ => ev_notV (ev_isi (ev_var rfl) ev_c (.ty _) ht h2))) q
def spBtw : Sp := fun vs H Q _ => ∃ i lo hi, vs = [.int i, .int lo, .int hi] ∧ RetV (.bl (decide (lo ≤ i) && decide (i ≤ hi))) H Q
theorem v_btw {H : Hp} {i lo hi : Int} : SpV spBtw [.int i, .int lo, .int hi] H (.bl (decide (lo ≤ i) && decide (i ≤ hi))) := fun H1 e Q q E => ⟨i, lo, hi, rfl, q⟩
abbrev N_is_between : List Str := ["value", "low", "high"]
theorem sc_is_between : FnScope N_is_between ["value", "low", "high"] (defScope s_is_between) := ⟨rfl, rfl, rfl, by decide +kernel, rfl, by decide +kernel, by decide +kernel⟩

theorem r_is_between (T : Txt K mg) : FnR P w K mg base (L2.CX P w) 2 (He.ga K "is_between") spBtw := by
  have G_is_integer : FnR P w K mg base (L2.CX P w) 1 (He.ga K "is_integer") (spIsInt K) := r_is_integer T
  refine fn_mk T.f_is_between sc_is_between (fun _ _ _ _ _ _ us hl => match us, hl with | [_, _, _], _ => rfl) (fun vs H Q E h => ?_) (fun cdv A outer s H vs Q E hr h => ?_)
  · obtain ⟨i, lo, hi, rfl, _⟩ := h
    rfl
  obtain ⟨i, lo, hi, rfl, q⟩ := h
  refine ⟨_, PSs.nox ((pss_one (ps_ret (pe_and (pe_callR G_is_integer (hr.mono (by omega)) rfl T.g_is_integer (kp_of T.f_is_integer) passL (pa_cons (pv 0) pa_nil)) (pe_one (pe_chain op_le op_le (pv 1) (pv 0) (pv 2))))))), ?_⟩
  exact s_ret (ev_andV (ev_callR (ea_cons (ev_var rfl) ea_nil) v_isInt) (fun _ => ev_chainI (ev_var rfl) (ev_var rfl) (ev_var rfl))) q
def spIsName : Sp := fun vs H Q _ => ∃ z, vs = [.str z] ∧ z.length ≤ 30000 ∧ RetV (.bl (isNameB z)) H Q
theorem v_isName {H : Hp} {z : Str} (hz : IsName z) : SpV spIsName [.str z] H (.bl true) := fun H1 e Q q E => ⟨z, rfl, by have := hz.2.1; omega, by rw [isNameB_of hz]; exact q⟩
abbrev N_is_name : List Str := ["value", "letter"]
theorem sc_is_name : FnScope N_is_name ["value"] (defScope s_is_name) := ⟨rfl, rfl, rfl, by decide +kernel, rfl, by decide +kernel, by decide +kernel⟩

theorem r_is_name (T : Txt K mg) : FnR P w K mg base (L2.CX P w) 1 (He.ga K "is_name") spIsName := by
  refine fn_mk T.f_is_name sc_is_name (fun _ _ _ _ _ _ us hl => match us, hl with | [_], _ => rfl) (fun vs H Q E h => ?_) (fun cdv A outer s H vs Q E hr h => ?_)
  · obtain ⟨z, rfl, _⟩ := h
    rfl
  obtain ⟨z, rfl, hz, q⟩ := h
  refine ⟨_, PSs.nox ((pss_cons (ps_if (PW.pt (pw_or (pt_not (pt_val (pe_callB call_isi (by rfl) T.b_isinstance (by decide +kernel) (pa_cons (pv 0) (pa_cons (pe_bltn (v := .ty "str") (by rfl) T.b_str (by decide +kernel) rfl) pa_nil))))) (pw_or1 (pt_not (pt_chain op_le op_le pe_int (pe_callB call_len_str (by rfl) T.b_len PySem.boot_len (pa_cons (pv 0) pa_nil)) (pe_gi rfl T.i_MOST_LETTERS)))))) (pss_one (ps_ret pe_bl)) pss_nil)
    (pss_one (ps_ret (pe_callB (cr_all rfl) (by rfl) T.b_all (by decide +kernel) (pa_cons (pe_lc (own := [("letter", 1)]) (g := gName 1) (tt := tYes) (te := (tChain rLeS rLeS (tC (.str "a")) (tVar 1) (tC (.str "z")))) (by rfl) sc_is_name.nd (pi_str (pv 0)) (blkOk_by (own := [("letter", 1)]) (N := N_is_name) (sc := defScope s_is_name) (by decide +kernel)) (fun _ _ _ _ _ => (pg_name (i := 1) sc_is_name.nd rfl (Or.inl rfl))) (fun _ _ _ _ _ => pts_nil) (fun _ _ _ _ _ => (pe_chain op_leS op_leS pe_str (pv 1) pe_str))) pa_nil)))))), ?_⟩
  have hz2 : z.length ≤ sizeLine := sz_of (by omega)
  refine q_by (A := ¬ (1 ≤ z.length ∧ z.length ≤ 12)) (et_or (et_not (et_B (ev_isi (b := true) (ev_var rfl) ev_c (.ty _) (fun _ _ => .base (.str z)) (kit_ty (by decide +kernel))))) (fun _ => et_not (et_test (ev_chainI ev_c (ev_lenS (ev_var rfl) hz2) ev_c)))) (boolBy (by
    simp only [Bool.not_true, Bool.false_or, Bool.not_eq_true', Bool.and_eq_false_iff, decide_eq_false_iff_not]
    omega)) (fun hA H1 e1 => ?_) (fun hA H1 e1 => ?_)
  · refine s_ret ev_c fun H2 e2 => ?_
    have e : isNameB z = false := by
      unfold isNameB
      by_cases h1 : 1 ≤ z.length
      · rw [decide_eq_false (show ¬ z.length ≤ 12 by omega), Bool.and_false, Bool.false_and]
      · rw [decide_eq_false h1, Bool.false_and, Bool.false_and]
    have := q H2 (e1.trans e2)
    rw [e] at this
    exact this
  · have q1 := el_signs (σ := [some (.str z), none]) (H := H1) (te := tChain rLeS rLeS (tC (.str "a")) (tVar 1) (tC (.str "z"))) (j := 1) (vs := [1]) (fun c => V.bl (decide (97 ≤ c) && decide (c ≤ 122))) (ev_var (i := 0) rfl) (show z.length ≤ 40000 by omega) (fun _ => rfl) (fun c H2 e2 => by
      refine ev_is (ev_chainS ev_c (ev_var rfl) ev_c) ?_
      have a1 : (!decide ((⟨#[c]⟩ : Str).cps.toList < (Str.ofString "a").cps.toList)) = decide (97 ≤ c) := by
        show (!decide ([c] < [97])) = _
        rw [one_lt]
        by_cases h : c < 97
        · rw [decide_eq_true h, decide_eq_false (by omega)]
          rfl
        · rw [decide_eq_false h, decide_eq_true (by omega)]
          rfl
      have a2 : (!decide ((Str.ofString "z").cps.toList < (⟨#[c]⟩ : Str).cps.toList)) = decide (c ≤ 122) := by
        show (!decide ([122] < [c])) = _
        rw [one_lt]
        by_cases h : 122 < c
        · rw [decide_eq_true h, decide_eq_false (by omega)]
          rfl
        · rw [decide_eq_false h, decide_eq_true (by omega)]
          rfl
      rw [a1, a2])
    have eL : z.cps.toList.map (fun c => V.bl (decide (97 ≤ c) && decide (c ≤ 122))) = (z.cps.toList.map fun c => decide (97 ≤ c) && decide (c ≤ 122)).map V.bl := by
      rw [List.map_map]
      rfl
    rw [eL] at q1
    refine s_ret (ev_all q1) fun H2 e2 => ?_
    have e : isNameB z = (z.cps.toList.map fun c => decide (97 ≤ c) && decide (c ≤ 122)).all id := by
      unfold isNameB
      rw [decide_eq_true (show 1 ≤ z.length by omega), decide_eq_true (show z.length ≤ 12 by omega), List.all_map]
      rfl
    rw [← e]
    exact q H2 (e1.trans e2)
/-! ### the checks, for what they accept -/
def spChkT : Sp := fun vs H Q _ => ∃ i, vs = [.int i] ∧ 0 ≤ i ∧ i ≤ mostT ∧ RetV .non H Q
theorem v_chkT {H : Hp} {i : Int} (h0 : 0 ≤ i) (h1 : i ≤ mostT) : SpV spChkT [.int i] H .non := fun H1 e Q q E => ⟨i, rfl, h0, h1, q⟩
abbrev N_check_time : List Str := ["value"]
theorem sc_check_time : FnScope N_check_time ["value"] (defScope s_check_time) := ⟨rfl, rfl, rfl, by decide +kernel, rfl, by decide +kernel, by decide +kernel⟩

theorem r_check_time (T : Txt K mg) : FnR P w K mg base (L2.CX P w) 3 (He.ga K "check_time") spChkT := by
  have G_is_between : FnR P w K mg base (L2.CX P w) 2 (He.ga K "is_between") spBtw := r_is_between T
  refine fn_mk T.f_check_time sc_check_time (fun _ _ _ _ _ _ us hl => match us, hl with | [_], _ => rfl) (fun vs H Q E h => ?_) (fun cdv A outer s H vs Q E hr h => ?_)
  · obtain ⟨i, rfl, _⟩ := h
    rfl
  obtain ⟨i, rfl, h0, h1, q⟩ := h
  refine ⟨_, PSs.nox ((pss_one (ps_if (pt_not (pt_val (pe_callR G_is_between (hr.mono (by omega)) rfl T.g_is_between (kp_of T.f_is_between) passL (pa_cons (pv 0) (pa_cons pe_int (pa_cons (pe_gi rfl T.i_MOST_TIME) pa_nil)))))) (pss_one (ps_never)) pss_nil))), ?_⟩
  refine s_when (b := false) (et_is (et_not (et_B (ev_callR (ea_cons (ev_var rfl) (ea_cons ev_c (ea_cons ev_c ea_nil))) v_btw))) ?_) (fun z => nomatch z) (fun _ H1 e1 => q H1 e1)
  have e : (1000000000000000000000000000000 : Int) = mostT := rfl
  rw [e, decide_eq_true h0, decide_eq_true h1]
  rfl
def spChkN : Sp := fun vs H Q _ => ∃ z, vs = [.str z] ∧ IsName z ∧ RetV .non H Q
theorem v_chkN {H : Hp} {z : Str} (h : IsName z) : SpV spChkN [.str z] H .non := fun H1 e Q q E => ⟨z, rfl, h, q⟩
abbrev N_check_name : List Str := ["value"]
theorem sc_check_name : FnScope N_check_name ["value"] (defScope s_check_name) := ⟨rfl, rfl, rfl, by decide +kernel, rfl, by decide +kernel, by decide +kernel⟩

theorem r_check_name (T : Txt K mg) : FnR P w K mg base (L2.CX P w) 2 (He.ga K "check_name") spChkN := by
  have G_is_name : FnR P w K mg base (L2.CX P w) 1 (He.ga K "is_name") spIsName := r_is_name T
  refine fn_mk T.f_check_name sc_check_name (fun _ _ _ _ _ _ us hl => match us, hl with | [_], _ => rfl) (fun vs H Q E h => ?_) (fun cdv A outer s H vs Q E hr h => ?_)
  · obtain ⟨z, rfl, _⟩ := h
    rfl
  obtain ⟨z, rfl, hz, q⟩ := h
  refine ⟨_, PSs.nox ((pss_one (ps_if (pt_not (pt_val (pe_callR G_is_name (hr.mono (by omega)) rfl T.g_is_name (kp_of T.f_is_name) passL (pa_cons (pv 0) pa_nil)))) (pss_one (ps_never)) pss_nil))), ?_⟩
  exact s_when (b := false) (et_not (et_B (ev_callR (ea_cons (ev_var rfl) ea_nil) (v_isName hz)))) (fun z => nomatch z) (fun _ H1 e1 => q H1 e1)
theorem tyP (T : Txt K mg) {H : Hp} {a : Addr} {p : Prog} (h : IsP (PC K) H a p) : TyOf K H (.ref a) (.ref (PC K)) := by
  obtain ⟨dx, l, w, ha, _⟩ := h.at_
  exact .ins ha T.cls_Program T.clsat_Program T.clsget_Program T.clstk_Program T.mro_Program
def spChkP (C : Addr) : Sp := fun vs H Q _ => ∃ z a p, vs = [.str z, .ref a] ∧ IsP C H a p ∧ RetV .non H Q
theorem v_chkP {C : Addr} {H : Hp} {z : Str} {a : Addr} {p : Prog} (h : IsP C H a p) : SpV (spChkP C) [.str z, .ref a] H .non := fun H1 e Q q E => ⟨z, a, p, rfl, h.ext e, q⟩
abbrev N_check_program : List Str := ["part", "value"]
theorem sc_check_program : FnScope N_check_program ["part", "value"] (defScope s_check_program) := ⟨rfl, rfl, rfl, by decide +kernel, rfl, by decide +kernel, by decide +kernel⟩

theorem r_check_program (T : Txt K mg) : FnR P w K mg base (L2.CX P w) 1 (He.ga K "check_program") (spChkP (PC K)) := by
  refine fn_mk T.f_check_program sc_check_program (fun _ _ _ _ _ _ us hl => match us, hl with | [_, _], _ => rfl) (fun vs H Q E h => ?_) (fun cdv A outer s H vs Q E hr h => ?_)
  · obtain ⟨z, a, p, rfl, _⟩ := h
    rfl
  obtain ⟨z, a, p, rfl, hp, q⟩ := h
  refine ⟨_, PSs.nox ((pss_one (ps_if (pt_not (pt_val (pe_callB call_isi (by rfl) T.b_isinstance (by decide +kernel) (pa_cons (pv 1) (pa_cons (pe_glob (v := .ref (He.ga K "Program")) rfl T.g_Program rfl) pa_nil))))) (pss_one (ps_never)) pss_nil))), ?_⟩
  exact s_when (b := false) (et_not (et_B (ev_isi (ev_var rfl) ev_c (.own _) (fun H1 e => .base (tyOf_ext e (tyP T hp))) T.kit_Program))) (fun z => nomatch z) (fun _ H1 e1 => q H1 e1)
def spChkNs : Sp := fun vs H Q _ => ∃ (l : Addr) (ws : List Str), vs = [.ref l] ∧ H l = some (.lst (ws.map V.str)) ∧ 1 ≤ ws.length ∧ ws.length ≤ 20 ∧ (∀ z ∈ ws, IsName z) ∧ ws.Nodup ∧ RetV .non H Q
theorem v_chkNs {H : Hp} {l : Addr} {ws : List Str} (hl : H l = some (.lst (ws.map V.str))) (h1 : 1 ≤ ws.length) (h2 : ws.length ≤ 20) (hn : ∀ z ∈ ws, IsName z) (hd : ws.Nodup) : SpV spChkNs [.ref l] H .non := fun H1 e Q q E => ⟨l, ws, rfl, e _ _ hl, h1, h2, hn, hd, q⟩
theorem ev_lenL {σ : L2.St} {H : Hp} {ta : TE} {p : Addr} {xs : List V} (ha : Ev ta σ H (.ref p)) (h : SqL K H p xs) : Ev (tCB (fun xs H Q => ∃ p ys, xs = [.ref p] ∧ (SqL K H p ys ∨ SqT K H p ys) ∧ Q (.int ys.length) H) (tCons ta tNil)) σ H (.int (xs.length : Int)) := fun H1 e Q q =>
  ha H1 e _ fun H2 e2 => ⟨p, xs, rfl, Or.inl (ex_l (e.trans e2) h), q H2 e2⟩
abbrev N_check_names : List Str := ["names", "at", "name"]
theorem sc_check_names : FnScope N_check_names ["names"] (defScope s_check_names) := ⟨rfl, rfl, rfl, by decide +kernel, rfl, by decide +kernel, by decide +kernel⟩

theorem r_check_names (T : Txt K mg) : FnR P w K mg base (L2.CX P w) 2 (He.ga K "check_names") spChkNs := by
  have G_is_name : FnR P w K mg base (L2.CX P w) 1 (He.ga K "is_name") spIsName := r_is_name T
  refine fn_mk T.f_check_names sc_check_names (fun _ _ _ _ _ _ us hl => match us, hl with | [_], _ => rfl) (fun vs H Q E h => ?_) (fun cdv A outer s H vs Q E hr h => ?_)
  · obtain ⟨l, ws, rfl, _⟩ := h
    rfl
  obtain ⟨l, ws, rfl, hl, h1, h2, hn, hd, q⟩ := h
  refine ⟨_, PSs.nox ((pss_cons (ps_if (PW.pt (pw_or (pt_not (pt_val (pe_callB call_isi (by rfl) T.b_isinstance (by decide +kernel) (pa_cons (pv 0) (pa_cons (pe_bltn (v := .ty "list") (by rfl) T.b_list (by decide +kernel) rfl) pa_nil))))) (pw_or1 (pt_not (pt_chain op_le op_le pe_int (pe_callB call_len_seq (by rfl) T.b_len PySem.boot_len (pa_cons (pv 0) pa_nil)) (pe_gi rfl T.i_MOST_PARTS)))))) (pss_one (ps_never)) pss_nil)
    (pss_one (ps_for PassesOwn.never rfl (pi_enum (by rfl) T.b_enumerate (pa_cons (pv 0) pa_nil)) (pg_tup rfl (pgs_cons (pg_name (i := 1) sc_check_names.nd rfl (Or.inl rfl)) (pgs_cons (pg_name (i := 2) sc_check_names.nd rfl (Or.inl rfl)) pgs_nil))) (pss_one (ps_if (PW.pt (pw_or (pt_not (pt_val (pe_callR G_is_name (hr.mono (by omega)) rfl T.g_is_name (kp_of T.f_is_name) passL (pa_cons (pv 2) pa_nil)))) (pw_or1 (pt_cmpR op_in_seq (pv 2) (pe_slice sl_list (pv 0) po_none (po_some (pv 1))) (by rfl))))) (pss_one (ps_never)) pss_nil)))))), ?_⟩
  refine q_no (et_is (et_or (et_not (et_B (ev_isi (b := true) (ev_var rfl) ev_c (.ty _) (fun H1 e => .base (.lst (e _ _ hl))) (kit_ty (by decide +kernel))))) (fun _ => et_not (et_test (ev_chainI ev_c (ev_lenL (ev_var rfl) (sq_of hl)) ev_c)))) ?_) fun H1 e1 => ?_
  · rw [List.length_map, decide_eq_true (show (1 : Int) ≤ (ws.length : Int) by omega), decide_eq_true (show (ws.length : Int) ≤ 20 by omega)]
    rfl
  have hl1 := e1 _ _ hl
  refine ⟨_, rfl, l, _, rfl, sq_of hl1, for_it (walk_enum (xs := ws.map V.str)) (fun i σ' H' => Ex H H' ∧ ∃ u v, σ' = [some (.ref l), u, v]) ⟨e1, none, none, rfl⟩ (fun i σ' H' _ hP => sq_of (hP.1 _ _ hl)) (fun i x σ' H2 H3 hi hP hy => ?_) (fun σ' H' hP => ?_)⟩
  · obtain ⟨e2, u, v, rfl⟩ := hP
    obtain ⟨Tt, x1, y1, rfl, hT, rfl, hx1, hy1⟩ := hy
    have ei : x1 = .int (i : Nat) := (Option.some.inj hx1).symm
    subst ei
    have hy2 : (ws.map V.str)[i]? = some y1 := hy1
    rw [List.getElem?_map] at hy2
    obtain ⟨z, hz, rfl⟩ := Option.map_eq_some_iff.mp hy2
    have e3 : Ex H (upd H2 Tt (.tup [.int (i : Nat), .str z])) := e2.trans (Ex.new hT)
    refine ⟨Tt, _, rfl, st_of upd_same, rfl, _, _, rfl, _, _, rfl, rfl, ?_⟩
    show tIfS _ _ _ _ _ _
    have hl3 := e3 _ _ hl
    have hsl : EvL (tSl (rSlL K) (tVar 0) tNoPart (tPart (tVar 1))) [some (.ref l), some (.int (i : Nat)), some (.str z)] (upd H2 Tt (.tup [.int (i : Nat), .str z])) (cutV (ws.map V.str) none (some (i : Int))) := el_sl (ev_var rfl) eo_none (eo_some (ev_var rfl)) (sq_of hl3)
    have ecut : cutV (ws.map V.str) none (some (i : Int)) = (ws.take i).map V.str := by
      have hi' : i ≤ (ws.map V.str).length := by omega
      rw [List.map_take]
      exact cutV_take hi'
    rw [ecut] at hsl
    refine s_when (b := false) (et_is (et_or (et_not (et_B (ev_callR (ea_cons (ev_var rfl) ea_nil) (v_isName (hn z (List.mem_of_getElem? hz)))))) (fun _ => et_test (ev_opL (r := rIn K false) (ev_var rfl) hsl fun p H4 hp _ => rv_isL (sq_of hp) rfl (flat_words _)))) ?_) (fun z => nomatch z) (fun _ H4 e4 => ⟨e3.trans e4, _, _, rfl⟩)
    have en : inV (.str z) ((ws.take i).map V.str) = false := by
      rw [show V.str z = brV (some z) from rfl, inV_words]
      show decide (z ∈ ws.take i) = false
      refine decide_eq_false fun hm => ?_
      obtain ⟨j, hj, ej⟩ := List.mem_iff_getElem.mp hm
      rw [List.length_take] at hj
      rw [List.getElem_take] at ej
      have hi2 : i < ws.length := (List.getElem?_eq_some_iff.mp hz).1
      have e1' : ws[j]? = some z := by rw [List.getElem?_eq_getElem (by omega), ej]
      have := nd_ix hd e1' hz
      omega
    rw [en]
    rfl
  · obtain ⟨e2, u, v, rfl⟩ := hP
    exact q H' e2
end
end Cu

/-! == Core5 -/
set_option maxHeartbeats 4000000
namespace Cu
open PySem PySem.Spec PyProof.Rows L2 Evl CuT
/-! ### what programs are made of -/
inductive Pure (C : Addr) : HO → Prop where
  | ins (dx : Addr) (k : Kind) (l : Addr) (n : Int) (w : Addr) (nd d s : Int) (b : Option Str) : Pure C (.ins C dx (flds k l n w nd d s b))
  | refs (as : List Addr) : Pure C (.lst (as.map V.ref))
  | txts (ws : List Str) : Pure C (.lst (ws.map V.str))
section
variable {C : Addr} {H H' : Hp} {a l : Addr} {p : Prog} {ps : List Prog}
theorem IsP.keep (k : ∀ b o, Pure C o → H b = some o → H' b = some o) (h : IsP C H a p) : IsP C H' a p := by
  induction h with
  | mk ha hl hw len sub ih => exact .mk (k _ _ (.ins ..) ha) (k _ _ (.refs _) hl) (k _ _ (.txts _) hw) len ih
theorem PL.keep (k : ∀ b o, Pure C o → H b = some o → H' b = some o) (h : PL C H l ps) : PL C H' l ps := by
  obtain ⟨as, h1, h2, h3⟩ := h
  exact ⟨as, k _ _ (.refs _) h1, h2, fun i x q a b => (h3 i x q a b).keep k⟩
/-- all but x is kept, and x is no such thing -/
theorem keep_but {x : Addr} {u : HO} (hx : H x = some u) (hu : ¬ Pure C u) (k : ∀ b o, b ≠ x → H b = some o → H' b = some o) : ∀ b o, Pure C o → H b = some o → H' b = some o := fun b o hp h => by
  refine k b o (fun e => ?_) h
  subst e
  rw [hx] at h
  cases h
  exact hu hp
theorem notPure_short {dx : Addr} {fs : List (Str × V)} (h : fs.length < 8) : ¬ Pure C (.ins C dx fs) := fun z => by
  generalize e : HO.ins C dx fs = o at z
  cases z with
  | ins dx' k l n w nd d s b =>
    injection e with _ _ e3
    rw [e3] at h
    have h' : (8 : Nat) < 8 := h
    omega
  | refs as => cases e
  | txts ws => cases e
theorem notPure_int {i : Int} {r : List V} : ¬ Pure C (.lst (.int i :: r)) := fun z => by
  generalize e : HO.lst (.int i :: r) = o at z
  cases z with
  | ins dx' k l n w nd d s b => cases e
  | refs as =>
    cases as with
    | nil => cases e
    | cons x r => cases e
  | txts ws =>
    cases ws with
    | nil => cases e
    | cons x r => cases e
end
/-- all but x is as it was -/
def But (x : Addr) (H H' : Hp) : Prop := ∀ b o, b ≠ x → H b = some o → H' b = some o
theorem But.of {x : Addr} {H H' : Hp} (e : Ex H H') : But x H H' := fun b o _ h => e b o h
theorem But.trans {x : Addr} {H H1 H2 : Hp} (a : But x H H1) (b : But x H1 H2) : But x H H2 := fun c o hc h => b c o hc (a c o hc h)
theorem But.upd {x : Addr} {H : Hp} {o : HO} : But x H (upd H x o) := fun b u hb h => by rw [upd_ne hb]; exact h
def RetP (C : Addr) (p : Prog) (H : Hp) (Q : VK) : Prop := ∀ H' a, Ex H H' → IsP C H' a p → Q (.ref a) H'
theorem RetP.ext {C : Addr} {p : Prog} {H H' : Hp} {Q : VK} (q : RetP C p H Q) (e : Ex H H') : RetP C p H' Q := fun H2 a e2 h => q H2 a (e.trans e2) h
section
variable {P : Program} {w : World} {K : PySem.W.Frag} {mg : Str → Option Value} {base : Heap}
/-! ### Program.__init__ -/
structure MkOk (k : Kind) (ps : List Prog) (n : Int) (ws : List Str) : Prop where
  wf : ∀ p ∈ ps, WF p
  sh : Shape k ps n ws
  ln : nodesOf ps ≤ 300
  ld : depthOf ps ≤ 60
theorem nodesOf_len {ps : List Prog} (h : ∀ p ∈ ps, WF p) : (ps.length : Int) + 1 ≤ nodesOf ps := by
  have key : ∀ l : List Prog, (∀ p ∈ l, WF p) → (l.length : Int) ≤ (l.map Prog.nodes).sum := by
    intro l
    induction l with
    | nil => intro _; exact Int.le_refl 0
    | cons p r ih =>
      intro h
      have h1 := (h p List.mem_cons_self).nodes_pos
      have h2 := ih fun q hq => h q (List.mem_cons_of_mem _ hq)
      rw [List.map_cons, List.sum_cons, List.length_cons]
      omega
  have := key ps h
  unfold nodesOf
  omega
theorem MkOk.few {k : Kind} {ps : List Prog} {n : Int} {ws : List Str} (m : MkOk k ps n ws) : ps.length ≤ 300 := by
  have := nodesOf_len m.wf
  have := m.ln
  omega
theorem MkOk.ok {k : Kind} {ps : List Prog} {n : Int} {ws : List Str} (m : MkOk k ps n ws) : WF (mkP k ps n ws) := mkP_wf m.wf m.sh m.ln m.ld
def spInit (C : Addr) : Sp := fun vs H Q _ => ∃ x dx k l ps n wl ws, vs = [.ref x, .str (Kind.s k), .ref l, .int n, .ref wl] ∧ H x = some (.ins C dx []) ∧ PL C H l ps ∧ H wl = some (.lst (ws.map V.str)) ∧ MkOk k ps n ws ∧
  ∀ H', But x H H' → H' x = some (.ins C dx (flds k l n wl (nodesOf ps) (depthOf ps) (meas k ps n ws).1 (meas k ps n ws).2)) → Q .non H'
abbrev N_Program_init : List Str := ["self", "kind", "parts", "number", "words", "nodes", "depth", "part"]
theorem sc_Program_init : FnScope N_Program_init ["self", "kind", "parts", "number", "words"] (defScope s_Program_init) := ⟨rfl, rfl, rfl, by decide +kernel, rfl, by decide +kernel, by decide +kernel⟩

theorem r_Program_init (T : Txt K mg) : FnR P w K mg base (L2.CX P w) 126 (He.ma K (He.ga K "Program") "__init__") (spInit (PC K)) := by
  have G_measure : FnR P w K mg base (L2.CX P w) 125 (He.ga K "measure") (spMeas (PC K)) := r_measure T
  refine fn_mk T.f_Program_init sc_Program_init (fun _ _ _ _ _ _ us hl => match us, hl with | [_, _, _, _, _], _ => rfl) (fun vs H Q E h => ?_) (fun cdv A outer s H vs Q E hr h => ?_)
  · obtain ⟨x, dx, k, l, ps, n, wl, ws, rfl, _⟩ := h
    rfl
  obtain ⟨x, dx, k, l, ps, n, wl, ws, rfl, hx, hl, hwl, mk, q⟩ := h
  refine ⟨_, PSs.nox ((pss_cons (ps_set (i := 5) sc_Program_init.nd rfl (Or.inl rfl) (pe_op op_add pe_int (pe_callB (cr_sum rfl) (by rfl) T.b_sum (by decide +kernel) (pa_cons (pe_lc (own := [("part", 7)]) (g := gName 7) (tt := tYes) (te := (tFld K (tVar 7) "nodes")) (by rfl) sc_Program_init.nd (pi_list (pv 2)) (blkOk_by (own := [("part", 7)]) (N := N_Program_init) (sc := defScope s_Program_init) (by decide +kernel)) (fun _ _ _ _ _ => (pg_name (i := 7) sc_Program_init.nd rfl (Or.inl rfl))) (fun _ _ _ _ _ => pts_nil) (fun _ _ _ _ _ => (pe_fld (pv 7) rfl))) pa_nil))))
    (pss_cons (ps_set (i := 6) sc_Program_init.nd rfl (Or.inl rfl) (pe_op op_add pe_int (pe_callB (cr_max rfl) (by rfl) T.b_max (by decide +kernel) (pa_cons (pe_op op_cat (pe_lst (pa_cons pe_int pa_nil)) (pe_lc (own := [("part", 7)]) (g := gName 7) (tt := tYes) (te := (tFld K (tVar 7) "depth")) (by rfl) sc_Program_init.nd (pi_list (pv 2)) (blkOk_by (own := [("part", 7)]) (N := N_Program_init) (sc := defScope s_Program_init) (by decide +kernel)) (fun _ _ _ _ _ => (pg_name (i := 7) sc_Program_init.nd rfl (Or.inl rfl))) (fun _ _ _ _ _ => pts_nil) (fun _ _ _ _ _ => (pe_fld (pv 7) rfl)))) pa_nil))))
    (pss_cons (ps_if (pt_cmpR op_gt (pv 5) (pe_gi rfl T.i_MOST_NODES) (nomark _)) (pss_one (ps_never)) pss_nil)
    (pss_cons (ps_if (pt_cmpR op_gt (pv 6) (pe_gi rfl T.i_MOST_DEPTH) (nomark _)) (pss_one (ps_never)) pss_nil)
    (pss_cons (ps_fld (pv 0) (pv 1) rfl)
    (pss_cons (ps_fld (pv 0) (pv 2) rfl)
    (pss_cons (ps_fld (pv 0) (pv 3) rfl)
    (pss_cons (ps_fld (pv 0) (pv 4) rfl)
    (pss_cons (ps_fld (pv 0) (pv 5) rfl)
    (pss_cons (ps_fld (pv 0) (pv 6) rfl)
    (pss_one (ps_asg (pe_callR G_measure (hr.mono (by omega)) rfl T.g_measure (kp_of T.f_measure) passL (pa_cons (pv 1) (pa_cons (pv 2) (pa_cons (pv 3) (pa_cons (pv 4) pa_nil))))) (pg_tup rfl (pgs_cons (pg_fld (pv 0)) (pgs_cons (pg_fld (pv 0)) pgs_nil)))))))))))))))), ?_⟩
  obtain ⟨zs, h1, h2, h3⟩ := hl.zs
  have hlz : zs.length ≤ 300 := by have := mk.few; rw [h2, List.length_map] at this; exact this
  have q1 := el_map (K := K) (σ := start N_Program_init [.ref x, .str k.s, .ref l, .int n, .ref wl]) (H := H) (te := tFld K (tVar 7) "nodes") (j := 7) (vs := [7]) (zs := zs) (toV := fun z => V.ref z.1) (fun z => V.int z.2.nodes) (ev_var (i := 2) rfl) (sq_of h1) (by omega) (fun _ => rfl)
    (fun z H3 e3 hz => ev_nodes T (ev_var rfl) ((h3 z hz).ext e3))
  have eL : zs.map (fun z => V.int z.2.nodes) = (ps.map Prog.nodes).map V.int := by
    rw [h2, List.map_map, List.map_map]
    rfl
  rw [eL] at q1
  refine q_asg (ev_op ev_c (ev_sum q1) rv_I0) fun H1 e1 => ?_
  have q2 := el_map (K := K) (σ := [some (.ref x), some (.str k.s), some (.ref l), some (.int n), some (.ref wl), some (.int (1 + (ps.map Prog.nodes).sum)), none, none]) (H := H1) (te := tFld K (tVar 7) "depth") (j := 7) (vs := [7]) (zs := zs) (toV := fun z => V.ref z.1) (fun z => V.int z.2.depth) (ev_var (i := 2) rfl) (sq_of (e1 _ _ h1)) (by omega) (fun _ => rfl)
    (fun z H3 e3 hz => ev_depth T (ev_var rfl) ((h3 z hz).ext (e1.trans e3)))
  have eL2 : zs.map (fun z => V.int z.2.depth) = (ps.map Prog.depth).map V.int := by
    rw [h2, List.map_map, List.map_map]
    rfl
  rw [eL2] at q2
  have q3 : EvL (tOp rCat (tLst (tCons (tC (.int 0)) tNil)) (tLc (iList K (tVar 2)) (gName 7) tYes (tFld K (tVar 7) "depth") [7])) [some (.ref x), some (.str k.s), some (.ref l), some (.int n), some (.ref wl), some (.int (1 + (ps.map Prog.nodes).sum)), none, none] H1 ((0 :: ps.map Prog.depth).map V.int) :=
    el_cat (el1 (ev_c (v := .int 0))) q2 (by
      rw [List.length_map, List.length_map, h2, List.length_map]
      show 1 + zs.length ≤ 100000
      omega)
  refine q_asg (ev_op ev_c (ev_max q3 (by simp)) rv_I0) fun H2 e2 => ?_
  have eN : nodesOf ps = 1 + (ps.map Prog.nodes).sum := rfl
  have eD : depthOf ps = 1 + maxL (0 :: ps.map Prog.depth) := rfl
  rw [← eN, ← eD]
  refine q_no (et_is (et_cmp (ev_var rfl) ev_c) (decide_eq_false (by have := mk.ln; omega))) fun H3 e3 => ?_
  refine q_no (et_is (et_cmp (ev_var rfl) ev_c) (decide_eq_false (by have := mk.ld; omega))) fun H4 e4 => ?_
  have e5 : Ex H H4 := ((e1.trans e2).trans e3).trans e4
  have hx4 := e5 _ _ hx
  refine ⟨_, rfl, _, rfl, x, _, dx, _, rfl, hx4, T.cls_Program, T.n_Program_kind, (by show (0 : Nat) < 1000; decide), ?_⟩
  refine ⟨_, rfl, _, rfl, x, _, dx, _, rfl, upd_same, T.cls_Program, T.n_Program_parts, (by show (1 : Nat) < 1000; decide), ?_⟩
  refine ⟨_, rfl, _, rfl, x, _, dx, _, rfl, upd_same, T.cls_Program, T.n_Program_number, (by show (2 : Nat) < 1000; decide), ?_⟩
  refine ⟨_, rfl, _, rfl, x, _, dx, _, rfl, upd_same, T.cls_Program, T.n_Program_words, (by show (3 : Nat) < 1000; decide), ?_⟩
  refine ⟨_, rfl, _, rfl, x, _, dx, _, rfl, upd_same, T.cls_Program, T.n_Program_nodes, (by show (4 : Nat) < 1000; decide), ?_⟩
  refine ⟨_, rfl, _, rfl, x, _, dx, _, rfl, upd_same, T.cls_Program, T.n_Program_depth, (by show (5 : Nat) < 1000; decide), ?_⟩
  rw [upd_upd, upd_upd, upd_upd, upd_upd, upd_upd]
  rw [show putF "depth" (.int (depthOf ps)) (putF "nodes" (.int (nodesOf ps)) (putF "words" (.ref wl) (putF "number" (.int n) (putF "parts" (.ref l) (putF "kind" (.str k.s) []))))) = ([("kind", .str k.s), ("parts", .ref l), ("number", .int n), ("words", .ref wl), ("nodes", .int (nodesOf ps)), ("depth", .int (depthOf ps))] : List (Str × V)) from rfl]
  have b6 : But x H (upd H4 x (.ins (PC K) dx [("kind", .str k.s), ("parts", .ref l), ("number", .int n), ("words", .ref wl), ("nodes", .int (nodesOf ps)), ("depth", .int (depthOf ps))])) := (But.of e5).trans But.upd
  have kk := keep_but (C := PC K) hx (notPure_short (by decide)) b6
  refine ⟨_, rfl, _, rfl, _, rfl, _, rfl, k, l, ps, n, wl, ws, rfl, hl.keep kk, kk _ _ (.txts _) hwl, mk.sh, mk.wf, fun t H7 ht e7 h7 => ?_⟩
  refine ⟨t, _, rfl, st_of h7, rfl, _, _, rfl, _, rfl, x, _, dx, _, rfl, e7 _ _ upd_same, T.cls_Program, T.n_Program_span, (by show (6 : Nat) < 1000; decide), _, _, rfl, _, rfl, x, _, dx, _, rfl, upd_same, T.cls_Program, T.n_Program_broken, (by show (7 : Nat) < 1000; decide), rfl, ?_⟩
  rw [upd_upd]
  exact q _ ((b6.trans (But.of e7)).trans But.upd) upd_same
/-- a new program -/
theorem make_ok {C : Addr} {H : Hp} {k : Kind} {l wl : Addr} {ps : List Prog} {n : Int} {ws : List Str} {Q : VK} {E : XK} (hl : PL C H l ps) (hwl : H wl = some (.lst (ws.map V.str))) (mk : MkOk k ps n ws) (q : RetP C (mkP k ps n ws) H Q) :
    ∀ x dx, H x = none → H dx = none → dx ≠ x → spInit C [.ref x, .str k.s, .ref l, .int n, .ref wl] (upd (upd H dx (.own x)) x (.ins C dx [])) (fun v H2 => v = .non ∧ Q (.ref x) H2) E := fun x dx nx ndx ne => by
  have e1 : Ex H (upd (upd H dx (.own x)) x (.ins C dx [])) := (Ex.new ndx).trans (Ex.new (by rw [upd_ne (Ne.symm ne)]; exact nx))
  refine ⟨x, dx, k, l, ps, n, wl, ws, rfl, upd_same, hl.ext e1, e1 _ _ hwl, mk, fun H' b hx => ⟨rfl, ?_⟩⟩
  have e2 : Ex H H' := fun c o h => b c o (ne_of_none h nx) (e1 c o h)
  refine q H' x e2 ?_
  obtain ⟨as, h1, h2, h3⟩ := hl.ext e2
  exact .mk hx h1 (e2 _ _ hwl) h2 h3
/-! ### methods that only tell -/
def spTL (C : Addr) : Sp := fun vs H Q _ => ∃ a p, vs = [.ref a] ∧ IsP C H a p ∧ RetV (.int p.span) H Q
abbrev N_Program_total_length : List Str := ["self"]
theorem sc_Program_total_length : FnScope N_Program_total_length ["self"] (defScope s_Program_total_length) := ⟨rfl, rfl, rfl, by decide +kernel, rfl, by decide +kernel, by decide +kernel⟩

theorem r_Program_total_length (T : Txt K mg) : FnR P w K mg base (L2.CX P w) 1 (He.ma K (He.ga K "Program") "total_length") (spTL (PC K)) := by
  refine fn_mk T.f_Program_total_length sc_Program_total_length (fun _ _ _ _ _ _ us hl => match us, hl with | [_], _ => rfl) (fun vs H Q E h => ?_) (fun cdv A outer s H vs Q E hr h => ?_)
  · obtain ⟨a, p, rfl, _⟩ := h
    rfl
  obtain ⟨a, p, rfl, hp, q⟩ := h
  refine ⟨_, PSs.nox ((pss_one (ps_ret (pe_fld (pv 0) rfl)))), ?_⟩
  exact s_ret (ev_span T (ev_var rfl) hp) q
def spFN (C : Addr) : Sp := fun vs H Q _ => ∃ a p, vs = [.ref a] ∧ IsP C H a p ∧ RetV (brV p.broken) H Q
def spNC (C : Addr) : Sp := fun vs H Q _ => ∃ a p, vs = [.ref a] ∧ IsP C H a p ∧ RetV (.int p.nodes) H Q
/-! ### flat, the operators -/
def flatP (p : Prog) : List Prog := if p.kind = .seq then p.parts else [p]
def addP (p q : Prog) : Prog := mkP .seq (flatP p ++ flatP q) 0 []
def mulP (p : Prog) (n : Int) : Prog := mkP .loop [p] n []
def spFlat (C : Addr) : Sp := fun vs H Q _ => ∃ a p, vs = [.ref a] ∧ IsP C H a p ∧ ∀ H' l, Ex H H' → PL C H' l (flatP p) → Q (.ref l) H'
theorem PL.nil {C : Addr} {H : Hp} {l : Addr} (h : H l = some (.lst [])) : PL C H l [] := ⟨[], h, rfl, fun i x q hx => by simp at hx⟩
theorem PL.one {C : Addr} {H : Hp} {l a : Addr} {p : Prog} (h : H l = some (.lst [.ref a])) (hp : IsP C H a p) : PL C H l [p] := PL.of (zs := [(a, p)]) h fun z hz => by
  rw [List.mem_singleton.mp hz]
  exact hp
theorem PL.two {C : Addr} {H : Hp} {l a b : Addr} {p q : Prog} (h : H l = some (.lst [.ref a, .ref b])) (hp : IsP C H a p) (hq : IsP C H b q) : PL C H l [p, q] := PL.of (zs := [(a, p), (b, q)]) h fun z hz => by
  rcases List.mem_cons.mp hz with e | e
  · rw [e]
    exact hp
  · rw [List.mem_singleton.mp e]
    exact hq
theorem PL.cat {C : Addr} {H H' : Hp} {l1 l2 l : Addr} {xs ys : List V} {ps qs : List Prog} (h1 : PL C H l1 ps) (h2 : PL C H l2 qs) (e1 : H l1 = some (.lst xs)) (e2 : H l2 = some (.lst ys)) (e : Ex H H') (h : H' l = some (.lst (xs ++ ys))) : PL C H' l (ps ++ qs) := by
  obtain ⟨zs, a1, a2, a3⟩ := h1.zs
  obtain ⟨ws, b1, b2, b3⟩ := h2.zs
  rw [e1] at a1
  rw [e2] at b1
  cases a1
  cases b1
  rw [a2, b2, ← List.map_append]
  refine PL.of (by rw [h, List.map_append]) fun z hz => ?_
  rcases List.mem_append.mp hz with q | q
  · exact (a3 z q).ext e
  · exact (b3 z q).ext e
abbrev N_flat : List Str := ["program"]
theorem sc_flat : FnScope N_flat ["program"] (defScope s_flat) := ⟨rfl, rfl, rfl, by decide +kernel, rfl, by decide +kernel, by decide +kernel⟩

theorem r_flat (T : Txt K mg) : FnR P w K mg base (L2.CX P w) 1 (He.ga K "flat") (spFlat (PC K)) := by
  refine fn_mk T.f_flat sc_flat (fun _ _ _ _ _ _ us hl => match us, hl with | [_], _ => rfl) (fun vs H Q E h => ?_) (fun cdv A outer s H vs Q E hr h => ?_)
  · obtain ⟨a, p, rfl, _⟩ := h
    rfl
  obtain ⟨a, p, rfl, hp, q⟩ := h
  refine ⟨_, PSs.nox ((pss_one (ps_ret (pe_ifExp (pt_cmpR op_eq (pe_fld (pv 0) rfl) pe_str (nomark _)) (pe_fld (pv 0) rfl) (pe_lst (pa_cons (pv 0) pa_nil)))))), ?_⟩
  show tIf _ _ _ _ H Q
  refine et_kind T .seq (ta := tVar 0) (ev_var rfl) hp H (Ex.refl H) _ fun H1 e1 => ?_
  by_cases hk : p.kind = .seq
  · rw [decide_eq_true hk, if_pos rfl]
    obtain ⟨l, hl, el⟩ := ev_parts T (ta := tVar 0) (σ := start N_flat [.ref a]) (ev_var rfl) (hp.ext e1)
    refine el H1 (Ex.refl H1) _ fun H2 e2 => q H2 l (e1.trans e2) ?_
    unfold flatP
    rw [if_pos hk]
    exact hl.ext e2
  · rw [decide_eq_false hk, if_neg Bool.false_ne_true]
    refine ⟨_, rfl, by show 1 ≤ sizeLine; decide, fun l hl => q _ l (e1.trans (Ex.new hl)) ?_⟩
    unfold flatP
    rw [if_neg hk]
    exact PL.one upd_same (hp.ext (e1.trans (Ex.new hl)))
def spAdd (C : Addr) : Sp := fun vs H Q _ => ∃ a b p q, vs = [.ref a, .ref b] ∧ IsP C H a p ∧ IsP C H b q ∧ MkOk .seq (flatP p ++ flatP q) 0 [] ∧ RetP C (addP p q) H Q
abbrev N_Program_add : List Str := ["self", "other"]
theorem sc_Program_add : FnScope N_Program_add ["self", "other"] (defScope s_Program_add) := ⟨rfl, rfl, rfl, by decide +kernel, rfl, by decide +kernel, by decide +kernel⟩

theorem r_Program_add (T : Txt K mg) : FnR P w K mg base (L2.CX P w) 128 (He.ma K (He.ga K "Program") "__add__") (spAdd (PC K)) := by
  have G_flat : FnR P w K mg base (L2.CX P w) 1 (He.ga K "flat") (spFlat (PC K)) := r_flat T
  have G_Program_init : FnR P w K mg base (L2.CX P w) 126 (He.ma K (He.ga K "Program") "__init__") (spInit (PC K)) := r_Program_init T
  refine fn_mk T.f_Program_add sc_Program_add (fun _ _ _ _ _ _ us hl => match us, hl with | [_, _], _ => rfl) (fun vs H Q E h => ?_) (fun cdv A outer s H vs Q E hr h => ?_)
  · obtain ⟨a, b, p, q, rfl, _⟩ := h
    rfl
  obtain ⟨a, b, p, q, rfl, hp, hq, mk, k⟩ := h
  refine ⟨_, PSs.nox ((pss_cons (ps_if (pt_not (pt_val (pe_callB call_isi (by rfl) T.b_isinstance (by decide +kernel) (pa_cons (pv 1) (pa_cons (pe_glob (v := .ref (He.ga K "Program")) rfl T.g_Program rfl) pa_nil))))) (pss_one (ps_never)) pss_nil)
    (pss_one (ps_ret (StX.pe_makeR T.mk_Program G_Program_init (hr.mono (by omega)) rfl T.g_Program passL (pa_cons pe_str (pa_cons (pe_op op_cat (pe_callR G_flat (hr.mono (by omega)) rfl T.g_flat (kp_of T.f_flat) passL (pa_cons (pv 0) pa_nil)) (pe_callR G_flat (hr.mono (by omega)) rfl T.g_flat (kp_of T.f_flat) passL (pa_cons (pv 1) pa_nil))) (pa_cons pe_int (pa_cons (pe_lst pa_nil) pa_nil))))))))), ?_⟩
  refine q_no (et_not (et_B (ev_isi (ev_var rfl) ev_c (.own _) (fun H1 e => .base (tyOf_ext e (tyP T hq))) T.kit_Program))) fun H1 e1 => ?_
  refine ⟨_, rfl, a, p, rfl, hp.ext e1, fun H2 l1 e2 hl1 => ?_⟩
  refine ⟨_, rfl, b, q, rfl, hq.ext (e1.trans e2), fun H3 l2 e3 hl2 => ?_⟩
  obtain ⟨as, a1, a2, _⟩ := (hl1.ext e3)
  obtain ⟨bs, b1, b2, _⟩ := id hl2
  have few := mk.few
  rw [List.length_append] at few
  refine ⟨l1, l2, _, _, rfl, rfl, a1, b1, sz_of (by rw [List.length_map, List.length_map]; omega), fun l hl => ?_⟩
  have e4 := Ex.new (o := .lst (as.map V.ref ++ bs.map V.ref)) hl
  have hL := PL.cat (hl1.ext e3) hl2 a1 b1 e4 upd_same
  refine ⟨by show 0 ≤ sizeLine; decide, fun wl hwl => ?_⟩
  have e5 := Ex.new (o := .lst []) hwl
  exact make_ok (hL.ext e5) (ws := []) upd_same mk (k.ext ((((e1.trans e2).trans e3).trans e4).trans e5))
def spMul (C : Addr) : Sp := fun vs H Q _ => ∃ a p n, vs = [.ref a, .int n] ∧ IsP C H a p ∧ MkOk .loop [p] n [] ∧ RetP C (mulP p n) H Q
abbrev N_Program_mul : List Str := ["self", "count"]
theorem sc_Program_mul : FnScope N_Program_mul ["self", "count"] (defScope s_Program_mul) := ⟨rfl, rfl, rfl, by decide +kernel, rfl, by decide +kernel, by decide +kernel⟩

theorem r_Program_mul (T : Txt K mg) : FnR P w K mg base (L2.CX P w) 128 (He.ma K (He.ga K "Program") "__mul__") (spMul (PC K)) := by
  have G_is_between : FnR P w K mg base (L2.CX P w) 2 (He.ga K "is_between") spBtw := r_is_between T
  have G_Program_init : FnR P w K mg base (L2.CX P w) 126 (He.ma K (He.ga K "Program") "__init__") (spInit (PC K)) := r_Program_init T
  refine fn_mk T.f_Program_mul sc_Program_mul (fun _ _ _ _ _ _ us hl => match us, hl with | [_, _], _ => rfl) (fun vs H Q E h => ?_) (fun cdv A outer s H vs Q E hr h => ?_)
  · obtain ⟨a, p, n, rfl, _⟩ := h
    rfl
  obtain ⟨a, p, n, rfl, hp, mk, k⟩ := h
  refine ⟨_, PSs.nox ((pss_cons (ps_if (pt_not (pt_val (pe_callR G_is_between (hr.mono (by omega)) rfl T.g_is_between (kp_of T.f_is_between) passL (pa_cons (pv 1) (pa_cons pe_int (pa_cons (pe_gi rfl T.i_MOST_COUNT) pa_nil)))))) (pss_one (ps_never)) pss_nil)
    (pss_one (ps_ret (StX.pe_makeR T.mk_Program G_Program_init (hr.mono (by omega)) rfl T.g_Program passL (pa_cons pe_str (pa_cons (pe_lst (pa_cons (pv 0) pa_nil)) (pa_cons (pv 1) (pa_cons (pe_lst pa_nil) pa_nil))))))))), ?_⟩
  obtain ⟨_, n0, n1, _⟩ := mk.sh
  refine q_no (et_is (et_not (et_B (ev_callR (ea_cons (ev_var rfl) (ea_cons ev_c (ea_cons ev_c ea_nil))) v_btw))) ?_) fun H1 e1 => ?_
  · have e : (1000000000000000000000000000000 : Int) = mostT := rfl
    rw [e, decide_eq_true n0, decide_eq_true n1]
    rfl
  refine ⟨_, rfl, by show 1 ≤ sizeLine; decide, fun l hl => ?_⟩
  have e2 := Ex.new (o := .lst [.ref a]) hl
  refine ⟨_, rfl, by show 0 ≤ sizeLine; decide, fun wl hwl => ?_⟩
  have e3 := Ex.new (o := .lst []) hwl
  exact make_ok ((PL.one upd_same (hp.ext (e1.trans e2))).ext e3) (ws := []) upd_same mk (k.ext ((e1.trans e2).trans e3))
def spOr (C : Addr) : Sp := fun vs H Q _ => ∃ a b p q, vs = [.ref a, .ref b] ∧ IsP C H a p ∧ IsP C H b q ∧ MkOk .together [p, q] 0 [] ∧ RetP C (mkP .together [p, q] 0 []) H Q
abbrev N_Program_or : List Str := ["self", "other"]
theorem sc_Program_or : FnScope N_Program_or ["self", "other"] (defScope s_Program_or) := ⟨rfl, rfl, rfl, by decide +kernel, rfl, by decide +kernel, by decide +kernel⟩

theorem r_Program_or (T : Txt K mg) : FnR P w K mg base (L2.CX P w) 128 (He.ma K (He.ga K "Program") "__or__") (spOr (PC K)) := by
  have G_Program_init : FnR P w K mg base (L2.CX P w) 126 (He.ma K (He.ga K "Program") "__init__") (spInit (PC K)) := r_Program_init T
  refine fn_mk T.f_Program_or sc_Program_or (fun _ _ _ _ _ _ us hl => match us, hl with | [_, _], _ => rfl) (fun vs H Q E h => ?_) (fun cdv A outer s H vs Q E hr h => ?_)
  · obtain ⟨a, b, p, q, rfl, _⟩ := h
    rfl
  obtain ⟨a, b, p, q, rfl, hp, hq, mk, k⟩ := h
  refine ⟨_, PSs.nox ((pss_cons (ps_if (pt_not (pt_val (pe_callB call_isi (by rfl) T.b_isinstance (by decide +kernel) (pa_cons (pv 1) (pa_cons (pe_glob (v := .ref (He.ga K "Program")) rfl T.g_Program rfl) pa_nil))))) (pss_one (ps_never)) pss_nil)
    (pss_one (ps_ret (StX.pe_makeR T.mk_Program G_Program_init (hr.mono (by omega)) rfl T.g_Program passL (pa_cons pe_str (pa_cons (pe_lst (pa_cons (pv 0) (pa_cons (pv 1) pa_nil))) (pa_cons pe_int (pa_cons (pe_lst pa_nil) pa_nil))))))))), ?_⟩
  refine q_no (et_not (et_B (ev_isi (ev_var rfl) ev_c (.own _) (fun H1 e => .base (tyOf_ext e (tyP T hq))) T.kit_Program))) fun H1 e1 => ?_
  refine ⟨_, rfl, _, rfl, by show 2 ≤ sizeLine; decide, fun l hl => ?_⟩
  have e2 := Ex.new (o := .lst [.ref a, .ref b]) hl
  refine ⟨by show 0 ≤ sizeLine; decide, fun wl hwl => ?_⟩
  have e3 := Ex.new (o := .lst []) hwl
  exact make_ok ((PL.two upd_same (hp.ext (e1.trans e2)) (hq.ext (e1.trans e2))).ext e3) (ws := []) upd_same mk (k.ext ((e1.trans e2).trans e3))
def spCallP (C : Addr) : Sp := fun vs H Q _ => ∃ a p c, vs = [.ref a, .int c] ∧ IsP C H a p ∧ WF p ∧ 0 ≤ c ∧ RetV (.int (endA p c)) H Q
abbrev N_Program_call : List Str := ["self", "cut"]
theorem sc_Program_call : FnScope N_Program_call ["self", "cut"] (defScope s_Program_call) := ⟨rfl, rfl, rfl, by decide +kernel, rfl, by decide +kernel, by decide +kernel⟩

theorem r_Program_call (T : Txt K mg) : FnR P w K mg base (L2.CX P w) 124 (He.ma K (He.ga K "Program") "__call__") (spCallP (PC K)) := by
  have G_is_integer : FnR P w K mg base (L2.CX P w) 1 (He.ga K "is_integer") (spIsInt K) := r_is_integer T
  have G_end_after : FnR P w K mg base (L2.CX P w) 123 (He.ga K "end_after") (spEnd (PC K) 60) := end_all T 60
  refine fn_mk T.f_Program_call sc_Program_call (fun _ _ _ _ _ _ us hl => match us, hl with | [_, _], _ => rfl) (fun vs H Q E h => ?_) (fun cdv A outer s H vs Q E hr h => ?_)
  · obtain ⟨a, p, c, rfl, _⟩ := h
    rfl
  obtain ⟨a, p, c, rfl, hp, hw, hc, q⟩ := h
  refine ⟨_, PSs.nox ((pss_cons (ps_if (PW.pt (pw_or (pt_not (pt_val (pe_callR G_is_integer (hr.mono (by omega)) rfl T.g_is_integer (kp_of T.f_is_integer) passL (pa_cons (pv 1) pa_nil)))) (pw_or1 (pt_cmpR op_lt (pv 1) pe_int (nomark _))))) (pss_one (ps_never)) pss_nil)
    (pss_one (ps_ret (pe_callR G_end_after (hr.mono (by omega)) rfl T.g_end_after (kp_of T.f_end_after) passL (pa_cons (pv 0) (pa_cons (pv 1) pa_nil))))))), ?_⟩
  refine q_no (et_is (et_or (et_not (et_B (ev_callR (ea_cons (ev_var rfl) ea_nil) v_isInt))) (fun _ => et_cmp (ev_var rfl) ev_c)) ?_) fun H1 e1 => ?_
  · rw [decide_eq_false (show ¬ c < 0 by omega)]
    rfl
  refine s_ret (ev_callR (ea_cons (ev_var rfl) (ea_cons (ev_var rfl) ea_nil)) (v_end (hp.ext e1) hw hw.depth_le hc)) fun H2 e2 => q H2 (e1.trans e2)
/-! ### the constructors -/
def spSleep (C : Addr) : Sp := fun vs H Q _ => ∃ n, vs = [.int n] ∧ 0 ≤ n ∧ n ≤ mostT ∧ RetP C (mkP .sleep [] n []) H Q
theorem mk0 {k : Kind} {n : Int} {ws : List Str} (sh : Shape k [] n ws) : MkOk k [] n ws := ⟨(fun _ h => nomatch h), sh, by decide, by decide⟩
abbrev N_sleep : List Str := ["time"]
theorem sc_sleep : FnScope N_sleep ["time"] (defScope s_sleep) := ⟨rfl, rfl, rfl, by decide +kernel, rfl, by decide +kernel, by decide +kernel⟩

theorem r_sleep (T : Txt K mg) : FnR P w K mg base (L2.CX P w) 128 (He.ga K "sleep") (spSleep (PC K)) := by
  have G_check_time : FnR P w K mg base (L2.CX P w) 3 (He.ga K "check_time") spChkT := r_check_time T
  have G_Program_init : FnR P w K mg base (L2.CX P w) 126 (He.ma K (He.ga K "Program") "__init__") (spInit (PC K)) := r_Program_init T
  refine fn_mk T.f_sleep sc_sleep (fun _ _ _ _ _ _ us hl => match us, hl with | [_], _ => rfl) (fun vs H Q E h => ?_) (fun cdv A outer s H vs Q E hr h => ?_)
  · obtain ⟨n, rfl, _⟩ := h
    rfl
  obtain ⟨n, rfl, n0, n1, k⟩ := h
  refine ⟨_, PSs.nox ((pss_cons (ps_expr (pe_callR G_check_time (hr.mono (by omega)) rfl T.g_check_time (kp_of T.f_check_time) passL (pa_cons (pv 0) pa_nil)))
    (pss_one (ps_ret (StX.pe_makeR T.mk_Program G_Program_init (hr.mono (by omega)) rfl T.g_Program passL (pa_cons pe_str (pa_cons (pe_lst pa_nil) (pa_cons (pv 0) (pa_cons (pe_lst pa_nil) pa_nil))))))))), ?_⟩
  refine q_drop (ev_callR (ea_cons (ev_var rfl) ea_nil) (v_chkT n0 n1)) fun H1 e1 => ?_
  refine ⟨by show 0 ≤ sizeLine; decide, fun l hl => ?_⟩
  have e2 := Ex.new (o := .lst []) hl
  refine ⟨_, rfl, by show 0 ≤ sizeLine; decide, fun wl hwl => ?_⟩
  have e3 := Ex.new (o := .lst []) hwl
  exact make_ok ((PL.nil upd_same).ext e3) (ws := []) upd_same (mk0 (k := .sleep) ⟨rfl, n0, n1, rfl⟩) (k.ext ((e1.trans e2).trans e3))
def spFail (C : Addr) : Sp := fun vs H Q _ => ∃ z, vs = [.str z] ∧ IsName z ∧ RetP C (mkP .fail [] 0 [z]) H Q
abbrev N_fail : List Str := ["name"]
theorem sc_fail : FnScope N_fail ["name"] (defScope s_fail) := ⟨rfl, rfl, rfl, by decide +kernel, rfl, by decide +kernel, by decide +kernel⟩

theorem r_fail (T : Txt K mg) : FnR P w K mg base (L2.CX P w) 128 (He.ga K "fail") (spFail (PC K)) := by
  have G_check_name : FnR P w K mg base (L2.CX P w) 2 (He.ga K "check_name") spChkN := r_check_name T
  have G_Program_init : FnR P w K mg base (L2.CX P w) 126 (He.ma K (He.ga K "Program") "__init__") (spInit (PC K)) := r_Program_init T
  refine fn_mk T.f_fail sc_fail (fun _ _ _ _ _ _ us hl => match us, hl with | [_], _ => rfl) (fun vs H Q E h => ?_) (fun cdv A outer s H vs Q E hr h => ?_)
  · obtain ⟨z, rfl, _⟩ := h
    rfl
  obtain ⟨z, rfl, hz, k⟩ := h
  refine ⟨_, PSs.nox ((pss_cons (ps_expr (pe_callR G_check_name (hr.mono (by omega)) rfl T.g_check_name (kp_of T.f_check_name) passL (pa_cons (pv 0) pa_nil)))
    (pss_one (ps_ret (StX.pe_makeR T.mk_Program G_Program_init (hr.mono (by omega)) rfl T.g_Program passL (pa_cons pe_str (pa_cons (pe_lst pa_nil) (pa_cons pe_int (pa_cons (pe_lst (pa_cons (pv 0) pa_nil)) pa_nil))))))))), ?_⟩
  refine q_drop (ev_callR (ea_cons (ev_var rfl) ea_nil) (v_chkN hz)) fun H1 e1 => ?_
  refine ⟨by show 0 ≤ sizeLine; decide, fun l hl => ?_⟩
  have e2 := Ex.new (o := .lst []) hl
  refine ⟨_, rfl, by show 1 ≤ sizeLine; decide, fun wl hwl => ?_⟩
  have e3 := Ex.new (o := .lst [.str z]) hwl
  exact make_ok ((PL.nil upd_same).ext e3) (ws := [z]) upd_same (mk0 (k := .fail) ⟨rfl, rfl, z, rfl, hz⟩) (k.ext ((e1.trans e2).trans e3))
def spShield (C : Addr) : Sp := fun vs H Q _ => ∃ a p, vs = [.ref a] ∧ IsP C H a p ∧ MkOk .shield [p] 0 [] ∧ RetP C (mkP .shield [p] 0 []) H Q
abbrev N_shield : List Str := ["program"]
theorem sc_shield : FnScope N_shield ["program"] (defScope s_shield) := ⟨rfl, rfl, rfl, by decide +kernel, rfl, by decide +kernel, by decide +kernel⟩

theorem r_shield (T : Txt K mg) : FnR P w K mg base (L2.CX P w) 128 (He.ga K "shield") (spShield (PC K)) := by
  have G_check_program : FnR P w K mg base (L2.CX P w) 1 (He.ga K "check_program") (spChkP (PC K)) := r_check_program T
  have G_Program_init : FnR P w K mg base (L2.CX P w) 126 (He.ma K (He.ga K "Program") "__init__") (spInit (PC K)) := r_Program_init T
  refine fn_mk T.f_shield sc_shield (fun _ _ _ _ _ _ us hl => match us, hl with | [_], _ => rfl) (fun vs H Q E h => ?_) (fun cdv A outer s H vs Q E hr h => ?_)
  · obtain ⟨a, p, rfl, _⟩ := h
    rfl
  obtain ⟨a, p, rfl, hp, mk, k⟩ := h
  refine ⟨_, PSs.nox ((pss_cons (ps_expr (pe_callR G_check_program (hr.mono (by omega)) rfl T.g_check_program (kp_of T.f_check_program) passL (pa_cons pe_str (pa_cons (pv 0) pa_nil))))
    (pss_one (ps_ret (StX.pe_makeR T.mk_Program G_Program_init (hr.mono (by omega)) rfl T.g_Program passL (pa_cons pe_str (pa_cons (pe_lst (pa_cons (pv 0) pa_nil)) (pa_cons pe_int (pa_cons (pe_lst pa_nil) pa_nil))))))))), ?_⟩
  refine q_drop (ev_callR (ea_cons ev_c (ea_cons (ev_var rfl) ea_nil)) (v_chkP hp)) fun H1 e1 => ?_
  refine ⟨_, rfl, by show 1 ≤ sizeLine; decide, fun l hl => ?_⟩
  have e2 := Ex.new (o := .lst [.ref a]) hl
  refine ⟨by show 0 ≤ sizeLine; decide, fun wl hwl => ?_⟩
  have e3 := Ex.new (o := .lst []) hwl
  exact make_ok ((PL.one upd_same (hp.ext (e1.trans e2))).ext e3) (ws := []) upd_same mk (k.ext ((e1.trans e2).trans e3))
def spCleanup (C : Addr) : Sp := fun vs H Q _ => ∃ a b p q, vs = [.ref a, .ref b] ∧ IsP C H a p ∧ IsP C H b q ∧ MkOk .cleanup [p, q] 0 [] ∧ RetP C (mkP .cleanup [p, q] 0 []) H Q
abbrev N_cleanup : List Str := ["program", "last"]
theorem sc_cleanup : FnScope N_cleanup ["program", "last"] (defScope s_cleanup) := ⟨rfl, rfl, rfl, by decide +kernel, rfl, by decide +kernel, by decide +kernel⟩

theorem r_cleanup (T : Txt K mg) : FnR P w K mg base (L2.CX P w) 128 (He.ga K "cleanup") (spCleanup (PC K)) := by
  have G_check_program : FnR P w K mg base (L2.CX P w) 1 (He.ga K "check_program") (spChkP (PC K)) := r_check_program T
  have G_Program_init : FnR P w K mg base (L2.CX P w) 126 (He.ma K (He.ga K "Program") "__init__") (spInit (PC K)) := r_Program_init T
  refine fn_mk T.f_cleanup sc_cleanup (fun _ _ _ _ _ _ us hl => match us, hl with | [_, _], _ => rfl) (fun vs H Q E h => ?_) (fun cdv A outer s H vs Q E hr h => ?_)
  · obtain ⟨a, b, p, q, rfl, _⟩ := h
    rfl
  obtain ⟨a, b, p, q, rfl, hp, hq, mk, k⟩ := h
  refine ⟨_, PSs.nox ((pss_cons (ps_expr (pe_callR G_check_program (hr.mono (by omega)) rfl T.g_check_program (kp_of T.f_check_program) passL (pa_cons pe_str (pa_cons (pv 0) pa_nil))))
    (pss_cons (ps_expr (pe_callR G_check_program (hr.mono (by omega)) rfl T.g_check_program (kp_of T.f_check_program) passL (pa_cons pe_str (pa_cons (pv 1) pa_nil))))
    (pss_one (ps_ret (StX.pe_makeR T.mk_Program G_Program_init (hr.mono (by omega)) rfl T.g_Program passL (pa_cons pe_str (pa_cons (pe_lst (pa_cons (pv 0) (pa_cons (pv 1) pa_nil))) (pa_cons pe_int (pa_cons (pe_lst pa_nil) pa_nil)))))))))), ?_⟩
  refine q_drop (ev_callR (ea_cons ev_c (ea_cons (ev_var rfl) ea_nil)) (v_chkP hp)) fun H1 e1 => ?_
  refine q_drop (ev_callR (ea_cons ev_c (ea_cons (ev_var rfl) ea_nil)) (v_chkP (hq.ext e1))) fun H2 e2 => ?_
  have x2 := e1.trans e2
  refine ⟨_, rfl, _, rfl, by show 2 ≤ sizeLine; decide, fun l hl => ?_⟩
  have e3 := Ex.new (o := .lst [.ref a, .ref b]) hl
  refine ⟨by show 0 ≤ sizeLine; decide, fun wl hwl => ?_⟩
  have e4 := Ex.new (o := .lst []) hwl
  exact make_ok ((PL.two upd_same (hp.ext (x2.trans e3)) (hq.ext (x2.trans e3))).ext e4) (ws := []) upd_same mk (k.ext ((x2.trans e3).trans e4))
def spFallback (C : Addr) : Sp := fun vs H Q _ => ∃ (a b l : Addr) (p q : Prog) (ws : List Str), vs = [.ref a, .ref l, .ref b] ∧ IsP C H a p ∧ IsP C H b q ∧ H l = some (.lst (ws.map V.str)) ∧ 1 ≤ ws.length ∧ ws.length ≤ 20 ∧ (∀ z ∈ ws, IsName z) ∧ ws.Nodup ∧ MkOk .fallback [p, q] 0 ws ∧ RetP C (mkP .fallback [p, q] 0 ws) H Q
abbrev N_fallback : List Str := ["program", "names", "other"]
theorem sc_fallback : FnScope N_fallback ["program", "names", "other"] (defScope s_fallback) := ⟨rfl, rfl, rfl, by decide +kernel, rfl, by decide +kernel, by decide +kernel⟩

theorem r_fallback (T : Txt K mg) : FnR P w K mg base (L2.CX P w) 128 (He.ga K "fallback") (spFallback (PC K)) := by
  have G_check_program : FnR P w K mg base (L2.CX P w) 1 (He.ga K "check_program") (spChkP (PC K)) := r_check_program T
  have G_check_names : FnR P w K mg base (L2.CX P w) 2 (He.ga K "check_names") spChkNs := r_check_names T
  have G_Program_init : FnR P w K mg base (L2.CX P w) 126 (He.ma K (He.ga K "Program") "__init__") (spInit (PC K)) := r_Program_init T
  refine fn_mk T.f_fallback sc_fallback (fun _ _ _ _ _ _ us hl => match us, hl with | [_, _, _], _ => rfl) (fun vs H Q E h => ?_) (fun cdv A outer s H vs Q E hr h => ?_)
  · obtain ⟨a, b, l, p, q, ws, rfl, _⟩ := h
    rfl
  obtain ⟨a, b, nl, p, q, ws, rfl, hp, hq, hn, n1, n2, n3, n4, mk, k⟩ := h
  refine ⟨_, PSs.nox ((pss_cons (ps_expr (pe_callR G_check_program (hr.mono (by omega)) rfl T.g_check_program (kp_of T.f_check_program) passL (pa_cons pe_str (pa_cons (pv 0) pa_nil))))
    (pss_cons (ps_expr (pe_callR G_check_names (hr.mono (by omega)) rfl T.g_check_names (kp_of T.f_check_names) passL (pa_cons (pv 1) pa_nil)))
    (pss_cons (ps_expr (pe_callR G_check_program (hr.mono (by omega)) rfl T.g_check_program (kp_of T.f_check_program) passL (pa_cons pe_str (pa_cons (pv 2) pa_nil))))
    (pss_one (ps_ret (StX.pe_makeR T.mk_Program G_Program_init (hr.mono (by omega)) rfl T.g_Program passL (pa_cons pe_str (pa_cons (pe_lst (pa_cons (pv 0) (pa_cons (pv 2) pa_nil))) (pa_cons pe_int (pa_cons (pe_callTy call_list_of (by rfl) T.b_list (by decide +kernel) (pa_cons (pv 1) pa_nil)) pa_nil))))))))))), ?_⟩
  refine q_drop (ev_callR (ea_cons ev_c (ea_cons (ev_var rfl) ea_nil)) (v_chkP hp)) fun H1 e1 => ?_
  refine q_drop (ev_callR (ea_cons (ev_var rfl) ea_nil) (v_chkNs (e1 _ _ hn) n1 n2 n3 n4)) fun H2 e2 => ?_
  refine q_drop (ev_callR (ea_cons ev_c (ea_cons (ev_var rfl) ea_nil)) (v_chkP (hq.ext (e1.trans e2)))) fun H3 e3 => ?_
  have x2 := (e1.trans e2).trans e3
  refine ⟨_, rfl, _, rfl, by show 2 ≤ sizeLine; decide, fun l hl => ?_⟩
  have e4 := Ex.new (o := .lst [.ref a, .ref b]) hl
  refine ⟨_, rfl, nl, _, rfl, .inl (sq_of ((x2.trans e4) _ _ hn)), fun wl hwl => ?_⟩
  have e5 := Ex.new (o := .lst (ws.map V.str)) hwl
  exact make_ok ((PL.two upd_same (hp.ext (x2.trans e4)) (hq.ext (x2.trans e4))).ext e5) (ws := ws) upd_same mk (k.ext ((x2.trans e4).trans e5))
def spTimeout (C : Addr) : Sp := fun vs H Q _ => ∃ n a p z, vs = [.int n, .ref a, .str z] ∧ IsP C H a p ∧ IsName z ∧ MkOk .timeout [p] n [z] ∧ RetP C (mkP .timeout [p] n [z]) H Q
abbrev N_timeout : List Str := ["time", "program", "name"]
theorem sc_timeout : FnScope N_timeout ["time", "program", "name"] (defScope s_timeout) := ⟨rfl, rfl, rfl, by decide +kernel, rfl, by decide +kernel, by decide +kernel⟩

theorem r_timeout (T : Txt K mg) : FnR P w K mg base (L2.CX P w) 128 (He.ga K "timeout") (spTimeout (PC K)) := by
  have G_check_time : FnR P w K mg base (L2.CX P w) 3 (He.ga K "check_time") spChkT := r_check_time T
  have G_check_name : FnR P w K mg base (L2.CX P w) 2 (He.ga K "check_name") spChkN := r_check_name T
  have G_check_program : FnR P w K mg base (L2.CX P w) 1 (He.ga K "check_program") (spChkP (PC K)) := r_check_program T
  have G_Program_init : FnR P w K mg base (L2.CX P w) 126 (He.ma K (He.ga K "Program") "__init__") (spInit (PC K)) := r_Program_init T
  refine fn_mk T.f_timeout sc_timeout (fun _ _ _ _ _ _ us hl => match us, hl with | [_, _, _], _ => rfl) (fun vs H Q E h => ?_) (fun cdv A outer s H vs Q E hr h => ?_)
  · obtain ⟨n, a, p, z, rfl, _⟩ := h
    rfl
  obtain ⟨n, a, p, z, rfl, hp, hz, mk, k⟩ := h
  refine ⟨_, PSs.nox ((pss_cons (ps_expr (pe_callR G_check_time (hr.mono (by omega)) rfl T.g_check_time (kp_of T.f_check_time) passL (pa_cons (pv 0) pa_nil)))
    (pss_cons (ps_expr (pe_callR G_check_program (hr.mono (by omega)) rfl T.g_check_program (kp_of T.f_check_program) passL (pa_cons pe_str (pa_cons (pv 1) pa_nil))))
    (pss_cons (ps_expr (pe_callR G_check_name (hr.mono (by omega)) rfl T.g_check_name (kp_of T.f_check_name) passL (pa_cons (pv 2) pa_nil)))
    (pss_one (ps_ret (StX.pe_makeR T.mk_Program G_Program_init (hr.mono (by omega)) rfl T.g_Program passL (pa_cons pe_str (pa_cons (pe_lst (pa_cons (pv 1) pa_nil)) (pa_cons (pv 0) (pa_cons (pe_lst (pa_cons (pv 2) pa_nil)) pa_nil))))))))))), ?_⟩
  obtain ⟨_, n0, n1, _⟩ := mk.sh
  refine q_drop (ev_callR (ea_cons (ev_var rfl) ea_nil) (v_chkT n0 n1)) fun H1 e1 => ?_
  refine q_drop (ev_callR (ea_cons ev_c (ea_cons (ev_var rfl) ea_nil)) (v_chkP (hp.ext e1))) fun H2 e2 => ?_
  refine q_drop (ev_callR (ea_cons (ev_var rfl) ea_nil) (v_chkN hz)) fun H3 e3 => ?_
  have x2 := (e1.trans e2).trans e3
  refine ⟨_, rfl, by show 1 ≤ sizeLine; decide, fun l hl => ?_⟩
  have e4 := Ex.new (o := .lst [.ref a]) hl
  refine ⟨_, rfl, _, rfl, by show 1 ≤ sizeLine; decide, fun wl hwl => ?_⟩
  have e5 := Ex.new (o := .lst [.str z]) hwl
  exact make_ok ((PL.one upd_same (hp.ext (x2.trans e4))).ext e5) (ws := [z]) upd_same mk (k.ext ((x2.trans e4).trans e5))
def spMoveon (C : Addr) : Sp := fun vs H Q _ => ∃ n a p, vs = [.int n, .ref a] ∧ IsP C H a p ∧ MkOk .moveon [p] n [] ∧ RetP C (mkP .moveon [p] n []) H Q
abbrev N_move_on : List Str := ["time", "program"]
theorem sc_move_on : FnScope N_move_on ["time", "program"] (defScope s_move_on) := ⟨rfl, rfl, rfl, by decide +kernel, rfl, by decide +kernel, by decide +kernel⟩

theorem r_move_on (T : Txt K mg) : FnR P w K mg base (L2.CX P w) 128 (He.ga K "move_on") (spMoveon (PC K)) := by
  have G_check_time : FnR P w K mg base (L2.CX P w) 3 (He.ga K "check_time") spChkT := r_check_time T
  have G_check_program : FnR P w K mg base (L2.CX P w) 1 (He.ga K "check_program") (spChkP (PC K)) := r_check_program T
  have G_Program_init : FnR P w K mg base (L2.CX P w) 126 (He.ma K (He.ga K "Program") "__init__") (spInit (PC K)) := r_Program_init T
  refine fn_mk T.f_move_on sc_move_on (fun _ _ _ _ _ _ us hl => match us, hl with | [_, _], _ => rfl) (fun vs H Q E h => ?_) (fun cdv A outer s H vs Q E hr h => ?_)
  · obtain ⟨n, a, p, rfl, _⟩ := h
    rfl
  obtain ⟨n, a, p, rfl, hp, mk, k⟩ := h
  refine ⟨_, PSs.nox ((pss_cons (ps_expr (pe_callR G_check_time (hr.mono (by omega)) rfl T.g_check_time (kp_of T.f_check_time) passL (pa_cons (pv 0) pa_nil)))
    (pss_cons (ps_expr (pe_callR G_check_program (hr.mono (by omega)) rfl T.g_check_program (kp_of T.f_check_program) passL (pa_cons pe_str (pa_cons (pv 1) pa_nil))))
    (pss_one (ps_ret (StX.pe_makeR T.mk_Program G_Program_init (hr.mono (by omega)) rfl T.g_Program passL (pa_cons pe_str (pa_cons (pe_lst (pa_cons (pv 1) pa_nil)) (pa_cons (pv 0) (pa_cons (pe_lst pa_nil) pa_nil)))))))))), ?_⟩
  obtain ⟨_, n0, n1, _⟩ := mk.sh
  refine q_drop (ev_callR (ea_cons (ev_var rfl) ea_nil) (v_chkT n0 n1)) fun H1 e1 => ?_
  refine q_drop (ev_callR (ea_cons ev_c (ea_cons (ev_var rfl) ea_nil)) (v_chkP (hp.ext e1))) fun H2 e2 => ?_
  have x2 := e1.trans e2
  refine ⟨_, rfl, by show 1 ≤ sizeLine; decide, fun l hl => ?_⟩
  have e4 := Ex.new (o := .lst [.ref a]) hl
  refine ⟨_, rfl, by show 0 ≤ sizeLine; decide, fun wl hwl => ?_⟩
  have e5 := Ex.new (o := .lst []) hwl
  exact make_ok ((PL.one upd_same (hp.ext (x2.trans e4))).ext e5) (ws := []) upd_same mk (k.ext ((x2.trans e4).trans e5))
def spTogether (C : Addr) : Sp := fun vs H Q _ => ∃ l ps, vs = [.ref l] ∧ PL C H l ps ∧ MkOk .together ps 0 [] ∧ RetP C (mkP .together ps 0 []) H Q
abbrev N_together : List Str := ["programs", "program"]
theorem sc_together : FnScope N_together ["programs"] (defScope s_together) := ⟨rfl, rfl, rfl, by decide +kernel, rfl, by decide +kernel, by decide +kernel⟩

theorem r_together (T : Txt K mg) : FnR P w K mg base (L2.CX P w) 128 (He.ga K "together") (spTogether (PC K)) := by
  have G_check_program : FnR P w K mg base (L2.CX P w) 1 (He.ga K "check_program") (spChkP (PC K)) := r_check_program T
  have G_Program_init : FnR P w K mg base (L2.CX P w) 126 (He.ma K (He.ga K "Program") "__init__") (spInit (PC K)) := r_Program_init T
  refine fn_mk T.f_together sc_together (fun _ _ _ _ _ _ us hl => match us, hl with | [_], _ => rfl) (fun vs H Q E h => ?_) (fun cdv A outer s H vs Q E hr h => ?_)
  · obtain ⟨l, ps, rfl, _⟩ := h
    rfl
  obtain ⟨l, ps, rfl, hl, mk, k⟩ := h
  refine ⟨_, PSs.nox ((pss_cons (ps_if (PW.pt (pw_or (pt_not (pt_val (pe_callB call_isi (by rfl) T.b_isinstance (by decide +kernel) (pa_cons (pv 0) (pa_cons (pe_bltn (v := .ty "list") (by rfl) T.b_list (by decide +kernel) rfl) pa_nil))))) (pw_or1 (pt_not (pt_chain op_le op_le pe_int (pe_callB call_len_seq (by rfl) T.b_len PySem.boot_len (pa_cons (pv 0) pa_nil)) (pe_gi rfl T.i_MOST_PARTS)))))) (pss_one (ps_never)) pss_nil)
    (pss_cons (ps_for PassesOwn.never rfl (pi_list (pv 0)) (pg_name (i := 1) sc_together.nd rfl (Or.inl rfl)) (pss_one (ps_expr (pe_callR G_check_program (hr.mono (by omega)) rfl T.g_check_program (kp_of T.f_check_program) passL (pa_cons pe_str (pa_cons (pv 1) pa_nil))))))
    (pss_one (ps_ret (StX.pe_makeR T.mk_Program G_Program_init (hr.mono (by omega)) rfl T.g_Program passL (pa_cons pe_str (pa_cons (pe_callTy call_list_of (by rfl) T.b_list (by decide +kernel) (pa_cons (pv 0) pa_nil)) (pa_cons pe_int (pa_cons (pe_lst pa_nil) pa_nil)))))))))), ?_⟩
  obtain ⟨hne, hlen, _, _⟩ := mk.sh
  obtain ⟨as, h1, h2, h3⟩ := id hl
  have hpos : 0 < ps.length := List.length_pos_iff.mpr hne
  refine q_no (et_is (et_or (et_not (et_B (ev_isi (b := true) (ev_var rfl) ev_c (.ty _) (fun H1 e => .base (.lst (e _ _ h1))) (kit_ty (by decide +kernel))))) (fun _ => et_not (et_test (ev_chainI ev_c (ev_lenL (ev_var rfl) (sq_of h1)) ev_c)))) ?_) fun H1 e1 => ?_
  · rw [List.length_map, h2, decide_eq_true (show (1 : Int) ≤ (ps.length : Int) by omega), decide_eq_true (show (ps.length : Int) ≤ 20 by omega)]
    rfl
  refine q_forLn (xs := as.map V.ref) (ev_var rfl) (sq_of (e1 _ _ h1)) (fun i σ' H' => Ex H H' ∧ ∃ v, σ' = [some (.ref l), v]) (fun H2 e2 => ⟨e1.trans e2, none, rfl⟩) (fun i σ' H' hi hP => sq_of (hP.1 _ _ h1)) (fun i x σ' H' hx hP => ?_) (fun σ' H' hP => ?_)
  · obtain ⟨e3, v, rfl⟩ := hP
    rw [List.getElem?_map] at hx
    obtain ⟨y, hy, rfl⟩ := Option.map_eq_some_iff.mp hx
    have hi : i < as.length := (List.getElem?_eq_some_iff.mp hy).1
    have hip := (h3 i y _ hy (List.getElem?_eq_getElem (by omega))).ext e3
    exact s_drop (ev_callR (ea_cons ev_c (ea_cons (ev_var rfl) ea_nil)) (v_chkP hip)) fun H4 e4 => ⟨e3.trans e4, _, rfl⟩
  · obtain ⟨e3, v, rfl⟩ := hP
    refine ⟨_, rfl, l, _, rfl, .inl (sq_of (e3 _ _ h1)), fun l2 hl2 => ?_⟩
    have e4 := Ex.new (o := .lst (as.map V.ref)) hl2
    refine ⟨by show 0 ≤ sizeLine; decide, fun wl hwl => ?_⟩
    have e5 := Ex.new (o := .lst []) hwl
    have hL2 : PL (PC K) (upd H' l2 (.lst (as.map V.ref))) l2 ps := ⟨as, upd_same, h2, fun i x q a b => (h3 i x q a b).ext (e3.trans e4)⟩
    exact make_ok (hL2.ext e5) (ws := []) upd_same mk (k.ext ((e3.trans e4).trans e5))
end
end Cu

/-! == Core6 -/
set_option maxHeartbeats 4000000
namespace Cu
open PySem PySem.Spec PyProof.Rows L2 Evl CuT
section
variable {X : Cx} {n : Nat}
theorem rcG_insR {CX : CXT} {C f : Addr} {R : Addr → Addr → Hp → Prop} {E : XK} (F : FnR X.prog X.w X.K X.mg X.base CX n f (spEq R))
    (hs : PySem.W.findIn X.K (.ref C) "__eq__" = some (some (.ref f))) (hf : PySem.W.isFn X.K (.ref f) = true) (hx : Passes CX X E) : RcG X n (DIns C R) := by
  intro A pins s σ H x y u v sb I rx ry d
  obtain ⟨a, b, dx, dy, fs, gs, rfl, rfl, ha, hb', hr⟩ := d
  cases rx
  cases ry
  obtain ⟨mA, J, _⟩ := ins_get I.hok ha
  obtain ⟨mB, J', _⟩ := ins_get I.hok hb'
  obtain ⟨od, J, _⟩ := J.look
  obtain ⟨od', J', _⟩ := J'.look
  obtain ⟨m, hF⟩ := I.fr
  refine PySem.W.cmp_K (op := .Eq) (tb := .ref C) sb.room.units0 hF I.ok.mod.kin J J'.type (by simp [PySem.W.notFirst]) hs hf ?_
  have hsp : spEq R [.ref a, .ref b] H (fun v H' => v = .bl true ∧ Ext H H') E := ⟨a, b, rfl, hr, fun H' e => ⟨rfl, e⟩⟩
  have e0 : Env0 X.prog X.w X.K X.mg X.base A X.stack s H := by
    have e := I.env0
    exact ⟨by rw [sb.fr]; exact e.frames, e.mod, e.bs, e.bsz, e.funs, e.frf, e.hok, e.bare⟩
  refine wpAny_call (codeAny_mono (F A X.stack s H [.ref a, .ref b] [.ref a, .ref b] _ E sb.room e0 (.cons rfl (.cons rfl .nil)) hsp) fun r s' hq => ?_)
  cases r with
  | error e => exact hx pins σ H s e s' I hq
  | ok fl =>
    cases fl with
    | ret w =>
      obtain ⟨z, H', I', rz, ez, ex⟩ := I.after hq
      subst ez
      cases rz
      exact ⟨rfl, H', I', ex⟩
    | next => exact False.elim hq
    | brk => exact False.elim hq
    | cont => exact False.elim hq
end
/-- the same program at both -/
def REq (C : Addr) (n : Nat) (a b : Addr) (H : Hp) : Prop := ∃ p, IsP C H a p ∧ IsP C H b p ∧ WF p ∧ p.depth ≤ n
theorem REq.ext {C : Addr} {n : Nat} {a b : Addr} {H H' : Hp} (e : Ext H H') (h : REq C n a b H) : REq C n a b H' := by
  obtain ⟨p, h1, h2, h3⟩ := h
  exact ⟨p, h1.ext e, h2.ext e, h3⟩
/-- what stands in facts() -/
def DFact (C : Addr) (n : Nat) : Eqv := fun x y H => DFlat x y H ∨ DList (fun x y H => DFlat x y H ∨ DIns C (REq C n) x y H) x y H
theorem mon_fact {C : Addr} {n : Nat} : Mon (DFact C n) := Mon.or mon_flat (mon_list (Mon.or mon_flat (mon_ins fun _ _ _ _ e r => r.ext e)))
section
variable {P : Program} {w : World} {K : PySem.W.Frag} {mg : Str → Option Value} {base : Heap}
theorem rcEq {X : Cx} {k n : Nat} (T : Txt X.K X.mg) (F : FnR X.prog X.w X.K X.mg X.base (L2.CX X.prog X.w) k (He.ma X.K (PC X.K) "__eq__") (spEq (REq (PC X.K) n))) : RcG X (k + 2) (DTup X.K (DFact (PC X.K) n)) := by
  have e1 : EqG X k (DIns (PC X.K) (REq (PC X.K) n)) := (rcG_insR F T.m_Program_eq.at_ T.m_Program_eq.fn passL).eqG fun _ _ _ d => let ⟨a, b, _, _, _, _, hx, hy, _⟩ := d; ⟨a, b, hx, hy⟩
  have e2 : EqG X k (fun x y H => DFlat x y H ∨ DIns (PC X.K) (REq (PC X.K) n) x y H) := (eqG_flat.mono (Nat.zero_le k)).or e1
  have e3 := eqG_list (Mon.or mon_flat (mon_ins fun _ _ _ _ e r => r.ext e)) e2
  exact rcG_tup mon_fact ((eqG_flat.mono (Nat.zero_le _)).or e3)
/-! ### facts -/
def spFacts (C : Addr) : Sp := fun vs H Q _ => ∃ a p, vs = [.ref a] ∧ IsP C H a p ∧ ∀ t H' l wl, Ex H H' → H' t = some (.tup [.str p.kind.s, .ref l, .int p.number, .ref wl]) → PL C H' l p.parts → H' wl = some (.lst (p.words.map V.str)) → Q (.ref t) H'
abbrev N_Program_facts : List Str := ["self"]
theorem sc_Program_facts : FnScope N_Program_facts ["self"] (defScope s_Program_facts) := ⟨rfl, rfl, rfl, by decide +kernel, rfl, by decide +kernel, by decide +kernel⟩

theorem r_Program_facts (T : Txt K mg) : FnR P w K mg base (L2.CX P w) 1 (He.ma K (He.ga K "Program") "facts") (spFacts (PC K)) := by
  refine fn_mk T.f_Program_facts sc_Program_facts (fun _ _ _ _ _ _ us hl => match us, hl with | [_], _ => rfl) (fun vs H Q E h => ?_) (fun cdv A outer s H vs Q E hr h => ?_)
  · obtain ⟨a, p, rfl, _⟩ := h
    rfl
  obtain ⟨a, p, rfl, hp, q⟩ := h
  refine ⟨_, PSs.nox ((pss_one (ps_ret (pe_tup (pa_cons (pe_fld (pv 0) rfl) (pa_cons (pe_fld (pv 0) rfl) (pa_cons (pe_fld (pv 0) rfl) (pa_cons (pe_fld (pv 0) rfl) pa_nil)))))))), ?_⟩
  obtain ⟨l, hl, el⟩ := ev_parts T (ta := tVar 0) (σ := start N_Program_facts [.ref a]) (ev_var rfl) hp
  obtain ⟨wl, hw, ew⟩ := ev_words T (ta := tVar 0) (σ := start N_Program_facts [.ref a]) (ev_var rfl) hp
  refine s_retU (eu_tup (ea_cons (ev_kind T (ev_var rfl) hp) (ea_cons el (ea_cons (ev_number T (ev_var rfl) hp) (ea_cons ew ea_nil)))) (by show 4 ≤ 100000; decide)) fun t H1 ht e1 h1 => ?_
  exact q t H1 l wl e1 h1 (hl.ext e1) (e1 _ _ hw)
/-! ### __eq__ -/
theorem prs_same {C : Addr} {n : Nat} {H : Hp} {l1 l2 : Addr} {ps : List Prog} (h1 : PL C H l1 ps) (h2 : PL C H l2 ps) (hw : ∀ p ∈ ps, WF p ∧ p.depth ≤ n) : DList (fun x y H => DFlat x y H ∨ DIns C (REq C n) x y H) (.ref l1) (.ref l2) H := by
  obtain ⟨as, a1, a2, a3⟩ := h1
  obtain ⟨bs, b1, b2, b3⟩ := h2
  refine ⟨l1, l2, _, _, rfl, rfl, a1, b1, by rw [List.length_map, List.length_map, a2, b2], fun i x y hx hy => ?_⟩
  rw [List.getElem?_map] at hx hy
  obtain ⟨a, ha, rfl⟩ := Option.map_eq_some_iff.mp hx
  obtain ⟨b, hb, rfl⟩ := Option.map_eq_some_iff.mp hy
  have hi : i < ps.length := by rw [← a2]; exact (List.getElem?_eq_some_iff.mp ha).1
  have hp : ps[i]? = some ps[i] := List.getElem?_eq_getElem hi
  have ia := a3 i a _ ha hp
  have ib := b3 i b _ hb hp
  obtain ⟨dx, _, _, ea, _⟩ := ia.at_
  obtain ⟨dy, _, _, eb, _⟩ := ib.at_
  exact .inr ⟨a, b, dx, dy, _, _, rfl, rfl, ea, eb, ps[i], ia, ib, hw _ (List.getElem_mem _)⟩
theorem prs_words {C : Addr} {n : Nat} {H : Hp} {l1 l2 : Addr} {ws : List Str} (h1 : H l1 = some (.lst (ws.map V.str))) (h2 : H l2 = some (.lst (ws.map V.str))) : DList (fun x y H => DFlat x y H ∨ DIns C (REq C n) x y H) (.ref l1) (.ref l2) H := by
  refine ⟨l1, l2, _, _, rfl, rfl, h1, h2, rfl, fun i x y hx hy => ?_⟩
  rw [hx] at hy
  cases hy
  rw [List.getElem?_map] at hx
  obtain ⟨z, _, rfl⟩ := Option.map_eq_some_iff.mp hx
  exact .inl ⟨rfl, rfl, by show decide (z = z) = true; exact decide_eq_true rfl⟩
abbrev N_Program_eq : List Str := ["self", "other"]
theorem sc_Program_eq : FnScope N_Program_eq ["self", "other"] (defScope s_Program_eq) := ⟨rfl, rfl, rfl, by decide +kernel, rfl, by decide +kernel, by decide +kernel⟩

theorem r_Program_eq {n k : Nat} (T : Txt K mg) (G_Program_eq : FnR P w K mg base (L2.CX P w) k (He.ma K (PC K) "__eq__") (spEq (REq (PC K) n))) :
    FnR P w K mg base (L2.CX P w) (k + 3) (He.ma K (PC K) "__eq__") (spEq (REq (PC K) (n + 1))) := by
  have G_Program_facts : FnR P w K mg base (L2.CX P w) 1 (He.ma K (He.ga K "Program") "facts") (spFacts (PC K)) := r_Program_facts T
  refine fn_mk T.f_Program_eq sc_Program_eq (fun _ _ _ _ _ _ us hl => match us, hl with | [_, _], _ => rfl) (fun vs H Q E h => ?_) (fun cdv A outer s H vs Q E hr h => ?_)
  · obtain ⟨a, b, rfl, _⟩ := h
    rfl
  obtain ⟨a, b, rfl, ⟨p, ha, hb, hw, hd⟩, q⟩ := h
  refine ⟨_, PSs.nox ((pss_one (ps_ret (pe_and (pe_callB call_isi (by rfl) T.b_isinstance (by decide +kernel) (pa_cons (pv 1) (pa_cons (pe_glob (v := .ref (He.ga K "Program")) rfl T.g_Program rfl) pa_nil))) (pe_one (pe_cmpR (op_eqG (rcEq T G_Program_eq) (hr.mono (by omega))) (pe_methR0 (pv 0) T.cls_Program T.m_Program_facts G_Program_facts (hr.mono (by omega)) passL) (pe_methR0 (pv 1) T.cls_Program T.m_Program_facts G_Program_facts (hr.mono (by omega)) passL) (nomark _))))))), ?_⟩
  have sub : ∀ q ∈ p.parts, WF q ∧ q.depth ≤ n := fun q hq => ⟨hw.sub hq, by have := hw.depth_sub hq; omega⟩
  refine ev_isi (K := K) (ta := tVar 1) (tb := tC (.ref (PC K))) (σ := start N_Program_eq [.ref a, .ref b]) (ev_var rfl) ev_c (.own _) (fun H1 e => .base (tyOf_ext e (tyP T hb))) T.kit_Program H (Ex.refl H) _ fun H1 e1 => ⟨true, rfl, ?_⟩
  rw [if_pos rfl]
  obtain ⟨dx, _, _, ea, _⟩ := (ha.ext e1).at_
  refine ⟨_, rfl, a, dx, _, rfl, ea, rfl, a, p, rfl, ha.ext e1, fun t1 H2 l1 w1 e2 ht1 hl1 hw1 => ?_⟩
  obtain ⟨dy, _, _, eb, _⟩ := (hb.ext (e1.trans e2)).at_
  refine ⟨_, rfl, b, dy, _, rfl, eb, rfl, b, p, rfl, hb.ext (e1.trans e2), fun t2 H3 l2 w2 e3 ht2 hl2 hw2 => ?_⟩
  refine ⟨⟨t1, t2, _, _, rfl, rfl, st_of (e3 _ _ ht1), st_of ht2, ?_⟩, fun H4 e4 => q H4 (((e1.trans e2).trans e3).trans e4)⟩
  refine Prs.cons (.inl ⟨rfl, rfl, decide_eq_true rfl⟩) (Prs.cons (.inr (prs_same (hl1.ext e3) hl2 sub)) (Prs.cons (.inl ⟨rfl, rfl, decide_eq_true rfl⟩) (Prs.cons (.inr (prs_words (e3 _ _ hw1) hw2)) Prs.nil)))
theorem eq_all (T : Txt K mg) : ∀ n : Nat, FnR P w K mg base (L2.CX P w) (1 + 3 * n) (He.ma K (PC K) "__eq__") (spEq (REq (PC K) n))
  | 0 => fun A outer s H us vs Q E hr e0 r h => by
    obtain ⟨a, b, _, ⟨p, _, _, hw, hd⟩, _⟩ := h
    have := hw.depth_pos
    omega
  | n + 1 => by
    have h := r_Program_eq T (eq_all T n)
    have e : 1 + 3 * n + 3 = 1 + 3 * (n + 1) := by omega
    rw [e] at h
    exact h
/-- p != q of equal programs: False -/
def rNeSame (C : Addr) : R2 := fun x y H Q => ∃ a b p, x = .ref a ∧ y = .ref b ∧ IsP C H a p ∧ IsP C H b p ∧ WF p ∧ ∀ H', Ex H H' → Q (.bl false) H'
theorem op_neSame {X : Cx} (T : Txt X.K X.mg) (F : FnR X.prog X.w X.K X.mg X.base (L2.CX X.prog X.w) 181 (He.ma X.K (PC X.K) "__eq__") (spEq (REq (PC X.K) 60))) (hr : Room 182 X.A) : OpR X (compareOp .NotEq) (rNeSame (PC X.K)) := by
  intro pins s σ H x y v u Q I rx ry h
  obtain ⟨a, b, p, rfl, rfl, ha, hb, hw, q⟩ := h
  obtain rfl : v = Value.ref a := rx
  obtain rfl : u = Value.ref b := ry
  obtain ⟨dx, _, _, ea, _⟩ := ha.at_
  obtain ⟨dy, _, _, eb, _⟩ := hb.at_
  obtain ⟨mA, J, _⟩ := ins_get I.hok ea
  obtain ⟨mB, J', _⟩ := ins_get I.hok eb
  obtain ⟨od, J, _⟩ := J.look
  obtain ⟨od', J', _⟩ := J'.look
  refine ne_own (Nat.lt_of_le_of_lt (Nat.add_le_add_left (by decide : 1 ≤ 64) _) hr.units) I.kIn J J'.type T.ne_Program T.m_Program_eq.at_ T.m_Program_eq.fn T.ob_Program ?_
  have e0 : Env0 X.prog X.w X.K X.mg X.base X.A.in1 X.stack s H := I.env0.in1
  refine wpAny_call (codeAny_mono (F X.A.in1 X.stack s H [.ref a, .ref b] [.ref a, .ref b] (fun v H' => v = .bl true ∧ Ext H H') E0 hr.in1 e0 (.cons rfl (.cons rfl .nil)) ⟨a, b, rfl, ⟨p, ha, hb, hw, hw.depth_le⟩, fun H' e => ⟨rfl, e⟩⟩) fun r s' hq => ?_)
  cases r with
  | error e =>
    obtain ⟨_, _, _, _, _, _, _, _, _, _, _, _, z⟩ := hq
    exact z.elim
  | ok fl =>
    cases fl with
    | ret w =>
      obtain ⟨z, H', I', rz, ez, ex⟩ := I.after hq
      subst ez
      cases rz
      exact ⟨true, rfl, .bl false, H', I', rfl, q H' ex⟩
    | next => exact False.elim hq
    | brk => exact False.elim hq
    | cont => exact False.elim hq
/-! ### the operators of programs, a program called -/
theorem callO_P (T : Txt K mg) : StX.CallO K (PC K) (He.ma K (He.ga K "Program") "__call__") := ⟨T.m_Program_call.at_, T.m_Program_call.fn, T.fi_Program_call⟩
theorem op_addP {X : Cx} (T : Txt X.K X.mg) (F : FnR X.prog X.w X.K X.mg X.base (L2.CX X.prog X.w) 128 (He.ma X.K (He.ga X.K "Program") "__add__") (spAdd (PC X.K))) (hr : Room 128 X.A) : OpR X (binaryOp .Add) (rOwn (PC X.K) (spAdd (PC X.K)) E0) :=
  op_own F hr passL T.sf_Program T.m_Program_add.at_ T.m_Program_add.fn T.n_Program_radd (by rfl) (by rfl) T.sub_Program
theorem op_mulP {X : Cx} (T : Txt X.K X.mg) (F : FnR X.prog X.w X.K X.mg X.base (L2.CX X.prog X.w) 128 (He.ma X.K (He.ga X.K "Program") "__mul__") (spMul (PC X.K))) (hr : Room 128 X.A) : OpR X (binaryOp .Mult) (rOwn (PC X.K) (spMul (PC X.K)) E0) :=
  op_own F hr passL T.sf_Program T.m_Program_mul.at_ T.m_Program_mul.fn T.n_Program_rmul (by rfl) (by rfl) T.sub_Program
theorem op_orP {X : Cx} (T : Txt X.K X.mg) (F : FnR X.prog X.w X.K X.mg X.base (L2.CX X.prog X.w) 128 (He.ma X.K (He.ga X.K "Program") "__or__") (spOr (PC X.K))) (hr : Room 128 X.A) : OpR X (binaryOp .BitOr) (rOwn (PC X.K) (spOr (PC X.K)) E0) :=
  op_own F hr passL T.sf_Program T.m_Program_or.at_ T.m_Program_or.fn T.n_Program_ror (by rfl) (by rfl) T.sub_Program
end
end Cu

/-! == DA -/
set_option maxHeartbeats 4000000
namespace Cu
open PySem PySem.Spec PyProof.Rows L2 Evl CuT
/-! ### a call beside things that it does not see -/
open Classical in
noncomputable def frm (S : Addr → Prop) (H : Hp) : Hp := fun b => if S b then none else H b
open Classical in
noncomputable def mrg (S : Addr → Prop) (H G : Hp) : Hp := fun b => if S b then H b else G b
theorem frm_in {S : Addr → Prop} {H : Hp} {b : Addr} (h : S b) : frm S H b = none := if_pos h
theorem frm_out {S : Addr → Prop} {H : Hp} {b : Addr} (h : ¬ S b) : frm S H b = H b := if_neg h
theorem mrg_in {S : Addr → Prop} {H G : Hp} {b : Addr} (h : S b) : mrg S H G b = H b := if_pos h
theorem mrg_out {S : Addr → Prop} {H G : Hp} {b : Addr} (h : ¬ S b) : mrg S H G b = G b := if_neg h
theorem frm_none {S : Addr → Prop} {H : Hp} {b : Addr} (h : H b = none) : frm S H b = none := by
  by_cases e : S b
  · exact frm_in e
  · rw [frm_out e, h]
theorem frm_some {S : Addr → Prop} {H : Hp} {b : Addr} {o : HO} (h : frm S H b = some o) : ¬ S b ∧ H b = some o := by
  by_cases e : S b
  · rw [frm_in e] at h
    cases h
  · rw [frm_out e] at h
    exact ⟨e, h⟩
/-- the dict of an instance -/
def InsIn : HO → Addr → Prop
  | .ins _ dx _, d => dx = d
  | .frz _ u, d => InsIn u d
  | _, _ => False
theorem objOk_ins {P : Program} {w : World} {H : Hp} {h : Heap} {a dx : Addr} : ∀ {o : HO}, ObjOk P w H h a o → InsIn o dx → H dx = some (.own a) := by
  intro o x i
  induction o with
  | ins C d fs =>
    obtain ⟨e, _⟩ := x
    have i' : d = dx := i
    rw [← i']
    exact e
  | frz ob u ih => exact ih x.2 i
  | lst xs => exact False.elim i
  | tup xs => exact False.elim i
  | dK kvs => exact False.elim i
  | dT kvs => exact False.elim i
  | set S n => exact False.elim i
  | own y => exact False.elim i
  | xd fs => exact False.elim i
  | rng lo hi => exact False.elim i
  | tbl ps => exact False.elim i
  | met f y => exact False.elim i
  | ext φ => exact False.elim i
theorem stay2 {P : Program} {w : World} {H H' : Hp} {h h' : Heap} {a : Addr} {o : HO} (x : ObjOk P w H h a o) (k : ∀ b u, (b = a ∨ InsIn o b) → h.get? b = some u → h'.get? b = some u)
    (ho : ∀ b, InsIn o b → H b = some (.own a) → H' b = some (.own a)) (ht : ∀ b xs, H b = some (.tup xs) → H' b = some (.tup xs)) : ObjOk P w H' h' a o := by
  induction o with
  | lst xs => obtain ⟨z, its, n, r, e⟩ := x; exact ⟨z, its, n, r, k _ _ (.inl rfl) e⟩
  | tup xs => obtain ⟨z, its, r, ob, e, c⟩ := x; exact ⟨z, its, r, ob, k _ _ (.inl rfl) e, c⟩
  | dK kvs => obtain ⟨z, y, vs, r, ob, es, ep, e, c⟩ := x; exact ⟨z, y, vs, r, ob, es, ep, k _ _ (.inl rfl) e, c⟩
  | dT kvs =>
    obtain ⟨z, y, xs, r, ob, es, ep, e, c⟩ := x
    exact ⟨z, y, xs, Paired.mapP r fun p q z => ⟨z.1, ht _ _ z.2.1, z.2.2⟩, ob, es, ep, k _ _ (.inl rfl) e, c⟩
  | set S n => obtain ⟨ob, es, ep, t, e, c⟩ := x; exact ⟨ob, es, ep, t, k _ _ (.inl rfl) e, c⟩
  | ins C dx fs =>
    obtain ⟨d, z, ne, e, mA, ⟨od, es, ep, e2, c⟩, r⟩ := x
    exact ⟨ho _ rfl d, z, ne, k _ _ (.inl rfl) e, mA, ⟨od, es, ep, k _ _ (.inr rfl) e2, c⟩, r⟩
  | own y => obtain ⟨ob, e⟩ := x; exact ⟨ob, k _ _ (.inl rfl) e⟩
  | xd fs => obtain ⟨mA, ⟨od, es, ep, e, c⟩, r⟩ := x; exact ⟨mA, ⟨od, es, ep, k _ _ (.inl rfl) e, c⟩, r⟩
  | rng lo hi => obtain ⟨t, u, v, e⟩ := x; exact ⟨t, u, v, k _ _ (.inl rfl) e⟩
  | frz ob u ih => obtain ⟨e, q⟩ := x; exact ⟨k _ _ (.inl rfl) e, ih q k ho⟩
  | tbl ps =>
    have e : h.get? a = some { cls := .none, data := .fields ps } := x
    show h'.get? a = some { cls := .none, data := .fields ps }
    exact k a _ (.inl rfl) e
  | met f y =>
    have e : h.get? a = some (PySem.W.methodObj (.ref f) (.ref y)) := x
    show h'.get? a = some (PySem.W.methodObj (.ref f) (.ref y))
    exact k a _ (.inl rfl) e
  | ext φ => obtain ⟨p, ⟨o, e⟩, st⟩ := x; exact ⟨st _ _ p fun o q => k _ _ (.inl rfl) q, ⟨o, k _ _ (.inl rfl) e⟩, st⟩
theorem objOk_get {P : Program} {w : World} {H : Hp} {h : Heap} {a : Addr} {o : HO} (x : ObjOk P w H h a o) : ∃ ob, h.get? a = some ob := by
  cases o with
  | lst xs => obtain ⟨_, _, _, _, e⟩ := x; exact ⟨_, e⟩
  | tup xs => obtain ⟨_, _, _, ob, e, _⟩ := x; exact ⟨_, e⟩
  | dK kvs => obtain ⟨_, _, _, _, o, _, _, e, _⟩ := x; exact ⟨_, e⟩
  | dT kvs => obtain ⟨_, _, _, _, o, _, _, e, _⟩ := x; exact ⟨_, e⟩
  | set S n => obtain ⟨o, _, _, _, e, _⟩ := x; exact ⟨_, e⟩
  | ins C dx fs => obtain ⟨_, _, _, e, _⟩ := x; exact ⟨_, e⟩
  | own y => exact x
  | xd fs => obtain ⟨_, ⟨_, _, _, e, _⟩, _⟩ := x; exact ⟨_, e⟩
  | rng lo hi => obtain ⟨_, _, _, e⟩ := x; exact ⟨_, e⟩
  | frz ob u => obtain ⟨e, _⟩ := x; exact ⟨_, e⟩
  | tbl ps => exact ⟨_, (show h.get? a = some _ from x)⟩
  | met f y => exact ⟨_, (show h.get? a = some _ from x)⟩
  | ext φ => obtain ⟨_, e, _⟩ := x; exact e
/-- what may be hidden -/
structure HidOk (S : Addr → Prop) (H : Hp) : Prop where
  there : ∀ b, S b → H b ≠ none
  tups : ∀ b xs, H b = some (.tup xs) → ¬ S b
  inss : ∀ a o dx, H a = some o → InsIn o dx → H dx = some (.own a) → (S a ↔ S dx)
def spFrS (sp : Sp) : Sp := fun vs H Q _ => ∃ S, HidOk S H ∧ sp vs (frm S H) (fun v G => (∀ b, S b → G b = none) → (∀ a o dx, mrg S H G a = some o → InsIn o dx → mrg S H G dx = some (.own a) → (S a ↔ S dx)) → Q v (mrg S H G)) E0
theorem frame_env {P : Program} {w : World} {K : PySem.W.Frag} {mg : Str → Option Value} {base : Heap} {A : Around} {outer : List Env} {s : Shared} {H : Hp} {S : Addr → Prop} (hS : HidOk S H) (e0 : Env0 P w K mg base A outer s H) : Env0 P w K mg base A outer s (frm S H) := by
  have hok' : HOk P w (frm S H) s.heap := fun a o e => by
    obtain ⟨n1, e1⟩ := frm_some e
    refine stay2 (e0.hok a o e1) (fun b u _ q => q) (fun b i q => ?_) (fun b ys q => ?_)
    · rw [frm_out fun z => n1 ((hS.inss a o b e1 i q).mpr z)]
      exact q
    · rw [frm_out (hS.tups b ys q)]
      exact q
  exact ⟨e0.frames, e0.mod, fun b o e => ⟨(e0.bs b o e).1, frm_none (e0.bs b o e).2⟩, e0.bsz, e0.funs, fun b hb => frm_none (e0.frf b hb), hok', e0.bare⟩
theorem frame_code {P : Program} {w : World} {K : PySem.W.Frag} {mg : Str → Option Value} {base : Heap} {A : Around} {outer : List Env} {s : Shared} {H : Hp} {S : Addr → Prop} {c : Code} {Q : VK} {E : XK} (hS : HidOk S H) (e0 : Env0 P w K mg base A outer s H)
    (run : codeAny (model P w) A c (CR (L2.CX P w) outer P w (frm S H) s (fun v G => (∀ b, S b → G b = none) → (∀ a o dx, mrg S H G a = some o → InsIn o dx → mrg S H G dx = some (.own a) → (S a ↔ S dx)) → Q v (mrg S H G)) E0) s) : codeAny (model P w) A c (CR (L2.CX P w) outer P w H s Q E) s := by
  refine codeAny_mono run fun rs s' hq => ?_
  cases rs with
  | error e =>
    obtain ⟨_, _, _, _, _, _, _, _, _, _, _, _, z⟩ := hq
    exact z.elim
  | ok fl =>
    cases fl with
    | ret u =>
      obtain ⟨v, G, os, bare, un, hok, rv, q⟩ := hq
      have thr : ∀ b, S b → ∃ o ob, H b = some o ∧ s.heap.get? b = some ob := fun b hb => by
        cases e : H b with
        | none => exact absurd e (hS.there b hb)
        | some o =>
          obtain ⟨ob, e2⟩ := objOk_get (e0.hok b o e)
          exact ⟨o, ob, rfl, e2⟩
      have fD : ∀ b, S b → G b = none := fun b hb => by
        obtain ⟨o, ob, h1, h2⟩ := thr b hb
        exact un.free b ob h2 (frm_in hb) (by simp)
      have kD : ∀ b ob, S b → s.heap.get? b = some ob → s'.heap.get? b = some ob := fun b ob hb h2 => by
        obtain ⟨o, _, h1, _⟩ := thr b hb
        refine un.keep b ob h2 (frm_in hb) (fun z => ?_) (by simp)
        rw [e0.frf b z] at h1
        cases h1
      have tD : ∀ b xs, H b = some (.tup xs) → mrg S H G b = some (.tup xs) := fun b xs e => by
        have n := hS.tups b xs e
        rw [mrg_out n]
        exact un.tups b xs (by rw [frm_out n]; exact e)
      have hokM : HOk P w (mrg S H G) s'.heap := fun b o e => by
        by_cases hb : S b
        · rw [mrg_in hb] at e
          have x := e0.hok b o e
          refine stay2 x (fun c u hc q => ?_) (fun c i q => ?_) (fun c ys q => tD c ys q)
          · rcases hc with rfl | hc
            · exact kD _ _ hb q
            · exact kD _ _ ((hS.inss b o c e hc (objOk_ins x hc)).mp hb) q
          · rw [mrg_in ((hS.inss b o c e i q).mp hb)]
            exact q
        · rw [mrg_out hb] at e
          have x := hok b o e
          refine stay2 x (fun c u _ q => q) (fun c i q => ?_) (fun c ys q => ?_)
          · rw [mrg_out fun z => by rw [fD c z] at q; cases q]
            exact q
          · rw [mrg_out fun z => by rw [fD c z] at q; cases q]
            exact q
      have iD : ∀ a o dx, mrg S H G a = some o → InsIn o dx → mrg S H G dx = some (.own a) → (S a ↔ S dx) := fun a o dx e i q => by
        by_cases ha : S a
        · rw [mrg_in ha] at e
          have := objOk_ins (e0.hok a o e) i
          exact hS.inss a o dx e i this
        · rw [mrg_out ha] at e
          have := objOk_ins (hok a o e) i
          refine ⟨fun z => absurd z ha, fun z => ?_⟩
          rw [fD dx z] at this
          cases this
      refine ⟨v, mrg S H G, os, bare, ⟨fun b o e n' hb hx => ?_, fun b o e n' hb hx => ?_, fun b o e n' hx => ?_, un.there, tD, fun b o' u' e => ?_, fun b ps e => ?_⟩, hokM, rv, q fD iD⟩
      · exact un.keep b o e (frm_none n') hb hx
      · exact un.slot b o e (frm_none n') hb hx
      · have hbD : ¬ S b := fun z => hS.there b z n'
        rw [mrg_out hbD]
        exact un.free b o e (frm_none n') hx
      · by_cases hb : S b
        · rw [mrg_in hb]
          exact e
        · rw [mrg_out hb]
          exact un.frzs b o' u' (by rw [frm_out hb]; exact e)
      · by_cases hb : S b
        · rw [mrg_in hb]
          exact ⟨#[], by rw [e]; simp⟩
        · rw [mrg_out hb]
          exact un.tbls b ps (by rw [frm_out hb]; exact e)
    | next => exact False.elim hq
    | brk => exact False.elim hq
    | cont => exact False.elim hq
theorem frameS {P : Program} {w : World} {K : PySem.W.Frag} {mg : Str → Option Value} {base : Heap} {k : Nat} {f : Addr} {sp : Sp} (F : FnR P w K mg base (L2.CX P w) k f sp) : FnR P w K mg base (L2.CX P w) k f (spFrS sp) := by
  intro A outer s H us vs Q E hr e0 r h
  obtain ⟨S, hS, h⟩ := h
  exact frame_code hS e0 (F A outer s (frm S H) us vs _ E0 hr (frame_env hS e0) r h)
end Cu

/-! == DB -/
set_option maxHeartbeats 4000000
namespace Cu
open PySem PySem.Spec PyProof.Rows L2 Evl CuT
/-! ### data without a heap -/
inductive D where
  | non | bl (b : Bool) | int (i : Int) | str (s : Str) | scr (ns : List Int) | lst (xs : List D) | tup (xs : List D) | prog (p : Prog) | mref (a : Addr) | glob (x : Str) | ty (n : String) | ins (c : Str) (fs : List (Str × D)) | exc (a dx : Addr) (c nm : Str) (x : D)
  | odd (x : D) (a : Addr) | edct
inductive Rep (K : PySem.W.Frag) (G : Hp) : V → D → Prop where
  | non : Rep K G .non .non
  | bl {b : Bool} : Rep K G (.bl b) (.bl b)
  | int {i : Int} : Rep K G (.int i) (.int i)
  | str {s : Str} : Rep K G (.str s) (.str s)
  | scr {a : Addr} {ns : List Int} (h : SqL K G a (ns.map V.int)) : Rep K G (.ref a) (.scr ns)
  | lst {a : Addr} {xs : List V} {ds : List D} (h : G a = some (.lst xs)) (len : xs.length = ds.length) (sub : ∀ (i : Nat) (x : V) (d : D), xs[i]? = some x → ds[i]? = some d → Rep K G x d) : Rep K G (.ref a) (.lst ds)
  | tup {a : Addr} {xs : List V} {ds : List D} (h : G a = some (.tup xs)) (len : xs.length = ds.length) (sub : ∀ (i : Nat) (x : V) (d : D), xs[i]? = some x → ds[i]? = some d → Rep K G x d) : Rep K G (.ref a) (.tup ds)
  | prog {a : Addr} {p : Prog} (h : IsP (PC K) G a p) : Rep K G (.ref a) (.prog p)
  | mref {a : Addr} : Rep K G (.ref a) (.mref a)
  | glob {x : Str} : Rep K G (.ref (He.ga K x)) (.glob x)
  | ty {n : String} : Rep K G (.ty n) (.ty n)
  | ins {a dx : Addr} {c : Str} {fvs : List (Str × V)} {fs : List (Str × D)} (h : G a = some (.ins (He.ga K c) dx fvs)) (nm : fvs.map (·.1) = fs.map (·.1)) (sub : ∀ (i : Nat) (x : Str × V) (y : Str × D), fvs[i]? = some x → fs[i]? = some y → Rep K G x.2 y.2) : Rep K G (.ref a) (.ins c fs)
  | exc {a dx : Addr} {c nm : Str} {v : V} {x : D} (h : G dx = some (.xd [(nm, v)])) (sub : Rep K G v x) : Rep K G (.ref a) (.exc a dx c nm x)
  | odd {a : Addr} {x : D} (sub : Rep K G (.ref a) x) : Rep K G (.ref a) (.odd x a)
  | edct {a : Addr} (h : G a = some (.dT [])) : Rep K G (.ref a) .edct
abbrev RepL (K : PySem.W.Frag) (G : Hp) : List V → List D → Prop := Paired (Rep K G)
section
variable {K : PySem.W.Frag} {G G' : Hp} {v : V} {d : D} {xs ys : List V} {ds es : List D}
theorem Rep.ext (e : Ex G G') (h : Rep K G v d) : Rep K G' v d := by
  induction h with
  | non => exact .non
  | bl => exact .bl
  | int => exact .int
  | str => exact .str
  | scr h => exact .scr (ex_l e h)
  | lst h len _ ih => exact .lst (e _ _ h) len ih
  | tup h len _ ih => exact .tup (e _ _ h) len ih
  | prog h => exact .prog (h.ext e)
  | mref => exact .mref
  | glob => exact .glob
  | ty => exact .ty
  | ins h nm _ ih => exact .ins (e _ _ h) nm ih
  | exc h _ ih => exact .exc (e _ _ h) ih
  | odd _ ih => exact .odd ih
  | edct h => exact .edct (e _ _ h)
theorem Paired.imp {α β : Type} {F G : α → β → Prop} : ∀ {l₁ : List α} {l₂ : List β}, Paired F l₁ l₂ → (∀ a b, F a b → G a b) → Paired G l₁ l₂
  | _, _, .nil, _ => .nil
  | _, _, .cons r t, f => .cons (f _ _ r) (Paired.imp t f)
theorem RepL.ext (e : Ex G G') (h : RepL K G xs ds) : RepL K G' xs ds := Paired.imp h fun _ _ q => q.ext e
theorem RepL.get : ∀ {xs : List V} {ds : List D} {i : Nat} {x : V} {d : D}, RepL K G xs ds → xs[i]? = some x → ds[i]? = some d → Rep K G x d
  | _, _, _, _, _, .nil, h, _ => by simp at h
  | _, _, 0, _, _, .cons r _, h, h' => by
    simp at h h'
    subst h h'
    exact r
  | _, _, i + 1, _, _, .cons _ t, h, h' => RepL.get (i := i) t (by simpa using h) (by simpa using h')
theorem RepL.at_ : ∀ {xs : List V} {ds : List D} {i : Nat} {d : D}, RepL K G xs ds → ds[i]? = some d → ∃ x, xs[i]? = some x ∧ Rep K G x d
  | _, _, _, _, .nil, h => by simp at h
  | _, _, 0, _, .cons r _, h => by
    simp at h
    subst h
    exact ⟨_, rfl, r⟩
  | _, _, i + 1, _, .cons _ t, h => by
    obtain ⟨x, h1, h2⟩ := RepL.at_ (i := i) t (by simpa using h)
    exact ⟨x, by simpa using h1, h2⟩
theorem RepL.of : ∀ {xs : List V} {ds : List D}, xs.length = ds.length → (∀ (i : Nat) (x : V) (d : D), xs[i]? = some x → ds[i]? = some d → Rep K G x d) → RepL K G xs ds
  | [], [], _, _ => .nil
  | [], _ :: _, h, _ => by simp at h
  | _ :: _, [], h, _ => by simp at h
  | x :: xs, d :: ds, h, q => .cons (q 0 x d rfl rfl) (RepL.of (by simpa using h) fun i y e h1 h2 => q (i + 1) y e (by simpa using h1) (by simpa using h2))
theorem RepL.append : ∀ {xs ys : List V} {ds es : List D}, RepL K G xs ds → RepL K G ys es → RepL K G (xs ++ ys) (ds ++ es)
  | _, _, _, _, .nil, h => h
  | _, _, _, _, .cons r t, h => .cons r (RepL.append t h)
theorem RepL.snoc {x : V} (h : RepL K G xs ds) (hx : Rep K G x d) : RepL K G (xs ++ [x]) (ds ++ [d]) := h.append (.cons hx .nil)
theorem RepL.drop : ∀ {xs : List V} {ds : List D} (n : Nat), RepL K G xs ds → RepL K G (xs.drop n) (ds.drop n)
  | _, _, 0, h => h
  | _, _, _ + 1, .nil => .nil
  | _, _, n + 1, .cons _ t => RepL.drop n t
theorem RepL.take : ∀ {xs : List V} {ds : List D} (n : Nat), RepL K G xs ds → RepL K G (xs.take n) (ds.take n)
  | _, _, 0, _ => .nil
  | _, _, _ + 1, .nil => .nil
  | _, _, n + 1, .cons r t => .cons r (RepL.take n t)
theorem RepL.set {x : V} (hx : Rep K G x d) : ∀ {xs : List V} {ds : List D} (n : Nat), RepL K G xs ds → RepL K G (xs.set n x) (ds.set n d)
  | _, _, _, .nil => .nil
  | _, _, 0, .cons _ t => .cons hx t
  | _, _, n + 1, .cons r t => .cons r (RepL.set hx n t)
theorem RepL.rev : ∀ {xs : List V} {ds : List D}, RepL K G xs ds → RepL K G xs.reverse ds.reverse
  | _, _, .nil => .nil
  | _, _, .cons r t => by
    rw [List.reverse_cons, List.reverse_cons]
    exact (RepL.rev t).snoc r
theorem RepL.len (h : RepL K G xs ds) : xs.length = ds.length := Paired.length h
theorem Rep.mkL {a : Addr} (h : G a = some (.lst xs)) (r : RepL K G xs ds) : Rep K G (.ref a) (.lst ds) := .lst h r.len fun _ _ _ h1 h2 => r.get h1 h2
theorem Rep.mkT {a : Addr} (h : G a = some (.tup xs)) (r : RepL K G xs ds) : Rep K G (.ref a) (.tup ds) := .tup h r.len fun _ _ _ h1 h2 => r.get h1 h2
theorem Rep.invL (h : Rep K G v (.lst ds)) : ∃ a xs, v = .ref a ∧ G a = some (.lst xs) ∧ RepL K G xs ds := by
  cases h with
  | lst h len sub => exact ⟨_, _, rfl, h, RepL.of len sub⟩
theorem Rep.invT (h : Rep K G v (.tup ds)) : ∃ a xs, v = .ref a ∧ G a = some (.tup xs) ∧ RepL K G xs ds := by
  cases h with
  | tup h len sub => exact ⟨_, _, rfl, h, RepL.of len sub⟩
theorem Rep.invI {i : Int} (h : Rep K G v (.int i)) : v = .int i := by cases h; rfl
theorem Rep.invB {b : Bool} (h : Rep K G v (.bl b)) : v = .bl b := by cases h; rfl
theorem Rep.invS {s : Str} (h : Rep K G v (.str s)) : v = .str s := by cases h; rfl
theorem Rep.invN (h : Rep K G v .non) : v = .non := by cases h; rfl
theorem Rep.invM {a : Addr} (h : Rep K G v (.mref a)) : v = .ref a := by cases h; rfl
theorem Rep.invTy {n : String} (h : Rep K G v (.ty n)) : v = .ty n := by cases h; rfl
theorem Rep.invG {x : Str} (h : Rep K G v (.glob x)) : v = .ref (He.ga K x) := by cases h; rfl
theorem Rep.invP {p : Prog} (h : Rep K G v (.prog p)) : ∃ a, v = .ref a ∧ IsP (PC K) G a p := by
  cases h with
  | prog h => exact ⟨_, rfl, h⟩
theorem Rep.invScr {ns : List Int} (h : Rep K G v (.scr ns)) : ∃ a, v = .ref a ∧ SqL K G a (ns.map V.int) := by
  cases h with
  | scr h => exact ⟨_, rfl, h⟩
theorem RepL.ints : ∀ {ns : List Int} {xs : List V}, RepL K G xs (ns.map D.int) → xs = ns.map V.int
  | [], _, .nil => rfl
  | n :: r, _, .cons h t => by
    rw [h.invI, RepL.ints t]
    rfl
theorem RepL.mkI : ∀ (ns : List Int), RepL K G (ns.map V.int) (ns.map D.int)
  | [] => .nil
  | n :: r => .cons .int (RepL.mkI r)
theorem RepL.strs : ∀ {ns : List Str} {xs : List V}, RepL K G xs (ns.map D.str) → xs = ns.map V.str
  | [], _, .nil => rfl
  | n :: r, _, .cons h t => by
    rw [h.invS, RepL.strs t]
    rfl
theorem RepL.bls : ∀ {ns : List Bool} {xs : List V}, RepL K G xs (ns.map D.bl) → xs = ns.map V.bl
  | [], _, .nil => rfl
  | n :: r, _, .cons h t => by
    rw [h.invB, RepL.bls t]
    rfl
theorem RepL.mkS : ∀ (ns : List Str), RepL K G (ns.map V.str) (ns.map D.str)
  | [] => .nil
  | n :: r => .cons .str (RepL.mkS r)
theorem RepL.nilInv (h : RepL K G xs []) : xs = [] := by cases h; rfl
theorem RepL.consInv (h : RepL K G xs (d :: ds)) : ∃ x r, xs = x :: r ∧ Rep K G x d ∧ RepL K G r ds := by
  cases h with
  | cons a b => exact ⟨_, _, rfl, a, b⟩
theorem RepL.prL {l : Addr} {ps : List Prog} (hl : G l = some (.lst xs)) (h : RepL K G xs (ps.map D.prog)) : PL (PC K) G l ps := by
  have e : ∃ as : List Addr, xs = as.map V.ref ∧ as.length = ps.length ∧ ∀ (i : Nat) (x : Addr) (q : Prog), as[i]? = some x → ps[i]? = some q → IsP (PC K) G x q := by
    clear hl
    induction ps generalizing xs with
    | nil =>
      rw [RepL.nilInv h]
      exact ⟨[], rfl, rfl, fun i x q hx => by simp at hx⟩
    | cons p r ih =>
      obtain ⟨x, t, rfl, h1, h2⟩ := RepL.consInv h
      obtain ⟨a, rfl, ha⟩ := h1.invP
      obtain ⟨as, rfl, h3, h4⟩ := ih h2
      refine ⟨a :: as, rfl, by simp [h3], fun i x q hx hq => ?_⟩
      cases i with
      | zero =>
        simp at hx hq
        subst hx hq
        exact ha
      | succ i => exact h4 i x q (by simpa using hx) (by simpa using hq)
  obtain ⟨as, rfl, h1, h2⟩ := e
  exact ⟨as, hl, h1, h2⟩
theorem RepL.ofPL {l : Addr} {ps : List Prog} (h : PL (PC K) G l ps) : ∃ xs, G l = some (.lst xs) ∧ RepL K G xs (ps.map D.prog) := by
  obtain ⟨as, h1, h2, h3⟩ := h
  refine ⟨_, h1, RepL.of (by simp [h2]) fun i x d hx hd => ?_⟩
  rw [List.getElem?_map] at hx hd
  obtain ⟨a, ha, rfl⟩ := Option.map_eq_some_iff.mp hx
  obtain ⟨p, hp, rfl⟩ := Option.map_eq_some_iff.mp hd
  exact .prog (h3 i a p ha hp)
theorem Rep.mkPL {l : Addr} {ps : List Prog} (h : PL (PC K) G l ps) : Rep K G (.ref l) (.lst (ps.map D.prog)) := by
  obtain ⟨xs, h1, h2⟩ := RepL.ofPL h
  exact .mkL h1 h2
theorem Rep.brV {b : Option Str} : Rep K G (brV b) (match b with | none => .non | some w => .str w) := by
  cases b with
  | none => exact .non
  | some w => exact .str
end
/-! ### the store of things that change -/
abbrev KeyN := List (Option Key)
def kN : Option Key → NestedKey
  | none => .none
  | some (.inl i) => .num i
  | some (.inr x) => .text x
def kVN : Option Key → V
  | none => .non
  | some k => kV k
/-- a dict whose keys are tuples of ints, texts and None -/
def dnO (w : World) (a : Addr) (xs : List (NestedKey × Addr × Value)) : HO := .ext fun h => ∃ o es ep, h.get? a = some o ∧ o.ExactDict ∧ o.data = .dict es ep ∧ es.toList = xs.map fun x => (⟨x.1.hash w, .ref x.2.1, x.2.2⟩ : DictEntry)
def EntN (K : PySem.W.Frag) (G : Hp) (p : KeyN × D) (q : NestedKey × Addr × Value) : Prop := q.1 = .tup (p.1.map kN) ∧ G q.2.1 = some (.tup (p.1.map kVN)) ∧ ∃ v, RelV v q.2.2 ∧ Rep K G v p.2
inductive Cell where
  | lst (xs : List D)
  | ins (c : Str) (fs : List (Str × D))
  | dct (kvs : List (List Key × D))
  | dcn (w : World) (kvs : List (KeyN × D))
abbrev Om := Addr → Option Cell
abbrev EnvD := List (Option D)
def Om.put (ω : Om) (a : Addr) (c : Cell) : Om := fun b => if b = a then some c else ω b
def Om.del (ω : Om) (a : Addr) : Om := fun b => if b = a then none else ω b
theorem Om.put_same {ω : Om} {a : Addr} {c : Cell} : ω.put a c a = some c := if_pos rfl
theorem Om.put_ne {ω : Om} {a b : Addr} {c : Cell} (h : b ≠ a) : ω.put a c b = ω b := if_neg h
theorem Om.del_same {ω : Om} {a : Addr} : ω.del a a = none := if_pos rfl
theorem Om.del_ne {ω : Om} {a b : Addr} (h : b ≠ a) : ω.del a b = ω b := if_neg h
theorem Om.put_put {ω : Om} {a : Addr} {c c' : Cell} : (ω.put a c).put a c' = ω.put a c' := by
  funext b
  unfold Om.put
  split <;> rfl
theorem Om.del_put {ω : Om} {a : Addr} {c : Cell} (h : ω a = none) : (ω.put a c).del a = ω := by
  funext b
  unfold Om.put Om.del
  by_cases e : b = a
  · rw [if_pos e, e, h]
  · rw [if_neg e]
    exact if_neg e
def CellOk (K : PySem.W.Frag) (G H : Hp) (a : Addr) : Cell → Prop
  | .lst ds => ∃ xs, H a = some (.lst xs) ∧ RepL K G xs ds
  | .ins c fs => ∃ dx fvs, H a = some (.ins (He.ga K c) dx fvs) ∧ H dx = some (.own a) ∧ fvs.map (·.1) = fs.map (·.1) ∧ RepL K G (fvs.map (·.2)) (fs.map (·.2))
  | .dct kvs => ∃ hvs : List (List Key × V), H a = some (.dT hvs) ∧ hvs.map (·.1) = kvs.map (·.1) ∧ RepL K G (hvs.map (·.2)) (kvs.map (·.2))
  | .dcn w kvs => ∃ xs, H a = some (dnO w a xs) ∧ (a == sysModules) = false ∧ (xs.map (·.1)).Nodup ∧ Paired (EntN K G) kvs xs
/-- F: what stands aside; G: what never changes; ω: what changes -/
structure Sim (K : PySem.W.Frag) (F G : Hp) (ω : Om) (H : Hp) : Prop where
  exG : Ex G H
  exF : Ex F H
  sepF : ∀ a o, F a = some o → G a = none ∧ ω a = none
  sepO : ∀ a c, ω a = some c → G a = none
  cell : ∀ a c, ω a = some c → CellOk K G H a c
  tups : ∀ a xs, H a = some (.tup xs) → G a = some (.tup xs)
  inss : ∀ a o dx, H a = some o → InsIn o dx → H dx = some (.own a) → (G a = none ↔ G dx = none)
def plainO : HO → Prop
  | .lst _ => True
  | .tup _ => True
  | .xd _ => True
  | .dT _ => True
  | _ => False
section
variable {K : PySem.W.Frag} {F G G' H H' : Hp} {ω ω' : Om} {a p : Addr}
theorem CellOk.mono {c : Cell} (h : CellOk K G H a c) (e : Ex G G') (h1 : ∀ o, H a = some o → H' a = some o) (h2 : ∀ o dx, H a = some o → InsIn o dx → H dx = some (.own a) → H' dx = some (.own a)) : CellOk K G' H' a c := by
  cases c with
  | lst ds =>
    obtain ⟨xs, z1, z2⟩ := h
    exact ⟨xs, h1 _ z1, z2.ext e⟩
  | ins c fs =>
    obtain ⟨dx, fvs, z1, z2, z3, z4⟩ := h
    exact ⟨dx, fvs, h1 _ z1, h2 _ _ z1 rfl z2, z3, z4.ext e⟩
  | dct kvs =>
    obtain ⟨hvs, z1, z2, z3⟩ := h
    exact ⟨hvs, h1 _ z1, z2, z3.ext e⟩
  | dcn w kvs =>
    obtain ⟨xs, z1, z2, z3, z4⟩ := h
    exact ⟨xs, h1 _ z1, z2, z3, Paired.mapP z4 fun p q ⟨y1, y2, v, y3, y4⟩ => ⟨y1, e _ _ y2, v, y3, y4.ext e⟩⟩
theorem CellOk.monoA {c : Cell} (h : CellOk K G H a c) (e : Ex G G') (k : ∀ b o, H b = some o → (b = a ∨ o = .own a) → H' b = some o) : CellOk K G' H' a c := h.mono e (fun o q => k a o q (.inl rfl)) fun o dx _ _ q => k dx _ q (.inr rfl)
theorem CellOk.at_ {c : Cell} (h : CellOk K G H a c) : ∃ o, H a = some o ∧ ¬ (∃ xs, o = .tup xs) := by
  cases c with
  | lst ds =>
    obtain ⟨xs, h1, h2⟩ := h
    exact ⟨_, h1, fun z => by obtain ⟨_, z⟩ := z; cases z⟩
  | ins c fs =>
    obtain ⟨dx, fvs, h1, h2, h3, h4⟩ := h
    exact ⟨_, h1, fun z => by obtain ⟨_, z⟩ := z; cases z⟩
  | dct kvs =>
    obtain ⟨hvs, h1, h2, h3⟩ := h
    exact ⟨_, h1, fun z => by obtain ⟨_, z⟩ := z; cases z⟩
  | dcn w kvs =>
    obtain ⟨hvs, h1, h2, h3⟩ := h
    exact ⟨_, h1, fun z => by obtain ⟨_, z⟩ := z; cases z⟩
theorem Sim.freshF (s : Sim K F G ω H) (h : H p = none) : F p = none ∧ G p = none ∧ ω p = none := by
  refine ⟨fresh_back s.exF h, fresh_back s.exG h, ?_⟩
  cases e : ω p with
  | none => rfl
  | some c =>
    obtain ⟨o, h1, _⟩ := (s.cell p c e).at_
    rw [h] at h1
    cases h1
theorem plain_noIns {o : HO} (h : plainO o) : ∀ dx, ¬ InsIn o dx := by
  cases o <;> first | exact fun _ z => z | exact False.elim h
theorem plain_noOwn {o : HO} (h : plainO o) : ∀ x, o ≠ .own x := by
  intro x z
  subst z
  exact h
/-- a new thing that never changes -/
theorem Sim.new (s : Sim K F G ω H) {o : HO} (ho : plainO o) (h : H p = none) : Sim K F (upd G p o) ω (upd H p o) := by
  obtain ⟨hF, hG, hO⟩ := s.freshF h
  refine ⟨fun a u e => ?_, s.exF.mut hF, fun a u e => ?_, fun a c e => ?_, fun a c e => ?_, fun a xs e => ?_, fun a u dx e i q => ?_⟩
  · by_cases ha : a = p
    · rw [ha, upd_same] at e
      rw [ha, upd_same, e]
    · rw [upd_ne ha] at e
      rw [upd_ne ha]
      exact s.exG a u e
  · have ha : a ≠ p := fun z => by rw [z, hF] at e; cases e
    rw [upd_ne ha]
    exact s.sepF a u e
  · have ha : a ≠ p := fun z => by rw [z, hO] at e; cases e
    rw [upd_ne ha]
    exact s.sepO a c e
  · have ha : a ≠ p := fun z => by rw [z, hO] at e; cases e
    refine (s.cell a c e).monoA (Ex.new hG) fun b u hb _ => ?_
    rw [upd_ne (ne_of_none hb h)]
    exact hb
  · by_cases ha : a = p
    · rw [ha, upd_same] at e
      rw [ha, upd_same]
      exact e
    · rw [upd_ne ha] at e
      rw [upd_ne ha]
      exact s.tups a xs e
  · by_cases ha : a = p
    · rw [ha, upd_same] at e
      cases e
      exact absurd i (plain_noIns ho dx)
    · rw [upd_ne ha] at e
      by_cases hd : dx = p
      · rw [hd, upd_same] at q
        exact absurd (Option.some.inj q) (plain_noOwn ho a)
      · rw [upd_ne hd] at q
        rw [upd_ne ha, upd_ne hd]
        exact s.inss a u dx e i q
/-- .. that may change -/
theorem Sim.newM (s : Sim K F G ω H) {xs : List V} {ds : List D} (r : RepL K G xs ds) (h : H p = none) : Sim K F G (ω.put p (.lst ds)) (upd H p (.lst xs)) := by
  obtain ⟨hF, hG, hO⟩ := s.freshF h
  refine ⟨s.exG.mut hG, s.exF.mut hF, fun a u e => ?_, fun a c e => ?_, fun a c e => ?_, fun a ys e => ?_, fun a u dx e i q => ?_⟩
  · have ha : a ≠ p := fun z => by rw [z, hF] at e; cases e
    rw [Om.put_ne ha]
    exact s.sepF a u e
  · by_cases ha : a = p
    · rw [ha]; exact hG
    · rw [Om.put_ne ha] at e
      exact s.sepO a c e
  · by_cases ha : a = p
    · rw [ha, Om.put_same] at e
      cases e
      exact ⟨xs, by rw [ha, upd_same], r⟩
    · rw [Om.put_ne ha] at e
      refine (s.cell a c e).monoA (Ex.refl G) fun b u hb _ => ?_
      rw [upd_ne (ne_of_none hb h)]
      exact hb
  · by_cases ha : a = p
    · rw [ha, upd_same] at e
      cases e
    · rw [upd_ne ha] at e
      exact s.tups a ys e
  · by_cases ha : a = p
    · rw [ha, upd_same] at e
      cases e
      exact False.elim i
    · rw [upd_ne ha] at e
      by_cases hd : dx = p
      · rw [hd, upd_same] at q
        cases q
      · rw [upd_ne hd] at q
        exact s.inss a u dx e i q
theorem Sim.isL (s : Sim K F G ω H) {ds : List D} (h : ω p = some (.lst ds)) : ∃ xs, H p = some (.lst xs) ∧ RepL K G xs ds ∧ G p = none ∧ F p = none := by
  obtain ⟨xs, h1, h2⟩ := s.cell p _ h
  refine ⟨xs, h1, h2, s.sepO p _ h, ?_⟩
  cases e : F p with
  | none => rfl
  | some o =>
    rw [(s.sepF p o e).2] at h
    cases h
/-- a list is changed -/
theorem Sim.write (s : Sim K F G ω H) {xs : List V} {ds ds' : List D} (h : ω p = some (.lst ds)) (r : RepL K G xs ds') : Sim K F G (ω.put p (.lst ds')) (upd H p (.lst xs)) := by
  obtain ⟨ys, h1, _, hG, hF⟩ := s.isL h
  refine ⟨s.exG.mut hG, s.exF.mut hF, fun a u e => ?_, fun a c e => ?_, fun a c e => ?_, fun a ys e => ?_, fun a u dx e i q => ?_⟩
  · have ha : a ≠ p := fun z => by rw [z, hF] at e; cases e
    rw [Om.put_ne ha]
    exact s.sepF a u e
  · by_cases ha : a = p
    · rw [ha]; exact hG
    · rw [Om.put_ne ha] at e
      exact s.sepO a c e
  · by_cases ha : a = p
    · rw [ha, Om.put_same] at e
      cases e
      exact ⟨xs, by rw [ha, upd_same], r⟩
    · rw [Om.put_ne ha] at e
      refine (s.cell a c e).monoA (Ex.refl G) fun b u hb hx => ?_
      rw [upd_ne fun z => ?_]
      · exact hb
      · rw [z, h1] at hb
        cases hb
        rcases hx with hx | hx
        · exact ha (hx.symm.trans z)
        · cases hx
  · by_cases ha : a = p
    · rw [ha, upd_same] at e
      cases e
    · rw [upd_ne ha] at e
      exact s.tups a ys e
  · by_cases ha : a = p
    · rw [ha, upd_same] at e
      cases e
      exact False.elim i
    · rw [upd_ne ha] at e
      by_cases hd : dx = p
      · rw [hd, upd_same] at q
        cases q
      · rw [upd_ne hd] at q
        exact s.inss a u dx e i q
/-- a list changes no more -/
theorem Sim.frz (s : Sim K F G ω H) {ds : List D} (h : ω p = some (.lst ds)) : ∃ xs, G p = none ∧ RepL K G xs ds ∧ Sim K F (upd G p (.lst xs)) (ω.del p) H := by
  obtain ⟨ys, h1, r, hG, hF⟩ := s.isL h
  refine ⟨ys, hG, r, fun a u e => ?_, s.exF, fun a u e => ?_, fun a c e => ?_, fun a c e => ?_, fun a xs e => ?_, fun a u dx e i q => ?_⟩
  · by_cases ha : a = p
    · rw [ha, upd_same] at e
      rw [ha, h1, e]
    · rw [upd_ne ha] at e
      exact s.exG a u e
  · have ha : a ≠ p := fun z => by rw [z, hF] at e; cases e
    rw [Om.del_ne ha, upd_ne ha]
    exact s.sepF a u e
  · by_cases ha : a = p
    · rw [ha, Om.del_same] at e
      cases e
    · rw [Om.del_ne ha] at e
      rw [upd_ne ha]
      exact s.sepO a c e
  · by_cases ha : a = p
    · rw [ha, Om.del_same] at e
      cases e
    · rw [Om.del_ne ha] at e
      exact (s.cell a c e).monoA (Ex.new hG) fun b u hb _ => hb
  · have ha : a ≠ p := fun z => by rw [z, h1] at e; cases e
    rw [upd_ne ha]
    exact s.tups a xs e
  · have ha : a ≠ p := fun z => by rw [z, h1] at e; cases e; exact i
    have hd : dx ≠ p := fun z => by rw [z, h1] at q; cases q
    rw [upd_ne ha, upd_ne hd]
    exact s.inss a u dx e i q
/-- a list stands aside: made, changed, told -/
theorem Sim.aside (s : Sim K F G ω H) {xs : List V} (h : H p = none) : Sim K (upd F p (.lst xs)) G ω (upd H p (.lst xs)) := by
  obtain ⟨hF, hG, hO⟩ := s.freshF h
  refine ⟨s.exG.mut hG, fun a u e => ?_, fun a u e => ?_, s.sepO, fun a c e => ?_, fun a ys e => ?_, fun a u dx e i q => ?_⟩
  · by_cases ha : a = p
    · rw [ha, upd_same] at e
      rw [ha, upd_same, e]
    · rw [upd_ne ha] at e
      rw [upd_ne ha]
      exact s.exF a u e
  · by_cases ha : a = p
    · rw [ha]; exact ⟨hG, hO⟩
    · rw [upd_ne ha] at e
      exact s.sepF a u e
  · refine (s.cell a c e).monoA (Ex.refl G) fun b u hb _ => ?_
    rw [upd_ne (ne_of_none hb h)]
    exact hb
  · by_cases ha : a = p
    · rw [ha, upd_same] at e
      cases e
    · rw [upd_ne ha] at e
      exact s.tups a ys e
  · by_cases ha : a = p
    · rw [ha, upd_same] at e
      cases e
      exact False.elim i
    · rw [upd_ne ha] at e
      by_cases hd : dx = p
      · rw [hd, upd_same] at q
        cases q
      · rw [upd_ne hd] at q
        exact s.inss a u dx e i q
theorem Sim.asideW {xs ys : List V} (hF : F p = none) (s : Sim K (upd F p (.lst xs)) G ω H) : H p = some (.lst xs) ∧ Sim K (upd F p (.lst ys)) G ω (upd H p (.lst ys)) := by
  have hp : H p = some (.lst xs) := s.exF p _ upd_same
  obtain ⟨hG, hO⟩ := s.sepF p _ upd_same
  refine ⟨hp, s.exG.mut hG, fun a u e => ?_, fun a u e => ?_, s.sepO, fun a c e => ?_, fun a zs e => ?_, fun a u dx e i q => ?_⟩
  · by_cases ha : a = p
    · rw [ha, upd_same] at e
      rw [ha, upd_same, e]
    · rw [upd_ne ha] at e
      rw [upd_ne ha]
      exact s.exF a u (by rw [upd_ne ha]; exact e)
  · by_cases ha : a = p
    · rw [ha]; exact ⟨hG, hO⟩
    · rw [upd_ne ha] at e
      exact s.sepF a u (by rw [upd_ne ha]; exact e)
  · have ha : a ≠ p := fun z => by rw [z, hO] at e; cases e
    refine (s.cell a c e).monoA (Ex.refl G) fun b u hb hx => ?_
    rw [upd_ne fun z => ?_]
    · exact hb
    · rw [z, hp] at hb
      cases hb
      rcases hx with hx | hx
      · exact ha (hx.symm.trans z)
      · cases hx
  · by_cases ha : a = p
    · rw [ha, upd_same] at e
      cases e
    · rw [upd_ne ha] at e
      exact s.tups a zs e
  · by_cases ha : a = p
    · rw [ha, upd_same] at e
      cases e
      exact False.elim i
    · rw [upd_ne ha] at e
      by_cases hd : dx = p
      · rw [hd, upd_same] at q
        cases q
      · rw [upd_ne hd] at q
        exact s.inss a u dx e i q
/-- a list that stood aside is one that may change -/
theorem Sim.unaside {xs : List V} {ds : List D} (hF : F p = none) (s : Sim K (upd F p (.lst xs)) G ω H) (r : RepL K G xs ds) : Sim K F G (ω.put p (.lst ds)) H := by
  have hp : H p = some (.lst xs) := s.exF p _ upd_same
  obtain ⟨hG, hO⟩ := s.sepF p _ upd_same
  refine ⟨s.exG, fun a u e => ?_, fun a u e => ?_, fun a c e => ?_, fun a c e => ?_, s.tups, s.inss⟩
  · exact s.exF a u (by rw [upd_ne (ne_of_none e hF)]; exact e)
  · have ha := ne_of_none e hF
    rw [Om.put_ne ha]
    exact s.sepF a u (by rw [upd_ne ha]; exact e)
  · by_cases ha : a = p
    · rw [ha]; exact hG
    · rw [Om.put_ne ha] at e
      exact s.sepO a c e
  · by_cases ha : a = p
    · rw [ha, Om.put_same] at e
      cases e
      exact ⟨xs, by rw [ha]; exact hp, r⟩
    · rw [Om.put_ne ha] at e
      exact s.cell a c e
/-- .. or that changes no more -/
theorem Sim.unasideF {xs : List V} (hF : F p = none) (s : Sim K (upd F p (.lst xs)) G ω H) : Ex G (upd G p (.lst xs)) ∧ Sim K F (upd G p (.lst xs)) ω H := by
  have hp : H p = some (.lst xs) := s.exF p _ upd_same
  obtain ⟨hG, hO⟩ := s.sepF p _ upd_same
  refine ⟨Ex.new hG, fun a u e => ?_, fun a u e => ?_, fun a u e => ?_, fun a c e => ?_, fun a c e => ?_, fun a zs e => ?_, fun a u dx e i q => ?_⟩
  · by_cases ha : a = p
    · rw [ha, upd_same] at e
      rw [ha, hp, e]
    · rw [upd_ne ha] at e
      exact s.exG a u e
  · exact s.exF a u (by rw [upd_ne (ne_of_none e hF)]; exact e)
  · have ha := ne_of_none e hF
    rw [upd_ne ha]
    exact s.sepF a u (by rw [upd_ne ha]; exact e)
  · have ha : a ≠ p := fun z => by rw [z, hO] at e; cases e
    rw [upd_ne ha]
    exact s.sepO a c e
  · exact (s.cell a c e).monoA (Ex.new hG) fun b u hb _ => hb
  · have ha : a ≠ p := fun z => by rw [z, hp] at e; cases e
    rw [upd_ne ha]
    exact s.tups a zs e
  · have ha : a ≠ p := fun z => by rw [z, hp] at e; cases e; exact i
    have hd : dx ≠ p := fun z => by rw [z, hp] at q; cases q
    rw [upd_ne ha, upd_ne hd]
    exact s.inss a u dx e i q
/-- what a call that is told by what never changes may hide -/
theorem Sim.hid (s : Sim K F G ω H) : HidOk (fun b => H b ≠ none ∧ G b = none) H ∧ frm (fun b => H b ≠ none ∧ G b = none) H = G := by
  refine ⟨⟨fun b h => h.1, fun b xs e z => ?_, fun a o dx e i q => ?_⟩, ?_⟩
  · rw [s.tups b xs e] at z
    exact nomatch z.2
  · have h := s.inss a o dx e i q
    constructor
    · exact fun z => ⟨by rw [q]; exact (fun y => nomatch y), h.mp z.2⟩
    · exact fun z => ⟨by rw [e]; exact (fun y => nomatch y), h.mpr z.2⟩
  · funext b
    cases e : G b with
    | some o =>
      rw [frm_out fun z => by rw [e] at z; exact nomatch z.2]
      exact s.exG b o e
    | none =>
      by_cases hb : H b = none
      · exact frm_none hb
      · exact frm_in ⟨hb, e⟩
theorem Sim.back (s : Sim K F G ω H) (e : Ex G G') (fD : ∀ b, (H b ≠ none ∧ G b = none) → G' b = none) (iD : ∀ a o dx, mrg (fun b => H b ≠ none ∧ G b = none) H G' a = some o → InsIn o dx → mrg (fun b => H b ≠ none ∧ G b = none) H G' dx = some (.own a) → ((H a ≠ none ∧ G a = none) ↔ (H dx ≠ none ∧ G dx = none))) :
    Sim K F G' ω (mrg (fun b => H b ≠ none ∧ G b = none) H G') := by
  have hid : ∀ b o, G b = none → H b = some o → mrg (fun b => H b ≠ none ∧ G b = none) H G' b = some o ∧ G' b = none := fun b o h1 h2 => by
    have hb : H b ≠ none ∧ G b = none := ⟨by rw [h2]; exact (fun z => nomatch z), h1⟩
    exact ⟨by rw [mrg_in (S := fun b => H b ≠ none ∧ G b = none) hb]; exact h2, fD b hb⟩
  refine ⟨fun a o h => ?_, fun a o h => (hid a o (s.sepF a o h).1 (s.exF a o h)).1, fun a o h => ⟨(hid a o (s.sepF a o h).1 (s.exF a o h)).2, (s.sepF a o h).2⟩, fun a c h => ?_, fun a c h => ?_, fun a xs h => ?_, fun a o dx h i q => ?_⟩
  · rw [mrg_out fun z => by rw [fD a z] at h; cases h]
    exact h
  · obtain ⟨o, h1, _⟩ := (s.cell a c h).at_
    exact (hid a o (s.sepO a c h) h1).2
  · refine (s.cell a c h).mono e (fun o q => (hid a o (s.sepO a c h) q).1) fun o dx q i z => ?_
    exact (hid dx _ ((s.inss a o dx q i z).mp (s.sepO a c h)) z).1
  · by_cases hb : H a ≠ none ∧ G a = none
    · rw [mrg_in (S := fun b => H b ≠ none ∧ G b = none) hb] at h
      rw [s.tups a xs h] at hb
      exact nomatch hb.2
    · rw [mrg_out (S := fun b => H b ≠ none ∧ G b = none) hb] at h
      exact h
  · have w := iD a o dx h i q
    have g : ∀ b u, mrg (fun b => H b ≠ none ∧ G b = none) H G' b = some u → (G' b = none ↔ (H b ≠ none ∧ G b = none)) := fun b u hu => by
      refine ⟨fun z => ?_, fun z => fD b z⟩
      by_cases hb : H b ≠ none ∧ G b = none
      · exact hb
      · rw [mrg_out (S := fun b => H b ≠ none ∧ G b = none) hb, z] at hu
        cases hu
    rw [g a o h, g dx _ q]
    exact w
end
end Cu

/-! == DC -/
set_option maxHeartbeats 4000000
namespace Cu
open PySem PySem.Spec PyProof.Rows L2 Evl CuT
/-! ### readings without a heap -/
abbrev XD := Str → Str → D → Om → Prop
def xno : XD := fun _ _ _ _ => False
abbrev RE := XD → EnvD → Om → (D → Om → Prop) → Prop
abbrev RT := XD → EnvD → Om → (Bool → Om → Prop) → Prop
abbrev RA := XD → EnvD → Om → (List D → Om → Prop) → Prop
abbrev RO := XD → EnvD → Om → (Option Int → Om → Prop) → Prop
abbrev SD := XD → List D → Om → (D → Om → Prop) → Prop
structure EndsD where
  nx : EnvD → Om → Prop
  rt : D → Om → Prop
  bk : EnvD → Om → Prop := fun _ _ => False
  ct : EnvD → Om → Prop := fun _ _ => False
abbrev RS := XD → EndsD → EnvD → Om → Prop
def RepE (K : PySem.W.Frag) (G : Hp) (σ : L2.St) (ρ : EnvD) : Prop := σ.length = ρ.length ∧ ∀ (i : Nat) (d : D), ρ[i]? = some (some d) → ∃ v, σ[i]? = some (some v) ∧ Rep K G v d
def Kont (K : PySem.W.Frag) (F G : Hp) (Φ : D → Om → Prop) (Q : VK) : Prop := ∀ v x ω' G' H', Φ x ω' → Ex G G' → Sim K F G' ω' H' → Rep K G' v x → Q v H'
def KontT (K : PySem.W.Frag) (F G : Hp) (Φ : Bool → Om → Prop) (Q : Bool → Hp → Prop) : Prop := ∀ b ω' G' H', Φ b ω' → Ex G G' → Sim K F G' ω' H' → Q b H'
def KontO (K : PySem.W.Frag) (F G : Hp) (Φ : Option Int → Om → Prop) (Q : Option Int → Hp → Prop) : Prop := ∀ b ω' G' H', Φ b ω' → Ex G G' → Sim K F G' ω' H' → Q b H'
def KontA (K : PySem.W.Frag) (F G : Hp) (Φ : List D → Om → Prop) (Q : List V → Hp → Prop) : Prop := ∀ vs ds ω' G' H', Φ ds ω' → Ex G G' → Sim K F G' ω' H' → RepL K G' vs ds → Q vs H'
def XOk (K : PySem.W.Frag) (F G : Hp) (ξ : XD) (E : XK) : Prop := ∀ c nm x ω' G' H' dx v, ξ c nm x ω' → Ex G G' → Sim K F G' ω' H' → G' dx = some (.xd [(nm, v)]) → Rep K G' v x → E (.ref (He.ga K c)) (some dx) H'
structure EndsOk (K : PySem.W.Frag) (F G : Hp) (Δ : EndsD) (D : Ends) : Prop where
  nx : ∀ σ' ρ' ω' G' H', Δ.nx ρ' ω' → Ex G G' → Sim K F G' ω' H' → RepE K G' σ' ρ' → D.nx σ' H'
  rt : Kont K F G Δ.rt D.rt
  bk : ∀ σ' ρ' ω' G' H', Δ.bk ρ' ω' → Ex G G' → Sim K F G' ω' H' → RepE K G' σ' ρ' → D.bk σ' H'
  ct : ∀ σ' ρ' ω' G' H', Δ.ct ρ' ω' → Ex G G' → Sim K F G' ω' H' → RepE K G' σ' ρ' → D.ct σ' H'
def lowE (K : PySem.W.Frag) (E : XK) (d : RE) : TE := fun σ H Q => ∃ F G ω ρ Φ ξ, Sim K F G ω H ∧ RepE K G σ ρ ∧ d ξ ρ ω Φ ∧ Kont K F G Φ Q ∧ XOk K F G ξ E
def lowT (K : PySem.W.Frag) (E : XK) (d : RT) : TT := fun σ H Q => ∃ F G ω ρ Φ ξ, Sim K F G ω H ∧ RepE K G σ ρ ∧ d ξ ρ ω Φ ∧ KontT K F G Φ Q ∧ XOk K F G ξ E
def lowA (K : PySem.W.Frag) (E : XK) (d : RA) : TA := fun σ H Q => ∃ F G ω ρ Φ ξ, Sim K F G ω H ∧ RepE K G σ ρ ∧ d ξ ρ ω Φ ∧ KontA K F G Φ Q ∧ XOk K F G ξ E
def lowO (K : PySem.W.Frag) (E : XK) (d : RO) : TO := fun σ H Q => ∃ F G ω ρ Φ ξ, Sim K F G ω H ∧ RepE K G σ ρ ∧ d ξ ρ ω Φ ∧ KontO K F G Φ Q ∧ XOk K F G ξ E
def lowS (K : PySem.W.Frag) (E : XK) (d : RS) : TS := fun D σ H => ∃ F G ω ρ Δ ξ, Sim K F G ω H ∧ RepE K G σ ρ ∧ d ξ Δ ρ ω ∧ EndsOk K F G Δ D ∧ XOk K F G ξ E
def DE (X : Cx) (E : XK) (e : Expr) (d : RE) : Prop := PE X e (lowE X.K E d)
def DT (X : Cx) (E : XK) (e : Expr) (d : RT) : Prop := PT X e (lowT X.K E d)
def DW (X : Cx) (E : XK) (e : Expr) (d : RT) : Prop := PW X e (lowT X.K E d)
def DA (X : Cx) (E : XK) (es : List Expr) (d : RA) : Prop := PA X es (lowA X.K E d)
def DO (X : Cx) (E : XK) (e : Option Expr) (d : RO) : Prop := PO X e (lowO X.K E d)
def DS (X : Cx) (E : XK) (st : Stmt) (d : RS) : Prop := PS X st (lowS X.K E d)
def DSs (X : Cx) (E : XK) (st : List Stmt) (d : RS) : Prop := PSs X st (lowS X.K E d)
section
variable {K : PySem.W.Frag} {F G G' G2 H H' : Hp} {ω ω' : Om} {σ : L2.St} {ρ : EnvD} {Φ : D → Om → Prop} {Q : VK} {ξ : XD} {E : XK} {Δ : EndsD} {D' : Ends}
theorem RepE.ext (e : Ex G G') (h : RepE K G σ ρ) : RepE K G' σ ρ := ⟨h.1, fun i d q => by
  obtain ⟨v, h1, h2⟩ := h.2 i d q
  exact ⟨v, h1, h2.ext e⟩⟩
theorem RepE.set (h : RepE K G σ ρ) {v : V} {d : D} (r : Rep K G v d) (i : Nat) : RepE K G (σ.set i (some v)) (ρ.set i (some d)) := by
  refine ⟨by rw [List.length_set, List.length_set, h.1], fun j x q => ?_⟩
  by_cases e : i = j
  · subst e
    have hl : i < ρ.length := by
      have := (List.getElem?_eq_some_iff.mp q).1
      rwa [List.length_set] at this
    rw [List.getElem?_set_self hl] at q
    cases q
    exact ⟨v, List.getElem?_set_self (by rw [h.1]; exact hl), r⟩
  · rw [List.getElem?_set_ne e] at q
    obtain ⟨u, h1, h2⟩ := h.2 j x q
    exact ⟨u, by rw [List.getElem?_set_ne e]; exact h1, h2⟩
theorem RepE.clr (h : RepE K G σ ρ) (i : Nat) : RepE K G (σ.set i none) (ρ.set i none) := by
  refine ⟨by rw [List.length_set, List.length_set, h.1], fun j x q => ?_⟩
  by_cases e : i = j
  · subst e
    have hl : i < ρ.length := by
      have := (List.getElem?_eq_some_iff.mp q).1
      rwa [List.length_set] at this
    rw [List.getElem?_set_self hl] at q
    cases q
  · rw [List.getElem?_set_ne e] at q
    obtain ⟨u, h1, h2⟩ := h.2 j x q
    exact ⟨u, by rw [List.getElem?_set_ne e]; exact h1, h2⟩
theorem Kont.mono (h : Kont K F G Φ Q) (e : Ex G G') : Kont K F G' Φ Q := fun v x ω' G2 H' a b c d => h v x ω' G2 H' a (e.trans b) c d
theorem XOk.mono (h : XOk K F G ξ E) (e : Ex G G') : XOk K F G' ξ E := fun c nm x ω' G2 H' dx v a b => h c nm x ω' G2 H' dx v a (e.trans b)
theorem XOk.no : XOk K F G xno E := fun _ _ _ _ _ _ _ _ z => False.elim z
theorem EndsOk.mono (h : EndsOk K F G Δ D') (e : Ex G G') : EndsOk K F G' Δ D' := ⟨fun σ' ρ' ω' G2 H' a b => h.nx σ' ρ' ω' G2 H' a (e.trans b), h.rt.mono e, fun σ' ρ' ω' G2 H' a b => h.bk σ' ρ' ω' G2 H' a (e.trans b), fun σ' ρ' ω' G2 H' a b => h.ct σ' ρ' ω' G2 H' a (e.trans b)⟩
end
section
variable {X : Cx} {E : XK}
theorem de_of {e : Expr} {d : RE} {t : TE} (h : PE X e t) (r : ∀ σ H Q, lowE X.K E d σ H Q → t σ H Q) : DE X E e d := ⟨fun pins s σ H Q I q => h.run pins s σ H Q I (r σ H Q q)⟩
theorem dt_of {e : Expr} {d : RT} {t : TT} (h : PT X e t) (r : ∀ σ H Q, lowT X.K E d σ H Q → t σ H Q) : DT X E e d := ⟨fun pins s σ H Q I q => h.run pins s σ H Q I (r σ H Q q)⟩
theorem dw_of {e : Expr} {d : RT} {t : TT} (h : PW X e t) (r : ∀ σ H Q, lowT X.K E d σ H Q → t σ H Q) : DW X E e d := ⟨fun wh pins s σ H Q I q => h.run wh pins s σ H Q I (r σ H Q q)⟩
theorem da_of {es : List Expr} {d : RA} {t : TA} (h : PA X es t) (r : ∀ σ H Q, lowA X.K E d σ H Q → t σ H Q) : DA X E es d := ⟨fun pos pins s σ H Q I q => h.run pos pins s σ H Q I (r σ H Q q)⟩
theorem do_of {e : Option Expr} {d : RO} {t : TO} (h : PO X e t) (r : ∀ σ H Q, lowO X.K E d σ H Q → t σ H Q) : DO X E e d := ⟨fun pins s σ H Q I q => h.run pins s σ H Q I (r σ H Q q)⟩
theorem ds_of {st : Stmt} {d : RS} {t : TS} (h : PS X st t) (r : ∀ D σ H, lowS X.K E d D σ H → t D σ H) : DS X E st d := ⟨fun pins s σ H D I q => h.run pins s σ H D I (r D σ H q)⟩
theorem dss_of {st : List Stmt} {d : RS} {t : TS} (h : PSs X st t) (r : ∀ D σ H, lowS X.K E d D σ H → t D σ H) : DSs X E st d := ⟨fun pins s σ H D I q => h.run pins s σ H D I (r D σ H q)⟩
/-! #### names, constants -/
def getK : EnvD → Nat → (D → Prop) → Prop
  | [], _, _ => False
  | some d :: _, 0, k => k d
  | none :: _, 0, _ => False
  | _ :: r, n + 1, k => getK r n k
theorem getK_at : ∀ {ρ : EnvD} {i : Nat} {k : D → Prop}, getK ρ i k → ∃ d, ρ[i]? = some (some d) ∧ k d
  | [], _, _, h => h.elim
  | some d :: _, 0, k, h => ⟨d, rfl, h⟩
  | none :: _, 0, _, h => h.elim
  | some _ :: r, n + 1, k, h => by
    obtain ⟨d, h1, h2⟩ := getK_at (ρ := r) (i := n) (k := k) h
    exact ⟨d, by simpa using h1, h2⟩
  | none :: r, n + 1, k, h => by
    obtain ⟨d, h1, h2⟩ := getK_at (ρ := r) (i := n) (k := k) h
    exact ⟨d, by simpa using h1, h2⟩
def dVar (i : Nat) : RE := fun _ ρ ω Φ => getK ρ i fun d => Φ d ω
def dC (d : D) : RE := fun _ _ ω Φ => Φ d ω
theorem dv (i : Nat) {x : Str} {pos : Pos} (hN : X.N[i]? = some x := by rfl) (hv : Vis X.env.scope x := by first | exact Or.inl rfl | exact Or.inr (Or.inl rfl) | exact Or.inr (Or.inr rfl)) (hd : (x == ("__debug__" : Str)) = false := by decide) (hcd : (x == ("__classdict__" : Str)) = false := by decide) : DE X E (.Name x pos) (dVar i) :=
  de_of (pv i hN hv hd hcd) fun σ H Q ⟨F, G, ω, ρ, Φ, ξ, s, r, h, k, _⟩ => by
    obtain ⟨d, h1, h2⟩ := getK_at h
    obtain ⟨v, h3, h4⟩ := r.2 i d h1
    exact ⟨v, h3, k v d ω G H h2 (Ex.refl G) s h4⟩
/-- a value that is no object -/
inductive AtV : V → D → Prop where
  | non : AtV .non .non
  | bl (b : Bool) : AtV (.bl b) (.bl b)
  | int (i : Int) : AtV (.int i) (.int i)
  | str (s : Str) : AtV (.str s) (.str s)
  | ty (n : String) : AtV (.ty n) (.ty n)
theorem AtV.rep {K : PySem.W.Frag} {G : Hp} {v : V} {d : D} (h : AtV v d) : Rep K G v d := by
  cases h with
  | non => exact .non
  | bl b => exact .bl
  | int i => exact .int
  | str s => exact .str
  | ty n => exact .ty
theorem de_c {e : Expr} {v : V} {d : D} (h : PE X e (tC v)) (a : AtV v d) : DE X E e (dC d) := de_of h fun σ H Q ⟨F, G, ω, ρ, Φ, ξ, s, r, h, k, _⟩ => k v d ω G H h (Ex.refl G) s a.rep
theorem de_int {i : Int} {kk} {pos : Pos} : DE X E (.Constant (.int i) kk pos) (dC (.int i)) := de_c pe_int (.int i)
theorem de_bl {b : Bool} {kk} {pos : Pos} : DE X E (.Constant (.bool b) kk pos) (dC (.bl b)) := de_c pe_bl (.bl b)
theorem de_non {kk} {pos : Pos} : DE X E (.Constant .none kk pos) (dC .non) := de_c pe_non .non
theorem de_str {x : Str} {kk} {pos : Pos} : DE X E (.Constant (.str x) kk pos) (dC (.str x)) := de_c pe_str (.str x)
theorem de_gi {x : Str} {i : Int} {pos : Pos} (hg : Gl X x) (hm : ∃ t, X.mg x = some (.int i t)) (hd : (x == ("__debug__" : Str)) = false := by decide) : DE X E (.Name x pos) (dC (.int i)) := de_c (pe_gi hg hm hd) (.int i)
theorem de_ty {x : Str} {n : String} {pos : Pos} (h : PE X (.Name x pos) (tC (.ty n))) : DE X E (.Name x pos) (dC (.ty n)) := de_c h (.ty n)
theorem de_glob {x : Str} {pos : Pos} (h : PE X (.Name x pos) (tC (.ref (He.ga X.K x)))) : DE X E (.Name x pos) (dC (.glob x)) := de_of h fun σ H Q ⟨F, G, ω, ρ, Φ, ξ, s, r, h, k, _⟩ => k _ _ ω G H h (Ex.refl G) s .glob
/-! #### arguments -/
def dNil : RA := fun _ _ ω Φ => Φ [] ω
def dCons (da : RE) (dr : RA) : RA := fun ξ ρ ω Φ => da ξ ρ ω fun x ω1 => dr ξ ρ ω1 fun xs ω2 => Φ (x :: xs) ω2
theorem da_nil : DA X E [] dNil := da_of pa_nil fun σ H Q ⟨F, G, ω, ρ, Φ, ξ, s, r, h, k, _⟩ => k [] [] ω G H h (Ex.refl G) s .nil
/-- an expression, then what is asked with its value -/
theorem low_then {da : RE} {K : PySem.W.Frag} {F G H : Hp} {ω : Om} {σ : L2.St} {ρ : EnvD} {ξ : XD} {Φ : D → Om → Prop} {Q : VK} (s : Sim K F G ω H) (r : RepE K G σ ρ) (x : XOk K F G ξ E) (h : da ξ ρ ω Φ) (k : ∀ v d ω' G' H', Φ d ω' → Ex G G' → Sim K F G' ω' H' → Rep K G' v d → Q v H') : lowE K E da σ H Q := ⟨F, G, ω, ρ, Φ, ξ, s, r, h, k, x⟩
theorem low_thenA {da : RA} {K : PySem.W.Frag} {F G H : Hp} {ω : Om} {σ : L2.St} {ρ : EnvD} {ξ : XD} {Φ : List D → Om → Prop} {Q : List V → Hp → Prop} (s : Sim K F G ω H) (r : RepE K G σ ρ) (x : XOk K F G ξ E) (h : da ξ ρ ω Φ) (k : ∀ v d ω' G' H', Φ d ω' → Ex G G' → Sim K F G' ω' H' → RepL K G' v d → Q v H') : lowA K E da σ H Q := ⟨F, G, ω, ρ, Φ, ξ, s, r, h, k, x⟩
theorem low_thenT {da : RT} {K : PySem.W.Frag} {F G H : Hp} {ω : Om} {σ : L2.St} {ρ : EnvD} {ξ : XD} {Φ : Bool → Om → Prop} {Q : Bool → Hp → Prop} (s : Sim K F G ω H) (r : RepE K G σ ρ) (x : XOk K F G ξ E) (h : da ξ ρ ω Φ) (k : ∀ d ω' G' H', Φ d ω' → Ex G G' → Sim K F G' ω' H' → Q d H') : lowT K E da σ H Q := ⟨F, G, ω, ρ, Φ, ξ, s, r, h, k, x⟩
theorem low_thenO {da : RO} {K : PySem.W.Frag} {F G H : Hp} {ω : Om} {σ : L2.St} {ρ : EnvD} {ξ : XD} {Φ : Option Int → Om → Prop} {Q : Option Int → Hp → Prop} (s : Sim K F G ω H) (r : RepE K G σ ρ) (x : XOk K F G ξ E) (h : da ξ ρ ω Φ) (k : ∀ d ω' G' H', Φ d ω' → Ex G G' → Sim K F G' ω' H' → Q d H') : lowO K E da σ H Q := ⟨F, G, ω, ρ, Φ, ξ, s, r, h, k, x⟩
theorem low_thenS {d : RS} {K : PySem.W.Frag} {F G H : Hp} {ω : Om} {σ : L2.St} {ρ : EnvD} {ξ : XD} {Δ : EndsD} {D' : Ends} (s : Sim K F G ω H) (r : RepE K G σ ρ) (x : XOk K F G ξ E) (h : d ξ Δ ρ ω) (k : EndsOk K F G Δ D') : lowS K E d D' σ H := ⟨F, G, ω, ρ, Δ, ξ, s, r, h, k, x⟩
theorem da_cons {e : Expr} {es : List Expr} {d : RE} {dr : RA} (h1 : DE X E e d) (h2 : DA X E es dr) (hs : starEach (e :: es) X.env = (false, eval e X.env) :: starEach es X.env := by rfl) : DA X E (e :: es) (dCons d dr) :=
  da_of (pa_cons h1 h2 hs) fun σ H Q ⟨F, G, ω, ρ, Φ, ξ, s, r, h, k, x⟩ => low_then s r x h fun v d ω1 G1 H1 h1 e1 s1 r1 => low_thenA s1 (r.ext e1) (x.mono e1) h1 fun vs ds ω2 G2 H2 h2 e2 s2 r2 => k _ _ ω2 G2 H2 h2 (e1.trans e2) s2 (.cons (r1.ext e2) r2)
/-! #### operators -/
abbrev RR2 := D → D → Om → (D → Om → Prop) → Prop
def dOp (r : RR2) (da db : RE) : RE := fun ξ ρ ω Φ => da ξ ρ ω fun x ω1 => db ξ ρ ω1 fun y ω2 => r x y ω2 Φ
/-- what an operation on values is, told by data -/
def OpOk (K : PySem.W.Frag) (r : R2) (rd : RR2) : Prop := ∀ F G ω H x y dx dy Φ Q, Sim K F G ω H → Rep K G x dx → Rep K G y dy → rd dx dy ω Φ → Kont K F G Φ Q → r x y H Q
theorem op_low {a b : RE} {r : R2} {rd : RR2} (ok : OpOk X.K r rd) : ∀ σ H Q, lowE X.K E (dOp rd a b) σ H Q → tOp r (lowE X.K E a) (lowE X.K E b) σ H Q := fun σ H Q ⟨F, G, ω, ρ, Φ, ξ, s, r, h, k, x⟩ =>
  low_then s r x h fun v d ω1 G1 H1 h1 e1 s1 r1 => low_then s1 (r.ext e1) (x.mono e1) h1 fun u d2 ω2 G2 H2 h2 e2 s2 r2 => ok F G2 ω2 H2 v u d d2 Φ Q s2 (r1.ext e2) r2 h2 (k.mono (e1.trans e2))
theorem de_op {a b : Expr} {op : Operator} {pos : Pos} {r : R2} {rd : RR2} {da db : RE} (ho : OpR X (binaryOp op) r) (ok : OpOk X.K r rd) (ha : DE X E a da) (hb : DE X E b db) : DE X E (.BinOp a op b pos) (dOp rd da db) := de_of (pe_op ho ha hb) (op_low ok)
theorem de_cmp {a b : Expr} {op : CmpOp} {pos : Pos} {r : R2} {rd : RR2} {da db : RE} (ho : OpR X (compareOp op) r) (ok : OpOk X.K r rd) (ha : DE X E a da) (hb : DE X E b db) (hm : behindInMarks op b = false) : DE X E (.Compare a [op] [b] pos) (dOp rd da db) := de_of (pe_cmpR ho ha hb hm) (op_low ok)
theorem de_ix {a b : Expr} {pos : Pos} {r : R2} {rd : RR2} {da db : RE} (ho : IxR X r) (ok : OpOk X.K r rd) (ha : DE X E a da) (hb : DE X E b db) (hm : PlainIx b) : DE X E (.Subscript a b pos) (dOp rd da db) := de_of (pe_ix ho ha hb hm) (op_low ok)
/-- a value that is a bool, as a test -/
def dTest (d : RE) : RT := fun ξ ρ ω Φ => d ξ ρ ω fun x ω1 => match x with | .bl b => Φ b ω1 | _ => False
theorem test_low {d : RE} {K : PySem.W.Frag} : ∀ σ H Q, lowT K E (dTest d) σ H Q → tTest (lowE K E d) σ H Q := fun σ H Q ⟨F, G, ω, ρ, Φ, ξ, s, r, h, k, x⟩ =>
  low_then s r x h fun v d ω1 G1 H1 h1 e1 s1 r1 => by
    cases d with
    | bl b => exact ⟨b, r1.invB, k b ω1 G1 H1 h1 e1 s1⟩
    | _ => exact h1.elim
theorem tTest_mono {t u : TE} (h : ∀ σ H Q, t σ H Q → u σ H Q) : ∀ σ H Q, tTest t σ H Q → tTest u σ H Q := fun σ H Q q => h σ H _ q
theorem dt_cmp {a b : Expr} {op : CmpOp} {pos : Pos} {r : R2} {rd : RR2} {da db : RE} (ho : OpR X (compareOp op) r) (ok : OpOk X.K r rd) (ha : DE X E a da) (hb : DE X E b db) (hm : behindInMarks op b = false) : DT X E (.Compare a [op] [b] pos) (dTest (dOp rd da db)) :=
  dt_of (pt_cmpR ho ha hb hm) fun σ H Q q => tTest_mono (op_low ok) σ H Q (test_low σ H Q q)
theorem dt_val {e : Expr} {d : RE} (h : DE X E e d) (he : ∀ whole, isTrue e X.env whole = (do let v ← whole; standAt e.pos; holding [v] (truthy v)) := by intro _; rfl) : DT X E e (dTest d) := dt_of (pt_val h he) fun σ H Q q => test_low σ H Q q
def dAnd (t u : RT) : RT := fun ξ ρ ω Φ => t ξ ρ ω fun b ω1 => (b = true → u ξ ρ ω1 Φ) ∧ (b = false → Φ false ω1)
def dOr (t u : RT) : RT := fun ξ ρ ω Φ => t ξ ρ ω fun b ω1 => (b = true → Φ true ω1) ∧ (b = false → u ξ ρ ω1 Φ)
def dNot (t : RT) : RT := fun ξ ρ ω Φ => t ξ ρ ω fun b ω1 => Φ (!b) ω1
section
variable {a b : Expr} {rest : List Expr} {pos : Pos} {t u : RT}
theorem DW.dt {e : Expr} {d : RT} (h : DW X E e d) : DT X E e d := PW.pt h
theorem dw_and1 (h : DT X E a t) : DW X E (.BoolOp .And [a] pos) t := pw_and1 h
theorem dw_or1 (h : DT X E a t) : DW X E (.BoolOp .Or [a] pos) t := pw_or1 h
theorem dw_and (h1 : DT X E a t) (h2 : DW X E (.BoolOp .And (b :: rest) pos) u) : DW X E (.BoolOp .And (a :: b :: rest) pos) (dAnd t u) := dw_of (pw_and h1 h2) fun σ H Q ⟨F, G, ω, ρ, Φ, ξ, s, r, h, k, x⟩ =>
  low_thenT s r x h fun c ω1 G1 H1 h1 e1 s1 => by
    cases c with
    | true => exact low_thenT s1 (r.ext e1) (x.mono e1) (h1.1 rfl) fun c ω2 G2 H2 h2 e2 s2 => k c ω2 G2 H2 h2 (e1.trans e2) s2
    | false => exact k false ω1 G1 H1 (h1.2 rfl) e1 s1
theorem dw_or (h1 : DT X E a t) (h2 : DW X E (.BoolOp .Or (b :: rest) pos) u) : DW X E (.BoolOp .Or (a :: b :: rest) pos) (dOr t u) := dw_of (pw_or h1 h2) fun σ H Q ⟨F, G, ω, ρ, Φ, ξ, s, r, h, k, x⟩ =>
  low_thenT s r x h fun c ω1 G1 H1 h1 e1 s1 => by
    cases c with
    | true => exact k true ω1 G1 H1 (h1.1 rfl) e1 s1
    | false => exact low_thenT s1 (r.ext e1) (x.mono e1) (h1.2 rfl) fun c ω2 G2 H2 h2 e2 s2 => k c ω2 G2 H2 h2 (e1.trans e2) s2
theorem dt_not (h1 : DT X E a t) : DT X E (.UnaryOp .Not a pos) (dNot t) := dt_of (pt_not h1) fun σ H Q ⟨F, G, ω, ρ, Φ, ξ, s, r, h, k, x⟩ =>
  low_thenT s r x h fun c ω1 G1 H1 h1 e1 s1 => k (!c) ω1 G1 H1 h1 e1 s1
def dAndV (da db : RE) : RE := fun ξ ρ ω Φ => da ξ ρ ω fun x ω1 => match x with | .bl b => (b = true → db ξ ρ ω1 Φ) ∧ (b = false → Φ (.bl false) ω1) | _ => False
def dOrV (da db : RE) : RE := fun ξ ρ ω Φ => da ξ ρ ω fun x ω1 => match x with | .bl b => (b = true → Φ (.bl true) ω1) ∧ (b = false → db ξ ρ ω1 Φ) | _ => False
def dNotV (da : RE) : RE := fun ξ ρ ω Φ => da ξ ρ ω fun x ω1 => match x with | .bl b => Φ (.bl (!b)) ω1 | _ => False
variable {da db : RE}
theorem de_one {op : BoolOp} (h : DE X E a da) : DE X E (.BoolOp op [a] pos) da := pe_one h
theorem de_and (h1 : DE X E a da) (h2 : DE X E (.BoolOp .And (b :: rest) pos) db) : DE X E (.BoolOp .And (a :: b :: rest) pos) (dAndV da db) := de_of (pe_and h1 h2) fun σ H Q ⟨F, G, ω, ρ, Φ, ξ, s, r, h, k, x⟩ =>
  low_then s r x h fun v d ω1 G1 H1 h1 e1 s1 r1 => by
    cases d with
    | bl c =>
      refine ⟨c, r1.invB, ?_⟩
      cases c with
      | true => exact low_then s1 (r.ext e1) (x.mono e1) (h1.1 rfl) fun v d ω2 G2 H2 h2 e2 s2 r2 => k v d ω2 G2 H2 h2 (e1.trans e2) s2 r2
      | false => exact k _ _ ω1 G1 H1 (h1.2 rfl) e1 s1 .bl
    | _ => exact h1.elim
theorem de_or (h1 : DE X E a da) (h2 : DE X E (.BoolOp .Or (b :: rest) pos) db) : DE X E (.BoolOp .Or (a :: b :: rest) pos) (dOrV da db) := de_of (pe_or h1 h2) fun σ H Q ⟨F, G, ω, ρ, Φ, ξ, s, r, h, k, x⟩ =>
  low_then s r x h fun v d ω1 G1 H1 h1 e1 s1 r1 => by
    cases d with
    | bl c =>
      refine ⟨c, r1.invB, ?_⟩
      cases c with
      | true => exact k _ _ ω1 G1 H1 (h1.1 rfl) e1 s1 .bl
      | false => exact low_then s1 (r.ext e1) (x.mono e1) (h1.2 rfl) fun v d ω2 G2 H2 h2 e2 s2 r2 => k v d ω2 G2 H2 h2 (e1.trans e2) s2 r2
    | _ => exact h1.elim
theorem de_not (h1 : DE X E a da) : DE X E (.UnaryOp .Not a pos) (dNotV da) := de_of (pe_not h1) fun σ H Q ⟨F, G, ω, ρ, Φ, ξ, s, r, h, k, x⟩ =>
  low_then s r x h fun v d ω1 G1 H1 h1 e1 s1 r1 => by
    cases d with
    | bl c => exact ⟨c, r1.invB, k _ _ ω1 G1 H1 h1 e1 s1 .bl⟩
    | _ => exact h1.elim
def dIf (t : RT) (da db : RE) : RE := fun ξ ρ ω Φ => t ξ ρ ω fun b ω1 => (b = true → da ξ ρ ω1 Φ) ∧ (b = false → db ξ ρ ω1 Φ)
theorem de_if {c : Expr} (hc : DT X E c t) (h1 : DE X E a da) (h2 : DE X E b db) : DE X E (.IfExp c a b pos) (dIf t da db) := de_of (pe_ifExp hc h1 h2) fun σ H Q ⟨F, G, ω, ρ, Φ, ξ, s, r, h, k, x⟩ =>
  low_thenT s r x h fun c ω1 G1 H1 h1 e1 s1 => by
    cases c with
    | true => exact low_then s1 (r.ext e1) (x.mono e1) (h1.1 rfl) fun v d ω2 G2 H2 h2 e2 s2 r2 => k v d ω2 G2 H2 h2 (e1.trans e2) s2 r2
    | false => exact low_then s1 (r.ext e1) (x.mono e1) (h1.2 rfl) fun v d ω2 G2 H2 h2 e2 s2 r2 => k v d ω2 G2 H2 h2 (e1.trans e2) s2 r2
end
/-! #### tuples and lists made -/
def dTup (t : RA) : RE := fun ξ ρ ω Φ => t ξ ρ ω fun xs ω1 => xs.length ≤ 100000 ∧ Φ (.tup xs) ω1
def dLst (t : RA) : RE := fun ξ ρ ω Φ => t ξ ρ ω fun xs ω1 => xs.length ≤ 100000 ∧ Φ (.lst xs) ω1
/-- .. that may change -/
def dLstM (t : RA) : RE := fun ξ ρ ω Φ => t ξ ρ ω fun xs ω1 => xs.length ≤ 100000 ∧ ∀ p, ω1 p = none → Φ (.mref p) (ω1.put p (.lst xs))
theorem de_tup {es : List Expr} {d : RA} {pos : Pos} {x1} (h : DA X E es d) : DE X E (.Tuple es x1 pos) (dTup d) := de_of (pe_tup h) fun σ H Q ⟨F, G, ω, ρ, Φ, ξ, s, r, h, k, x⟩ =>
  low_thenA s r x h fun vs ds ω1 G1 H1 h1 e1 s1 r1 => ⟨sz_of (by rw [r1.len]; exact h1.1), fun p hp => by
    have hG := (s1.freshF hp).2.1
    exact k _ _ ω1 _ _ h1.2 (e1.trans (Ex.new hG)) (s1.new trivial hp) (.mkT upd_same (r1.ext (Ex.new hG)))⟩
theorem de_lst {es : List Expr} {d : RA} {pos : Pos} (h : DA X E es d) : DE X E (.List es pos) (dLst d) := de_of (pe_lst h) fun σ H Q ⟨F, G, ω, ρ, Φ, ξ, s, r, h, k, x⟩ =>
  low_thenA s r x h fun vs ds ω1 G1 H1 h1 e1 s1 r1 => ⟨sz_of (by rw [r1.len]; exact h1.1), fun p hp => by
    have hG := (s1.freshF hp).2.1
    exact k _ _ ω1 _ _ h1.2 (e1.trans (Ex.new hG)) (s1.new trivial hp) (.mkL upd_same (r1.ext (Ex.new hG)))⟩
theorem de_lstM {es : List Expr} {d : RA} {pos : Pos} (h : DA X E es d) : DE X E (.List es pos) (dLstM d) := de_of (pe_lst h) fun σ H Q ⟨F, G, ω, ρ, Φ, ξ, s, r, h, k, x⟩ =>
  low_thenA s r x h fun vs ds ω1 G1 H1 h1 e1 s1 r1 => ⟨sz_of (by rw [r1.len]; exact h1.1), fun p hp => k _ _ _ _ _ (h1.2 p (s1.freshF hp).2.2) e1 (s1.newM r1 hp) .mref⟩
/-! #### calls of defs -/
def spD (K : PySem.W.Frag) (S : SD) : Sp := fun vs H Q E => ∃ F G ω ds Φ ξ, Sim K F G ω H ∧ RepL K G vs ds ∧ S ξ ds ω Φ ∧ Kont K F G Φ Q ∧ XOk K F G ξ E
def dCall (S : SD) (da : RA) : RE := fun ξ ρ ω Φ => da ξ ρ ω fun ds ω1 => S ξ ds ω1 Φ
theorem call_low {S : SD} {da : RA} {K : PySem.W.Frag} : ∀ σ H Q, lowE K E (dCall S da) σ H Q → tCallR (spD K S) E (lowA K E da) σ H Q := fun σ H Q ⟨F, G, ω, ρ, Φ, ξ, s, r, h, k, x⟩ =>
  low_thenA s r x h fun vs ds ω1 G1 H1 h1 e1 s1 r1 => ⟨F, G1, ω1, ds, Φ, ξ, s1, r1, h1, k.mono e1, x.mono e1⟩
theorem de_call {k : Nat} {f : Addr} {S : SD} {x : Str} {p pos : Pos} {e : Expr} {es : List Expr} {da : RA} (F : FnR X.prog X.w X.K X.mg X.base (L2.CX X.prog X.w) k f (spD X.K S)) (hr : Room k X.A) (hg : Gl X x) (hm : X.mg x = some (.ref f)) (hk : PySem.W.keepIn X.K (.ref f) = true) (hx : Passes (L2.CX X.prog X.w) X E)
    (ha : DA X E (e :: es) da) (hdb : (x == ("__debug__" : Str)) = false := by decide) (he : starEach (e :: es) X.env = (false, eval e X.env) :: starEach es X.env := by rfl) (hpl : (backTo pos (starEach es X.env)).any (·.1) = false := by rfl) : DE X E (.Call (.Name x p) (e :: es) [] pos) (dCall S da) :=
  de_of (pe_callR F hr hg hm hk hx ha hdb he hpl) call_low
theorem de_call0 {k : Nat} {f : Addr} {S : SD} {x : Str} {p pos : Pos} (F : FnR X.prog X.w X.K X.mg X.base (L2.CX X.prog X.w) k f (spD X.K S)) (hr : Room k X.A) (hg : Gl X x) (hm : X.mg x = some (.ref f)) (hk : PySem.W.keepIn X.K (.ref f) = true) (hx : Passes (L2.CX X.prog X.w) X E) (hdb : (x == ("__debug__" : Str)) = false := by decide) :
    DE X E (.Call (.Name x p) [] [] pos) (dCall S dNil) :=
  de_of (pe_callR0 F hr hg hm hk hx hdb) fun σ H Q ⟨F, G, ω, ρ, Φ, ξ, s, r, h, k, x⟩ => ⟨F, G, ω, [], Φ, ξ, s, .nil, h, k, x⟩
/-- calls of built-ins, by values -/
abbrev RC1 := List D → Om → (D → Om → Prop) → Prop
def dCB (r : RC1) (da : RA) : RE := fun ξ ρ ω Φ => da ξ ρ ω fun ds ω1 => r ds ω1 Φ
def CallOk (K : PySem.W.Frag) (r : List V → Hp → VK → Prop) (rd : RC1) : Prop := ∀ F G ω H vs ds Φ Q, Sim K F G ω H → RepL K G vs ds → rd ds ω Φ → Kont K F G Φ Q → r vs H Q
theorem cb_low {r : List V → Hp → VK → Prop} {rd : RC1} {da : RA} {K : PySem.W.Frag} (ok : CallOk K r rd) : ∀ σ H Q, lowE K E (dCB rd da) σ H Q → tCB r (lowA K E da) σ H Q := fun σ H Q ⟨F, G, ω, ρ, Φ, ξ, s, r, h, k, x⟩ =>
  low_thenA s r x h fun vs ds ω1 G1 H1 h1 e1 s1 r1 => ok F G1 ω1 H1 vs ds Φ Q s1 r1 h1 (k.mono e1)
theorem de_callB {id : String} {x : Str} {p pos : Pos} {e : Expr} {es : List Expr} {r : List V → Hp → VK → Prop} {rd : RC1} {da : RA} (hc : CallR X (.builtin id) r) (ok : CallOk X.K r rd) (hg : Gl X x) (hm : X.mg x = none) (hv : bootBuiltins x = some (.builtin id)) (ha : DA X E (e :: es) da) (hn : x ≠ "__name__" := by decide) (hdb : (x == ("__debug__" : Str)) = false := by decide)
    (he : starEach (e :: es) X.env = (false, eval e X.env) :: starEach es X.env := by rfl) (hpl : (backTo pos (starEach es X.env)).any (·.1) = false := by rfl) : DE X E (.Call (.Name x p) (e :: es) [] pos) (dCB rd da) := de_of (pe_callB hc hg hm hv ha hn hdb he hpl) (cb_low ok)
theorem de_callTy {T : String} {x : Str} {p pos : Pos} {e : Expr} {es : List Expr} {r : List V → Hp → VK → Prop} {rd : RC1} {da : RA} (hc : CallR X (.type T) r) (ok : CallOk X.K r rd) (hg : Gl X x) (hm : X.mg x = none) (hv : bootBuiltins x = some (.type T)) (ha : DA X E (e :: es) da) (hn : x ≠ "__name__" := by decide) (hdb : (x == ("__debug__" : Str)) = false := by decide)
    (he : starEach (e :: es) X.env = (false, eval e X.env) :: starEach es X.env := by rfl) (hpl : (backTo pos (starEach es X.env)).any (·.1) = false := by rfl) : DE X E (.Call (.Name x p) (e :: es) [] pos) (dCB rd da) := de_of (pe_callTy hc hg hm hv ha hn hdb he hpl) (cb_low ok)
end
end Cu

/-! == DD -/
set_option maxHeartbeats 4000000
namespace Cu
open PySem PySem.Spec PyProof.Rows L2 Evl CuT
/-! ### statements -/
def dNext : RS := fun _ Δ ρ ω => Δ.nx ρ ω
def dSeq (t u : RS) : RS := fun ξ Δ ρ ω => t ξ { Δ with nx := fun ρ' ω' => u ξ Δ ρ' ω' } ρ ω
def dRet (d : RE) : RS := fun ξ Δ ρ ω => d ξ ρ ω Δ.rt
def dBreak : RS := fun _ Δ ρ ω => Δ.bk ρ ω
def dCont : RS := fun _ Δ ρ ω => Δ.ct ρ ω
def dDrop (d : RE) : RS := fun ξ Δ ρ ω => d ξ ρ ω fun _ ω1 => Δ.nx ρ ω1
def dIfS (c : RT) (t u : RS) : RS := fun ξ Δ ρ ω => c ξ ρ ω fun b ω1 => (b = true → t ξ Δ ρ ω1) ∧ (b = false → u ξ Δ ρ ω1)
def dNever : RS := fun _ _ _ _ => False
/-- targets -/
inductive Tg where
  | nm (j : Nat)
  | tp (ts : List Tg)
mutual
def Tg.put : Tg → D → EnvD → Option EnvD
  | .nm j, d, ρ => some (ρ.set j (some d))
  | .tp ts, .tup ds, ρ => Tg.puts ts ds ρ
  | .tp _, _, _ => none
def Tg.puts : List Tg → List D → EnvD → Option EnvD
  | [], [], ρ => some ρ
  | t :: ts, d :: ds, ρ => match Tg.put t d ρ with
    | some ρ' => Tg.puts ts ds ρ'
    | none => none
  | _, _, _ => none
end
theorem put_nm {j : Nat} {d : D} {ρ : EnvD} : Tg.put (.nm j) d ρ = some (ρ.set j (some d)) := by rw [Tg.put]
theorem put_tp {ts : List Tg} {ds : List D} {ρ : EnvD} : Tg.put (.tp ts) (.tup ds) ρ = Tg.puts ts ds ρ := by rw [Tg.put]
theorem puts_nil {ρ : EnvD} : Tg.puts [] [] ρ = some ρ := by rw [Tg.puts]
theorem puts_cons {t : Tg} {ts : List Tg} {d : D} {ds : List D} {ρ : EnvD} : Tg.puts (t :: ts) (d :: ds) ρ = match Tg.put t d ρ with
    | some ρ' => Tg.puts ts ds ρ'
    | none => none := by rw [Tg.puts]
def onS {α : Type} (o : Option α) (k : α → Prop) : Prop := match o with
  | some a => k a
  | none => False
mutual
def Tg.slots : Tg → List Nat
  | .nm j => [j]
  | .tp ts => Tg.slotsL ts
def Tg.slotsL : List Tg → List Nat
  | [] => []
  | t :: ts => Tg.slots t ++ Tg.slotsL ts
end
/-- the slots outside of js are as they were -/
def SameO (js : List Nat) (σ σ' : L2.St) : Prop := σ'.length = σ.length ∧ ∀ i, i ∉ js → σ'[i]? = σ[i]?
theorem SameO.refl {js : List Nat} {σ : L2.St} : SameO js σ σ := ⟨rfl, fun _ _ => rfl⟩
theorem SameO.trans {js : List Nat} {σ σ' σ2 : L2.St} (a : SameO js σ σ') (b : SameO js σ' σ2) : SameO js σ σ2 := ⟨b.1.trans a.1, fun i h => (b.2 i h).trans (a.2 i h)⟩
theorem SameO.mono {js ks : List Nat} {σ σ' : L2.St} (a : SameO js σ σ') (h : ∀ i ∈ js, i ∈ ks) : SameO ks σ σ' := ⟨a.1, fun i hi => a.2 i fun z => hi (h i z)⟩
theorem SameO.set {j : Nat} {σ : L2.St} {v : Option V} : SameO [j] σ (σ.set j v) := ⟨List.length_set, fun i h => List.getElem?_set_ne (fun e => h (by rw [e]; exact List.mem_singleton.mpr rfl))⟩
def lowG (K : PySem.W.Frag) (t : Tg) : TG := fun v σ H Q => ∃ F G ω ρ d κ, Sim K F G ω H ∧ RepE K G σ ρ ∧ Rep K G v d ∧ onS (t.put d ρ) κ ∧ ∀ σ' ρ', κ ρ' → RepE K G σ' ρ' → SameO t.slots σ σ' → Q σ' H
def lowGs (K : PySem.W.Frag) (ts : List Tg) : TGs := fun vs σ H Q => ∃ F G ω ρ ds κ, Sim K F G ω H ∧ RepE K G σ ρ ∧ RepL K G vs ds ∧ onS (Tg.puts ts ds ρ) κ ∧ ∀ σ' ρ', κ ρ' → RepE K G σ' ρ' → SameO (Tg.slotsL ts) σ σ' → Q σ' H
def DG (X : Cx) (e : Expr) (t : Tg) : Prop := PG X e (lowG X.K t)
def DGs (X : Cx) (es : List Expr) (ts : List Tg) : Prop := PGs X es (lowGs X.K ts)
section
variable {X : Cx} {E : XK} {pos : Pos}
theorem dg_of {e : Expr} {t : Tg} {g : TG} (h : PG X e g) (r : ∀ v σ H Q, lowG X.K t v σ H Q → g v σ H Q) : DG X e t := ⟨fun pins s σ H v u Q I rr q => h.run pins s σ H v u Q I rr (r v σ H Q q)⟩
theorem dgs_of {e : List Expr} {t : List Tg} {g : TGs} (h : PGs X e g) (r : ∀ v σ H Q, lowGs X.K t v σ H Q → g v σ H Q) : DGs X e t := ⟨fun pins s σ H v u Q I rr q => h.run pins s σ H v u Q I rr (r v σ H Q q)⟩
theorem dg_name {i : Nat} {x : Str} (hN : X.N.Nodup) (hi : X.N[i]? = some x) (hx : Loc X.env.scope x) (hf : X.fn x = true ∨ X.env.scope.names.lookup x = some .local := by first | exact .inl rfl | exact .inr rfl | assumption) : DG X (.Name x pos) (.nm i) :=
  dg_of (pg_name (i := i) hN hi hx hf) fun v σ H Q ⟨F, G, ω, ρ, d, κ, s, r, rv, h, k⟩ => by
    rw [Tg.put] at h
    exact k _ _ h (r.set rv i) SameO.set
theorem dgs_nil : DGs X [] [] := dgs_of pgs_nil fun v σ H Q ⟨F, G, ω, ρ, ds, κ, s, r, rv, h, k⟩ => by
  cases ds with
  | nil =>
    rw [Tg.puts] at h
    exact ⟨rv.nilInv, k _ _ h r SameO.refl⟩
  | cons d ds => exact (by simp [Tg.puts, onS] at h : False).elim
theorem dgs_cons {e : Expr} {es : List Expr} {t : Tg} {ts : List Tg} (h1 : DG X e t) (h2 : DGs X es ts) (hs : (assignEach (e :: es) X.env).map (·.2) = assign e X.env :: (assignEach es X.env).map (·.2) := by rfl) : DGs X (e :: es) (t :: ts) :=
  dgs_of (pgs_cons h1 h2 hs) fun v σ H Q ⟨F, G, ω, ρ, ds, κ, s, r, rv, h, k⟩ => by
    cases ds with
    | nil => exact (by simp [Tg.puts, onS] at h : False).elim
    | cons d ds =>
      obtain ⟨x, xr, e, hx, hr⟩ := rv.consInv
      rw [Tg.puts] at h
      cases hp : t.put d ρ with
      | none =>
        rw [hp] at h
        exact h.elim
      | some ρ0 =>
        rw [hp] at h
        refine ⟨x, xr, e, F, G, ω, ρ, d, fun ρ1 => ρ1 = ρ0, s, r, hx, ?_, fun σ1 ρ1 k1 r1 o1 => ⟨F, G, ω, ρ1, ds, κ, s, r1, hr, ?_, fun σ2 ρ2 k2 r2 o2 => k σ2 ρ2 k2 r2 ?_⟩⟩
        · rw [hp]
          exact rfl
        · rw [k1]
          exact h
        · rw [Tg.slotsL]
          exact (o1.mono fun i hi => List.mem_append_left _ hi).trans (o2.mono fun i hi => List.mem_append_right _ hi)
theorem puts_len : ∀ {ts : List Tg} {ds : List D} {ρ ρ' : EnvD}, Tg.puts ts ds ρ = some ρ' → ds.length = ts.length
  | [], [], _, _, _ => rfl
  | [], d :: ds, _, _, h => by simp [Tg.puts] at h
  | t :: ts, [], _, _, h => by simp [Tg.puts] at h
  | t :: ts, d :: ds, ρ, ρ', h => by
    rw [Tg.puts] at h
    cases hp : t.put d ρ with
    | none =>
      rw [hp] at h
      cases h
    | some ρ0 =>
      rw [hp] at h
      simp [puts_len (ts := ts) (ds := ds) h]
theorem dg_tup {es : List Expr} {k : Nat} {ts : List Tg} {n : Nat} (hc : X.calm = true) (h : DGs X es ts) (hn : (assignEach es X.env).length = n := by rfl) (hst : (assignEach es X.env).findIdx? (·.1) = none := by rfl) (hl : ts.length = n := by rfl) : DG X (.Tuple es k pos) (.tp ts) :=
  dg_of (pg_tup hc h hn hst) fun v σ H Q ⟨F, G, ω, ρ, d, κ, s, r, rv, h, k⟩ => by
    cases d with
    | tup ds =>
      rw [Tg.put] at h
      obtain ⟨a, xs, e, ha, hr⟩ := rv.invT
      refine ⟨a, xs, e, st_of (s.exG _ _ ha), ?_, F, G, ω, ρ, ds, κ, s, r, hr, h, fun σ' ρ' k' r' o' => k σ' ρ' k' r' (by rw [Tg.slots]; exact o')⟩
      cases hp : Tg.puts ts ds ρ with
      | none =>
        rw [hp] at h
        exact h.elim
      | some ρ0 => rw [hr.len, puts_len hp, hl]
    | _ => exact (by simp [Tg.put, onS] at h : False).elim
/-! #### blocks -/
theorem dss_nil : DSs X E [] dNext := dss_of pss_nil fun D σ H ⟨F, G, ω, ρ, Δ, ξ, s, r, h, k, x⟩ => k.nx σ ρ ω G H h (Ex.refl G) s r
theorem dss_one {st : Stmt} {d : RS} (h : DS X E st d) : DSs X E [st] d := pss_one h
theorem dss_cons {st : Stmt} {rest : List Stmt} {d u : RS} (h1 : DS X E st d) (h2 : DSs X E rest u) : DSs X E (st :: rest) (dSeq d u) := dss_of (pss_cons h1 h2) fun D σ H ⟨F, G, ω, ρ, Δ, ξ, s, r, h, k, x⟩ =>
  low_thenS s r x h ⟨fun σ1 ρ1 ω1 G1 H1 h1 e1 s1 r1 => low_thenS s1 r1 (x.mono e1) h1 (k.mono e1), k.rt, k.bk, k.ct⟩
theorem ds_ret {e : Expr} {d : RE} (h : DE X E e d) : DS X E (.Return (some e) pos) (dRet d) := ds_of (ps_ret h) fun D σ H ⟨F, G, ω, ρ, Δ, ξ, s, r, h, k, x⟩ => low_then s r x h k.rt
theorem ds_expr {e : Expr} {d : RE} (h : DE X E e d) (hs : swapsWith e none pos.line X.env = pure false := by rfl) : DS X E (.Expr e pos) (dDrop d) := ds_of (ps_expr h hs) fun D σ H ⟨F, G, ω, ρ, Δ, ξ, s, r, h, k, x⟩ => low_then s r x h fun v d ω1 G1 H1 h1 e1 s1 _ => k.nx σ ρ ω1 G1 H1 h1 e1 s1 (r.ext e1)
theorem ds_if {c : Expr} {a b : List Stmt} {t : RT} {d u : RS} (hc : DT X E c t) (ha : DSs X E a d) (hb : DSs X E b u) : DS X E (.If c a b pos) (dIfS t d u) := ds_of (ps_if hc ha hb) fun D σ H ⟨F, G, ω, ρ, Δ, ξ, s, r, h, k, x⟩ =>
  low_thenT s r x h fun c ω1 G1 H1 h1 e1 s1 => by
    cases c with
    | true => exact low_thenS s1 (r.ext e1) (x.mono e1) (h1.1 rfl) (k.mono e1)
    | false => exact low_thenS s1 (r.ext e1) (x.mono e1) (h1.2 rfl) (k.mono e1)
theorem ds_pass : DS X E (.Pass pos) dNext := ds_of ps_pass fun D σ H ⟨F, G, ω, ρ, Δ, ξ, s, r, h, k, x⟩ => k.nx σ ρ ω G H h (Ex.refl G) s r
theorem ds_break : DS X E (.Break pos) dBreak := ds_of ps_break fun D σ H ⟨F, G, ω, ρ, Δ, ξ, s, r, h, k, x⟩ => k.bk σ ρ ω G H h (Ex.refl G) s r
theorem ds_continue : DS X E (.Continue pos) dCont := ds_of ps_continue fun D σ H ⟨F, G, ω, ρ, Δ, ξ, s, r, h, k, x⟩ => k.ct σ ρ ω G H h (Ex.refl G) s r
theorem ds_never {st : Stmt} : DS X E st dNever := ds_of ps_never fun D σ H ⟨F, G, ω, ρ, Δ, ξ, s, r, h, k, x⟩ => h
/-! #### assignments -/
def dAsg (d : RE) (i : Nat) : RS := fun ξ Δ ρ ω => d ξ ρ ω fun x ω1 => Δ.nx (ρ.set i (some x)) ω1
def dAsgT (d : RE) (t : Tg) : RS := fun ξ Δ ρ ω => d ξ ρ ω fun x ω1 => onS (t.put x ρ) fun ρ' => Δ.nx ρ' ω1
theorem asg_low {d : RE} {i : Nat} {K : PySem.W.Frag} : ∀ D σ H, lowS K E (dAsg d i) D σ H → tAsg (lowE K E d) (gName i) D σ H := fun D σ H ⟨F, G, ω, ρ, Δ, ξ, s, r, h, k, x⟩ =>
  low_then s r x h fun v d ω1 G1 H1 h1 e1 s1 r1 => k.nx _ _ ω1 G1 H1 h1 e1 s1 ((r.ext e1).set r1 i)
theorem ds_set {i : Nat} {x : Str} {e : Expr} {d : RE} {pos' : Pos} (hN : X.N.Nodup) (hi : X.N[i]? = some x) (hx : Loc X.env.scope x) (he : DE X E e d) (hs : swapsWith e (some (.Name x pos')) pos.line X.env = pure false := by rfl) (hf : X.fn x = true ∨ X.env.scope.names.lookup x = some .local := by first | exact .inl rfl | exact .inr rfl | assumption) :
    DS X E (.Assign [.Name x pos'] e pos) (dAsg d i) := ds_of (ps_set hN hi hx he hs hf) asg_low
theorem ds_asg {tg e : Expr} {t : Tg} {d : RE} (he : DE X E e d) (hg : DG X tg t) (hs : swapsWithSole [tg] e pos.line X.env = pure false := by rfl) (hw : swappedStores [tg] e X.env = pure none := by rfl) (h1 : (assignEach [tg] X.env).map (·.2) = [assign tg X.env] := by rfl) : DS X E (.Assign [tg] e pos) (dAsgT d t) :=
  ds_of (ps_asg he hg hs hw h1) fun D σ H ⟨F, G, ω, ρ, Δ, ξ, s, r, h, k, x⟩ => low_then s r x h fun v d ω1 G1 H1 h1 e1 s1 r1 => ⟨F, G1, ω1, ρ, d, _, s1, r.ext e1, r1, h1, fun σ' ρ' k' r' _ => k.nx σ' ρ' ω1 G1 H1 k' e1 s1 r'⟩
def dPar (i j : Nat) (d : RA) : RS := fun ξ Δ ρ ω => d ξ ρ ω fun xs ω1 => match xs with
  | [x, y] => Δ.nx ((ρ.set i (some x)).set j (some y)) ω1
  | _ => False
theorem ds_par {i j : Nat} {x y : Str} {a b : Expr} {d : RA} {px py pt : Pos} {kt k2 pt2} (hc : X.calm = true) (hN : X.N.Nodup) (hi : X.N[i]? = some x) (hj : X.N[j]? = some y) (hij : i ≠ j)
    (hx : X.env.scope.names.lookup x = some .local) (hy : X.env.scope.names.lookup y = some .local) (ha : DA X E [a, b] d)
    (hw : swappedStores [.Tuple [.Name x px, .Name y py] kt pt] (.Tuple [a, b] k2 pt2) X.env = pure (some [x, y]))
    (hs : swapsWithSole [.Tuple [.Name x px, .Name y py] kt pt] (.Tuple [a, b] k2 pt2) pos.line X.env = pure false := by rfl) :
    DS X E (.Assign [.Tuple [.Name x px, .Name y py] kt pt] (.Tuple [a, b] k2 pt2) pos) (dPar i j d) :=
  ds_of (ps_par hc hN hi hj hij hx hy ha hw hs) fun D σ H ⟨F, G, ω, ρ, Δ, ξ, s, r, h, k, x⟩ => low_thenA s r x h fun vs ds ω1 G1 H1 h1 e1 s1 r1 => by
    match ds, r1, h1 with
    | [d1, d2], r1, h1 =>
      obtain ⟨v, r2, rfl, h3, h4⟩ := r1.consInv
      obtain ⟨w, r', rfl, h5, h6⟩ := h4.consInv
      cases h6.nilInv
      exact ⟨v, w, rfl, k.nx _ _ ω1 G1 H1 h1 e1 s1 (((r.ext e1).set h3 i).set h5 j)⟩
    | [], _, h1 => exact h1.elim
    | [_], _, h1 => exact h1.elim
    | _ :: _ :: _ :: _, _, h1 => exact h1.elim
/-! #### lists that change -/
/-- ghost: the list in slot i changes no more -/
def frzK (x : Option (Option D)) (ω : Om) : Option (Addr × List D) := match x with
  | some (some (.mref p)) => (match ω p with
    | some (.lst ds) => some (p, ds)
    | _ => none)
  | _ => none
def dFrz (i : Nat) (d : RS) : RS := fun ξ Δ ρ ω => match frzK ρ[i]? ω with
  | some z => d ξ Δ (ρ.set i (some (.lst z.2))) (ω.del z.1)
  | none => d ξ Δ ρ ω
theorem frzK_ok {x : Option (Option D)} {ω : Om} {z : Addr × List D} (h : frzK x ω = some z) : x = some (some (.mref z.1)) ∧ ω z.1 = some (.lst z.2) := by
  unfold frzK at h
  split at h
  · split at h
    · rename_i p ds hp
      cases h
      exact ⟨rfl, hp⟩
    · cases h
  · cases h
theorem dss_frz (i : Nat) {sts : List Stmt} {d : RS} (h : DSs X E sts d) : DSs X E sts (dFrz i d) := dss_of h fun D σ H ⟨F, G, ω, ρ, Δ, ξ, s, r, h, k, x⟩ => by
  unfold dFrz at h
  cases hz : frzK ρ[i]? ω with
  | none =>
    rw [hz] at h
    exact low_thenS s r x h k
  | some z =>
    rw [hz] at h
    obtain ⟨p, ds⟩ := z
    obtain ⟨h1, hp⟩ := frzK_ok hz
    obtain ⟨xs, hG, hr, s'⟩ := s.frz hp
    obtain ⟨v, h3, h4⟩ := r.2 i _ h1
    have e := Ex.new (o := .lst xs) hG
    rw [h4.invM] at h3
    have r' : RepE X.K (upd G p (.lst xs)) (σ.set i (some (.ref p))) (ρ.set i (some (.lst ds))) := (r.ext e).set (.mkL upd_same (hr.ext e)) i
    have hs : σ.set i (some (.ref p)) = σ := by
      apply List.ext_getElem?
      intro j
      by_cases hj : i = j
      · subst hj
        rw [List.getElem?_set_self (List.getElem?_eq_some_iff.mp h3).1, h3]
      · rw [List.getElem?_set_ne hj]
    rw [hs] at r'
    exact low_thenS s' r' (x.mono e) h (k.mono e)
/-- a method of a list that changes it -/
abbrev RMt := D → List D → Om → (D → Om → Prop) → Prop
def dBM (r : RMt) (d : RE) (da : RA) : RE := fun ξ ρ ω Φ => d ξ ρ ω fun x ω1 => (∃ p ds, x = .mref p ∧ ω1 p = some (.lst ds)) ∧ da ξ ρ ω1 fun xs ω2 => r x xs ω2 Φ
def MtOk (K : PySem.W.Frag) (r : V → List V → Hp → VK → Prop) (rd : RMt) : Prop := ∀ F G ω H v vs d ds Φ Q, Sim K F G ω H → Rep K G v d → RepL K G vs ds → rd d ds ω Φ → Kont K F G Φ Q → r v vs H Q
theorem tyV_list {K : PySem.W.Frag} {H : Hp} {p : Addr} {xs : List V} (h : H p = some (.lst xs)) : tyV K "list" (.ref p) H := .inl ⟨rfl, _, Or.inl (Or.inl h)⟩
theorem de_bm {id : String} {name : Str} {o e : Expr} {es : List Expr} {apos cpos : Pos} {r : V → List V → Hp → VK → Prop} {rd : RMt} {d : RE} {da : RA} (pa : PlainAttrs "list") (slot : Slot "list" name id) (hty : typeOf (.builtin id) = pure (.type "method_descriptor")) (hm : MtR X id r) (ok : MtOk X.K r rd) (ho : DE X E o d) (ha : DA X E (e :: es) da)
    (hbase : attributeBase o name X.env (eval o X.env) = eval o X.env := by rfl)
    (hfew : ((backTo cpos (starEach (e :: es) X.env)).all (fun x => !x.1) && (backToKw cpos (keywordEach [] X.env)).all (fun x => x.1.isSome)
      && decide ((e :: es).length + ([] : List Keyword).length + (if ([] : List Keyword).isEmpty then 0 else 1) < 30)) = true := by rfl)
    (hline : (apos.endLine == cpos.line) = true := by rfl) (hs : starEach (e :: es) X.env = (false, eval e X.env) :: starEach es X.env := by rfl) (hplain : (backTo cpos (starEach es X.env)).any (·.1) = false := by rfl) : DE X E (.Call (.Attribute o name apos) (e :: es) [] cpos) (dBM rd d da) :=
  de_of (pe_bm pa slot hty hm ho ha hbase hfew hline hs hplain) fun σ H Q ⟨F, G, ω, ρ, Φ, ξ, s, r, h, k, x⟩ => low_then s r x h fun v d ω1 G1 H1 h1 e1 s1 r1 => by
    obtain ⟨⟨p, ds, rfl, hp⟩, h1⟩ := h1
    obtain ⟨xs, hx, _⟩ := s1.isL hp
    cases r1.invM
    exact ⟨tyV_list hx, low_thenA s1 (r.ext e1) (x.mono e1) h1 fun vs ds ω2 G2 H2 h2 e2 s2 r2 => ok F G2 ω2 H2 _ _ _ _ Φ Q s2 .mref r2 h2 (k.mono (e1.trans e2))⟩
def mAppend : RMt := fun x ys ω Φ => match x, ys with
  | .mref p, [y] => (match ω p with
    | some (.lst ds) => ds.length < 100000 ∧ Φ .non (ω.put p (.lst (ds ++ [y])))
    | _ => False)
  | _, _ => False
theorem omL {ω : Om} {p : Addr} {A : List D → Prop} (h : match ω p with | some (.lst ds) => A ds | _ => False) : ∃ ds, ω p = some (.lst ds) ∧ A ds := by
  cases hp : ω p with
  | none => rw [hp] at h; exact h.elim
  | some c =>
    rw [hp] at h
    cases c with
    | lst ds => exact ⟨ds, rfl, h⟩
    | ins c fs => exact h.elim
    | _ => exact h.elim
theorem ok_append {K : PySem.W.Frag} : MtOk K rAppend mAppend := fun F G ω H v vs d ds Φ Q s rv rs h k => by
  cases d with
  | mref p =>
    match ds, rs, h with
    | [y], rs, h =>
      obtain ⟨ds, hp, hl, h⟩ := omL h
      obtain ⟨u, r', rfl, ha, hb⟩ := rs.consInv
      cases hb.nilInv
      obtain ⟨xs, hx, hr, hG, hF⟩ := s.isL hp
      exact ⟨p, xs, u, rv.invM, rfl, hx, sz_lt (by rw [hr.len]; exact hl), k _ _ _ G _ h (Ex.refl G) (s.write hp (hr.snoc ha)) .non⟩
    | [], _, h => exact h.elim
    | _ :: _ :: _, _, h => exact h.elim
  | _ => exact h.elim
/-- xs.extend(ys), ys a list that does not change -/
def mExtend : RMt := fun x ys ω Φ => match x, ys with
  | .mref p, [.lst es] => (match ω p with
    | some (.lst ds) => ds.length + es.length ≤ 100000 ∧ Φ .non (ω.put p (.lst (ds ++ es)))
    | _ => False)
  | _, _ => False
theorem ok_extend {K : PySem.W.Frag} : MtOk K rExtend mExtend := fun F G ω H v vs d ds Φ Q s rv rs h k => by
  cases d with
  | mref p =>
    match ds, rs, h with
    | [.lst es], rs, h =>
      obtain ⟨ds, hp, hl, h⟩ := omL h
      obtain ⟨u, r', rfl, ha, hb⟩ := rs.consInv
      cases hb.nilInv
      obtain ⟨b, zs, rfl, hz, hzr⟩ := ha.invL
      obtain ⟨xs, hx, hr, hG, hF⟩ := s.isL hp
      exact ⟨p, b, xs, zs, rv.invM, rfl, hx, s.exG _ _ hz, sz_of (by rw [hr.len, hzr.len]; exact hl), k _ _ _ G _ h (Ex.refl G) (s.write hp (hr.append hzr)) .non⟩
  | _ => exact h.elim
/-- xs[i] = e of a list that changes -/
def dSetI (d : RE) (i : Nat) (di : RE) : RS := fun ξ Δ ρ ω => d ξ ρ ω fun y ω1 => dVar i ξ ρ ω1 fun x ω2 => di ξ ρ ω2 fun z ω3 => match x, z with
  | .mref p, .int j => (match ω3 p with
    | some (.lst ds) => onS (ixN ds.length j) fun n => Δ.nx ρ (ω3.put p (.lst (ds.set n y)))
    | _ => False)
  | _, _ => False
theorem ds_setI {i : Nat} {o ie e : Expr} {d di : RE} {spos : Pos} {g : TG} (hg : PG X (.Subscript o ie spos) (gSub (lowE X.K E (dVar i)) (lowE X.K E di) rSetL)) (he : DE X E e d) (hs : swapsWithSole [.Subscript o ie spos] e pos.line X.env = pure false := by rfl) (hw : swappedStores [.Subscript o ie spos] e X.env = pure none := by rfl) (h1 : (assignEach [.Subscript o ie spos] X.env).map (·.2) = [assign (.Subscript o ie spos) X.env] := by rfl) : DS X E (.Assign [.Subscript o ie spos] e pos) (dSetI d i di) :=
  ds_of (ps_asg he hg hs hw h1) fun D σ H ⟨F, G, ω, ρ, Δ, ξ, s, r, h, k, x⟩ => low_then s r x h fun v d ω1 G1 H1 h1 e1 s1 r1 => low_then s1 (r.ext e1) (x.mono e1) h1 fun v2 d2 ω2 G2 H2 h2 e2 s2 r2 => low_then s2 (r.ext (e1.trans e2)) (x.mono (e1.trans e2)) h2 fun v3 d3 ω3 G3 H3 h3 e3 s3 r3 => by
    cases d2 with
    | mref p =>
      cases d3 with
      | int j =>
        obtain ⟨ds, hp, h3⟩ := omL h3
        obtain ⟨xs, hx, hr, hG, hF⟩ := s3.isL hp
        cases hn : ixN ds.length j with
        | none => rw [hn] at h3; exact h3.elim
        | some n =>
          rw [hn] at h3
          refine ⟨p, xs, j, n, (r2.invM), r3.invI, hx, by rw [hr.len]; exact hn, ?_⟩
          exact k.nx σ ρ _ G3 _ h3 ((e1.trans e2).trans e3) (s3.write hp (hr.set (r1.ext (e2.trans e3)) n)) (r.ext ((e1.trans e2).trans e3))
      | _ => exact h3.elim
    | _ => exact h3.elim
end
end Cu

/-! == DF -/
set_option maxHeartbeats 4000000
namespace Cu
open PySem PySem.Spec PyProof.Rows L2 Evl CuT
/-! ### what is walked -/
abbrev RI := XD → EnvD → Om → (List D → Om → Prop) → Prop
structure WalkD (K : PySem.W.Frag) (G : Hp) (J : It) (ds : List D) : Prop where
  goes : ∀ i H, i < ds.length → Ex G H → J.go i H
  stops : ∀ H, Ex G H → J.stop ds.length H
  yields : ∀ F G1 ω H i x H', Ex G G1 → Sim K F G1 ω H → i < ds.length → J.yld i H x H' → ∃ d G2, ds[i]? = some d ∧ Ex G1 G2 ∧ Sim K F G2 ω H' ∧ Rep K G2 x d
def lowI (K : PySem.W.Frag) (E : XK) (d : RI) : TI := fun σ H R => ∃ F G ω ρ Φ ξ, Sim K F G ω H ∧ RepE K G σ ρ ∧ d ξ ρ ω Φ ∧ (∀ J ds ω' G' H', Φ ds ω' → Ex G G' → Sim K F G' ω' H' → WalkD K G' J ds → R J H') ∧ XOk K F G ξ E
def DI (X : Cx) (E : XK) (tg e : Expr) (d : RI) : Prop := PI X tg e (lowI X.K E d)
section
variable {X : Cx} {E : XK} {pos : Pos} {tg : Expr}
theorem di_of {e : Expr} {d : RI} {t : TI} (h : PI X tg e t) (r : ∀ σ H Q, lowI X.K E d σ H Q → t σ H Q) : DI X E tg e d := ⟨fun pins s σ H R I q => h.run pins s σ H R I (r σ H R q)⟩
theorem walkD_seq {K : PySem.W.Frag} {G : Hp} {J : It} {xs : List V} {ds : List D} {P : Hp → Prop} (w : Walk J xs.length P (YAt xs)) (hP : ∀ H, Ex G H → P H) (r : RepL K G xs ds) : WalkD K G J ds := by
  have hl := r.len
  refine ⟨fun i H hi e => w.goes i H (by omega) (hP H e), fun H e => by rw [← hl]; exact w.stops H (hP H e), fun F G1 ω H i x H' e s hi y => ?_⟩
  obtain ⟨rfl, hx⟩ := w.yields i H x H' (by omega) (hP H (e.trans s.exG)) y
  have hd : ds[i]? = some ds[i] := List.getElem?_eq_getElem hi
  exact ⟨ds[i], G1, hd, Ex.refl G1, s, (r.get hx hd).ext e⟩
def dIL (d : RE) : RI := fun ξ ρ ω Φ => d ξ ρ ω fun x ω1 => match x with
  | .lst ds => Φ ds ω1
  | .scr ns => Φ (ns.map D.int) ω1
  | _ => False
theorem di_list {e : Expr} {d : RE} (h : DE X E e d) : DI X E tg e (dIL d) := di_of (pi_list h) fun σ H R ⟨F, G, ω, ρ, Φ, ξ, s, r, h, k, x⟩ =>
  low_then s r x h fun v d ω1 G1 H1 h1 e1 s1 r1 => by
    cases d with
    | lst ds =>
      obtain ⟨a, xs, rfl, ha, hr⟩ := r1.invL
      exact ⟨a, rfl, ⟨xs, sq_of (s1.exG _ _ ha)⟩, k _ ds ω1 G1 H1 h1 e1 s1 (walkD_seq walk_list (fun H e => sq_of (e _ _ ha)) hr)⟩
    | scr ns =>
      obtain ⟨a, rfl, ha⟩ := r1.invScr
      exact ⟨a, rfl, ⟨_, ex_l s1.exG ha⟩, k _ _ ω1 G1 H1 h1 e1 s1 (walkD_seq walk_list (fun H e => ex_l e ha) (RepL.mkI ns))⟩
    | _ => exact h1.elim
def dIT (d : RE) : RI := fun ξ ρ ω Φ => d ξ ρ ω fun x ω1 => match x with
  | .tup ds => Φ ds ω1
  | _ => False
theorem di_tup {e : Expr} {d : RE} (h : DE X E e d) : DI X E tg e (dIT d) := di_of (pi_tup h) fun σ H R ⟨F, G, ω, ρ, Φ, ξ, s, r, h, k, x⟩ =>
  low_then s r x h fun v d ω1 G1 H1 h1 e1 s1 r1 => by
    cases d with
    | tup ds =>
      obtain ⟨a, xs, rfl, ha, hr⟩ := r1.invT
      exact ⟨a, rfl, ⟨xs, st_of (s1.exG _ _ ha)⟩, k _ ds ω1 G1 H1 h1 e1 s1 (walkD_seq walk_tup (fun H e => st_of (e _ _ ha)) hr)⟩
    | _ => exact h1.elim
def rangeD (lo : Int) (n : Nat) : List D := (List.range n).map fun (i : Nat) => D.int (lo + (i : Int))
theorem walkD_range {K : PySem.W.Frag} {G : Hp} {lo : Int} {n : Nat} : WalkD K G (Itr lo n) (rangeD lo n) := by
  have hl : (rangeD lo n).length = n := by unfold rangeD; simp
  refine ⟨fun i H hi e => by rw [hl] at hi; exact hi, fun H e => by rw [hl]; exact Nat.le_refl _, fun F G1 ω H i x H' e s hi y => ?_⟩
  obtain ⟨rfl, hx⟩ := y
  rw [hl] at hi
  refine ⟨.int (lo + i), G1, ?_, Ex.refl G1, s, by rw [hx]; exact .int⟩
  unfold rangeD
  simp [hi]
def dIR1 (d : RA) : RI := fun ξ ρ ω Φ => d ξ ρ ω fun xs ω1 => match xs with
  | [.int n] => n ≤ 1000000 ∧ -1000000 ≤ n ∧ Φ (rangeD 0 n.toNat) ω1
  | _ => False
def dIR2 (d : RA) : RI := fun ξ ρ ω Φ => d ξ ρ ω fun xs ω1 => match xs with
  | [.int m, .int n] => m ≤ 1000000 ∧ -1000000 ≤ m ∧ n ≤ 1000000 ∧ -1000000 ≤ n ∧ Φ (rangeD m (n - m).toNat) ω1
  | _ => False
theorem di_range1 {a : Expr} {d : RA} {p : Pos} (hg : Gl X "range") (hm : X.mg "range" = none) (ha : DA X E [a] d) (hs : starEach [a] X.env = [(false, eval a X.env)] := by rfl) : DI X E tg (.Call (.Name "range" p) [a] [] pos) (dIR1 d) :=
  di_of (pi_range1 hg hm ha hs) fun σ H R ⟨F, G, ω, ρ, Φ, ξ, s, r, h, k, x⟩ => low_thenA s r x h fun vs ds ω1 G1 H1 h1 e1 s1 r1 => by
    match ds, r1, h1 with
    | [.int n], r1, h1 =>
      obtain ⟨v, r2, rfl, h3, h4⟩ := r1.consInv
      cases h4.nilInv
      cases h3.invI
      exact ⟨n, rfl, by omega, by omega, k _ _ ω1 G1 H1 h1.2.2 e1 s1 walkD_range⟩
theorem di_range2 {a b : Expr} {d : RA} {p : Pos} (hg : Gl X "range") (hm : X.mg "range" = none) (ha : DA X E [a, b] d) (hs : starEach [a, b] X.env = [(false, eval a X.env), (false, eval b X.env)] := by rfl) (hs2 : starEach [b] X.env = [(false, eval b X.env)] := by rfl) : DI X E tg (.Call (.Name "range" p) [a, b] [] pos) (dIR2 d) :=
  di_of (pi_range2 hg hm ha hs hs2) fun σ H R ⟨F, G, ω, ρ, Φ, ξ, s, r, h, k, x⟩ => low_thenA s r x h fun vs ds ω1 G1 H1 h1 e1 s1 r1 => by
    match ds, r1, h1 with
    | [.int m, .int n], r1, h1 =>
      obtain ⟨v, r2, rfl, h3, h4⟩ := r1.consInv
      obtain ⟨v2, r3, rfl, h5, h6⟩ := h4.consInv
      cases h6.nilInv
      cases h3.invI
      cases h5.invI
      exact ⟨m, n, rfl, ⟨by omega, by omega, by omega, by omega⟩, k _ _ ω1 G1 H1 h1.2.2.2.2 e1 s1 walkD_range⟩
def zipD (xs ys : List D) : List D := (xs.zip ys).map fun z => .tup [z.1, z.2]
def enumD (xs : List D) : List D := zipD ((List.range xs.length).map fun (i : Nat) => D.int (i : Int)) xs
/-- a new pair -/
theorem pair_rep {K : PySem.W.Frag} {F G1 H : Hp} {ω : Om} {T : Addr} {x y : V} {d e : D} (s : Sim K F G1 ω H) (hT : H T = none) (hx : Rep K G1 x d) (hy : Rep K G1 y e) : ∃ G2, Ex G1 G2 ∧ Sim K F G2 ω (upd H T (.tup [x, y])) ∧ Rep K G2 (.ref T) (.tup [d, e]) := by
  have hG := (s.freshF hT).2.1
  have ex := Ex.new (o := .tup [x, y]) hG
  exact ⟨_, ex, s.new trivial hT, .mkT upd_same (.cons (hx.ext ex) (.cons (hy.ext ex) .nil))⟩
def dIE (d : RA) : RI := fun ξ ρ ω Φ => d ξ ρ ω fun xs ω1 => match xs with
  | [.lst ds] => Φ (enumD ds) ω1
  | _ => False
theorem di_enum {e : Expr} {d : RA} {p tpos : Pos} {elts : List Expr} {kk : Nat} (hg : Gl X "enumerate") (hm : X.mg "enumerate" = none) (ha : DA X E [e] d) (hs : starEach [e] X.env = [(false, eval e X.env)] := by rfl) : DI X E (.Tuple elts kk tpos) (.Call (.Name "enumerate" p) [e] [] pos) (dIE d) :=
  di_of (pi_enum hg hm ha hs) fun σ H R ⟨F, G, ω, ρ, Φ, ξ, s, r, h, k, x⟩ => low_thenA s r x h fun vs ds ω1 G1 H1 h1 e1 s1 r1 => by
    match ds, r1, h1 with
    | [.lst ds], r1, h1 =>
      obtain ⟨v, r2, rfl, h3, h4⟩ := r1.consInv
      cases h4.nilInv
      obtain ⟨a, xs, rfl, ha, hr⟩ := h3.invL
      have hl := hr.len
      have hel : (enumD ds).length = ds.length := by unfold enumD zipD; simp
      refine ⟨a, xs, rfl, sq_of (s1.exG _ _ ha), k _ _ ω1 G1 H1 h1 e1 s1 ⟨fun i H hi e => ?_, fun H e => ?_, fun F G2 ω H i x H' e s hi y => ?_⟩⟩
      · exact (walk_enum (K := X.K) (a := a) (xs := xs)).goes i H (by omega) (sq_of (e _ _ ha))
      · rw [hel, ← hl]
        exact (walk_enum (K := X.K) (a := a) (xs := xs)).stops H (sq_of (e _ _ ha))
      · obtain ⟨T, y1, y2, rfl, hT, rfl, h5, h6⟩ := (walk_enum (K := X.K) (a := a) (xs := xs)).yields i H x H' (by omega) (sq_of ((e.trans s.exG) _ _ ha)) y
        cases h5
        have hd : ds[i]? = some ds[i] := List.getElem?_eq_getElem (by omega)
        obtain ⟨G3, ex, s3, r3⟩ := pair_rep s hT (d := .int (i : Int)) .int ((hr.get h6 hd).ext e)
        refine ⟨_, G3, ?_, ex, s3, r3⟩
        unfold enumD zipD
        rw [List.getElem?_map, List.getElem?_zip_eq_some (z := (D.int (i : Int), ds[i]'(by omega))) |>.mpr ⟨by rw [List.getElem?_map, List.getElem?_range (by omega)]; rfl, hd⟩]
        rfl
def dIZ (d : RA) : RI := fun ξ ρ ω Φ => d ξ ρ ω fun xs ω1 => match xs with
  | [.lst ds, .lst es] => Φ (zipD ds es) ω1
  | _ => False
theorem di_zip {e e2 : Expr} {d : RA} {p tpos : Pos} {elts : List Expr} {kk : Nat} (hg : Gl X "zip") (hm : X.mg "zip" = none) (ha : DA X E [e, e2] d) (hs : starEach [e, e2] X.env = (false, eval e X.env) :: starEach [e2] X.env := by rfl) (hpl : (backTo pos (starEach [e2] X.env)).any (·.1) = false := by rfl) : DI X E (.Tuple elts kk tpos) (.Call (.Name "zip" p) [e, e2] [] pos) (dIZ d) :=
  di_of (pi_zip hg hm ha hs hpl) fun σ H R ⟨F, G, ω, ρ, Φ, ξ, s, r, h, k, x⟩ => low_thenA s r x h fun vs ds ω1 G1 H1 h1 e1 s1 r1 => by
    match ds, r1, h1 with
    | [.lst ds, .lst es], r1, h1 =>
      obtain ⟨v, r2, rfl, h3, h4⟩ := r1.consInv
      obtain ⟨v', r2', rfl, h3', h4'⟩ := h4.consInv
      cases h4'.nilInv
      obtain ⟨a, xs, rfl, ha, hr⟩ := h3.invL
      obtain ⟨b, ys, rfl, hb, hr'⟩ := h3'.invL
      have hl := hr.len
      have hl' := hr'.len
      have hel : (zipD ds es).length = min xs.length ys.length := by unfold zipD; simp [hl, hl']
      refine ⟨a, b, xs, ys, rfl, sq_of (s1.exG _ _ ha), sq_of (s1.exG _ _ hb), k _ _ ω1 G1 H1 h1 e1 s1 ⟨fun i H hi e => ?_, fun H e => ?_, fun F G2 ω H i x H' e s hi y => ?_⟩⟩
      · exact (walk_zip (K := X.K) (a := a) (b := b) (xs := xs) (ys := ys) rfl).goes i H (by omega) ⟨sq_of (e _ _ ha), sq_of (e _ _ hb)⟩
      · rw [hel]
        exact (walk_zip (K := X.K) (a := a) (b := b) (xs := xs) (ys := ys) rfl).stops H ⟨sq_of (e _ _ ha), sq_of (e _ _ hb)⟩
      · obtain ⟨T, y1, y2, rfl, hT, rfl, h5, h6⟩ := (walk_zip (K := X.K) (a := a) (b := b) (xs := xs) (ys := ys) rfl).yields i H x H' (by omega) ⟨sq_of ((e.trans s.exG) _ _ ha), sq_of ((e.trans s.exG) _ _ hb)⟩ y
        have hd : ds[i]? = some ds[i] := List.getElem?_eq_getElem (by omega)
        have hd' : es[i]? = some es[i] := List.getElem?_eq_getElem (by omega)
        obtain ⟨G3, ex, s3, r3⟩ := pair_rep s hT ((hr.get h5 hd).ext e) ((hr'.get h6 hd').ext e)
        refine ⟨_, G3, ?_, ex, s3, r3⟩
        unfold zipD
        rw [List.getElem?_map, List.getElem?_zip_eq_some (z := (ds[i]'(by omega), es[i]'(by omega))) |>.mpr ⟨hd, hd'⟩]
        rfl
/-! #### for -/
def dForL (t : Tg) (body : RS) (ξ : XD) (Δ : EndsD) : List D → EnvD → Om → Prop
  | [], ρ, ω => Δ.nx ρ ω
  | d :: r, ρ, ω => onS (t.put d ρ) fun ρ1 => body ξ { nx := dForL t body ξ Δ r, ct := dForL t body ξ Δ r, bk := Δ.nx, rt := Δ.rt } ρ1 ω
def dFor (it : RI) (t : Tg) (body : RS) : RS := fun ξ Δ ρ ω => it ξ ρ ω fun ds ω1 => dForL t body ξ Δ ds ρ ω1
theorem ds_for {iter : Expr} {body : List Stmt} {it : RI} {t : Tg} {d : RS} (hp : PassesOwn (model X.prog X.w) X.A X.env X.xe) (hc : X.calm = true) (hi : DI X E tg iter it) (hg : DG X tg t) (hb : DSs X E body d) (hs : ∀ x, foldedSetIterable iter X.env x = pure x := by intro _; rfl) : DS X E (.For tg iter body [] pos) (dFor it t d) :=
  ds_of (ps_for hp hc hi hg hb hs) fun D' σ H ⟨F, G, ω, ρ, Δ, ξ, s, r, h, k, x⟩ => by
    refine ⟨F, G, ω, ρ, _, ξ, s, r, h, fun J ds ω1 G1 H1 h1 e1 s1 w => ?_, x⟩
    refine ⟨fun i m σ H => m = ds.length - i ∧ i ≤ ds.length ∧ ∃ G2 ω2 ρ2, Ex G1 G2 ∧ Sim X.K F G2 ω2 H ∧ RepE X.K G2 σ ρ2 ∧ dForL t d ξ Δ (ds.drop i) ρ2 ω2, ⟨ds.length, rfl, Nat.zero_le _, G1, ω1, ρ, Ex.refl G1, s1, r.ext e1, h1⟩, ?_⟩
    rintro i m σ2 H2 ⟨rfl, hi, G2, ω2, ρ2, e2, s2, r2, h2⟩
    by_cases hlt : i < ds.length
    · rw [List.drop_eq_getElem_cons hlt, dForL] at h2
      refine .inr ⟨w.goes i H2 hlt (e2.trans s2.exG), fun σ H => ∃ G2 ω2 ρ2, Ex G1 G2 ∧ Sim X.K F G2 ω2 H ∧ RepE X.K G2 σ ρ2 ∧ dForL t d ξ Δ (ds.drop (i + 1)) ρ2 ω2, fun σ' H' h' => ⟨ds.length - (i + 1), by omega, rfl, hlt, h'⟩, fun y H3 hy => ?_⟩
      obtain ⟨d0, G3, hd, e3, s3, r3⟩ := w.yields F G2 ω2 H2 i y H3 e2 s2 hlt hy
      rw [List.getElem?_eq_getElem hlt] at hd
      cases hd
      refine ⟨F, G3, ω2, ρ2, ds[i], _, s3, r2.ext e3, r3, h2, fun σ4 ρ4 h4 r4 _ => ?_⟩
      have x3 := (e1.trans e2).trans e3
      refine low_thenS s3 r4 (x.mono x3) h4 ⟨fun σ5 ρ5 ω5 G5 H5 h5 e5 s5 r5 => ⟨G5, ω5, ρ5, (e2.trans e3).trans e5, s5, r5, h5⟩, k.rt.mono x3, fun σ5 ρ5 ω5 G5 H5 h5 e5 s5 r5 => k.nx σ5 ρ5 ω5 G5 H5 h5 (x3.trans e5) s5 r5, fun σ5 ρ5 ω5 G5 H5 h5 e5 s5 r5 => ⟨G5, ω5, ρ5, (e2.trans e3).trans e5, s5, r5, h5⟩⟩
    · have e : i = ds.length := by omega
      subst e
      rw [List.drop_length, dForL] at h2
      exact .inl ⟨w.stops H2 (e2.trans s2.exG), k.nx σ2 ρ2 ω2 G2 H2 h2 (e1.trans e2) s2 r2⟩
/-! #### while -/
def dWhile (t : RT) (body : RS) : RS := fun ξ Δ ρ ω => ∃ W : Nat → EnvD → Om → Prop, (∃ m, W m ρ ω) ∧ ∀ m ρ ω, W m ρ ω → t ξ ρ ω fun b ω1 =>
  (b = true → body ξ { nx := fun ρ' ω' => ∃ m', m' < m ∧ W m' ρ' ω', ct := fun ρ' ω' => ∃ m', m' < m ∧ W m' ρ' ω', bk := Δ.nx, rt := Δ.rt } ρ ω1) ∧ (b = false → Δ.nx ρ ω1)
theorem ds_while {c : Expr} {body : List Stmt} {t : RT} {d : RS} (hp : PassesOwn (model X.prog X.w) X.A X.env X.xe) (hc : DT X E c t) (hb : DSs X E body d) : DS X E (.While c body [] pos) (dWhile t d) :=
  ds_of (ps_while hp hc hb) fun D' σ H ⟨F, G, ω, ρ, Δ, ξ, s, r, h, k, x⟩ => by
    obtain ⟨W, ⟨m0, w0⟩, turn⟩ := h
    refine ⟨fun m σ H => ∃ G2 ω2 ρ2, Ex G G2 ∧ Sim X.K F G2 ω2 H ∧ RepE X.K G2 σ ρ2 ∧ W m ρ2 ω2, ⟨m0, G, ω, ρ, Ex.refl G, s, r, w0⟩, ?_⟩
    rintro m σ2 H2 ⟨G2, ω2, ρ2, e2, s2, r2, w2⟩
    refine low_thenT s2 r2 (x.mono e2) (turn m ρ2 ω2 w2) fun b ω3 G3 H3 h3 e3 s3 => ?_
    have x3 := e2.trans e3
    cases b with
    | true =>
      have nxt : ∀ σ5 ρ5 ω5 G5 H5, (∃ m', m' < m ∧ W m' ρ5 ω5) → Ex G3 G5 → Sim X.K F G5 ω5 H5 → RepE X.K G5 σ5 ρ5 → ∃ m', m' < m ∧ ∃ G2 ω2 ρ2, Ex G G2 ∧ Sim X.K F G2 ω2 H5 ∧ RepE X.K G2 σ5 ρ2 ∧ W m' ρ2 ω2 := fun σ5 ρ5 ω5 G5 H5 ⟨m', hm, hw⟩ e5 s5 r5 => ⟨m', hm, G5, ω5, ρ5, x3.trans e5, s5, r5, hw⟩
      exact ⟨fun σ H => ∃ m', m' < m ∧ ∃ G2 ω2 ρ2, Ex G G2 ∧ Sim X.K F G2 ω2 H ∧ RepE X.K G2 σ ρ2 ∧ W m' ρ2 ω2, fun σ' H' h' => h',
        low_thenS s3 (r2.ext e3) (x.mono x3) (h3.1 rfl) ⟨nxt, k.rt.mono x3, fun σ5 ρ5 ω5 G5 H5 h5 e5 s5 r5 => k.nx σ5 ρ5 ω5 G5 H5 h5 (x3.trans e5) s5 r5, nxt⟩⟩
    | false => exact k.nx σ2 ρ2 ω3 G3 H3 (h3.2 rfl) x3 s3 (r2.ext e3)
end
/-! ### comprehensions -/
def wipeD (ρ : EnvD) : List Nat → EnvD
  | [] => ρ
  | v :: vs => (wipeD ρ vs).set v none
theorem RepE.wipe {K : PySem.W.Frag} {G : Hp} {σ : L2.St} {ρ : EnvD} (h : RepE K G σ ρ) : ∀ vs : List Nat, RepE K G (wipe σ vs) (wipeD ρ vs)
  | [] => h
  | v :: vs => by
    unfold L2.wipe wipeD
    exact (RepE.wipe h vs).clr v
theorem wipe_out {σ : L2.St} {i : Nat} : ∀ {vs : List Nat}, i ∉ vs → (wipe σ vs)[i]? = σ[i]?
  | [], _ => rfl
  | v :: vs, h => by
    unfold L2.wipe
    rw [List.getElem?_set_ne fun e => h (by rw [e]; exact List.mem_cons_self)]
    exact wipe_out fun z => h (List.mem_cons_of_mem _ z)
theorem wipe_in {σ : L2.St} {i : Nat} (hi : i < σ.length) : ∀ {vs : List Nat}, i ∈ vs → (wipe σ vs)[i]? = some none
  | v :: vs, h => by
    unfold L2.wipe
    by_cases e : v = i
    · rw [e, List.getElem?_set_self (by rw [wipe_length]; exact hi)]
    · rw [List.getElem?_set_ne e]
      exact wipe_in hi ((List.mem_cons.mp h).resolve_left fun z => e z.symm)
theorem wipe_same {σ σ' : L2.St} {vs : List Nat} (h : SameO vs σ σ') : wipe σ' vs = wipe σ vs := by
  apply List.ext_getElem?
  intro i
  by_cases hi : i ∈ vs
  · by_cases hl : i < σ.length
    · rw [wipe_in hl hi, wipe_in (by rw [h.1]; exact hl) hi]
    · rw [List.getElem?_eq_none (by rw [wipe_length, h.1]; omega), List.getElem?_eq_none (by rw [wipe_length]; omega)]
  · rw [wipe_out hi, wipe_out hi, h.2 i hi]
theorem wipe_wipe {σ : L2.St} {vs : List Nat} : wipe (wipe σ vs) vs = wipe σ vs := wipe_same (σ := σ) ⟨wipe_length σ vs, fun i hi => wipe_out hi⟩
def dYes : RT := fun _ _ ω Φ => Φ true ω
def dLcL (t : Tg) (tt : RT) (te : RE) (ρ : EnvD) : List D → List D → Om → (List D → Om → Prop) → Prop
  | [], acc, ω, Φ => Φ acc ω
  | d :: r, acc, ω, Φ => onS (t.put d ρ) fun ρ1 => tt xno ρ1 ω fun b ω1 => (b = true → te xno ρ1 ω1 fun y ω2 => dLcL t tt te ρ r (acc ++ [y]) ω2 Φ) ∧ (b = false → dLcL t tt te ρ r acc ω1 Φ)
def dLc (it : RI) (t : Tg) (tt : RT) (te : RE) (vs : List Nat) : RE := fun ξ ρ ω Φ => it ξ ρ ω fun ds ω1 => ds.length ≤ 100000 ∧ dLcL t tt te (wipeD ρ vs) ds [] ω1 fun acc ω2 => Φ (.lst acc) ω2
def dLcM (it : RI) (t : Tg) (tt : RT) (te : RE) (vs : List Nat) : RE := fun ξ ρ ω Φ => it ξ ρ ω fun ds ω1 => ds.length ≤ 100000 ∧ dLcL t tt te (wipeD ρ vs) ds [] ω1 fun acc ω2 => ∀ p, ω2 p = none → Φ (.mref p) (ω2.put p (.lst acc))
def DTs (X : Cx) (ifs : List Expr) (d : RT) : Prop := PTs X ifs (lowT X.K E0 d)
section
variable {X : Cx} {E : XK} {pos : Pos} {tg : Expr}
theorem dts_nil : DTs X [] dYes := ⟨fun pins s σ H Q I ⟨F, G, ω, ρ, Φ, ξ, sm, r, h, k, x⟩ => pts_nil.run pins s σ H Q I (k true ω G H h (Ex.refl G) sm)⟩
theorem dts_one {c : Expr} {t : RT} (h : DT X E0 c t) : DTs X [c] t := pts_one h
theorem lc_low {it : RI} {t : Tg} {tt : RT} {te : RE} {vs : List Nat} {K : PySem.W.Frag} {Φl : List D → Om → Prop} {F G H : Hp} {ω : Om} {σ : L2.St} {ρ : EnvD} {ξ : XD} {Q : VK} (hv : ∀ i ∈ t.slots, i ∈ vs) (s : Sim K F G ω H) (r : RepE K G σ ρ) (x : XOk K F G ξ E)
    (h : it ξ ρ ω fun ds ω1 => ds.length ≤ 100000 ∧ dLcL t tt te (wipeD ρ vs) ds [] ω1 Φl)
    (k : ∀ p xs acc ω' G' H', F p = none → Φl acc ω' → Ex G G' → Sim K (upd F p (.lst xs)) G' ω' H' → RepL K G' xs acc → Q (.ref p) H') :
    tLc (lowI K E it) (lowG K t) (lowT K E0 tt) (lowE K E0 te) vs σ H Q := by
  refine ⟨F, G, ω, ρ, _, ξ, s, r, h, fun J ds ω1 G1 H1 h1 e1 s1 w => ?_, x⟩
  obtain ⟨hl, h1⟩ := h1
  intro Dl hD
  have hF := (s1.freshF hD).1
  refine ⟨fun i m H => m = ds.length - i ∧ i ≤ ds.length ∧ ∃ G2 ω2 xs acc, Ex G1 G2 ∧ Sim K (upd F Dl (.lst xs)) G2 ω2 H ∧ RepL K G2 xs acc ∧ acc.length ≤ i ∧ dLcL t tt te (wipeD ρ vs) (ds.drop i) acc ω2 Φl, ⟨ds.length, rfl, Nat.zero_le _, G1, ω1, [], [], Ex.refl G1, s1.aside hD, .nil, Nat.le_refl 0, h1⟩, ?_⟩
  rintro i m H2 ⟨rfl, hi, G2, ω2, xs, acc, e2, s2, r2, hacc, h2⟩
  by_cases hlt : i < ds.length
  · rw [List.drop_eq_getElem_cons hlt, dLcL] at h2
    refine .inr ⟨w.goes i H2 hlt (e2.trans s2.exG), fun H => ∃ G2 ω2 xs acc, Ex G1 G2 ∧ Sim K (upd F Dl (.lst xs)) G2 ω2 H ∧ RepL K G2 xs acc ∧ acc.length ≤ i + 1 ∧ dLcL t tt te (wipeD ρ vs) (ds.drop (i + 1)) acc ω2 Φl, fun H' h' => ⟨ds.length - (i + 1), by omega, rfl, hlt, h'⟩, fun y H3 hy => ?_⟩
    obtain ⟨d0, G3, hd, e3, s3, r3⟩ := w.yields _ G2 ω2 H2 i y H3 e2 s2 hlt hy
    rw [List.getElem?_eq_getElem hlt] at hd
    cases hd
    have rw0 : RepE K G3 (wipe σ vs) (wipeD ρ vs) := (r.ext ((e1.trans e2).trans e3)).wipe vs
    refine ⟨_, G3, ω2, _, ds[i], _, s3, rw0, r3, h2, fun σ4 ρ4 h4 r4 o4 => ⟨?_, ?_⟩⟩
    · rw [wipe_same (o4.mono hv), wipe_wipe]
    refine low_thenT s3 r4 XOk.no h4 fun b ω5 G5 H5 h5 e5 s5 => ?_
    cases b with
    | true =>
      refine low_then s5 (r4.ext e5) XOk.no (h5.1 rfl) fun v d ω6 G6 H6 h6 e6 s6 r6 => ?_
      obtain ⟨hD6, s7⟩ := s6.asideW (ys := xs ++ [v]) hF
      have e36 := (e3.trans e5).trans e6
      refine ⟨xs, hD6, sz_lt (by rw [r2.len]; omega), G6, ω6, xs ++ [v], acc ++ [d], e2.trans e36, s7, (r2.ext e36).snoc r6, by simp; omega, h6⟩
    | false => exact ⟨G5, ω5, xs, acc, (e2.trans e3).trans e5, s5, r2.ext (e3.trans e5), by omega, h5.2 rfl⟩
  · have e : i = ds.length := by omega
    subst e
    rw [List.drop_length, dLcL] at h2
    exact .inl ⟨w.stops H2 (e2.trans s2.exG), k Dl xs acc ω2 G2 H2 hF h2 (e1.trans e2) s2 r2⟩
theorem low_lc {it : RI} {t : Tg} {tt : RT} {te : RE} {vs : List Nat} {K : PySem.W.Frag} (hv : ∀ i ∈ t.slots, i ∈ vs) : ∀ σ H Q, lowE K E (dLc it t tt te vs) σ H Q → tLc (lowI K E it) (lowG K t) (lowT K E0 tt) (lowE K E0 te) vs σ H Q := fun σ H Q ⟨F, G, ω, ρ, Φ, ξ, s, r, h, k, x⟩ =>
  lc_low hv s r x h fun p xs acc ω' G' H' hF h' e' s' r' => by
    obtain ⟨e2, s2⟩ := s'.unasideF hF
    exact k _ _ ω' _ H' h' (e'.trans e2) s2 (.mkL upd_same (r'.ext e2))
theorem low_lcM {it : RI} {t : Tg} {tt : RT} {te : RE} {vs : List Nat} {K : PySem.W.Frag} (hv : ∀ i ∈ t.slots, i ∈ vs) : ∀ σ H Q, lowE K E (dLcM it t tt te vs) σ H Q → tLc (lowI K E it) (lowG K t) (lowT K E0 tt) (lowE K E0 te) vs σ H Q := fun σ H Q ⟨F, G, ω, ρ, Φ, ξ, s, r, h, k, x⟩ =>
  lc_low hv s r x h fun p xs acc ω' G' H' hF h' e' s' r' => k _ _ _ G' H' (h' p (s'.sepF p _ upd_same).2) e' (s'.unaside hF r') .mref
section
variable {elt iter : Expr} {ifs : List Expr} {scope : Scope} {own : List (Str × Nat)} {it : RI} {t : Tg} {tt : RT} {te : RE}
theorem de_lc (hc : X.calm = true) (hN : X.N.Nodup) (hi : DI X E tg iter it) (ok : BlkOk X.N X.env.scope scope own)
    (hg : ∀ (s : Shared) (H : Hp) (C : Addr) (cl : List (Str × Addr)) (fp : List Addr), DG (X.blk s H scope (compEnvC scope cl C X.env) fp) tg t) (ht : ∀ (s : Shared) (H : Hp) (C : Addr) (cl : List (Str × Addr)) (fp : List Addr), DTs (X.blk s H scope (compEnvC scope cl C X.env) fp) ifs tt)
    (he : ∀ (s : Shared) (H : Hp) (C : Addr) (cl : List (Str × Addr)) (fp : List Addr), DE (X.blk s H scope (compEnvC scope cl C X.env) fp) E0 elt te) (hv : ∀ i ∈ t.slots, i ∈ own.map (·.2) := by decide) (hs : ∀ x, foldedSetIterable iter X.env x = pure x := by intro _; rfl) :
    DE X E (.ListComp elt [⟨tg, iter, ifs, 0⟩] scope pos) (dLc it t tt te (own.map (·.2))) := de_of (pe_lc (g := lowG X.K t) (tt := lowT X.K E0 tt) (te := lowE X.K E0 te) hc hN hi ok hg ht he hs) (low_lc hv)
theorem de_lcM (hc : X.calm = true) (hN : X.N.Nodup) (hi : DI X E tg iter it) (ok : BlkOk X.N X.env.scope scope own)
    (hg : ∀ (s : Shared) (H : Hp) (C : Addr) (cl : List (Str × Addr)) (fp : List Addr), DG (X.blk s H scope (compEnvC scope cl C X.env) fp) tg t) (ht : ∀ (s : Shared) (H : Hp) (C : Addr) (cl : List (Str × Addr)) (fp : List Addr), DTs (X.blk s H scope (compEnvC scope cl C X.env) fp) ifs tt)
    (he : ∀ (s : Shared) (H : Hp) (C : Addr) (cl : List (Str × Addr)) (fp : List Addr), DE (X.blk s H scope (compEnvC scope cl C X.env) fp) E0 elt te) (hv : ∀ i ∈ t.slots, i ∈ own.map (·.2) := by decide) (hs : ∀ x, foldedSetIterable iter X.env x = pure x := by intro _; rfl) :
    DE X E (.ListComp elt [⟨tg, iter, ifs, 0⟩] scope pos) (dLcM it t tt te (own.map (·.2))) := de_of (pe_lc (g := lowG X.K t) (tt := lowT X.K E0 tt) (te := lowE X.K E0 te) hc hN hi ok hg ht he hs) (low_lcM hv)
theorem tAsg_mono {t u : TE} {g : TG} (h : ∀ σ H Q, t σ H Q → u σ H Q) : ∀ D σ H, tAsg t g D σ H → tAsg u g D σ H := fun D σ H q => h σ H _ q
variable {i : Nat} {y : Str} {py spos : Pos}
theorem ds_setLc (hc : X.calm = true) (hN : X.N.Nodup) (hy : X.N[i]? = some y) (hyl : X.env.scope.names.lookup y = some .local) (hsw : swapsWith (.ListComp elt [⟨tg, iter, ifs, 0⟩] scope pos) (some (.Name y py)) spos.line X.env = pure true) (hi : DI X E tg iter it) (ok : BlkOk X.N X.env.scope scope own)
    (hg : ∀ (s : Shared) (H : Hp) (C : Addr) (cl : List (Str × Addr)) (fp : List Addr), DG (X.blk s H scope (compEnvC scope cl C X.env) fp) tg t) (ht : ∀ (s : Shared) (H : Hp) (C : Addr) (cl : List (Str × Addr)) (fp : List Addr), DTs (X.blk s H scope (compEnvC scope cl C X.env) fp) ifs tt)
    (he : ∀ (s : Shared) (H : Hp) (C : Addr) (cl : List (Str × Addr)) (fp : List Addr), DE (X.blk s H scope (compEnvC scope cl C X.env) fp) E0 elt te) (hv : ∀ i ∈ t.slots, i ∈ own.map (·.2) := by decide) (hs : ∀ x, foldedSetIterable iter X.env x = pure x := by intro _; rfl) :
    DS X E (.Assign [.Name y py] (.ListComp elt [⟨tg, iter, ifs, 0⟩] scope pos) spos) (dAsg (dLc it t tt te (own.map (·.2))) i) := ds_of (ps_setLc (g := lowG X.K t) (tt := lowT X.K E0 tt) (te := lowE X.K E0 te) hc hN hy hyl hsw hi ok hg ht he hs) fun D σ H q => tAsg_mono (low_lc hv) D σ H (asg_low D σ H q)
theorem ds_setLcM (hc : X.calm = true) (hN : X.N.Nodup) (hy : X.N[i]? = some y) (hyl : X.env.scope.names.lookup y = some .local) (hsw : swapsWith (.ListComp elt [⟨tg, iter, ifs, 0⟩] scope pos) (some (.Name y py)) spos.line X.env = pure true) (hi : DI X E tg iter it) (ok : BlkOk X.N X.env.scope scope own)
    (hg : ∀ (s : Shared) (H : Hp) (C : Addr) (cl : List (Str × Addr)) (fp : List Addr), DG (X.blk s H scope (compEnvC scope cl C X.env) fp) tg t) (ht : ∀ (s : Shared) (H : Hp) (C : Addr) (cl : List (Str × Addr)) (fp : List Addr), DTs (X.blk s H scope (compEnvC scope cl C X.env) fp) ifs tt)
    (he : ∀ (s : Shared) (H : Hp) (C : Addr) (cl : List (Str × Addr)) (fp : List Addr), DE (X.blk s H scope (compEnvC scope cl C X.env) fp) E0 elt te) (hv : ∀ i ∈ t.slots, i ∈ own.map (·.2) := by decide) (hs : ∀ x, foldedSetIterable iter X.env x = pure x := by intro _; rfl) :
    DS X E (.Assign [.Name y py] (.ListComp elt [⟨tg, iter, ifs, 0⟩] scope pos) spos) (dAsg (dLcM it t tt te (own.map (·.2))) i) := ds_of (ps_setLc (g := lowG X.K t) (tt := lowT X.K E0 tt) (te := lowE X.K E0 te) hc hN hy hyl hsw hi ok hg ht he hs) fun D σ H q => tAsg_mono (low_lcM hv) D σ H (asg_low D σ H q)
end
end
/-! ### a def by its body -/
def startD (N : List Str) (ds : List D) : EnvD := ds.map some ++ List.replicate (N.length - ds.length) none
theorem start_rep {K : PySem.W.Frag} {G : Hp} {N : List Str} {vs : List V} {ds : List D} (h : RepL K G vs ds) : RepE K G (L2.start N vs) (startD N ds) := by
  have hl := h.len
  refine ⟨by unfold L2.start startD; simp [hl], fun i d hd => ?_⟩
  unfold startD at hd
  unfold L2.start
  by_cases hi : i < ds.length
  · rw [List.getElem?_append_left (by simpa using hi), List.getElem?_map] at hd
    obtain ⟨d', h1, h2⟩ := Option.map_eq_some_iff.mp hd
    cases h2
    obtain ⟨x, h3, h4⟩ := h.at_ h1
    refine ⟨x, ?_, h4⟩
    rw [List.getElem?_append_left (by simp; omega), List.getElem?_map, h3]
    rfl
  · rw [List.getElem?_append_right (by simp; omega)] at hd
    have := List.mem_of_getElem? hd
    have := (List.mem_replicate.mp this).2
    cases this
section
variable {P : Program} {w : World} {K : PySem.W.Frag} {mg : Str → Option Value} {base : Heap} {x qual : Str} {st : Stmt} {f : Addr} {N ps : List Str} {k : Nat} {S : SD} {d : RS}
abbrev FnD (P : Program) (w : World) (K : PySem.W.Frag) (mg : Str → Option Value) (base : Heap) (k : Nat) (f : Addr) (S : SD) : Prop := FnR P w K mg base (L2.CX P w) k f (spD K S)
theorem fnd_mk (F : ∃ fd, FunD K x qual (defArgs st) (defBody st) (defScope st) [] [] f fd) (sc : FnScope N ps (defScope st))
    (hb : ∀ (kV doc pm : Value) (an : Option Addr) (cdv ct : Value) (us : List Value), us.length = ps.length → bindArgs (PySem.W.fnOf x qual (defArgs st) (defBody st) (defScope st) .none kV doc pm an cdv ct) ⟨us, []⟩ = pure (ps.zip us))
    (len : ∀ ξ ds ω Φ, S ξ ds ω Φ → ds.length = ps.length)
    (der : ∀ (cdv : Value) (A : Around) (outer : List Env) (s : Shared) (H : Hp) (E : XK), Room k (A.deeper (envOfC qual (defScope st) s.heap.objs.size f cdv)) → DSs (cxOf (L2.CX P w) P w K mg base N qual (defScope st) f cdv A outer s H E).nox E0 (defBody st) d)
    (vc : ∀ ξ ds ω Φ, S ξ ds ω Φ → d xno { nx := fun _ ω' => Φ .non ω', rt := Φ } (startD N ds) ω) : FnD P w K mg base (k + 1) f S := by
  refine fn_mk F sc hb (fun vs H Q E h => ?_) (fun cdv A outer s H vs Q E hr h => ?_)
  · obtain ⟨F, G, ω, ds, Φ, ξ, s, r, h, _⟩ := h
    rw [r.len]
    exact len ξ ds ω Φ h
  · obtain ⟨F, G, ω, ds, Φ, ξ, s', r, h, k', x⟩ := h
    refine ⟨_, PSs.nox (der cdv A outer s H E hr), F, G, ω, _, _, xno, s', start_rep r, vc ξ ds ω Φ h, ⟨fun σ' ρ' ω' G' H' h' e' s' _ => k' .non .non ω' G' H' h' e' s' .non, k', fun _ _ _ _ _ z => z.elim, fun _ _ _ _ _ z => z.elim⟩, XOk.no⟩
/-- a promise over heaps, by data: the call sees what never changes -/
theorem fnd_of {sp : Sp} (F : FnR P w K mg base (L2.CX P w) k f sp) (h : ∀ ξ vs ds G ω Φ Q, RepL K G vs ds → S ξ ds ω Φ → (∀ v z G', Φ z ω → Ex G G' → Rep K G' v z → Q v G') → sp vs G Q E0) : FnD P w K mg base k f S :=
  (frameS F).imp fun vs H Q E ⟨Fr, G, ω, ds, Φ, ξ, s, r, hs, kk, x⟩ => by
    obtain ⟨hh, hf⟩ := s.hid
    refine ⟨_, hh, ?_⟩
    rw [hf]
    exact h ξ vs ds G ω Φ _ r hs fun v z G' hz e rz fD iD => kk v z ω G' _ hz e (s.back e fD iD) rz
end
end Cu

/-! == DH0 -/
set_option maxHeartbeats 4000000
namespace Cu
open PySem PySem.Spec PyProof.Rows L2 Evl CuT
def rInt1 : List V → Hp → VK → Prop := fun xs H Q => (∃ i, xs = [.int i] ∧ Q (.int i) H) ∨ ∃ k, xs = [.bl k] ∧ Q (.int (if k then 1 else 0)) H
theorem call_int1r {X : Cx} : CallR X (.type "int") rInt1 := call_int1
def tCallP (C : Addr) (sp : Sp) (tf : TE) (t : TA) : TE := fun σ H Q => tf σ H fun y H1 => ∃ a, y = V.ref a ∧ t σ H1 fun vs H2 => (∃ dx fs, H2 a = some (.ins C dx fs)) ∧ sp (V.ref a :: vs) H2 Q E0
theorem pe_callP {X : Cx} {k : Nat} {g C : Addr} {sp : Sp} {fe e : Expr} {es : List Expr} {pos : Pos} {tf : TE} {t : TA} (hf : PE X fe tf) (c : StX.CallO X.K C g) (F : FnR X.prog X.w X.K X.mg X.base (L2.CX X.prog X.w) k g sp) (hr : Room k X.A) (ha : PA X (e :: es) t)
    (ht : eval (.Call fe (e :: es) [] pos) X.env = (do callWith pos (← eval fe X.env) [] (backTo pos (starEach (e :: es) X.env)) (backToKw pos (keywordEach [] X.env))) := by rfl)
    (he : starEach (e :: es) X.env = (false, eval e X.env) :: starEach es X.env := by rfl) (hpl : (backTo pos (starEach es X.env)).any (·.1) = false := by rfl) : PE X (.Call fe (e :: es) [] pos) (tCallP C sp tf t) := by
  refine ⟨fun pins s σ H Q I h => ?_⟩
  refine Call_ (thn (hf.run pins s σ H _ I h) fun u s1 ⟨y, H1, I1, ry, a, ey, q⟩ => ?_) ht
  subst ey
  obtain rfl : u = Value.ref a := ry
  refine StX.callO_with (thn (ha.run pos pins s1 σ H1 _ I1 q) fun us s2 ⟨vs, H2, I2, r, hi, q2⟩ => ?_) he hpl
  have hi' : StX.InsC X H2 a C := .inr hi
  obtain ⟨ox, od, J, hd⟩ := StX.insC_at I2 hi'
  exact ⟨⟨C, ox, od, J, hd⟩, StX.run_callO c F hr passL I2 hi' r q2⟩
abbrev rMin2 : List V → Hp → VK → Prop := fun xs H Q => ∃ i j, xs = [.int i, .int j] ∧ Q (.int (if j < i then j else i)) H
theorem WF.pos {p : Prog} (h : WF p) : 0 ≤ p.span := (wf_good h).sp
theorem span1_bits {p : Prog} (h : WF p) {m : Int} (h0 : 0 ≤ m) (h1 : m ≤ p.span + 1) : m.natAbs < 2 ^ 8000 := by
  have a := span_bits h
  have e : (2 : Nat) ^ 6000 + 1 < 2 ^ 8000 := by decide +kernel
  omega
/-- the law's own promise -/
def spLaw (K : PySem.W.Frag) : Sp := fun vs H Q _ => ∃ (a : Addr) (ns : List Int), vs = [.ref a] ∧ SqL K H a (ns.map V.int) ∧ ns.length ≤ 63 ∧ ∀ H', Q (.bl true) H'
end Cu

/-! == DH -/
set_option maxHeartbeats 4000000
namespace Cu
open PySem PySem.Spec PyProof.Rows L2 Evl CuT
/-! ### operations by data -/
def oI (f : Int → Int → D) : RR2 := fun x y ω Φ => match x, y with
  | .int i, .int j => Φ (f i j) ω
  | _, _ => False
def oIC (C : Int → Int → Prop) (f : Int → Int → D) : RR2 := fun x y ω Φ => match x, y with
  | .int i, .int j => C i j ∧ Φ (f i j) ω
  | _, _ => False
section
variable {K : PySem.W.Frag}
theorem ok_I0 {g : Int → Int → V} {f : Int → Int → D} (h : ∀ i j, AtV (g i j) (f i j)) : OpOk K (rI0 g) (oI f) := fun F G ω H x y dx dy Φ Q s rx ry hd k => by
  cases dx with
  | int i =>
    cases dy with
    | int j => exact ⟨i, j, rx.invI, ry.invI, k _ _ ω G H hd (Ex.refl G) s (h i j).rep⟩
    | _ => exact hd.elim
  | _ => exact hd.elim
theorem ok_IC {C : Int → Int → Prop} {g : Int → Int → V} {f : Int → Int → D} (h : ∀ i j, AtV (g i j) (f i j)) : OpOk K (rI C g) (oIC C f) := fun F G ω H x y dx dy Φ Q s rx ry hd k => by
  cases dx with
  | int i =>
    cases dy with
    | int j => exact ⟨i, j, rx.invI, ry.invI, hd.1, k _ _ ω G H hd.2 (Ex.refl G) s (h i j).rep⟩
    | _ => exact hd.elim
  | _ => exact hd.elim
abbrev oAdd : RR2 := oI fun i j => .int (i + j)
abbrev oSub : RR2 := oI fun i j => .int (i - j)
abbrev oMul : RR2 := oIC CMulW fun i j => .int (i * j)
abbrev oDiv : RR2 := oIC CDivW fun i j => .int (i / j)
abbrev oMod : RR2 := oIC (fun _ j => 0 < j) fun i j => .int (i % j)
abbrev oPow : RR2 := oIC CPow fun i j => .int (i ^ j.toNat)
abbrev oLt : RR2 := oI fun i j => .bl (decide (i < j))
abbrev oLe : RR2 := oI fun i j => .bl (decide (i ≤ j))
abbrev oGt : RR2 := oI fun i j => .bl (decide (j < i))
abbrev oGe : RR2 := oI fun i j => .bl (decide (j ≤ i))
theorem ok_add : OpOk K (rI0 fun i j => .int (i + j)) oAdd := ok_I0 fun _ _ => .int _
theorem ok_sub : OpOk K (rI0 fun i j => .int (i - j)) oSub := ok_I0 fun _ _ => .int _
theorem ok_mul : OpOk K (rI CMulW fun i j => .int (i * j)) oMul := ok_IC fun _ _ => .int _
theorem ok_div : OpOk K (rI CDivW fun i j => .int (i / j)) oDiv := ok_IC fun _ _ => .int _
theorem ok_mod : OpOk K (rI (fun _ j => 0 < j) fun i j => .int (i % j)) oMod := ok_IC fun _ _ => .int _
theorem ok_pow : OpOk K (rI CPow fun i j => .int (i ^ j.toNat)) oPow := ok_IC fun _ _ => .int _
theorem ok_lt : OpOk K (rI0 fun i j => .bl (decide (i < j))) oLt := ok_I0 fun _ _ => .bl _
theorem ok_le : OpOk K (rI0 fun i j => .bl (decide (i ≤ j))) oLe := ok_I0 fun _ _ => .bl _
theorem ok_gt : OpOk K (rI0 fun i j => .bl (decide (j < i))) oGt := ok_I0 fun _ _ => .bl _
theorem ok_ge : OpOk K (rI0 fun i j => .bl (decide (j ≤ i))) oGe := ok_I0 fun _ _ => .bl _
/-- == of what is no object (no bool beside an int) -/
def eqS : D → D → Option Bool
  | .int i, .int j => some (decide (i = j))
  | .str a, .str b => some (decide (a = b))
  | .bl a, .bl b => some (decide (a = b))
  | .non, .non => some true
  | .non, .int _ => some false
  | .int _, .non => some false
  | .non, .str _ => some false
  | .str _, .non => some false
  | .non, .bl _ => some false
  | .bl _, .non => some false
  | .int _, .str _ => some false
  | .str _, .int _ => some false
  | .bl _, .str _ => some false
  | .str _, .bl _ => some false
  | _, _ => none
def oEq : RR2 := fun x y ω Φ => onS (eqS x y) fun b => Φ (.bl b) ω
def oNe : RR2 := fun x y ω Φ => onS (eqS x y) fun b => Φ (.bl (!b)) ω
theorem eqS_ok {G : Hp} {x y : V} {dx dy : D} {b : Bool} (rx : Rep K G x dx) (ry : Rep K G y dy) (h : eqS dx dy = some b) : scal x y = true ∧ decide (x = y) = b := by
  cases rx <;> cases ry <;> simp [eqS] at h <;> subst h <;> simp [scal]
theorem ok_eq : OpOk K rEq oEq := fun F G ω H x y dx dy Φ Q s rx ry hd k => by
  unfold oEq at hd
  cases e : eqS dx dy with
  | none => rw [e] at hd; exact hd.elim
  | some b =>
    rw [e] at hd
    obtain ⟨h1, h2⟩ := eqS_ok rx ry e
    exact ⟨h1, by rw [h2]; exact k _ _ ω G H hd (Ex.refl G) s .bl⟩
theorem ok_ne : OpOk K rNe oNe := fun F G ω H x y dx dy Φ Q s rx ry hd k => by
  unfold oNe at hd
  cases e : eqS dx dy with
  | none => rw [e] at hd; exact hd.elim
  | some b =>
    rw [e] at hd
    obtain ⟨h1, h2⟩ := eqS_ok rx ry e
    exact ⟨h1, by rw [h2]; exact k _ _ ω G H hd (Ex.refl G) s .bl⟩
def isNon : D → Bool
  | .non => true
  | _ => false
def oIsN : RR2 := fun x _ ω Φ => Φ (.bl (isNon x)) ω
def oNotN : RR2 := fun x _ ω Φ => Φ (.bl (!isNon x)) ω
theorem isNon_ok {G : Hp} {x : V} {dx : D} (rx : Rep K G x dx) : decide (x = .non) = isNon dx := by
  cases rx <;> rfl
/-- is None, the right side a written None -/
theorem de_isN {X : Cx} {E : XK} {a : Expr} {da : RE} {kk pos pos'} (ha : DE X E a da) : DE X E (.Compare a [.Is] [.Constant .none kk pos'] pos) (dOp oIsN da (dC .non)) :=
  de_of (pe_cmpR op_isN1 ha pe_non (nomark _)) fun σ H Q ⟨F, G, ω, ρ, Φ, ξ, s, r, h, k, x⟩ => low_then s r x h fun v d ω1 G1 H1 h1 e1 s1 r1 => ⟨rfl, by rw [isNon_ok r1]; exact k _ _ ω1 G1 H1 h1 e1 s1 .bl⟩
theorem de_notN {X : Cx} {E : XK} {a : Expr} {da : RE} {kk pos pos'} (ha : DE X E a da) : DE X E (.Compare a [.IsNot] [.Constant .none kk pos'] pos) (dOp oNotN da (dC .non)) :=
  de_of (pe_cmpR op_notN1 ha pe_non (nomark _)) fun σ H Q ⟨F, G, ω, ρ, Φ, ξ, s, r, h, k, x⟩ => low_then s r x h fun v d ω1 G1 H1 h1 e1 s1 r1 => ⟨rfl, by rw [isNon_ok r1]; exact k _ _ ω1 G1 H1 h1 e1 s1 .bl⟩
theorem dt_isN {X : Cx} {E : XK} {a : Expr} {da : RE} {kk pos pos'} (ha : DE X E a da) : DT X E (.Compare a [.Is] [.Constant .none kk pos'] pos) (dTest (dOp oIsN da (dC .non))) :=
  dt_of (pt_cmpR op_isN1 ha pe_non (nomark _)) fun σ H Q ⟨F, G, ω, ρ, Φ, ξ, s, r, h, k, x⟩ => low_then s r x h fun v d ω1 G1 H1 h1 e1 s1 r1 => ⟨rfl, _, rfl, by rw [isNon_ok r1]; exact k _ ω1 G1 H1 h1 e1 s1⟩
theorem dt_notN {X : Cx} {E : XK} {a : Expr} {da : RE} {kk pos pos'} (ha : DE X E a da) : DT X E (.Compare a [.IsNot] [.Constant .none kk pos'] pos) (dTest (dOp oNotN da (dC .non))) :=
  dt_of (pt_cmpR op_notN1 ha pe_non (nomark _)) fun σ H Q ⟨F, G, ω, ρ, Φ, ξ, s, r, h, k, x⟩ => low_then s r x h fun v d ω1 G1 H1 h1 e1 s1 r1 => ⟨rfl, _, rfl, by rw [isNon_ok r1]; exact k _ ω1 G1 H1 h1 e1 s1⟩
/-- a chain of two comparisons of ints -/
def dChain (f g : Int → Int → Bool) (da db dc : RE) : RE := fun ξ ρ ω Φ => da ξ ρ ω fun x ω1 => db ξ ρ ω1 fun y ω2 => match x, y with
  | .int i, .int j => (f i j = true → dc ξ ρ ω2 fun z ω3 => match z with
    | .int l => Φ (.bl (g j l)) ω3
    | _ => False) ∧ (f i j = false → Φ (.bl false) ω2)
  | _, _ => False
theorem chain_low {X : Cx} {E : XK} {f g : Int → Int → Bool} {da db dc : RE} : ∀ σ H Q, lowE X.K E (dChain f g da db dc) σ H Q → tChain (rI0 fun i j => .bl (f i j)) (rI0 fun i j => .bl (g i j)) (lowE X.K E da) (lowE X.K E db) (lowE X.K E dc) σ H Q := fun σ H Q ⟨F, G, ω, ρ, Φ, ξ, s, r, h, k, x⟩ =>
  low_then s r x h fun v d ω1 G1 H1 h1 e1 s1 r1 => low_then s1 (r.ext e1) (x.mono e1) h1 fun v2 d2 ω2 G2 H2 h2 e2 s2 r2 => by
    have e12 := e1.trans e2
    cases d with
    | int i =>
      cases d2 with
      | int j =>
        refine ⟨i, j, r1.invI, r2.invI, f i j, rfl, ?_⟩
        cases hf : f i j with
        | true =>
          show lowE X.K E dc σ H2 _
          refine low_then s2 (r.ext e12) (x.mono e12) (h2.1 hf) fun v3 d3 ω3 G3 H3 h3 e3 s3 r3 => ?_
          cases d3 with
          | int l => exact ⟨j, l, r2.invI, r3.invI, k _ _ ω3 G3 H3 h3 (e12.trans e3) s3 .bl⟩
          | _ => exact h3.elim
        | false => exact k _ _ ω2 G2 H2 (h2.2 hf) e12 s2 .bl
      | _ => exact h2.elim
    | _ => exact h2.elim
theorem de_chain {X : Cx} {E : XK} {op op' : CmpOp} {f g : Int → Int → Bool} {a b c : Expr} {pos : Pos} {da db dc : RE} (ho : OpR X (compareOp op) (rI0 fun i j => .bl (f i j))) (ho' : OpR X (compareOp op') (rI0 fun i j => .bl (g i j))) (ha : DE X E a da) (hb : DE X E b db) (hc : DE X E c dc)
    (hm : lastMarks [op, op'] [b, c] = false := by with_unfolding_all rfl) : DE X E (.Compare a [op, op'] [b, c] pos) (dChain f g da db dc) := de_of (pe_chain ho ho' ha hb hc hm) chain_low
theorem dt_chain {X : Cx} {E : XK} {op op' : CmpOp} {f g : Int → Int → Bool} {a b c : Expr} {pos : Pos} {da db dc : RE} (ho : OpR X (compareOp op) (rI0 fun i j => .bl (f i j))) (ho' : OpR X (compareOp op') (rI0 fun i j => .bl (g i j))) (ha : DE X E a da) (hb : DE X E b db) (hc : DE X E c dc)
    (hm : lastMarks [op, op'] [b, c] = false := by with_unfolding_all rfl) : DT X E (.Compare a [op, op'] [b, c] pos) (dTest (dChain f g da db dc)) := dt_of (pt_chain ho ho' ha hb hc hm) fun σ H Q q => tTest_mono chain_low σ H Q (test_low σ H Q q)
/-! #### lists and tuples read -/
/-- a list as it stands -/
def asL (x : D) (ω : Om) : Option (List D) := match x with
  | .lst ds => some ds
  | .mref p => (match ω p with
    | some (.lst ds) => some ds
    | _ => none)
  | _ => none
theorem asL_ok {F G H : Hp} {ω : Om} {v : V} {x : D} {ds : List D} (s : Sim K F G ω H) (r : Rep K G v x) (h : asL x ω = some ds) : ∃ a xs, v = .ref a ∧ H a = some (.lst xs) ∧ RepL K G xs ds := by
  cases x with
  | lst es =>
    cases h
    obtain ⟨a, xs, e, ha, hr⟩ := r.invL
    exact ⟨a, xs, e, s.exG _ _ ha, hr⟩
  | mref p =>
    have h : (match ω p with | some (.lst ds) => some ds | _ => none) = some ds := h
    cases hp : ω p with
    | none => rw [hp] at h; cases h
    | some c =>
      rw [hp] at h
      cases c with
      | lst es =>
        cases h
        obtain ⟨xs, h1, h2, _⟩ := s.isL hp
        exact ⟨p, xs, r.invM, h1, h2⟩
      | ins c fs => cases h
      | _ => cases h
  | _ => cases h
/-- a sequence as it is read: a list, a tuple, the script -/
def asQ (x : D) (ω : Om) : Option (List D) := match x with
  | .tup ds => some ds
  | .scr ns => some (ns.map D.int)
  | .lst ds => some ds
  | .mref p => (match ω p with
    | some (.lst ds) => some ds
    | _ => none)
  | _ => none
theorem asQ_ok {F G H : Hp} {ω : Om} {v : V} {x : D} {ds : List D} (s : Sim K F G ω H) (r : Rep K G v x) (h : asQ x ω = some ds) : ∃ a xs, v = .ref a ∧ (SqL K H a xs ∨ SqT K H a xs) ∧ RepL K G xs ds := by
  cases x with
  | tup es =>
    cases h
    obtain ⟨a, xs, e, ha, hr⟩ := r.invT
    exact ⟨a, xs, e, .inr (st_of (s.exG _ _ ha)), hr⟩
  | scr ns =>
    cases h
    obtain ⟨a, e, ha⟩ := r.invScr
    exact ⟨a, _, e, .inl (ex_l s.exG ha), RepL.mkI ns⟩
  | lst es =>
    obtain ⟨a, xs, h1, h2, h3⟩ := asL_ok s r (show asL (.lst es) ω = some ds from h)
    exact ⟨a, xs, h1, .inl (sq_of h2), h3⟩
  | mref p =>
    obtain ⟨a, xs, h1, h2, h3⟩ := asL_ok s r (show asL (.mref p) ω = some ds from h)
    exact ⟨a, xs, h1, .inl (sq_of h2), h3⟩
  | _ => cases h
theorem atI_ok {G : Hp} {xs : List V} {ds : List D} {i : Int} {d : D} (r : RepL K G xs ds) (h : atI ds i = some d) : ∃ x, atI xs i = some x ∧ Rep K G x d := by
  unfold atI at h ⊢
  rw [r.len]
  cases hn : ixN ds.length i with
  | none => rw [hn] at h; cases h
  | some j =>
    rw [hn] at h
    exact r.at_ h
/-- xs[i] of a list (or the script) -/
def oIxL : RR2 := fun x y ω Φ => match y with
  | .int i => (match x with
    | .tup _ => False
    | _ => onS (asQ x ω) fun ds => onS (atI ds i) fun d => Φ d ω)
  | _ => False
def oIxT : RR2 := fun x y ω Φ => match x, y with
  | .tup ds, .int i => onS (atI ds i) fun d => Φ d ω
  | _, _ => False
theorem ok_ixT : OpOk K (rIxT K) oIxT := fun F G ω H x y dx dy Φ Q s rx ry hd k => by
  cases dx with
  | tup ds =>
    cases dy with
    | int i =>
      cases e : atI ds i with
      | none => simp only [oIxT, e] at hd; exact hd.elim
      | some d =>
        simp only [oIxT, e] at hd
        obtain ⟨a, xs, e1, ha, hr⟩ := rx.invT
        obtain ⟨v, h1, h2⟩ := atI_ok hr e
        exact ⟨a, xs, i, v, e1, ry.invI, st_of (s.exG _ _ ha), h1, k _ _ ω G H hd (Ex.refl G) s h2⟩
    | _ => exact hd.elim
  | _ => exact hd.elim
theorem ok_ixL : OpOk K (rIxL K) oIxL := fun F G ω H x y dx dy Φ Q s rx ry hd k => by
  cases dy with
  | int i =>
    have go : ∀ ds, (∃ a xs, x = .ref a ∧ SqL K H a xs ∧ RepL K G xs ds) → (onS (atI ds i) fun d => Φ d ω) → rIxL K x y H Q := fun ds hx hd => by
      obtain ⟨a, xs, e1, ha, hr⟩ := hx
      cases e : atI ds i with
      | none => rw [e] at hd; exact hd.elim
      | some d =>
        rw [e] at hd
        obtain ⟨v, h1, h2⟩ := atI_ok hr e
        exact ⟨a, xs, i, v, e1, ry.invI, ha, h1, k _ _ ω G H hd (Ex.refl G) s h2⟩
    cases dx with
    | lst ds =>
      refine go ds ?_ hd
      obtain ⟨a, xs, h1, h2, h3⟩ := asL_ok s rx (show asL (.lst ds) ω = some ds from rfl)
      exact ⟨a, xs, h1, sq_of h2, h3⟩
    | scr ns =>
      refine go _ ?_ hd
      obtain ⟨a, e, ha⟩ := rx.invScr
      exact ⟨a, _, e, ex_l s.exG ha, RepL.mkI ns⟩
    | mref p =>
      cases e : asQ (.mref p) ω with
      | none => simp only [oIxL, e] at hd; exact hd.elim
      | some ds =>
        simp only [oIxL, e] at hd
        refine go ds ?_ hd
        obtain ⟨a, xs, h1, h2, h3⟩ := asL_ok s rx (show asL (.mref p) ω = some ds from e)
        exact ⟨a, xs, h1, sq_of h2, h3⟩
    | _ => exact hd.elim
  | _ => cases dx <;> exact hd.elim
/-- xs + ys -/
def oCat : RR2 := fun x y ω Φ => onS (asL x ω) fun xs => onS (asL y ω) fun ys => xs.length + ys.length ≤ 100000 ∧ Φ (.lst (xs ++ ys)) ω
def oCatM : RR2 := fun x y ω Φ => onS (asL x ω) fun xs => onS (asL y ω) fun ys => xs.length + ys.length ≤ 100000 ∧ ∀ p, ω p = none → Φ (.mref p) (ω.put p (.lst (xs ++ ys)))
theorem onS_ok {α : Type} {o : Option α} {k : α → Prop} (h : onS o k) : ∃ a, o = some a ∧ k a := by
  cases o with
  | none => exact h.elim
  | some a => exact ⟨a, rfl, h⟩
theorem ok_cat : OpOk K rCat oCat := fun F G ω H x y dx dy Φ Q s rx ry hd k => by
  obtain ⟨ds, h1, hd⟩ := onS_ok hd
  obtain ⟨es, h2, hd⟩ := onS_ok hd
  obtain ⟨a, xs, e1, ha, hr⟩ := asL_ok s rx h1
  obtain ⟨b, ys, e2, hb, hr'⟩ := asL_ok s ry h2
  refine ⟨a, b, xs, ys, e1, e2, ha, hb, sz_of (by rw [hr.len, hr'.len]; exact hd.1), fun p hp => ?_⟩
  have e := Ex.new (o := .lst (xs ++ ys)) (s.freshF hp).2.1
  exact k _ _ ω _ _ hd.2 e (s.new trivial hp) (.mkL upd_same ((hr.append hr').ext e))
theorem ok_catM : OpOk K rCat oCatM := fun F G ω H x y dx dy Φ Q s rx ry hd k => by
  obtain ⟨ds, h1, hd⟩ := onS_ok hd
  obtain ⟨es, h2, hd⟩ := onS_ok hd
  obtain ⟨a, xs, e1, ha, hr⟩ := asL_ok s rx h1
  obtain ⟨b, ys, e2, hb, hr'⟩ := asL_ok s ry h2
  exact ⟨a, b, xs, ys, e1, e2, ha, hb, sz_of (by rw [hr.len, hr'.len]; exact hd.1), fun p hp => k _ _ _ G _ (hd.2 p (s.freshF hp).2.2) (Ex.refl G) (s.newM (hr.append hr') hp) .mref⟩
/-- t + u of tuples -/
def oCatT : RR2 := fun x y ω Φ => match x, y with
  | .tup xs, .tup ys => xs.length + ys.length ≤ 100000 ∧ Φ (.tup (xs ++ ys)) ω
  | _, _ => False
/-- xs == [], xs != [] -/
def oNil (b : Bool) : RR2 := fun x y ω Φ => onS (asL x ω) fun xs => onS (asL y ω) fun ys => ys = [] ∧ Φ (.bl (if b then xs.isEmpty else !xs.isEmpty)) ω
theorem ok_nil {b : Bool} : OpOk K (rEqNil b) (oNil b) := fun F G ω H x y dx dy Φ Q s rx ry hd k => by
  obtain ⟨ds, h1, hd⟩ := onS_ok hd
  obtain ⟨es, h2, rfl, hd⟩ := onS_ok hd
  obtain ⟨a, xs, e1, ha, hr⟩ := asL_ok s rx h1
  obtain ⟨c, ys, e2, hb, hr'⟩ := asL_ok s ry h2
  cases hr'.nilInv
  refine ⟨a, c, xs, e1, e2, ha, hb, ?_⟩
  have e : xs.isEmpty = ds.isEmpty := by
    cases hr with
    | nil => rfl
    | cons _ _ => rfl
  rw [e]
  exact k _ _ ω G H hd (Ex.refl G) s .bl
/-- x in xs of what is no object -/
def flatD : D → Bool
  | .non => true
  | .bl _ => true
  | .int _ => true
  | .str _ => true
  | _ => false
def eqF : D → D → Bool
  | .non, .non => true
  | .bl a, .bl b => a == b
  | .bl a, .int b => (if a then 1 else 0) == b
  | .int a, .bl b => a == (if b then 1 else 0)
  | .int a, .int b => a == b
  | .str a, .str b => a == b
  | _, _ => false
def inF (x : D) (xs : List D) : Bool := xs.any fun y => eqF y x
def oIn (neg : Bool) : RR2 := fun x y ω Φ => onS (asQ y ω) fun ys => flatD x = true ∧ ys.all flatD = true ∧ Φ (.bl (if neg then !inF x ys else inF x ys)) ω
theorem flatD_ok {G : Hp} {v : V} {d : D} (r : Rep K G v d) (h : flatD d = true) : flatV v = true := by
  cases r <;> first | rfl | cases h
theorem flatL_ok {G : Hp} : ∀ {xs : List V} {ds : List D}, RepL K G xs ds → ds.all flatD = true → xs.all flatV = true
  | _, _, .nil, _ => rfl
  | _, _, .cons r t, h => by
    rw [List.all_cons, Bool.and_eq_true] at h
    rw [List.all_cons, flatD_ok r h.1, flatL_ok t h.2]
    rfl
theorem eqF_ok {G : Hp} {v u : V} {d e : D} (r : Rep K G v d) (r' : Rep K G u e) (h : flatD d = true) (h' : flatD e = true) : eqV v u = eqF d e := by
  cases r <;> cases r' <;> first | rfl | cases h | cases h'
theorem inF_ok {G : Hp} {v : V} {d : D} (r : Rep K G v d) (h : flatD d = true) : ∀ {xs : List V} {ds : List D}, RepL K G xs ds → ds.all flatD = true → inV v xs = inF d ds
  | _, _, .nil, _ => rfl
  | _, _, .cons r' t, h' => by
    rw [List.all_cons, Bool.and_eq_true] at h'
    have ih := inF_ok r h t h'.2
    unfold inV inF at ih ⊢
    rw [List.any_cons, List.any_cons, ih, eqF_ok r' r h'.1 h]
theorem ok_in {neg : Bool} : OpOk K (rIn K neg) (oIn neg) := fun F G ω H x y dx dy Φ Q s rx ry hd k => by
  obtain ⟨ds, h1, h2, h3, hd⟩ := onS_ok hd
  obtain ⟨a, xs, e1, ha, hr⟩ := asQ_ok s ry h1
  refine ⟨a, xs, e1, ha, flatD_ok rx h2, flatL_ok hr h3, ?_⟩
  rw [inF_ok rx h2 hr h3]
  exact k _ _ ω G H hd (Ex.refl G) s .bl
/-! #### slices -/
def cutD (xs : List D) (lo hi : Option Int) : List D := (xs.drop (HT.sIx xs.length 0 lo)).take (HT.sIx xs.length xs.length hi - HT.sIx xs.length 0 lo)
theorem cut_ok {G : Hp} {xs : List V} {ds : List D} {lo hi : Option Int} (r : RepL K G xs ds) : RepL K G (cutV xs lo hi) (cutD ds lo hi) := by
  unfold cutV cutD
  rw [r.len]
  exact (r.drop _).take _
def dNoPart : RO := fun _ _ ω Φ => Φ none ω
def dPart (d : RE) : RO := fun ξ ρ ω Φ => d ξ ρ ω fun x ω1 => match x with
  | .int i => Φ (some i) ω1
  | _ => False
def dSl (r : D → Option Int → Option Int → Om → (D → Om → Prop) → Prop) (d : RE) (dl dh : RO) : RE := fun ξ ρ ω Φ => d ξ ρ ω fun x ω1 => dl ξ ρ ω1 fun l ω2 => dh ξ ρ ω2 fun u ω3 => r x l u ω3 Φ
section
variable {X : Cx} {E : XK} {pos p2 : Pos} {e : Expr} {d : RE} {lo hi : Option Expr} {dl dh : RO}
theorem do_none : DO X E none dNoPart := do_of po_none fun σ H Q ⟨F, G, ω, ρ, Φ, ξ, s, r, h, k, x⟩ => k none ω G H h (Ex.refl G) s
theorem do_some (h : DE X E e d) : DO X E (some e) (dPart d) := do_of (po_some h) fun σ H Q ⟨F, G, ω, ρ, Φ, ξ, s, r, h, k, x⟩ => low_then s r x h fun v d ω1 G1 H1 h1 e1 s1 r1 => by
  cases d with
  | int i => exact ⟨i, r1.invI, k _ ω1 G1 H1 h1 e1 s1⟩
  | _ => exact h1.elim
theorem de_sl {r : V → Option Int → Option Int → Hp → VK → Prop} {rd : D → Option Int → Option Int → Om → (D → Om → Prop) → Prop} (hr : SlR X r) (ok : ∀ F G ω H v x l u Φ Q, Sim X.K F G ω H → Rep X.K G v x → rd x l u ω Φ → Kont X.K F G Φ Q → r v l u H Q) (he : DE X E e d) (hl : DO X E lo dl) (hu : DO X E hi dh) : DE X E (.Subscript e (.Slice lo hi none p2) pos) (dSl rd d dl dh) :=
  de_of (pe_slice hr he hl hu) fun σ H Q ⟨F, G, ω, ρ, Φ, ξ, s, r, h, k, x⟩ => low_then s r x h fun v d ω1 G1 H1 h1 e1 s1 r1 => low_thenO s1 (r.ext e1) (x.mono e1) h1 fun l ω2 G2 H2 h2 e2 s2 => low_thenO s2 (r.ext (e1.trans e2)) (x.mono (e1.trans e2)) h2 fun u ω3 G3 H3 h3 e3 s3 =>
    ok F G3 ω3 H3 v d l u Φ Q s3 (r1.ext (e2.trans e3)) h3 (k.mono ((e1.trans e2).trans e3))
end
def slL : D → Option Int → Option Int → Om → (D → Om → Prop) → Prop := fun x l u ω Φ => match x with
  | .tup _ => False
  | _ => onS (asQ x ω) fun ds => Φ (.lst (cutD ds l u)) ω
theorem asQ_lst {F G H : Hp} {ω : Om} {v : V} {x : D} {ds : List D} (s : Sim K F G ω H) (r : Rep K G v x) (hn : ∀ es, x ≠ .tup es) (h : asQ x ω = some ds) : ∃ a xs, v = .ref a ∧ SqL K H a xs ∧ RepL K G xs ds := by
  cases x with
  | tup es => exact absurd rfl (hn es)
  | scr ns =>
    cases h
    obtain ⟨a, e, ha⟩ := r.invScr
    exact ⟨a, _, e, ex_l s.exG ha, RepL.mkI ns⟩
  | lst es =>
    obtain ⟨a, xs, h1, h2, h3⟩ := asL_ok s r (show asL (.lst es) ω = some ds from h)
    exact ⟨a, xs, h1, sq_of h2, h3⟩
  | mref p =>
    obtain ⟨a, xs, h1, h2, h3⟩ := asL_ok s r (show asL (.mref p) ω = some ds from h)
    exact ⟨a, xs, h1, sq_of h2, h3⟩
  | _ => cases h
theorem ok_slL : ∀ F G ω H v x l u Φ Q, Sim K F G ω H → Rep K G v x → slL x l u ω Φ → Kont K F G Φ Q → rSlL K v l u H Q := fun F G ω H v x l u Φ Q s r h k => by
  have h' : (∀ es, x ≠ .tup es) ∧ onS (asQ x ω) fun ds => Φ (.lst (cutD ds l u)) ω := by
    cases x <;> first | exact h.elim | exact ⟨(fun es z => nomatch z), h⟩
  obtain ⟨hn, h⟩ := h'
  obtain ⟨ds, h1, hd⟩ := onS_ok h
  obtain ⟨a, xs, e1, ha, hr⟩ := asQ_lst s r hn h1
  refine ⟨a, xs, e1, ha, fun p hp => ?_⟩
  have e := Ex.new (o := .lst (cutV xs l u)) (s.freshF hp).2.1
  exact k _ _ ω _ _ hd e (s.new trivial hp) (.mkL upd_same ((cut_ok hr).ext e))
/-! #### built-ins -/
def intsOf : List D → Option (List Int)
  | [] => some []
  | .int i :: r => (intsOf r).map fun s => i :: s
  | _ :: _ => none
theorem intsOf_map : ∀ ns : List Int, intsOf (ns.map D.int) = some ns
  | [] => rfl
  | n :: r => by
    show (intsOf (r.map D.int)).map _ = _
    rw [intsOf_map r]
    rfl
theorem intsOf_ok : ∀ {ds : List D} {ns : List Int}, intsOf ds = some ns → ds = ns.map D.int
  | [], ns, h => by cases h; rfl
  | .int i :: r, ns, h => by
    simp only [intsOf, Option.map_eq_some_iff] at h
    obtain ⟨s, h1, rfl⟩ := h
    rw [intsOf_ok h1]
    rfl
  | .non :: _, _, h => by cases h
  | .bl _ :: _, _, h => by cases h
  | .str _ :: _, _, h => by cases h
  | .scr _ :: _, _, h => by cases h
  | .lst _ :: _, _, h => by cases h
  | .tup _ :: _, _, h => by cases h
  | .prog _ :: _, _, h => by cases h
  | .mref _ :: _, _, h => by cases h
  | .glob _ :: _, _, h => by cases h
  | .ty _ :: _, _, h => by cases h
  | .ins _ _ :: _, _, h => by cases h
/-- one argument -/
theorem one_arg {G : Hp} {vs : List V} {d : D} (r : RepL K G vs [d]) : ∃ v, vs = [v] ∧ Rep K G v d := by
  obtain ⟨v, t, rfl, h1, h2⟩ := r.consInv
  cases h2.nilInv
  exact ⟨v, rfl, h1⟩
theorem two_args {G : Hp} {vs : List V} {d e : D} (r : RepL K G vs [d, e]) : ∃ v u, vs = [v, u] ∧ Rep K G v d ∧ Rep K G u e := by
  obtain ⟨v, t, rfl, h1, h2⟩ := r.consInv
  obtain ⟨u, rfl, h3⟩ := one_arg h2
  exact ⟨v, u, rfl, h1, h3⟩
def onInts (ds : List D) (ω : Om) (k : List Int → Prop) : Prop := match ds with
  | [x] => onS (asL x ω) fun xs => onS (intsOf xs) k
  | _ => False
theorem onInts_ok {F G H : Hp} {ω : Om} {vs : List V} {ds : List D} {k : List Int → Prop} (s : Sim K F G ω H) (r : RepL K G vs ds) (h : onInts ds ω k) : ∃ a ns, vs = [.ref a] ∧ H a = some (.lst (ns.map V.int)) ∧ k ns := by
  match ds, r, h with
  | [x], r, h =>
    obtain ⟨v, rfl, h1⟩ := one_arg r
    obtain ⟨es, h2, h⟩ := onS_ok h
    obtain ⟨ns, h3, h⟩ := onS_ok h
    obtain ⟨a, xs, rfl, ha, hr⟩ := asL_ok s h1 h2
    rw [intsOf_ok h3] at hr
    rw [hr.ints] at ha
    exact ⟨a, ns, rfl, ha, h⟩
def cMax : RC1 := fun ds ω Φ => onInts ds ω fun ns => ns ≠ [] ∧ Φ (.int (maxL ns)) ω
def minLI : List Int → Int
  | [] => 0
  | x :: r => r.foldl min x
theorem minLI_spec : ∀ (r : List Int) (x : Int), (r.foldl min x = x ∨ r.foldl min x ∈ r) ∧ r.foldl min x ≤ x ∧ ∀ y ∈ r, r.foldl min x ≤ y
  | [], x => ⟨.inl rfl, Int.le_refl x, fun _ h => nomatch h⟩
  | z :: r, x => by
    obtain ⟨h1, h2, h3⟩ := minLI_spec r (min x z)
    rw [List.foldl_cons]
    refine ⟨?_, by omega, fun y hy => ?_⟩
    · rcases h1 with h1 | h1
      · rw [h1]
        by_cases h : x ≤ z
        · exact .inl (by omega)
        · exact .inr (by rw [show min x z = z by omega]; exact List.mem_cons_self)
      · exact .inr (List.mem_cons_of_mem _ h1)
    · rcases List.mem_cons.mp hy with rfl | hy
      · omega
      · exact h3 y hy
theorem minLI_mem {l : List Int} (h : l ≠ []) : minLI l ∈ l := by
  cases l with
  | nil => exact absurd rfl h
  | cons x r =>
    rcases (minLI_spec r x).1 with e | e
    · show r.foldl min x ∈ x :: r
      rw [e]
      exact List.mem_cons_self
    · exact List.mem_cons_of_mem _ e
theorem minLI_le {l : List Int} {y : Int} (h : y ∈ l) : minLI l ≤ y := by
  cases l with
  | nil => cases h
  | cons x r =>
    obtain ⟨_, h2, h3⟩ := minLI_spec r x
    rcases List.mem_cons.mp h with rfl | h
    · exact h2
    · exact h3 y h
theorem minLI_unique {l : List Int} {m : Int} (h : m ∈ l) (hm : ∀ a ∈ l, m ≤ a) : m = minLI l := by
  have h1 := minLI_le h
  have h2 := hm _ (minLI_mem (by intro z; rw [z] at h; cases h))
  omega
def cMin : RC1 := fun ds ω Φ => onInts ds ω fun ns => ns ≠ [] ∧ Φ (.int (minLI ns)) ω
def cSum : RC1 := fun ds ω Φ => onInts ds ω fun ns => Φ (.int ns.sum) ω
def cSorted : RC1 := fun ds ω Φ => onInts ds ω fun ns => ∀ ms : List Int, ms.Perm ns → ms.Pairwise (· ≤ ·) → Φ (.lst (ms.map D.int)) ω
theorem ok_max : CallOk K (rMax K) cMax := fun F G ω H vs ds Φ Q s r h k => by
  obtain ⟨a, ns, rfl, ha, hne, h⟩ := onInts_ok s r h
  refine ⟨a, ns, rfl, sq_of ha, List.length_pos_iff.mpr hne, fun m hm hmx => ?_⟩
  rw [maxL_unique hm hmx]
  exact k _ _ ω G H h (Ex.refl G) s .int
theorem ok_min : CallOk K (rMin K) cMin := fun F G ω H vs ds Φ Q s r h k => by
  obtain ⟨a, ns, rfl, ha, hne, h⟩ := onInts_ok s r h
  refine ⟨a, ns, rfl, sq_of ha, List.length_pos_iff.mpr hne, fun m hm hmx => ?_⟩
  rw [minLI_unique hm hmx]
  exact k _ _ ω G H h (Ex.refl G) s .int
theorem ok_sum : CallOk K (rSum K) cSum := fun F G ω H vs ds Φ Q s r h k => by
  obtain ⟨a, ns, rfl, ha, h⟩ := onInts_ok s r h
  exact ⟨a, ns, rfl, sq_of ha, k _ _ ω G H h (Ex.refl G) s .int⟩
theorem ok_sorted : CallOk K (rSortedI K) cSorted := fun F G ω H vs ds Φ Q s r h k => by
  obtain ⟨a, ns, rfl, ha, h⟩ := onInts_ok s r h
  refine ⟨a, ns, rfl, sq_of ha, fun ms p perm pw hp => ?_⟩
  exact k _ _ ω _ _ (h ms perm pw) (Ex.new (s.freshF hp).2.1) (s.new trivial hp) (.mkL upd_same (RepL.mkI ms))
def cMax2 : RC1 := fun ds ω Φ => match ds with
  | [.int i, .int j] => Φ (.int (max i j)) ω
  | _ => False
def cMin2 : RC1 := fun ds ω Φ => match ds with
  | [.int i, .int j] => Φ (.int (min i j)) ω
  | _ => False
theorem ok_max2 : CallOk K rMax2 cMax2 := fun F G ω H vs ds Φ Q s r h k => by
  match ds, r, h with
  | [.int i, .int j], r, h =>
    obtain ⟨v, u, rfl, h1, h2⟩ := two_args r
    refine ⟨i, j, by rw [h1.invI, h2.invI], ?_⟩
    have e : (if j > i then j else i) = max i j := by split <;> omega
    rw [e]
    exact k _ _ ω G H h (Ex.refl G) s .int
theorem ok_min2 : CallOk K rMin2 cMin2 := fun F G ω H vs ds Φ Q s r h k => by
  match ds, r, h with
  | [.int i, .int j], r, h =>
    obtain ⟨v, u, rfl, h1, h2⟩ := two_args r
    refine ⟨i, j, by rw [h1.invI, h2.invI], ?_⟩
    have e : (if j < i then j else i) = min i j := by split <;> omega
    rw [e]
    exact k _ _ ω G H h (Ex.refl G) s .int
def cLen : RC1 := fun ds ω Φ => match ds with
  | [x] => onS (asQ x ω) fun xs => Φ (.int (xs.length : Int)) ω
  | _ => False
theorem ok_len : CallOk K (fun xs H Q => ∃ p ys, xs = [.ref p] ∧ (SqL K H p ys ∨ SqT K H p ys) ∧ Q (.int ys.length) H) cLen := fun F G ω H vs ds Φ Q s r h k => by
  match ds, r, h with
  | [x], r, h =>
    obtain ⟨v, rfl, h1⟩ := one_arg r
    obtain ⟨es, h2, h⟩ := onS_ok h
    obtain ⟨a, xs, rfl, ha, hr⟩ := asQ_ok s h1 h2
    refine ⟨a, xs, rfl, ha, ?_⟩
    rw [hr.len]
    exact k _ _ ω G H h (Ex.refl G) s .int
def cList : RC1 := fun ds ω Φ => match ds with
  | [x] => onS (asQ x ω) fun xs => Φ (.lst xs) ω
  | _ => False
def cListM : RC1 := fun ds ω Φ => match ds with
  | [x] => onS (asQ x ω) fun xs => ∀ p, ω p = none → Φ (.mref p) (ω.put p (.lst xs))
  | _ => False
theorem ok_list : CallOk K (fun xs H Q => ∃ p ys, xs = [.ref p] ∧ (SqL K H p ys ∨ SqT K H p ys) ∧ ∀ l, H l = none → Q (.ref l) (upd H l (.lst ys))) cList := fun F G ω H vs ds Φ Q s r h k => by
  match ds, r, h with
  | [x], r, h =>
    obtain ⟨v, rfl, h1⟩ := one_arg r
    obtain ⟨es, h2, h⟩ := onS_ok h
    obtain ⟨a, xs, rfl, ha, hr⟩ := asQ_ok s h1 h2
    refine ⟨a, xs, rfl, ha, fun l hl => ?_⟩
    have e := Ex.new (o := .lst xs) (s.freshF hl).2.1
    exact k _ _ ω _ _ h e (s.new trivial hl) (.mkL upd_same (hr.ext e))
theorem ok_listM : CallOk K (fun xs H Q => ∃ p ys, xs = [.ref p] ∧ (SqL K H p ys ∨ SqT K H p ys) ∧ ∀ l, H l = none → Q (.ref l) (upd H l (.lst ys))) cListM := fun F G ω H vs ds Φ Q s r h k => by
  match ds, r, h with
  | [x], r, h =>
    obtain ⟨v, rfl, h1⟩ := one_arg r
    obtain ⟨es, h2, h⟩ := onS_ok h
    obtain ⟨a, xs, rfl, ha, hr⟩ := asQ_ok s h1 h2
    exact ⟨a, xs, rfl, ha, fun l hl => k _ _ _ G _ (h l (s.freshF hl).2.2) (Ex.refl G) (s.newM hr hl) .mref⟩
def cInt : RC1 := fun ds ω Φ => match ds with
  | [.int i] => Φ (.int i) ω
  | [.bl b] => Φ (.int (if b then 1 else 0)) ω
  | _ => False
theorem ok_int : CallOk K rInt1 cInt := fun F G ω H vs ds Φ Q s r h k => by
  match ds, r, h with
  | [.int i], r, h =>
    obtain ⟨v, rfl, h1⟩ := one_arg r
    exact .inl ⟨i, by rw [h1.invI], k _ _ ω G H h (Ex.refl G) s .int⟩
  | [.bl b], r, h =>
    obtain ⟨v, rfl, h1⟩ := one_arg r
    exact .inr ⟨b, by rw [h1.invB], k _ _ ω G H h (Ex.refl G) s .int⟩
end
end Cu

/-! == DJ -/
set_option maxHeartbeats 4000000
namespace Cu
open PySem PySem.Spec PyProof.Rows L2 Evl CuT
/-! ### programs by data -/
inductive Fd where
  | kind | parts | number | words | nodes | depth | span | broken
def Fd.s : Fd → Str
  | .kind => "kind" | .parts => "parts" | .number => "number" | .words => "words" | .nodes => "nodes" | .depth => "depth" | .span => "span" | .broken => "broken"
def brD : Option Str → D
  | none => .non
  | some w => .str w
theorem brD_rep {K : PySem.W.Frag} {G : Hp} {b : Option Str} : Rep K G (brV b) (brD b) := by
  cases b with
  | none => exact .non
  | some w => exact .str
theorem isNon_brD (b : Option Str) : isNon (brD b) = b.isNone := by cases b <;> rfl
def fldP : Fd → Prog → D
  | .kind, p => .str p.kind.s
  | .parts, p => .lst (p.parts.map D.prog)
  | .number, p => .int p.number
  | .words, p => .lst (p.words.map D.str)
  | .nodes, p => .int p.nodes
  | .depth, p => .int p.depth
  | .span, p => .int p.span
  | .broken, p => brD p.broken
def dFld (f : Fd) (d : RE) : RE := fun ξ ρ ω Φ => d ξ ρ ω fun x ω1 => match x with
  | .prog p => Φ (fldP f p) ω1
  | _ => False
section
variable {X : Cx} {E : XK} {pos : Pos}
theorem de_fld (f : Fd) {e : Expr} {d : RE} (hc : Cls X.K (PC X.K)) (hn : NoAttr X.K (PC X.K) f.s) (h : DE X E e d) (hb : attributeBase e f.s X.env (eval e X.env) = eval e X.env := by rfl) : DE X E (.Attribute e f.s pos) (dFld f d) :=
  de_of (pe_fld h hb) fun σ H Q ⟨F, G, ω, ρ, Φ, ξ, s, r, h, k, x⟩ => low_then s r x h fun v d ω1 G1 H1 h1 e1 s1 r1 => by
    cases d with
    | prog p =>
      obtain ⟨a, rfl, ha⟩ := r1.invP
      obtain ⟨dx, l, w, h2, h3, h4⟩ := ha.at_
      have h2' := s1.exG _ _ h2
      have k' := k
      cases f with
      | kind => exact ⟨a, _, dx, _, _, rfl, h2', hc, hn, rfl, k _ _ ω1 G1 H1 h1 e1 s1 .str⟩
      | parts => exact ⟨a, _, dx, _, _, rfl, h2', hc, hn, rfl, k _ _ ω1 G1 H1 h1 e1 s1 (.mkPL h3)⟩
      | number => exact ⟨a, _, dx, _, _, rfl, h2', hc, hn, rfl, k _ _ ω1 G1 H1 h1 e1 s1 .int⟩
      | words => exact ⟨a, _, dx, _, _, rfl, h2', hc, hn, rfl, k _ _ ω1 G1 H1 h1 e1 s1 (.mkL h4 (RepL.mkS _))⟩
      | nodes => exact ⟨a, _, dx, _, _, rfl, h2', hc, hn, rfl, k _ _ ω1 G1 H1 h1 e1 s1 .int⟩
      | depth => exact ⟨a, _, dx, _, _, rfl, h2', hc, hn, rfl, k _ _ ω1 G1 H1 h1 e1 s1 .int⟩
      | span => exact ⟨a, _, dx, _, _, rfl, h2', hc, hn, rfl, k _ _ ω1 G1 H1 h1 e1 s1 .int⟩
      | broken => exact ⟨a, _, dx, _, _, rfl, h2', hc, hn, rfl, k _ _ ω1 G1 H1 h1 e1 s1 brD_rep⟩
    | _ => exact h1.elim
/-- a method of a program -/
def dMeth (S : SD) (d : RE) (da : RA) : RE := fun ξ ρ ω Φ => d ξ ρ ω fun x ω1 => match x with
  | .prog p => da ξ ρ ω1 fun xs ω2 => S ξ (.prog p :: xs) ω2 Φ
  | _ => False
def NoFld (m : Str) : Prop := ∀ k l n w nd d s b, (flds k l n w nd d s b).lookup m = none
theorem meth_low {S : SD} {d : RE} {da : RA} {m : Str} (hm : NoFld m) : ∀ σ H Q, lowE X.K E (dMeth S d da) σ H Q → tMethR (PC X.K) m (spD X.K S) E (lowE X.K E d) (lowA X.K E da) σ H Q := fun σ H Q ⟨F, G, ω, ρ, Φ, ξ, s, r, h, k, x⟩ => low_then s r x h fun v d ω1 G1 H1 h1 e1 s1 r1 => by
  cases d with
  | prog p =>
    obtain ⟨a, rfl, ha⟩ := r1.invP
    obtain ⟨dx, l, w, h2, _⟩ := ha.at_
    refine ⟨a, dx, _, rfl, s1.exG _ _ h2, hm _ _ _ _ _ _ _ _, low_thenA s1 (r.ext e1) (x.mono e1) h1 fun vs ds ω2 G2 H2 h2 e2 s2 r2 => ⟨F, G2, ω2, _, Φ, ξ, s2, .cons (.prog (ha.ext e2)) r2, h2, k.mono (e1.trans e2), x.mono (e1.trans e2)⟩⟩
  | _ => exact h1.elim
theorem de_meth {k : Nat} {f : Addr} {S : SD} {m : Str} {apos : Pos} {e o : Expr} {es : List Expr} {d : RE} {da : RA} {pl : Sem Bool} (he : DE X E o d) (c : Cls X.K (PC X.K)) (hm : Meth X.K (PC X.K) m f) (nf : NoFld m) (F : FnR X.prog X.w X.K X.mg X.base (L2.CX X.prog X.w) k f (spD X.K S)) (hr : Room k X.A) (hx : Passes (L2.CX X.prog X.w) X E) (ha : DA X E (e :: es) da)
    (hst : starEach (e :: es) X.env = (false, eval e X.env) :: starEach es X.env := by rfl) (hpl : (backTo pos (starEach es X.env)).any (·.1) = false := by rfl)
    (ht : eval (.Call (.Attribute o m apos) (e :: es) [] pos) X.env = (do
      let ov ← eval o X.env
      standAt apos.atName
      let (f, first) ← holding [ov] (getMethod ov m pl)
      callWith pos f first (backTo pos (starEach (e :: es) X.env)) (backToKw pos (keywordEach [] X.env))) := by rfl) : DE X E (.Call (.Attribute o m apos) (e :: es) [] pos) (dMeth S d da) :=
  de_of (pe_methR he c hm F hr hx ha hst hpl ht) (meth_low nf)
theorem de_meth0 {k : Nat} {f : Addr} {S : SD} {m : Str} {apos : Pos} {o : Expr} {d : RE} {pl : Sem Bool} (he : DE X E o d) (c : Cls X.K (PC X.K)) (hm : Meth X.K (PC X.K) m f) (nf : NoFld m) (F : FnR X.prog X.w X.K X.mg X.base (L2.CX X.prog X.w) k f (spD X.K S)) (hr : Room k X.A) (hx : Passes (L2.CX X.prog X.w) X E)
    (ht : eval (.Call (.Attribute o m apos) [] [] pos) X.env = (do
      let ov ← eval o X.env
      standAt apos.atName
      let (f, first) ← holding [ov] (getMethod ov m pl)
      callWith pos f first (backTo pos (starEach [] X.env)) (backToKw pos (keywordEach [] X.env))) := by rfl) : DE X E (.Call (.Attribute o m apos) [] [] pos) (dMeth S d dNil) :=
  de_of (pe_methR0 he c hm F hr hx ht) fun σ H Q q => by
    have h := meth_low nf σ H Q q
    obtain ⟨F, G, ω, ρ, Φ, ξ, s, r, h, k, x⟩ := h
    refine ⟨F, G, ω, ρ, Φ, ξ, s, r, h, fun v d ω' G' H' h1 e1 s1 r1 => ?_, x⟩
    obtain ⟨a, dx, fs, e, h2, h3, F, G, ω, ρ, Φ, ξ, s, r, h, k, x⟩ := k v d ω' G' H' h1 e1 s1 r1
    exact ⟨a, dx, fs, e, h2, h3, k [] [] ω G _ h (Ex.refl G) s .nil⟩
/-- a program called -/
theorem de_callP {k : Nat} {g : Addr} {S : SD} {fe e : Expr} {es : List Expr} {d : RE} {da : RA} (hf : DE X E0 fe d) (c : StX.CallO X.K (PC X.K) g) (F : FnR X.prog X.w X.K X.mg X.base (L2.CX X.prog X.w) k g (spD X.K S)) (hr : Room k X.A) (ha : DA X E0 (e :: es) da)
    (ht : eval (.Call fe (e :: es) [] pos) X.env = (do callWith pos (← eval fe X.env) [] (backTo pos (starEach (e :: es) X.env)) (backToKw pos (keywordEach [] X.env))) := by rfl)
    (he : starEach (e :: es) X.env = (false, eval e X.env) :: starEach es X.env := by rfl) (hpl : (backTo pos (starEach es X.env)).any (·.1) = false := by rfl) : DE X E0 (.Call fe (e :: es) [] pos) (dMeth S d da) :=
  de_of (pe_callP hf c F hr ha ht he hpl) fun σ H Q ⟨F, G, ω, ρ, Φ, ξ, s, r, h, k, x⟩ => low_then s r x h fun v d ω1 G1 H1 h1 e1 s1 r1 => by
    cases d with
    | prog p =>
      obtain ⟨a, rfl, ha⟩ := r1.invP
      refine ⟨a, rfl, low_thenA s1 (r.ext e1) (x.mono e1) h1 fun vs ds ω2 G2 H2 h2 e2 s2 r2 => ?_⟩
      obtain ⟨dx, l, w, h3, _⟩ := (ha.ext e2).at_
      exact ⟨⟨dx, _, s2.exG _ _ h3⟩, F, G2, ω2, _, Φ, ξ, s2, .cons (.prog (ha.ext e2)) r2, h2, k.mono (e1.trans e2), x.mono (e1.trans e2)⟩
    | _ => exact h1.elim
/-- p op q, p op n -/
def oOwn (S : SD) : RR2 := fun x y ω Φ => match x, y with
  | .prog p, .prog q => S xno [.prog p, .prog q] ω Φ
  | .prog p, .int n => S xno [.prog p, .int n] ω Φ
  | _, _ => False
theorem ok_own {K : PySem.W.Frag} {S : SD} : OpOk K (rOwn (PC K) (spD K S) E0) (oOwn S) := fun F G ω H x y dx dy Φ Q s rx ry hd k => by
  cases dx with
  | prog p =>
    obtain ⟨a, rfl, ha⟩ := rx.invP
    obtain ⟨dx, l, w, h2, _⟩ := ha.at_
    cases dy with
    | prog q =>
      obtain ⟨b, rfl, hb⟩ := ry.invP
      obtain ⟨dy, l', w', h3, _⟩ := hb.at_
      exact ⟨a, dx, _, rfl, s.exG _ _ h2, .inr ⟨b, dy, _, rfl, s.exG _ _ h3⟩, F, G, ω, _, Φ, xno, s, .cons rx (.cons ry .nil), hd, k, XOk.no⟩
    | int n =>
      cases ry.invI
      exact ⟨a, dx, _, rfl, s.exG _ _ h2, .inl ⟨n, rfl⟩, F, G, ω, _, Φ, xno, s, .cons rx (.cons ry .nil), hd, k, XOk.no⟩
    | _ => exact hd.elim
  | _ => exact hd.elim
variable {k : Nat} {S : SD}
theorem op_addD (T : Txt X.K X.mg) (F : FnR X.prog X.w X.K X.mg X.base (L2.CX X.prog X.w) k (He.ma X.K (He.ga X.K "Program") "__add__") (spD X.K S)) (hr : Room k X.A) : OpR X (binaryOp .Add) (rOwn (PC X.K) (spD X.K S) E0) :=
  op_own F hr passL T.sf_Program T.m_Program_add.at_ T.m_Program_add.fn T.n_Program_radd (by rfl) (by rfl) T.sub_Program
theorem op_mulD (T : Txt X.K X.mg) (F : FnR X.prog X.w X.K X.mg X.base (L2.CX X.prog X.w) k (He.ma X.K (He.ga X.K "Program") "__mul__") (spD X.K S)) (hr : Room k X.A) : OpR X (binaryOp .Mult) (rOwn (PC X.K) (spD X.K S) E0) :=
  op_own F hr passL T.sf_Program T.m_Program_mul.at_ T.m_Program_mul.fn T.n_Program_rmul (by rfl) (by rfl) T.sub_Program
theorem op_orD (T : Txt X.K X.mg) (F : FnR X.prog X.w X.K X.mg X.base (L2.CX X.prog X.w) k (He.ma X.K (He.ga X.K "Program") "__or__") (spD X.K S)) (hr : Room k X.A) : OpR X (binaryOp .BitOr) (rOwn (PC X.K) (spD X.K S) E0) :=
  op_own F hr passL T.sf_Program T.m_Program_or.at_ T.m_Program_or.fn T.n_Program_ror (by rfl) (by rfl) T.sub_Program
end
/-! ### promises by data -/
def strsOf : List D → Option (List Str)
  | [] => some []
  | .str i :: r => (strsOf r).map fun s => i :: s
  | _ :: _ => none
theorem strsOf_map : ∀ ns : List Str, strsOf (ns.map D.str) = some ns
  | [] => rfl
  | n :: r => by
    show (strsOf (r.map D.str)).map _ = _
    rw [strsOf_map r]
    rfl
def progsOf : List D → Option (List Prog)
  | [] => some []
  | .prog i :: r => (progsOf r).map fun s => i :: s
  | _ :: _ => none
theorem progsOf_map : ∀ ns : List Prog, progsOf (ns.map D.prog) = some ns
  | [] => rfl
  | n :: r => by
    show (progsOf (r.map D.prog)).map _ = _
    rw [progsOf_map r]
    rfl
theorem strsOf_ok : ∀ {ds : List D} {ns : List Str}, strsOf ds = some ns → ds = ns.map D.str
  | [], ns, h => by cases h; rfl
  | .str i :: r, ns, h => by
    simp only [strsOf, Option.map_eq_some_iff] at h
    obtain ⟨s, h1, rfl⟩ := h
    rw [strsOf_ok h1]
    rfl
  | .non :: _, _, h => by cases h
  | .bl _ :: _, _, h => by cases h
  | .int _ :: _, _, h => by cases h
  | .scr _ :: _, _, h => by cases h
  | .lst _ :: _, _, h => by cases h
  | .tup _ :: _, _, h => by cases h
  | .prog _ :: _, _, h => by cases h
  | .mref _ :: _, _, h => by cases h
  | .glob _ :: _, _, h => by cases h
  | .ty _ :: _, _, h => by cases h
  | .ins _ _ :: _, _, h => by cases h
theorem progsOf_ok : ∀ {ds : List D} {ns : List Prog}, progsOf ds = some ns → ds = ns.map D.prog
  | [], ns, h => by cases h; rfl
  | .prog i :: r, ns, h => by
    simp only [progsOf, Option.map_eq_some_iff] at h
    obtain ⟨s, h1, rfl⟩ := h
    rw [progsOf_ok h1]
    rfl
  | .non :: _, _, h => by cases h
  | .bl _ :: _, _, h => by cases h
  | .int _ :: _, _, h => by cases h
  | .scr _ :: _, _, h => by cases h
  | .lst _ :: _, _, h => by cases h
  | .tup _ :: _, _, h => by cases h
  | .str _ :: _, _, h => by cases h
  | .mref _ :: _, _, h => by cases h
  | .glob _ :: _, _, h => by cases h
  | .ty _ :: _, _, h => by cases h
  | .ins _ _ :: _, _, h => by cases h
section
variable {P : Program} {w : World} {K : PySem.W.Frag} {mg : Str → Option Value} {base : Heap}
theorem three_args {G : Hp} {vs : List V} {d e f : D} (r : RepL K G vs [d, e, f]) : ∃ v u t, vs = [v, u, t] ∧ Rep K G v d ∧ Rep K G u e ∧ Rep K G t f := by
  obtain ⟨v, t, rfl, h1, h2⟩ := r.consInv
  obtain ⟨u, t, rfl, h3, h4⟩ := two_args h2
  exact ⟨v, u, t, rfl, h1, h3, h4⟩
def sEnd : SD := fun _ ds ω Φ => match ds with
  | [.prog p, .int c] => WF p ∧ 0 ≤ c ∧ Φ (.int (endA p c)) ω
  | _ => False
theorem fd_end_after (T : Txt K mg) : FnD P w K mg base 123 (He.ga K "end_after") sEnd := fnd_of (end_all T 60) fun ξ vs ds G ω Φ Q r h k => by
  match ds, r, h with
  | [.prog p, .int c], r, ⟨hw, hc, h⟩ =>
    obtain ⟨v, u, rfl, h1, h2⟩ := two_args r
    obtain ⟨a, rfl, ha⟩ := h1.invP
    cases h2.invI
    exact ⟨a, p, c, rfl, ha, hw, hw.depth_le, hc, fun H' e => k _ _ H' h e .int⟩
theorem fd_Program_call (T : Txt K mg) : FnD P w K mg base 124 (He.ma K (He.ga K "Program") "__call__") sEnd := fnd_of (r_Program_call T) fun ξ vs ds G ω Φ Q r h k => by
  match ds, r, h with
  | [.prog p, .int c], r, ⟨hw, hc, h⟩ =>
    obtain ⟨v, u, rfl, h1, h2⟩ := two_args r
    obtain ⟨a, rfl, ha⟩ := h1.invP
    cases h2.invI
    exact ⟨a, p, c, rfl, ha, hw, hc, fun H' e => k _ _ H' h e .int⟩
/-- a question to a program -/
def sAsk (f : Prog → D) : SD := fun _ ds ω Φ => match ds with
  | [.prog p] => Φ (f p) ω
  | _ => False
theorem fd_Program_total_length (T : Txt K mg) : FnD P w K mg base 1 (He.ma K (He.ga K "Program") "total_length") (sAsk fun p => .int p.span) := fnd_of (r_Program_total_length T) fun ξ vs ds G ω Φ Q r h k => by
  match ds, r, h with
  | [.prog p], r, h =>
    obtain ⟨v, rfl, h1⟩ := one_arg r
    obtain ⟨a, rfl, ha⟩ := h1.invP
    exact ⟨a, p, rfl, ha, fun H' e => k _ _ H' h e .int⟩
def sSleep : SD := fun _ ds ω Φ => match ds with
  | [.int n] => 0 ≤ n ∧ n ≤ mostT ∧ Φ (.prog (mkP .sleep [] n [])) ω
  | _ => False
theorem fd_sleep (T : Txt K mg) : FnD P w K mg base 128 (He.ga K "sleep") sSleep := fnd_of (r_sleep T) fun ξ vs ds G ω Φ Q r h k => by
  match ds, r, h with
  | [.int n], r, ⟨h0, h1, h⟩ =>
    obtain ⟨v, rfl, h2⟩ := one_arg r
    cases h2.invI
    exact ⟨n, rfl, h0, h1, fun H' a e hp => k _ _ H' h e (.prog hp)⟩
def sFail : SD := fun _ ds ω Φ => match ds with
  | [.str z] => IsName z ∧ Φ (.prog (mkP .fail [] 0 [z])) ω
  | _ => False
theorem fd_fail (T : Txt K mg) : FnD P w K mg base 128 (He.ga K "fail") sFail := fnd_of (r_fail T) fun ξ vs ds G ω Φ Q r h k => by
  match ds, r, h with
  | [.str z], r, ⟨h0, h⟩ =>
    obtain ⟨v, rfl, h2⟩ := one_arg r
    cases h2.invS
    exact ⟨z, rfl, h0, fun H' a e hp => k _ _ H' h e (.prog hp)⟩
def sShield : SD := fun _ ds ω Φ => match ds with
  | [.prog p] => MkOk .shield [p] 0 [] ∧ Φ (.prog (mkP .shield [p] 0 [])) ω
  | _ => False
theorem fd_shield (T : Txt K mg) : FnD P w K mg base 128 (He.ga K "shield") sShield := fnd_of (r_shield T) fun ξ vs ds G ω Φ Q r h k => by
  match ds, r, h with
  | [.prog p], r, ⟨h0, h⟩ =>
    obtain ⟨v, rfl, h2⟩ := one_arg r
    obtain ⟨a, rfl, ha⟩ := h2.invP
    exact ⟨a, p, rfl, ha, h0, fun H' a e hp => k _ _ H' h e (.prog hp)⟩
def sCleanup : SD := fun _ ds ω Φ => match ds with
  | [.prog p, .prog q] => MkOk .cleanup [p, q] 0 [] ∧ Φ (.prog (mkP .cleanup [p, q] 0 [])) ω
  | _ => False
theorem fd_cleanup (T : Txt K mg) : FnD P w K mg base 128 (He.ga K "cleanup") sCleanup := fnd_of (r_cleanup T) fun ξ vs ds G ω Φ Q r h k => by
  match ds, r, h with
  | [.prog p, .prog q], r, ⟨h0, h⟩ =>
    obtain ⟨v, u, rfl, h2, h3⟩ := two_args r
    obtain ⟨a, rfl, ha⟩ := h2.invP
    obtain ⟨b, rfl, hb⟩ := h3.invP
    exact ⟨a, b, p, q, rfl, ha, hb, h0, fun H' a e hp => k _ _ H' h e (.prog hp)⟩
def sFallback : SD := fun _ ds ω Φ => match ds with
  | [.prog p, .lst l, .prog q] => onS (strsOf l) fun ws => 1 ≤ ws.length ∧ ws.length ≤ 20 ∧ (∀ z ∈ ws, IsName z) ∧ ws.Nodup ∧ MkOk .fallback [p, q] 0 ws ∧ Φ (.prog (mkP .fallback [p, q] 0 ws)) ω
  | _ => False
theorem fd_fallback (T : Txt K mg) : FnD P w K mg base 128 (He.ga K "fallback") sFallback := fnd_of (r_fallback T) fun ξ vs ds G ω Φ Q r h k => by
  match ds, r, h with
  | [.prog p, .lst l, .prog q], r, h =>
    obtain ⟨ws, hws, n1, n2, n3, n4, h0, h⟩ := onS_ok h
    obtain ⟨v, u, t, rfl, h2, h3, h4⟩ := three_args r
    obtain ⟨a, rfl, ha⟩ := h2.invP
    obtain ⟨b, rfl, hb⟩ := h4.invP
    rw [strsOf_ok hws] at h3
    obtain ⟨l, xs, rfl, hl, hr⟩ := h3.invL
    rw [hr.strs] at hl
    exact ⟨a, b, l, p, q, ws, rfl, ha, hb, hl, n1, n2, n3, n4, h0, fun H' a e hp => k _ _ H' h e (.prog hp)⟩
def sTimeout : SD := fun _ ds ω Φ => match ds with
  | [.int n, .prog p, .str z] => IsName z ∧ MkOk .timeout [p] n [z] ∧ Φ (.prog (mkP .timeout [p] n [z])) ω
  | _ => False
theorem fd_timeout (T : Txt K mg) : FnD P w K mg base 128 (He.ga K "timeout") sTimeout := fnd_of (r_timeout T) fun ξ vs ds G ω Φ Q r h k => by
  match ds, r, h with
  | [.int n, .prog p, .str z], r, ⟨nz, h0, h⟩ =>
    obtain ⟨v, u, t, rfl, h2, h3, h4⟩ := three_args r
    obtain ⟨a, rfl, ha⟩ := h3.invP
    cases h2.invI
    cases h4.invS
    exact ⟨n, a, p, z, rfl, ha, nz, h0, fun H' a e hp => k _ _ H' h e (.prog hp)⟩
def sMoveon : SD := fun _ ds ω Φ => match ds with
  | [.int n, .prog p] => MkOk .moveon [p] n [] ∧ Φ (.prog (mkP .moveon [p] n [])) ω
  | _ => False
theorem fd_move_on (T : Txt K mg) : FnD P w K mg base 128 (He.ga K "move_on") sMoveon := fnd_of (r_move_on T) fun ξ vs ds G ω Φ Q r h k => by
  match ds, r, h with
  | [.int n, .prog p], r, ⟨h0, h⟩ =>
    obtain ⟨v, u, rfl, h2, h3⟩ := two_args r
    obtain ⟨a, rfl, ha⟩ := h3.invP
    cases h2.invI
    exact ⟨n, a, p, rfl, ha, h0, fun H' a e hp => k _ _ H' h e (.prog hp)⟩
def sTogether : SD := fun _ ds ω Φ => match ds with
  | [.lst l] => onS (progsOf l) fun ps => MkOk .together ps 0 [] ∧ Φ (.prog (mkP .together ps 0 [])) ω
  | _ => False
theorem fd_together (T : Txt K mg) : FnD P w K mg base 128 (He.ga K "together") sTogether := fnd_of (r_together T) fun ξ vs ds G ω Φ Q r h k => by
  match ds, r, h with
  | [.lst l], r, h =>
    obtain ⟨ps, hps, h0, h⟩ := onS_ok h
    obtain ⟨v, rfl, h2⟩ := one_arg r
    rw [progsOf_ok hps] at h2
    obtain ⟨l, xs, rfl, hl, hr⟩ := h2.invL
    exact ⟨l, ps, rfl, hr.prL hl, h0, fun H' a e hp => k _ _ H' h e (.prog hp)⟩
def sAdd : SD := fun _ ds ω Φ => match ds with
  | [.prog p, .prog q] => MkOk .seq (flatP p ++ flatP q) 0 [] ∧ Φ (.prog (addP p q)) ω
  | _ => False
theorem fd_Program_add (T : Txt K mg) : FnD P w K mg base 128 (He.ma K (He.ga K "Program") "__add__") sAdd := fnd_of (r_Program_add T) fun ξ vs ds G ω Φ Q r h k => by
  match ds, r, h with
  | [.prog p, .prog q], r, ⟨h0, h⟩ =>
    obtain ⟨v, u, rfl, h2, h3⟩ := two_args r
    obtain ⟨a, rfl, ha⟩ := h2.invP
    obtain ⟨b, rfl, hb⟩ := h3.invP
    exact ⟨a, b, p, q, rfl, ha, hb, h0, fun H' a e hp => k _ _ H' h e (.prog hp)⟩
def sOr : SD := fun _ ds ω Φ => match ds with
  | [.prog p, .prog q] => MkOk .together [p, q] 0 [] ∧ Φ (.prog (mkP .together [p, q] 0 [])) ω
  | _ => False
theorem fd_Program_or (T : Txt K mg) : FnD P w K mg base 128 (He.ma K (He.ga K "Program") "__or__") sOr := fnd_of (r_Program_or T) fun ξ vs ds G ω Φ Q r h k => by
  match ds, r, h with
  | [.prog p, .prog q], r, ⟨h0, h⟩ =>
    obtain ⟨v, u, rfl, h2, h3⟩ := two_args r
    obtain ⟨a, rfl, ha⟩ := h2.invP
    obtain ⟨b, rfl, hb⟩ := h3.invP
    exact ⟨a, b, p, q, rfl, ha, hb, h0, fun H' a e hp => k _ _ H' h e (.prog hp)⟩
def sMul : SD := fun _ ds ω Φ => match ds with
  | [.prog p, .int n] => MkOk .loop [p] n [] ∧ Φ (.prog (mulP p n)) ω
  | _ => False
theorem fd_Program_mul (T : Txt K mg) : FnD P w K mg base 128 (He.ma K (He.ga K "Program") "__mul__") sMul := fnd_of (r_Program_mul T) fun ξ vs ds G ω Φ Q r h k => by
  match ds, r, h with
  | [.prog p, .int n], r, ⟨h0, h⟩ =>
    obtain ⟨v, u, rfl, h2, h3⟩ := two_args r
    obtain ⟨a, rfl, ha⟩ := h2.invP
    cases h3.invI
    exact ⟨a, p, n, rfl, ha, h0, fun H' a e hp => k _ _ H' h e (.prog hp)⟩
end
end Cu

/-! == DK -/
set_option maxHeartbeats 4000000
namespace Cu
open PySem PySem.Spec PyProof.Rows L2 Evl CuT
section
variable {K : PySem.W.Frag} {X : Cx} {E : XK} {pos : Pos}
def oMulS : RR2 := oIC CMul fun i j => .int (i * j)
theorem ok_mulS : OpOk K (rI CMul fun i j => .int (i * j)) oMulS := ok_IC fun _ _ => .int _
def dNeg (d : RE) : RE := fun ξ ρ ω Φ => d ξ ρ ω fun x ω1 => match x with
  | .int i => Φ (.int (-i)) ω1
  | _ => False
theorem de_neg {a : Expr} {d : RE} (h : DE X E a d) : DE X E (.UnaryOp .USub a pos) (dNeg d) := de_of (pe_un un_neg h) fun σ H Q ⟨F, G, ω, ρ, Φ, ξ, s, r, h, k, x⟩ => low_then s r x h fun v d ω1 G1 H1 h1 e1 s1 r1 => by
  cases d with
  | int i => exact ⟨i, r1.invI, k _ _ ω1 G1 H1 h1 e1 s1 .int⟩
  | _ => exact h1.elim
/-- x[i] of a list, a tuple, a text -/
def oIx : RR2 := fun x y ω Φ => match x, y with
  | .str z, .int i => z.length ≤ 100000 ∧ onS (atI z.cps.toList i) fun c => Φ (.str ⟨#[c]⟩) ω
  | x, .int i => onS (asQ x ω) fun ds => onS (atI ds i) fun d => Φ d ω
  | _, _ => False
theorem ok_ix : OpOk K (rIx K) oIx := fun F G ω H x y dx dy Φ Q s rx ry hd k => by
  cases dy with
  | int i =>
    have go : (onS (asQ dx ω) fun ds => onS (atI ds i) fun d => Φ d ω) → rIx K x y H Q := fun hd => by
      obtain ⟨ds, h1, hd⟩ := onS_ok hd
      obtain ⟨d, h2, hd⟩ := onS_ok hd
      obtain ⟨a, xs, e1, ha, hr⟩ := asQ_ok s rx h1
      obtain ⟨v, h3, h4⟩ := atI_ok hr h2
      rcases ha with ha | ha
      · exact .inl ⟨a, xs, i, v, e1, ry.invI, ha, h3, k _ _ ω G H hd (Ex.refl G) s h4⟩
      · exact .inr (.inl ⟨a, xs, i, v, e1, ry.invI, ha, h3, k _ _ ω G H hd (Ex.refl G) s h4⟩)
    cases dx with
    | str z =>
      obtain ⟨hz, hd⟩ := hd
      obtain ⟨c, h1, hd⟩ := onS_ok hd
      exact .inr (.inr ⟨z, i, c, rx.invS, ry.invI, sz_of hz, h1, k _ _ ω G H hd (Ex.refl G) s .str⟩)
    | lst ds => exact go hd
    | tup ds => exact go hd
    | scr ds => exact go hd
    | mref ds => exact go hd
    | _ => exact hd.elim
  | _ => cases dx <;> exact hd.elim
theorem ok_catT : OpOk K (rCatA K) oCatT := fun F G ω H x y dx dy Φ Q s rx ry hd k => by
  cases dx with
  | tup ds =>
    cases dy with
    | tup es =>
      obtain ⟨hl, hd⟩ := hd
      obtain ⟨a, xs, e1, ha, hr⟩ := rx.invT
      obtain ⟨b, ys, e2, hb, hr'⟩ := ry.invT
      refine ⟨a, b, xs, ys, e1, e2, st_of (s.exG _ _ ha), st_of (s.exG _ _ hb), sz_of (by rw [hr.len, hr'.len]; exact hl), fun h0 => ?_, fun h0 h1 => ?_, fun h0 h1 p hp => ?_⟩
      · subst h0
        cases hr
        rw [e2] at ry
        exact k _ _ ω G H hd (Ex.refl G) s ry
      · subst h1
        cases hr'
        rw [List.append_nil] at hd
        rw [e1] at rx
        exact k _ _ ω G H hd (Ex.refl G) s rx
      · have e := Ex.new (o := .tup (xs ++ ys)) (s.freshF hp).2.1
        exact k _ _ ω _ _ hd e (s.new trivial hp) (.mkT upd_same ((hr.append hr').ext e))
    | _ => exact hd.elim
  | _ => exact hd.elim
def slT : D → Option Int → Option Int → Om → (D → Om → Prop) → Prop := fun x l u ω Φ => match x with
  | .tup ds => Φ (.tup (cutD ds l u)) ω
  | _ => False
theorem ok_slT : ∀ F G ω H v x l u Φ Q, Sim K F G ω H → Rep K G v x → slT x l u ω Φ → Kont K F G Φ Q → rSlA K v l u H Q := fun F G ω H v x l u Φ Q s r h k => by
  cases x with
  | tup ds =>
    obtain ⟨a, xs, e1, ha, hr⟩ := r.invT
    refine ⟨a, xs, e1, st_of (s.exG _ _ ha), fun hw => ?_, fun hw p hp => ?_⟩
    · have e : cutD ds l u = ds := by
        unfold cutD
        rw [← hr.len, hw.1, hw.2, List.drop_zero, Nat.sub_zero, hr.len, List.take_length]
      rw [e1] at r
      simp only [slT, e] at h
      exact k _ _ ω G H h (Ex.refl G) s r
    · have e := Ex.new (o := .tup (cutV xs l u)) (s.freshF hp).2.1
      exact k _ _ ω _ _ h e (s.new trivial hp) (.mkT upd_same ((cut_ok hr).ext e))
  | _ => exact h.elim
def slLM : D → Option Int → Option Int → Om → (D → Om → Prop) → Prop := fun x l u ω Φ => match x with
  | .tup _ => False
  | _ => onS (asQ x ω) fun ds => ∀ p, ω p = none → Φ (.mref p) (ω.put p (.lst (cutD ds l u)))
theorem ok_slLM : ∀ F G ω H v x l u Φ Q, Sim K F G ω H → Rep K G v x → slLM x l u ω Φ → Kont K F G Φ Q → rSlL K v l u H Q := fun F G ω H v x l u Φ Q s r h k => by
  have h' : (∀ es, x ≠ .tup es) ∧ onS (asQ x ω) fun ds => ∀ p, ω p = none → Φ (.mref p) (ω.put p (.lst (cutD ds l u))) := by
    cases x <;> first | exact h.elim | exact ⟨(fun es z => nomatch z), h⟩
  obtain ⟨hn, h⟩ := h'
  obtain ⟨ds, h1, hd⟩ := onS_ok h
  obtain ⟨a, xs, e1, ha, hr⟩ := asQ_lst s r hn h1
  exact ⟨a, xs, e1, ha, fun p hp => k _ _ _ G _ (hd p (s.freshF hp).2.2) (Ex.refl G) (s.newM (cut_ok hr) hp) .mref⟩
/-- xs[::-1] -/
def dRev (d : RE) : RE := fun ξ ρ ω Φ => d ξ ρ ω fun x ω1 => onS (asL x ω1) fun ds => Φ (.lst ds.reverse) ω1
theorem de_rev {e : Expr} {d : RE} {k : Nat} {p1 p2 p3 : Pos} (h : DE X E e d) : DE X E (.Subscript e (.Slice none none (some (.UnaryOp .USub (.Constant (.int 1) k p1) p2)) p3) pos) (dRev d) :=
  de_of (pe_revL h) fun σ H Q ⟨F, G, ω, ρ, Φ, ξ, s, r, h, k, x⟩ => low_then s r x h fun v d ω1 G1 H1 h1 e1 s1 r1 => by
    obtain ⟨ds, h2, h1⟩ := onS_ok h1
    obtain ⟨a, xs, e2, ha, hr⟩ := asL_ok s1 r1 h2
    refine ⟨a, xs, e2, sq_of ha, fun p hp => ?_⟩
    have e := Ex.new (o := .lst xs.reverse) (s1.freshF hp).2.1
    exact k _ _ ω1 _ _ h1 (e1.trans e) (s1.new trivial hp) (.mkL upd_same ((hr.rev).ext e))
/-- xs * k -/
def oRep : RR2 := fun x y ω Φ => match y with
  | .int k => onS (asL x ω) fun xs => -1000000 ≤ k ∧ k ≤ 1000000 ∧ xs.length * k.toNat ≤ 100000 ∧ Φ (.lst (List.replicate k.toNat xs).flatten) ω
  | _ => False
def cTuple : RC1 := fun ds ω Φ => match ds with
  | [x] => onS (asQ x ω) fun xs => Φ (.tup xs) ω
  | _ => False
theorem ok_tuple : CallOk K (fun xs H Q => ∃ p ys, xs = [.ref p] ∧ ((SqL K H p ys ∧ ∀ l, H l = none → Q (.ref l) (upd H l (.tup ys))) ∨ (SqT K H p ys ∧ Q (.ref p) H))) cTuple := fun F G ω H vs ds Φ Q s r h k => by
  match ds, r, h with
  | [x], r, h =>
    obtain ⟨v, rfl, h1⟩ := one_arg r
    obtain ⟨es, h2, h⟩ := onS_ok h
    have go : (∃ a xs, v = .ref a ∧ SqL K H a xs ∧ RepL K G xs es) → _ := fun ⟨a, xs, e, ha, hr⟩ => (⟨a, xs, by rw [e], .inl ⟨ha, fun l hl => by
      have e := Ex.new (o := .tup xs) (s.freshF hl).2.1
      exact k _ _ ω _ _ h e (s.new trivial hl) (.mkT upd_same (hr.ext e))⟩⟩ : ∃ p ys, [v] = [V.ref p] ∧ ((SqL K H p ys ∧ ∀ l, H l = none → Q (.ref l) (upd H l (.tup ys))) ∨ (SqT K H p ys ∧ Q (.ref p) H)))
    cases x with
    | tup ds =>
      cases h2
      obtain ⟨a, xs, rfl, ha, hr⟩ := h1.invT
      exact ⟨a, xs, rfl, .inr ⟨st_of (s.exG _ _ ha), k _ _ ω G H h (Ex.refl G) s h1⟩⟩
    | scr ns => exact go (asQ_lst s h1 (fun es z => nomatch z) h2)
    | lst ns => exact go (asQ_lst s h1 (fun es z => nomatch z) h2)
    | mref ns => exact go (asQ_lst s h1 (fun es z => nomatch z) h2)
    | _ => cases h2
theorem de_bm0 {id : String} {name : Str} {o : Expr} {apos cpos : Pos} {r : V → List V → Hp → VK → Prop} {rd : RMt} {d : RE} (pa : PlainAttrs "list") (slot : Slot "list" name id) (hty : typeOf (.builtin id) = pure (.type "method_descriptor")) (hm : MtR X id r) (ok : MtOk X.K r rd) (ho : DE X E o d)
    (hbase : attributeBase o name X.env (eval o X.env) = eval o X.env := by rfl) (hline : (apos.endLine == cpos.line) = true := by rfl) : DE X E (.Call (.Attribute o name apos) [] [] cpos) (dBM rd d dNil) :=
  de_of (pe_bm0 pa slot hty hm ho hbase hline) fun σ H Q ⟨F, G, ω, ρ, Φ, ξ, s, r, h, k, x⟩ => low_then s r x h fun v d ω1 G1 H1 h1 e1 s1 r1 => by
    obtain ⟨⟨p, ds, rfl, hp⟩, h1⟩ := h1
    obtain ⟨xs, hx, _⟩ := s1.isL hp
    cases r1.invM
    exact ⟨tyV_list hx, ok F G1 ω1 H1 _ _ _ _ Φ Q s1 .mref .nil h1 (k.mono e1)⟩
def mClear : RMt := fun x ys ω Φ => match x, ys with
  | .mref p, [] => (match ω p with
    | some (.lst _) => Φ .non (ω.put p (.lst []))
    | _ => False)
  | _, _ => False
theorem ok_clear : MtOk K rClear mClear := fun F G ω H v vs d ds Φ Q s rv rs h k => by
  cases d with
  | mref p =>
    match ds, rs, h with
    | [], rs, h =>
      obtain ⟨ds, hp, h⟩ := omL h
      cases rs
      obtain ⟨xs, hx, hr, hG, hF⟩ := s.isL hp
      exact ⟨p, xs, rv.invM, rfl, hx, k _ _ _ G _ h (Ex.refl G) (s.write hp .nil) .non⟩
    | _ :: _, _, h => exact h.elim
  | _ => exact h.elim
def mReverse : RMt := fun x ys ω Φ => match x, ys with
  | .mref p, [] => (match ω p with
    | some (.lst ds) => Φ .non (ω.put p (.lst ds.reverse))
    | _ => False)
  | _, _ => False
theorem ok_reverse : MtOk K rReverse mReverse := fun F G ω H v vs d ds Φ Q s rv rs h k => by
  cases d with
  | mref p =>
    match ds, rs, h with
    | [], rs, h =>
      obtain ⟨ds, hp, h⟩ := omL h
      cases rs
      obtain ⟨xs, hx, hr, hG, hF⟩ := s.isL hp
      exact ⟨p, xs, rv.invM, rfl, hx, k _ _ _ G _ h (Ex.refl G) (s.write hp hr.rev) .non⟩
    | _ :: _, _, h => exact h.elim
  | _ => exact h.elim
theorem atI_nat' {α : Type} {r : List α} {n : Nat} : atI r (n : Int) = r[n]? := by
  unfold atI ixN
  rw [if_pos (by omega)]
  by_cases h : (n : Int) < r.length
  · rw [if_pos h]
    simp
  · rw [if_neg h, List.getElem?_eq_none (by omega)]
    rfl
theorem atI_0 {α : Type} {x : α} {r : List α} : atI (x :: r) 0 = some x := atI_nat' (n := 0)
theorem atI_1 {α : Type} {x y : α} {r : List α} : atI (x :: y :: r) 1 = some y := atI_nat' (n := 1)
theorem atI_2 {α : Type} {x y z : α} {r : List α} : atI (x :: y :: z :: r) 2 = some z := atI_nat' (n := 2)
theorem atI_3 {α : Type} {x y z u : α} {r : List α} : atI (x :: y :: z :: u :: r) 3 = some u := atI_nat' (n := 3)
theorem atI_m1 {α : Type} {x : α} {r : List α} : atI (r ++ [x]) (-1) = some x := by
  unfold atI ixN
  rw [if_neg (by decide), if_pos (by simp; omega)]
  have e : (-1 + ((r ++ [x]).length : Int)).toNat = r.length := by simp; omega
  rw [e]
  simp
theorem ixN_0 {n : Nat} : ixN (n + 1) 0 = some 0 := by
  unfold ixN
  rw [if_pos (Int.le_refl 0), if_pos (by omega)]
  rfl
theorem ixN_1 {n : Nat} : ixN (n + 2) 1 = some 1 := by
  unfold ixN
  rw [if_pos (by decide), if_pos (by omega)]
  rfl
theorem ixN_2 {n : Nat} : ixN (n + 3) 2 = some 2 := by
  unfold ixN
  rw [if_pos (by decide), if_pos (by omega)]
  rfl
theorem nf_total_length : NoFld "total_length" := fun _ _ _ _ _ _ _ _ => rfl
theorem nf_failure_name : NoFld "failure_name" := fun _ _ _ _ _ _ _ _ => rfl
theorem nf_node_count : NoFld "node_count" := fun _ _ _ _ _ _ _ _ => rfl
end
/-! ### the source of draws -/
def SrcC (c : Cell) (n : Nat) : Prop := ∃ A B k : Int, c = .lst [.int A, .int B, .int k] ∧ 0 ≤ A ∧ 0 ≤ B ∧ B < 2147483647 ∧ 0 ≤ k ∧ k ≤ (n : Int)
theorem SrcC.mono {c : Cell} {n m : Nat} (h : SrcC c n) (hn : n ≤ m) : SrcC c m := by
  obtain ⟨A, B, k, h1, h2, h3, h4, h5, h6⟩ := h
  exact ⟨A, B, k, h1, h2, h3, h4, h5, by omega⟩
def primes : List Int := [2147483647, 2147483629, 2147483587, 2147483579, 2147483563, 2147483549, 2147483543]
theorem primes_at (i : Int) (h0 : 0 ≤ i) (h1 : i < 7) : ∃ v : Int, atI (primes.map D.int) i = some (.int v) ∧ 1 ≤ v ∧ v ≤ 2147483647 := by
  have h : i = 0 ∨ i = 1 ∨ i = 2 ∨ i = 3 ∨ i = 4 ∨ i = 5 ∨ i = 6 := by omega
  rcases h with h | h | h | h | h | h | h <;> (rw [h]; exact ⟨_, rfl, by decide, by decide⟩)
theorem fig_lt {x p : Int} (hp : 1 ≤ p) (hp2 : p ≤ 2147483647) : 0 ≤ x % p ∧ x % p < 2147483647 := by
  have h1 := Int.emod_nonneg x (show p ≠ 0 by omega)
  have h2 := Int.emod_lt_of_pos x (show 0 < p by omega)
  omega
def sSource : SD := fun _ ds ω Φ => match ds with
  | [.int _] => ∀ l c, ω l = none → SrcC c 0 → Φ (.mref l) (ω.put l c)
  | _ => False
def sNext : SD := fun _ ds ω Φ => match ds with
  | [.mref l, .int m] => onS (ω l) fun c => ∃ n, SrcC c n ∧ n ≤ 1000000000000 ∧ 0 < m ∧ m.natAbs < 2 ^ 8000 ∧ ∀ r c', 0 ≤ r → r < m → SrcC c' (n + 1) → Φ (.int r) (ω.put l c')
  | _ => False
def sOne : SD := fun _ ds ω Φ => match ds with
  | [.mref l, .lst xs] => onS (ω l) fun c => ∃ n, SrcC c n ∧ n ≤ 1000000000000 ∧ 0 < xs.length ∧ xs.length ≤ 1000 ∧ ∀ x c', x ∈ xs → SrcC c' (n + 1) → Φ x (ω.put l c')
  | _ => False
def sCell : SD := fun _ ds ω Φ => match ds with
  | [.scr ns, .int k] => 0 ≤ k ∧ Φ (.int ((ns[k.toNat]?).getD 0)) ω
  | _ => False
section
variable {P : Program} {w : World} {K : PySem.W.Frag} {mg : Str → Option Value} {base : Heap}
abbrev N_law_source_of : List Str := ["_law_cell"]
theorem sc_law_source_of : FnScope N_law_source_of ["_law_cell"] (defScope s_law_source_of) := ⟨rfl, rfl, rfl, by decide +kernel, rfl, by decide +kernel, by decide +kernel⟩

theorem fd_law_source_of (T : Txt K mg) : FnD P w K mg base 1 (He.ga K "_law_source_of") sSource := by
  refine fnd_mk T.f_law_source_of sc_law_source_of (fun _ _ _ _ _ _ us hl => match us, hl with | [_], _ => rfl) (fun ξ ds ω Φ h => ?_) (fun cdv A outer s H E hr => (dss_one (ds_ret (de_lstM (da_cons (de_op op_mul ok_mulS (dv 0) (de_callTy call_int1r ok_int (by rfl) T.b_int (by decide +kernel) (da_cons (de_cmp op_ge ok_ge (dv 0) (de_op op_pow ok_pow de_int de_int) (nomark _)) da_nil))) (da_cons (de_op op_mod ok_mod (de_callTy call_int1r ok_int (by rfl) T.b_int (by decide +kernel) (da_cons (dv 0) da_nil)) de_int) (da_cons de_int da_nil))))))) (fun ξ ds ω Φ h => ?_)
  · match ds, h with
    | [.int _], h => rfl
  match ds, h with
  | [.int c], h =>
    simp only [dSeq, dAsg, dAsgT, dPar, dRet, dDrop, dIfS, dNext, dBreak, dCont, dFor, dIL, dIT, dIR1, dIR2, dIE, dIZ, oAdd, oSub, oMul, oDiv, oMod, oPow, oLt, oLe, oGt, oGe, atI_0, atI_1, atI_2, atI_3, atI_m1, ixN_0, ixN_1, ixN_2, Om.put_same, dVar, getK, dC, dNil, dCons, dOp, oI, oIC, oMulS, oEq, oNe, eqS, oIsN, oNotN, isNon, dTest, dAnd, dOr, dNot, dAndV, dOrV, dNotV, dIf, dTup, dLst, dLstM, dCall, dCB, dChain, asL, asQ, oIx, oIxL, oIxT, oCat, oCatM, oCatT, oNil, oIn, dNoPart, dPart, dSl, slL, slT, slLM, cMax2, cMin2, cLen, cList, cListM, cInt, cTuple, dFld, fldP, dMeth, oOwn, put_nm, put_tp, puts_nil, puts_cons, onS, dNeg, dRev, dSetI, dBM, mAppend, mExtend, mClear, mReverse, dYes, startD, List.map_cons, List.map_nil, List.length_cons, List.length_nil, List.set_cons_zero, List.set_cons_succ, List.cons_append, List.nil_append, Nat.reduceAdd, Nat.reduceSub, List.replicate_succ, List.replicate_zero, List.length_singleton, wipeD, decide_eq_true_eq, decide_eq_false_iff_not, reduceCtorEq, true_implies, false_implies, and_true, true_and, if_true, if_false, Bool.false_eq_true, Bool.not_true, Bool.not_false, Bool.not_eq_true', Bool.not_eq_false', Om.put_put, dLc, dLcM, dFrz, frzK, List.getElem?_cons_succ, List.getElem?_cons_zero, N_law_source_of]
    refine ⟨⟨by decide, by decide, by decide⟩, .inr (by split <;> exact ⟨by decide, by decide⟩), by decide, by decide, fun p hp => h p _ hp ⟨_, _, _, rfl, ?_, Int.emod_nonneg _ (by decide), Int.emod_lt_of_pos _ (by decide), Int.le_refl 0, Int.le_refl 0⟩⟩
    have e : (10 : Int) ^ (18 : Int).toNat = 1000000000000000000 := by decide
    rw [e]
    split
    · rename_i hh
      have : (1000000000000000000 : Int) ≤ c := by simpa using hh
      omega
    · omega
abbrev N_law_cell_at : List Str := ["_law_script", "_law_place"]
theorem sc_law_cell_at : FnScope N_law_cell_at ["_law_script", "_law_place"] (defScope s_law_cell_at) := ⟨rfl, rfl, rfl, by decide +kernel, rfl, by decide +kernel, by decide +kernel⟩

theorem fd_law_cell_at (T : Txt K mg) : FnD P w K mg base 1 (He.ga K "_law_cell_at") sCell := by
  refine fnd_mk T.f_law_cell_at sc_law_cell_at (fun _ _ _ _ _ _ us hl => match us, hl with | [_, _], _ => rfl) (fun ξ ds ω Φ h => ?_) (fun cdv A outer s H E hr => (dss_cons (ds_if (dt_cmp op_lt ok_lt (dv 1) (de_callB call_len_seq ok_len (by rfl) T.b_len PySem.boot_len (da_cons (dv 0) da_nil)) (nomark _)) (dss_one (ds_ret (de_ix ix_seq ok_ix (dv 0) (dv 1) (fun _ _ => rfl)))) dss_nil)
    (dss_one (ds_ret de_int)))) (fun ξ ds ω Φ h => ?_)
  · match ds, h with
    | [.scr ns, .int k], h => rfl
  match ds, h with
  | [.scr ns, .int k], h =>
    obtain ⟨h0, h⟩ := h
    simp only [dSeq, dAsg, dAsgT, dPar, dRet, dDrop, dIfS, dNext, dBreak, dCont, dFor, dIL, dIT, dIR1, dIR2, dIE, dIZ, oAdd, oSub, oMul, oDiv, oMod, oPow, oLt, oLe, oGt, oGe, atI_0, atI_1, atI_2, atI_3, atI_m1, ixN_0, ixN_1, ixN_2, Om.put_same, dVar, getK, dC, dNil, dCons, dOp, oI, oIC, oMulS, oEq, oNe, eqS, oIsN, oNotN, isNon, dTest, dAnd, dOr, dNot, dAndV, dOrV, dNotV, dIf, dTup, dLst, dLstM, dCall, dCB, dChain, asL, asQ, oIx, oIxL, oIxT, oCat, oCatM, oCatT, oNil, oIn, dNoPart, dPart, dSl, slL, slT, slLM, cMax2, cMin2, cLen, cList, cListM, cInt, cTuple, dFld, fldP, dMeth, oOwn, put_nm, put_tp, puts_nil, puts_cons, onS, dNeg, dRev, dSetI, dBM, mAppend, mExtend, mClear, mReverse, dYes, startD, List.map_cons, List.map_nil, List.length_cons, List.length_nil, List.set_cons_zero, List.set_cons_succ, List.cons_append, List.nil_append, Nat.reduceAdd, Nat.reduceSub, List.replicate_succ, List.replicate_zero, List.length_singleton, wipeD, decide_eq_true_eq, decide_eq_false_iff_not, reduceCtorEq, true_implies, false_implies, and_true, true_and, if_true, if_false, Bool.false_eq_true, Bool.not_true, Bool.not_false, Bool.not_eq_true', Bool.not_eq_false', Om.put_put, dLc, dLcM, dFrz, frzK, List.getElem?_cons_succ, List.getElem?_cons_zero, N_law_cell_at, decide_eq_true_eq, decide_eq_false_iff_not, List.length_map]
    have er : k = ((k.toNat : Nat) : Int) := by omega
    refine ⟨fun hk => ?_, fun hk => ?_⟩
    · have hr2 : k.toNat < ns.length := by omega
      rw [List.getElem?_eq_getElem hr2] at h
      rw [er, atI_nat', List.getElem?_map, List.getElem?_eq_getElem hr2]
      exact h
    · rw [List.getElem?_eq_none (by omega)] at h
      exact h
end
end Cu

/-! == DL -/
set_option maxHeartbeats 4000000
namespace Cu
open PySem PySem.Spec PyProof.Rows L2 Evl CuT
/-! ### loops by invariants -/
theorem forL_go {t : Tg} {body : RS} {ξ : XD} {Δ : EndsD} (I : Nat → EnvD → Om → Prop) : ∀ (r : List D) (i : Nat)
    (_ : ∀ j d ρ ω, r[j]? = some d → I (i + j) ρ ω → ∀ N : EnvD → Om → Prop, (∀ ρ' ω', I (i + j + 1) ρ' ω' → N ρ' ω') → onS (t.put d ρ) fun ρ1 => body ξ { nx := N, ct := N, bk := Δ.nx, rt := Δ.rt } ρ1 ω)
    (_ : ∀ ρ ω, I (i + r.length) ρ ω → Δ.nx ρ ω) (ρ : EnvD) (ω : Om), I i ρ ω → dForL t body ξ Δ r ρ ω
  | [], i, _, fin, ρ, ω, h => by
    rw [dForL]
    exact fin ρ ω h
  | d :: r, i, step, fin, ρ, ω, h => by
    rw [dForL]
    refine step 0 d ρ ω rfl h _ fun ρ' ω' h' => forL_go I r (i + 1) (fun j d ρ ω hj hI N hN => step (j + 1) d ρ ω (by simpa using hj) (by rw [show i + (j + 1) = i + 1 + j by omega]; exact hI) N fun ρ' ω' h' => hN ρ' ω' (by rw [show i + 1 + j + 1 = i + (j + 1) + 1 by omega]; exact h')) (fun ρ ω h => fin ρ ω (by rw [List.length_cons, show i + (r.length + 1) = i + 1 + r.length by omega]; exact h)) ρ' ω' h'
theorem forL_inv {t : Tg} {body : RS} {ξ : XD} {Δ : EndsD} {ds : List D} (I : Nat → EnvD → Om → Prop)
    (step : ∀ i d ρ ω, ds[i]? = some d → I i ρ ω → ∀ N : EnvD → Om → Prop, (∀ ρ' ω', I (i + 1) ρ' ω' → N ρ' ω') → onS (t.put d ρ) fun ρ1 => body ξ { nx := N, ct := N, bk := Δ.nx, rt := Δ.rt } ρ1 ω)
    (fin : ∀ ρ ω, I ds.length ρ ω → Δ.nx ρ ω) {ρ : EnvD} {ω : Om} (h0 : I 0 ρ ω) : dForL t body ξ Δ ds ρ ω :=
  forL_go I ds 0 (fun j d ρ ω hj hI N hN => step j d ρ ω hj (by rw [Nat.zero_add] at hI; exact hI) N (by rw [Nat.zero_add] at hN; exact hN)) (fun ρ ω h => fin ρ ω (by rw [Nat.zero_add] at h; exact h)) ρ ω h0
theorem lcl_go {t : Tg} {tt : RT} {te : RE} {ρ : EnvD} {Φ : List D → Om → Prop} (I : Nat → List D → Om → Prop) : ∀ (r : List D) (i : Nat)
    (_ : ∀ j d acc ω, r[j]? = some d → I (i + j) acc ω → ∀ N : List D → Om → Prop, (∀ acc' ω', I (i + j + 1) acc' ω' → N acc' ω') → onS (t.put d ρ) fun ρ1 => tt xno ρ1 ω fun b ω1 => (b = true → te xno ρ1 ω1 fun y ω2 => N (acc ++ [y]) ω2) ∧ (b = false → N acc ω1))
    (_ : ∀ acc ω, I (i + r.length) acc ω → Φ acc ω) (acc : List D) (ω : Om), I i acc ω → dLcL t tt te ρ r acc ω Φ
  | [], i, _, fin, acc, ω, h => by
    rw [dLcL]
    exact fin acc ω h
  | d :: r, i, step, fin, acc, ω, h => by
    rw [dLcL]
    exact step 0 d acc ω rfl h (fun acc' ω' => dLcL t tt te ρ r acc' ω' Φ) fun ρ' ω' h' => lcl_go I r (i + 1) (fun j d ρ ω hj hI N hN => step (j + 1) d ρ ω (by simpa using hj) (by rw [show i + (j + 1) = i + 1 + j by omega]; exact hI) N fun ρ' ω' h' => hN ρ' ω' (by rw [show i + 1 + j + 1 = i + (j + 1) + 1 by omega]; exact h')) (fun ρ ω h => fin ρ ω (by rw [List.length_cons, show i + (r.length + 1) = i + 1 + r.length by omega]; exact h)) ρ' ω' h'
theorem lcl_inv {t : Tg} {tt : RT} {te : RE} {ρ : EnvD} {Φ : List D → Om → Prop} {ds : List D} (I : Nat → List D → Om → Prop)
    (step : ∀ i d acc ω, ds[i]? = some d → I i acc ω → ∀ N : List D → Om → Prop, (∀ acc' ω', I (i + 1) acc' ω' → N acc' ω') → onS (t.put d ρ) fun ρ1 => tt xno ρ1 ω fun b ω1 => (b = true → te xno ρ1 ω1 fun y ω2 => N (acc ++ [y]) ω2) ∧ (b = false → N acc ω1))
    (fin : ∀ acc ω, I ds.length acc ω → Φ acc ω) {ω : Om} (h0 : I 0 [] ω) : dLcL t tt te ρ ds [] ω Φ :=
  lcl_go I ds 0 (fun j d ρ ω hj hI N hN => step j d ρ ω hj (by rw [Nat.zero_add] at hI; exact hI) N (by rw [Nat.zero_add] at hN; exact hN)) (fun ρ ω h => fin ρ ω (by rw [Nat.zero_add] at h; exact h)) [] ω h0
/-- [f(x) for x in xs if c(x)], nothing drawn -/
theorem lcl_filter {t : Tg} {tt : RT} {te : RE} {ρ : EnvD} {Φ : List D → Om → Prop} {ds : List D} {ω : Om} (c : D → Bool) (f : D → D)
    (mono : ∀ d ∈ ds, ∀ (A : D → Om → Prop) (B : Om → Prop), (c d = true → A (f d) ω) → (c d = false → B ω) → onS (t.put d ρ) fun ρ1 => tt xno ρ1 ω fun b ω1 => (b = true → te xno ρ1 ω1 A) ∧ (b = false → B ω1)) (fin : Φ ((ds.filter c).map f) ω) : dLcL t tt te ρ ds [] ω Φ := by
  have key : ∀ (r acc : List D), (∀ d ∈ r, d ∈ ds) → Φ (acc ++ (r.filter c).map f) ω → dLcL t tt te ρ r acc ω Φ := by
    intro r
    induction r with
    | nil =>
      intro acc _ h
      rw [dLcL]
      simpa using h
    | cons d r ih =>
      intro acc hm h
      rw [dLcL]
      refine mono d (hm d List.mem_cons_self) _ _ (fun hc => ih _ (fun x hx => hm x (List.mem_cons_of_mem _ hx)) ?_) (fun hc => ih _ (fun x hx => hm x (List.mem_cons_of_mem _ hx)) ?_)
      · rw [List.filter_cons, if_pos hc, List.map_cons] at h
        rw [List.append_assoc]
        exact h
      · rw [List.filter_cons, if_neg (by rw [hc]; decide)] at h
        exact h
  exact key ds [] (fun d h => h) fin
theorem lcl_map {t : Tg} {te : RE} {ρ : EnvD} {Φ : List D → Om → Prop} {ds : List D} {ω : Om} (f : D → D) (step : ∀ d ∈ ds, ∀ A : D → Om → Prop, A (f d) ω → onS (t.put d ρ) fun ρ1 => te xno ρ1 ω A) (fin : Φ (ds.map f) ω) : dLcL t dYes te ρ ds [] ω Φ := by
  have key : ∀ (r acc : List D), (∀ d ∈ r, d ∈ ds) → Φ (acc ++ r.map f) ω → dLcL t dYes te ρ r acc ω Φ := by
    intro r
    induction r with
    | nil =>
      intro acc _ h
      rw [dLcL]
      simpa using h
    | cons d r ih =>
      intro acc hm h
      rw [dLcL]
      have := step d (hm d List.mem_cons_self) (fun y ω2 => dLcL t dYes te ρ r (acc ++ [y]) ω2 Φ) (ih _ (fun x hx => hm x (List.mem_cons_of_mem _ hx)) (by rw [List.append_assoc]; exact h))
      cases hp : t.put d ρ with
      | none =>
        rw [hp] at this
        exact this.elim
      | some ρ1 =>
        rw [hp] at this
        exact ⟨fun _ => this, fun z => nomatch z⟩
  exact key ds [] (fun d h => h) fin
/-- the same over a list that is an image -/
theorem lcl_gen {α : Type} {g : α → D} {xs : List α} {t : Tg} {tt : RT} {te : RE} {ρ : EnvD} {Φ : List D → Om → Prop} {ω : Om} (c : α → Bool) (f : α → D)
    (step : ∀ x ∈ xs, ∀ (A : D → Om → Prop) (B : Om → Prop), (c x = true → A (f x) ω) → (c x = false → B ω) → onS (t.put (g x) ρ) fun ρ1 => tt xno ρ1 ω fun b ω1 => (b = true → te xno ρ1 ω1 A) ∧ (b = false → B ω1)) (fin : Φ ((xs.filter c).map f) ω) : dLcL t tt te ρ (xs.map g) [] ω Φ := by
  have key : ∀ (r : List α) (acc : List D), (∀ d ∈ r, d ∈ xs) → Φ (acc ++ (r.filter c).map f) ω → dLcL t tt te ρ (r.map g) acc ω Φ := by
    intro r
    induction r with
    | nil =>
      intro acc _ h
      rw [List.map_nil, dLcL]
      simpa using h
    | cons d r ih =>
      intro acc hm h
      rw [List.map_cons, dLcL]
      refine step d (hm d List.mem_cons_self) _ _ (fun hc => ih _ (fun x hx => hm x (List.mem_cons_of_mem _ hx)) ?_) (fun hc => ih _ (fun x hx => hm x (List.mem_cons_of_mem _ hx)) ?_)
      · rw [List.filter_cons, if_pos hc, List.map_cons] at h
        rw [List.append_assoc]
        exact h
      · rw [List.filter_cons, if_neg (by rw [hc]; decide)] at h
        exact h
  exact key xs [] (fun d h => h) fin
theorem lcl_gmap {α : Type} {g : α → D} {xs : List α} {t : Tg} {te : RE} {ρ : EnvD} {Φ : List D → Om → Prop} {ω : Om} (f : α → D) (step : ∀ x ∈ xs, ∀ A : D → Om → Prop, A (f x) ω → onS (t.put (g x) ρ) fun ρ1 => te xno ρ1 ω A) (fin : Φ (xs.map f) ω) : dLcL t dYes te ρ (xs.map g) [] ω Φ := by
  refine lcl_gen (fun _ => true) f (fun x hx A B hA _ => ?_) (by rw [List.filter_eq_self.mpr (fun _ _ => rfl)]; exact fin)
  have := step x hx A (hA rfl)
  cases hp : t.put (g x) ρ with
  | none =>
    rw [hp] at this
    exact this.elim
  | some ρ1 =>
    rw [hp] at this
    exact ⟨fun _ => this, fun z => nomatch z⟩
theorem rangeD_length {lo : Int} {n : Nat} : (rangeD lo n).length = n := by unfold rangeD; simp
theorem rangeD_at {lo : Int} {n i : Nat} {d : D} (h : (rangeD lo n)[i]? = some d) : i < n ∧ d = .int (lo + i) := by
  have hi := (List.getElem?_eq_some_iff.mp h).1
  rw [rangeD_length] at hi
  refine ⟨hi, ?_⟩
  unfold rangeD at h
  rw [List.getElem?_map, List.getElem?_range hi] at h
  exact (Option.some.inj h).symm
theorem rangeD_mem {lo : Int} {n : Nat} {d : D} (h : d ∈ rangeD lo n) : ∃ i : Nat, i < n ∧ d = .int (lo + i) := by
  obtain ⟨i, hi, e⟩ := List.mem_iff_getElem.mp h
  obtain ⟨h1, h2⟩ := rangeD_at (i := i) (d := d) (by rw [List.getElem?_eq_getElem hi, e])
  exact ⟨i, h1, h2⟩
/-- n draws in a row -/
theorem lcl_draws {t : Tg} {te : RE} {ρ : EnvD} {Φ : List D → Om → Prop} {ds : List D} {ω : Om} {l : Addr} {c : Cell} {n : Nat} (P : D → Prop) (step : ∀ d ∈ ds, ∀ c' k, SrcC c' k → k ≤ n + ds.length → ∀ A : D → Om → Prop, (∀ y c2, P y → SrcC c2 (k + 1) → A y (ω.put l c2)) → onS (t.put d ρ) fun ρ1 => te xno ρ1 (ω.put l c') A)
    (hs : SrcC c n) (fin : ∀ ys c', ys.length = ds.length → (∀ y ∈ ys, P y) → SrcC c' (n + ds.length) → Φ ys (ω.put l c')) : dLcL t dYes te ρ ds [] (ω.put l c) Φ := by
  refine lcl_inv (fun i acc ω' => i ≤ ds.length ∧ acc.length = i ∧ (∀ y ∈ acc, P y) ∧ ∃ c', ω' = ω.put l c' ∧ SrcC c' (n + i)) (fun i d acc ω' hd hI N hN => ?_) (fun acc ω' hI => ?_) ⟨Nat.zero_le _, rfl, (fun y hy => by cases hy), c, rfl, hs⟩
  · obtain ⟨hi, hl, hP, c', rfl, hs'⟩ := hI
    have hlt := (List.getElem?_eq_some_iff.mp hd).1
    have := step d (List.mem_of_getElem? hd) c' (n + i) hs' (by omega) (fun y ω2 => N (acc ++ [y]) ω2) (fun y c2 hy h2 => hN _ _ ⟨hlt, by simp [hl], fun z hz => ?_, c2, rfl, by rw [← Nat.add_assoc]; exact h2⟩)
    · cases hp : t.put d ρ with
      | none =>
        rw [hp] at this
        exact this.elim
      | some ρ1 =>
        rw [hp] at this
        exact ⟨fun _ => this, fun z => nomatch z⟩
    · rcases List.mem_append.mp hz with z' | z'
      · exact hP z z'
      · rw [List.mem_singleton.mp z']
        exact hy
  · obtain ⟨_, hl, hP, c', rfl, hs'⟩ := hI
    exact fin acc c' hl hP hs'
end Cu

/-! == DM -/
set_option maxHeartbeats 4000000
namespace Cu
open PySem PySem.Spec PyProof.Rows L2 Evl CuT
/-! ### forms by data -/
def seqF : List Prog → Prog
  | [] => mkP .sleep [] 0 []
  | p :: r => r.foldl addP p
inductive FormD : Nat → D → Prog → Prop where
  | sleep {d : Nat} {n : Int} (h0 : 0 ≤ n) (h1 : n ≤ mostT) : FormD d (.tup [.str "sleep", .int n]) (mkP .sleep [] n [])
  | fail {d : Nat} {z : Str} (hz : IsName z) : FormD d (.tup [.str "fail", .str z]) (mkP .fail [] 0 [z])
  | seq {d : Nat} {fs : List D} {ps : List Prog} (len : fs.length = ps.length) (h2 : 2 ≤ ps.length) (h3 : ps.length ≤ 3) (sub : ∀ (i : Nat) (x : D) (q : Prog), fs[i]? = some x → ps[i]? = some q → FormD d x q) : FormD (d + 1) (.tup [.str "seq", .lst fs]) (seqF ps)
  | together {d : Nat} {fs : List D} {ps : List Prog} (len : fs.length = ps.length) (h2 : 2 ≤ ps.length) (h3 : ps.length ≤ 3) (sub : ∀ (i : Nat) (x : D) (q : Prog), fs[i]? = some x → ps[i]? = some q → FormD d x q) : FormD (d + 1) (.tup [.str "together", .lst fs]) (mkP .together ps 0 [])
  | loop {d : Nat} {x : D} {p : Prog} {n : Int} (sub : FormD d x p) (h0 : 0 ≤ n) (h1 : n ≤ mostT) : FormD (d + 1) (.tup [.str "loop", x, .int n]) (mulP p n)
  | shield {d : Nat} {x : D} {p : Prog} (sub : FormD d x p) : FormD (d + 1) (.tup [.str "shield", x]) (mkP .shield [p] 0 [])
  | cleanup {d : Nat} {x y : D} {p q : Prog} (sub : FormD d x p) (sub2 : FormD d y q) : FormD (d + 1) (.tup [.str "cleanup", x, y]) (mkP .cleanup [p, q] 0 [])
  | fallback {d : Nat} {x y : D} {p q : Prog} {ws : List Str} (n1 : 1 ≤ ws.length) (n2 : ws.length ≤ 20) (n3 : ∀ z ∈ ws, IsName z) (n4 : ws.Nodup) (sub : FormD d x p) (sub2 : FormD d y q) : FormD (d + 1) (.tup [.str "fallback", x, .lst (ws.map D.str), y]) (mkP .fallback [p, q] 0 ws)
  | timeout {d : Nat} {x : D} {p : Prog} {n : Int} {z : Str} (hz : IsName z) (sub : FormD d x p) (h0 : 0 ≤ n) (h1 : n ≤ mostT) : FormD (d + 1) (.tup [.str "timeout", .int n, x, .str z]) (mkP .timeout [p] n [z])
  | moveon {d : Nat} {x : D} {p : Prog} {n : Int} (sub : FormD d x p) (h0 : 0 ≤ n) (h1 : n ≤ mostT) : FormD (d + 1) (.tup [.str "moveon", .int n, x]) (mkP .moveon [p] n [])
/-! ### what forms make is within the limits -/
def nF : Nat → Int
  | 0 => 1
  | d + 1 => 1 + 3 * nF d
theorem nF_pos : ∀ d, 1 ≤ nF d
  | 0 => by decide
  | d + 1 => by have := nF_pos d; unfold nF; omega
def Small (p : Prog) (N D : Int) : Prop := WF p ∧ p.nodes ≤ N ∧ p.depth ≤ D
theorem depthOf_le {ps : List Prog} {D : Int} (h0 : 0 ≤ D) (h : ∀ p ∈ ps, p.depth ≤ D) : depthOf ps ≤ D + 1 := by
  have : maxL (0 :: ps.map Prog.depth) ≤ D := maxL_le (by simp) fun a ha => by
    rcases List.mem_cons.mp ha with e | e
    · omega
    · obtain ⟨p, hp, rfl⟩ := List.mem_map.mp e
      exact h p hp
  unfold depthOf
  omega
theorem sum_le_len {N : Int} : ∀ {ps : List Prog}, (∀ p ∈ ps, p.nodes ≤ N) → (ps.map Prog.nodes).sum ≤ ps.length * N
  | [], _ => by simp
  | p :: r, h => by
    have h1 := h p List.mem_cons_self
    have h2 := sum_le_len fun q hq => h q (List.mem_cons_of_mem _ hq)
    rw [List.map_cons, List.sum_cons, List.length_cons]
    have e : ((r.length + 1 : Nat) : Int) * N = r.length * N + N := by
      rw [show ((r.length + 1 : Nat) : Int) = r.length + 1 from rfl, Int.add_mul, Int.one_mul]
    omega
theorem mk_small {k : Kind} {ps : List Prog} {n : Int} {ws : List Str} {N D : Int} (h : ∀ p ∈ ps, Small p N D) (sh : Shape k ps n ws) (hl : ps.length ≤ 3) (n0 : 1 ≤ N) (d0 : 0 ≤ D) (n1 : 1 + 3 * N ≤ 300) (d1 : D + 1 ≤ 60) : MkOk k ps n ws ∧ Small (mkP k ps n ws) (1 + 3 * N) (D + 1) := by
  have a := sum_le_len (N := N) fun p hp => (h p hp).2.1
  have b : (ps.length : Int) * N ≤ 3 * N := Int.mul_le_mul_of_nonneg_right (by omega) (by omega)
  have c : nodesOf ps ≤ 1 + 3 * N := by unfold nodesOf; omega
  have d : depthOf ps ≤ D + 1 := depthOf_le d0 fun p hp => (h p hp).2.2
  have m : MkOk k ps n ws := ⟨fun p hp => (h p hp).1, sh, by omega, by omega⟩
  exact ⟨m, m.ok, c, d⟩
/-- by the flat parts -/
def FlatOk (p : Prog) (S D : Int) : Prop := WF p ∧ ((flatP p).map Prog.nodes).sum ≤ S ∧ ∀ q ∈ flatP p, WF q ∧ q.depth ≤ D
theorem flat_of {p : Prog} {N D : Int} (h : Small p N D) : FlatOk p N D := by
  obtain ⟨w, n, d⟩ := h
  unfold FlatOk flatP
  by_cases hk : p.kind = .seq
  · rw [if_pos hk]
    refine ⟨w, ?_, fun q hq => ⟨w.sub hq, by have := w.depth_sub hq; omega⟩⟩
    cases w with
    | mk sub sh hn hd hm ln ld =>
      have e : nodesOf _ ≤ N := hn ▸ n
      unfold nodesOf at e
      show (List.map Prog.nodes _).sum ≤ N
      simp only [Prog.parts] at *
      omega
  · rw [if_neg hk]
    refine ⟨w, by simpa using n, fun q hq => ?_⟩
    rw [List.mem_singleton.mp hq]
    exact ⟨w, d⟩
theorem flat_ne {p : Prog} (w : WF p) : flatP p ≠ [] := by
  unfold flatP
  by_cases hk : p.kind = .seq
  · rw [if_pos hk]
    have := w.shape
    rw [hk] at this
    exact this.1
  · rw [if_neg hk]
    simp
theorem add_ok {p q : Prog} {S S' D : Int} (h : FlatOk p S D) (h' : FlatOk q S' D) (d0 : 0 ≤ D) (d1 : D + 1 ≤ 60) (n1 : 1 + S + S' ≤ 300) : MkOk .seq (flatP p ++ flatP q) 0 [] ∧ FlatOk (addP p q) (S + S') D ∧ Small (addP p q) (1 + S + S') (D + 1) := by
  obtain ⟨w, s, d⟩ := h
  obtain ⟨w', s', d'⟩ := h'
  have all : ∀ x ∈ flatP p ++ flatP q, WF x ∧ x.depth ≤ D := fun x hx => (List.mem_append.mp hx).elim (d x) (d' x)
  have sum : ((flatP p ++ flatP q).map Prog.nodes).sum ≤ S + S' := by
    rw [List.map_append, List.sum_append]
    omega
  have nn : nodesOf (flatP p ++ flatP q) ≤ 1 + S + S' := by unfold nodesOf; omega
  have dd : depthOf (flatP p ++ flatP q) ≤ D + 1 := depthOf_le d0 fun x hx => (all x hx).2
  have m : MkOk .seq (flatP p ++ flatP q) 0 [] := ⟨fun x hx => (all x hx).1, ⟨fun e => flat_ne w (List.append_eq_nil_iff.mp e).1, rfl, rfl⟩, by omega, by omega⟩
  have ef : flatP (addP p q) = flatP p ++ flatP q := by
    show (if (addP p q).kind = .seq then (addP p q).parts else [addP p q]) = _
    rw [if_pos (show (addP p q).kind = .seq from rfl)]
    rfl
  refine ⟨m, ⟨m.ok, by rw [ef]; exact sum, by rw [ef]; exact all⟩, m.ok, nn, dd⟩
theorem nF_le {d : Nat} (h : d ≤ 4) : nF d ≤ 121 := by
  have : d = 0 ∨ d = 1 ∨ d = 2 ∨ d = 3 ∨ d = 4 := by omega
  rcases this with rfl | rfl | rfl | rfl | rfl <;> decide
theorem nF_le3 {d : Nat} (h : d ≤ 3) : nF d ≤ 40 := by
  have : d = 0 ∨ d = 1 ∨ d = 2 ∨ d = 3 := by omega
  rcases this with rfl | rfl | rfl | rfl <;> decide
theorem seq_small {d : Nat} (hd : d ≤ 3) {ps : List Prog} (h2 : 2 ≤ ps.length) (h3 : ps.length ≤ 3) (h : ∀ p ∈ ps, Small p (nF d) (d + 1)) : Small (seqF ps) (nF (d + 1)) ((d : Int) + 1 + 1) := by
  have p0 := nF_pos d
  have p1 := nF_le3 hd
  have e : nF (d + 1) = 1 + 3 * nF d := rfl
  match ps, h2, h3, h with
  | [a, b], _, _, h =>
    obtain ⟨_, _, w, n, d'⟩ := add_ok (flat_of (h a (by simp))) (flat_of (h b (by simp))) (by omega) (by omega) (by omega)
    exact ⟨w, by show (addP a b).nodes ≤ _; omega, d'⟩
  | [a, b, c], _, _, h =>
    obtain ⟨_, f, _⟩ := add_ok (flat_of (h a (by simp))) (flat_of (h b (by simp))) (by omega) (by omega) (by omega)
    obtain ⟨_, _, w, n, d'⟩ := add_ok f (flat_of (h c (by simp))) (by omega) (by omega) (by omega)
    exact ⟨w, by show (addP (addP a b) c).nodes ≤ _; omega, d'⟩
theorem small1 {p : Prog} {N D : Int} (h : Small p N D) : ∀ q ∈ [p], Small q N D := fun q hq => by
  rw [List.mem_singleton.mp hq]
  exact h
theorem small2 {p p2 : Prog} {N D : Int} (h : Small p N D) (h2 : Small p2 N D) : ∀ q ∈ [p, p2], Small q N D := fun q hq => by
  rcases List.mem_cons.mp hq with e | e
  · rw [e]
    exact h
  · rw [List.mem_singleton.mp e]
    exact h2
theorem form_small {d : Nat} {f : D} {p : Prog} (h : FormD d f p) (hd : d ≤ 4) : Small p (nF d) (d + 1) := by
  have key0 : ∀ {d : Nat} {k : Kind} {n : Int} {ws : List Str}, Shape k [] n ws → Small (mkP k [] n ws) (nF d) (d + 1) := fun {d k n ws} sh => by
    have m := mk0 sh
    exact ⟨m.ok, nF_pos d, by show (1 : Int) ≤ d + 1; omega⟩
  have key : ∀ {d : Nat} {k : Kind} {ps : List Prog} {n : Int} {ws : List Str}, d ≤ 3 → (∀ p ∈ ps, Small p (nF d) (d + 1)) → Shape k ps n ws → ps.length ≤ 3 → Small (mkP k ps n ws) (nF (d + 1)) ((d + 1 : Nat) + 1) := fun {d k ps n ws} hd h sh hl => by
    have := (mk_small h sh hl (nF_pos d) (by omega) (by have := nF_le3 hd; omega) (by omega)).2
    exact this
  induction h with
  | sleep h0 h1 => exact key0 (k := .sleep) ⟨rfl, h0, h1, rfl⟩
  | fail hz => exact key0 (k := .fail) ⟨rfl, rfl, _, rfl, hz⟩
  | seq len h2 h3 sub ih =>
    refine seq_small (by omega) h2 h3 fun p hp => ?_
    obtain ⟨i, hi, e⟩ := List.mem_iff_getElem.mp hp
    exact ih i _ p (List.getElem?_eq_getElem (by omega)) (by rw [List.getElem?_eq_getElem hi, e]) (by omega)
  | together len h2 h3 sub ih =>
    rename_i d fs ps
    have ms : ∀ p ∈ ps, Small p (nF d) (d + 1) := fun p hp => by
      obtain ⟨i, hi, e⟩ := List.mem_iff_getElem.mp hp
      exact ih i _ p (List.getElem?_eq_getElem (by omega)) (by rw [List.getElem?_eq_getElem hi, e]) (by omega)
    exact key (k := .together) (by omega) ms ⟨fun e => by rw [e] at h2; exact absurd h2 (by decide), by omega, rfl, rfl⟩ h3
  | loop sub h0 h1 ih => exact key (k := .loop) (by omega) (small1 (ih (by omega))) ⟨⟨_, rfl⟩, h0, h1, rfl⟩ (by show 1 ≤ 3; decide)
  | shield sub ih => exact key (k := .shield) (by omega) (small1 (ih (by omega))) ⟨⟨_, rfl⟩, rfl, rfl⟩ (by show 1 ≤ 3; decide)
  | cleanup sub sub2 ih ih2 => exact key (k := .cleanup) (by omega) (small2 (ih (by omega)) (ih2 (by omega))) ⟨⟨_, _, rfl⟩, rfl, rfl⟩ (by show 2 ≤ 3; decide)
  | fallback n1 n2 n3 n4 sub sub2 ih ih2 => exact key (k := .fallback) (by omega) (small2 (ih (by omega)) (ih2 (by omega))) ⟨⟨_, _, rfl⟩, rfl, n2⟩ (by show 2 ≤ 3; decide)
  | timeout hz sub h0 h1 ih => exact key (k := .timeout) (by omega) (small1 (ih (by omega))) ⟨⟨_, rfl⟩, h0, h1, _, rfl, hz⟩ (by show 1 ≤ 3; decide)
  | moveon sub h0 h1 ih => exact key (k := .moveon) (by omega) (small1 (ih (by omega))) ⟨⟨_, rfl⟩, h0, h1, rfl⟩ (by show 1 ≤ 3; decide)
/-- what makes up a small program may be made -/
theorem mk_of {d : Nat} {k : Kind} {ps : List Prog} {n : Int} {ws : List Str} (hd : d + 1 ≤ 4) (h : ∀ p ∈ ps, Small p (nF d) (d + 1)) (sh : Shape k ps n ws) (hl : ps.length ≤ 3) : MkOk k ps n ws :=
  (mk_small h sh hl (nF_pos d) (by omega) (by have := nF_le3 (d := d) (by omega); omega) (by omega)).1
def costF : Nat → Nat
  | 0 => 5
  | d + 1 => 8 + 3 * costF d
theorem costF_le {d : Nat} (h : d ≤ 4) : costF d ≤ 725 := by
  have : d = 0 ∨ d = 1 ∨ d = 2 ∨ d = 3 ∨ d = 4 := by omega
  rcases this with rfl | rfl | rfl | rfl | rfl <;> decide
theorem name_by (z : Str) (h : ((1 ≤ z.length && z.length ≤ 12) && z.cps.toList.all fun c => decide (97 ≤ c) && decide (c ≤ 122)) = true) : IsName z := by
  simp only [Bool.and_eq_true, decide_eq_true_eq, List.all_eq_true] at h
  exact ⟨h.1.1, h.1.2, h.2⟩
theorem far_bits {m : Int} (h0 : 0 ≤ m) (h : m ≤ 1000000000000000000000000000) : m.natAbs < 2 ^ 8000 := Nat.lt_of_le_of_lt (show m.natAbs ≤ 1000000000000000000000000000 by omega) (by decide +kernel)
def sLeaf : SD := fun _ ds ω Φ => match ds with
  | [.mref l, .int far] => onS (ω l) fun c => ∃ n, SrcC c n ∧ n + 4 ≤ 1000000000000 ∧ 1 ≤ far ∧ far ≤ 100000000000000000000000000 ∧ ∀ f p c', SrcC c' (n + 4) → (∀ d, FormD d f p) → Φ f (ω.put l c')
  | _ => False
def sForm (d : Nat) : SD := fun _ ds ω Φ => match ds with
  | [.mref l, .int e, .int far, .int many] => onS (ω l) fun c => ∃ n, 0 ≤ e ∧ e.toNat < d ∧ SrcC c n ∧ n + costF e.toNat ≤ 1000000000000 ∧ 1 ≤ far ∧ far ≤ 100000000000000000000000000 ∧ 1 ≤ many ∧ many ≤ 100000000000000000000000000 ∧
    ∀ f p c', SrcC c' (n + costF e.toNat) → FormD e.toNat f p → Φ f (ω.put l c')
  | _ => False
def sMade (n : Nat) : SD := fun _ ds ω Φ => match ds with
  | [f] => ∃ p e, e < n ∧ e ≤ 4 ∧ FormD e f p ∧ Φ (.prog p) ω
  | _ => False
section
variable {P : Program} {w : World} {K : PySem.W.Frag} {mg : Str → Option Value} {base : Heap}
end
end Cu

/-! == DN -/
set_option maxHeartbeats 4000000
namespace Cu
open PySem PySem.Spec PyProof.Rows L2 Evl CuT
/-! ### the order of tuples of ints -/
theorem lex_irr : ∀ xs : List Int, HT.lexLt xs xs = false
  | [] => rfl
  | x :: r => by rw [HT.lexLt_cons, if_pos rfl, lex_irr r]
theorem lex_lt_le : ∀ (a b c : List Int), HT.lexLt a b = true → HT.lexLt c b = false → HT.lexLt a c = true
  | [], [], _, h, _ => by cases h
  | [], y :: b, [], h, h' => by cases h'
  | [], y :: b, z :: c, _, _ => rfl
  | x :: a, [], _, h, _ => by cases h
  | x :: a, y :: b, [], h, h' => by cases h'
  | x :: a, y :: b, z :: c, h, h' => by
    rw [HT.lexLt_cons] at h h' ⊢
    by_cases e1 : x = y
    · rw [if_pos e1] at h
      by_cases e2 : z = y
      · rw [if_pos e2] at h'
        rw [if_pos (e1.trans e2.symm)]
        exact lex_lt_le a b c h h'
      · rw [if_neg e2] at h'
        have := of_decide_eq_false h'
        rw [if_neg (by omega)]
        exact decide_eq_true (by omega)
    · rw [if_neg e1] at h
      have := of_decide_eq_true h
      by_cases e2 : z = y
      · rw [if_neg (by omega)]
        exact decide_eq_true (by omega)
      · rw [if_neg e2] at h'
        have := of_decide_eq_false h'
        rw [if_neg (by omega)]
        exact decide_eq_true (by omega)
theorem lex_asy : ∀ (a b : List Int), HT.lexLt a b = true → HT.lexLt b a = false
  | [], [], h => by cases h
  | [], y :: b, _ => rfl
  | x :: a, [], h => by cases h
  | x :: a, y :: b, h => by
    rw [HT.lexLt_cons] at h ⊢
    by_cases e : x = y
    · rw [if_pos e] at h
      rw [if_pos e.symm]
      exact lex_asy a b h
    · rw [if_neg e] at h
      have := of_decide_eq_true h
      rw [if_neg (fun z => e z.symm)]
      exact decide_eq_false (by omega)
theorem lex_le_lt : ∀ (a b c : List Int), HT.lexLt b a = false → HT.lexLt b c = true → HT.lexLt a c = true := fun a b c h h' => by
  cases e : HT.lexLt a c with
  | true => rfl
  | false => rw [lex_lt_le b c a h' e] at h; cases h
def gtL (a b : List Int) : Bool := HT.lexLt b a
/-- a strict order, as it is used -/
def OrdOk (bt : List Int → List Int → Bool) : Prop := (∀ a, bt a a = false) ∧ (∀ a b c, bt a b = true → bt c b = false → bt a c = true) ∧ ∀ a b, bt a b = true → bt b a = false
theorem ordLt : OrdOk HT.lexLt := ⟨lex_irr, lex_lt_le, lex_asy⟩
theorem ordGt : OrdOk gtL := ⟨lex_irr, fun a b c h h' => lex_le_lt c b a h' h, fun a b h => lex_asy b a h⟩
def rBestT (K : PySem.W.Frag) (bt : List Int → List Int → Bool) : List V → Hp → VK → Prop := fun vs H Q => ∃ (a : Addr) (xs : List V) (kf : Nat → List Int), vs = [.ref a] ∧ SqL K H a xs ∧ 0 < xs.length ∧
  (∀ (i : Nat) (x : V), xs[i]? = some x → ∃ t, x = .ref t ∧ SqT K H t ((kf i).map V.int)) ∧ ∀ (i : Nat) (x : V), xs[i]? = some x → (∀ j, j < xs.length → bt (kf j) (kf i) = false ∧ (j < i → bt (kf i) (kf j) = true)) → Q x H
section
variable {X : Cx} {pins : List (Addr × Obj)} {σ : L2.St} {H : Hp} {l : Addr} {xs : List V} {kf : Nat → List Int} {bt : List Int → List Int → Bool} (ord : OrdOk bt)
include ord

/-! #### min(xs), xs a list of tuples of ints -/
theorem minT_loop (hh : X.A.handled = none) (hl : SqL X.K H l xs) {I S : Addr} (hlI : l ≠ I) (hSI : S ≠ I) (mI : Mine X H pins I) (mS : Mine X H pins S)
    (cmp : ∀ (i j : Nat) (x y : V), xs[i]? = some x → xs[j]? = some y → ∀ (ps : List (Addr × Obj)) (s : Shared), Inv X ps σ H s → ∀ u v, RelV x u → RelV y v → wpAny (model X.prog X.w) X.A.in1 (richCompare .Lt u v) (fun r s' => r = .bool (bt (kf i) (kf j)) ∧ Inv X ps σ H s') (fun _ _ => False) s)
    {Q : Value → Shared → Prop} (hQ : ∀ i x u s', xs[i]? = some x → RelV x u → (∀ j, j < xs.length → bt (kf j) (kf i) = false ∧ (j < i → bt (kf i) (kf j) = true)) → Inv X pins σ H s' → Q u s') :
    ∀ (r j i : Nat) (s : Shared) (xb : V) (vb : Value) (c : Nat), xs.length - (j + 1) = r → j + 1 ≤ xs.length → Inv X ((S, seqL #[vb, vb] c) :: pins) σ H s →
      s.heap.IsListIter I l (j + 1) → xs[i]? = some xb → RelV xb vb → i ≤ j → (∀ j', j' ≤ j → bt (kf j') (kf i) = false ∧ (j' < i → bt (kf i) (kf j') = true)) →
      codeAny (model X.prog X.w) X.A (.builtin "min.loop" ⟨[.ref I, .none, .ref S], []⟩) (fun r s' => match r with | .ok (.ret v) => Q v s' | .ok _ => False | .error e => X.xe e s') s := by
  have nmd : (toString "min" ++ toString ".loop" : String) = "min.loop" := by decide
  have ncl : ∀ (its : Array Value) (c : Nat) (v : Option Value), (seqL its c).data ≠ .cell v := fun _ _ _ z => nomatch z
  intro r
  induction r with
  | zero =>
    intro j i s xb vb c hr hj Iv hit hxb rb hij hbest
    have hin : j + 1 = xs.length := by omega
    obtain ⟨its, rv, hL⟩ := sqL_at Iv hl
    have wk := Walks.list (prog := X.prog) (w := X.w) (A := X.A.in1) hh I l hlI its.toArray
    have hsz : its.toArray.size = xs.length := by rw [List.size_toArray, rv.length]
    have gS := pin_at Iv
    refine codeAny_builtin PySem.F.entry_min_loop ?_
    rw [Around.under_plainId PySem.F.plain_min_loop _]
    show wpAny _ X.A.in1 (seqItems? (.ref S) >>= _) _ _ _
    refine wpAny_bind (wpAny_seqItems gS rfl ?_)
    show wpAny _ X.A.in1 (tryCatch (pyNext (.ref I)) _ >>= _) _ _ _
    refine wpAny_bind (wpAny_tryCatch (wk.done _ _ _ ⟨by rw [hsz, ← hin]; exact hit, hL⟩ fun h' tk' hk' => ?_))
    have I1 : Inv X ((S, seqL #[vb, vb] c) :: pins) σ H { s with heap := h', toks := tk' } :=
      Iv.turned (it := I) (fun b o hb e => hk' b o (by simpa using hb) e) mI.hn mI.hL mI.h1 mI.h2 (fun p hp => by
        rcases List.mem_append.mp hp with z | z
        · exact mI.h3 p (List.mem_append_left _ z)
        · rcases List.mem_cons.mp z with z | z
          · subst z
            exact hSI
          · exact mI.h3 p (List.mem_append_right _ z))
    have gS1 := pin_at I1
    show wpAny _ X.A.in1 (updateSeq S (fun _ => #[]) >>= _) _ _ _
    refine wpAny_bind ?_
    refine wpAny_updateSeq gS1 rfl (wpAny_bind (wpAny_letGo (wpAny_pure ?_)))
    have s1 := Heap.SameBut.update h' S (Obj.mapSeq fun _ => (#[] : Array Value))
    have I2 := (unpin I1).turned (t' := tk') (it := S) (fun b o hb e => (s1.2 b hb).trans e) mS.hn mS.hL mS.h1 mS.h2 mS.h3
    exact hQ i xb vb _ hxb rb (fun j' hj' => hbest j' (by omega)) I2
  | succ r ih =>
    intro j i s xb vb c hr hj Iv hit hxb rb hij hbest
    have hlt : j + 1 < xs.length := by omega
    obtain ⟨its, rv, hL⟩ := sqL_at Iv hl
    have wk := Walks.list (prog := X.prog) (w := X.w) (A := X.A.in1) hh I l hlI its.toArray
    have hsz : its.toArray.size = xs.length := by rw [List.size_toArray, rv.length]
    have gS := pin_at Iv
    refine codeAny_builtin PySem.F.entry_min_loop ?_
    rw [Around.under_plainId PySem.F.plain_min_loop _]
    show wpAny _ X.A.in1 (seqItems? (.ref S) >>= _) _ _ _
    refine wpAny_bind (wpAny_seqItems gS rfl ?_)
    show wpAny _ X.A.in1 (tryCatch (pyNext (.ref I)) _ >>= _) _ _ _
    refine wpAny_bind (wpAny_tryCatch (wk.item (j + 1) _ _ _ (by rw [hsz]; exact hlt) ⟨hit, hL⟩ fun v h' tk' hP hst' hk' => ?_))
    have hv : its[j + 1]? = some v := by simpa using hP
    obtain ⟨u2, hu2, rx⟩ := rv.get (i := j + 1) (x := xs[j + 1]) (List.getElem?_eq_getElem hlt)
    have eu : u2 = v := Option.some.inj (hu2.symm.trans hv)
    subst eu
    obtain ⟨oI', hoI', hoc, hod⟩ := id hst'.1
    have hne : ∀ p ∈ X.pn ++ (S, seqL #[vb, vb] c) :: pins, p.1 ≠ I := fun p hp => by
      rcases List.mem_append.mp hp with z | z
      · exact mI.h3 p (List.mem_append_left _ z)
      · rcases List.mem_cons.mp z with z | z
        · subst z
          exact hSI
        · exact mI.h3 p (List.mem_append_right _ z)
    have I1 : Inv X ((S, seqL #[vb, vb] c) :: pins) σ H { s with heap := h', toks := tk' } :=
      Iv.turned (it := I) (fun b o hb e => hk' b o (by simpa using hb) e) mI.hn mI.hL mI.h1 mI.h2 hne
    have I1' : Inv X ((I, oI') :: (S, seqL #[vb, vb] c) :: pins) σ H { s with heap := h', toks := tk' } :=
      (Mine.mk mI.hn mI.hL mI.h1 mI.h2 hne mI.h4).pinned I1 hoI' (fun v z => by rw [hod] at z; cases z)
    show wpAny _ X.A.in1 (tryCatch (holding [u2, u2] (richCompare .Lt u2 vb >>= _)) _ >>= _) _ _ _
    refine wpAny_bind (wpAny_tryCatch (wpAny_holding (wpAny_bind (wpAny_mono (cmp (j + 1) i xs[j + 1] xb (List.getElem?_eq_getElem hlt) hxb _ _ I1' u2 vb rx rb) (fun z s2 he => ?_) fun _ _ hF => hF.elim))))
    obtain ⟨rfl, I2⟩ := he
    have gI2 := pin_at I2
    have I3 := unpin I2
    have gS2 := pin_at I3
    have hit2 : s2.heap.IsListIter I l (j + 1 + 1) := ⟨oI', gI2, hoc, hod⟩
    refine wpAny_bind (wpAny_holding (wpAny_truthy_bool ?_))
    refine wpAny_bind (wpAny_letGo (wpAny_pure ?_))
    cases hb' : bt (kf (j + 1)) (kf i) with
    | true =>
      have s1 := Heap.SameBut.update s2.heap S (Obj.mapSeq fun _ => #[u2, u2])
      obtain ⟨c2, hc2⟩ : ∃ c2, (s2.heap.update S (Obj.mapSeq fun _ => #[u2, u2])).get? S = some (seqL #[u2, u2] c2) := ⟨_, get?_update_seq gS2 fun _ => #[u2, u2]⟩
      have I4 := (unpin I3).turned (t' := s2.toks) (it := S) (fun b o hb e => (s1.2 b hb).trans e) mS.hn mS.hL mS.h1 mS.h2 mS.h3
      have I5 := mS.pinned I4 hc2 (ncl _ _)
      simp only [if_true]
      refine wpAny_bind ?_
      refine wpAny_updateSeq gS2 rfl (wpAny_bind (wpAny_letGo ?_))
      rw [nmd]
      refine wpAny_pure ⟨plainId_quiet PySem.F.plain_min_loop _, ih (j + 1) (j + 1) _ xs[j + 1] u2 c2 (by omega) hlt I5 ⟨oI', (s1.2 I hSI.symm).trans gI2, hoc, hod⟩ (List.getElem?_eq_getElem hlt) rx (Nat.le_refl _) fun j' hj' => ?_⟩
      by_cases e : j' = j + 1
      · subst e
        exact ⟨ord.1 _, fun z => absurd z (Nat.lt_irrefl _)⟩
      · have hb1 := hbest j' (by omega)
        have hb2 := ord.2.1 _ _ _ hb' hb1.1
        exact ⟨ord.2.2 _ _ hb2, fun _ => hb2⟩
    | false =>
      simp only [Bool.false_eq_true, if_false]
      refine wpAny_bind (wpAny_letGo ?_)
      rw [nmd]
      refine wpAny_pure ⟨plainId_quiet PySem.F.plain_min_loop _, ih (j + 1) i _ xb vb c (by omega) hlt I3 hit2 hxb rb (by omega) fun j' hj' => ?_⟩
      by_cases e : j' = j + 1
      · subst e
        exact ⟨hb', fun z => absurd z (by omega)⟩
      · exact hbest j' (by omega)
omit ord in
theorem cr_minT (hc : X.calm = true) (hu : X.A.units + 1 < cLine) : CallR X (.builtin "min") (rBestT X.K HT.lexLt) := by
  intro pins s σ H vs us Q Iv rv h
  obtain ⟨l, xs, kf, rfl, hl, hpos, hk, hq⟩ := h
  cases rv with
  | cons r1 r2 =>
  cases r2
  cases r1
  have hh : X.A.handled = none := Iv.ok.hd hc
  have nmd : (toString "min" ++ toString ".loop" : String) = "min.loop" := by decide
  have ncl : ∀ (its : Array Value) (c : Nat) (v : Option Value), (seqL its c).data ≠ .cell v := fun _ _ _ z => nomatch z
  have cmp : ∀ (i j : Nat) (x y : V), xs[i]? = some x → xs[j]? = some y → ∀ (ps : List (Addr × Obj)) (s : Shared), Inv X ps σ H s → ∀ u v, RelV x u → RelV y v → wpAny (model X.prog X.w) X.A.in1 (richCompare .Lt u v) (fun r s' => r = .bool (HT.lexLt (kf i) (kf j)) ∧ Inv X ps σ H s') (fun _ _ => False) s := fun i j x y hx hy ps s J u v ru rv => by
    obtain ⟨t1, rfl, h1⟩ := hk i x hx
    obtain ⟨t2, rfl, h2⟩ := hk j y hy
    cases ru
    cases rv
    obtain ⟨its, r1, p1, _⟩ := J.tuple h1
    obtain ⟨its2, r2, p2, _⟩ := J.tuple h2
    exact HT.lt_tupInts (A := X.A.in1) p1 p2 (intsAre_of r1) (intsAre_of r2) hu ⟨rfl, J⟩
  obtain ⟨its, rl, hL⟩ := sqL_at Iv hl
  have hsz : its.toArray.size = xs.length := by rw [List.size_toArray, rl.length]
  obtain ⟨ol, hol, _⟩ := id hL
  have hll : l < s.heap.objs.size := Heap.lt_size hol
  refine call_function_tree PySem.F.kind_min PySem.F.plain_min PySem.F.entry_min (PySem.F.args_min1 _) ?_
  show wpAny _ X.A.in1 (Builtin.Builtins.bindParams "min" ["key", "default"] 0 ⟨[], []⟩ >>= _) _ _ s
  refine wpAny_bind (wpAny_of_eq (by exact (rfl : Builtin.Builtins.bindParams "min" ["key", "default"] 0 ⟨[], []⟩ = pure [none, none])) ?_)
  refine wpAny_bind (wpAny_pure ?_)
  refine wpAny_bind (wpAny_pyIter_list hL ?_)
  refine wpAny_bind (wpAny_newObj_type ?_)
  rw [nmd]
  have mI : Mine X H pins s.heap.objs.size := Mine.of Iv (Nat.le_refl _)
  have hS : (s.heap.push { cls := .type "list_iterator", data := .fields #[.ref l, .int 0 0] }).objs.size = s.heap.objs.size + 1 := size_push' ..
  have mS : Mine X H pins (s.heap.push { cls := .type "list_iterator", data := .fields #[.ref l, .int 0 0] }).objs.size := Mine.of Iv (by rw [hS]; exact Nat.le_succ _)
  have hlI : l ≠ s.heap.objs.size := Nat.ne_of_lt hll
  have hSI : (s.heap.push { cls := .type "list_iterator", data := .fields #[.ref l, .int 0 0] }).objs.size ≠ s.heap.objs.size := by rw [hS]; exact Nat.ne_of_gt (Nat.lt_succ_self _)
  refine wpAny_pure ⟨plainId_quiet PySem.F.plain_min_loop _, ?_⟩
  have kp : ∀ b o, s.heap.get? b = some o → ((s.heap.push { cls := .type "list_iterator", data := .fields #[.ref l, .int 0 0] }).push (seqL #[] 0)).get? b = some o := fun b o e => Heap.get?_push_of_some _ (Heap.get?_push_of_some _ e)
  have I0 : Inv X pins σ H { s with heap := (s.heap.push { cls := .type "list_iterator", data := .fields #[.ref l, .int 0 0] }).push (seqL #[] 0) } := Iv.kept (t' := s.toks) kp
  have gI : ((s.heap.push { cls := .type "list_iterator", data := .fields #[.ref l, .int 0 0] }).push (seqL #[] 0)).get? s.heap.objs.size = some { cls := .type "list_iterator", data := .fields #[.ref l, .int 0 0] } :=
    Heap.get?_push_of_some _ (Heap.get?_push_size _ rfl)
  have gS : ((s.heap.push { cls := .type "list_iterator", data := .fields #[.ref l, .int 0 0] }).push (seqL #[] 0)).get? (s.heap.push { cls := .type "list_iterator", data := .fields #[.ref l, .int 0 0] }).objs.size = some (seqL #[] 0) := Heap.get?_push_size _ rfl
  obtain ⟨its0, rl0, hL0⟩ := sqL_at I0 hl
  have hsz0 : its0.toArray.size = xs.length := by rw [List.size_toArray, rl0.length]
  have wk := Walks.list (prog := X.prog) (w := X.w) (A := X.A.in1) hh s.heap.objs.size l hlI its0.toArray
  refine codeAny_builtin PySem.F.entry_min_loop ?_
  rw [Around.under_plainId PySem.F.plain_min_loop _]
  show wpAny _ X.A.in1 (seqItems? (.ref _) >>= _) _ _ _
  refine wpAny_bind (wpAny_seqItems gS rfl ?_)
  show wpAny _ X.A.in1 (tryCatch (pyNext (.ref s.heap.objs.size)) _ >>= _) _ _ _
  refine wpAny_bind (wpAny_tryCatch (wk.item 0 _ _ _ (by rw [hsz0]; exact hpos) ⟨⟨_, gI, rfl, rfl⟩, hL0⟩ fun v h' tk' hP hst' hk' => ?_))
  have hv : its0[0]? = some v := by simpa using hP
  obtain ⟨u2, hu2, rx⟩ := rl0.get (i := 0) (x := xs[0]) (List.getElem?_eq_getElem hpos)
  have eu : u2 = v := Option.some.inj (hu2.symm.trans hv)
  subst eu
  obtain ⟨oI', hoI', hoc, hod⟩ := id hst'.1
  have I1a := I0.turned (it := s.heap.objs.size) (t' := tk') (h' := h') (fun b o hb e => hk' b o (by simpa using hb) e) mI.hn mI.hL mI.h1 mI.h2 mI.h3
  have I1 : Inv X pins σ H { s with heap := h', toks := tk' } := I1a
  have gS1 : h'.get? (s.heap.push { cls := .type "list_iterator", data := .fields #[.ref l, .int 0 0] }).objs.size = some (seqL #[] 0) := hk' _ _ (by simpa using hSI) gS
  have s1 := Heap.SameBut.update h' (s.heap.push { cls := .type "list_iterator", data := .fields #[.ref l, .int 0 0] }).objs.size (Obj.mapSeq fun _ => #[u2, u2])
  obtain ⟨c2, hc2⟩ : ∃ c2, (h'.update (s.heap.push { cls := .type "list_iterator", data := .fields #[.ref l, .int 0 0] }).objs.size (Obj.mapSeq fun _ => #[u2, u2])).get? (s.heap.push { cls := .type "list_iterator", data := .fields #[.ref l, .int 0 0] }).objs.size = some (seqL #[u2, u2] c2) := ⟨_, get?_update_seq gS1 fun _ => #[u2, u2]⟩
  have I6 := I1.turned (t' := tk') (it := (s.heap.push { cls := .type "list_iterator", data := .fields #[.ref l, .int 0 0] }).objs.size) (fun b o hb e => (s1.2 b hb).trans e) mS.hn mS.hL mS.h1 mS.h2 mS.h3
  have I7 := mS.pinned I6 hc2 (ncl _ _)
  show wpAny _ X.A.in1 (updateSeq (s.heap.push { cls := .type "list_iterator", data := .fields #[.ref l, .int 0 0] }).objs.size (fun _ => #[u2, u2]) >>= _) _ _ _
  refine wpAny_bind ?_
  refine wpAny_updateSeq gS1 rfl ?_
  rw [nmd]
  refine wpAny_pure ⟨plainId_quiet PySem.F.plain_min_loop _, minT_loop ordLt hh hl hlI hSI mI mS cmp (Q := EP X pins σ Q) (fun i x u s' hx ru hb J => ⟨x, H, J, ru, hq i x hx hb⟩) _ 0 0 _ xs[0] u2 c2 rfl hpos I7 ⟨oI', (s1.2 _ hSI.symm).trans hoI', hoc, hod⟩ (List.getElem?_eq_getElem hpos) rx (Nat.le_refl _) fun j' hj' => ?_⟩
  have e : j' = 0 := by omega
  subst e
  exact ⟨ordLt.1 _, fun h => absurd h (Nat.lt_irrefl _)⟩
end
/-! #### by data -/
/-- the ints of a tuple -/
def intTup : D → Option (List Int)
  | .tup ds => intsOf ds
  | _ => none
theorem intTup_ok {d : D} {ns : List Int} (h : intTup d = some ns) : d = .tup (ns.map D.int) := by
  cases d with
  | tup ds => rw [intsOf_ok (show intsOf ds = some ns from h)]
  | _ => cases h
def cMinT : RC1 := fun ds ω Φ => match ds with
  | [x] => onS (asL x ω) fun xs => xs ≠ [] ∧ (∀ d ∈ xs, intTup d ≠ none) ∧ ∀ (i : Nat) (d : D) (ns : List Int), xs[i]? = some d → intTup d = some ns → (∀ (j : Nat) (e : D) (ms : List Int), xs[j]? = some e → intTup e = some ms → HT.lexLt ms ns = false ∧ (j < i → HT.lexLt ns ms = true)) → Φ d ω
  | _ => False
theorem ok_minT {K : PySem.W.Frag} : CallOk K (rBestT K HT.lexLt) cMinT := fun F G ω H vs ds Φ Q s r h k => by
  match ds, r, h with
  | [x], r, h =>
    obtain ⟨v, rfl, h1⟩ := one_arg r
    obtain ⟨es, h2, hne, hall, h⟩ := onS_ok h
    obtain ⟨a, xs, rfl, ha, hr⟩ := asL_ok s h1 h2
    have hl := hr.len
    have kf : ∀ (i : Nat) (x : V), xs[i]? = some x → ∃ d ns, es[i]? = some d ∧ intTup d = some ns ∧ Rep K G x d := fun i x hx => by
      have hi := (List.getElem?_eq_some_iff.mp hx).1
      have hd : es[i]? = some es[i] := List.getElem?_eq_getElem (by omega)
      have := hall es[i] (List.getElem_mem _)
      cases e : intTup es[i] with
      | none => exact absurd e this
      | some ns => exact ⟨es[i], ns, hd, e, hr.get hx hd⟩
    refine ⟨a, xs, fun i => ((es[i]?.bind intTup).getD []), rfl, sq_of ha, by rw [hl]; exact List.length_pos_iff.mpr hne, fun i x hx => ?_, fun i x hx hb => ?_⟩
    · obtain ⟨d, ns, h3, h4, h5⟩ := kf i x hx
      rw [intTup_ok h4] at h5
      obtain ⟨t, ys, rfl, ht, hy⟩ := h5.invT
      refine ⟨t, rfl, ?_⟩
      rw [hy.ints] at ht
      show SqT K H t (((es[i]?.bind intTup).getD []).map V.int)
      rw [h3]
      show SqT K H t (((intTup d).getD []).map V.int)
      rw [h4]
      exact st_of (s.exG _ _ ht)
    · obtain ⟨d, ns, h3, h4, h5⟩ := kf i x hx
      refine k _ _ ω G H (h i d ns h3 h4 fun j e ms h6 h7 => ?_) (Ex.refl G) s h5
      have hj := (List.getElem?_eq_some_iff.mp h6).1
      have := hb j (by omega)
      simp only [h3, h6, Option.bind_some, h4, h7, Option.getD_some] at this
      exact this
end Cu

/-! == DP -/
set_option maxHeartbeats 4000000
namespace Cu
open PySem PySem.Spec PyProof.Rows L2 Evl CuT
/-! ### calls by keywords alone, in the reverse order of the parameters -/
def FnK (P : Program) (w : World) (K : PySem.W.Frag) (mg : Str → Option Value) (base : Heap) (k : Nat) (f : Addr) (ks : List Str) (sp : Sp) : Prop := ∀ (A : Around) (outer : List Env) (s : Shared) (H : Hp) (ws : List Value) (zs : List V) (Q : VK) (E : XK), Room k A → Env0 P w K mg base A outer s H → Vals zs ws → sp zs H Q E →
  codeAny (model P w) A (.call (.ref f) ⟨[], ks.zip ws⟩) (CR (L2.CX P w) outer P w H s Q E) s
theorem Vals.rev : ∀ {xs : List V} {us : List Value}, Vals xs us → Vals xs.reverse us.reverse
  | _, _, .nil => .nil
  | _, _, .cons r t => by
    rw [List.reverse_cons, List.reverse_cons]
    exact Paired.snoc (Vals.rev t) r
section
variable {P : Program} {w : World} {K : PySem.W.Frag} {mg : Str → Option Value} {base : Heap} {k : Nat} {f : Addr} {fd : FuncData} {ps ks : List Str} {sp : Sp} {x qual : Str} {st : Stmt}
theorem fnk_of (F : FunD K x qual (defArgs st) (defBody st) (defScope st) [] [] f fd) (G : FnOk P w K mg base (L2.CX P w) k f fd ps sp) (hks : ks.length = ps.length)
    (hb : ∀ (kV doc pm : Value) (an : Option Addr) (cdv ct : Value) (us : List Value), us.length = ps.length → bindArgs (PySem.W.fnOf x qual (defArgs st) (defBody st) (defScope st) .none kV doc pm an cdv ct) ⟨[], ks.zip us⟩ = pure (ps.zip us.reverse)) : FnK P w K mg base k f ks (fun zs H Q E => sp zs.reverse H Q E) := by
  obtain ⟨oc, od, dV, kV, doc, pm, an, cdv, ct, osl, rfl, lk, hcd, hD, hK⟩ := F.ex
  intro A outer s H ws zs Q E hr e0 r h
  have hl : zs.length = ps.length := by
    have := G.len _ _ _ _ h
    rwa [List.length_reverse] at this
  have hl2 : ws.length = ps.length := by rw [← r.length]; exact hl
  rcases hD with ⟨_, rfl⟩ | ⟨z, _⟩
  · exact G.run A outer s H ⟨[], ks.zip ws⟩ ws.reverse zs.reverse Q E hr e0 (BindsTo.of_looks fun M => PySem.W.Looks.of_pure (hb kV doc pm an cdv ct ws hl2)) (Cu.Vals.rev r) h
  · exact absurd rfl z
end
def DKw (X : Cx) (E : XK) (kws : List Keyword) (d : RA) : Prop := PK X kws (lowA X.K E d)
section
variable {X : Cx} {E : XK} {pos p kpos : Pos} {kws : List Keyword} {nm : Option Str} {e : Expr} {d : RE} {da : RA} {x : Str}
theorem dk_of {t : TA} (h : PK X kws t) (r : ∀ σ H Q, lowA X.K E da σ H Q → t σ H Q) : DKw X E kws da := ⟨fun pos pins s σ H Q I q => h.run pos pins s σ H Q I (r σ H Q q)⟩
theorem dk_nil : DKw X E [] dNil := dk_of pk_nil fun σ H Q ⟨F, G, ω, ρ, Φ, ξ, s, r, h, k, _⟩ => k [] [] ω G H h (Ex.refl G) s .nil
theorem dk_cons (h1 : DE X E e d) (h2 : DKw X E kws da) : DKw X E (⟨nm, e, kpos⟩ :: kws) (dCons d da) :=
  dk_of (pk_cons h1 h2) fun σ H Q ⟨F, G, ω, ρ, Φ, ξ, s, r, h, k, x⟩ => low_then s r x h fun v d ω1 G1 H1 h1 e1 s1 r1 => low_thenA s1 (r.ext e1) (x.mono e1) h1 fun vs ds ω2 G2 H2 h2 e2 s2 r2 => k _ _ ω2 G2 H2 h2 (e1.trans e2) s2 (.cons (r1.ext e2) r2)
theorem run_fnK {k : Nat} {f : Addr} {ks : List Str} {sp : Sp} {pins : List (Addr × Obj)} {σ : L2.St} {H : Hp} {s : Shared} {Q : VK} {ws : List Value} {zs : List V} (F : FnK X.prog X.w X.K X.mg X.base k f ks sp) (hr : Room k X.A) (hx : Passes (L2.CX X.prog X.w) X E) (I : Inv X pins σ H s) (rz : Vals zs ws) (h : sp zs H Q E) :
    wpAny (model X.prog X.w) X.A (call (.ref f) [] (ks.zip ws)) (EP X pins σ Q) X.xe s := by
  refine wpAny_call (codeAny_mono (F X.A X.stack s H ws zs Q E hr I.env0 rz h) fun r s' hq => ?_)
  cases r with
  | error e => exact hx pins σ H s e s' I hq
  | ok fl =>
    cases fl with
    | ret u => exact I.after hq
    | next => exact False.elim hq
    | brk => exact False.elim hq
    | cont => exact False.elim hq
theorem pe_callK0 {k : Nat} {f : Addr} {ks : List Str} {sp : Sp} {t : TA} (F : FnK X.prog X.w X.K X.mg X.base k f ks sp) (hr : Room k X.A) (hg : Gl X x) (hm : X.mg x = some (.ref f)) (hk : PySem.W.keepIn X.K (.ref f) = true) (hx : Passes (L2.CX X.prog X.w) X E) (hkw : PK X kws t)
    (hall : (backToKw pos (keywordEach kws X.env)).all (·.1.isSome) = true := by rfl) (hks : (backToKw pos (keywordEach kws X.env)).filterMap (·.1) = ks := by rfl) (hdb : (x == ("__debug__" : Str)) = false := by decide)
    (hpl : ((backTo pos (starEach [] X.env)).any (·.1) || (backToKw pos (keywordEach kws X.env)).any (·.1.isNone)) = false := by rfl) : PE X (.Call (.Name x p) [] kws pos) (tCallR sp E t) := by
  refine ⟨fun pins s σ H Q I h => ?_⟩
  refine wpAny_Call_Name_kw (ld_glob I hg hm ?_ hdb)
  refine PySem.W.callWith_KW0 (h₀ := X.base) I.ok.mod.kin hk hall (thn (hkw.run pos pins s σ H _ I h) fun ws s2 ⟨zs, H2, I2, rz, q2⟩ => ⟨I2.kIn, ?_⟩) hpl
  rw [hks]
  exact run_fnK F hr hx I2 rz q2
theorem de_callK {k : Nat} {f : Addr} {ks : List Str} {S : SD} (F : FnK X.prog X.w X.K X.mg X.base k f ks (spD X.K S)) (hr : Room k X.A) (hg : Gl X x) (hm : X.mg x = some (.ref f)) (hk : PySem.W.keepIn X.K (.ref f) = true) (hx : Passes (L2.CX X.prog X.w) X E) (hkw : DKw X E kws da)
    (hall : (backToKw pos (keywordEach kws X.env)).all (·.1.isSome) = true := by rfl) (hks : (backToKw pos (keywordEach kws X.env)).filterMap (·.1) = ks := by rfl) (hdb : (x == ("__debug__" : Str)) = false := by decide)
    (hpl : ((backTo pos (starEach [] X.env)).any (·.1) || (backToKw pos (keywordEach kws X.env)).any (·.1.isNone)) = false := by rfl) : DE X E (.Call (.Name x p) [] kws pos) (dCall S da) :=
  de_of (pe_callK0 F hr hg hm hk hx hkw hall hks hdb hpl) call_low
end
/-- a promise in the order of the keywords -/
def sRev (S : SD) : SD := fun ξ ds ω Φ => S ξ ds.reverse ω Φ
theorem FnK.imp {P : Program} {w : World} {K : PySem.W.Frag} {mg : Str → Option Value} {base : Heap} {k : Nat} {f : Addr} {ks : List Str} {sp sp' : Sp} (F : FnK P w K mg base k f ks sp) (h : ∀ vs H Q E, sp' vs H Q E → sp vs H Q E) : FnK P w K mg base k f ks sp' := fun A outer s H us vs Q E hr e0 r hs => F A outer s H us vs Q E hr e0 r (h _ _ _ _ hs)
theorem rev_sp {K : PySem.W.Frag} {S : SD} : ∀ vs H Q E, spD K (sRev S) vs H Q E → spD K S vs.reverse H Q E := fun vs H Q E ⟨F, G, ω, ds, Φ, ξ, s, r, h, k, x⟩ => ⟨F, G, ω, ds.reverse, Φ, ξ, s, r.rev, h, k, x⟩
theorem fnkD_of {P : Program} {w : World} {K : PySem.W.Frag} {mg : Str → Option Value} {base : Heap} {k : Nat} {f : Addr} {ks : List Str} {sp : Sp} {S : SD} (F : FnK P w K mg base k f ks sp) (h : ∀ ξ vs ds G ω Φ Q, RepL K G vs ds → S ξ ds ω Φ → (∀ v z G', Φ z ω → Ex G G' → Rep K G' v z → Q v G') → sp vs G Q E0) : FnK P w K mg base k f ks (spD K S) := by
  intro A outer s H ws zs Q E hr e0 r ⟨Fr, G, ω, ds, Φ, ξ, sm, rp, hs, kk, x⟩
  obtain ⟨hh, hf⟩ := sm.hid
  refine frame_code hh e0 (F A outer s _ ws zs _ E0 hr (frame_env hh e0) r ?_)
  rw [hf]
  exact h ξ zs ds G ω Φ _ rp hs fun v z G' hz e rz fD iD => kk v z ω G' _ hz e (sm.back e fD iD) rz
end Cu
namespace Cu
open PySem PySem.Spec PyProof.Rows L2 Evl CuT
/-! ### the law's own def -/
theorem Sim.all {K : PySem.W.Frag} {H : Hp} : Sim K (fun _ => none) H (fun _ => none) H := ⟨Ex.refl H, (fun _ _ h => nomatch h), (fun _ _ h => nomatch h), (fun _ _ h => nomatch h), (fun _ _ h => nomatch h), fun _ _ h => h, fun a o dx h _ q => by rw [h, q]; exact ⟨(fun z => nomatch z), (fun z => nomatch z)⟩⟩
theorem law_mk {P : Program} {w : World} {K : PySem.W.Frag} {mg : Str → Option Value} {base : Heap} {x qual : Str} {st : Stmt} {f : Addr} {fd : FuncData} {N : List Str} {k : Nat} {d : RS} (F : FunD K x qual (defArgs st) (defBody st) (defScope st) [] [] f fd) (sc : FnScope N ["_law_script"] (defScope st))
    (der : ∀ (cdv : Value) (A : Around) (outer : List Env) (s : Shared) (H : Hp) (E : XK), Room k (A.deeper (envOfC qual (defScope st) s.heap.objs.size f cdv)) → DSs (cxOf (L2.CX P w) P w K mg base N qual (defScope st) f cdv A outer s H E).nox E0 (defBody st) d)
    (vc : ∀ ns : List Int, ns.length ≤ 63 → d xno { nx := fun _ _ => False, rt := fun z _ => z = .bl true } (startD N [.scr ns]) fun _ => none) : FnOk P w K mg base (L2.CX P w) (k + 1) f fd ["_law_script"] (spLaw K) := by
  refine F.ok sc (fun vs H Q E h => ?_) (fun cdv A outer s H vs Q E hr h => ?_)
  · obtain ⟨a, ns, rfl, _⟩ := h
    rfl
  obtain ⟨a, ns, rfl, hS, hlen, q⟩ := h
  refine ⟨_, PSs.nox (der cdv A outer s H E hr), fun _ => none, H, fun _ => none, _, _, xno, Sim.all, start_rep (.cons (.scr hS) .nil), vc ns hlen, ⟨fun _ _ _ _ _ z => z.elim, fun v z ω' G' H' hz _ _ rz => ?_, fun _ _ _ _ _ z => z.elim, fun _ _ _ _ _ z => z.elim⟩, XOk.no⟩
  have hz : z = .bl true := hz
  subst hz
  rw [rz.invB]
  exact q H'
end Cu
namespace Cu
open PySem PySem.Spec PyProof.Rows L2 Evl CuT
/-- p != q by the own == -/
def rNeO (C : Addr) (sp : Sp) : R2 := fun x y H Q => ∃ a b dx fs dy gs, x = .ref a ∧ y = .ref b ∧ H a = some (.ins C dx fs) ∧ H b = some (.ins C dy gs) ∧ sp [x, y] H (fun v H' => ∃ r, v = .bl r ∧ Q (.bl (!r)) H') E0
theorem op_neO {X : Cx} {k : Nat} {sp : Sp} (T : Txt X.K X.mg) (F : FnR X.prog X.w X.K X.mg X.base (L2.CX X.prog X.w) k (He.ma X.K (PC X.K) "__eq__") sp) (hr : Room (k + 1) X.A) : OpR X (compareOp .NotEq) (rNeO (PC X.K) sp) := by
  intro pins s σ H x y v u Q I rx ry h
  obtain ⟨a, b, dx, fs, dy, gs, rfl, rfl, ea, eb, h⟩ := h
  obtain rfl : v = Value.ref a := rx
  obtain rfl : u = Value.ref b := ry
  obtain ⟨mA, J, _⟩ := ins_get I.hok ea
  obtain ⟨mB, J', _⟩ := ins_get I.hok eb
  obtain ⟨od, J, _⟩ := J.look
  obtain ⟨od', J', _⟩ := J'.look
  refine ne_own (Nat.lt_of_le_of_lt (Nat.add_le_add_left (by decide : 1 ≤ 64) _) hr.units) I.kIn J J'.type T.ne_Program T.m_Program_eq.at_ T.m_Program_eq.fn T.ob_Program ?_
  refine wpAny_call (codeAny_mono (F X.A.in1 X.stack s H [.ref a, .ref b] [.ref a, .ref b] _ E0 hr.in1 I.env0.in1 (.cons rfl (.cons rfl .nil)) h) fun r s' hq => ?_)
  cases r with
  | error e =>
    obtain ⟨_, _, _, _, _, _, _, _, _, _, _, _, z⟩ := hq
    exact z.elim
  | ok fl =>
    cases fl with
    | ret w =>
      obtain ⟨z, H', I', rz, r, ez, q⟩ := I.after hq
      subst ez
      cases rz
      exact ⟨r, rfl, .bl (!r), H', I', rfl, q⟩
    | next => exact False.elim hq
    | brk => exact False.elim hq
    | cont => exact False.elim hq
def oNeO (S : SD) : RR2 := fun x y ω Φ => match x, y with
  | .prog p, .prog q => S xno [.prog p, .prog q] ω fun z ω' => match z with
    | .bl b => Φ (.bl (!b)) ω'
    | _ => False
  | _, _ => False
theorem ok_neO {K : PySem.W.Frag} {S : SD} : OpOk K (rNeO (PC K) (spD K S)) (oNeO S) := fun F G ω H x y dx dy Φ Q s rx ry hd k => by
  cases dx with
  | prog p =>
    cases dy with
    | prog q =>
      obtain ⟨a, rfl, ha⟩ := rx.invP
      obtain ⟨b, rfl, hb⟩ := ry.invP
      obtain ⟨dx, l, w, h2, _⟩ := ha.at_
      obtain ⟨dy, l', w', h3, _⟩ := hb.at_
      refine ⟨a, b, dx, _, dy, _, rfl, rfl, s.exG _ _ h2, s.exG _ _ h3, F, G, ω, _, _, xno, s, .cons rx (.cons ry .nil), hd, fun v z ω' G' H' hz e' s' r' => ?_, XOk.no⟩
      cases z with
      | bl c => exact ⟨c, r'.invB, k _ _ ω' G' H' hz e' s' .bl⟩
      | _ => exact hz.elim
    | _ => exact hd.elim
  | _ => exact hd.elim
/-- == of the same program -/
def sEqSame : SD := fun _ ds ω Φ => match ds with
  | [.prog p, .prog q] => p = q ∧ WF p ∧ Φ (.bl true) ω
  | _ => False
theorem fd_eqSame {P : Program} {w : World} {K : PySem.W.Frag} {mg : Str → Option Value} {base : Heap} (T : Txt K mg) : FnD P w K mg base 181 (He.ma K (PC K) "__eq__") sEqSame := fnd_of (eq_all T 60) fun ξ vs ds G ω Φ Q r h k => by
  match ds, r, h with
  | [.prog p, .prog q], r, ⟨e, hw, h⟩ =>
    subst e
    obtain ⟨v, u, rfl, h1, h2⟩ := two_args r
    obtain ⟨a, rfl, ha⟩ := h1.invP
    obtain ⟨b, rfl, hb⟩ := h2.invP
    exact ⟨a, b, rfl, ⟨p, ha, hb, hw, hw.depth_le⟩, fun H' e => k _ _ H' h e .bl⟩
end Cu

/-! == DR -/
set_option maxHeartbeats 4000000
namespace Cu
open PySem PySem.Spec PyProof.Rows L2 Evl CuT
/-! ### isinstance, by data -/
inductive Tn where
  | int | bool | str | non | list | tuple
def Tn.s : Tn → String
  | .int => "int" | .bool => "bool" | .str => "str" | .non => "NoneType" | .list => "list" | .tuple => "tuple"
def tyNm (x : D) (ω : Om) : Option Tn := match x with
  | .int _ => some .int
  | .bl _ => some .bool
  | .str _ => some .str
  | .non => some .non
  | .lst _ => some .list
  | .tup _ => some .tuple
  | .mref p => (match ω p with
    | some (.lst _) => some .list
    | _ => none)
  | _ => none
theorem tyNm_ok {K : PySem.W.Frag} {F G H : Hp} {ω : Om} {v : V} {x : D} {n : Tn} (s : Sim K F G ω H) (r : Rep K G v x) (h : tyNm x ω = some n) : TyX K H v (.type n.s) := by
  cases x with
  | int i => cases h; rw [r.invI]; exact .base (.int i)
  | bl i => cases h; rw [r.invB]; exact .base (.bl i)
  | str i => cases h; rw [r.invS]; exact .base (.str i)
  | non => cases h; rw [r.invN]; exact .base .non
  | lst ds =>
    cases h
    obtain ⟨a, xs, rfl, ha, _⟩ := r.invL
    exact .base (.lst (s.exG _ _ ha))
  | tup ds =>
    cases h
    obtain ⟨a, xs, rfl, ha, _⟩ := r.invT
    exact .base (.tup (s.exG _ _ ha))
  | mref p =>
    have h : (match ω p with | some (.lst _) => some Tn.list | _ => none) = some n := h
    cases hp : ω p with
    | none => rw [hp] at h; cases h
    | some c =>
      rw [hp] at h
      cases c with
      | lst ds =>
        cases h
        obtain ⟨xs, h1, _⟩ := s.isL hp
        rw [r.invM]
        exact .base (.lst h1)
      | ins c fs => cases h
      | _ => cases h
  | _ => cases h
def is_int : Tn → Bool
  | .int => true
  | .bool => true
  | _ => false
def cIs_int : RC1 := fun ds ω Φ => match ds with
  | [x, .ty m] => m = "int" ∧ onS (tyNm x ω) fun t => Φ (.bl (is_int t)) ω
  | _ => False
theorem ok_is_int {K : PySem.W.Frag} : CallOk K (rIsi K) cIs_int := fun F G ω H vs ds Φ Q s r h k => by
  match ds, r, h with
  | [x, .ty m], r, ⟨e, h⟩ =>
    subst e
    obtain ⟨v, u, rfl, h1, h2⟩ := two_args r
    obtain ⟨t, h3, h⟩ := onS_ok h
    cases h2.invTy
    refine ⟨v, _, _, _, is_int t, rfl, .ty _, tyNm_ok s h1 h3, ?_, k _ _ ω G H h (Ex.refl G) s .bl⟩
    cases t <;> exact kit_ty (by decide +kernel)
def is_bool : Tn → Bool
  | .bool => true
  | _ => false
def cIs_bool : RC1 := fun ds ω Φ => match ds with
  | [x, .ty m] => m = "bool" ∧ onS (tyNm x ω) fun t => Φ (.bl (is_bool t)) ω
  | _ => False
theorem ok_is_bool {K : PySem.W.Frag} : CallOk K (rIsi K) cIs_bool := fun F G ω H vs ds Φ Q s r h k => by
  match ds, r, h with
  | [x, .ty m], r, ⟨e, h⟩ =>
    subst e
    obtain ⟨v, u, rfl, h1, h2⟩ := two_args r
    obtain ⟨t, h3, h⟩ := onS_ok h
    cases h2.invTy
    refine ⟨v, _, _, _, is_bool t, rfl, .ty _, tyNm_ok s h1 h3, ?_, k _ _ ω G H h (Ex.refl G) s .bl⟩
    cases t <;> exact kit_ty (by decide +kernel)
def is_str : Tn → Bool
  | .str => true
  | _ => false
def cIs_str : RC1 := fun ds ω Φ => match ds with
  | [x, .ty m] => m = "str" ∧ onS (tyNm x ω) fun t => Φ (.bl (is_str t)) ω
  | _ => False
theorem ok_is_str {K : PySem.W.Frag} : CallOk K (rIsi K) cIs_str := fun F G ω H vs ds Φ Q s r h k => by
  match ds, r, h with
  | [x, .ty m], r, ⟨e, h⟩ =>
    subst e
    obtain ⟨v, u, rfl, h1, h2⟩ := two_args r
    obtain ⟨t, h3, h⟩ := onS_ok h
    cases h2.invTy
    refine ⟨v, _, _, _, is_str t, rfl, .ty _, tyNm_ok s h1 h3, ?_, k _ _ ω G H h (Ex.refl G) s .bl⟩
    cases t <;> exact kit_ty (by decide +kernel)
def is_list : Tn → Bool
  | .list => true
  | _ => false
def cIs_list : RC1 := fun ds ω Φ => match ds with
  | [x, .ty m] => m = "list" ∧ onS (tyNm x ω) fun t => Φ (.bl (is_list t)) ω
  | _ => False
theorem ok_is_list {K : PySem.W.Frag} : CallOk K (rIsi K) cIs_list := fun F G ω H vs ds Φ Q s r h k => by
  match ds, r, h with
  | [x, .ty m], r, ⟨e, h⟩ =>
    subst e
    obtain ⟨v, u, rfl, h1, h2⟩ := two_args r
    obtain ⟨t, h3, h⟩ := onS_ok h
    cases h2.invTy
    refine ⟨v, _, _, _, is_list t, rfl, .ty _, tyNm_ok s h1 h3, ?_, k _ _ ω G H h (Ex.refl G) s .bl⟩
    cases t <;> exact kit_ty (by decide +kernel)
def is_tuple : Tn → Bool
  | .tuple => true
  | _ => false
def cIs_tuple : RC1 := fun ds ω Φ => match ds with
  | [x, .ty m] => m = "tuple" ∧ onS (tyNm x ω) fun t => Φ (.bl (is_tuple t)) ω
  | _ => False
theorem ok_is_tuple {K : PySem.W.Frag} : CallOk K (rIsi K) cIs_tuple := fun F G ω H vs ds Φ Q s r h k => by
  match ds, r, h with
  | [x, .ty m], r, ⟨e, h⟩ =>
    subst e
    obtain ⟨v, u, rfl, h1, h2⟩ := two_args r
    obtain ⟨t, h3, h⟩ := onS_ok h
    cases h2.invTy
    refine ⟨v, _, _, _, is_tuple t, rfl, .ty _, tyNm_ok s h1 h3, ?_, k _ _ ω G H h (Ex.refl G) s .bl⟩
    cases t <;> exact kit_ty (by decide +kernel)
/-- isinstance(x, Program) of a program -/
def cIsP : RC1 := fun ds ω Φ => match ds with
  | [.prog _, .glob c] => c = "Program" ∧ Φ (.bl true) ω
  | _ => False
theorem ok_isP {K : PySem.W.Frag} {mg : Str → Option Value} (T : Txt K mg) : CallOk K (rIsi K) cIsP := fun F G ω H vs ds Φ Q s r h k => by
  match ds, r, h with
  | [.prog p, .glob c], r, ⟨e, h⟩ =>
    subst e
    obtain ⟨v, u, rfl, h1, h2⟩ := two_args r
    obtain ⟨a, rfl, ha⟩ := h1.invP
    cases h2.invG
    exact ⟨_, _, _, _, true, rfl, .own _, .base (tyP T (ha.ext s.exG)), T.kit_Program, k _ _ ω G H h (Ex.refl G) s .bl⟩
/-! ### a new program, by data -/
def dMkP (da : RA) : RE := fun ξ ρ ω Φ => da ξ ρ ω fun ds ω1 => match ds with
  | [.str z, .lst l, .int n, .lst wl] => onS (progsOf l) fun ps => onS (strsOf wl) fun ws => ∃ k : Kind, z = k.s ∧ MkOk k ps n ws ∧ Φ (.prog (mkP k ps n ws)) ω1
  | _ => False
theorem four_args {K : PySem.W.Frag} {G : Hp} {vs : List V} {d e f g : D} (r : RepL K G vs [d, e, f, g]) : ∃ v u t w, vs = [v, u, t, w] ∧ Rep K G v d ∧ Rep K G u e ∧ Rep K G t f ∧ Rep K G w g := by
  obtain ⟨v, t, rfl, h1, h2⟩ := r.consInv
  obtain ⟨u, t, w, rfl, h3, h4, h5⟩ := three_args h2
  exact ⟨v, u, t, w, rfl, h1, h3, h4, h5⟩
theorem de_mkP {X : Cx} {E : XK} {p pos : Pos} {e : Expr} {es : List Expr} {da : RA} (T : Txt X.K X.mg) (hr : Room 127 X.A) (hg : Gl X "Program") (hx : Passes (L2.CX X.prog X.w) X E) (ha : DA X E (e :: es) da) (hdb : (("Program" : Str) == ("__debug__" : Str)) = false := by decide)
    (he : starEach (e :: es) X.env = (false, eval e X.env) :: starEach es X.env := by rfl) (hpl : (backTo pos (starEach es X.env)).any (·.1) = false := by rfl) : DE X E (.Call (.Name "Program" p) (e :: es) [] pos) (dMkP da) :=
  de_of (StX.pe_makeR T.mk_Program (frameS (r_Program_init T)) hr hg T.g_Program hx ha hdb he hpl) fun σ H Q ⟨F, G, ω, ρ, Φ, ξ, s, r, h, k, x⟩ => low_thenA s r x h fun vs ds ω1 G1 H1 h1 e1 s1 r1 => by
    match ds, r1, h1 with
    | [.str z, .lst l, .int n, .lst wl], r1, h1 =>
      obtain ⟨ps, hps, h1⟩ := onS_ok h1
      obtain ⟨ws, hws, kd, rfl, mk, h1⟩ := onS_ok h1
      obtain ⟨v1, v2, v3, v4, rfl, a1, a2, a3, a4⟩ := four_args r1
      cases a1.invS
      cases a3.invI
      rw [progsOf_ok hps] at a2
      rw [strsOf_ok hws] at a4
      obtain ⟨la, xs, rfl, hla, hra⟩ := a2.invL
      obtain ⟨wa, ys, rfl, hwa, hrw⟩ := a4.invL
      rw [hrw.strs] at hwa
      have hpl := hra.prL hla
      intro x dx nx ndx ne
      have gx := (s1.freshF nx).2.1
      have gdx := (s1.freshF ndx).2.1
      obtain ⟨hh, hf⟩ := s1.hid
      have hne : ∀ b, (H1 b ≠ none ∧ G1 b = none) → b ≠ x ∧ b ≠ dx := fun b hb => ⟨(fun z => hb.1 (by rw [z]; exact nx)), fun z => hb.1 (by rw [z]; exact ndx)⟩
      have hin : ∀ b, b ≠ x → b ≠ dx → upd (upd H1 dx (.own x)) x (.ins (PC X.K) dx []) b = H1 b := fun b h1 h2 => by rw [upd_ne h1, upd_ne h2]
      have e2 : frm (fun b => H1 b ≠ none ∧ G1 b = none) (upd (upd H1 dx (.own x)) x (.ins (PC X.K) dx [])) = upd (upd G1 dx (.own x)) x (.ins (PC X.K) dx []) := by
        funext b
        by_cases hb : H1 b ≠ none ∧ G1 b = none
        · obtain ⟨n1, n2⟩ := hne b hb
          rw [frm_in (S := fun b => H1 b ≠ none ∧ G1 b = none) hb, upd_ne n1, upd_ne n2, hb.2]
        · rw [frm_out (S := fun b => H1 b ≠ none ∧ G1 b = none) hb]
          by_cases b1 : b = x
          · rw [b1, upd_same, upd_same]
          · rw [upd_ne b1, upd_ne b1]
            by_cases b2 : b = dx
            · rw [b2, upd_same, upd_same]
            · rw [upd_ne b2, upd_ne b2]
              have := congrFun hf b
              rw [frm_out (S := fun b => H1 b ≠ none ∧ G1 b = none) hb] at this
              exact this
      refine ⟨fun b => H1 b ≠ none ∧ G1 b = none, ⟨fun b hb => ?_, fun b zs e hb => ?_, fun a o d e i q => ?_⟩, ?_⟩
      · obtain ⟨n1, n2⟩ := hne b hb
        rw [hin b n1 n2]
        exact hb.1
      · obtain ⟨n1, n2⟩ := hne b hb
        rw [hin b n1 n2] at e
        exact hh.tups b zs e hb
      · have nx' : ¬ (H1 x ≠ none ∧ G1 x = none) := fun z => z.1 nx
        have ndx' : ¬ (H1 dx ≠ none ∧ G1 dx = none) := fun z => z.1 ndx
        by_cases b1 : a = x
        · rw [b1, upd_same] at e
          cases e
          have i' : dx = d := i
          rw [b1, ← i']
          exact ⟨fun z => absurd z nx', fun z => absurd z ndx'⟩
        · by_cases b2 : a = dx
          · rw [b2, upd_ne ne, upd_same] at e
            cases e
            exact False.elim i
          · rw [hin a b1 b2] at e
            by_cases b3 : d = x
            · rw [b3, upd_same] at q
              cases q
            · by_cases b4 : d = dx
              · rw [b4, upd_ne ne, upd_same] at q
                cases q
                exact absurd rfl b1
              · rw [hin d b3 b4] at q
                exact hh.inss a o d e i q
      rw [e2]
      have ex1 : Ex G1 (upd (upd G1 dx (.own x)) x (.ins (PC X.K) dx [])) := (Ex.new gdx).trans (Ex.new (by rw [upd_ne (Ne.symm ne)]; exact gx))
      refine ⟨x, dx, kd, la, ps, n, wa, ws, rfl, upd_same, hpl.ext ex1, ex1 _ _ hwa, mk, fun H' b hxx fD iD => ⟨rfl, ?_⟩⟩
      have ex2 : Ex G1 H' := fun c o h => b c o (ne_of_none h gx) (ex1 c o h)
      have em : mrg (fun b => H1 b ≠ none ∧ G1 b = none) (upd (upd H1 dx (.own x)) x (.ins (PC X.K) dx [])) H' = mrg (fun b => H1 b ≠ none ∧ G1 b = none) H1 H' := by
        funext c
        by_cases hc : H1 c ≠ none ∧ G1 c = none
        · obtain ⟨n1, n2⟩ := hne c hc
          rw [mrg_in (S := fun b => H1 b ≠ none ∧ G1 b = none) hc, mrg_in (S := fun b => H1 b ≠ none ∧ G1 b = none) hc, hin c n1 n2]
        · rw [mrg_out (S := fun b => H1 b ≠ none ∧ G1 b = none) hc, mrg_out (S := fun b => H1 b ≠ none ∧ G1 b = none) hc]
      rw [em] at iD ⊢
      obtain ⟨as, g1, g2, g3⟩ := hpl.ext ex2
      exact k _ _ ω1 H' _ h1 (e1.trans ex2) (s1.back ex2 fD iD) (.prog (.mk hxx g1 (ex2 _ _ hwa) g2 g3))
/-! ### a loop over a list that may change, but does not here -/
def dForLW (p : Addr) (ds0 : List D) (t : Tg) (body : RS) (ξ : XD) (Δ : EndsD) : List D → EnvD → Om → Prop
  | [], ρ, ω => ω p = some (.lst ds0) ∧ Δ.nx ρ ω
  | d :: r, ρ, ω => ω p = some (.lst ds0) ∧ onS (t.put d ρ) fun ρ1 => body ξ { nx := dForLW p ds0 t body ξ Δ r, ct := dForLW p ds0 t body ξ Δ r, bk := Δ.nx, rt := Δ.rt } ρ1 ω
def dForM (de : RE) (t : Tg) (body : RS) : RS := fun ξ Δ ρ ω => de ξ ρ ω fun x ω1 => match x with
  | .mref p => (match ω1 p with
    | some (.lst ds) => dForLW p ds t body ξ Δ ds ρ ω1
    | _ => False)
  | .lst ds => dForL t body ξ Δ ds ρ ω1
  | _ => False
theorem ds_forM {X : Cx} {E : XK} {pos : Pos} {tg iter : Expr} {body : List Stmt} {de : RE} {t : Tg} {d : RS} (hp : PassesOwn (model X.prog X.w) X.A X.env X.xe) (hc : X.calm = true) (hi : DE X E iter de) (hg : DG X tg t) (hb : DSs X E body d) (hs : ∀ x, foldedSetIterable iter X.env x = pure x := by intro _; rfl) : DS X E (.For tg iter body [] pos) (dForM de t d) := by
  refine ds_of (ps_for hp hc (pi_list hi) hg hb hs) fun D' σ H ⟨F, G, ω, ρ, Δ, ξ, s, r, h, k, x⟩ => ?_
  refine low_then s r x h fun v d0 ω1 G1 H1 h1 e1 s1 r1 => ?_
  cases d0 with
  | mref p =>
    obtain ⟨ds, hpd, h1⟩ := omL h1
    obtain ⟨xs, hx, hr, hG, hF⟩ := s1.isL hpd
    have hl := hr.len
    refine ⟨p, r1.invM, ⟨xs, sq_of hx⟩, ?_⟩
    refine ⟨fun i m σ H => m = ds.length - i ∧ i ≤ ds.length ∧ ∃ G2 ω2 ρ2, Ex G1 G2 ∧ Sim X.K F G2 ω2 H ∧ RepE X.K G2 σ ρ2 ∧ dForLW p ds t d ξ Δ (ds.drop i) ρ2 ω2, ⟨ds.length, rfl, Nat.zero_le _, G1, ω1, ρ, Ex.refl G1, s1, r.ext e1, h1⟩, ?_⟩
    rintro i m σ2 H2 ⟨rfl, hi, G2, ω2, ρ2, e2, s2, r2, h2⟩
    have hw : ω2 p = some (.lst ds) := by
      cases hd : ds.drop i with
      | nil => rw [hd, dForLW] at h2; exact h2.1
      | cons a b => rw [hd, dForLW] at h2; exact h2.1
    obtain ⟨zs, hz, hrz, _⟩ := s2.isL hw
    have hlz := hrz.len
    by_cases hlt : i < ds.length
    · rw [List.drop_eq_getElem_cons hlt, dForLW] at h2
      refine .inr ⟨⟨zs, zs[i]'(by omega), sq_of hz, List.getElem?_eq_getElem (by omega)⟩, fun σ H => ∃ G2 ω2 ρ2, Ex G1 G2 ∧ Sim X.K F G2 ω2 H ∧ RepE X.K G2 σ ρ2 ∧ dForLW p ds t d ξ Δ (ds.drop (i + 1)) ρ2 ω2, fun σ' H' h' => ⟨ds.length - (i + 1), by omega, rfl, hlt, h'⟩, fun y H3 hy => ?_⟩
      obtain ⟨rfl, hy2⟩ := hy
      have hzi := hy2 zs (sq_of hz)
      have r3 := hrz.get hzi (List.getElem?_eq_getElem hlt)
      refine ⟨F, G2, ω2, ρ2, ds[i], _, s2, r2, r3, h2.2, fun σ4 ρ4 h4 r4 _ => ?_⟩
      have x3 := e1.trans e2
      exact low_thenS s2 r4 (x.mono x3) h4 ⟨fun σ5 ρ5 ω5 G5 H5 h5 e5 s5 r5 => ⟨G5, ω5, ρ5, e2.trans e5, s5, r5, h5⟩, k.rt.mono x3, fun σ5 ρ5 ω5 G5 H5 h5 e5 s5 r5 => k.nx σ5 ρ5 ω5 G5 H5 h5 (x3.trans e5) s5 r5, fun σ5 ρ5 ω5 G5 H5 h5 e5 s5 r5 => ⟨G5, ω5, ρ5, e2.trans e5, s5, r5, h5⟩⟩
    · have e : i = ds.length := by omega
      subst e
      rw [List.drop_length, dForLW] at h2
      exact .inl ⟨⟨zs, sq_of hz, by omega⟩, k.nx σ2 ρ2 ω2 G2 H2 h2.2 (e1.trans e2) s2 r2⟩
  | lst ds =>
    obtain ⟨a, xs, rfl, ha, hr⟩ := r1.invL
    have hl := hr.len
    refine ⟨a, rfl, ⟨xs, sq_of (s1.exG _ _ ha)⟩, ?_⟩
    refine ⟨fun i m σ H => m = ds.length - i ∧ i ≤ ds.length ∧ ∃ G2 ω2 ρ2, Ex G1 G2 ∧ Sim X.K F G2 ω2 H ∧ RepE X.K G2 σ ρ2 ∧ dForL t d ξ Δ (ds.drop i) ρ2 ω2, ⟨ds.length, rfl, Nat.zero_le _, G1, ω1, ρ, Ex.refl G1, s1, r.ext e1, h1⟩, ?_⟩
    rintro i m σ2 H2 ⟨rfl, hi, G2, ω2, ρ2, e2, s2, r2, h2⟩
    have hz := (e2.trans s2.exG) _ _ ha
    by_cases hlt : i < ds.length
    · rw [List.drop_eq_getElem_cons hlt, dForL] at h2
      refine .inr ⟨⟨xs, xs[i]'(by omega), sq_of hz, List.getElem?_eq_getElem (by omega)⟩, fun σ H => ∃ G2 ω2 ρ2, Ex G1 G2 ∧ Sim X.K F G2 ω2 H ∧ RepE X.K G2 σ ρ2 ∧ dForL t d ξ Δ (ds.drop (i + 1)) ρ2 ω2, fun σ' H' h' => ⟨ds.length - (i + 1), by omega, rfl, hlt, h'⟩, fun y H3 hy => ?_⟩
      obtain ⟨rfl, hy2⟩ := hy
      have hzi := hy2 xs (sq_of hz)
      have r3 := (hr.get hzi (List.getElem?_eq_getElem hlt)).ext e2
      refine ⟨F, G2, ω2, ρ2, ds[i], _, s2, r2, r3, h2, fun σ4 ρ4 h4 r4 _ => ?_⟩
      have x3 := e1.trans e2
      exact low_thenS s2 r4 (x.mono x3) h4 ⟨fun σ5 ρ5 ω5 G5 H5 h5 e5 s5 r5 => ⟨G5, ω5, ρ5, e2.trans e5, s5, r5, h5⟩, k.rt.mono x3, fun σ5 ρ5 ω5 G5 H5 h5 e5 s5 r5 => k.nx σ5 ρ5 ω5 G5 H5 h5 (x3.trans e5) s5 r5, fun σ5 ρ5 ω5 G5 H5 h5 e5 s5 r5 => ⟨G5, ω5, ρ5, e2.trans e5, s5, r5, h5⟩⟩
    · have e : i = ds.length := by omega
      subst e
      rw [List.drop_length, dForL] at h2
      exact .inl ⟨⟨xs, sq_of hz, by omega⟩, k.nx σ2 ρ2 ω2 G2 H2 h2 (e1.trans e2) s2 r2⟩
  | _ => exact h1.elim
/-! ### what follows, shown once -/
def dCut (t u : RS) : RS := fun ξ Δ ρ ω => ∃ Mid : EnvD → Om → Prop, t ξ { Δ with nx := Mid } ρ ω ∧ ∀ ρ' ω', Mid ρ' ω' → u ξ Δ ρ' ω'
theorem dcut_intro {t u : RS} {ξ : XD} {Δ : EndsD} {ρ : EnvD} {ω : Om} (Mid : EnvD → Om → Prop) (h1 : t ξ { Δ with nx := Mid } ρ ω) (h2 : ∀ ρ' ω', Mid ρ' ω' → u ξ Δ ρ' ω') : dCut t u ξ Δ ρ ω := ⟨Mid, h1, h2⟩
theorem dss_cut {X : Cx} {E : XK} {st : Stmt} {rest : List Stmt} {d u : RS} (h1 : DS X E st d) (h2 : DSs X E rest u) : DSs X E (st :: rest) (dCut d u) := dss_of (pss_cons h1 h2) fun D σ H ⟨F, G, ω, ρ, Δ, ξ, s, r, ⟨Mid, h, hm⟩, k, x⟩ =>
  low_thenS s r x h ⟨fun σ1 ρ1 ω1 G1 H1 h1 e1 s1 r1 => low_thenS s1 r1 (x.mono e1) (hm ρ1 ω1 h1) (k.mono e1), k.rt, k.bk, k.ct⟩
theorem forLW_go {p : Addr} {ds0 : List D} {t : Tg} {body : RS} {ξ : XD} {Δ : EndsD} (I : Nat → EnvD → Om → Prop) (hI : ∀ i ρ ω, I i ρ ω → ω p = some (.lst ds0)) : ∀ (r : List D) (i : Nat)
    (_ : ∀ j d ρ ω, r[j]? = some d → I (i + j) ρ ω → ∀ N : EnvD → Om → Prop, (∀ ρ' ω', I (i + j + 1) ρ' ω' → N ρ' ω') → onS (t.put d ρ) fun ρ1 => body ξ { nx := N, ct := N, bk := Δ.nx, rt := Δ.rt } ρ1 ω)
    (_ : ∀ ρ ω, I (i + r.length) ρ ω → Δ.nx ρ ω) (ρ : EnvD) (ω : Om), I i ρ ω → dForLW p ds0 t body ξ Δ r ρ ω
  | [], i, _, fin, ρ, ω, h => by
    rw [dForLW]
    exact ⟨hI i ρ ω h, fin ρ ω h⟩
  | d :: r, i, step, fin, ρ, ω, h => by
    rw [dForLW]
    refine ⟨hI i ρ ω h, step 0 d ρ ω rfl h _ fun ρ' ω' h' => forLW_go I hI r (i + 1) (fun j d ρ ω hj hI N hN => step (j + 1) d ρ ω (by simpa using hj) (by rw [show i + (j + 1) = i + 1 + j by omega]; exact hI) N fun ρ' ω' h' => hN ρ' ω' (by rw [show i + 1 + j + 1 = i + (j + 1) + 1 by omega]; exact h')) (fun ρ ω h => fin ρ ω (by rw [List.length_cons, show i + (r.length + 1) = i + 1 + r.length by omega]; exact h)) ρ' ω' h'⟩
theorem forLW_inv {p : Addr} {t : Tg} {body : RS} {ξ : XD} {Δ : EndsD} {ds : List D} (I : Nat → EnvD → Om → Prop) (hI : ∀ i ρ ω, I i ρ ω → ω p = some (.lst ds))
    (step : ∀ i d ρ ω, ds[i]? = some d → I i ρ ω → ∀ N : EnvD → Om → Prop, (∀ ρ' ω', I (i + 1) ρ' ω' → N ρ' ω') → onS (t.put d ρ) fun ρ1 => body ξ { nx := N, ct := N, bk := Δ.nx, rt := Δ.rt } ρ1 ω)
    (fin : ∀ ρ ω, I ds.length ρ ω → Δ.nx ρ ω) {ρ : EnvD} {ω : Om} (h0 : I 0 ρ ω) : dForLW p ds t body ξ Δ ds ρ ω :=
  forLW_go I hI ds 0 (fun j d ρ ω hj hI N hN => step j d ρ ω hj (by rw [Nat.zero_add] at hI; exact hI) N (by rw [Nat.zero_add] at hN; exact hN)) (fun ρ ω h => fin ρ ω (by rw [Nat.zero_add] at h; exact h)) ρ ω h0
section
variable {P : Program} {w : World} {K : PySem.W.Frag} {mg : Str → Option Value} {base : Heap}
def sCheckP : SD := fun _ ds ω Φ => match ds with
  | [.str _, .prog _] => Φ .non ω
  | _ => False
theorem fd_check_program (T : Txt K mg) : FnD P w K mg base 1 (He.ga K "check_program") sCheckP := by
  refine fnd_mk T.f_check_program sc_check_program (fun _ _ _ _ _ _ us hl => match us, hl with | [_, _], _ => rfl) (fun ξ ds ω Φ h => ?_) (fun cdv A outer s H E hr => (dss_one (ds_if (dt_not (dt_val (de_callB call_isi (ok_isP T) (by rfl) T.b_isinstance (by decide +kernel) (da_cons (dv 1) (da_cons (de_glob (pe_glob (v := .ref (He.ga K "Program")) rfl T.g_Program rfl)) da_nil))))) (dss_one ds_never) dss_nil))) (fun ξ ds ω Φ h => ?_)
  · match ds, h with
    | [.str _, .prog _], h => rfl
  match ds, h with
  | [.str _, .prog p], h =>
    simp only [dSeq, dAsg, dAsgT, dPar, dRet, dDrop, dIfS, dNext, dBreak, dCont, dFor, dIL, dIT, dIR1, dIR2, dIE, dIZ, oAdd, oSub, oMul, oDiv, oMod, oPow, oLt, oLe, oGt, oGe, atI_0, atI_1, atI_2, atI_3, atI_m1, ixN_0, ixN_1, ixN_2, Om.put_same, dVar, getK, dC, dNil, dCons, dOp, oI, oIC, oMulS, oEq, oNe, eqS, oIsN, oNotN, isNon, dTest, dAnd, dOr, dNot, dAndV, dOrV, dNotV, dIf, dTup, dLst, dLstM, dCall, dCB, dChain, asL, asQ, oIx, oIxL, oIxT, oCat, oCatM, oCatT, oNil, oIn, dNoPart, dPart, dSl, slL, slT, slLM, cMax2, cMin2, cLen, cList, cListM, cInt, cTuple, dFld, fldP, dMeth, oOwn, put_nm, put_tp, puts_nil, puts_cons, onS, dNeg, dRev, dSetI, dBM, mAppend, mExtend, mClear, mReverse, dYes, startD, List.map_cons, List.map_nil, List.length_cons, List.length_nil, List.set_cons_zero, List.set_cons_succ, List.cons_append, List.nil_append, Nat.reduceAdd, Nat.reduceSub, List.replicate_succ, List.replicate_zero, List.length_singleton, wipeD, decide_eq_true_eq, decide_eq_false_iff_not, reduceCtorEq, true_implies, false_implies, and_true, true_and, if_true, if_false, Bool.false_eq_true, Bool.not_true, Bool.not_false, Bool.not_eq_true', Bool.not_eq_false', Om.put_put, dLc, dLcM, dFrz, frzK, List.getElem?_cons_succ, List.getElem?_cons_zero, dMkP, dForM, dNever, cIs_int, cIs_bool, cIs_str, cIs_list, cIs_tuple, cIsP, tyNm, is_int, is_bool, is_str, is_list, is_tuple, N_check_program]
    exact h
/-- together of a list, one that may change, too -/
def sTogetherM : SD := fun _ ds ω Φ => match ds with
  | [x] => onS (asL x ω) fun l => onS (progsOf l) fun ps => MkOk .together ps 0 [] ∧ Φ (.prog (mkP .together ps 0 [])) ω
  | _ => False
theorem fd_togetherM (T : Txt K mg) : FnD P w K mg base 128 (He.ga K "together") sTogetherM := by
  have G_check_program : FnD P w K mg base 1 (He.ga K "check_program") sCheckP := fd_check_program T
  refine fnd_mk T.f_together sc_together (fun _ _ _ _ _ _ us hl => match us, hl with | [_], _ => rfl) (fun ξ ds ω Φ h => ?_) (fun cdv A outer s H E hr => (dss_cons (ds_if (DW.dt (dw_or (dt_not (dt_val (de_callB call_isi ok_is_list (by rfl) T.b_isinstance (by decide +kernel) (da_cons (dv 0) (da_cons (de_ty (pe_bltn (v := .ty "list") (by rfl) T.b_list (by decide +kernel) rfl)) da_nil))))) (dw_or1 (dt_not (dt_chain op_le op_le de_int (de_callB call_len_seq ok_len (by rfl) T.b_len PySem.boot_len (da_cons (dv 0) da_nil)) (de_gi rfl T.i_MOST_PARTS)))))) (dss_one ds_never) dss_nil)
    (dss_cons (ds_forM PassesOwn.never rfl (dv 0) (dg_name (i := 1) sc_together.nd rfl (Or.inl rfl)) (dss_one (ds_expr (de_call G_check_program (hr.mono (by omega)) rfl T.g_check_program (kp_of T.f_check_program) passL (da_cons de_str (da_cons (dv 1) da_nil))))))
    (dss_one (ds_ret (de_mkP T (hr.mono (by omega)) rfl passL (da_cons de_str (da_cons (de_callTy call_list_of ok_list (by rfl) T.b_list (by decide +kernel) (da_cons (dv 0) da_nil)) (da_cons de_int (da_cons (de_lst da_nil) da_nil)))))))))) (fun ξ ds ω Φ h => ?_)
  · match ds, h with
    | [x], h => rfl
  match ds, h with
  | [x], h =>
    obtain ⟨l, hx, h⟩ := onS_ok h
    obtain ⟨ps, hps, mk, hfin⟩ := onS_ok h
    obtain ⟨hne, hlen, _, _⟩ := mk.sh
    have hpos : 0 < ps.length := List.length_pos_iff.mpr hne
    have hl := progsOf_ok hps
    subst hl
    have ll : (ps.map D.prog).length = ps.length := List.length_map ..
    have body : ∀ (i : Nat) (d : D) (ρ : EnvD) (ω' : Om), (ps.map D.prog)[i]? = some d → (ω' = ω ∧ ∃ v, ρ = [some x, v]) → ∀ N : EnvD → Om → Prop, (∀ ρ' ω'', (ω'' = ω ∧ ∃ v, ρ' = [some x, v]) → N ρ' ω'') → onS ((Tg.nm 1).put d ρ) fun ρ1 => dDrop (dCall sCheckP (dCons (dC (D.str (Str.ofString "programs"))) (dCons (dVar 1) dNil))) xno { nx := N, ct := N, bk := fun ρ' ω' => False, rt := Φ } ρ1 ω' := fun i d ρ ω' hd hI N hN => by
      obtain ⟨rfl, v, rfl⟩ := hI
      rw [List.getElem?_map] at hd
      obtain ⟨q, hq, rfl⟩ := Option.map_eq_some_iff.mp hd
      simp only [dSeq, dAsg, dAsgT, dPar, dRet, dDrop, dIfS, dNext, dBreak, dCont, dFor, dIL, dIT, dIR1, dIR2, dIE, dIZ, oAdd, oSub, oMul, oDiv, oMod, oPow, oLt, oLe, oGt, oGe, atI_0, atI_1, atI_2, atI_3, atI_m1, ixN_0, ixN_1, ixN_2, Om.put_same, dVar, getK, dC, dNil, dCons, dOp, oI, oIC, oMulS, oEq, oNe, eqS, oIsN, oNotN, isNon, dTest, dAnd, dOr, dNot, dAndV, dOrV, dNotV, dIf, dTup, dLst, dLstM, dCall, dCB, dChain, asL, asQ, oIx, oIxL, oIxT, oCat, oCatM, oCatT, oNil, oIn, dNoPart, dPart, dSl, slL, slT, slLM, cMax2, cMin2, cLen, cList, cListM, cInt, cTuple, dFld, fldP, dMeth, oOwn, put_nm, put_tp, puts_nil, puts_cons, onS, dNeg, dRev, dSetI, dBM, mAppend, mExtend, mClear, mReverse, dYes, startD, List.map_cons, List.map_nil, List.length_cons, List.length_nil, List.set_cons_zero, List.set_cons_succ, List.cons_append, List.nil_append, Nat.reduceAdd, Nat.reduceSub, List.replicate_succ, List.replicate_zero, List.length_singleton, wipeD, decide_eq_true_eq, decide_eq_false_iff_not, reduceCtorEq, true_implies, false_implies, and_true, true_and, if_true, if_false, Bool.false_eq_true, Bool.not_true, Bool.not_false, Bool.not_eq_true', Bool.not_eq_false', Om.put_put, dLc, dLcM, dFrz, frzK, List.getElem?_cons_succ, List.getElem?_cons_zero, dMkP, dForM, dNever, cIs_int, cIs_bool, cIs_str, cIs_list, cIs_tuple, cIsP, tyNm, is_int, is_bool, is_str, is_list, is_tuple, sCheckP]
      exact hN _ _ ⟨rfl, _, rfl⟩
    have fin : (1 : Int) ≤ ps.length ∧ (ps.length : Int) ≤ 20 := by omega
    cases x with
    | lst es =>
      cases hx
      simp only [dSeq, dAsg, dAsgT, dPar, dRet, dDrop, dIfS, dNext, dBreak, dCont, dFor, dIL, dIT, dIR1, dIR2, dIE, dIZ, oAdd, oSub, oMul, oDiv, oMod, oPow, oLt, oLe, oGt, oGe, atI_0, atI_1, atI_2, atI_3, atI_m1, ixN_0, ixN_1, ixN_2, Om.put_same, dVar, getK, dC, dNil, dCons, dOp, oI, oIC, oMulS, oEq, oNe, eqS, oIsN, oNotN, isNon, dTest, dAnd, dOr, dNot, dAndV, dOrV, dNotV, dIf, dTup, dLst, dLstM, dCall, dCB, dChain, asL, asQ, oIx, oIxL, oIxT, oCat, oCatM, oCatT, oNil, oIn, dNoPart, dPart, dSl, slL, slT, slLM, cMax2, cMin2, cLen, cList, cListM, cInt, cTuple, dFld, fldP, dMeth, oOwn, put_nm, put_tp, puts_nil, puts_cons, onS, dNeg, dRev, dSetI, dBM, mAppend, mExtend, mClear, mReverse, dYes, startD, List.map_cons, List.map_nil, List.length_cons, List.length_nil, List.set_cons_zero, List.set_cons_succ, List.cons_append, List.nil_append, Nat.reduceAdd, Nat.reduceSub, List.replicate_succ, List.replicate_zero, List.length_singleton, wipeD, decide_eq_true_eq, decide_eq_false_iff_not, reduceCtorEq, true_implies, false_implies, and_true, true_and, if_true, if_false, Bool.false_eq_true, Bool.not_true, Bool.not_false, Bool.not_eq_true', Bool.not_eq_false', Om.put_put, dLc, dLcM, dFrz, frzK, List.getElem?_cons_succ, List.getElem?_cons_zero, dMkP, dForM, dNever, cIs_int, cIs_bool, cIs_str, cIs_list, cIs_tuple, cIsP, tyNm, is_int, is_bool, is_str, is_list, is_tuple, N_together, ll, strsOf, progsOf_map]
      refine ⟨fun h1 => ⟨fun h2 => absurd fin.2 h2, fun h2 => ?_⟩, fun h1 => absurd fin.1 h1⟩
      refine forL_inv (fun i ρ ω' => ω' = ω ∧ ∃ v, ρ = [some (.lst (ps.map D.prog)), v]) body (fun ρ ω' hI => ?_) ⟨rfl, _, rfl⟩
      obtain ⟨rfl, v, rfl⟩ := hI
      simp only [dSeq, dAsg, dAsgT, dPar, dRet, dDrop, dIfS, dNext, dBreak, dCont, dFor, dIL, dIT, dIR1, dIR2, dIE, dIZ, oAdd, oSub, oMul, oDiv, oMod, oPow, oLt, oLe, oGt, oGe, atI_0, atI_1, atI_2, atI_3, atI_m1, ixN_0, ixN_1, ixN_2, Om.put_same, dVar, getK, dC, dNil, dCons, dOp, oI, oIC, oMulS, oEq, oNe, eqS, oIsN, oNotN, isNon, dTest, dAnd, dOr, dNot, dAndV, dOrV, dNotV, dIf, dTup, dLst, dLstM, dCall, dCB, dChain, asL, asQ, oIx, oIxL, oIxT, oCat, oCatM, oCatT, oNil, oIn, dNoPart, dPart, dSl, slL, slT, slLM, cMax2, cMin2, cLen, cList, cListM, cInt, cTuple, dFld, fldP, dMeth, oOwn, put_nm, put_tp, puts_nil, puts_cons, onS, dNeg, dRev, dSetI, dBM, mAppend, mExtend, mClear, mReverse, dYes, startD, List.map_cons, List.map_nil, List.length_cons, List.length_nil, List.set_cons_zero, List.set_cons_succ, List.cons_append, List.nil_append, Nat.reduceAdd, Nat.reduceSub, List.replicate_succ, List.replicate_zero, List.length_singleton, wipeD, decide_eq_true_eq, decide_eq_false_iff_not, reduceCtorEq, true_implies, false_implies, and_true, true_and, if_true, if_false, Bool.false_eq_true, Bool.not_true, Bool.not_false, Bool.not_eq_true', Bool.not_eq_false', Om.put_put, dLc, dLcM, dFrz, frzK, List.getElem?_cons_succ, List.getElem?_cons_zero, dMkP, dForM, dNever, cIs_int, cIs_bool, cIs_str, cIs_list, cIs_tuple, cIsP, tyNm, is_int, is_bool, is_str, is_list, is_tuple, strsOf, progsOf_map]
      exact ⟨by decide, .together, rfl, mk, hfin⟩
    | mref p =>
      obtain ⟨ds, hp, e⟩ : ∃ ds, ω p = some (.lst ds) ∧ ds = ps.map D.prog := by
        have h2 : (match ω p with | some (.lst ds) => some ds | _ => none) = some (ps.map D.prog) := hx
        cases hp : ω p with
        | none => rw [hp] at h2; cases h2
        | some c =>
          rw [hp] at h2
          cases c with
          | lst ds => cases h2; exact ⟨_, rfl, rfl⟩
          | ins c fs => cases h2
          | _ => cases h2
      subst e
      simp only [dSeq, dAsg, dAsgT, dPar, dRet, dDrop, dIfS, dNext, dBreak, dCont, dFor, dIL, dIT, dIR1, dIR2, dIE, dIZ, oAdd, oSub, oMul, oDiv, oMod, oPow, oLt, oLe, oGt, oGe, atI_0, atI_1, atI_2, atI_3, atI_m1, ixN_0, ixN_1, ixN_2, Om.put_same, dVar, getK, dC, dNil, dCons, dOp, oI, oIC, oMulS, oEq, oNe, eqS, oIsN, oNotN, isNon, dTest, dAnd, dOr, dNot, dAndV, dOrV, dNotV, dIf, dTup, dLst, dLstM, dCall, dCB, dChain, asL, asQ, oIx, oIxL, oIxT, oCat, oCatM, oCatT, oNil, oIn, dNoPart, dPart, dSl, slL, slT, slLM, cMax2, cMin2, cLen, cList, cListM, cInt, cTuple, dFld, fldP, dMeth, oOwn, put_nm, put_tp, puts_nil, puts_cons, onS, dNeg, dRev, dSetI, dBM, mAppend, mExtend, mClear, mReverse, dYes, startD, List.map_cons, List.map_nil, List.length_cons, List.length_nil, List.set_cons_zero, List.set_cons_succ, List.cons_append, List.nil_append, Nat.reduceAdd, Nat.reduceSub, List.replicate_succ, List.replicate_zero, List.length_singleton, wipeD, decide_eq_true_eq, decide_eq_false_iff_not, reduceCtorEq, true_implies, false_implies, and_true, true_and, if_true, if_false, Bool.false_eq_true, Bool.not_true, Bool.not_false, Bool.not_eq_true', Bool.not_eq_false', Om.put_put, dLc, dLcM, dFrz, frzK, List.getElem?_cons_succ, List.getElem?_cons_zero, dMkP, dForM, dNever, cIs_int, cIs_bool, cIs_str, cIs_list, cIs_tuple, cIsP, tyNm, is_int, is_bool, is_str, is_list, is_tuple, N_together, ll, hp, strsOf, progsOf_map]
      refine ⟨fun h1 => ⟨fun h2 => absurd fin.2 h2, fun h2 => ?_⟩, fun h1 => absurd fin.1 h1⟩
      refine forLW_inv (fun i ρ ω' => ω' = ω ∧ ∃ v, ρ = [some (.mref p), v]) (fun i ρ ω' hI => by rw [hI.1]; exact hp) body (fun ρ ω' hI => ?_) ⟨rfl, _, rfl⟩
      obtain ⟨rfl, v, rfl⟩ := hI
      simp only [dSeq, dAsg, dAsgT, dPar, dRet, dDrop, dIfS, dNext, dBreak, dCont, dFor, dIL, dIT, dIR1, dIR2, dIE, dIZ, oAdd, oSub, oMul, oDiv, oMod, oPow, oLt, oLe, oGt, oGe, atI_0, atI_1, atI_2, atI_3, atI_m1, ixN_0, ixN_1, ixN_2, Om.put_same, dVar, getK, dC, dNil, dCons, dOp, oI, oIC, oMulS, oEq, oNe, eqS, oIsN, oNotN, isNon, dTest, dAnd, dOr, dNot, dAndV, dOrV, dNotV, dIf, dTup, dLst, dLstM, dCall, dCB, dChain, asL, asQ, oIx, oIxL, oIxT, oCat, oCatM, oCatT, oNil, oIn, dNoPart, dPart, dSl, slL, slT, slLM, cMax2, cMin2, cLen, cList, cListM, cInt, cTuple, dFld, fldP, dMeth, oOwn, put_nm, put_tp, puts_nil, puts_cons, onS, dNeg, dRev, dSetI, dBM, mAppend, mExtend, mClear, mReverse, dYes, startD, List.map_cons, List.map_nil, List.length_cons, List.length_nil, List.set_cons_zero, List.set_cons_succ, List.cons_append, List.nil_append, Nat.reduceAdd, Nat.reduceSub, List.replicate_succ, List.replicate_zero, List.length_singleton, wipeD, decide_eq_true_eq, decide_eq_false_iff_not, reduceCtorEq, true_implies, false_implies, and_true, true_and, if_true, if_false, Bool.false_eq_true, Bool.not_true, Bool.not_false, Bool.not_eq_true', Bool.not_eq_false', Om.put_put, dLc, dLcM, dFrz, frzK, List.getElem?_cons_succ, List.getElem?_cons_zero, dMkP, dForM, dNever, cIs_int, cIs_bool, cIs_str, cIs_list, cIs_tuple, cIsP, tyNm, is_int, is_bool, is_str, is_list, is_tuple, hp, strsOf, progsOf_map]
      exact ⟨by decide, .together, rfl, mk, hfin⟩
    | _ => cases hx
end
end Cu

/-! == BA -/
set_option maxHeartbeats 4000000
namespace Cu
open PySem PySem.Spec PyProof.Rows L2 Evl CuT
/-! ### the draws of the laws of ends -/
theorem while_intro {t : RT} {body : RS} {ξ : XD} {Δ : EndsD} {ρ : EnvD} {ω : Om} (W : Nat → EnvD → Om → Prop) (m : Nat) (h0 : W m ρ ω) (step : ∀ m ρ ω, W m ρ ω → t ξ ρ ω fun b ω1 => (b = true → body ξ { nx := fun ρ' ω' => ∃ m', m' < m ∧ W m' ρ' ω', ct := fun ρ' ω' => ∃ m', m' < m ∧ W m' ρ' ω', bk := Δ.nx, rt := Δ.rt } ρ ω1) ∧ (b = false → Δ.nx ρ ω1)) : dWhile t body ξ Δ ρ ω := ⟨W, ⟨m, h0⟩, step⟩
theorem om_put_id' {ω : Om} {l : Addr} {c : Cell} (h : ω l = some c) : ω.put l c = ω := by
  funext x
  by_cases e : x = l
  · rw [e, Om.put_same, h]
  · rw [Om.put_ne e]
def sDraw : SD := fun _ ds ω Φ => match ds with
  | [.mref l, .int m] => onS (ω l) fun c => ∃ n, SrcC c n ∧ n + 300 ≤ 1000000000000 ∧ 0 < m ∧ m.natAbs < 2 ^ 8000 ∧ ∀ r c', 0 ≤ r → r < m → SrcC c' (n + 300) → Φ (.int r) (ω.put l c')
  | _ => False
def sChoice : SD := fun _ ds ω Φ => match ds with
  | [.mref l, .lst xs] => onS (ω l) fun c => ∃ n, SrcC c n ∧ n + 300 ≤ 1000000000000 ∧ 0 < xs.length ∧ xs.length ≤ 1000 ∧ ∀ x c', x ∈ xs → SrcC c' (n + 300) → Φ x (ω.put l c')
  | _ => False
def capT : Bool → Int
  | true => 100000000000000000000
  | false => 5
def sTimes : SD := fun _ ds ω Φ => match ds with
  | [.mref l, .bl b] => onS (ω l) fun c => ∃ n, SrcC c n ∧ n + 1200 ≤ 1000000000000 ∧ ∀ r c', 0 ≤ r → r ≤ capT b → SrcC c' (n + 1200) → Φ (.int r) (ω.put l c')
  | _ => False
theorem reach_up {i : Nat} {R : Int} (h : (2 : Int) ^ (28 * i) ≤ R) : (2 : Int) ^ (28 * (i + 1)) ≤ R * 300000007 := by
  rw [Nat.mul_add, Int.pow_add]
  have e : (2 : Int) ^ (28 * 1) = 268435456 := by decide
  rw [e]
  have : (0 : Int) < 2 ^ (28 * i) := Int.pow_pos (by decide)
  omega
theorem reach_few {i : Nat} {R m : Int} (h : (2 : Int) ^ (28 * i) ≤ R) (hR : R < m) (hm : m.natAbs < 2 ^ 8000) : i ≤ 285 := by
  by_cases hi : i ≤ 285
  · exact hi
  · exfalso
    have h1 : (2 : Nat) ^ 8000 ≤ 2 ^ (28 * i) := Nat.pow_le_pow_right (by decide) (by omega)
    have h2 : ((2 ^ (28 * i) : Nat) : Int) ≤ R := by
      rw [Int.natCast_pow]
      exact h
    generalize (2 : Nat) ^ 8000 = A at *
    generalize (2 : Nat) ^ (28 * i) = B at *
    omega
section
variable {P : Program} {w : World} {K : PySem.W.Frag} {mg : Str → Option Value} {base : Heap}
abbrev N_law_draw : List Str := ["_law_source", "_law_bound", "_law_result", "_law_reach", "_law_prime", "_law_mixed"]
theorem sc_law_draw : FnScope N_law_draw ["_law_source", "_law_bound"] (defScope s_law_draw) := ⟨rfl, rfl, rfl, by decide +kernel, rfl, by decide +kernel, by decide +kernel⟩

theorem fd_law_draw (T : Txt K mg) : FnD P w K mg base 1 (He.ga K "_law_draw") sDraw := by
  refine fnd_mk T.f_law_draw sc_law_draw (fun _ _ _ _ _ _ us hl => match us, hl with | [_, _], _ => rfl) (fun ξ ds ω Φ h => ?_) (fun cdv A outer s H E hr => (dss_cons (ds_if (dt_cmp op_gt ok_gt (de_ix ix_seq ok_ix (dv 0) de_int (fun _ _ => rfl)) de_int (nomark _)) (dss_cons (ds_set (i := 2) sc_law_draw.nd rfl (Or.inl rfl) (de_op op_mod ok_mod (de_callTy call_int1r ok_int (by rfl) T.b_int (by decide +kernel) (da_cons (de_ix ix_seq ok_ix (dv 0) de_int (fun _ _ => rfl)) da_nil)) (dv 1)))
    (dss_cons (ds_setI (i := 0) (g := gName 0) (pg_sub (dv 0) de_int set_list) (de_op op_fdivW ok_div (de_ix ix_seq ok_ix (dv 0) de_int (fun _ _ => rfl)) (dv 1)))
    (dss_one (ds_ret (dv 2))))) dss_nil)
    (dss_cons (ds_asg (de_tup (da_cons de_int (da_cons de_int da_nil))) (dg_tup rfl (dgs_cons (dg_name (i := 2) sc_law_draw.nd rfl (Or.inl rfl)) (dgs_cons (dg_name (i := 3) sc_law_draw.nd rfl (Or.inl rfl)) dgs_nil))))
    (dss_cons (ds_while PassesOwn.never (dt_cmp op_lt ok_lt (dv 3) (dv 1) (nomark _)) (dss_cons (ds_setI (i := 0) (g := gName 0) (pg_sub (dv 0) de_int set_list) (de_op op_add ok_add (de_ix ix_seq ok_ix (dv 0) de_int (fun _ _ => rfl)) de_int))
    (dss_cons (ds_set (i := 4) sc_law_draw.nd rfl (Or.inl rfl) (de_ix ix_list ok_ixL (de_lst (da_cons de_int (da_cons de_int (da_cons de_int (da_cons de_int (da_cons de_int (da_cons de_int (da_cons de_int da_nil)))))))) (de_op op_mod ok_mod (de_callTy call_int1r ok_int (by rfl) T.b_int (by decide +kernel) (da_cons (de_ix ix_seq ok_ix (dv 0) de_int (fun _ _ => rfl)) da_nil)) de_int) (fun _ _ => rfl)))
    (dss_cons (ds_set (i := 5) sc_law_draw.nd rfl (Or.inl rfl) (de_op op_mod ok_mod (de_callTy call_int1r ok_int (by rfl) T.b_int (by decide +kernel) (da_cons (de_op op_pow ok_pow (de_op op_add ok_add (de_op op_add ok_add (de_ix ix_seq ok_ix (dv 0) de_int (fun _ _ => rfl)) (de_op op_mul ok_mulS de_int (de_ix ix_seq ok_ix (dv 0) de_int (fun _ _ => rfl)))) de_int) de_int) da_nil)) (dv 4)))
    (dss_cons (ds_set (i := 5) sc_law_draw.nd rfl (Or.inl rfl) (de_op op_mod ok_mod (de_callTy call_int1r ok_int (by rfl) T.b_int (by decide +kernel) (da_cons (de_op op_mul ok_mulS (de_op op_add ok_add (dv 5) (de_ix ix_seq ok_ix (dv 0) de_int (fun _ _ => rfl))) (de_op op_add ok_add (de_op op_fdivW ok_div (dv 5) de_int) de_int)) da_nil)) (dv 4)))
    (dss_one (ds_par (i := 2) (j := 3) (by rfl) sc_law_draw.nd rfl rfl (by decide) rfl rfl (da_cons (de_op op_add ok_add (de_op op_mulW ok_mul (dv 2) de_int) (de_op op_fdivW ok_div (dv 5) de_int)) (da_cons (de_op op_mulW ok_mul (dv 3) de_int) da_nil)) (by rfl))))))))
    (dss_one (ds_ret (de_op op_mod ok_mod (de_callTy call_int1r ok_int (by rfl) T.b_int (by decide +kernel) (da_cons (dv 2) da_nil)) (dv 1)))))))) (fun ξ ds ω Φ h => ?_)
  · match ds, h with
    | [.mref l, .int m], h => rfl
  match ds, h with
  | [.mref l, .int m], h =>
    obtain ⟨c, hl, n, ⟨A0, B, kc, rfl, hA, hB, hB2, hc, hc2⟩, hn, hm, hm2, q⟩ := onS_ok h
    simp only [dSeq, dAsg, dAsgT, dPar, dRet, dDrop, dIfS, dNext, dBreak, dCont, dFor, dIL, dIT, dIR1, dIR2, dIE, dIZ, oAdd, oSub, oMul, oDiv, oMod, oPow, oLt, oLe, oGt, oGe, atI_0, atI_1, atI_2, atI_3, atI_m1, ixN_0, ixN_1, ixN_2, Om.put_same, dVar, getK, dC, dNil, dCons, dOp, oI, oIC, oMulS, oEq, oNe, eqS, oIsN, oNotN, isNon, dTest, dAnd, dOr, dNot, dAndV, dOrV, dNotV, dIf, dTup, dLst, dLstM, dCall, dCB, dChain, asL, asQ, oIx, oIxL, oIxT, oCat, oCatM, oCatT, oNil, oIn, dNoPart, dPart, dSl, slL, slT, slLM, cMax2, cMin2, cLen, cList, cListM, cInt, cTuple, dFld, fldP, dMeth, oOwn, put_nm, put_tp, puts_nil, puts_cons, onS, dNeg, dRev, dSetI, dBM, mAppend, mExtend, mClear, mReverse, dYes, startD, List.map_cons, List.map_nil, List.length_cons, List.length_nil, List.set_cons_zero, List.set_cons_succ, List.cons_append, List.nil_append, Nat.reduceAdd, Nat.reduceSub, List.replicate_succ, List.replicate_zero, List.length_singleton, wipeD, decide_eq_true_eq, decide_eq_false_iff_not, reduceCtorEq, true_implies, false_implies, and_true, true_and, if_true, if_false, Bool.false_eq_true, Bool.not_true, Bool.not_false, Bool.not_eq_true', Bool.not_eq_false', Om.put_put, dLc, dLcM, dFrz, frzK, List.getElem?_cons_succ, List.getElem?_cons_zero, dMkP, dForM, dNever, cIs_int, cIs_bool, cIs_str, cIs_list, cIs_tuple, cIsP, tyNm, is_int, is_bool, is_str, is_list, is_tuple, N_law_draw, hl]
    refine ⟨fun hpos => ⟨hm, wide_div hm hm2 (by decide) (by decide), q _ _ (Int.emod_nonneg _ (by omega)) (Int.emod_lt_of_pos _ hm) ⟨_, _, _, rfl, Int.ediv_nonneg hA (by omega), hB, hB2, hc, by omega⟩⟩, fun _ => ?_⟩
    refine ⟨by decide, while_intro (fun k ρ ω' => ∃ (i : Nat) (R s : Int) (k1 : Int) (v4 v5 : Option D), k = 300 - i ∧ i ≤ 286 ∧ (2 : Int) ^ (28 * i) ≤ R ∧ R.natAbs < 2 ^ 8030 ∧ 1 ≤ R ∧ 0 ≤ s ∧ s ≤ 3 * R - 2 ∧ 0 ≤ k1 ∧ k1 ≤ kc + i ∧ ω' = ω.put l (.lst [.int A0, .int B, .int k1]) ∧ ρ = [some (.mref l), some (.int m), some (.int s), some (.int R), v4, v5]) 300 ?_ ?_⟩
    · exact ⟨0, 1, 0, kc, _, _, rfl, by decide, by decide, by decide, by decide, by decide, by decide, hc, by omega, (om_put_id' hl).symm, rfl⟩
    · rintro k ρ ω' ⟨i, R, s, k1, v4, v5, rfl, hi, hR, hRb, hR1, hs0, hs1, hk0, hk1, rfl, rfl⟩
      obtain ⟨pv, hpv, p1, p2⟩ := primes_at ((k1 + 1) % 7) (Int.emod_nonneg _ (by decide)) (Int.emod_lt_of_pos _ (by decide))
      simp only [primes, List.map_cons, List.map_nil] at hpv
      simp only [dSeq, dAsg, dAsgT, dPar, dRet, dDrop, dIfS, dNext, dBreak, dCont, dFor, dIL, dIT, dIR1, dIR2, dIE, dIZ, oAdd, oSub, oMul, oDiv, oMod, oPow, oLt, oLe, oGt, oGe, atI_0, atI_1, atI_2, atI_3, atI_m1, ixN_0, ixN_1, ixN_2, Om.put_same, dVar, getK, dC, dNil, dCons, dOp, oI, oIC, oMulS, oEq, oNe, eqS, oIsN, oNotN, isNon, dTest, dAnd, dOr, dNot, dAndV, dOrV, dNotV, dIf, dTup, dLst, dLstM, dCall, dCB, dChain, asL, asQ, oIx, oIxL, oIxT, oCat, oCatM, oCatT, oNil, oIn, dNoPart, dPart, dSl, slL, slT, slLM, cMax2, cMin2, cLen, cList, cListM, cInt, cTuple, dFld, fldP, dMeth, oOwn, put_nm, put_tp, puts_nil, puts_cons, onS, dNeg, dRev, dSetI, dBM, mAppend, mExtend, mClear, mReverse, dYes, startD, List.map_cons, List.map_nil, List.length_cons, List.length_nil, List.set_cons_zero, List.set_cons_succ, List.cons_append, List.nil_append, Nat.reduceAdd, Nat.reduceSub, List.replicate_succ, List.replicate_zero, List.length_singleton, wipeD, decide_eq_true_eq, decide_eq_false_iff_not, reduceCtorEq, true_implies, false_implies, and_true, true_and, if_true, if_false, Bool.false_eq_true, Bool.not_true, Bool.not_false, Bool.not_eq_true', Bool.not_eq_false', Om.put_put, dLc, dLcM, dFrz, frzK, List.getElem?_cons_succ, List.getElem?_cons_zero, dMkP, dForM, dNever, cIs_int, cIs_bool, cIs_str, cIs_list, cIs_tuple, cIsP, tyNm, is_int, is_bool, is_str, is_list, is_tuple, N_law_draw, hpv]
      refine ⟨fun hlt => ?_, fun _ => ⟨hm, q _ _ (Int.emod_nonneg _ (by omega)) (Int.emod_lt_of_pos _ hm) ⟨_, _, _, rfl, hA, hB, hB2, hk0, by omega⟩⟩⟩
      have hi2 := reach_few hR hlt hm2
      obtain ⟨f1, f2⟩ := fig_lt (x := (B + 7919 * (k1 + 1) + 1) ^ (5 : Int).toNat) p1 p2
      generalize (B + 7919 * (k1 + 1) + 1) ^ (5 : Int).toNat % pv = F1 at *
      obtain ⟨g1, g2⟩ := fig_lt (x := (F1 + (k1 + 1)) * (F1 / 1009 + 69621)) p1 p2
      have hR8 : R.natAbs < 2 ^ 8000 := by
        generalize (2 : Nat) ^ 8000 = Z at *
        omega
      have hs8 : s.natAbs < 2 ^ 8003 := by
        rw [show 8003 = 8000 + 3 from rfl, Nat.pow_add]
        generalize (2 : Nat) ^ 8000 = Z at *
        omega
      have hRn : (R * 300000007).natAbs < 2 ^ 8030 := Nat.lt_of_lt_of_le (wide_lt hR8 (show (300000007 : Int).natAbs < 2 ^ 30 by decide)) (Nat.le_refl _)
      refine ⟨by decide, by decide, .inl ⟨by decide, by decide⟩, ⟨by decide, by decide, by omega⟩, by omega, wide_div (b := 10) (by decide) (by decide) (by decide) (by decide), .inl ⟨by omega, by omega⟩, by omega, wide_mul hs8 (show (300000007 : Int).natAbs < 2 ^ 30 by decide) (by decide) (by decide) (by decide), wide_div (b := 10) (by decide) (by decide) (by decide) (by decide), wide_mul hR8 (show (300000007 : Int).natAbs < 2 ^ 30 by decide) (by decide) (by decide) (by decide), 300 - (i + 1), by omega, i + 1, _, _, _, _, _, rfl, by omega, reach_up hR, hRn, by omega, ?_, ?_, ?_, ?_, rfl, rfl⟩
      all_goals generalize (F1 + (k1 + 1)) * (F1 / 1009 + 69621) % pv = F2 at *
      all_goals omega
abbrev N_law_choice : List Str := ["_law_source", "_law_options"]
theorem sc_law_choice : FnScope N_law_choice ["_law_source", "_law_options"] (defScope s_law_choice) := ⟨rfl, rfl, rfl, by decide +kernel, rfl, by decide +kernel, by decide +kernel⟩

theorem fd_law_choice (T : Txt K mg) : FnD P w K mg base 2 (He.ga K "_law_choice") sChoice := by
  have G_law_draw : FnD P w K mg base 1 (He.ga K "_law_draw") sDraw := fd_law_draw T
  refine fnd_mk T.f_law_choice sc_law_choice (fun _ _ _ _ _ _ us hl => match us, hl with | [_, _], _ => rfl) (fun ξ ds ω Φ h => ?_) (fun cdv A outer s H E hr => (dss_one (ds_ret (de_ix ix_seq ok_ix (dv 1) (de_call G_law_draw (hr.mono (by omega)) rfl T.g_law_draw (kp_of T.f_law_draw) passL (da_cons (dv 0) (da_cons (de_callB call_len_seq ok_len (by rfl) T.b_len PySem.boot_len (da_cons (dv 1) da_nil)) da_nil))) (fun _ _ => rfl))))) (fun ξ ds ω Φ h => ?_)
  · match ds, h with
    | [.mref l, .lst xs], h => rfl
  match ds, h with
  | [.mref l, .lst xs], h =>
    obtain ⟨c, hl, n, hs, hn, h0, h1, q⟩ := onS_ok h
    have hb : ((xs.length : Nat) : Int).natAbs < 2 ^ 8000 := Nat.lt_of_le_of_lt (show ((xs.length : Nat) : Int).natAbs ≤ 1000 by omega) (by decide +kernel)
    simp only [dSeq, dAsg, dAsgT, dPar, dRet, dDrop, dIfS, dNext, dBreak, dCont, dFor, dIL, dIT, dIR1, dIR2, dIE, dIZ, oAdd, oSub, oMul, oDiv, oMod, oPow, oLt, oLe, oGt, oGe, atI_0, atI_1, atI_2, atI_3, atI_m1, ixN_0, ixN_1, ixN_2, Om.put_same, dVar, getK, dC, dNil, dCons, dOp, oI, oIC, oMulS, oEq, oNe, eqS, oIsN, oNotN, isNon, dTest, dAnd, dOr, dNot, dAndV, dOrV, dNotV, dIf, dTup, dLst, dLstM, dCall, dCB, dChain, asL, asQ, oIx, oIxL, oIxT, oCat, oCatM, oCatT, oNil, oIn, dNoPart, dPart, dSl, slL, slT, slLM, cMax2, cMin2, cLen, cList, cListM, cInt, cTuple, dFld, fldP, dMeth, oOwn, put_nm, put_tp, puts_nil, puts_cons, onS, dNeg, dRev, dSetI, dBM, mAppend, mExtend, mClear, mReverse, dYes, startD, List.map_cons, List.map_nil, List.length_cons, List.length_nil, List.set_cons_zero, List.set_cons_succ, List.cons_append, List.nil_append, Nat.reduceAdd, Nat.reduceSub, List.replicate_succ, List.replicate_zero, List.length_singleton, wipeD, decide_eq_true_eq, decide_eq_false_iff_not, reduceCtorEq, true_implies, false_implies, and_true, true_and, if_true, if_false, Bool.false_eq_true, Bool.not_true, Bool.not_false, Bool.not_eq_true', Bool.not_eq_false', Om.put_put, dLc, dLcM, dFrz, frzK, List.getElem?_cons_succ, List.getElem?_cons_zero, dMkP, dForM, dNever, cIs_int, cIs_bool, cIs_str, cIs_list, cIs_tuple, cIsP, tyNm, is_int, is_bool, is_str, is_list, is_tuple, N_law_choice, sDraw, hl]
    refine ⟨n, hs, hn, by omega, hb, fun r c' r0 r1 s1 => ?_⟩
    have er : r = ((r.toNat : Nat) : Int) := by omega
    have hr2 : r.toNat < xs.length := by omega
    rw [er, atI_nat', List.getElem?_eq_getElem hr2]
    exact q _ _ (List.getElem_mem _) s1
abbrev N_law_times : List Str := ["_law_source", "_law_is_far"]
theorem sc_law_times : FnScope N_law_times ["_law_source", "_law_is_far"] (defScope s_law_times) := ⟨rfl, rfl, rfl, by decide +kernel, rfl, by decide +kernel, by decide +kernel⟩

theorem fd_law_times (T : Txt K mg) : FnD P w K mg base 3 (He.ga K "_law_times") sTimes := by
  have G_law_draw : FnD P w K mg base 1 (He.ga K "_law_draw") sDraw := fd_law_draw T
  have G_law_choice : FnD P w K mg base 2 (He.ga K "_law_choice") sChoice := fd_law_choice T
  refine fnd_mk T.f_law_times sc_law_times (fun _ _ _ _ _ _ us hl => match us, hl with | [_, _], _ => rfl) (fun ξ ds ω Φ h => ?_) (fun cdv A outer s H E hr => (dss_cons (ds_if (dt_val (dv 1)) (dss_one (ds_ret (de_call G_law_choice (hr.mono (by omega)) rfl T.g_law_choice (kp_of T.f_law_choice) passL (da_cons (dv 0) (da_cons (de_lst (da_cons (de_call G_law_draw (hr.mono (by omega)) rfl T.g_law_draw (kp_of T.f_law_draw) passL (da_cons (dv 0) (da_cons de_int da_nil))) (da_cons (de_op op_add ok_add de_int (de_call G_law_draw (hr.mono (by omega)) rfl T.g_law_draw (kp_of T.f_law_draw) passL (da_cons (dv 0) (da_cons de_int da_nil)))) (da_cons (de_call G_law_draw (hr.mono (by omega)) rfl T.g_law_draw (kp_of T.f_law_draw) passL (da_cons (dv 0) (da_cons (de_op op_pow ok_pow de_int de_int) da_nil))) da_nil)))) da_nil))))) dss_nil)
    (dss_one (ds_ret (de_call G_law_draw (hr.mono (by omega)) rfl T.g_law_draw (kp_of T.f_law_draw) passL (da_cons (dv 0) (da_cons de_int da_nil))))))) (fun ξ ds ω Φ h => ?_)
  · match ds, h with
    | [.mref l, .bl b], h => rfl
  match ds, h with
  | [.mref l, .bl b], h =>
    obtain ⟨c, hl, n, hs, hn, q⟩ := onS_ok h
    simp only [dSeq, dAsg, dAsgT, dPar, dRet, dDrop, dIfS, dNext, dBreak, dCont, dFor, dIL, dIT, dIR1, dIR2, dIE, dIZ, oAdd, oSub, oMul, oDiv, oMod, oPow, oLt, oLe, oGt, oGe, atI_0, atI_1, atI_2, atI_3, atI_m1, ixN_0, ixN_1, ixN_2, Om.put_same, dVar, getK, dC, dNil, dCons, dOp, oI, oIC, oMulS, oEq, oNe, eqS, oIsN, oNotN, isNon, dTest, dAnd, dOr, dNot, dAndV, dOrV, dNotV, dIf, dTup, dLst, dLstM, dCall, dCB, dChain, asL, asQ, oIx, oIxL, oIxT, oCat, oCatM, oCatT, oNil, oIn, dNoPart, dPart, dSl, slL, slT, slLM, cMax2, cMin2, cLen, cList, cListM, cInt, cTuple, dFld, fldP, dMeth, oOwn, put_nm, put_tp, puts_nil, puts_cons, onS, dNeg, dRev, dSetI, dBM, mAppend, mExtend, mClear, mReverse, dYes, startD, List.map_cons, List.map_nil, List.length_cons, List.length_nil, List.set_cons_zero, List.set_cons_succ, List.cons_append, List.nil_append, Nat.reduceAdd, Nat.reduceSub, List.replicate_succ, List.replicate_zero, List.length_singleton, wipeD, decide_eq_true_eq, decide_eq_false_iff_not, reduceCtorEq, true_implies, false_implies, and_true, true_and, if_true, if_false, Bool.false_eq_true, Bool.not_true, Bool.not_false, Bool.not_eq_true', Bool.not_eq_false', Om.put_put, dLc, dLcM, dFrz, frzK, List.getElem?_cons_succ, List.getElem?_cons_zero, dMkP, dForM, dNever, cIs_int, cIs_bool, cIs_str, cIs_list, cIs_tuple, cIsP, tyNm, is_int, is_bool, is_str, is_list, is_tuple, N_law_times, sDraw, sChoice, hl]
    have e20 : (10 : Int) ^ (20 : Int).toNat = 100000000000000000000 := by decide
    rw [e20]
    refine ⟨fun hb => ⟨n, hs, by omega, by decide, by decide +kernel, fun r1 c1 r10 r11 s1 => ⟨_, s1, by omega, by decide, by decide +kernel, fun r2 c2 r20 r21 s2 => ⟨⟨by decide, by decide, by decide⟩, _, s2, by omega, by decide, by decide +kernel, fun r3 c3 r30 r31 s3 => ⟨by decide, _, s3, by omega, by decide, by decide, fun x c4 hx s4 => ?_⟩⟩⟩⟩, fun hb => ⟨n, hs, by omega, by decide, by decide +kernel, fun r c1 r0 r1 s1 => q _ _ r0 (by rw [hb]; show r ≤ 5; omega) (s1.mono (by omega))⟩⟩
    have hcap : capT b = 100000000000000000000 := by rw [hb]; rfl
    rw [hcap] at q
    simp only [List.mem_cons, List.not_mem_nil, or_false] at hx
    rcases hx with rfl | rfl | rfl
    · exact q _ _ r10 (by omega) (s4.mono (by omega))
    · exact q _ _ (by omega) (by omega) (s4.mono (by omega))
    · exact q _ _ r30 (by omega) (s4.mono (by omega))
end
end Cu

/-! == BB -/
set_option maxHeartbeats 4000000
namespace Cu
open PySem PySem.Spec PyProof.Rows L2 Evl CuT
/-! ### a tuple times 0 or 1 -/
theorem tuple_mul1 (l : Addr) (items : Array Value) (n : Nat) (dd : Option Addr) (sl : Array (Option Value)) (u : Tok) :
    Meets (Builtin.«tuple.__mul__» ⟨[.ref l, .int 1 u], []⟩) (fun _ R s => s.heap.get? l = some { cls := .type "tuple", dict := dd, data := .seq items n, slots := sl } ∧ R (.ok (.ret (Value.ref l))) s) :=
  .of_wp fun prog w A R s h => by
    obtain ⟨hp, g, d, tk, os⟩ := s
    obtain ⟨hl, h⟩ := h
    have f1 := AutoSeq1.idx_int
    wp_walk using wpAny_loadPart' hl
    exact ⟨_, rfl, h⟩
theorem tuple_mul0 (l : Addr) (items : Array Value) (n : Nat) (dd : Option Addr) (sl : Array (Option Value)) (u : Tok) (c1 : items.isEmpty = false) :
    Meets (Builtin.«tuple.__mul__» ⟨[.ref l, .int 0 u], []⟩) (fun _ R s => s.heap.get? l = some { cls := .type "tuple", dict := dd, data := .seq items n, slots := sl } ∧
      R (.ok (.ret (Value.ref s.heap.objs.size))) { s with heap := s.heap.push { cls := Value.type "tuple", data := Data.seq #[] }, toks := s.toks }) :=
  .of_wp fun prog w A R s h => by
    obtain ⟨hp, g, d, tk, os⟩ := s
    obtain ⟨hl, h⟩ := h
    have f1 := AutoSeq1.idx_int
    wp_walk using wpAny_loadPart' hl
    exact ⟨_, rfl, h⟩
def rRep01 (K : PySem.W.Frag) : R2 := fun x y H Q => ∃ l k xs, x = .ref l ∧ y = .int k ∧ SqT K H l xs ∧ xs ≠ [] ∧ (k = 0 ∨ k = 1) ∧ (k = 1 → Q (.ref l) H) ∧ (k = 0 → ∀ p, H p = none → Q (.ref p) (upd H p (.tup [])))
theorem op_rep01 {X : Cx} : OpR X (binaryOp .Mult) (rRep01 X.K) := by
  intro pins s σ H x y v u Q I rx ry h
  obtain ⟨l, k, xs, rfl, rfl, hT, hne, h1, q1, q0⟩ := h
  cases rx
  obtain ⟨t, rfl⟩ := ry
  obtain ⟨its, r, ⟨⟨cls, dd, data, sl⟩, ho, hc, n, hd⟩, hs⟩ := I.tuple hT
  simp only at hc hd
  subst hc hd
  have hle : its.length = xs.length := r.length.symm
  have hn : its ≠ [] := fun e => hne (by
    rw [e] at hle
    exact List.eq_nil_of_length_eq_zero hle.symm)
  have hi : its.toArray.isEmpty = false := by
    cases its with
    | nil => exact absurd rfl hn
    | cons a b => rfl
  rcases h1 with rfl | rfl
  · refine wpAny_binaryOp_repeat_ref (T := "tuple") (U := "int") (by decide) ⟨_, ho, rfl⟩ (fun s' => typeIs_int s' 0 t) noFill_tuple_mul F.fills_int_mul F.slot_int_rmul repeat_tuple F.slot_int_index.lookup
      (call_meets F.slot_int_rmul (typeIs_int s 0 t) F.entry_int_rmul (F.args_int_rmul_2 _ _) (int_rmul_tuple 0 t l its.toArray n dd sl)
        ⟨ho, rfl, ⟨_, ho, rfl⟩, call_meets F.slot_tuple_mul ⟨_, ho, rfl⟩ F.entry_tuple_mul (F.args_tuple_mul_2 _ _) (tuple_mul0 l its.toArray n dd sl t hi) ⟨ho, ?_⟩⟩)
    refine ⟨.ref s.heap.objs.size, _, I.laid (t' := s.toks) (o := .tup []) (fun b ob q => Heap.get?_push_of_some _ q) (Nat.le_refl _) ?_, rfl, q0 rfl _ (I.hok.fresh (Nat.le_refl _))⟩
    exact ⟨by show 0 ≤ sizeLine; decide, [], .nil, IsTup.new _ _⟩
  · exact wpAny_binaryOp_repeat_ref (T := "tuple") (U := "int") (by decide) ⟨_, ho, rfl⟩ (fun s' => typeIs_int s' 1 t) noFill_tuple_mul F.fills_int_mul F.slot_int_rmul repeat_tuple F.slot_int_index.lookup
      (call_meets F.slot_int_rmul (typeIs_int s 1 t) F.entry_int_rmul (F.args_int_rmul_2 _ _) (int_rmul_tuple 1 t l its.toArray n dd sl)
        ⟨ho, rfl, ⟨_, ho, rfl⟩, call_meets F.slot_tuple_mul ⟨_, ho, rfl⟩ F.entry_tuple_mul (F.args_tuple_mul_2 _ _) (tuple_mul1 l its.toArray n dd sl t) ⟨ho, ⟨.ref l, H, I, rfl, q1 rfl⟩⟩⟩)
def oRep01 : RR2 := fun x y ω Φ => match x, y with
  | .tup ds, .int k => ds ≠ [] ∧ (k = 0 ∨ k = 1) ∧ Φ (.tup (if k = 1 then ds else [])) ω
  | _, _ => False
theorem ok_rep01 {K : PySem.W.Frag} : OpOk K (rRep01 K) oRep01 := fun F G ω H x y dx dy Φ Q s rx ry hd k => by
  cases dx with
  | tup ds =>
    cases dy with
    | int n =>
      obtain ⟨hl, h1, hd⟩ := hd
      obtain ⟨a, xs, e1, ha, hr⟩ := rx.invT
      refine ⟨a, n, xs, e1, ry.invI, st_of (s.exG _ _ ha), (fun z => hl (List.eq_nil_of_length_eq_zero (by rw [← hr.len, z]; rfl))), h1, fun h => ?_, fun h p hp => ?_⟩
      · subst h
        rw [e1] at rx
        exact k _ _ ω G H hd (Ex.refl G) s rx
      · subst h
        have e := Ex.new (o := .tup []) (s.freshF hp).2.1
        exact k _ _ ω _ _ hd e (s.new trivial hp) (.mkT upd_same .nil)
    | _ => exact hd.elim
  | _ => cases dy <;> exact hd.elim
/-! ### the programs of the laws of ends, by data -/
def capN : Bool → Int
  | true => mostT
  | false => 9
def capK : Bool → Int
  | true => mostT
  | false => 3
theorem capN_le (b : Bool) : capN b ≤ mostT := by
  cases b
  · show (9 : Int) ≤ mostT
    unfold mostT
    omega
  · exact Int.le_refl _
theorem capK_le (b : Bool) : capK b ≤ capN b := by
  cases b
  · show (3 : Int) ≤ 9
    omega
  · exact Int.le_refl _
inductive SpecD (b : Bool) : Nat → D → Prog → Prop where
  | sleep {d : Nat} {n : Int} (h0 : 0 ≤ n) (h1 : n ≤ capN b) : SpecD b d (.tup [.str "sleep", .tup [], .int n, .tup []]) (mkP .sleep [] n [])
  | fail {d : Nat} {z : Str} (hz : IsName z) : SpecD b d (.tup [.str "fail", .tup [], .int 0, .tup [.str z]]) (mkP .fail [] 0 [z])
  | seq {d : Nat} {fs : List D} {ps : List Prog} (len : fs.length = ps.length) (h2 : 2 ≤ ps.length) (h3 : ps.length ≤ 3) (sub : ∀ (i : Nat) (x : D) (q : Prog), fs[i]? = some x → ps[i]? = some q → SpecD b d x q) : SpecD b (d + 1) (.tup [.str "seq", .tup fs, .int 0, .tup []]) (seqF ps)
  | group {d : Nat} {fs : List D} {ps : List Prog} (len : fs.length = ps.length) (h2 : 2 ≤ ps.length) (h3 : ps.length ≤ 3) (sub : ∀ (i : Nat) (x : D) (q : Prog), fs[i]? = some x → ps[i]? = some q → SpecD b d x q) : SpecD b (d + 1) (.tup [.str "group", .tup fs, .int 0, .tup []]) (mkP .together ps 0 [])
  | loop {d : Nat} {x : D} {p : Prog} {n : Int} (sub : SpecD b d x p) (h0 : 0 ≤ n) (h1 : n ≤ capK b) : SpecD b (d + 1) (.tup [.str "loop", .tup [x], .int n, .tup []]) (mkP .loop [p] n [])
  | shield {d : Nat} {x : D} {p : Prog} (sub : SpecD b d x p) : SpecD b (d + 1) (.tup [.str "shield", .tup [x], .int 0, .tup []]) (mkP .shield [p] 0 [])
  | cleanup {d : Nat} {x y : D} {p q : Prog} (sub : SpecD b d x p) (sub2 : SpecD b d y q) : SpecD b (d + 1) (.tup [.str "cleanup", .tup [x, y], .int 0, .tup []]) (mkP .cleanup [p, q] 0 [])
  | fallback {d : Nat} {x y : D} {p q : Prog} {ws : List Str} (n1 : 1 ≤ ws.length) (n2 : ws.length ≤ 20) (n3 : ∀ z ∈ ws, IsName z) (n4 : ws.Nodup) (sub : SpecD b d x p) (sub2 : SpecD b d y q) : SpecD b (d + 1) (.tup [.str "fallback", .tup [x, y], .int 0, .tup (ws.map D.str)]) (mkP .fallback [p, q] 0 ws)
  | timeout {d : Nat} {x : D} {p : Prog} {n : Int} {z : Str} (hz : IsName z) (sub : SpecD b d x p) (h0 : 0 ≤ n) (h1 : n ≤ capN b) : SpecD b (d + 1) (.tup [.str "timeout", .tup [x], .int n, .tup [.str z]]) (mkP .timeout [p] n [z])
  | moveon {d : Nat} {x : D} {p : Prog} {n : Int} (sub : SpecD b d x p) (h0 : 0 ≤ n) (h1 : n ≤ capN b) : SpecD b (d + 1) (.tup [.str "moveon", .tup [x], .int n, .tup []]) (mkP .moveon [p] n [])
theorem spec_small {b : Bool} {d : Nat} {f : D} {p : Prog} (h : SpecD b d f p) (hd : d ≤ 4) : Small p (nF d) (d + 1) := by
  have key0 : ∀ {d : Nat} {k : Kind} {n : Int} {ws : List Str}, Shape k [] n ws → Small (mkP k [] n ws) (nF d) (d + 1) := fun {d k n ws} sh => by
    have m := mk0 sh
    exact ⟨m.ok, nF_pos d, by show (1 : Int) ≤ d + 1; omega⟩
  have key : ∀ {d : Nat} {k : Kind} {ps : List Prog} {n : Int} {ws : List Str}, d ≤ 3 → (∀ p ∈ ps, Small p (nF d) (d + 1)) → Shape k ps n ws → ps.length ≤ 3 → Small (mkP k ps n ws) (nF (d + 1)) ((d + 1 : Nat) + 1) := fun {d k ps n ws} hd h sh hl => by
    have := (mk_small h sh hl (nF_pos d) (by omega) (by have := nF_le3 hd; omega) (by omega)).2
    exact this
  induction h with
  | sleep h0 h1 => exact key0 (k := .sleep) ⟨rfl, h0, Int.le_trans h1 (capN_le _), rfl⟩
  | fail hz => exact key0 (k := .fail) ⟨rfl, rfl, _, rfl, hz⟩
  | seq len h2 h3 sub ih =>
    refine seq_small (by omega) h2 h3 fun p hp => ?_
    obtain ⟨i, hi, e⟩ := List.mem_iff_getElem.mp hp
    exact ih i _ p (List.getElem?_eq_getElem (by omega)) (by rw [List.getElem?_eq_getElem hi, e]) (by omega)
  | group len h2 h3 sub ih =>
    rename_i d fs ps
    have ms : ∀ p ∈ ps, Small p (nF d) (d + 1) := fun p hp => by
      obtain ⟨i, hi, e⟩ := List.mem_iff_getElem.mp hp
      exact ih i _ p (List.getElem?_eq_getElem (by omega)) (by rw [List.getElem?_eq_getElem hi, e]) (by omega)
    exact key (k := .together) (by omega) ms ⟨fun e => by rw [e] at h2; exact absurd h2 (by decide), by omega, rfl, rfl⟩ h3
  | loop sub h0 h1 ih => exact key (k := .loop) (by omega) (small1 (ih (by omega))) ⟨⟨_, rfl⟩, h0, Int.le_trans h1 (Int.le_trans (capK_le _) (capN_le _)), rfl⟩ (by show 1 ≤ 3; decide)
  | shield sub ih => exact key (k := .shield) (by omega) (small1 (ih (by omega))) ⟨⟨_, rfl⟩, rfl, rfl⟩ (by show 1 ≤ 3; decide)
  | cleanup sub sub2 ih ih2 => exact key (k := .cleanup) (by omega) (small2 (ih (by omega)) (ih2 (by omega))) ⟨⟨_, _, rfl⟩, rfl, rfl⟩ (by show 2 ≤ 3; decide)
  | fallback n1 n2 n3 n4 sub sub2 ih ih2 => exact key (k := .fallback) (by omega) (small2 (ih (by omega)) (ih2 (by omega))) ⟨⟨_, _, rfl⟩, rfl, n2⟩ (by show 2 ≤ 3; decide)
  | timeout hz sub h0 h1 ih => exact key (k := .timeout) (by omega) (small1 (ih (by omega))) ⟨⟨_, rfl⟩, h0, Int.le_trans h1 (capN_le _), _, rfl, hz⟩ (by show 1 ≤ 3; decide)
  | moveon sub h0 h1 ih => exact key (k := .moveon) (by omega) (small1 (ih (by omega))) ⟨⟨_, rfl⟩, h0, Int.le_trans h1 (capN_le _), rfl⟩ (by show 1 ≤ 3; decide)
def sBuilt (n : Nat) : SD := fun _ ds ω Φ => match ds with
  | [f] => ∃ p e b, e < n ∧ e ≤ 4 ∧ SpecD b e f p ∧ Φ (.prog p) ω
  | _ => False
section
variable {P : Program} {w : World} {K : PySem.W.Frag} {mg : Str → Option Value} {base : Heap}
theorem built_parts {n d : Nat} {bb : Bool} {a b c e f g h i : Option D} {fs : List D} {ps : List Prog} {ω : Om} {Φ : List D → Om → Prop} (hd : d < n) (h4 : d ≤ 4) (len : fs.length = ps.length) (sub : ∀ (i : Nat) (x : D) (q : Prog), fs[i]? = some x → ps[i]? = some q → SpecD bb d x q) (fin : Φ (ps.map D.prog) ω) : dLcL (Tg.nm 7) dYes (dCall (sBuilt n) (dCons (dVar 7) dNil)) [a, b, c, e, f, g, h, i] fs [] ω Φ := by
  refine lcl_inv (fun i acc ω' => i ≤ fs.length ∧ acc = (ps.take i).map D.prog ∧ ω' = ω) (fun i f acc ω' hd hI N hN => ?_) (fun acc ω' hI => ?_) ⟨Nat.zero_le _, rfl, rfl⟩
  · obtain ⟨hi, rfl, rfl⟩ := hI
    have hlt := (List.getElem?_eq_some_iff.mp hd).1
    have hp : ps[i]? = some ps[i] := List.getElem?_eq_getElem (by omega)
    simp only [dSeq, dAsg, dAsgT, dPar, dRet, dDrop, dIfS, dNext, dBreak, dCont, dFor, dIL, dIT, dIR1, dIR2, dIE, dIZ, oAdd, oSub, oMul, oDiv, oMod, oPow, oLt, oLe, oGt, oGe, atI_0, atI_1, atI_2, atI_3, atI_m1, ixN_0, ixN_1, ixN_2, Om.put_same, dVar, getK, dC, dNil, dCons, dOp, oI, oIC, oMulS, oEq, oNe, eqS, oIsN, oNotN, isNon, dTest, dAnd, dOr, dNot, dAndV, dOrV, dNotV, dIf, dTup, dLst, dLstM, dCall, dCB, dChain, asL, asQ, oIx, oIxL, oIxT, oCat, oCatM, oCatT, oNil, oIn, dNoPart, dPart, dSl, slL, slT, slLM, cMax2, cMin2, cLen, cList, cListM, cInt, cTuple, dFld, fldP, dMeth, oOwn, put_nm, put_tp, puts_nil, puts_cons, onS, dNeg, dRev, dSetI, dBM, mAppend, mExtend, mClear, mReverse, dYes, startD, List.map_cons, List.map_nil, List.length_cons, List.length_nil, List.set_cons_zero, List.set_cons_succ, List.cons_append, List.nil_append, Nat.reduceAdd, Nat.reduceSub, List.replicate_succ, List.replicate_zero, List.length_singleton, wipeD, decide_eq_true_eq, decide_eq_false_iff_not, reduceCtorEq, true_implies, false_implies, and_true, true_and, if_true, if_false, Bool.false_eq_true, Bool.not_true, Bool.not_false, Bool.not_eq_true', Bool.not_eq_false', Om.put_put, dLc, dLcM, dFrz, frzK, List.getElem?_cons_succ, List.getElem?_cons_zero, dMkP, dForM, dNever, cIs_int, cIs_bool, cIs_str, cIs_list, cIs_tuple, cIsP, tyNm, is_int, is_bool, is_str, is_list, is_tuple, sBuilt]
    exact ⟨ps[i], d, bb, by omega, by omega, sub i f _ hd hp, hN _ _ ⟨hlt, by rw [show ps.take (i + 1) = ps.take i ++ [ps[i]] by rw [List.take_add_one, hp]; rfl, List.map_append]; rfl, rfl⟩⟩
  · obtain ⟨hi, rfl, rfl⟩ := hI
    rw [len, List.take_length]
    exact fin
theorem spec1 {b : Bool} {d : Nat} {x : D} {p : Prog} (h : SpecD b d x p) : ∀ (i : Nat) (y : D) (q : Prog), [x][i]? = some y → [p][i]? = some q → SpecD b d y q := fun i y q hy hq => by
  match i, hy, hq with
  | 0, hy, hq =>
    cases hy
    cases hq
    exact h
theorem spec2 {b : Bool} {d : Nat} {x x' : D} {p p' : Prog} (h : SpecD b d x p) (h' : SpecD b d x' p') : ∀ (i : Nat) (y : D) (q : Prog), [x, x'][i]? = some y → [p, p'][i]? = some q → SpecD b d y q := fun i y q hy hq => by
  match i, hy, hq with
  | 0, hy, hq =>
    cases hy
    cases hq
    exact h
  | 1, hy, hq =>
    cases hy
    cases hq
    exact h'
abbrev N_law_built : List Str := ["_law_spec_here", "_law_kind", "_law_parts", "_law_number", "_law_names", "_law_some", "_law_result", "_law_part"]
theorem sc_law_built : FnScope N_law_built ["_law_spec_here"] (defScope s_law_built) := ⟨rfl, rfl, rfl, by decide +kernel, rfl, by decide +kernel, by decide +kernel⟩

theorem fd_law_built {n k : Nat} (hk : 128 ≤ k) (T : Txt K mg) (G_law_built : FnD P w K mg base k (He.ga K "_law_built") (sBuilt n)) : FnD P w K mg base (k + 1) (He.ga K "_law_built") (sBuilt (n + 1)) := by
  have G_sleep : FnD P w K mg base 128 (He.ga K "sleep") sSleep := fd_sleep T
  have G_fail : FnD P w K mg base 128 (He.ga K "fail") sFail := fd_fail T
  have G_shield : FnD P w K mg base 128 (He.ga K "shield") sShield := fd_shield T
  have G_cleanup : FnD P w K mg base 128 (He.ga K "cleanup") sCleanup := fd_cleanup T
  have G_fallback : FnD P w K mg base 128 (He.ga K "fallback") sFallback := fd_fallback T
  have G_timeout : FnD P w K mg base 128 (He.ga K "timeout") sTimeout := fd_timeout T
  have G_move_on : FnD P w K mg base 128 (He.ga K "move_on") sMoveon := fd_move_on T
  have G_together : FnD P w K mg base 128 (He.ga K "together") sTogether := fd_together T
  have G_Program_add : FnD P w K mg base 128 (He.ma K (He.ga K "Program") "__add__") sAdd := fd_Program_add T
  have G_Program_mul : FnD P w K mg base 128 (He.ma K (He.ga K "Program") "__mul__") sMul := fd_Program_mul T
  refine fnd_mk T.f_law_built sc_law_built (fun _ _ _ _ _ _ us hl => match us, hl with | [_], _ => rfl) (fun ξ ds ω Φ h => ?_) (fun cdv A outer s H E hr => (dss_cons (ds_asg (dv 0) (dg_tup rfl (dgs_cons (dg_name (i := 1) sc_law_built.nd rfl (Or.inl rfl)) (dgs_cons (dg_name (i := 2) sc_law_built.nd rfl (Or.inl rfl)) (dgs_cons (dg_name (i := 3) sc_law_built.nd rfl (Or.inl rfl)) (dgs_cons (dg_name (i := 4) sc_law_built.nd rfl (Or.inl rfl)) dgs_nil))))))
    (dss_cons (ds_setLc (i := 5) (own := [("_law_part", 7)]) (by rfl) sc_law_built.nd rfl rfl (sw_true rfl rfl rfl (by decide +kernel)) (di_tup (dv 2)) (blkOk_by (own := [("_law_part", 7)]) (N := N_law_built) (sc := defScope s_law_built) (by decide +kernel)) (fun _ _ _ _ _ => (dg_name (i := 7) sc_law_built.nd rfl (Or.inl rfl))) (fun _ _ _ _ _ => dts_nil) (fun _ _ _ _ _ => (de_call G_law_built (hr.mono (by omega)) rfl T.g_law_built (kp_of T.f_law_built) passL (da_cons (dv 7) da_nil))))
    (dss_cons (ds_if (dt_cmp op_in_seq ok_in (dv 1) (de_tup (da_cons de_str (da_cons de_str da_nil))) (by rfl)) (dss_one (ds_ret (de_if (dt_cmp op_eq ok_eq (dv 1) de_str (nomark _)) (de_call G_sleep (hr.mono (by omega)) rfl T.g_sleep (kp_of T.f_sleep) passL (da_cons (dv 3) da_nil)) (de_call G_fail (hr.mono (by omega)) rfl T.g_fail (kp_of T.f_fail) passL (da_cons (de_ix ix_tup ok_ixT (dv 4) de_int (fun _ _ => rfl)) da_nil))))) dss_nil)
    (dss_cons (ds_if (dt_cmp op_eq ok_eq (dv 1) de_str (nomark _)) (dss_cons (ds_set (i := 6) sc_law_built.nd rfl (Or.inl rfl) (de_ix ix_list ok_ixL (dv 5) de_int (fun _ _ => rfl)))
    (dss_cons (ds_for PassesOwn.never rfl (di_list (de_sl sl_list ok_slL (dv 5) (do_some de_int) do_none)) (dg_name (i := 7) sc_law_built.nd rfl (Or.inl rfl)) (dss_one (ds_set (i := 6) sc_law_built.nd rfl (Or.inl rfl) (de_op (op_addD T G_Program_add (hr.mono (by omega))) ok_own (dv 6) (dv 7)))))
    (dss_one (ds_ret (dv 6))))) dss_nil)
    (dss_cons (ds_if (dt_cmp op_eq ok_eq (dv 1) de_str (nomark _)) (dss_one (ds_ret (de_call G_together (hr.mono (by omega)) rfl T.g_together (kp_of T.f_together) passL (da_cons (dv 5) da_nil)))) dss_nil)
    (dss_cons (ds_if (dt_cmp op_eq ok_eq (dv 1) de_str (nomark _)) (dss_one (ds_ret (de_op (op_mulD T G_Program_mul (hr.mono (by omega))) ok_own (de_ix ix_list ok_ixL (dv 5) de_int (fun _ _ => rfl)) (dv 3)))) dss_nil)
    (dss_cons (ds_if (dt_cmp op_in_seq ok_in (dv 1) (de_tup (da_cons de_str (da_cons de_str da_nil))) (by rfl)) (dss_one (ds_ret (de_if (dt_cmp op_eq ok_eq (dv 1) de_str (nomark _)) (de_call G_shield (hr.mono (by omega)) rfl T.g_shield (kp_of T.f_shield) passL (da_cons (de_ix ix_list ok_ixL (dv 5) de_int (fun _ _ => rfl)) da_nil)) (de_call G_cleanup (hr.mono (by omega)) rfl T.g_cleanup (kp_of T.f_cleanup) passL (da_cons (de_ix ix_list ok_ixL (dv 5) de_int (fun _ _ => rfl)) (da_cons (de_ix ix_list ok_ixL (dv 5) de_int (fun _ _ => rfl)) da_nil)))))) dss_nil)
    (dss_cons (ds_if (dt_cmp op_eq ok_eq (dv 1) de_str (nomark _)) (dss_one (ds_ret (de_call G_fallback (hr.mono (by omega)) rfl T.g_fallback (kp_of T.f_fallback) passL (da_cons (de_ix ix_list ok_ixL (dv 5) de_int (fun _ _ => rfl)) (da_cons (de_callTy call_list_of ok_list (by rfl) T.b_list (by decide +kernel) (da_cons (dv 4) da_nil)) (da_cons (de_ix ix_list ok_ixL (dv 5) de_int (fun _ _ => rfl)) da_nil)))))) dss_nil)
    (dss_one (ds_ret (de_if (dt_cmp op_eq ok_eq (dv 1) de_str (nomark _)) (de_call G_timeout (hr.mono (by omega)) rfl T.g_timeout (kp_of T.f_timeout) passL (da_cons (dv 3) (da_cons (de_ix ix_list ok_ixL (dv 5) de_int (fun _ _ => rfl)) (da_cons (de_ix ix_tup ok_ixT (dv 4) de_int (fun _ _ => rfl)) da_nil)))) (de_call G_move_on (hr.mono (by omega)) rfl T.g_move_on (kp_of T.f_move_on) passL (da_cons (dv 3) (da_cons (de_ix ix_list ok_ixL (dv 5) de_int (fun _ _ => rfl)) da_nil))))))))))))))) (fun ξ ds ω Φ h => ?_)
  · match ds, h with
    | [f], h => rfl
  match ds, h with
  | [f], h =>
    obtain ⟨p, e, bb, he, he4, hf, q⟩ := h
    have capb := capN_le bb
    cases hf with
    | sleep h0 h1 =>
      simp (decide := true) only [dSeq, dAsg, dAsgT, dPar, dRet, dDrop, dIfS, dNext, dBreak, dCont, dFor, dIL, dIT, dIR1, dIR2, dIE, dIZ, oAdd, oSub, oMul, oDiv, oMod, oPow, oLt, oLe, oGt, oGe, atI_0, atI_1, atI_2, atI_3, atI_m1, ixN_0, ixN_1, ixN_2, Om.put_same, dVar, getK, dC, dNil, dCons, dOp, oI, oIC, oMulS, oEq, oNe, eqS, oIsN, oNotN, isNon, dTest, dAnd, dOr, dNot, dAndV, dOrV, dNotV, dIf, dTup, dLst, dLstM, dCall, dCB, dChain, asL, asQ, oIx, oIxL, oIxT, oCat, oCatM, oCatT, oNil, oIn, dNoPart, dPart, dSl, slL, slT, slLM, cMax2, cMin2, cLen, cList, cListM, cInt, cTuple, dFld, fldP, dMeth, oOwn, put_nm, put_tp, puts_nil, puts_cons, onS, dNeg, dRev, dSetI, dBM, mAppend, mExtend, mClear, mReverse, dYes, startD, List.map_cons, List.map_nil, List.length_cons, List.length_nil, List.set_cons_zero, List.set_cons_succ, List.cons_append, List.nil_append, Nat.reduceAdd, Nat.reduceSub, List.replicate_succ, List.replicate_zero, List.length_singleton, wipeD, decide_eq_true_eq, decide_eq_false_iff_not, reduceCtorEq, true_implies, false_implies, and_true, true_and, if_true, if_false, Bool.false_eq_true, Bool.not_true, Bool.not_false, Bool.not_eq_true', Bool.not_eq_false', Om.put_put, dLc, dLcM, dFrz, frzK, List.getElem?_cons_succ, List.getElem?_cons_zero, dMkP, dForM, dNever, cIs_int, cIs_bool, cIs_str, cIs_list, cIs_tuple, cIsP, tyNm, is_int, is_bool, is_str, is_list, is_tuple, N_law_built, dLcL, inF, eqF, List.any_cons, List.any_nil]
      simp only [sSleep]
      exact ⟨h0, Int.le_trans h1 capb, q⟩
    | fail hz =>
      simp (decide := true) only [dSeq, dAsg, dAsgT, dPar, dRet, dDrop, dIfS, dNext, dBreak, dCont, dFor, dIL, dIT, dIR1, dIR2, dIE, dIZ, oAdd, oSub, oMul, oDiv, oMod, oPow, oLt, oLe, oGt, oGe, atI_0, atI_1, atI_2, atI_3, atI_m1, ixN_0, ixN_1, ixN_2, Om.put_same, dVar, getK, dC, dNil, dCons, dOp, oI, oIC, oMulS, oEq, oNe, eqS, oIsN, oNotN, isNon, dTest, dAnd, dOr, dNot, dAndV, dOrV, dNotV, dIf, dTup, dLst, dLstM, dCall, dCB, dChain, asL, asQ, oIx, oIxL, oIxT, oCat, oCatM, oCatT, oNil, oIn, dNoPart, dPart, dSl, slL, slT, slLM, cMax2, cMin2, cLen, cList, cListM, cInt, cTuple, dFld, fldP, dMeth, oOwn, put_nm, put_tp, puts_nil, puts_cons, onS, dNeg, dRev, dSetI, dBM, mAppend, mExtend, mClear, mReverse, dYes, startD, List.map_cons, List.map_nil, List.length_cons, List.length_nil, List.set_cons_zero, List.set_cons_succ, List.cons_append, List.nil_append, Nat.reduceAdd, Nat.reduceSub, List.replicate_succ, List.replicate_zero, List.length_singleton, wipeD, decide_eq_true_eq, decide_eq_false_iff_not, reduceCtorEq, true_implies, false_implies, and_true, true_and, if_true, if_false, Bool.false_eq_true, Bool.not_true, Bool.not_false, Bool.not_eq_true', Bool.not_eq_false', Om.put_put, dLc, dLcM, dFrz, frzK, List.getElem?_cons_succ, List.getElem?_cons_zero, dMkP, dForM, dNever, cIs_int, cIs_bool, cIs_str, cIs_list, cIs_tuple, cIsP, tyNm, is_int, is_bool, is_str, is_list, is_tuple, N_law_built, dLcL, inF, eqF, List.any_cons, List.any_nil]
      simp only [sFail]
      exact ⟨hz, q⟩
    | @seq d fs ps len h2 h3 sub =>
      simp (decide := true) only [dSeq, dAsg, dAsgT, dPar, dRet, dDrop, dIfS, dNext, dBreak, dCont, dFor, dIL, dIT, dIR1, dIR2, dIE, dIZ, oAdd, oSub, oMul, oDiv, oMod, oPow, oLt, oLe, oGt, oGe, atI_0, atI_1, atI_2, atI_3, atI_m1, ixN_0, ixN_1, ixN_2, Om.put_same, dVar, getK, dC, dNil, dCons, dOp, oI, oIC, oMulS, oEq, oNe, eqS, oIsN, oNotN, isNon, dTest, dAnd, dOr, dNot, dAndV, dOrV, dNotV, dIf, dTup, dLst, dLstM, dCall, dCB, dChain, asL, asQ, oIx, oIxL, oIxT, oCat, oCatM, oCatT, oNil, oIn, dNoPart, dPart, dSl, slL, slT, slLM, cMax2, cMin2, cLen, cList, cListM, cInt, cTuple, dFld, fldP, dMeth, oOwn, put_nm, put_tp, puts_nil, puts_cons, onS, dNeg, dRev, dSetI, dBM, mAppend, mExtend, mClear, mReverse, dYes, startD, List.map_cons, List.map_nil, List.length_cons, List.length_nil, List.set_cons_zero, List.set_cons_succ, List.cons_append, List.nil_append, Nat.reduceAdd, Nat.reduceSub, List.replicate_succ, List.replicate_zero, List.length_singleton, wipeD, decide_eq_true_eq, decide_eq_false_iff_not, reduceCtorEq, true_implies, false_implies, and_true, true_and, if_true, if_false, Bool.false_eq_true, Bool.not_true, Bool.not_false, Bool.not_eq_true', Bool.not_eq_false', Om.put_put, dLc, dLcM, dFrz, frzK, List.getElem?_cons_succ, List.getElem?_cons_zero, dMkP, dForM, dNever, cIs_int, cIs_bool, cIs_str, cIs_list, cIs_tuple, cIsP, tyNm, is_int, is_bool, is_str, is_list, is_tuple, N_law_built, inF, eqF, List.any_cons, List.any_nil]
      refine ⟨by omega, built_parts (d := d) (by omega) (by omega) len sub ?_⟩
      have hd3 : d ≤ 3 := by omega
      have hp := nF_pos d
      have hn3 := nF_le3 hd3
      match ps, fs, len, h2, h3, sub, q with
      | [a, b], [x, y], _, _, _, sub, q =>
        have sa := spec_small (sub 0 x a rfl rfl) (by omega)
        have sb := spec_small (sub 1 y b rfl rfl) (by omega)
        have hc : cutD [D.prog a, D.prog b] (some 1) none = [D.prog b] := rfl
        obtain ⟨m1, _, _⟩ := add_ok (flat_of sa) (flat_of sb) (by omega) (by omega) (by omega)
        simp only [List.map_cons, List.map_nil, atI_0, hc]
        simp only [dForL, dSeq, dAsg, dAsgT, dPar, dRet, dDrop, dIfS, dNext, dBreak, dCont, dFor, dIL, dIT, dIR1, dIR2, dIE, dIZ, oAdd, oSub, oMul, oDiv, oMod, oPow, oLt, oLe, oGt, oGe, atI_0, atI_1, atI_2, atI_3, atI_m1, ixN_0, ixN_1, ixN_2, Om.put_same, dVar, getK, dC, dNil, dCons, dOp, oI, oIC, oMulS, oEq, oNe, eqS, oIsN, oNotN, isNon, dTest, dAnd, dOr, dNot, dAndV, dOrV, dNotV, dIf, dTup, dLst, dLstM, dCall, dCB, dChain, asL, asQ, oIx, oIxL, oIxT, oCat, oCatM, oCatT, oNil, oIn, dNoPart, dPart, dSl, slL, slT, slLM, cMax2, cMin2, cLen, cList, cListM, cInt, cTuple, dFld, fldP, dMeth, oOwn, put_nm, put_tp, puts_nil, puts_cons, onS, dNeg, dRev, dSetI, dBM, mAppend, mExtend, mClear, mReverse, dYes, startD, List.map_cons, List.map_nil, List.length_cons, List.length_nil, List.set_cons_zero, List.set_cons_succ, List.cons_append, List.nil_append, Nat.reduceAdd, Nat.reduceSub, List.replicate_succ, List.replicate_zero, List.length_singleton, wipeD, decide_eq_true_eq, decide_eq_false_iff_not, reduceCtorEq, true_implies, false_implies, and_true, true_and, if_true, if_false, Bool.false_eq_true, Bool.not_true, Bool.not_false, Bool.not_eq_true', Bool.not_eq_false', Om.put_put, dLc, dLcM, dFrz, frzK, List.getElem?_cons_succ, List.getElem?_cons_zero, dMkP, dForM, dNever, cIs_int, cIs_bool, cIs_str, cIs_list, cIs_tuple, cIsP, tyNm, is_int, is_bool, is_str, is_list, is_tuple, sAdd]
        exact ⟨m1, q⟩
      | [a, b, c], [x, y, z], _, _, _, sub, q =>
        have sa := spec_small (sub 0 x a rfl rfl) (by omega)
        have sb := spec_small (sub 1 y b rfl rfl) (by omega)
        have sc := spec_small (sub 2 z c rfl rfl) (by omega)
        have hc : cutD [D.prog a, D.prog b, D.prog c] (some 1) none = [D.prog b, D.prog c] := rfl
        obtain ⟨m1, f1, _⟩ := add_ok (flat_of sa) (flat_of sb) (by omega) (by omega) (by omega)
        obtain ⟨m2, _, _⟩ := add_ok f1 (flat_of sc) (by omega) (by omega) (by omega)
        simp only [List.map_cons, List.map_nil, atI_0, hc]
        simp only [dForL, dSeq, dAsg, dAsgT, dPar, dRet, dDrop, dIfS, dNext, dBreak, dCont, dFor, dIL, dIT, dIR1, dIR2, dIE, dIZ, oAdd, oSub, oMul, oDiv, oMod, oPow, oLt, oLe, oGt, oGe, atI_0, atI_1, atI_2, atI_3, atI_m1, ixN_0, ixN_1, ixN_2, Om.put_same, dVar, getK, dC, dNil, dCons, dOp, oI, oIC, oMulS, oEq, oNe, eqS, oIsN, oNotN, isNon, dTest, dAnd, dOr, dNot, dAndV, dOrV, dNotV, dIf, dTup, dLst, dLstM, dCall, dCB, dChain, asL, asQ, oIx, oIxL, oIxT, oCat, oCatM, oCatT, oNil, oIn, dNoPart, dPart, dSl, slL, slT, slLM, cMax2, cMin2, cLen, cList, cListM, cInt, cTuple, dFld, fldP, dMeth, oOwn, put_nm, put_tp, puts_nil, puts_cons, onS, dNeg, dRev, dSetI, dBM, mAppend, mExtend, mClear, mReverse, dYes, startD, List.map_cons, List.map_nil, List.length_cons, List.length_nil, List.set_cons_zero, List.set_cons_succ, List.cons_append, List.nil_append, Nat.reduceAdd, Nat.reduceSub, List.replicate_succ, List.replicate_zero, List.length_singleton, wipeD, decide_eq_true_eq, decide_eq_false_iff_not, reduceCtorEq, true_implies, false_implies, and_true, true_and, if_true, if_false, Bool.false_eq_true, Bool.not_true, Bool.not_false, Bool.not_eq_true', Bool.not_eq_false', Om.put_put, dLc, dLcM, dFrz, frzK, List.getElem?_cons_succ, List.getElem?_cons_zero, dMkP, dForM, dNever, cIs_int, cIs_bool, cIs_str, cIs_list, cIs_tuple, cIsP, tyNm, is_int, is_bool, is_str, is_list, is_tuple, sAdd]
        exact ⟨m1, m2, q⟩
    | @group d fs ps len h2 h3 sub =>
      have ms : ∀ p ∈ ps, Small p (nF d) (d + 1) := fun p hp => by
        obtain ⟨i, hi, e⟩ := List.mem_iff_getElem.mp hp
        exact spec_small (sub i _ p (List.getElem?_eq_getElem (by omega)) (by rw [List.getElem?_eq_getElem hi, e])) (by omega)
      simp (decide := true) only [dSeq, dAsg, dAsgT, dPar, dRet, dDrop, dIfS, dNext, dBreak, dCont, dFor, dIL, dIT, dIR1, dIR2, dIE, dIZ, oAdd, oSub, oMul, oDiv, oMod, oPow, oLt, oLe, oGt, oGe, atI_0, atI_1, atI_2, atI_3, atI_m1, ixN_0, ixN_1, ixN_2, Om.put_same, dVar, getK, dC, dNil, dCons, dOp, oI, oIC, oMulS, oEq, oNe, eqS, oIsN, oNotN, isNon, dTest, dAnd, dOr, dNot, dAndV, dOrV, dNotV, dIf, dTup, dLst, dLstM, dCall, dCB, dChain, asL, asQ, oIx, oIxL, oIxT, oCat, oCatM, oCatT, oNil, oIn, dNoPart, dPart, dSl, slL, slT, slLM, cMax2, cMin2, cLen, cList, cListM, cInt, cTuple, dFld, fldP, dMeth, oOwn, put_nm, put_tp, puts_nil, puts_cons, onS, dNeg, dRev, dSetI, dBM, mAppend, mExtend, mClear, mReverse, dYes, startD, List.map_cons, List.map_nil, List.length_cons, List.length_nil, List.set_cons_zero, List.set_cons_succ, List.cons_append, List.nil_append, Nat.reduceAdd, Nat.reduceSub, List.replicate_succ, List.replicate_zero, List.length_singleton, wipeD, decide_eq_true_eq, decide_eq_false_iff_not, reduceCtorEq, true_implies, false_implies, and_true, true_and, if_true, if_false, Bool.false_eq_true, Bool.not_true, Bool.not_false, Bool.not_eq_true', Bool.not_eq_false', Om.put_put, dLc, dLcM, dFrz, frzK, List.getElem?_cons_succ, List.getElem?_cons_zero, dMkP, dForM, dNever, cIs_int, cIs_bool, cIs_str, cIs_list, cIs_tuple, cIsP, tyNm, is_int, is_bool, is_str, is_list, is_tuple, N_law_built, inF, eqF, List.any_cons, List.any_nil]
      simp only [sTogether]
      refine ⟨by omega, built_parts (d := d) (by omega) (by omega) len sub ?_⟩
      simp only [progsOf_map]
      exact ⟨mk_of (by omega) ms ⟨fun e => by rw [e] at h2; exact absurd h2 (by decide), by omega, rfl, rfl⟩ h3, q⟩
    | @loop d x p0 n0 sub h0 h1 =>
      simp (decide := true) only [dSeq, dAsg, dAsgT, dPar, dRet, dDrop, dIfS, dNext, dBreak, dCont, dFor, dIL, dIT, dIR1, dIR2, dIE, dIZ, oAdd, oSub, oMul, oDiv, oMod, oPow, oLt, oLe, oGt, oGe, atI_0, atI_1, atI_2, atI_3, atI_m1, ixN_0, ixN_1, ixN_2, Om.put_same, dVar, getK, dC, dNil, dCons, dOp, oI, oIC, oMulS, oEq, oNe, eqS, oIsN, oNotN, isNon, dTest, dAnd, dOr, dNot, dAndV, dOrV, dNotV, dIf, dTup, dLst, dLstM, dCall, dCB, dChain, asL, asQ, oIx, oIxL, oIxT, oCat, oCatM, oCatT, oNil, oIn, dNoPart, dPart, dSl, slL, slT, slLM, cMax2, cMin2, cLen, cList, cListM, cInt, cTuple, dFld, fldP, dMeth, oOwn, put_nm, put_tp, puts_nil, puts_cons, onS, dNeg, dRev, dSetI, dBM, mAppend, mExtend, mClear, mReverse, dYes, startD, List.map_cons, List.map_nil, List.length_cons, List.length_nil, List.set_cons_zero, List.set_cons_succ, List.cons_append, List.nil_append, Nat.reduceAdd, Nat.reduceSub, List.replicate_succ, List.replicate_zero, List.length_singleton, wipeD, decide_eq_true_eq, decide_eq_false_iff_not, reduceCtorEq, true_implies, false_implies, and_true, true_and, if_true, if_false, Bool.false_eq_true, Bool.not_true, Bool.not_false, Bool.not_eq_true', Bool.not_eq_false', Om.put_put, dLc, dLcM, dFrz, frzK, List.getElem?_cons_succ, List.getElem?_cons_zero, dMkP, dForM, dNever, cIs_int, cIs_bool, cIs_str, cIs_list, cIs_tuple, cIsP, tyNm, is_int, is_bool, is_str, is_list, is_tuple, N_law_built, inF, eqF, List.any_cons, List.any_nil]
      refine built_parts (d := d) (ps := [p0]) (by omega) (by omega) rfl (spec1 sub) ?_
      simp (decide := true) only [dSeq, dAsg, dAsgT, dPar, dRet, dDrop, dIfS, dNext, dBreak, dCont, dFor, dIL, dIT, dIR1, dIR2, dIE, dIZ, oAdd, oSub, oMul, oDiv, oMod, oPow, oLt, oLe, oGt, oGe, atI_0, atI_1, atI_2, atI_3, atI_m1, ixN_0, ixN_1, ixN_2, Om.put_same, dVar, getK, dC, dNil, dCons, dOp, oI, oIC, oMulS, oEq, oNe, eqS, oIsN, oNotN, isNon, dTest, dAnd, dOr, dNot, dAndV, dOrV, dNotV, dIf, dTup, dLst, dLstM, dCall, dCB, dChain, asL, asQ, oIx, oIxL, oIxT, oCat, oCatM, oCatT, oNil, oIn, dNoPart, dPart, dSl, slL, slT, slLM, cMax2, cMin2, cLen, cList, cListM, cInt, cTuple, dFld, fldP, dMeth, oOwn, put_nm, put_tp, puts_nil, puts_cons, onS, dNeg, dRev, dSetI, dBM, mAppend, mExtend, mClear, mReverse, dYes, startD, List.map_cons, List.map_nil, List.length_cons, List.length_nil, List.set_cons_zero, List.set_cons_succ, List.cons_append, List.nil_append, Nat.reduceAdd, Nat.reduceSub, List.replicate_succ, List.replicate_zero, List.length_singleton, wipeD, decide_eq_true_eq, decide_eq_false_iff_not, reduceCtorEq, true_implies, false_implies, and_true, true_and, if_true, if_false, Bool.false_eq_true, Bool.not_true, Bool.not_false, Bool.not_eq_true', Bool.not_eq_false', Om.put_put, dLc, dLcM, dFrz, frzK, List.getElem?_cons_succ, List.getElem?_cons_zero, dMkP, dForM, dNever, cIs_int, cIs_bool, cIs_str, cIs_list, cIs_tuple, cIsP, tyNm, is_int, is_bool, is_str, is_list, is_tuple, N_law_built, sMul]
      exact ⟨mk_of (by omega) (small1 (spec_small sub (by omega))) ⟨⟨_, rfl⟩, h0, Int.le_trans h1 (Int.le_trans (capK_le _) capb), rfl⟩ (by show 1 ≤ 3; decide), q⟩
    | @shield d x p0 sub =>
      simp (decide := true) only [dSeq, dAsg, dAsgT, dPar, dRet, dDrop, dIfS, dNext, dBreak, dCont, dFor, dIL, dIT, dIR1, dIR2, dIE, dIZ, oAdd, oSub, oMul, oDiv, oMod, oPow, oLt, oLe, oGt, oGe, atI_0, atI_1, atI_2, atI_3, atI_m1, ixN_0, ixN_1, ixN_2, Om.put_same, dVar, getK, dC, dNil, dCons, dOp, oI, oIC, oMulS, oEq, oNe, eqS, oIsN, oNotN, isNon, dTest, dAnd, dOr, dNot, dAndV, dOrV, dNotV, dIf, dTup, dLst, dLstM, dCall, dCB, dChain, asL, asQ, oIx, oIxL, oIxT, oCat, oCatM, oCatT, oNil, oIn, dNoPart, dPart, dSl, slL, slT, slLM, cMax2, cMin2, cLen, cList, cListM, cInt, cTuple, dFld, fldP, dMeth, oOwn, put_nm, put_tp, puts_nil, puts_cons, onS, dNeg, dRev, dSetI, dBM, mAppend, mExtend, mClear, mReverse, dYes, startD, List.map_cons, List.map_nil, List.length_cons, List.length_nil, List.set_cons_zero, List.set_cons_succ, List.cons_append, List.nil_append, Nat.reduceAdd, Nat.reduceSub, List.replicate_succ, List.replicate_zero, List.length_singleton, wipeD, decide_eq_true_eq, decide_eq_false_iff_not, reduceCtorEq, true_implies, false_implies, and_true, true_and, if_true, if_false, Bool.false_eq_true, Bool.not_true, Bool.not_false, Bool.not_eq_true', Bool.not_eq_false', Om.put_put, dLc, dLcM, dFrz, frzK, List.getElem?_cons_succ, List.getElem?_cons_zero, dMkP, dForM, dNever, cIs_int, cIs_bool, cIs_str, cIs_list, cIs_tuple, cIsP, tyNm, is_int, is_bool, is_str, is_list, is_tuple, N_law_built, inF, eqF, List.any_cons, List.any_nil]
      refine built_parts (d := d) (ps := [p0]) (by omega) (by omega) rfl (spec1 sub) ?_
      simp (decide := true) only [dSeq, dAsg, dAsgT, dPar, dRet, dDrop, dIfS, dNext, dBreak, dCont, dFor, dIL, dIT, dIR1, dIR2, dIE, dIZ, oAdd, oSub, oMul, oDiv, oMod, oPow, oLt, oLe, oGt, oGe, atI_0, atI_1, atI_2, atI_3, atI_m1, ixN_0, ixN_1, ixN_2, Om.put_same, dVar, getK, dC, dNil, dCons, dOp, oI, oIC, oMulS, oEq, oNe, eqS, oIsN, oNotN, isNon, dTest, dAnd, dOr, dNot, dAndV, dOrV, dNotV, dIf, dTup, dLst, dLstM, dCall, dCB, dChain, asL, asQ, oIx, oIxL, oIxT, oCat, oCatM, oCatT, oNil, oIn, dNoPart, dPart, dSl, slL, slT, slLM, cMax2, cMin2, cLen, cList, cListM, cInt, cTuple, dFld, fldP, dMeth, oOwn, put_nm, put_tp, puts_nil, puts_cons, onS, dNeg, dRev, dSetI, dBM, mAppend, mExtend, mClear, mReverse, dYes, startD, List.map_cons, List.map_nil, List.length_cons, List.length_nil, List.set_cons_zero, List.set_cons_succ, List.cons_append, List.nil_append, Nat.reduceAdd, Nat.reduceSub, List.replicate_succ, List.replicate_zero, List.length_singleton, wipeD, decide_eq_true_eq, decide_eq_false_iff_not, reduceCtorEq, true_implies, false_implies, and_true, true_and, if_true, if_false, Bool.false_eq_true, Bool.not_true, Bool.not_false, Bool.not_eq_true', Bool.not_eq_false', Om.put_put, dLc, dLcM, dFrz, frzK, List.getElem?_cons_succ, List.getElem?_cons_zero, dMkP, dForM, dNever, cIs_int, cIs_bool, cIs_str, cIs_list, cIs_tuple, cIsP, tyNm, is_int, is_bool, is_str, is_list, is_tuple, N_law_built, sShield]
      exact ⟨mk_of (by omega) (small1 (spec_small sub (by omega))) ⟨⟨_, rfl⟩, rfl, rfl⟩ (by show 1 ≤ 3; decide), q⟩
    | @cleanup d x y p0 q0 sub sub2 =>
      simp (decide := true) only [dSeq, dAsg, dAsgT, dPar, dRet, dDrop, dIfS, dNext, dBreak, dCont, dFor, dIL, dIT, dIR1, dIR2, dIE, dIZ, oAdd, oSub, oMul, oDiv, oMod, oPow, oLt, oLe, oGt, oGe, atI_0, atI_1, atI_2, atI_3, atI_m1, ixN_0, ixN_1, ixN_2, Om.put_same, dVar, getK, dC, dNil, dCons, dOp, oI, oIC, oMulS, oEq, oNe, eqS, oIsN, oNotN, isNon, dTest, dAnd, dOr, dNot, dAndV, dOrV, dNotV, dIf, dTup, dLst, dLstM, dCall, dCB, dChain, asL, asQ, oIx, oIxL, oIxT, oCat, oCatM, oCatT, oNil, oIn, dNoPart, dPart, dSl, slL, slT, slLM, cMax2, cMin2, cLen, cList, cListM, cInt, cTuple, dFld, fldP, dMeth, oOwn, put_nm, put_tp, puts_nil, puts_cons, onS, dNeg, dRev, dSetI, dBM, mAppend, mExtend, mClear, mReverse, dYes, startD, List.map_cons, List.map_nil, List.length_cons, List.length_nil, List.set_cons_zero, List.set_cons_succ, List.cons_append, List.nil_append, Nat.reduceAdd, Nat.reduceSub, List.replicate_succ, List.replicate_zero, List.length_singleton, wipeD, decide_eq_true_eq, decide_eq_false_iff_not, reduceCtorEq, true_implies, false_implies, and_true, true_and, if_true, if_false, Bool.false_eq_true, Bool.not_true, Bool.not_false, Bool.not_eq_true', Bool.not_eq_false', Om.put_put, dLc, dLcM, dFrz, frzK, List.getElem?_cons_succ, List.getElem?_cons_zero, dMkP, dForM, dNever, cIs_int, cIs_bool, cIs_str, cIs_list, cIs_tuple, cIsP, tyNm, is_int, is_bool, is_str, is_list, is_tuple, N_law_built, inF, eqF, List.any_cons, List.any_nil]
      refine built_parts (d := d) (ps := [p0, q0]) (by omega) (by omega) rfl (spec2 sub sub2) ?_
      simp (decide := true) only [dSeq, dAsg, dAsgT, dPar, dRet, dDrop, dIfS, dNext, dBreak, dCont, dFor, dIL, dIT, dIR1, dIR2, dIE, dIZ, oAdd, oSub, oMul, oDiv, oMod, oPow, oLt, oLe, oGt, oGe, atI_0, atI_1, atI_2, atI_3, atI_m1, ixN_0, ixN_1, ixN_2, Om.put_same, dVar, getK, dC, dNil, dCons, dOp, oI, oIC, oMulS, oEq, oNe, eqS, oIsN, oNotN, isNon, dTest, dAnd, dOr, dNot, dAndV, dOrV, dNotV, dIf, dTup, dLst, dLstM, dCall, dCB, dChain, asL, asQ, oIx, oIxL, oIxT, oCat, oCatM, oCatT, oNil, oIn, dNoPart, dPart, dSl, slL, slT, slLM, cMax2, cMin2, cLen, cList, cListM, cInt, cTuple, dFld, fldP, dMeth, oOwn, put_nm, put_tp, puts_nil, puts_cons, onS, dNeg, dRev, dSetI, dBM, mAppend, mExtend, mClear, mReverse, dYes, startD, List.map_cons, List.map_nil, List.length_cons, List.length_nil, List.set_cons_zero, List.set_cons_succ, List.cons_append, List.nil_append, Nat.reduceAdd, Nat.reduceSub, List.replicate_succ, List.replicate_zero, List.length_singleton, wipeD, decide_eq_true_eq, decide_eq_false_iff_not, reduceCtorEq, true_implies, false_implies, and_true, true_and, if_true, if_false, Bool.false_eq_true, Bool.not_true, Bool.not_false, Bool.not_eq_true', Bool.not_eq_false', Om.put_put, dLc, dLcM, dFrz, frzK, List.getElem?_cons_succ, List.getElem?_cons_zero, dMkP, dForM, dNever, cIs_int, cIs_bool, cIs_str, cIs_list, cIs_tuple, cIsP, tyNm, is_int, is_bool, is_str, is_list, is_tuple, N_law_built, sCleanup]
      exact ⟨mk_of (by omega) (small2 (spec_small sub (by omega)) (spec_small sub2 (by omega))) ⟨⟨_, _, rfl⟩, rfl, rfl⟩ (by show 2 ≤ 3; decide), q⟩
    | @fallback d x y p0 q0 ws n1 n2 n3 n4 sub sub2 =>
      simp (decide := true) only [dSeq, dAsg, dAsgT, dPar, dRet, dDrop, dIfS, dNext, dBreak, dCont, dFor, dIL, dIT, dIR1, dIR2, dIE, dIZ, oAdd, oSub, oMul, oDiv, oMod, oPow, oLt, oLe, oGt, oGe, atI_0, atI_1, atI_2, atI_3, atI_m1, ixN_0, ixN_1, ixN_2, Om.put_same, dVar, getK, dC, dNil, dCons, dOp, oI, oIC, oMulS, oEq, oNe, eqS, oIsN, oNotN, isNon, dTest, dAnd, dOr, dNot, dAndV, dOrV, dNotV, dIf, dTup, dLst, dLstM, dCall, dCB, dChain, asL, asQ, oIx, oIxL, oIxT, oCat, oCatM, oCatT, oNil, oIn, dNoPart, dPart, dSl, slL, slT, slLM, cMax2, cMin2, cLen, cList, cListM, cInt, cTuple, dFld, fldP, dMeth, oOwn, put_nm, put_tp, puts_nil, puts_cons, onS, dNeg, dRev, dSetI, dBM, mAppend, mExtend, mClear, mReverse, dYes, startD, List.map_cons, List.map_nil, List.length_cons, List.length_nil, List.set_cons_zero, List.set_cons_succ, List.cons_append, List.nil_append, Nat.reduceAdd, Nat.reduceSub, List.replicate_succ, List.replicate_zero, List.length_singleton, wipeD, decide_eq_true_eq, decide_eq_false_iff_not, reduceCtorEq, true_implies, false_implies, and_true, true_and, if_true, if_false, Bool.false_eq_true, Bool.not_true, Bool.not_false, Bool.not_eq_true', Bool.not_eq_false', Om.put_put, dLc, dLcM, dFrz, frzK, List.getElem?_cons_succ, List.getElem?_cons_zero, dMkP, dForM, dNever, cIs_int, cIs_bool, cIs_str, cIs_list, cIs_tuple, cIsP, tyNm, is_int, is_bool, is_str, is_list, is_tuple, N_law_built, inF, eqF, List.any_cons, List.any_nil]
      refine built_parts (d := d) (ps := [p0, q0]) (by omega) (by omega) rfl (spec2 sub sub2) ?_
      simp (decide := true) only [dSeq, dAsg, dAsgT, dPar, dRet, dDrop, dIfS, dNext, dBreak, dCont, dFor, dIL, dIT, dIR1, dIR2, dIE, dIZ, oAdd, oSub, oMul, oDiv, oMod, oPow, oLt, oLe, oGt, oGe, atI_0, atI_1, atI_2, atI_3, atI_m1, ixN_0, ixN_1, ixN_2, Om.put_same, dVar, getK, dC, dNil, dCons, dOp, oI, oIC, oMulS, oEq, oNe, eqS, oIsN, oNotN, isNon, dTest, dAnd, dOr, dNot, dAndV, dOrV, dNotV, dIf, dTup, dLst, dLstM, dCall, dCB, dChain, asL, asQ, oIx, oIxL, oIxT, oCat, oCatM, oCatT, oNil, oIn, dNoPart, dPart, dSl, slL, slT, slLM, cMax2, cMin2, cLen, cList, cListM, cInt, cTuple, dFld, fldP, dMeth, oOwn, put_nm, put_tp, puts_nil, puts_cons, onS, dNeg, dRev, dSetI, dBM, mAppend, mExtend, mClear, mReverse, dYes, startD, List.map_cons, List.map_nil, List.length_cons, List.length_nil, List.set_cons_zero, List.set_cons_succ, List.cons_append, List.nil_append, Nat.reduceAdd, Nat.reduceSub, List.replicate_succ, List.replicate_zero, List.length_singleton, wipeD, decide_eq_true_eq, decide_eq_false_iff_not, reduceCtorEq, true_implies, false_implies, and_true, true_and, if_true, if_false, Bool.false_eq_true, Bool.not_true, Bool.not_false, Bool.not_eq_true', Bool.not_eq_false', Om.put_put, dLc, dLcM, dFrz, frzK, List.getElem?_cons_succ, List.getElem?_cons_zero, dMkP, dForM, dNever, cIs_int, cIs_bool, cIs_str, cIs_list, cIs_tuple, cIsP, tyNm, is_int, is_bool, is_str, is_list, is_tuple, N_law_built, sFallback, strsOf_map]
      exact ⟨n1, n2, n3, n4, mk_of (by omega) (small2 (spec_small sub (by omega)) (spec_small sub2 (by omega))) ⟨⟨_, _, rfl⟩, rfl, n2⟩ (by show 2 ≤ 3; decide), q⟩
    | @timeout d x p0 n0 z hz sub h0 h1 =>
      simp (decide := true) only [dSeq, dAsg, dAsgT, dPar, dRet, dDrop, dIfS, dNext, dBreak, dCont, dFor, dIL, dIT, dIR1, dIR2, dIE, dIZ, oAdd, oSub, oMul, oDiv, oMod, oPow, oLt, oLe, oGt, oGe, atI_0, atI_1, atI_2, atI_3, atI_m1, ixN_0, ixN_1, ixN_2, Om.put_same, dVar, getK, dC, dNil, dCons, dOp, oI, oIC, oMulS, oEq, oNe, eqS, oIsN, oNotN, isNon, dTest, dAnd, dOr, dNot, dAndV, dOrV, dNotV, dIf, dTup, dLst, dLstM, dCall, dCB, dChain, asL, asQ, oIx, oIxL, oIxT, oCat, oCatM, oCatT, oNil, oIn, dNoPart, dPart, dSl, slL, slT, slLM, cMax2, cMin2, cLen, cList, cListM, cInt, cTuple, dFld, fldP, dMeth, oOwn, put_nm, put_tp, puts_nil, puts_cons, onS, dNeg, dRev, dSetI, dBM, mAppend, mExtend, mClear, mReverse, dYes, startD, List.map_cons, List.map_nil, List.length_cons, List.length_nil, List.set_cons_zero, List.set_cons_succ, List.cons_append, List.nil_append, Nat.reduceAdd, Nat.reduceSub, List.replicate_succ, List.replicate_zero, List.length_singleton, wipeD, decide_eq_true_eq, decide_eq_false_iff_not, reduceCtorEq, true_implies, false_implies, and_true, true_and, if_true, if_false, Bool.false_eq_true, Bool.not_true, Bool.not_false, Bool.not_eq_true', Bool.not_eq_false', Om.put_put, dLc, dLcM, dFrz, frzK, List.getElem?_cons_succ, List.getElem?_cons_zero, dMkP, dForM, dNever, cIs_int, cIs_bool, cIs_str, cIs_list, cIs_tuple, cIsP, tyNm, is_int, is_bool, is_str, is_list, is_tuple, N_law_built, inF, eqF, List.any_cons, List.any_nil]
      refine built_parts (d := d) (ps := [p0]) (by omega) (by omega) rfl (spec1 sub) ?_
      simp (decide := true) only [dSeq, dAsg, dAsgT, dPar, dRet, dDrop, dIfS, dNext, dBreak, dCont, dFor, dIL, dIT, dIR1, dIR2, dIE, dIZ, oAdd, oSub, oMul, oDiv, oMod, oPow, oLt, oLe, oGt, oGe, atI_0, atI_1, atI_2, atI_3, atI_m1, ixN_0, ixN_1, ixN_2, Om.put_same, dVar, getK, dC, dNil, dCons, dOp, oI, oIC, oMulS, oEq, oNe, eqS, oIsN, oNotN, isNon, dTest, dAnd, dOr, dNot, dAndV, dOrV, dNotV, dIf, dTup, dLst, dLstM, dCall, dCB, dChain, asL, asQ, oIx, oIxL, oIxT, oCat, oCatM, oCatT, oNil, oIn, dNoPart, dPart, dSl, slL, slT, slLM, cMax2, cMin2, cLen, cList, cListM, cInt, cTuple, dFld, fldP, dMeth, oOwn, put_nm, put_tp, puts_nil, puts_cons, onS, dNeg, dRev, dSetI, dBM, mAppend, mExtend, mClear, mReverse, dYes, startD, List.map_cons, List.map_nil, List.length_cons, List.length_nil, List.set_cons_zero, List.set_cons_succ, List.cons_append, List.nil_append, Nat.reduceAdd, Nat.reduceSub, List.replicate_succ, List.replicate_zero, List.length_singleton, wipeD, decide_eq_true_eq, decide_eq_false_iff_not, reduceCtorEq, true_implies, false_implies, and_true, true_and, if_true, if_false, Bool.false_eq_true, Bool.not_true, Bool.not_false, Bool.not_eq_true', Bool.not_eq_false', Om.put_put, dLc, dLcM, dFrz, frzK, List.getElem?_cons_succ, List.getElem?_cons_zero, dMkP, dForM, dNever, cIs_int, cIs_bool, cIs_str, cIs_list, cIs_tuple, cIsP, tyNm, is_int, is_bool, is_str, is_list, is_tuple, N_law_built, sTimeout]
      exact ⟨hz, mk_of (by omega) (small1 (spec_small sub (by omega))) ⟨⟨_, rfl⟩, h0, Int.le_trans h1 capb, _, rfl, hz⟩ (by show 1 ≤ 3; decide), q⟩
    | @moveon d x p0 n0 sub h0 h1 =>
      simp (decide := true) only [dSeq, dAsg, dAsgT, dPar, dRet, dDrop, dIfS, dNext, dBreak, dCont, dFor, dIL, dIT, dIR1, dIR2, dIE, dIZ, oAdd, oSub, oMul, oDiv, oMod, oPow, oLt, oLe, oGt, oGe, atI_0, atI_1, atI_2, atI_3, atI_m1, ixN_0, ixN_1, ixN_2, Om.put_same, dVar, getK, dC, dNil, dCons, dOp, oI, oIC, oMulS, oEq, oNe, eqS, oIsN, oNotN, isNon, dTest, dAnd, dOr, dNot, dAndV, dOrV, dNotV, dIf, dTup, dLst, dLstM, dCall, dCB, dChain, asL, asQ, oIx, oIxL, oIxT, oCat, oCatM, oCatT, oNil, oIn, dNoPart, dPart, dSl, slL, slT, slLM, cMax2, cMin2, cLen, cList, cListM, cInt, cTuple, dFld, fldP, dMeth, oOwn, put_nm, put_tp, puts_nil, puts_cons, onS, dNeg, dRev, dSetI, dBM, mAppend, mExtend, mClear, mReverse, dYes, startD, List.map_cons, List.map_nil, List.length_cons, List.length_nil, List.set_cons_zero, List.set_cons_succ, List.cons_append, List.nil_append, Nat.reduceAdd, Nat.reduceSub, List.replicate_succ, List.replicate_zero, List.length_singleton, wipeD, decide_eq_true_eq, decide_eq_false_iff_not, reduceCtorEq, true_implies, false_implies, and_true, true_and, if_true, if_false, Bool.false_eq_true, Bool.not_true, Bool.not_false, Bool.not_eq_true', Bool.not_eq_false', Om.put_put, dLc, dLcM, dFrz, frzK, List.getElem?_cons_succ, List.getElem?_cons_zero, dMkP, dForM, dNever, cIs_int, cIs_bool, cIs_str, cIs_list, cIs_tuple, cIsP, tyNm, is_int, is_bool, is_str, is_list, is_tuple, N_law_built, inF, eqF, List.any_cons, List.any_nil]
      refine built_parts (d := d) (ps := [p0]) (by omega) (by omega) rfl (spec1 sub) ?_
      simp (decide := true) only [dSeq, dAsg, dAsgT, dPar, dRet, dDrop, dIfS, dNext, dBreak, dCont, dFor, dIL, dIT, dIR1, dIR2, dIE, dIZ, oAdd, oSub, oMul, oDiv, oMod, oPow, oLt, oLe, oGt, oGe, atI_0, atI_1, atI_2, atI_3, atI_m1, ixN_0, ixN_1, ixN_2, Om.put_same, dVar, getK, dC, dNil, dCons, dOp, oI, oIC, oMulS, oEq, oNe, eqS, oIsN, oNotN, isNon, dTest, dAnd, dOr, dNot, dAndV, dOrV, dNotV, dIf, dTup, dLst, dLstM, dCall, dCB, dChain, asL, asQ, oIx, oIxL, oIxT, oCat, oCatM, oCatT, oNil, oIn, dNoPart, dPart, dSl, slL, slT, slLM, cMax2, cMin2, cLen, cList, cListM, cInt, cTuple, dFld, fldP, dMeth, oOwn, put_nm, put_tp, puts_nil, puts_cons, onS, dNeg, dRev, dSetI, dBM, mAppend, mExtend, mClear, mReverse, dYes, startD, List.map_cons, List.map_nil, List.length_cons, List.length_nil, List.set_cons_zero, List.set_cons_succ, List.cons_append, List.nil_append, Nat.reduceAdd, Nat.reduceSub, List.replicate_succ, List.replicate_zero, List.length_singleton, wipeD, decide_eq_true_eq, decide_eq_false_iff_not, reduceCtorEq, true_implies, false_implies, and_true, true_and, if_true, if_false, Bool.false_eq_true, Bool.not_true, Bool.not_false, Bool.not_eq_true', Bool.not_eq_false', Om.put_put, dLc, dLcM, dFrz, frzK, List.getElem?_cons_succ, List.getElem?_cons_zero, dMkP, dForM, dNever, cIs_int, cIs_bool, cIs_str, cIs_list, cIs_tuple, cIsP, tyNm, is_int, is_bool, is_str, is_list, is_tuple, N_law_built, sMoveon]
      exact ⟨mk_of (by omega) (small1 (spec_small sub (by omega))) ⟨⟨_, rfl⟩, h0, Int.le_trans h1 capb, rfl⟩ (by show 1 ≤ 3; decide), q⟩
theorem built_all (T : Txt K mg) : ∀ n : Nat, FnD P w K mg base (128 + n) (He.ga K "_law_built") (sBuilt n)
  | 0 => fun A outer s H us vs Q E hr e0 r h => by
    obtain ⟨F, G, ω, ds, Φ, ξ, _, _, h, _⟩ := h
    match ds, h with
    | [f], h =>
      obtain ⟨p, e, bb, he, _⟩ := h
      exact absurd he (Nat.not_lt_zero _)
  | n + 1 => fd_law_built (Nat.le_add_right 128 n) T (built_all T n)
end
end Cu

/-! == BC -/
set_option maxHeartbeats 4000000
namespace Cu
open PySem PySem.Spec PyProof.Rows L2 Evl CuT
theorem capT_le : ∀ (b : Bool) (r : Int), r ≤ capT b → r ≤ capN b
  | false, r, h => by
    have h : r ≤ 5 := h
    show r ≤ 9
    omega
  | true, r, h => by
    have h : r ≤ 100000000000000000000 := h
    show r ≤ mostT
    unfold mostT
    omega
theorem cap3_le : ∀ (b : Bool) (r : Int), r ≤ 3 → r ≤ capK b
  | false, _, h => h
  | true, r, h => by
    show r ≤ mostT
    unfold mostT
    omega
theorem cap9_le : ∀ (b : Bool) (r : Int), r ≤ 9 → r ≤ capN b
  | false, r, h => h
  | true, r, h => by
    show r ≤ mostT
    unfold mostT
    omega
theorem capL_le : ∀ (b : Bool) (r r' : Int), r ≤ capT b → r' < 5 → r + r' ≤ capN b
  | false, r, r', h, h' => by
    have h : r ≤ 5 := h
    show r + r' ≤ 9
    omega
  | true, r, r', h, h' => by
    have h : r ≤ 100000000000000000000 := h
    show r + r' ≤ mostT
    unfold mostT
    omega
def costS : Nat → Nat
  | 0 => 3000
  | d + 1 => 6000 + 3 * costS d
theorem costS_le {d : Nat} (h : d ≤ 4) : costS d ≤ 1000000 := by
  have : d = 0 ∨ d = 1 ∨ d = 2 ∨ d = 3 ∨ d = 4 := by omega
  rcases this with rfl | rfl | rfl | rfl | rfl <;> decide
theorem costS_pos (d : Nat) : 3000 ≤ costS d := by
  cases d with
  | zero => exact Nat.le_refl _
  | succ d => unfold costS; omega
def sSpec (d : Nat) : SD := fun _ ds ω Φ => match ds with
  | [.mref l, .int e, .bl b] => onS (ω l) fun c => ∃ n, 0 ≤ e ∧ e.toNat < d ∧ SrcC c n ∧ n + costS e.toNat ≤ 1000000000000 ∧
    ∀ f p c', SrcC c' (n + costS e.toNat) → SpecD b e.toNat f p → Φ f (ω.put l c')
  | _ => False
section
variable {P : Program} {w : World} {K : PySem.W.Frag} {mg : Str → Option Value} {base : Heap}
theorem spec_parts {n e k m : Nat} {b : Bool} {l : Addr} {v3 v4 v5 v6 v7 v8 v9 v10 : Option D} {c : Cell} {ω : Om} {Φ : List D → Om → Prop} (he : e < n) (hs : SrcC c m) (hm : m + k * costS e ≤ 1000000000000) (fin : ∀ (fs : List D) (ps : List Prog) c', fs.length = k → ps.length = k → SrcC c' (m + k * costS e) → (∀ (i : Nat) (x : D) (q : Prog), fs[i]? = some x → ps[i]? = some q → SpecD b e x q) → Φ fs (ω.put l c')) :
    dLcL (Tg.nm 10) dYes (dCall (sSpec n) (dCons (dVar 0) (dCons (dOp (oI fun i j => D.int (i - j)) (dVar 1) (dC (D.int 1))) (dCons (dVar 2) dNil)))) [some (D.mref l), some (D.int ((e + 1 : Nat) : Int)), some (D.bl b), v3, v4, v5, v6, v7, v8, v9, v10] (rangeD 0 k) [] (ω.put l c) Φ := by
  have hee : (((e + 1 : Nat) : Int) - 1).toNat = e := by omega
  refine lcl_inv (fun i acc ω' => ∃ (ps : List Prog) (c' : Cell), i ≤ k ∧ acc.length = i ∧ ps.length = i ∧ ω' = ω.put l c' ∧ SrcC c' (m + i * costS e) ∧ ∀ (j : Nat) (x : D) (q : Prog), acc[j]? = some x → ps[j]? = some q → SpecD b e x q) (fun i d acc ω' hd hI N hN => ?_) (fun acc ω' hI => ?_) ⟨[], c, Nat.zero_le _, rfl, rfl, rfl, hs.mono (by omega), fun j x q hx => by simp at hx⟩
  · obtain ⟨ps, c', hi, l1, l2, rfl, hs, sub⟩ := hI
    obtain ⟨hi2, rfl⟩ := rangeD_at hd
    have hic : (i + 1) * costS e ≤ k * costS e := Nat.mul_le_mul_right _ (by omega)
    rw [Nat.add_mul, Nat.one_mul] at hic
    simp only [dSeq, dAsg, dAsgT, dPar, dRet, dDrop, dIfS, dNext, dBreak, dCont, dFor, dIL, dIT, dIR1, dIR2, dIE, dIZ, oAdd, oSub, oMul, oDiv, oMod, oPow, oLt, oLe, oGt, oGe, atI_0, atI_1, atI_2, atI_3, atI_m1, ixN_0, ixN_1, ixN_2, Om.put_same, dVar, getK, dC, dNil, dCons, dOp, oI, oIC, oMulS, oEq, oNe, eqS, oIsN, oNotN, isNon, dTest, dAnd, dOr, dNot, dAndV, dOrV, dNotV, dIf, dTup, dLst, dLstM, dCall, dCB, dChain, asL, asQ, oIx, oIxL, oIxT, oCat, oCatM, oCatT, oNil, oIn, dNoPart, dPart, dSl, slL, slT, slLM, cMax2, cMin2, cLen, cList, cListM, cInt, cTuple, dFld, fldP, dMeth, oOwn, put_nm, put_tp, puts_nil, puts_cons, onS, dNeg, dRev, dSetI, dBM, mAppend, mExtend, mClear, mReverse, dYes, startD, List.map_cons, List.map_nil, List.length_cons, List.length_nil, List.set_cons_zero, List.set_cons_succ, List.cons_append, List.nil_append, Nat.reduceAdd, Nat.reduceSub, List.replicate_succ, List.replicate_zero, List.length_singleton, wipeD, decide_eq_true_eq, decide_eq_false_iff_not, reduceCtorEq, true_implies, false_implies, and_true, true_and, if_true, if_false, Bool.false_eq_true, Bool.not_true, Bool.not_false, Bool.not_eq_true', Bool.not_eq_false', Om.put_put, dLc, dLcM, dFrz, frzK, List.getElem?_cons_succ, List.getElem?_cons_zero, dMkP, dForM, dNever, cIs_int, cIs_bool, cIs_str, cIs_list, cIs_tuple, cIsP, tyNm, is_int, is_bool, is_str, is_list, is_tuple, sSpec, hee]
    refine ⟨_, by omega, by omega, hs, by omega, fun f p c3 s3 hf => hN _ _ ⟨ps ++ [p], c3, hi2, by simp [l1], by simp [l2], rfl, by rw [Nat.add_mul, Nat.one_mul, ← Nat.add_assoc]; exact s3, fun j x q hx hq => ?_⟩⟩
    by_cases hj : j < i
    · rw [List.getElem?_append_left (by omega)] at hx hq
      exact sub j x q hx hq
    · rw [List.getElem?_append_right (by omega)] at hx hq
      have e1 : j - acc.length = 0 := by
        have := (List.getElem?_eq_some_iff.mp hx).1
        simp at this
        omega
      rw [e1] at hx
      rw [show j - ps.length = 0 by omega] at hq
      simp at hx hq
      subst hx hq
      exact hf
  · obtain ⟨ps, c', hi, l1, l2, rfl, hs, sub⟩ := hI
    rw [rangeD_length] at l1 l2 hs
    exact fin acc ps c' l1 l2 hs sub
abbrev N_law_spec : List Str := ["_law_source", "_law_depth", "_law_is_far", "_law_kind", "_law_some", "_law_great", "_law_amount", "_law_some_names", "_law_number", "_law_name", "_law_part"]
theorem sc_law_spec : FnScope N_law_spec ["_law_source", "_law_depth", "_law_is_far"] (defScope s_law_spec) := ⟨rfl, rfl, rfl, by decide +kernel, rfl, by decide +kernel, by decide +kernel⟩

theorem fd_law_spec {n k : Nat} (hk : 3 ≤ k) (T : Txt K mg) (G_law_spec : FnD P w K mg base k (He.ga K "_law_spec") (sSpec n)) : FnD P w K mg base (k + 1) (He.ga K "_law_spec") (sSpec (n + 1)) := by
  have G_law_draw : FnD P w K mg base 1 (He.ga K "_law_draw") sDraw := fd_law_draw T
  have G_law_choice : FnD P w K mg base 2 (He.ga K "_law_choice") sChoice := fd_law_choice T
  have G_law_times : FnD P w K mg base 3 (He.ga K "_law_times") sTimes := fd_law_times T
  refine fnd_mk T.f_law_spec sc_law_spec (fun _ _ _ _ _ _ us hl => match us, hl with | [_, _, _], _ => rfl) (fun ξ ds ω Φ h => ?_) (fun cdv A outer s H E hr => (dss_cons (ds_set (i := 3) sc_law_spec.nd rfl (Or.inl rfl) (de_if (dt_cmp op_gt ok_gt (dv 1) de_int (nomark _)) (de_call G_law_draw (hr.mono (by omega)) rfl T.g_law_draw (kp_of T.f_law_draw) passL (da_cons (dv 0) (da_cons de_int da_nil))) de_int))
    (dss_cons (ds_if (dt_cmp op_lt ok_lt (dv 3) de_int (nomark _)) (dss_cons (ds_if (dt_cmp op_eq ok_eq (de_call G_law_draw (hr.mono (by omega)) rfl T.g_law_draw (kp_of T.f_law_draw) passL (da_cons (dv 0) (da_cons de_int da_nil))) de_int (nomark _)) (dss_one (ds_ret (de_tup (da_cons de_str (da_cons (de_tup da_nil) (da_cons de_int (da_cons (de_tup (da_cons (de_call G_law_choice (hr.mono (by omega)) rfl T.g_law_choice (kp_of T.f_law_choice) passL (da_cons (dv 0) (da_cons (de_lst (da_cons de_str (da_cons de_str (da_cons de_str da_nil)))) da_nil))) da_nil)) da_nil))))))) dss_nil)
    (dss_one (ds_ret (de_tup (da_cons de_str (da_cons (de_tup da_nil) (da_cons (de_call G_law_times (hr.mono (by omega)) rfl T.g_law_times (kp_of T.f_law_times) passL (da_cons (dv 0) (da_cons (dv 2) da_nil))) (da_cons (de_tup da_nil) da_nil)))))))) dss_nil)
    (dss_cons (ds_setLc (i := 4) (own := [("_law_part", 10)]) (by rfl) sc_law_spec.nd rfl rfl (sw_true rfl rfl rfl (by decide +kernel)) (di_range1 (by rfl) T.b_range (da_cons (de_op op_add ok_add de_int (de_callTy call_int1r ok_int (by rfl) T.b_int (by decide +kernel) (da_cons (de_and (de_cmp op_lt ok_lt (dv 3) de_int (nomark _)) (de_one (de_cmp op_eq ok_eq (de_call G_law_draw (hr.mono (by omega)) rfl T.g_law_draw (kp_of T.f_law_draw) passL (da_cons (dv 0) (da_cons de_int da_nil))) de_int (nomark _)))) da_nil))) da_nil)) (blkOk_by (own := [("_law_part", 10)]) (N := N_law_spec) (sc := defScope s_law_spec) (by decide +kernel)) (fun _ _ _ _ _ => (dg_name (i := 10) sc_law_spec.nd rfl (Or.inl rfl))) (fun _ _ _ _ _ => dts_nil) (fun _ _ _ _ _ => (de_call G_law_spec (hr.mono (by omega)) rfl T.g_law_spec (kp_of T.f_law_spec) passL (da_cons (dv 0) (da_cons (de_op op_sub ok_sub (dv 1) de_int) (da_cons (dv 2) da_nil))))))
    (dss_cons (ds_if (dt_cmp op_lt ok_lt (dv 3) de_int (nomark _)) (dss_one (ds_ret (de_tup (da_cons de_str (da_cons (de_callTy call_tuple_of ok_tuple (by rfl) T.b_tuple (by decide +kernel) (da_cons (dv 4) da_nil)) (da_cons de_int (da_cons (de_tup da_nil) da_nil))))))) dss_nil)
    (dss_cons (ds_if (dt_cmp op_lt ok_lt (dv 3) de_int (nomark _)) (dss_one (ds_ret (de_tup (da_cons de_str (da_cons (de_callTy call_tuple_of ok_tuple (by rfl) T.b_tuple (by decide +kernel) (da_cons (dv 4) da_nil)) (da_cons de_int (da_cons (de_tup da_nil) da_nil))))))) dss_nil)
    (dss_cons (ds_if (dt_cmp op_lt ok_lt (dv 3) de_int (nomark _)) (dss_cons (ds_set (i := 5) sc_law_spec.nd rfl (Or.inl rfl) (de_and (dv 2) (de_one (de_cmp op_eq ok_eq (de_call G_law_draw (hr.mono (by omega)) rfl T.g_law_draw (kp_of T.f_law_draw) passL (da_cons (dv 0) (da_cons de_int da_nil))) de_int (nomark _)))))
    (dss_cons (ds_set (i := 6) sc_law_spec.nd rfl (Or.inl rfl) (de_if (dt_val (dv 5)) (de_op op_add ok_add (de_op op_pow ok_pow de_int de_int) (de_call G_law_draw (hr.mono (by omega)) rfl T.g_law_draw (kp_of T.f_law_draw) passL (da_cons (dv 0) (da_cons (de_op op_pow ok_pow de_int de_int) da_nil)))) (de_call G_law_draw (hr.mono (by omega)) rfl T.g_law_draw (kp_of T.f_law_draw) passL (da_cons (dv 0) (da_cons de_int da_nil)))))
    (dss_one (ds_ret (de_tup (da_cons de_str (da_cons (de_callTy call_tuple_of ok_tuple (by rfl) T.b_tuple (by decide +kernel) (da_cons (de_sl sl_list ok_slL (dv 4) do_none (do_some de_int)) da_nil)) (da_cons (dv 6) (da_cons (de_tup da_nil) da_nil))))))))) dss_nil)
    (dss_cons (ds_if (dt_cmp op_eq ok_eq (dv 3) de_int (nomark _)) (dss_one (ds_ret (de_tup (da_cons de_str (da_cons (de_callTy call_tuple_of ok_tuple (by rfl) T.b_tuple (by decide +kernel) (da_cons (de_sl sl_list ok_slL (dv 4) do_none (do_some de_int)) da_nil)) (da_cons de_int (da_cons (de_tup da_nil) da_nil))))))) dss_nil)
    (dss_cons (ds_if (dt_cmp op_eq ok_eq (dv 3) de_int (nomark _)) (dss_one (ds_ret (de_tup (da_cons de_str (da_cons (de_callTy call_tuple_of ok_tuple (by rfl) T.b_tuple (by decide +kernel) (da_cons (dv 4) da_nil)) (da_cons de_int (da_cons (de_tup da_nil) da_nil))))))) dss_nil)
    (dss_cons (ds_if (dt_cmp op_eq ok_eq (dv 3) de_int (nomark _)) (dss_cons (ds_set (i := 7) sc_law_spec.nd rfl (Or.inl rfl) (de_lst (da_cons (de_lst (da_cons de_str da_nil)) (da_cons (de_lst (da_cons de_str (da_cons de_str da_nil))) (da_cons (de_lst (da_cons de_str (da_cons de_str da_nil))) (da_cons (de_lst (da_cons de_str da_nil)) (da_cons (de_lst (da_cons de_str (da_cons de_str da_nil))) da_nil)))))))
    (dss_one (ds_ret (de_tup (da_cons de_str (da_cons (de_callTy call_tuple_of ok_tuple (by rfl) T.b_tuple (by decide +kernel) (da_cons (dv 4) da_nil)) (da_cons de_int (da_cons (de_callTy call_tuple_of ok_tuple (by rfl) T.b_tuple (by decide +kernel) (da_cons (de_call G_law_choice (hr.mono (by omega)) rfl T.g_law_choice (kp_of T.f_law_choice) passL (da_cons (dv 0) (da_cons (dv 7) da_nil))) da_nil)) da_nil)))))))) dss_nil)
    (dss_cons (ds_set (i := 8) sc_law_spec.nd rfl (Or.inl rfl) (de_op op_add ok_add (de_call G_law_times (hr.mono (by omega)) rfl T.g_law_times (kp_of T.f_law_times) passL (da_cons (dv 0) (da_cons (dv 2) da_nil))) (de_call G_law_draw (hr.mono (by omega)) rfl T.g_law_draw (kp_of T.f_law_draw) passL (da_cons (dv 0) (da_cons de_int da_nil)))))
    (dss_cons (ds_set (i := 9) sc_law_spec.nd rfl (Or.inl rfl) (de_call G_law_choice (hr.mono (by omega)) rfl T.g_law_choice (kp_of T.f_law_choice) passL (da_cons (dv 0) (da_cons (de_lst (da_cons de_str (da_cons de_str (da_cons de_str (da_cons de_str da_nil))))) da_nil))))
    (dss_one (ds_ret (de_tup (da_cons (de_ix ix_list ok_ixL (de_lst (da_cons de_str (da_cons de_str da_nil))) (de_op op_sub ok_sub (dv 3) de_int) (fun _ _ => rfl)) (da_cons (de_callTy call_tuple_of ok_tuple (by rfl) T.b_tuple (by decide +kernel) (da_cons (de_sl sl_list ok_slL (dv 4) do_none (do_some de_int)) da_nil)) (da_cons (dv 8) (da_cons (de_op op_rep01 ok_rep01 (de_tup (da_cons (dv 9) da_nil)) (de_op op_sub ok_sub de_int (dv 3))) da_nil))))))))))))))))))) (fun ξ ds ω Φ h => ?_)
  · match ds, h with
    | [.mref l, .int e, .bl b], h => rfl
  match ds, h with
  | [.mref l, .int e, .bl b], h =>
    obtain ⟨c, hl, m, e0, he, hs, hm, q⟩ := onS_ok h
    obtain ⟨e, rfl⟩ : ∃ e' : Nat, e = (e' : Int) := ⟨e.toNat, by omega⟩
    rw [Int.toNat_natCast] at he hm q
    have hcost := costS_pos e
    have hcT := capT_le b
    have hc9 := cap9_le b
    have hcK : ∀ r : Int, b = true → r ≤ mostT → r ≤ capK b := fun r hb h => by rw [hb]; exact h
    have hc3 := cap3_le b
    have hcG : ∀ r : Int, b = true → r ≤ mostT → r ≤ capN b := fun r hb h => by rw [hb]; exact h
    have hcL := capL_le b
    simp only [dSeq, dAsg, dAsgT, dPar, dRet, dDrop, dIfS, dNext, dBreak, dCont, dFor, dIL, dIT, dIR1, dIR2, dIE, dIZ, oAdd, oSub, oMul, oDiv, oMod, oPow, oLt, oLe, oGt, oGe, atI_0, atI_1, atI_2, atI_3, atI_m1, ixN_0, ixN_1, ixN_2, Om.put_same, dVar, getK, dC, dNil, dCons, dOp, oI, oIC, oMulS, oEq, oNe, eqS, oIsN, oNotN, isNon, dTest, dAnd, dOr, dNot, dAndV, dOrV, dNotV, dIf, dTup, dLst, dLstM, dCall, dCB, dChain, asL, asQ, oIx, oIxL, oIxT, oCat, oCatM, oCatT, oNil, oIn, dNoPart, dPart, dSl, slL, slT, slLM, cMax2, cMin2, cLen, cList, cListM, cInt, cTuple, dFld, fldP, dMeth, oOwn, put_nm, put_tp, puts_nil, puts_cons, onS, dNeg, dRev, dSetI, dBM, mAppend, mExtend, mClear, mReverse, dYes, startD, List.map_cons, List.map_nil, List.length_cons, List.length_nil, List.set_cons_zero, List.set_cons_succ, List.cons_append, List.nil_append, Nat.reduceAdd, Nat.reduceSub, List.replicate_succ, List.replicate_zero, List.length_singleton, wipeD, decide_eq_true_eq, decide_eq_false_iff_not, reduceCtorEq, true_implies, false_implies, and_true, true_and, if_true, if_false, Bool.false_eq_true, Bool.not_true, Bool.not_false, Bool.not_eq_true', Bool.not_eq_false', Om.put_put, dLc, dLcM, dFrz, frzK, List.getElem?_cons_succ, List.getElem?_cons_zero, dMkP, dForM, dNever, cIs_int, cIs_bool, cIs_str, cIs_list, cIs_tuple, cIsP, tyNm, is_int, is_bool, is_str, is_list, is_tuple, N_law_spec, sDraw, hl]
    refine ⟨fun hpos => ⟨m, hs, by omega, by decide, by decide +kernel, fun r c1 r0 r1 s1 => ⟨fun hr => ?_, fun hr => ?_⟩⟩, fun hz => ?_⟩
    · refine ⟨_, s1, by omega, by decide, by decide +kernel, fun r0 c2 r00 r01 s2 => ⟨fun _ => ⟨by decide, by decide, ?_⟩, fun _ => ⟨by decide, ?_⟩⟩⟩
      · simp only [dSeq, dAsg, dAsgT, dPar, dRet, dDrop, dIfS, dNext, dBreak, dCont, dFor, dIL, dIT, dIR1, dIR2, dIE, dIZ, oAdd, oSub, oMul, oDiv, oMod, oPow, oLt, oLe, oGt, oGe, atI_0, atI_1, atI_2, atI_3, atI_m1, ixN_0, ixN_1, ixN_2, Om.put_same, dVar, getK, dC, dNil, dCons, dOp, oI, oIC, oMulS, oEq, oNe, eqS, oIsN, oNotN, isNon, dTest, dAnd, dOr, dNot, dAndV, dOrV, dNotV, dIf, dTup, dLst, dLstM, dCall, dCB, dChain, asL, asQ, oIx, oIxL, oIxT, oCat, oCatM, oCatT, oNil, oIn, dNoPart, dPart, dSl, slL, slT, slLM, cMax2, cMin2, cLen, cList, cListM, cInt, cTuple, dFld, fldP, dMeth, oOwn, put_nm, put_tp, puts_nil, puts_cons, onS, dNeg, dRev, dSetI, dBM, mAppend, mExtend, mClear, mReverse, dYes, startD, List.map_cons, List.map_nil, List.length_cons, List.length_nil, List.set_cons_zero, List.set_cons_succ, List.cons_append, List.nil_append, Nat.reduceAdd, Nat.reduceSub, List.replicate_succ, List.replicate_zero, List.length_singleton, wipeD, decide_eq_true_eq, decide_eq_false_iff_not, reduceCtorEq, true_implies, false_implies, and_true, true_and, if_true, if_false, Bool.false_eq_true, Bool.not_true, Bool.not_false, Bool.not_eq_true', Bool.not_eq_false', Om.put_put, dLc, dLcM, dFrz, frzK, List.getElem?_cons_succ, List.getElem?_cons_zero, dMkP, dForM, dNever, cIs_int, cIs_bool, cIs_str, cIs_list, cIs_tuple, cIsP, tyNm, is_int, is_bool, is_str, is_list, is_tuple, N_law_spec, sChoice]
        refine ⟨_, s2, by omega, by decide, by decide, fun x c3 hx s3 => ⟨by decide, by decide, ?_⟩⟩
        simp only [List.mem_cons, List.not_mem_nil, or_false] at hx
        rcases hx with rfl | rfl | rfl <;> exact q _ _ c3 (s3.mono (by omega)) (.fail (name_by _ (by decide +kernel)))
      · simp only [dSeq, dAsg, dAsgT, dPar, dRet, dDrop, dIfS, dNext, dBreak, dCont, dFor, dIL, dIT, dIR1, dIR2, dIE, dIZ, oAdd, oSub, oMul, oDiv, oMod, oPow, oLt, oLe, oGt, oGe, atI_0, atI_1, atI_2, atI_3, atI_m1, ixN_0, ixN_1, ixN_2, Om.put_same, dVar, getK, dC, dNil, dCons, dOp, oI, oIC, oMulS, oEq, oNe, eqS, oIsN, oNotN, isNon, dTest, dAnd, dOr, dNot, dAndV, dOrV, dNotV, dIf, dTup, dLst, dLstM, dCall, dCB, dChain, asL, asQ, oIx, oIxL, oIxT, oCat, oCatM, oCatT, oNil, oIn, dNoPart, dPart, dSl, slL, slT, slLM, cMax2, cMin2, cLen, cList, cListM, cInt, cTuple, dFld, fldP, dMeth, oOwn, put_nm, put_tp, puts_nil, puts_cons, onS, dNeg, dRev, dSetI, dBM, mAppend, mExtend, mClear, mReverse, dYes, startD, List.map_cons, List.map_nil, List.length_cons, List.length_nil, List.set_cons_zero, List.set_cons_succ, List.cons_append, List.nil_append, Nat.reduceAdd, Nat.reduceSub, List.replicate_succ, List.replicate_zero, List.length_singleton, wipeD, decide_eq_true_eq, decide_eq_false_iff_not, reduceCtorEq, true_implies, false_implies, and_true, true_and, if_true, if_false, Bool.false_eq_true, Bool.not_true, Bool.not_false, Bool.not_eq_true', Bool.not_eq_false', Om.put_put, dLc, dLcM, dFrz, frzK, List.getElem?_cons_succ, List.getElem?_cons_zero, dMkP, dForM, dNever, cIs_int, cIs_bool, cIs_str, cIs_list, cIs_tuple, cIsP, tyNm, is_int, is_bool, is_str, is_list, is_tuple, N_law_spec, sTimes]
        exact ⟨_, s2, by omega, fun r c3 r0 r1 s3 => ⟨by decide, by decide, q _ _ c3 (s3.mono (by omega)) (.sleep r0 (hcT _ r1))⟩⟩
    · obtain ⟨e, rfl⟩ : ∃ e' : Nat, e = e' + 1 := ⟨e - 1, by omega⟩
      have hc : costS (e + 1) = 6000 + 3 * costS e := rfl
      refine ⟨fun h6 => ⟨_, s1, by omega, by decide, by decide +kernel, fun r2 c2 r20 r21 s2 => ?_⟩, fun h6 => ?_⟩
      · obtain ⟨k2, hk2, k20, k21⟩ : ∃ k2 : Nat, (2 + if r2 = 0 then 1 else 0 : Int) = (k2 : Int) ∧ 2 ≤ k2 ∧ k2 ≤ 3 := by
          split
          · exact ⟨3, rfl, by decide, by decide⟩
          · exact ⟨2, rfl, by decide, by decide⟩
        rw [hk2, Int.toNat_natCast]
        have hkc : k2 * costS e ≤ 3 * costS e := Nat.mul_le_mul_right _ (by omega)
        refine ⟨by omega, by omega, by rw [rangeD_length]; omega, spec_parts (by omega) s2 (by omega) fun fs ps c3 l1 l2 s3 sub => ?_⟩
        exact ⟨fun h4 => ⟨by decide, by decide, q _ _ c3 (s3.mono (by omega)) (.seq (by omega) (by omega) (by omega) sub)⟩, fun h4 => ⟨fun h6 => ⟨by decide, by decide, q _ _ c3 (s3.mono (by omega)) (.group (by omega) (by omega) (by omega) sub)⟩, fun h => absurd h6 h⟩⟩
      · rw [show ((2 : Int) + 0).toNat = 2 from rfl]
        refine ⟨by decide, by decide, by rw [rangeD_length]; decide, spec_parts (by omega) s1 (by omega) fun fs ps c3 l1 l2 s3 sub => ?_⟩
        match fs, ps, l1, l2, sub with
        | [x, y], [p, p'], _, _, sub =>
        have sx := sub 0 x p rfl rfl
        have sy := sub 1 y p' rfl rfl
        have hcut : cutD [x, y] none (some 1) = [x] := rfl
        refine ⟨fun h => absurd h (by omega), fun _ => ⟨fun h => absurd h (by omega), fun _ => ?_⟩⟩
        have hr7 : r = 6 ∨ r = 7 ∨ r = 8 ∨ r = 9 ∨ r = 10 ∨ r = 11 ∨ r = 12 := by omega
        have h18 : (10 : Int) ^ (18 : Int).toNat = 1000000000000000000 := by decide
        have h3 : (10 : Int) ^ (3 : Int).toNat = 1000 := by decide
        have hcp := costS_pos e
        rcases hr7 with rfl | rfl | rfl | rfl | rfl | rfl | rfl
        all_goals simp (decide := true) only [dSeq, dAsg, dAsgT, dPar, dRet, dDrop, dIfS, dNext, dBreak, dCont, dFor, dIL, dIT, dIR1, dIR2, dIE, dIZ, oAdd, oSub, oMul, oDiv, oMod, oPow, oLt, oLe, oGt, oGe, atI_0, atI_1, atI_2, atI_3, atI_m1, ixN_0, ixN_1, ixN_2, Om.put_same, dVar, getK, dC, dNil, dCons, dOp, oI, oIC, oMulS, oEq, oNe, eqS, oIsN, oNotN, isNon, dTest, dAnd, dOr, dNot, dAndV, dOrV, dNotV, dIf, dTup, dLst, dLstM, dCall, dCB, dChain, asL, asQ, oIx, oIxL, oIxT, oCat, oCatM, oCatT, oNil, oIn, dNoPart, dPart, dSl, slL, slT, slLM, cMax2, cMin2, cLen, cList, cListM, cInt, cTuple, dFld, fldP, dMeth, oOwn, put_nm, put_tp, puts_nil, puts_cons, onS, dNeg, dRev, dSetI, dBM, mAppend, mExtend, mClear, mReverse, dYes, startD, List.map_cons, List.map_nil, List.length_cons, List.length_nil, List.set_cons_zero, List.set_cons_succ, List.cons_append, List.nil_append, Nat.reduceAdd, Nat.reduceSub, List.replicate_succ, List.replicate_zero, List.length_singleton, wipeD, decide_eq_true_eq, decide_eq_false_iff_not, reduceCtorEq, true_implies, false_implies, and_true, true_and, if_true, if_false, Bool.false_eq_true, Bool.not_true, Bool.not_false, Bool.not_eq_true', Bool.not_eq_false', Om.put_put, dLc, dLcM, dFrz, frzK, List.getElem?_cons_succ, List.getElem?_cons_zero, dMkP, dForM, dNever, cIs_int, cIs_bool, cIs_str, cIs_list, cIs_tuple, cIsP, tyNm, is_int, is_bool, is_str, is_list, is_tuple, N_law_spec, hcut, sDraw, sChoice, sTimes, h18, h3]
        · exact ⟨fun hb => ⟨_, s3, by omega, fun r c4 r0 r1 s4 => ⟨fun _ => ⟨⟨by decide, by decide, by decide⟩, ⟨by decide, by decide, by decide⟩, _, s4, by omega, fun r c5 r0 r1 s5 => q _ _ c5 (s5.mono (by omega)) (.loop sx (by omega) (hcK _ hb (by unfold mostT; omega)))⟩, fun _ => ⟨_, s4, by omega, fun r c5 r0 r1 s5 => q _ _ c5 (s5.mono (by omega)) (.loop sx (by omega) (hc3 _ (by omega)))⟩⟩⟩, fun _ => ⟨_, s3, by omega, fun r c4 r0 r1 s4 => q _ _ c4 (s4.mono (by omega)) (.loop sx (by omega) (hc3 _ (by omega)))⟩⟩
        · exact ⟨fun hb => ⟨_, s3, by omega, fun r c4 r0 r1 s4 => ⟨fun _ => ⟨⟨by decide, by decide, by decide⟩, ⟨by decide, by decide, by decide⟩, _, s4, by omega, fun r c5 r0 r1 s5 => q _ _ c5 (s5.mono (by omega)) (.loop sx (by omega) (hcK _ hb (by unfold mostT; omega)))⟩, fun _ => ⟨_, s4, by omega, fun r c5 r0 r1 s5 => q _ _ c5 (s5.mono (by omega)) (.loop sx (by omega) (hc3 _ (by omega)))⟩⟩⟩, fun _ => ⟨_, s3, by omega, fun r c4 r0 r1 s4 => q _ _ c4 (s4.mono (by omega)) (.loop sx (by omega) (hc3 _ (by omega)))⟩⟩
        · exact q _ _ c3 (s3.mono (by omega)) (.shield sx)
        · exact q _ _ c3 (s3.mono (by omega)) (.cleanup sx sy)
        · refine ⟨_, s3, by omega, fun z c4 hz s4 => ?_⟩
          have fin : ∀ ws : List Str, 1 ≤ ws.length → ws.length ≤ 20 → (∀ z ∈ ws, IsName z) → ws.Nodup → Φ (.tup [.str "fallback", .tup [x, y], .int 0, .tup (ws.map D.str)]) (ω.put l c4) := fun ws n1 n2 n3 n4 => q _ _ c4 (s4.mono (by omega)) (.fallback n1 n2 n3 n4 sx sy)
          have nm : ∀ ws : List Str, (ws.all fun z => (decide (1 ≤ z.length) && decide (z.length ≤ 12)) && z.cps.toList.all fun c => decide (97 ≤ c) && decide (c ≤ 122)) = true → ∀ z ∈ ws, IsName z := fun ws h z hz => name_by z (List.all_eq_true.mp h z hz)
          simp only [List.mem_cons, List.not_mem_nil, or_false] at hz
          rcases hz with rfl | rfl | rfl | rfl | rfl
          · exact fin ["a"] (by decide) (by decide) (nm _ (by decide +kernel)) (by decide)
          · exact fin ["net", "late"] (by decide) (by decide) (nm _ (by decide +kernel)) (by decide)
          · exact fin ["z", "a"] (by decide) (by decide) (nm _ (by decide +kernel)) (by decide)
          · exact fin ["late"] (by decide) (by decide) (nm _ (by decide +kernel)) (by decide)
          · exact fin ["b", "la"] (by decide) (by decide) (nm _ (by decide +kernel)) (by decide)
        · refine ⟨_, s3, by omega, fun r c4 r0 r1 s4 => ⟨_, s4, by omega, fun r' c5 r0' r1' s5 => ⟨_, s5, by omega, fun z c6 hz s6 => ?_⟩⟩⟩
          simp only [List.mem_cons, List.not_mem_nil, or_false] at hz
          rw [show (11 : Int) - 11 = 0 from rfl, show (12 : Int) - 11 = 1 from rfl, atI_0]
          rcases hz with rfl | rfl | rfl | rfl <;> exact ⟨by simp, .inr rfl, q _ _ c6 (s6.mono (by omega)) (.timeout (name_by _ (by decide +kernel)) sx (by omega) (hcL _ _ r1 r1'))⟩
        · refine ⟨_, s3, by omega, fun r c4 r0 r1 s4 => ⟨_, s4, by omega, fun r' c5 r0' r1' s5 => ⟨_, s5, by omega, fun z c6 hz s6 => ?_⟩⟩⟩
          rw [show (12 : Int) - 11 = 1 from rfl, show (12 : Int) - 12 = 0 from rfl, atI_1]
          exact ⟨by simp, .inl rfl, q _ _ c6 (s6.mono (by omega)) (.moveon sx (by omega) (hcL _ _ r1 r1'))⟩
    · refine ⟨fun _ => ⟨m, hs, by omega, by decide, by decide +kernel, fun r0 c2 r00 r01 s2 => ⟨fun _ => ⟨by decide, by decide, ?_⟩, fun _ => ⟨by decide, ?_⟩⟩⟩, fun z => absurd (by decide) z⟩
      · simp only [dSeq, dAsg, dAsgT, dPar, dRet, dDrop, dIfS, dNext, dBreak, dCont, dFor, dIL, dIT, dIR1, dIR2, dIE, dIZ, oAdd, oSub, oMul, oDiv, oMod, oPow, oLt, oLe, oGt, oGe, atI_0, atI_1, atI_2, atI_3, atI_m1, ixN_0, ixN_1, ixN_2, Om.put_same, dVar, getK, dC, dNil, dCons, dOp, oI, oIC, oMulS, oEq, oNe, eqS, oIsN, oNotN, isNon, dTest, dAnd, dOr, dNot, dAndV, dOrV, dNotV, dIf, dTup, dLst, dLstM, dCall, dCB, dChain, asL, asQ, oIx, oIxL, oIxT, oCat, oCatM, oCatT, oNil, oIn, dNoPart, dPart, dSl, slL, slT, slLM, cMax2, cMin2, cLen, cList, cListM, cInt, cTuple, dFld, fldP, dMeth, oOwn, put_nm, put_tp, puts_nil, puts_cons, onS, dNeg, dRev, dSetI, dBM, mAppend, mExtend, mClear, mReverse, dYes, startD, List.map_cons, List.map_nil, List.length_cons, List.length_nil, List.set_cons_zero, List.set_cons_succ, List.cons_append, List.nil_append, Nat.reduceAdd, Nat.reduceSub, List.replicate_succ, List.replicate_zero, List.length_singleton, wipeD, decide_eq_true_eq, decide_eq_false_iff_not, reduceCtorEq, true_implies, false_implies, and_true, true_and, if_true, if_false, Bool.false_eq_true, Bool.not_true, Bool.not_false, Bool.not_eq_true', Bool.not_eq_false', Om.put_put, dLc, dLcM, dFrz, frzK, List.getElem?_cons_succ, List.getElem?_cons_zero, dMkP, dForM, dNever, cIs_int, cIs_bool, cIs_str, cIs_list, cIs_tuple, cIsP, tyNm, is_int, is_bool, is_str, is_list, is_tuple, N_law_spec, sChoice]
        refine ⟨_, s2, by omega, by decide, by decide, fun x c3 hx s3 => ⟨by decide, by decide, ?_⟩⟩
        simp only [List.mem_cons, List.not_mem_nil, or_false] at hx
        rcases hx with rfl | rfl | rfl <;> exact q _ _ c3 (s3.mono (by omega)) (.fail (name_by _ (by decide +kernel)))
      · simp only [dSeq, dAsg, dAsgT, dPar, dRet, dDrop, dIfS, dNext, dBreak, dCont, dFor, dIL, dIT, dIR1, dIR2, dIE, dIZ, oAdd, oSub, oMul, oDiv, oMod, oPow, oLt, oLe, oGt, oGe, atI_0, atI_1, atI_2, atI_3, atI_m1, ixN_0, ixN_1, ixN_2, Om.put_same, dVar, getK, dC, dNil, dCons, dOp, oI, oIC, oMulS, oEq, oNe, eqS, oIsN, oNotN, isNon, dTest, dAnd, dOr, dNot, dAndV, dOrV, dNotV, dIf, dTup, dLst, dLstM, dCall, dCB, dChain, asL, asQ, oIx, oIxL, oIxT, oCat, oCatM, oCatT, oNil, oIn, dNoPart, dPart, dSl, slL, slT, slLM, cMax2, cMin2, cLen, cList, cListM, cInt, cTuple, dFld, fldP, dMeth, oOwn, put_nm, put_tp, puts_nil, puts_cons, onS, dNeg, dRev, dSetI, dBM, mAppend, mExtend, mClear, mReverse, dYes, startD, List.map_cons, List.map_nil, List.length_cons, List.length_nil, List.set_cons_zero, List.set_cons_succ, List.cons_append, List.nil_append, Nat.reduceAdd, Nat.reduceSub, List.replicate_succ, List.replicate_zero, List.length_singleton, wipeD, decide_eq_true_eq, decide_eq_false_iff_not, reduceCtorEq, true_implies, false_implies, and_true, true_and, if_true, if_false, Bool.false_eq_true, Bool.not_true, Bool.not_false, Bool.not_eq_true', Bool.not_eq_false', Om.put_put, dLc, dLcM, dFrz, frzK, List.getElem?_cons_succ, List.getElem?_cons_zero, dMkP, dForM, dNever, cIs_int, cIs_bool, cIs_str, cIs_list, cIs_tuple, cIsP, tyNm, is_int, is_bool, is_str, is_list, is_tuple, N_law_spec, sTimes]
        exact ⟨_, s2, by omega, fun r c3 r0 r1 s3 => ⟨by decide, by decide, q _ _ c3 (s3.mono (by omega)) (.sleep r0 (hcT _ r1))⟩⟩
theorem spec_all (T : Txt K mg) : ∀ n : Nat, FnD P w K mg base (3 + n) (He.ga K "_law_spec") (sSpec n)
  | 0 => fun A outer s H us vs Q E hr e0 r h => by
    obtain ⟨F, G, ω, ds, Φ, ξ, _, _, h, _⟩ := h
    match ds, h with
    | [.mref l, .int e, .bl b], h =>
      obtain ⟨c, _, m, _, he, _⟩ := onS_ok h
      exact absurd he (Nat.not_lt_zero _)
  | n + 1 => fd_law_spec (Nat.le_add_right 3 n) T (spec_all T n)
end
end Cu

/-! == MathL -/
set_option maxHeartbeats 4000000
namespace Cu
open PySem PySem.Spec PyProof.Rows L2 Evl CuT
/-! ### the greatest cut with an end by a time -/
/-- c is the greatest cut below the length after which p has ended by t -/
def IsLast (p : Prog) (t c : Int) : Prop := 0 ≤ c ∧ c < p.span ∧ endA p c ≤ t ∧ t < endA p (c + 1)
theorem last_sleep {p : Prog} {t : Int} (hk : p.kind = .sleep) (h0 : 0 ≤ t) (h1 : t < p.span) : IsLast p t t := by
  have e : endA p t = t := by
    by_cases h : t = 0
    · rw [h, endA_zero (by omega)]
    · exact endA_sleep hk (by omega) h1
  refine ⟨h0, h1, by omega, ?_⟩
  by_cases h : t + 1 < p.span
  · rw [endA_sleep hk (by omega) h]
    omega
  · rw [endA_late (by omega)]
    exact h1
theorem last_shield {p : Prog} {t : Int} (hk : p.kind = .shield) (h0 : 0 ≤ t) (h1 : t < p.span) : IsLast p t 0 := by
  refine ⟨Int.le_refl 0, by omega, by rw [endA_zero (by omega)]; exact h0, ?_⟩
  by_cases h : 0 + 1 < p.span
  · rw [endA_shield hk (by omega) h]
    exact h1
  · rw [endA_late (by omega)]
    exact h1
/-- shapes -/
theorem wf_loop {p : Prog} (h : WF p) (hk : p.kind = .loop) : ∃ q, p.parts = [q] ∧ WF q ∧ q.depth + 1 ≤ p.depth ∧ 0 ≤ p.number ∧ p.number ≤ mostT ∧ p.span = (if p.number = 0 then 0 else q.span * (if q.broken = none then p.number else 1)) := by
  cases h with
  | @mk k ps n ws nd d s b sub sh hn hd hm ln ld =>
    cases (show k = .loop from hk)
    obtain ⟨⟨q, rfl⟩, h0, h1, _⟩ := sh
    refine ⟨q, rfl, sub q List.mem_cons_self, ?_, h0, h1, ?_⟩
    · show q.depth + 1 ≤ d
      rw [hd]
      unfold depthOf
      have := le_maxL (l := 0 :: [q].map Prog.depth) (x := q.depth) (by simp)
      omega
    · show s = _
      rw [(meas_of hm).1]
      show (if n = 0 then ((0 : Int), (none : Option Str)) else (spanAt [q] 0 * (if brokenAt [q] 0 = none then n else 1), brokenAt [q] 0)).1 = (if n = 0 then 0 else q.span * (if q.broken = none then n else 1))
      split <;> rfl
theorem last_loop {p q : Prog} {t c : Int} (h : WF p) (hk : p.kind = .loop) (hp : p.parts = [q]) (h0 : 0 ≤ t) (h1 : t < p.span) : 0 < q.span ∧ 0 ≤ t - t / q.span * q.span ∧ t - t / q.span * q.span < q.span ∧ (IsLast q (t - t / q.span * q.span) c → IsLast p t (t / q.span * q.span + c)) := by
  obtain ⟨q', hp', wq, _, n0, n1, hs⟩ := wf_loop h hk
  rw [hp] at hp'
  cases hp'
  have g := wf_good wq
  have hn : p.number ≠ 0 := fun z => by
    rw [if_pos z] at hs
    omega
  rw [if_neg hn] at hs
  have hq : 0 < q.span := by
    have := g.sp
    by_cases z : q.span = 0
    · rw [z, Int.zero_mul] at hs
      omega
    · omega
  have m0 := Int.emod_nonneg t (show q.span ≠ 0 by omega)
  have m1 := Int.emod_lt_of_pos t hq
  have em := Int.emod_add_mul_ediv t q.span
  have ec : q.span * (t / q.span) = t / q.span * q.span := Int.mul_comm _ _
  refine ⟨hq, by omega, by omega, fun ⟨c0, c1, c2, c3⟩ => ?_⟩
  generalize hR : t / q.span = R at *
  have hR0 : 0 ≤ R := by rw [← hR]; exact Int.ediv_nonneg h0 (by omega)
  -- the number of rounds
  obtain ⟨N, hN1, hN2, hN3⟩ : ∃ N : Int, p.span = N * q.span ∧ 1 ≤ N ∧ N ≤ p.number := by
    by_cases hb : q.broken = none
    · rw [if_pos hb] at hs
      exact ⟨p.number, by rw [hs, Int.mul_comm], by omega, Int.le_refl _⟩
    · rw [if_neg hb] at hs
      exact ⟨1, by omega, by omega, by omega⟩
  have hRN : R + 1 ≤ N := by
    by_cases z : R + 1 ≤ N
    · exact z
    · exfalso
      have : N * q.span ≤ R * q.span := Int.mul_le_mul_of_nonneg_right (by omega) (by omega)
      omega
  have hRS : (R + 1) * q.span ≤ p.span := by
    rw [hN1]
    exact Int.mul_le_mul_of_nonneg_right hRN (by omega)
  rw [Int.add_mul, Int.one_mul] at hRS
  have hB0 : 0 ≤ R * q.span := Int.mul_nonneg hR0 (by omega)
  have key : ∀ x : Int, 0 ≤ x → x < q.span → 0 < R * q.span + x → endA p (R * q.span + x) = R * q.span + endA q x := fun x x0 x1 x2 => by
    rw [endA_loop hk x2 (by omega), hp]
    show (if q.span = 0 then 0 else min ((R * q.span + x) / q.span) (p.number - 1)) * q.span + endA q (R * q.span + x - (if q.span = 0 then 0 else min ((R * q.span + x) / q.span) (p.number - 1)) * q.span) = _
    have ed : (R * q.span + x) / q.span = R := by
      rw [Int.add_comm, Int.add_mul_ediv_right _ _ (by omega), Int.ediv_eq_zero_of_lt x0 x1]
      omega
    have er : (if q.span = 0 then 0 else min ((R * q.span + x) / q.span) (p.number - 1)) = R := by
      rw [if_neg (by omega), ed]
      omega
    rw [er]
    congr 2
    omega
  refine ⟨by omega, by omega, ?_, ?_⟩
  · by_cases z : R * q.span + c = 0
    · rw [z, endA_zero (by omega)]
      exact h0
    · rw [key c c0 c1 (by omega)]
      omega
  · rw [Int.add_assoc]
    by_cases z : c + 1 < q.span
    · rw [key (c + 1) (by omega) z (by omega)]
      omega
    · by_cases z2 : R * q.span + (c + 1) < p.span
      · have := (wf_good h).lo (R * q.span + (c + 1)) (by omega) (by omega)
        omega
      · rw [endA_late (by omega)]
        exact h1
theorem endS_skip : ∀ {pre r : List Prog} {b x : Int}, (∀ p ∈ pre, Good p) → b + sumS pre ≤ x → endS (pre ++ r) b x = endS r (b + sumS pre) x
  | [], r, b, x, _, _ => by
    show endS r b x = endS r (b + 0) x
    rw [Int.add_zero]
  | p :: pre, r, b, x, hg, hx => by
    have e : sumS (p :: pre) = p.span + sumS pre := rfl
    rw [e] at hx ⊢
    have h2 := sumS_nonneg (ps := pre) fun q hq => hg q (List.mem_cons_of_mem _ hq)
    show endS (p :: (pre ++ r)) b x = _
    rw [show endS (p :: (pre ++ r)) b x = if x < b + p.span then b + endA p (x - b) else endS (pre ++ r) (b + p.span) x by rw [endS]]
    rw [if_neg (by omega), endS_skip (fun q hq => hg q (List.mem_cons_of_mem _ hq)) (by omega)]
    congr 1
    omega
theorem sumS_append (a b : List Prog) : sumS (a ++ b) = sumS a + sumS b := by
  unfold sumS
  rw [List.map_append, List.sum_append]
/-- the cuts of a part of a sequence -/
theorem last_seq {p q : Prog} {pre post : List Prog} {t c : Int} (h : WF p) (hk : p.kind = .seq ∨ p.kind = .fallback) (hp : p.parts = pre ++ q :: post) (hw : ∀ r ∈ p.parts, WF r) (h1 : t < p.span) (hb : sumS pre ≤ t) (hi : IsLast q (t - sumS pre) c) : IsLast p t (sumS pre + c) := by
  obtain ⟨c0, c1, c2, c3⟩ := hi
  have hg : ∀ r ∈ pre, Good r := fun r hr => wf_good (hw r (by rw [hp]; exact List.mem_append_left _ hr))
  have gq : Good q := wf_good (hw q (by rw [hp]; exact List.mem_append_right _ List.mem_cons_self))
  have s0 := sumS_nonneg hg
  have key : ∀ x : Int, 0 ≤ x → x < q.span → 0 < sumS pre + x → sumS pre + x < p.span → endA p (sumS pre + x) = sumS pre + endA q x := fun x x0 x1 x2 x3 => by
    rw [endA_seq hk x2 x3, hp, endS_skip hg (by omega), Int.zero_add]
    rw [show endS (q :: post) (sumS pre) (sumS pre + x) = if sumS pre + x < sumS pre + q.span then sumS pre + endA q (sumS pre + x - sumS pre) else endS post (sumS pre + q.span) (sumS pre + x) by rw [endS]]
    rw [if_pos (by omega), show sumS pre + x - sumS pre = x by omega]
  have lo := gq.lo c c0 (by omega)
  refine ⟨by omega, by omega, ?_, ?_⟩
  · by_cases z : sumS pre + c = 0
    · rw [z, endA_zero (wf_good h).sp]
      omega
    · rw [key c c0 c1 (by omega) (by omega)]
      omega
  · by_cases z : sumS pre + c + 1 < p.span
    · by_cases z2 : c + 1 < q.span
      · rw [Int.add_assoc, key (c + 1) (by omega) z2 (by omega) (by omega)]
        omega
      · have := (wf_good h).lo (sumS pre + c + 1) (by omega) (by omega)
        rw [endA_late (show q.span ≤ c + 1 by omega)] at c3
        omega
    · rw [endA_late (by omega)]
      exact h1
theorem wf_seq {p : Prog} (h : WF p) (hk : p.kind = .seq ∨ p.kind = .fallback) : p.span ≤ sumS p.parts := by
  cases h with
  | @mk k ps n ws nd d s b sub sh hn hd hm ln ld =>
    have es := (meas_of hm).1
    have hg : ∀ p ∈ ps, Good p := fun p hp => wf_good (sub p hp)
    show s ≤ sumS ps
    rcases hk with hk | hk
    · cases (show k = .seq from hk)
      rw [es]
      have := (seqM_bounds (t := 0) hg).2
      rw [Int.zero_add] at this
      exact this
    · cases (show k = .fallback from hk)
      obtain ⟨⟨a, b', rfl⟩, _⟩ := sh
      have e2 : sumS [a, b'] = a.span + b'.span := by
        show a.span + (b'.span + 0) = _
        omega
      have ga := (hg b' (by simp)).sp
      rw [es, e2]
      show (match brokenAt [a, b'] 0 with
        | some w => if w ∈ ws then (spanAt [a, b'] 0 + spanAt [a, b'] 1, brokenAt [a, b'] 1) else (spanAt [a, b'] 0, some w)
        | none => (spanAt [a, b'] 0, none)).1 ≤ _
      split
      · split
        · exact Int.le_refl _
        · show a.span ≤ _
          omega
      · show a.span ≤ _
        omega
theorem wf_parts {p : Prog} (h : WF p) : ∀ q ∈ p.parts, WF q ∧ q.depth + 1 ≤ p.depth := by
  cases h with
  | @mk k ps n ws nd d s b sub sh hn hd hm ln ld =>
    intro q hq
    refine ⟨sub q hq, ?_⟩
    show q.depth + 1 ≤ d
    rw [hd]
    unfold depthOf
    have := le_maxL (l := 0 :: ps.map Prog.depth) (x := q.depth) (List.mem_cons_of_mem _ (List.mem_map_of_mem hq))
    omega
theorem wf_cleanup {p : Prog} (h : WF p) (hk : p.kind = .cleanup) : ∃ a b, p.parts = [a, b] ∧ p.span = a.span + b.span := by
  cases h with
  | @mk k ps n ws nd d s b sub sh hn hd hm ln ld =>
    cases (show k = .cleanup from hk)
    obtain ⟨⟨a, b', rfl⟩, _⟩ := sh
    exact ⟨a, b', rfl, (meas_of hm).1⟩
theorem last_cleanup {p a b : Prog} {t : Int} (h : WF p) (hk : p.kind = .cleanup) (hp : p.parts = [a, b]) (h0 : 0 ≤ t) (h1 : t < p.span) : (0 < t - b.span → t - b.span < a.span ∧ ∀ c, IsLast a (t - b.span) c → IsLast p t c) ∧ (¬ 0 < t - b.span → IsLast p t 0) := by
  obtain ⟨a', b', hp', hs⟩ := wf_cleanup h hk
  rw [hp] at hp'
  cases hp'
  have ga := wf_good (wf_parts h a (by rw [hp]; simp)).1
  have gb := wf_good (wf_parts h b (by rw [hp]; simp)).1
  have a0 := ga.sp
  have b0 := gb.sp
  have key : ∀ x : Int, 0 < x → x < p.span → endA p x = min (endA a x + b.span) p.span := fun x x0 x1 => by
    rw [endA_cleanup hk x0 x1, hp]
    rfl
  refine ⟨fun hr => ⟨by omega, fun c ⟨c0, c1, c2, c3⟩ => ⟨c0, by omega, ?_, ?_⟩⟩, fun hr => ⟨Int.le_refl 0, by omega, by rw [endA_zero (by omega)]; exact h0, ?_⟩⟩
  · by_cases z : c = 0
    · rw [z, endA_zero (by omega)]
      exact h0
    · rw [key c (by omega) (by omega)]
      omega
  · by_cases z : c + 1 < p.span
    · rw [key (c + 1) (by omega) z]
      omega
    · rw [endA_late (by omega)]
      exact h1
  · by_cases z : 0 + 1 < p.span
    · rw [key (0 + 1) (by omega) z]
      by_cases z2 : a.span ≤ 0
      · rw [endA_late (show a.span ≤ 0 + 1 by omega)]
        omega
      · have := ga.lo (0 + 1) (by omega) (by omega)
        omega
    · rw [endA_late (by omega)]
      exact h1
theorem wf_limit {p : Prog} (h : WF p) (hk : p.kind = .timeout ∨ p.kind = .moveon) : ∃ a, p.parts = [a] ∧ 0 ≤ p.number ∧ p.span = (if p.number < a.span then endA a p.number else a.span) := by
  cases h with
  | @mk k ps n ws nd d s b sub sh hn hd hm ln ld =>
    rcases hk with hk | hk
    · cases (show k = .timeout from hk)
      obtain ⟨⟨a, rfl⟩, h0, _⟩ := sh
      refine ⟨a, rfl, h0, ?_⟩
      show s = _
      rw [(meas_of hm).1]
      show (if n < spanAt [a] 0 then (endH [a] n, ws.head?) else (spanAt [a] 0, brokenAt [a] 0)).1 = (if n < a.span then endA a n else a.span)
      rw [show spanAt [a] 0 = a.span from rfl, show endH [a] n = endA a n by unfold endH; rfl]
      split <;> rfl
    · cases (show k = .moveon from hk)
      obtain ⟨⟨a, rfl⟩, h0, _⟩ := sh
      refine ⟨a, rfl, h0, ?_⟩
      show s = _
      rw [(meas_of hm).1]
      show (if n < spanAt [a] 0 then (endH [a] n, ws.head?) else (spanAt [a] 0, brokenAt [a] 0)).1 = (if n < a.span then endA a n else a.span)
      rw [show spanAt [a] 0 = a.span from rfl, show endH [a] n = endA a n by unfold endH; rfl]
      split <;> rfl
theorem last_limit {p a : Prog} {t : Int} (h : WF p) (hk : p.kind = .timeout ∨ p.kind = .moveon) (hp : p.parts = [a]) (h0 : 0 ≤ t) (h1 : t < p.span) : t < a.span ∧ ∀ c, IsLast a t c → IsLast p t c := by
  obtain ⟨a', hp', n0, hs⟩ := wf_limit h hk
  rw [hp] at hp'
  cases hp'
  have ga := wf_good (wf_parts h a (by rw [hp]; simp)).1
  have hle : p.span ≤ a.span := by
    rw [hs]
    split
    · exact ga.hi _ n0
    · exact Int.le_refl _
  have key : ∀ x : Int, 0 < x → x < p.span → endA p x = if p.number ≤ x then p.span else endA a x := fun x x0 x1 => by
    rw [endA_limit hk x0 x1, hp]
    rfl
  refine ⟨by omega, fun c ⟨c0, c1, c2, c3⟩ => ?_⟩
  have hcs : c < p.span := by
    have := ga.lo c c0 (by omega)
    omega
  have hcn : c < p.number ∨ a.span ≤ p.number := by
    by_cases z : p.number < a.span
    · rw [if_pos z] at hs
      left
      by_cases z2 : c < p.number
      · exact z2
      · have := ga.mono p.number c n0 (by omega)
        omega
    · right
      omega
  refine ⟨c0, hcs, ?_, ?_⟩
  · by_cases z : c = 0
    · rw [z, endA_zero (by omega)]
      exact h0
    · rw [key c (by omega) hcs, if_neg (by omega)]
      exact c2
  · by_cases z : c + 1 < p.span
    · rw [key (c + 1) (by omega) z]
      split
      · exact h1
      · exact c3
    · rw [endA_late (by omega)]
      exact h1
theorem wf_group {p : Prog} (h : WF p) (hk : p.kind = .together) : p.parts ≠ [] ∧ p.parts.length ≤ 20 ∧ p.span = (grpM p.parts).1 := by
  cases h with
  | @mk k ps n ws nd d s b sub sh hn hd hm ln ld =>
    cases (show k = .together from hk)
    exact ⟨sh.1, sh.2.1, (meas_of hm).1⟩
/-- from then on a cut of a group changes nothing -/
def lateG (p : Prog) : Int := match firstFail p.parts with
  | none => p.span
  | some f => min f.span p.span
theorem group_end {p : Prog} (h : WF p) (hk : p.kind = .together) {x : Int} (x0 : 0 ≤ x) (x1 : x < p.span) : (lateG p ≤ x → endA p x = p.span ∨ x = 0) ∧ (x < lateG p → (∀ q ∈ p.parts, endA q x ≤ endA p x) ∧ ∃ q ∈ p.parts, endA p x = endA q x) := by
  obtain ⟨hne, _, hs⟩ := wf_group h hk
  have hg : ∀ q ∈ p.parts, Good q := fun q hq => wf_good (wf_parts h q hq).1
  have gp := wf_good h
  refine ⟨fun hl => ?_, fun hl => ?_⟩
  · by_cases z : x = 0
    · exact .inr z
    · left
      rw [endA_group hk (by omega) x1]
      unfold endG
      unfold lateG at hl
      cases e : firstFail p.parts with
      | none => rw [e] at hl; simp only at hl; omega
      | some f =>
        rw [e] at hl
        simp only at hl ⊢
        rw [if_pos (by omega)]
  · have hf : ∀ f, firstFail p.parts = some f → x < f.span := fun f e => by
      unfold lateG at hl
      rw [e] at hl
      simp only at hl
      omega
    by_cases z : x = 0
    · subst z
      rw [endA_zero gp.sp]
      obtain ⟨q, hq⟩ := List.exists_mem_of_ne_nil _ hne
      exact ⟨fun q hq => by rw [endA_zero (hg q hq).sp]; exact Int.le_refl 0, q, hq, (endA_zero (hg q hq).sp).symm⟩
    · obtain ⟨f1, f2, f3⟩ := endG_facts hne hg x0 (by rw [← hs]; exact x1) hf
      have ee : endA p x = maxL (endL p.parts x) := by
        rw [endA_group hk (by omega) x1]
        unfold endG
        cases e : firstFail p.parts with
        | none => rfl
        | some f => exact if_neg (by have := hf f e; omega)
      rw [ee]
      refine ⟨fun q hq => ?_, ?_⟩
      · by_cases z2 : q.span > x
        · exact le_maxL (mem_endL.mpr ⟨q, hq, z2, rfl⟩)
        · rw [endA_late (by omega)]
          omega
      · obtain ⟨q, hq, _, e⟩ := mem_endL.mp (maxL_mem f1)
        exact ⟨q, hq, e⟩
theorem last_group {p : Prog} {t : Int} (h : WF p) (hk : p.kind = .together) (h0 : 0 ≤ t) (h1 : t < p.span) {c : Int} (hle : c ≤ lateG p - 1) (hl : ∀ q ∈ p.parts, t < q.span → ∃ d, IsLast q t d ∧ c ≤ d) (hc : c = lateG p - 1 ∨ ∃ q ∈ p.parts, t < q.span ∧ IsLast q t c) : IsLast p t c := by
  obtain ⟨hne, _, hs⟩ := wf_group h hk
  have hg : ∀ q ∈ p.parts, Good q := fun q hq => wf_good (wf_parts h q hq).1
  have gp := wf_good h
  have hls : lateG p ≤ p.span := by
    unfold lateG
    split <;> omega
  have hl1 : 1 ≤ lateG p := by
    unfold lateG
    cases e : firstFail p.parts with
    | none => simp only; omega
    | some f =>
      simp only
      have g := (grp_facts hne hg).2.1 f e
      have fs := (hg f (firstFail_some e).1).sp
      by_cases z : f.span = 0
      · exfalso
        have hz : maxL (p.parts.map fun q => endA q f.span) = 0 := by
          have hm := maxL_mem (l := p.parts.map fun q => endA q f.span) (fun z => hne (List.map_eq_nil_iff.mp z))
          obtain ⟨q, hq, e2⟩ := List.mem_map.mp hm
          rw [← e2, z, endA_zero (hg q hq).sp]
        omega
      · omega
  have hc0 : 0 ≤ c := by
    rcases hc with rfl | ⟨q, _, _, hq⟩
    · omega
    · exact hq.1
  refine ⟨hc0, by omega, ?_, ?_⟩
  · obtain ⟨q, hq, e⟩ := ((group_end h hk hc0 (by omega)).2 (by omega)).2
    rw [e]
    by_cases z : t < q.span
    · obtain ⟨d, hd, hcd⟩ := hl q hq z
      have := (hg q hq).mono c d hc0 hcd
      have := hd.2.2.1
      omega
    · have := (hg q hq).hi c hc0
      omega
  · by_cases z : c + 1 < p.span
    · by_cases z2 : lateG p ≤ c + 1
      · rcases (group_end h hk (x := c + 1) (by omega) z).1 z2 with e | e
        · rw [e]
          exact h1
        · omega
      · rcases hc with rfl | ⟨q, hq, ht, hi⟩
        · omega
        · have := ((group_end h hk (x := c + 1) (by omega) z).2 (by omega)).1 q hq
          have := hi.2.2.2
          omega
    · rw [endA_late (by omega)]
      exact h1
end Cu

/-! == EndA -/
set_option maxHeartbeats 4000000
namespace Cu
open PySem PySem.Spec PyProof.Rows L2 Evl CuT
/-! ### ends.py: last cuts -/
theorem wf_depth {p : Prog} (h : WF p) : 1 ≤ p.depth ∧ p.depth ≤ 60 := by
  cases h with
  | @mk k ps n ws nd d s b sub sh hn hd hm ln ld =>
    refine ⟨?_, ld⟩
    show 1 ≤ d
    rw [hd]
    unfold depthOf
    have := le_maxL (l := 0 :: ps.map Prog.depth) (x := 0) List.mem_cons_self
    omega
theorem last_unique {p : Prog} {t c c' : Int} (h : WF p) (a : IsLast p t c) (b : IsLast p t c') : c = c' := by
  have g := wf_good h
  obtain ⟨a0, a1, a2, a3⟩ := a
  obtain ⟨b0, b1, b2, b3⟩ := b
  rcases Int.lt_trichotomy c c' with z | z | z
  · have := g.mono (c + 1) c' (by omega) (by omega)
    omega
  · exact z
  · have := g.mono (c' + 1) c (by omega) (by omega)
    omega
/-- a is the first cut with an end at t or later -/
def IsFirst (p : Prog) (t a : Int) : Prop := 0 ≤ a ∧ a ≤ p.span ∧ t ≤ endA p a ∧ (0 < a → endA p (a - 1) < t)
theorem first_of {p : Prog} {t c : Int} (h : IsLast p (t - 1) c) : IsFirst p t (c + 1) := by
  obtain ⟨a0, a1, a2, a3⟩ := h
  refine ⟨by omega, by omega, by omega, fun _ => ?_⟩
  rw [show c + 1 - 1 = c by omega]
  omega
theorem first_zero {p : Prog} (h : WF p) : IsFirst p 0 0 := ⟨Int.le_refl 0, (wf_good h).sp, by rw [endA_zero (wf_good h).sp]; exact Int.le_refl 0, fun z => absurd z (by omega)⟩
theorem first_le {p : Prog} {t a c : Int} (h : WF p) (hf : IsFirst p t a) (c0 : 0 ≤ c) (hc : t ≤ endA p c) : a ≤ c := by
  obtain ⟨a0, a1, a2, a3⟩ := hf
  by_cases z : a ≤ c
  · exact z
  · have := a3 (by omega)
    have := (wf_good h).mono c (a - 1) c0 (by omega)
    omega
theorem le_last {p : Prog} {t a c : Int} (h : WF p) (hl : IsLast p t c) (a0 : 0 ≤ a) (ha : endA p a ≤ t) : a ≤ c := by
  obtain ⟨b0, b1, b2, b3⟩ := hl
  by_cases z : a ≤ c
  · exact z
  · have := (wf_good h).mono (c + 1) a (by omega) (by omega)
    omega
def sLastCut : SD := fun _ ds ω Φ => match ds with
  | [.prog p, .int t] => WF p ∧ 0 ≤ t ∧ (t < p.span → ∀ c, IsLast p t c → Φ (.int c) ω) ∧ (¬ t < p.span → Φ .non ω)
  | _ => False
def sCutsAt : SD := fun _ ds ω Φ => match ds with
  | [.prog p, .int t] => WF p ∧ 0 ≤ t ∧ (p.span < t → Φ .non ω) ∧ (t = p.span → ∀ a, IsFirst p t a → Φ (.tup [.int a, .non]) ω) ∧
    (t < p.span → ∀ a c, IsFirst p t a → IsLast p t c → (a ≤ c → Φ (.tup [.int a, .int c]) ω) ∧ (¬ a ≤ c → Φ .non ω))
  | _ => False
def sIsInt : SD := fun _ ds ω Φ => match ds with
  | [.int _] => Φ (.bl true) ω
  | _ => False
def sCheckB : SD := fun _ ds ω Φ => match ds with
  | [.str _, .int v, .int low] => low ≤ v ∧ Φ .non ω
  | _ => False
def ffD (ps : List Prog) : D := match firstFail ps with
  | none => .non
  | some f => .prog f
def sFirst : SD := fun _ ds ω Φ => match ds with
  | [.lst l] => onS (progsOf l) fun ps => ps.length ≤ 1000 ∧ Φ (ffD ps) ω
  | _ => False
def sLimG : SD := fun _ ds ω Φ => match ds with
  | [.prog p] => WF p ∧ p.kind = .together ∧ Φ (.tup [.int (lateG p), .lst (p.parts.map fun q => .int (min (lateG p) q.span))]) ω
  | _ => False
def sLast (n : Nat) : SD := fun _ ds ω Φ => match ds with
  | [.prog p, .int t] => WF p ∧ p.depth < (n : Int) ∧ 0 ≤ t ∧ t < p.span ∧ ∀ c, IsLast p t c → Φ (.int c) ω
  | _ => False
section
variable {P : Program} {w : World} {K : PySem.W.Frag} {mg : Str → Option Value} {base : Heap}
theorem fd_first_failure (T : Txt K mg) : FnD P w K mg base 3 (He.ga K "first_failure") sFirst := fnd_of (r_first_failure T) fun ξ vs ds G ω Φ Q r h k => by
  match ds, r, h with
  | [.lst l], r, h =>
    obtain ⟨ps, hps, h0, h⟩ := onS_ok h
    obtain ⟨v, rfl, h2⟩ := one_arg r
    rw [progsOf_ok hps] at h2
    obtain ⟨l, xs, rfl, hl, hr⟩ := h2.invL
    refine ⟨l, ps, rfl, hr.prL hl, h0, fun H' v e hp => ?_⟩
    unfold ffD at h
    cases hf : firstFail ps with
    | none =>
      rw [hf] at hp h
      rw [show v = .non from hp]
      exact k _ _ H' h e .non
    | some f =>
      rw [hf] at hp h
      obtain ⟨x, rfl, hx⟩ := hp
      exact k _ _ H' h e (.prog hx)
theorem fd_is_integer (T : Txt K mg) : FnD P w K mg base 1 (He.ga K "is_integer") sIsInt := by
  refine fnd_mk T.f_is_integer sc_is_integer (fun _ _ _ _ _ _ us hl => match us, hl with | [_], _ => rfl) (fun ξ ds ω Φ h => ?_) (fun cdv A outer s H E hr => (dss_one (ds_ret (de_and (de_callB call_isi ok_is_int (by rfl) T.b_isinstance (by decide +kernel) (da_cons (dv 0) (da_cons (de_ty (pe_bltn (v := .ty "int") (by rfl) T.b_int (by decide +kernel) rfl)) da_nil))) (de_one (de_not (de_callB call_isi ok_is_bool (by rfl) T.b_isinstance (by decide +kernel) (da_cons (dv 0) (da_cons (de_ty (pe_bltn (v := .ty "bool") (by rfl) T.b_bool (by decide +kernel) rfl)) da_nil))))))))) (fun ξ ds ω Φ h => ?_)
  · match ds, h with
    | [.int _], h => rfl
  match ds, h with
  | [.int i], h =>
    simp only [dSeq, dAsg, dAsgT, dPar, dRet, dDrop, dIfS, dNext, dBreak, dCont, dFor, dIL, dIT, dIR1, dIR2, dIE, dIZ, oAdd, oSub, oMul, oDiv, oMod, oPow, oLt, oLe, oGt, oGe, atI_0, atI_1, atI_2, atI_3, atI_m1, ixN_0, ixN_1, ixN_2, Om.put_same, dVar, getK, dC, dNil, dCons, dOp, oI, oIC, oMulS, oEq, oNe, eqS, oIsN, oNotN, isNon, dTest, dAnd, dOr, dNot, dAndV, dOrV, dNotV, dIf, dTup, dLst, dLstM, dCall, dCB, dChain, asL, asQ, oIx, oIxL, oIxT, oCat, oCatM, oCatT, oNil, oIn, dNoPart, dPart, dSl, slL, slT, slLM, cMax2, cMin2, cLen, cList, cListM, cInt, cTuple, dFld, fldP, dMeth, oOwn, put_nm, put_tp, puts_nil, puts_cons, onS, dNeg, dRev, dSetI, dBM, mAppend, mExtend, mClear, mReverse, dYes, startD, List.map_cons, List.map_nil, List.length_cons, List.length_nil, List.set_cons_zero, List.set_cons_succ, List.cons_append, List.nil_append, Nat.reduceAdd, Nat.reduceSub, List.replicate_succ, List.replicate_zero, List.length_singleton, wipeD, decide_eq_true_eq, decide_eq_false_iff_not, reduceCtorEq, true_implies, false_implies, and_true, true_and, if_true, if_false, Bool.false_eq_true, Bool.not_true, Bool.not_false, Bool.not_eq_true', Bool.not_eq_false', Om.put_put, dLc, dLcM, dFrz, frzK, List.getElem?_cons_succ, List.getElem?_cons_zero, dMkP, dForM, dNever, cIs_int, cIs_bool, cIs_str, cIs_list, cIs_tuple, cIsP, tyNm, is_int, is_bool, is_str, is_list, is_tuple, N_is_integer]
    exact h
end
end Cu

/-! == DE -/
set_option maxHeartbeats 4000000
namespace Cu
open PySem PySem.Spec PyProof.Rows L2 Evl CuT
/-! ### == of nested lists and tuples of plain data -/
mutual
def pyOf : D → Option PyData
  | .non => some .none
  | .bl b => some (.bool b)
  | .int i => some (.int i)
  | .str x => some (.str x)
  | .lst ds => (pysOf ds).map .list
  | .tup ds => (pysOf ds).map .tuple
  | _ => none
def pysOf : List D → Option (List PyData)
  | [] => some []
  | d :: r => match pyOf d, pysOf r with
    | some x, some y => some (x :: y)
    | _, _ => none
end
mutual
theorem dp_of {K : PySem.W.Frag} {F G H : Hp} {ω : Om} (s : Sim K F G ω H) : ∀ (d : D) (v : V) (x : PyData), Rep K G v d → pyOf d = some x → Dp K H v x
  | .non, v, x, r, h => by
    rw [pyOf] at h
    cases h
    cases r
    exact .non
  | .bl b, v, x, r, h => by
    rw [pyOf] at h
    cases h
    cases r
    exact .bl b
  | .int i, v, x, r, h => by
    rw [pyOf] at h
    cases h
    cases r
    exact .int i
  | .str z, v, x, r, h => by
    rw [pyOf] at h
    cases h
    cases r
    exact .str z
  | .lst ds, v, x, r, h => by
    rw [pyOf] at h
    obtain ⟨ys, hy, rfl⟩ := Option.map_eq_some_iff.mp h
    obtain ⟨l, xs, rfl, hl, hr⟩ := r.invL
    exact .lst (sq_of (s.exG _ _ hl)) (dps_of s ds xs ys hr hy)
  | .tup ds, v, x, r, h => by
    rw [pyOf] at h
    obtain ⟨ys, hy, rfl⟩ := Option.map_eq_some_iff.mp h
    obtain ⟨l, xs, rfl, hl, hr⟩ := r.invT
    exact .tup (st_of (s.exG _ _ hl)) (dps_of s ds xs ys hr hy)
  | .scr _, v, x, r, h => by simp [pyOf] at h
  | .prog _, v, x, r, h => by simp [pyOf] at h
  | .mref _, v, x, r, h => by simp [pyOf] at h
  | .glob _, v, x, r, h => by simp [pyOf] at h
  | .ty _, v, x, r, h => by simp [pyOf] at h
  | .ins _ _, v, x, r, h => by simp [pyOf] at h
theorem dps_of {K : PySem.W.Frag} {F G H : Hp} {ω : Om} (s : Sim K F G ω H) : ∀ (ds : List D) (vs : List V) (xs : List PyData), RepL K G vs ds → pysOf ds = some xs → DpAll K H vs xs
  | [], vs, xs, r, h => by
    rw [pysOf] at h
    cases h
    cases r
    exact .nil
  | d :: ds, vs, xs, r, h => by
    obtain ⟨v, t, rfl, h1, h2⟩ := r.consInv
    rw [pysOf] at h
    cases e1 : pyOf d with
    | none => simp [e1] at h
    | some x =>
      cases e2 : pysOf ds with
      | none => simp [e1, e2] at h
      | some y =>
        simp only [e1, e2] at h
        cases h
        exact .cons (dp_of s d v x h1 e1) (dps_of s ds t y h2 e2)
end
def oEqD : RR2 := fun x y ω Φ => onS (pyOf x) fun d => onS (pyOf y) fun e => SeqAt.shaped d = true ∧ SeqAt.shaped e = true ∧ Φ (.bl (PyData.eqv d e)) ω
def oNeD : RR2 := fun x y ω Φ => onS (pyOf x) fun d => onS (pyOf y) fun e => SeqAt.shaped d = true ∧ SeqAt.shaped e = true ∧ Φ (.bl (!PyData.eqv d e)) ω
theorem ok_eqD {K : PySem.W.Frag} : OpOk K (rEqD K) oEqD := fun F G ω H x y dx dy Φ Q s rx ry hd k => by
  obtain ⟨d, e1, hd⟩ := onS_ok hd
  obtain ⟨e, e2, sd, se, hd⟩ := onS_ok hd
  exact ⟨d, e, dp_of s _ _ _ rx e1, dp_of s _ _ _ ry e2, sd, se, k _ _ ω G H hd (Ex.refl G) s .bl⟩
theorem ok_neD {K : PySem.W.Frag} : OpOk K (rNeD K) oNeD := fun F G ω H x y dx dy Φ Q s rx ry hd k => by
  obtain ⟨d, e1, hd⟩ := onS_ok hd
  obtain ⟨e, e2, sd, se, hd⟩ := onS_ok hd
  exact ⟨d, e, dp_of s _ _ _ rx e1, dp_of s _ _ _ ry e2, sd, se, k _ _ ω G H hd (Ex.refl G) s .bl⟩
theorem hu64_of {k : Nat} {A : Around} (r : Room k A) : A.units + 64 < cLine := by
  have := r.un
  omega
end Cu

/-! == DX -/
set_option maxHeartbeats 4000000
namespace Cu
open PySem PySem.Spec PyProof.Rows L2 Evl CuT
/-! ### min(xs, default=d), max(xs, default=d) of ints -/
def rMinDef (K : PySem.W.Frag) : List V → List V → Hp → VK → Prop := fun vs zs H Q => ∃ (a : Addr) (ns : List Int) (z : V), vs = [.ref a] ∧ zs = [z] ∧ SqL K H a (ns.map V.int) ∧ (ns = [] → Q z H) ∧ (ns ≠ [] → Q (.int (minLI ns)) H)
def rMaxDef (K : PySem.W.Frag) : List V → List V → Hp → VK → Prop := fun vs zs H Q => ∃ (a : Addr) (ns : List Int) (z : V), vs = [.ref a] ∧ zs = [z] ∧ SqL K H a (ns.map V.int) ∧ (ns = [] → Q z H) ∧ (ns ≠ [] → Q (.int (maxL ns)) H)
theorem alike_ints (ns : List Int) : PySem.W.AlikeAll (ns.map PyData.int) := by
  refine ⟨fun x hx y hy => ?_, fun x hx z => ?_⟩
  · obtain ⟨i, _, rfl⟩ := List.mem_map.mp hx
    obtain ⟨j, _, rfl⟩ := List.mem_map.mp hy
    rfl
  · obtain ⟨i, _, rfl⟩ := List.mem_map.mp hx
    cases z
theorem depth_ints : ∀ ns : List Int, PyData.depthAll (ns.map PyData.int) = 0
  | [] => by simp [PyData.depthAll]
  | n :: r => by simp [PyData.depthAll, PyData.depth, depth_ints r]
theorem ints_cons {ns : List Int} {y : PyData} {ys : List PyData} (h : ns.map PyData.int = y :: ys) : ∃ n ms, ns = n :: ms ∧ y = .int n ∧ ys = ms.map .int := by
  cases ns with
  | nil => cases h
  | cons n ms =>
    rw [List.map_cons] at h
    obtain ⟨h1, h2⟩ := List.cons.inj h
    exact ⟨n, ms, rfl, h1.symm, h2.symm⟩
section
variable {X : Cx}
theorem cr_minDef (hc : X.calm = true) (hu : X.A.units + 64 < cLine) : CallRK X (.builtin "min") [Str.ofString "default"] (rMinDef X.K) := by
  intro pins s σ H vs zs us ws Q I r rz h
  obtain ⟨a, ns, z, rfl, rfl, hs, q0, q1⟩ := h
  obtain ⟨its, rv, hl, _⟩ := I.list hs
  rw [Vals.ref1 r]
  obtain ⟨w1, rfl, e1⟩ := vals1 rz
  refine PySem.W.min_list_default (I.ok.hd hc) hl.isList (ints_readAll s.heap (by simpa using rv.ints)) (alike_ints ns) (by rw [depth_ints]; omega) (fun e h' tk hk => ?_) (fun y ys i v h' tk bs e hv rd hk => ?_)
  · exact ⟨z, H, I.kept hk, e1, q0 (List.map_eq_nil_iff.mp e)⟩
  · obtain ⟨n, ms, rfl, rfl, rfl⟩ := ints_cons e
    rw [PySem.W.minD_ints] at rd
    cases rd with
    | int _ t => exact ⟨.int _, H, I.kept hk, ⟨_, rfl⟩, q1 (by simp)⟩
theorem cr_maxDef (hc : X.calm = true) (hu : X.A.units + 64 < cLine) : CallRK X (.builtin "max") [Str.ofString "default"] (rMaxDef X.K) := by
  intro pins s σ H vs zs us ws Q I r rz h
  obtain ⟨a, ns, z, rfl, rfl, hs, q0, q1⟩ := h
  obtain ⟨its, rv, hl, _⟩ := I.list hs
  rw [Vals.ref1 r]
  obtain ⟨w1, rfl, e1⟩ := vals1 rz
  refine PySem.W.max_list_default (I.ok.hd hc) hl.isList (ints_readAll s.heap (by simpa using rv.ints)) (alike_ints ns) (by rw [depth_ints]; omega) (fun e h' tk hk => ?_) (fun y ys i v h' tk bs e hv rd hk => ?_)
  · exact ⟨z, H, I.kept hk, e1, q0 (List.map_eq_nil_iff.mp e)⟩
  · obtain ⟨n, ms, rfl, rfl, rfl⟩ := ints_cons e
    rw [PySem.W.maxD_ints] at rd
    have q2 := q1 (by simp)
    cases rd with
    | int _ t => exact ⟨.int _, H, I.kept hk, ⟨_, rfl⟩, q2⟩
end
abbrev RCK := List D → List D → Om → (D → Om → Prop) → Prop
def CallOkK (K : PySem.W.Frag) (r : List V → List V → Hp → VK → Prop) (rd : RCK) : Prop := ∀ F G ω H vs ds zs es Φ Q, Sim K F G ω H → RepL K G vs ds → RepL K G zs es → rd ds es ω Φ → Kont K F G Φ Q → r vs zs H Q
def dCBK (r : RCK) (da dk : RA) : RE := fun ξ ρ ω Φ => da ξ ρ ω fun ds ω1 => dk ξ ρ ω1 fun es ω2 => r ds es ω2 Φ
section
variable {X : Cx} {E : XK}
theorem de_callBK {id : String} {ks : List Str} {x : Str} {p pos : Pos} {e : Expr} {es : List Expr} {kws : List Keyword} {r : List V → List V → Hp → VK → Prop} {rd : RCK} {da dk : RA} (hc : CallRK X (.builtin id) ks r) (ok : CallOkK X.K r rd) (hg : Gl X x) (hm : X.mg x = none) (hv : bootBuiltins x = some (.builtin id)) (ha : DA X E (e :: es) da) (hk : DKw X E kws dk) (hn : x ≠ "__name__" := by decide) (hdb : (x == ("__debug__" : Str)) = false := by decide)
    (he : backTo pos (starEach (e :: es) X.env) = (false, eval e X.env) :: backTo pos (starEach es X.env) := by rfl) (hpl : (backTo pos (starEach (e :: es) X.env)).any (·.1) = false := by rfl)
    (hall : (backToKw pos (keywordEach kws X.env)).all (·.1.isSome) = true := by rfl) (hnone : (backToKw pos (keywordEach kws X.env)).any (·.1.isNone) = false := by rfl) (hks : (backToKw pos (keywordEach kws X.env)).filterMap (·.1) = ks := by rfl) :
    DE X E (.Call (.Name x p) (e :: es) kws pos) (dCBK rd da dk) :=
  de_of (pe_callBK hc hg hm hv ha hk hn hdb he hpl hall hnone hks) fun σ H Q ⟨F, G, ω, ρ, Φ, ξ, s, r, h, k, x⟩ => low_thenA s r x h fun vs ds ω1 G1 H1 h1 e1 s1 r1 => low_thenA s1 (r.ext e1) (x.mono e1) h1 fun zs es ω2 G2 H2 h2 e2 s2 r2 =>
    ok F G2 ω2 H2 vs ds zs es Φ Q s2 (r1.ext e2) r2 h2 (k.mono (e1.trans e2))
end
def cMinDef : RCK := fun ds es ω Φ => onInts ds ω fun ns => match es with
  | [z] => (ns = [] → Φ z ω) ∧ (ns ≠ [] → Φ (.int (minLI ns)) ω)
  | _ => False
def cMaxDef : RCK := fun ds es ω Φ => onInts ds ω fun ns => match es with
  | [z] => (ns = [] → Φ z ω) ∧ (ns ≠ [] → Φ (.int (maxL ns)) ω)
  | _ => False
theorem ok_minDef {K : PySem.W.Frag} : CallOkK K (rMinDef K) cMinDef := fun F G ω H vs ds zs es Φ Q s r rz h k => by
  obtain ⟨a, ns, rfl, ha, h⟩ := onInts_ok s r h
  match es, rz, h with
  | [z], rz, h =>
    obtain ⟨u, rfl, hz⟩ := one_arg rz
    exact ⟨a, ns, u, rfl, rfl, sq_of ha, fun e => k _ _ ω G H (h.1 e) (Ex.refl G) s hz, fun e => k _ _ ω G H (h.2 e) (Ex.refl G) s .int⟩
theorem ok_maxDef {K : PySem.W.Frag} : CallOkK K (rMaxDef K) cMaxDef := fun F G ω H vs ds zs es Φ Q s r rz h k => by
  obtain ⟨a, ns, rfl, ha, h⟩ := onInts_ok s r h
  match es, rz, h with
  | [z], rz, h =>
    obtain ⟨u, rfl, hz⟩ := one_arg rz
    exact ⟨a, ns, u, rfl, rfl, sq_of ha, fun e => k _ _ ω G H (h.1 e) (Ex.refl G) s hz, fun e => k _ _ ω G H (h.2 e) (Ex.refl G) s .int⟩
end Cu

/-! == DY -/
set_option maxHeartbeats 4000000
namespace Cu
open PySem PySem.Spec PyProof.Rows L2 Evl CuT
/-! ### a, b, c = x, y, z -/
def dPar3 (i j l : Nat) (d : RA) : RS := fun ξ Δ ρ ω => d ξ ρ ω fun xs ω1 => match xs with
  | [x, y, z] => Δ.nx (((ρ.set i (some x)).set j (some y)).set l (some z)) ω1
  | _ => False
section
variable {X : Cx} {E : XK} {pos : Pos}
theorem ds_par3 {i j l : Nat} {x y z : Str} {a b c : Expr} {d : RA} {px py pz pt : Pos} {kt k2 pt2} (hc : X.calm = true) (hN : X.N.Nodup) (hi : X.N[i]? = some x) (hj : X.N[j]? = some y) (hl : X.N[l]? = some z) (hij : i ≠ j) (hil : i ≠ l) (hjl : j ≠ l)
    (hx : X.env.scope.names.lookup x = some .local) (hy : X.env.scope.names.lookup y = some .local) (hz : X.env.scope.names.lookup z = some .local) (ha : DA X E [a, b, c] d)
    (hw : swappedStores [.Tuple [.Name x px, .Name y py, .Name z pz] kt pt] (.Tuple [a, b, c] k2 pt2) X.env = pure (some [x, y, z]))
    (hs : swapsWithSole [.Tuple [.Name x px, .Name y py, .Name z pz] kt pt] (.Tuple [a, b, c] k2 pt2) pos.line X.env = pure false := by rfl) :
    DS X E (.Assign [.Tuple [.Name x px, .Name y py, .Name z pz] kt pt] (.Tuple [a, b, c] k2 pt2) pos) (dPar3 i j l d) :=
  ds_of (ps_par3 hc hN hi hj hl hij hil hjl hx hy hz ha hw hs) fun D σ H ⟨F, G, ω, ρ, Δ, ξ, s, r, h, k, x⟩ => low_thenA s r x h fun vs ds ω1 G1 H1 h1 e1 s1 r1 => by
    match ds, r1, h1 with
    | [d1, d2, d3], r1, h1 =>
      obtain ⟨v, r2, rfl, h3, h4⟩ := r1.consInv
      obtain ⟨w, r', rfl, h5, h6⟩ := h4.consInv
      obtain ⟨u, r'', rfl, h7, h8⟩ := h6.consInv
      cases h8.nilInv
      exact ⟨v, w, u, rfl, k.nx _ _ ω1 G1 H1 h1 e1 s1 ((((r.ext e1).set h3 i).set h5 j).set h7 l)⟩
    | [], _, h1 => exact h1.elim
    | [_], _, h1 => exact h1.elim
    | [_, _], _, h1 => exact h1.elim
    | _ :: _ :: _ :: _ :: _, _, h1 => exact h1.elim
end
end Cu

/-! == DZ -/
set_option maxHeartbeats 4000000
namespace Cu
open PySem PySem.Spec PyProof.Rows L2 Evl CuT
/-! ### xs.index(n), xs a list of ints that does not change -/
def dBML (r : RMt) (d : RE) (da : RA) : RE := fun ξ ρ ω Φ => d ξ ρ ω fun x ω1 => (∃ ds, x = .lst ds) ∧ da ξ ρ ω1 fun xs ω2 => r x xs ω2 Φ
section
variable {X : Cx} {E : XK}
theorem de_bmL {id : String} {name : Str} {o e : Expr} {es : List Expr} {apos cpos : Pos} {r : V → List V → Hp → VK → Prop} {rd : RMt} {d : RE} {da : RA} (pa : PlainAttrs "list") (slot : Slot "list" name id) (hty : typeOf (.builtin id) = pure (.type "method_descriptor")) (hm : MtR X id r) (ok : MtOk X.K r rd) (ho : DE X E o d) (ha : DA X E (e :: es) da)
    (hbase : attributeBase o name X.env (eval o X.env) = eval o X.env := by rfl)
    (hfew : ((backTo cpos (starEach (e :: es) X.env)).all (fun x => !x.1) && (backToKw cpos (keywordEach [] X.env)).all (fun x => x.1.isSome)
      && decide ((e :: es).length + ([] : List Keyword).length + (if ([] : List Keyword).isEmpty then 0 else 1) < 30)) = true := by rfl)
    (hline : (apos.endLine == cpos.line) = true := by rfl) (hs : starEach (e :: es) X.env = (false, eval e X.env) :: starEach es X.env := by rfl) (hplain : (backTo cpos (starEach es X.env)).any (·.1) = false := by rfl) : DE X E (.Call (.Attribute o name apos) (e :: es) [] cpos) (dBML rd d da) :=
  de_of (pe_bm pa slot hty hm ho ha hbase hfew hline hs hplain) fun σ H Q ⟨F, G, ω, ρ, Φ, ξ, s, r, h, k, x⟩ => low_then s r x h fun v d ω1 G1 H1 h1 e1 s1 r1 => by
    obtain ⟨⟨ds, rfl⟩, h1⟩ := h1
    obtain ⟨a, xs, rfl, ha, _⟩ := r1.invL
    exact ⟨tyV_list (s1.exG _ _ ha), low_thenA s1 (r.ext e1) (x.mono e1) h1 fun vs ds ω2 G2 H2 h2 e2 s2 r2 => ok F G2 ω2 H2 _ _ _ _ Φ Q s2 (r1.ext e2) r2 h2 (k.mono (e1.trans e2))⟩
end
def mIndex : RMt := fun x ys ω Φ => match x, ys with
  | .lst ds, [.int v] => onS (intsOf ds) fun ns => ∃ j : Nat, ns[j]? = some v ∧ (∀ m : Nat, m < j → ns[m]? ≠ some v) ∧ Φ (.int (j : Int)) ω
  | _, _ => False
theorem ok_index {K : PySem.W.Frag} : MtOk K (rIndex K) mIndex := fun F G ω H v vs d ds Φ Q s rv rs h k => by
  match d, ds, rv, rs, h with
  | .lst es, [.int n], rv, rs, h =>
    obtain ⟨ns, h1, j, h2, h3, h⟩ := onS_ok h
    obtain ⟨a, xs, rfl, ha, hr⟩ := rv.invL
    obtain ⟨u, rfl, hu⟩ := one_arg rs
    cases hu.invI
    rw [intsOf_ok h1] at hr
    rw [hr.ints] at ha
    refine ⟨a, ns.map V.int, .int n, j, .int n, rfl, rfl, sq_of (s.exG _ _ ha), rfl, ?_, by rw [List.getElem?_map, h2]; rfl, by simp [eqV], fun m z' hm hz => ?_, k _ _ ω G H h (Ex.refl G) s .int⟩
    · rw [List.all_eq_true]
      intro x hx
      obtain ⟨i, _, rfl⟩ := List.mem_map.mp hx
      rfl
    · rw [List.getElem?_map] at hz
      obtain ⟨i, hi, rfl⟩ := Option.map_eq_some_iff.mp hz
      have : i ≠ n := fun e => h3 m hm (by rw [hi, e])
      simp [eqV, this]
end Cu

/-! == DQ -/
set_option maxHeartbeats 4000000
namespace Cu
open PySem PySem.Spec PyProof.Rows L2 Evl CuT
/-! ### a program called by keyword: p(cut=e) -/
/-- a def called with one positional argument, then by keywords in order -/
def FnKm (P : Program) (w : World) (K : PySem.W.Frag) (mg : Str → Option Value) (base : Heap) (k : Nat) (f : Addr) (ks : List Str) (sp : Sp) : Prop := ∀ (A : Around) (outer : List Env) (s : Shared) (H : Hp) (u : Value) (ws : List Value) (x : V) (zs : List V) (Q : VK) (E : XK), Room k A → Env0 P w K mg base A outer s H → RelV x u → Vals zs ws → sp (x :: zs) H Q E →
  codeAny (model P w) A (.call (.ref f) ⟨[u], ks.zip ws⟩) (CR (L2.CX P w) outer P w H s Q E) s
section
variable {P : Program} {w : World} {K : PySem.W.Frag} {mg : Str → Option Value} {base : Heap}
theorem o_Program_call {fd : FuncData} (T : Txt K mg) (F : FunD K "__call__" "Program.__call__" (defArgs s_Program_call) (defBody s_Program_call) (defScope s_Program_call) [] [] (He.ma K (He.ga K "Program") "__call__") fd) : FnOk P w K mg base (L2.CX P w) 124 (He.ma K (He.ga K "Program") "__call__") fd ["self", "cut"] (spCallP (PC K)) := by
  have G_is_integer : FnR P w K mg base (L2.CX P w) 1 (He.ga K "is_integer") (spIsInt K) := r_is_integer T
  have G_end_after : FnR P w K mg base (L2.CX P w) 123 (He.ga K "end_after") (spEnd (PC K) 60) := end_all T 60
  refine F.ok sc_Program_call (fun vs H Q E h => ?_) (fun cdv A outer s H vs Q E hr h => ?_)
  · obtain ⟨a, p, c, rfl, _⟩ := h
    rfl
  obtain ⟨a, p, c, rfl, hp, hw, hc, q⟩ := h
  refine ⟨_, PSs.nox ((pss_cons (ps_if (PW.pt (pw_or (pt_not (pt_val (pe_callR G_is_integer (hr.mono (by omega)) rfl T.g_is_integer (kp_of T.f_is_integer) passL (pa_cons (pv 1) pa_nil)))) (pw_or1 (pt_cmpR op_lt (pv 1) pe_int (nomark _))))) (pss_one (ps_never)) pss_nil)
    (pss_one (ps_ret (pe_callR G_end_after (hr.mono (by omega)) rfl T.g_end_after (kp_of T.f_end_after) passL (pa_cons (pv 0) (pa_cons (pv 1) pa_nil))))))), ?_⟩
  refine q_no (et_is (et_or (et_not (et_B (ev_callR (ea_cons (ev_var rfl) ea_nil) v_isInt))) (fun _ => et_cmp (ev_var rfl) ev_c)) ?_) fun H1 e1 => ?_
  · rw [decide_eq_false (show ¬ c < 0 by omega)]
    rfl
  refine s_ret (ev_callR (ea_cons (ev_var rfl) (ea_cons (ev_var rfl) ea_nil)) (v_end (hp.ext e1) hw hw.depth_le hc)) fun H2 e2 => q H2 (e1.trans e2)
theorem fkm_call0 (T : Txt K mg) : FnKm P w K mg base 124 (He.ma K (He.ga K "Program") "__call__") ["cut"] (spCallP (PC K)) := by
  obtain ⟨fd, F⟩ := T.f_Program_call
  have G := o_Program_call (P := P) (w := w) (base := base) T F
  obtain ⟨oc, od, dV, kV, doc, pm, an, cdv, ct, osl, rfl, lk, hcd, hD, hK⟩ := F.ex
  intro A outer s H u ws x zs Q E hr e0 rx rz h
  obtain ⟨a, p, c, e, h'⟩ := id h
  cases e
  cases rz with
  | cons r2 r3 =>
    cases r3
    rcases hD with ⟨_, rfl⟩ | ⟨z, _⟩
    · exact G.run A outer s H ⟨[u], _⟩ [u, _] [.ref a, .int c] Q E hr e0 (BindsTo.of_looks fun M => PySem.W.Looks.of_pure rfl) (.cons rx (.cons r2 .nil)) ⟨a, p, c, rfl, h'⟩
    · exact absurd rfl z
theorem fnkmD_of {k : Nat} {f : Addr} {ks : List Str} {sp : Sp} {S : SD} (F : FnKm P w K mg base k f ks sp) (h : ∀ ξ vs ds G ω Φ Q, RepL K G vs ds → S ξ ds ω Φ → (∀ v z G', Φ z ω → Ex G G' → Rep K G' v z → Q v G') → sp vs G Q E0) : FnKm P w K mg base k f ks (spD K S) := by
  intro A outer s H u ws x zs Q E hr e0 rx r ⟨Fr, G, ω, ds, Φ, ξ, sm, rp, hs, kk, x⟩
  obtain ⟨hh, hf⟩ := sm.hid
  refine frame_code hh e0 (F A outer s _ u ws _ zs _ E0 hr (frame_env hh e0) rx r ?_)
  rw [hf]
  exact h ξ _ ds G ω Φ _ rp hs fun v z G' hz e rz fD iD => kk v z ω G' _ hz e (sm.back e fD iD) rz
theorem fkm_Program_call (T : Txt K mg) : FnKm P w K mg base 124 (He.ma K (He.ga K "Program") "__call__") ["cut"] (spD K sEnd) := fnkmD_of (fkm_call0 T) fun ξ vs ds G ω Φ Q r h k => by
  match ds, r, h with
  | [.prog p, .int c], r, ⟨hw, hc, h⟩ =>
    obtain ⟨v, u, rfl, h1, h2⟩ := two_args r
    obtain ⟨a, rfl, ha⟩ := h1.invP
    cases h2.invI
    exact ⟨a, p, c, rfl, ha, hw, hc, fun H' e => k _ _ H' h e .int⟩
theorem callO_ofK {M : Model} {A : Around} {E : Value → Shared → Prop} {s : Shared} {a : Addr} {pos : Pos} {Q : Value → Shared → Prop} {args : List (Bool × Sem Value)} {kws : List (Option Str × Sem Value)} (hplain : (args.any (·.1) || kws.any (·.1.isNone)) = false)
    (h : wpAny M A (evalArgs (.ref a) true args kws) (fun z s₁ => (∃ C ox od, PySem.W.InstAt s₁.heap a ox C od ∧ ox.data = .plain) ∧ wpAny M A (call (.ref a) ([] ++ z.pos) z.kw) Q E s₁) E s) : wpAny M A (callWith pos (.ref a) [] args kws) Q E s := by
  unfold callWith
  refine wpAny_bind (wpAny_holding (wpAny_mono h (fun z s₁ h₁ => wpAny_bind (wpAny_standAt ?_)) fun _ _ y => y))
  obtain ⟨⟨C, ox, od, J, hd⟩, h₁⟩ := h₁
  have L := PySem.W.kco_keeper (M := M) J hd
  simp only [hplain]
  refine wpAny_bind (L.here ?_)
  have tail : ∀ {t : Sem Value}, wpAny M A t Q E s₁ → wpAny M A (t >>= fun r => holding [r] point >>= fun _ => pure r) Q E s₁ :=
    fun ht => wpAny_bind (wpAny_mono ht (fun r s₂ hr => wpAny_bind (wpAny_holding (wpAny_point (wpAny_pure hr)))) fun _ _ y => y)
  exact tail (wpAny_operateT h₁)
end
def tCallPK (C : Addr) (sp : Sp) (tf : TE) (t : TA) : TE := fun σ H Q => tf σ H fun y H1 => ∃ a, y = V.ref a ∧ t σ H1 fun vs H2 => (∃ dx fs, H2 a = some (.ins C dx fs)) ∧ sp (V.ref a :: vs) H2 Q E0
theorem pe_callPK {X : Cx} {k : Nat} {g C : Addr} {ks : List Str} {sp : Sp} {fe : Expr} {kws : List Keyword} {pos : Pos} {tf : TE} {t : TA} (hf : PE X fe tf) (c : StX.CallO X.K C g) (F : FnKm X.prog X.w X.K X.mg X.base k g ks sp) (hr : Room k X.A) (ha : PK X kws t)
    (ht : eval (.Call fe [] kws pos) X.env = (do callWith pos (← eval fe X.env) [] (backTo pos (starEach [] X.env)) (backToKw pos (keywordEach kws X.env))) := by rfl)
    (hall : (backToKw pos (keywordEach kws X.env)).all (·.1.isSome) = true := by rfl) (hks : (backToKw pos (keywordEach kws X.env)).filterMap (·.1) = ks := by rfl)
    (hpl : ((backTo pos (starEach [] X.env)).any (·.1) || (backToKw pos (keywordEach kws X.env)).any (·.1.isNone)) = false := by rfl) : PE X (.Call fe [] kws pos) (tCallPK C sp tf t) := by
  refine ⟨fun pins s σ H Q I h => ?_⟩
  rw [ht]
  refine wpAny_bind (thn (hf.run pins s σ H _ I h) fun u s1 ⟨y, H1, I1, ry, a, ey, q⟩ => ?_)
  subst ey
  obtain rfl : u = Value.ref a := ry
  refine callO_ofK hpl (evalArgs_kw2_nil hall (thn (ha.run pos pins s1 σ H1 _ I1 q) fun us s2 ⟨vs, H2, I2, r, hi, q2⟩ => ?_))
  have hi' : StX.InsC X H2 a C := .inr hi
  obtain ⟨ox, od, J, hd⟩ := StX.insC_at I2 hi'
  refine ⟨⟨C, ox, od, J, hd⟩, ?_⟩
  rw [hks]
  refine wpAny_call (PySem.W.kco_code I2.kIn J hd c.at_ c.fn c.fi (codeAny_mono (F X.A X.stack s2 H2 (.ref a) us (.ref a) vs Q E0 hr I2.env0 rfl r q2) fun r s' hq => ?_))
  cases r with
  | error e => exact passL pins σ H2 s2 e s' I2 hq
  | ok fl =>
    cases fl with
    | ret u => exact I2.after hq
    | next => exact False.elim hq
    | brk => exact False.elim hq
    | cont => exact False.elim hq
section
variable {X : Cx} {pos : Pos}
theorem de_callPK {k : Nat} {g : Addr} {ks : List Str} {S : SD} {fe : Expr} {kws : List Keyword} {d : RE} {da : RA} (hf : DE X E0 fe d) (c : StX.CallO X.K (PC X.K) g) (F : FnKm X.prog X.w X.K X.mg X.base k g ks (spD X.K S)) (hr : Room k X.A) (ha : DKw X E0 kws da)
    (ht : eval (.Call fe [] kws pos) X.env = (do callWith pos (← eval fe X.env) [] (backTo pos (starEach [] X.env)) (backToKw pos (keywordEach kws X.env))) := by rfl)
    (hall : (backToKw pos (keywordEach kws X.env)).all (·.1.isSome) = true := by rfl) (hks : (backToKw pos (keywordEach kws X.env)).filterMap (·.1) = ks := by rfl)
    (hpl : ((backTo pos (starEach [] X.env)).any (·.1) || (backToKw pos (keywordEach kws X.env)).any (·.1.isNone)) = false := by rfl) : DE X E0 (.Call fe [] kws pos) (dMeth S d da) :=
  de_of (pe_callPK hf c F hr ha ht hall hks hpl) fun σ H Q ⟨F, G, ω, ρ, Φ, ξ, s, r, h, k, x⟩ => low_then s r x h fun v d ω1 G1 H1 h1 e1 s1 r1 => by
    cases d with
    | prog p =>
      obtain ⟨a, rfl, ha⟩ := r1.invP
      refine ⟨a, rfl, low_thenA s1 (r.ext e1) (x.mono e1) h1 fun vs ds ω2 G2 H2 h2 e2 s2 r2 => ?_⟩
      obtain ⟨dx, l, w, h3, _⟩ := (ha.ext e2).at_
      exact ⟨⟨dx, _, s2.exG _ _ h3⟩, F, G2, ω2, _, Φ, ξ, s2, .cons (.prog (ha.ext e2)) r2, h2, k.mono (e1.trans e2), x.mono (e1.trans e2)⟩
    | _ => exact h1.elim
end
end Cu

/-! == MathB -/
set_option maxHeartbeats 4000000
namespace Cu
open PySem
/-! ### sequences by their parts -/
theorem seqM_shift : ∀ (ps : List Prog) (t : Int), seqM ps t = (t + (seqM ps 0).1, (seqM ps 0).2)
  | [], t => by simp [seqM]
  | p :: r, t => by
    unfold seqM
    cases h : p.broken with
    | some w => simp
    | none =>
      dsimp only
      rw [seqM_shift r (t + p.span), seqM_shift r (0 + p.span)]
      refine Prod.ext ?_ rfl
      show t + p.span + _ = t + (0 + p.span + _)
      omega
theorem seqM_append : ∀ (xs ys : List Prog) (t : Int), seqM (xs ++ ys) t = if (seqM xs t).2 = none then seqM ys (seqM xs t).1 else seqM xs t
  | [], ys, t => by simp [seqM]
  | p :: r, ys, t => by
    rw [List.cons_append, seqM_cons, seqM_cons]
    cases h : p.broken with
    | some w => simp
    | none => exact seqM_append r ys (t + p.span)
theorem WF.meas_eq {p : Prog} (w : WF p) : p.span = (meas p.kind p.parts p.number p.words).1 ∧ p.broken = (meas p.kind p.parts p.number p.words).2 := by
  cases w with
  | mk sub sh hn hd hm ln ld => exact meas_of hm
theorem seqM_flat {p : Prog} (w : WF p) (t : Int) : seqM (flatP p) t = (t + p.span, p.broken) := by
  unfold flatP
  by_cases hk : p.kind = .seq
  · rw [if_pos hk, seqM_shift]
    have h := w.meas_eq
    rw [hk] at h
    have e : meas Kind.seq p.parts p.number p.words = seqM p.parts 0 := rfl
    rw [e] at h
    rw [h.1, h.2]
  · rw [if_neg hk]
    unfold seqM
    cases h : p.broken with
    | some w => rfl
    | none => rfl
theorem add_span {p q : Prog} (wp : WF p) (wq : WF q) : (addP p q).span = p.span + (if p.broken = none then q.span else 0) ∧ (addP p q).broken = if p.broken = none then q.broken else p.broken := by
  have e1 : (addP p q).span = (seqM (flatP p ++ flatP q) 0).1 := rfl
  have e2 : (addP p q).broken = (seqM (flatP p ++ flatP q) 0).2 := rfl
  rw [e1, e2, seqM_append, seqM_flat wp]
  by_cases h : p.broken = none
  · rw [if_pos h, if_pos h, if_pos h, seqM_flat wq]
    exact ⟨by show 0 + p.span + q.span = _; omega, rfl⟩
  · rw [if_neg h, if_neg h, if_neg h]
    exact ⟨by show 0 + p.span = p.span + 0; omega, rfl⟩
theorem endS_left : ∀ (xs ys : List Prog) (b c : Int), c < (seqM xs b).1 → b ≤ c → endS (xs ++ ys) b c = endS xs b c
  | [], ys, b, c, h, hb => by
    have : c < b := h
    omega
  | p :: r, ys, b, c, h, hb => by
    rw [List.cons_append, endS_cons, endS_cons]
    by_cases hc : c < b + p.span
    · rw [if_pos hc, if_pos hc]
    · rw [if_neg hc, if_neg hc]
      unfold seqM at h
      cases hp : p.broken with
      | some w =>
        rw [hp] at h
        exact absurd h hc
      | none =>
        rw [hp] at h
        exact endS_left r ys _ c h (by omega)
theorem endS_right : ∀ (xs ys : List Prog) (b c : Int), (∀ p ∈ xs, Good p) → (seqM xs b).2 = none → (seqM xs b).1 ≤ c → endS (xs ++ ys) b c = endS ys (seqM xs b).1 c
  | [], ys, b, c, _, _, _ => rfl
  | p :: r, ys, b, c, hg, h, hc => by
    rw [List.cons_append, endS_cons]
    unfold seqM at h hc ⊢
    cases hp : p.broken with
    | some w =>
      rw [hp] at h
      cases h
    | none =>
      rw [hp] at h hc
      dsimp only at h hc ⊢
      have hr : ∀ q ∈ r, Good q := fun q hq => hg q (List.mem_cons_of_mem _ hq)
      have := (seqM_bounds (t := b + p.span) hr).1
      rw [if_neg (by omega)]
      exact endS_right r ys _ c hr h hc
theorem endS_shift : ∀ (ps : List Prog) (b x c : Int), endS ps (b + x) c = b + endS ps x (c - b)
  | [], b, x, c => by rw [endS_nil, endS_nil]
  | p :: r, b, x, c => by
    rw [endS_cons, endS_cons]
    by_cases h : c < b + x + p.span
    · rw [if_pos h, if_pos (by omega), show c - b - x = c - (b + x) by omega]
      omega
    · rw [if_neg h, if_neg (by omega), show b + x + p.span = b + (x + p.span) by omega]
      exact endS_shift r b (x + p.span) c
theorem endS_at : ∀ (ps : List Prog) (b : Int), (∀ p ∈ ps, Good p) → endS ps b b = b
  | [], b, _ => endS_nil b b
  | p :: r, b, hg => by
    have g := hg p List.mem_cons_self
    have sp := g.sp
    rw [endS_cons]
    by_cases h : b < b + p.span
    · rw [if_pos h, show b - b = 0 by omega, endA_zero sp]
      omega
    · rw [if_neg h, show b + p.span = b by omega]
      exact endS_at r b fun q hq => hg q (List.mem_cons_of_mem _ hq)
theorem flat_good {p : Prog} (w : WF p) : ∀ q ∈ flatP p, Good q := fun q hq => by
  unfold flatP at hq
  by_cases hk : p.kind = .seq
  · rw [if_pos hk] at hq
    exact wf_good (w.sub hq)
  · rw [if_neg hk] at hq
    rw [List.mem_singleton.mp hq]
    exact wf_good w
theorem endS_flat {p : Prog} (w : WF p) {c : Int} (h0 : 0 ≤ c) (h1 : c < p.span) : endS (flatP p) 0 c = endA p c := by
  by_cases hc : c = 0
  · subst hc
    rw [endS_at _ _ (flat_good w), endA_zero w.pos]
  · unfold flatP
    by_cases hk : p.kind = .seq
    · rw [if_pos hk, endA_seq (.inl hk) (by omega) h1]
    · rw [if_neg hk, endS_cons, if_pos (by omega)]
      rw [show c - 0 = c by omega]
      omega
theorem add_end {p q : Prog} (wp : WF p) (wq : WF q) {c : Int} (h0 : 0 ≤ c) : endA (addP p q) c = if c < p.span then endA p c else p.span + (if p.broken = none then endA q (c - p.span) else 0) := by
  obtain ⟨hs, _⟩ := add_span wp wq
  have pn := wp.pos
  have qn := wq.pos
  by_cases hS : (addP p q).span ≤ c
  · rw [endA_late hS, hs]
    by_cases hb : p.broken = none
    · rw [if_pos hb] at hs ⊢
      rw [if_neg (by omega), if_pos hb, endA_late (by omega)]
    · rw [if_neg hb] at hs ⊢
      rw [if_neg (by omega), if_neg hb]
  · by_cases hc : c = 0
    · subst hc
      rw [endA_zero (by omega)]
      by_cases hn : 0 < p.span
      · rw [if_pos hn, endA_zero pn]
      · have : p.span = 0 := by omega
        rw [if_neg hn, this, show (0 : Int) - 0 = 0 by omega, endA_zero qn]
        split <;> rfl
    · rw [endA_seq (p := addP p q) (.inl rfl) (by omega) (by omega)]
      show endS (flatP p ++ flatP q) 0 c = _
      by_cases hn : c < p.span
      · rw [if_pos hn, endS_left _ _ _ _ (by rw [seqM_flat wp]; show c < 0 + p.span; omega) h0, endS_flat wp h0 hn]
      · rw [if_neg hn]
        by_cases hb : p.broken = none
        · rw [if_pos hb] at hs ⊢
          rw [endS_right _ _ _ _ (flat_good wp) (by rw [seqM_flat wp]; exact hb) (by rw [seqM_flat wp]; show 0 + p.span ≤ c; omega), seqM_flat wp]
          show endS (flatP q) (0 + p.span) c = _
          rw [show (0 : Int) + p.span = p.span + 0 by omega, endS_shift, endS_flat wq (by omega) (by omega)]
        · rw [if_neg hb] at hs
          omega
/-! ### names of failures -/
theorem seqM_broken : ∀ (ps : List Prog) (t : Int) (z : Str), (seqM ps t).2 = some z → ∃ p ∈ ps, p.broken = some z
  | [], t, z, h => by cases h
  | p :: r, t, z, h => by
    rw [seqM_cons] at h
    cases hp : p.broken with
    | some w =>
      rw [hp] at h
      exact ⟨p, List.mem_cons_self, by rw [hp]; exact h⟩
    | none =>
      rw [hp] at h
      obtain ⟨q, hq, e⟩ := seqM_broken r _ z h
      exact ⟨q, List.mem_cons_of_mem _ hq, e⟩
theorem brokenAt_mem {ps : List Prog} {i : Nat} {z : Str} (h : brokenAt ps i = some z) : ∃ p ∈ ps, p.broken = some z := by
  unfold brokenAt at h
  split at h
  · rename_i p hp
    exact ⟨p, List.mem_of_getElem? hp, h⟩
  · cases h
theorem meas_name {k : Kind} {ps : List Prog} {n : Int} {ws : List Str} (sh : Shape k ps n ws) {z : Str} (h : (meas k ps n ws).2 = some z) : IsName z ∨ ∃ p ∈ ps, p.broken = some z := by
  cases k with
  | sleep => cases h
  | fail =>
    obtain ⟨_, _, w, rfl, hw⟩ := sh
    have e : some w = some z := h
    cases e
    exact .inl hw
  | seq => exact .inr (seqM_broken _ _ _ h)
  | loop =>
    unfold meas at h
    by_cases hn : n = 0
    · rw [if_pos hn] at h
      cases h
    · rw [if_neg hn] at h
      exact .inr (brokenAt_mem h)
  | shield => exact .inr (brokenAt_mem h)
  | cleanup =>
    have e : (if brokenAt ps 1 = none then brokenAt ps 0 else brokenAt ps 1) = some z := h
    by_cases hn : brokenAt ps 1 = none
    · rw [if_pos hn] at e
      exact .inr (brokenAt_mem e)
    · rw [if_neg hn] at e
      exact .inr (brokenAt_mem e)
  | fallback =>
    unfold meas at h
    dsimp only at h
    cases hb : brokenAt ps 0 with
    | none =>
      rw [hb] at h
      cases h
    | some w =>
      rw [hb] at h
      dsimp only at h
      by_cases hw : w ∈ ws
      · rw [if_pos hw] at h
        exact .inr (brokenAt_mem h)
      · rw [if_neg hw] at h
        exact .inr (brokenAt_mem (hb.trans h))
  | timeout =>
    obtain ⟨_, _, _, w, rfl, hw⟩ := sh
    unfold meas at h
    dsimp only at h
    split at h
    · have e : some w = some z := h
      cases e
      exact .inl hw
    · exact .inr (brokenAt_mem h)
  | moveon =>
    obtain ⟨_, _, _, rfl⟩ := sh
    unfold meas at h
    dsimp only at h
    split at h
    · cases h
    · exact .inr (brokenAt_mem h)
  | together =>
    have e : (grpM ps).2 = some z := h
    unfold grpM at e
    cases hf : firstFail ps with
    | none =>
      rw [hf] at e
      cases e
    | some f =>
      rw [hf] at e
      exact .inr ⟨f, (firstFail_some hf).1, e⟩
theorem wf_name {p : Prog} (w : WF p) : ∀ z, p.broken = some z → IsName z := by
  induction w with
  | mk sub sh hn hd hm ln ld ih =>
    intro z hz
    have e := (meas_of hm).2
    have hz2 := e.symm.trans hz
    rcases meas_name sh hz2 with h | ⟨p, hp, h⟩
    · exact h
    · exact ih p hp z h
theorem name_ok {z : Str} (h : IsName z) : PyData.strOk z = true := by
  unfold PyData.strOk
  rw [← Array.all_toList, List.all_eq_true]
  intro c hc
  have := h.2.2 c hc
  exact decide_eq_true (by omega)
/-! ### the others -/
theorem shield_end {p : Prog} (wp : WF p) {c : Int} (h0 : 0 ≤ c) : endA (mkP .shield [p] 0 []) c = if 0 < c then p.span else 0 := by
  have hs : (mkP .shield [p] 0 []).span = p.span := rfl
  have pn := wp.pos
  by_cases hc : 0 < c
  · rw [if_pos hc]
    by_cases h : p.span ≤ c
    · rw [endA_late (by omega), hs]
    · rw [endA_shield (p := mkP .shield [p] 0 []) rfl hc (by omega), hs]
  · rw [if_neg hc, show c = 0 by omega, endA_zero (by omega)]
theorem cleanup_end {p q : Prog} (wp : WF p) (wq : WF q) {c : Int} (h0 : 0 ≤ c) : endA (mkP .cleanup [p, q] 0 []) c = if 0 < c then min (endA p (min c p.span) + q.span) (p.span + q.span) else 0 := by
  have hs : (mkP .cleanup [p, q] 0 []).span = p.span + q.span := rfl
  have pn := wp.pos
  have qn := wq.pos
  by_cases hc : 0 < c
  · rw [if_pos hc]
    by_cases h : p.span + q.span ≤ c
    · rw [endA_late (by omega), hs, show min c p.span = p.span by omega, endA_late (Int.le_refl _)]
      omega
    · rw [endA_cleanup (p := mkP .cleanup [p, q] 0 []) rfl hc (by omega), hs]
      have e1 : endH (mkP .cleanup [p, q] 0 []).parts c = endA p c := by
        show endH [p, q] c = _
        rw [endH]
      have e2 : spanAt (mkP .cleanup [p, q] 0 []).parts 1 = q.span := rfl
      rw [e1, e2]
      by_cases h2 : p.span ≤ c
      · rw [show min c p.span = p.span by omega, endA_late h2, endA_late (Int.le_refl _)]
      · rw [show min c p.span = c by omega]
  · rw [if_neg hc, show c = 0 by omega, endA_zero (by omega)]
theorem cleanup_broken {p q : Prog} : (mkP .cleanup [p, q] 0 []).broken = if q.broken = none then p.broken else q.broken := rfl
theorem loop_span2 {p : Prog} {k : Int} : (mulP p k).span = (if k = 0 then 0 else p.span * (if p.broken = none then k else 1)) ∧ (mulP p k).broken = if k = 0 then none else p.broken := by
  have e1 : (mulP p k).span = (meas .loop [p] k []).1 := rfl
  have e2 : (mulP p k).broken = (meas .loop [p] k []).2 := rfl
  rw [e1, e2]
  unfold meas
  by_cases h : k = 0
  · rw [if_pos h, if_pos h]
    exact ⟨rfl, by rw [if_pos h]⟩
  · rw [if_neg h, if_neg h]
    exact ⟨rfl, by rw [if_neg h]; rfl⟩
theorem loop_mid {p : Prog} {k c : Int} (h0 : 0 < c) (h1 : c < (mulP p k).span) : endA (mulP p k) c = (let r := if p.span = 0 then 0 else min (c / p.span) (k - 1); r * p.span + endA p (c - r * p.span)) := by
  rw [endA_loop (p := mulP p k) rfl h0 h1]
  have e : ∀ x, endH (mulP p k).parts x = endA p x := fun x => by
    show endH [p] x = _
    rw [endH]
  simp only [e]
  rfl
theorem loop_end_ok {p : Prog} (wp : WF p) (hb : p.broken = none) {k t c : Int} (t0 : 0 ≤ t) (t1 : t ≤ k) (c0 : 0 ≤ c) (c1 : c ≤ p.span) : endA (mulP p k) (min (t * p.span + c) (p.span * k)) = min (t * p.span + endA p c) (p.span * k) := by
  have g := wf_good wp
  have pn := wp.pos
  have hs : (mulP p k).span = p.span * k := by
    rw [loop_span2.1, if_pos hb]
    by_cases h : k = 0
    · rw [if_pos h, h, Int.mul_zero]
    · rw [if_neg h]
  have lo := g.lo c c0 c1
  have hi := g.hi c c0
  by_cases hc : p.span * k ≤ t * p.span + c
  · rw [show min (t * p.span + c) (p.span * k) = p.span * k by omega, endA_late (by rw [hs]; exact Int.le_refl _), hs]
    omega
  · have tp : 0 ≤ t * p.span := Int.mul_nonneg t0 pn
    rw [show min (t * p.span + c) (p.span * k) = t * p.span + c by omega]
    have np : 0 < p.span := by
      rcases Int.lt_or_eq_of_le pn with h | h
      · exact h
      · rw [← h] at hc c1
        omega
    have up : (t + 1) * p.span ≤ p.span * k := by
      have : t < k := by
        rcases Int.lt_or_eq_of_le t1 with h | h
        · exact h
        · rw [h, Int.mul_comm] at hc
          omega
      rw [Int.mul_comm p.span k]
      exact Int.mul_le_mul_of_nonneg_right (by omega) pn
    have tk : t < k := by
      rcases Int.lt_or_eq_of_le t1 with h | h
      · exact h
      · rw [h, Int.mul_comm] at hc
        omega
    rw [Int.add_mul, Int.one_mul] at up
    by_cases hz : t * p.span + c = 0
    · have : c = 0 := by omega
      rw [hz, this, endA_zero (by rw [hs]; omega), endA_zero pn]
      omega
    · rw [loop_mid (by omega) (by rw [hs]; omega)]
      by_cases hcn : c = p.span
      · have ed : (t * p.span + c) / p.span = t + 1 := by
          rw [hcn, show t * p.span + p.span = (t + 1) * p.span by rw [Int.add_mul, Int.one_mul]]
          exact Int.mul_ediv_cancel _ (by omega)
        have tk2 : t + 1 < k := by
          rcases Int.lt_or_eq_of_le (show t + 1 ≤ k by omega) with h | h
          · exact h
          · rw [← h, Int.mul_comm, Int.add_mul, Int.one_mul] at hc
            omega
        simp only [ed]
        rw [if_neg (by omega), show min (t + 1) (k - 1) = t + 1 by omega, hcn, Int.add_mul, Int.one_mul, show t * p.span + p.span - (t * p.span + p.span) = 0 by omega, endA_zero pn, endA_late (Int.le_refl _)]
        omega
      · have ed : (t * p.span + c) / p.span = t := by
          rw [Int.add_comm, Int.add_mul_ediv_right _ _ (by omega), Int.ediv_eq_zero_of_lt c0 (by omega)]
          omega
        simp only [ed]
        rw [if_neg (by omega), show min t (k - 1) = t by omega, show t * p.span + c - t * p.span = c by omega]
        omega
theorem loop_end_fail {p : Prog} (wp : WF p) (hb : p.broken ≠ none) {k c : Int} (k1 : 1 ≤ k) (c0 : 0 ≤ c) (c1 : c ≤ p.span) : endA (mulP p k) c = endA p c := by
  have pn := wp.pos
  have hs : (mulP p k).span = p.span := by
    rw [loop_span2.1, if_neg (by omega), if_neg hb, Int.mul_one]
  by_cases hc : p.span ≤ c
  · rw [endA_late (by omega), endA_late hc, hs]
  · by_cases hz : c = 0
    · subst hz
      rw [endA_zero (by omega), endA_zero pn]
    · rw [loop_mid (by omega) (by omega), if_neg (by omega), Int.ediv_eq_zero_of_lt c0 (by omega), show min 0 (k - 1) = 0 by omega]
      simp
theorem fb_caught {p q : Prog} {ws : List Str} {w : Str} (hb : p.broken = some w) (hw : w ∈ ws) : (mkP .fallback [p, q] 0 ws).span = p.span + q.span ∧ (mkP .fallback [p, q] 0 ws).broken = q.broken := by
  have e1 : (mkP .fallback [p, q] 0 ws).span = (meas .fallback [p, q] 0 ws).1 := rfl
  have e2 : (mkP .fallback [p, q] 0 ws).broken = (meas .fallback [p, q] 0 ws).2 := rfl
  rw [e1, e2]
  unfold meas
  have : brokenAt [p, q] 0 = some w := hb
  simp only [this, if_pos hw]
  exact ⟨rfl, rfl⟩
theorem fb_other {p q : Prog} {ws : List Str} (hb : ∀ w, p.broken = some w → w ∉ ws) : (mkP .fallback [p, q] 0 ws).span = p.span ∧ (mkP .fallback [p, q] 0 ws).broken = p.broken := by
  have e1 : (mkP .fallback [p, q] 0 ws).span = (meas .fallback [p, q] 0 ws).1 := rfl
  have e2 : (mkP .fallback [p, q] 0 ws).broken = (meas .fallback [p, q] 0 ws).2 := rfl
  rw [e1, e2]
  unfold meas
  have h : brokenAt [p, q] 0 = p.broken := rfl
  cases hp : p.broken with
  | none =>
    rw [hp] at h
    rw [h]
    exact ⟨rfl, rfl⟩
  | some w =>
    rw [hp] at h
    rw [h]
    dsimp only
    rw [if_neg (hb w hp)]
    exact ⟨rfl, rfl⟩
theorem fb_end {p q : Prog} (wp : WF p) (wq : WF q) {ws : List Str} {c : Int} (c0 : 0 ≤ c) (hs : p.span ≤ (mkP .fallback [p, q] 0 ws).span) (h : c ≤ p.span) : endA (mkP .fallback [p, q] 0 ws) c = endA p c ∨ c = p.span := by
  have pn := wp.pos
  by_cases hc : c = p.span
  · exact .inr hc
  · refine .inl ?_
    by_cases hz : c = 0
    · subst hz
      rw [endA_zero (by omega), endA_zero pn]
    · rw [endA_seq (p := mkP .fallback [p, q] 0 ws) (.inr rfl) (by omega) (by omega)]
      show endS [p, q] 0 c = _
      rw [endS_cons, if_pos (by omega), show c - 0 = c by omega]
      omega
theorem fb_end2 {p q : Prog} (wp : WF p) (wq : WF q) {ws : List Str} {c : Int} (c0 : p.span ≤ c) (hs : (mkP .fallback [p, q] 0 ws).span = p.span + q.span) : endA (mkP .fallback [p, q] 0 ws) c = p.span + endA q (c - p.span) := by
  have pn := wp.pos
  have qn := wq.pos
  by_cases hS : p.span + q.span ≤ c
  · rw [endA_late (by omega), hs, endA_late (by omega)]
  · by_cases hz : c = 0
    · have : p.span = 0 := by omega
      rw [hz, endA_zero (by omega), this, show (0 : Int) - 0 = 0 by omega, endA_zero qn]
      rfl
    · rw [endA_seq (p := mkP .fallback [p, q] 0 ws) (.inr rfl) (by omega) (by omega)]
      show endS [p, q] 0 c = _
      rw [endS_cons, if_neg (by omega), endS_cons, if_pos (by omega), show c - (0 + p.span) = c - p.span by omega]
      omega
theorem lim_meas {p : Prog} {k : Kind} (hk : k = .timeout ∨ k = .moveon) {n : Int} {ws : List Str} : (mkP k [p] n ws).span = (if n < p.span then endA p n else p.span) ∧ (mkP k [p] n ws).broken = if n < p.span then ws.head? else p.broken := by
  have e1 : (mkP k [p] n ws).span = (meas k [p] n ws).1 := rfl
  have e2 : (mkP k [p] n ws).broken = (meas k [p] n ws).2 := rfl
  rw [e1, e2]
  have e3 : meas k [p] n ws = if n < p.span then (endA p n, ws.head?) else (p.span, p.broken) := by
    have e4 : endH [p] n = endA p n := by rw [endH]
    rcases hk with rfl | rfl
    · unfold meas
      rw [e4]
      rfl
    · unfold meas
      rw [e4]
      rfl
  rw [e3]
  split <;> exact ⟨rfl, rfl⟩
theorem lim_end {p : Prog} (wp : WF p) {k : Kind} (hk : k = .timeout ∨ k = .moveon) {n : Int} {ws : List Str} (n0 : 0 ≤ n) {c : Int} (c0 : 0 ≤ c) : endA (mkP k [p] n ws) c = if n ≤ c ∧ n < p.span then (if 0 < c then endA p n else 0) else endA p c := by
  have pn := wp.pos
  have g := wf_good wp
  have hs := (lim_meas (p := p) hk (n := n) (ws := ws)).1
  by_cases hn : n < p.span
  · rw [if_pos hn] at hs
    have lo := g.lo n n0 (by omega)
    by_cases hc : n ≤ c
    · rw [if_pos ⟨hc, hn⟩]
      by_cases hz : 0 < c
      · rw [if_pos hz]
        by_cases hS : endA p n ≤ c
        · rw [endA_late (by omega), hs]
        · rw [endA_limit (p := mkP k [p] n ws) hk hz (by omega), if_pos (show (mkP k [p] n ws).number ≤ c from hc), hs]
      · rw [if_neg hz, show c = 0 by omega, endA_zero (by omega)]
    · rw [if_neg (fun h => hc h.1)]
      by_cases hz : c = 0
      · subst hz
        rw [endA_zero (by omega), endA_zero pn]
      · rw [endA_limit (p := mkP k [p] n ws) hk (by omega) (by omega), if_neg (show ¬ (mkP k [p] n ws).number ≤ c from hc)]
        show endH [p] c = _
        rw [endH]
  · rw [if_neg hn] at hs
    rw [if_neg (fun h => hn h.2)]
    by_cases hS : p.span ≤ c
    · rw [endA_late (by omega), hs, endA_late hS]
    · by_cases hz : c = 0
      · subst hz
        rw [endA_zero (by omega), endA_zero pn]
      · rw [endA_limit (p := mkP k [p] n ws) hk (by omega) (by omega), if_neg (show ¬ (mkP k [p] n ws).number ≤ c from by show ¬ n ≤ c; omega)]
        show endH [p] c = _
        rw [endH]
end Cu

/-! == MathG -/
set_option maxHeartbeats 4000000
namespace Cu
open PySem PySem.Spec PyProof.Rows L2 Evl CuT
/-! ### groups: what the law works out -/
/-- the end of a group after a cut, by its parts -/
def dueG (ps : List Prog) (f : Option Int) (s c : Int) : Int := if c = 0 ∨ s ≤ c then (if 0 < c then s else 0) else (match f with | some t => if t ≤ c then s else maxL ((ps.filter fun p => decide (c < p.span)).map fun p => endA p c) | none => maxL ((ps.filter fun p => decide (c < p.span)).map fun p => endA p c))
theorem grp_span {ps : List Prog} : (mkP .together ps 0 []).span = (grpM ps).1 ∧ (mkP .together ps 0 []).broken = (grpM ps).2 := ⟨rfl, rfl⟩
theorem due_eq {ps : List Prog} (hne : ps ≠ []) (hw : ∀ p ∈ ps, WF p) {c : Int} (hc : 0 ≤ c) : endA (mkP .together ps 0 []) c = dueG ps ((firstFail ps).map Prog.span) (grpM ps).1 c := by
  have hs0 : 0 ≤ (grpM ps).1 := (grp_facts hne fun p hp => wf_good (hw p hp)).1
  unfold dueG
  by_cases h : c = 0 ∨ (grpM ps).1 ≤ c
  · rw [if_pos h]
    by_cases h1 : (grpM ps).1 ≤ c
    · rw [endA_late (p := mkP .together ps 0 []) h1, grp_span.1]
      split <;> omega
    · have : c = 0 := by omega
      subst this
      rw [endA_zero (p := mkP .together ps 0 []) hs0]
      rfl
  · rw [if_neg h, endA_group (p := mkP .together ps 0 []) rfl (by omega) (by rw [grp_span.1]; omega)]
    unfold endG
    rw [show (mkP .together ps 0 []).parts = ps from rfl, endL_eq, grp_span.1]
    cases firstFail ps with
    | none => rfl
    | some f => rfl
theorem grp_open {ps : List Prog} (hne : ps ≠ []) (hw : ∀ p ∈ ps, WF p) {c : Int} (hc : 0 ≤ c) (h : c < (grpM ps).1) (hf : ∀ t, (firstFail ps).map Prog.span = some t → c < t) : ∃ p ∈ ps, c < p.span := by
  have := (endG_facts hne (fun q hq => wf_good (hw q hq)) hc h fun f z => hf f.span (by rw [z]; rfl)).1
  cases e : endL ps c with
  | nil => exact absurd e this
  | cons x r =>
    obtain ⟨p, hp, h1, _⟩ := mem_endL.mp (show x ∈ endL ps c by rw [e]; exact List.mem_cons_self)
    exact ⟨p, hp, h1⟩
theorem maxL_perm {xs ys : List Int} (h : ∀ a, a ∈ xs ↔ a ∈ ys) : maxL xs = maxL ys := by
  by_cases hx : xs = []
  · have : ys = [] := List.eq_nil_iff_forall_not_mem.mpr fun a ha => by
      have := (h a).mpr ha
      rw [hx] at this
      cases this
    rw [hx, this]
  · exact maxL_unique ((h _).mp (maxL_mem hx)) fun a ha => le_maxL ((h a).mpr ha)
theorem ff_same {ps qs : List Prog} (h : ∀ p, p ∈ ps ↔ p ∈ qs) : (firstFail ps).map Prog.span = (firstFail qs).map Prog.span := by
  cases e : firstFail ps with
  | none =>
    cases e2 : firstFail qs with
    | none => rfl
    | some g =>
      obtain ⟨g1, g2, _⟩ := firstFail_some e2
      have := firstFail_none e g ((h g).mpr g1)
      rw [this] at g2
      cases g2
  | some f =>
    obtain ⟨f1, f2, f3⟩ := firstFail_some e
    cases e2 : firstFail qs with
    | none =>
      have := firstFail_none e2 f ((h f).mp f1)
      rw [this] at f2
      cases f2
    | some g =>
      obtain ⟨g1, g2, g3⟩ := firstFail_some e2
      have h1 := f3 g ((h g).mpr g1) g2
      have h2 := g3 f ((h f).mp f1) f2
      show some f.span = some g.span
      congr 1
      omega
theorem grpM_same {ps qs : List Prog} (h : ∀ p, p ∈ ps ↔ p ∈ qs) : (grpM ps).1 = (grpM qs).1 := by
  have hf := ff_same h
  unfold grpM
  cases e : firstFail ps with
  | none =>
    rw [e] at hf
    cases e2 : firstFail qs with
    | some g => rw [e2] at hf; cases hf
    | none =>
      refine maxL_perm fun a => ?_
      rw [List.mem_map, List.mem_map]
      exact ⟨fun ⟨p, hp, q⟩ => ⟨p, (h p).mp hp, q⟩, fun ⟨p, hp, q⟩ => ⟨p, (h p).mpr hp, q⟩⟩
  | some f =>
    rw [e] at hf
    cases e2 : firstFail qs with
    | none => rw [e2] at hf; cases hf
    | some g =>
      rw [e2] at hf
      have hs : f.span = g.span := Option.some.inj hf
      show maxL (ps.map fun p => endA p f.span) = maxL (qs.map fun p => endA p g.span)
      rw [hs]
      refine maxL_perm fun a => ?_
      rw [List.mem_map, List.mem_map]
      exact ⟨fun ⟨p, hp, q⟩ => ⟨p, (h p).mp hp, q⟩, fun ⟨p, hp, q⟩ => ⟨p, (h p).mpr hp, q⟩⟩
theorem due_same {ps qs : List Prog} (h : ∀ p, p ∈ ps ↔ p ∈ qs) (f : Option Int) (s c : Int) : dueG ps f s c = dueG qs f s c := by
  have e : maxL ((ps.filter fun p => decide (c < p.span)).map fun p => endA p c) = maxL ((qs.filter fun p => decide (c < p.span)).map fun p => endA p c) := by
    refine maxL_perm fun a => ?_
    rw [List.mem_map, List.mem_map]
    exact ⟨fun ⟨p, hp, q⟩ => ⟨p, List.mem_filter.mpr ⟨(h p).mp (List.mem_filter.mp hp).1, (List.mem_filter.mp hp).2⟩, q⟩, fun ⟨p, hp, q⟩ => ⟨p, List.mem_filter.mpr ⟨(h p).mpr (List.mem_filter.mp hp).1, (List.mem_filter.mp hp).2⟩, q⟩⟩
  unfold dueG
  rw [e]
/-- the first of those that fail earliest, by its place -/
theorem firstFail_at {ps : List Prog} {i : Nat} {p : Prog} (hp : ps[i]? = some p) (hb : p.broken.isSome = true) (hm : ∀ (j : Nat) (q : Prog), ps[j]? = some q → q.broken.isSome = true → p.span ≤ q.span ∧ (j < i → p.span < q.span)) : firstFail ps = some p := by
  have hi := (List.getElem?_eq_some_iff.mp hp).1
  have hpi : ps[i] = p := (List.getElem?_eq_some_iff.mp hp).2
  have e : ps = ps.take i ++ p :: ps.drop (i + 1) := by
    rw [← hpi, ← List.drop_eq_getElem_cons hi, List.take_append_drop]
  have e2 : (ps.filter fun p => p.broken.isSome) = ((ps.take i).filter fun p => p.broken.isSome) ++ p :: ((ps.drop (i + 1)).filter fun p => p.broken.isSome) := by
    conv => lhs; rw [e]
    rw [List.filter_append, List.filter_cons, if_pos hb]
  unfold firstFail
  rw [e2]
  refine minBy_first (i := ((ps.take i).filter fun p => p.broken.isSome).length) (by rw [List.getElem?_append_right (Nat.le_refl _)]; simp) fun j q hj => ?_
  have hq : q ∈ ps.filter fun p => p.broken.isSome := by rw [e2]; exact List.mem_of_getElem? hj
  obtain ⟨hq1, hq2⟩ := List.mem_filter.mp hq
  obtain ⟨j0, hj0, ej0⟩ := List.mem_iff_getElem.mp hq1
  refine ⟨(hm j0 q (by rw [List.getElem?_eq_getElem hj0, ej0]) hq2).1, fun hlt => ?_⟩
  rw [List.getElem?_append_left hlt] at hj
  have hq3 := (List.mem_filter.mp (List.mem_of_getElem? hj)).1
  obtain ⟨j1, hj1, ej1⟩ := List.mem_iff_getElem.mp hq3
  rw [List.length_take] at hj1
  rw [List.getElem_take] at ej1
  exact (hm j1 q (by rw [List.getElem?_eq_getElem (by omega), ej1]) hq2).2 (by omega)
/-- pairs of places and items -/
def idxd {α : Type} (xs : List α) : List (Nat × α) := (List.range xs.length).zip xs
theorem enumD_map {α : Type} (g : α → D) (xs : List α) : enumD (xs.map g) = (idxd xs).map fun z => .tup [.int (z.1 : Int), g z.2] := by
  unfold enumD zipD idxd
  rw [List.length_map, List.zip_map, List.map_map]
  rfl
theorem idxd_mem {α : Type} {xs : List α} {z : Nat × α} (h : z ∈ idxd xs) : xs[z.1]? = some z.2 := by
  obtain ⟨i, hi, e⟩ := List.mem_iff_getElem.mp h
  have h1 : (idxd xs)[i]? = some z := by rw [List.getElem?_eq_getElem hi, e]
  unfold idxd at h1
  obtain ⟨h2, h3⟩ := List.getElem?_zip_eq_some.mp h1
  have hl : i < xs.length := (List.getElem?_eq_some_iff.mp h3).1
  rw [List.getElem?_range hl] at h2
  cases h2
  exact h3
theorem mem_idxd {α : Type} {xs : List α} {i : Nat} {x : α} (h : xs[i]? = some x) : (i, x) ∈ idxd xs := by
  have hl : i < xs.length := (List.getElem?_eq_some_iff.mp h).1
  refine List.mem_of_getElem? (i := i) ?_
  unfold idxd
  exact List.getElem?_zip_eq_some.mpr ⟨List.getElem?_range hl, h⟩
theorem idxd_length {α : Type} (xs : List α) : (idxd xs).length = xs.length := by unfold idxd; simp
/-- the places of those that fail -/
def failL (ps : List Prog) : List D := ((idxd ps).filter fun z => z.2.broken.isSome).map fun z => D.tup [.int z.2.span, .int (z.1 : Int)]
theorem mem_failL {ps : List Prog} {d : D} : d ∈ failL ps ↔ ∃ (i : Nat) (p : Prog), ps[i]? = some p ∧ p.broken.isSome = true ∧ d = .tup [.int p.span, .int (i : Int)] := by
  unfold failL
  rw [List.mem_map]
  constructor
  · rintro ⟨z, hz, rfl⟩
    obtain ⟨h1, h2⟩ := List.mem_filter.mp hz
    exact ⟨z.1, z.2, idxd_mem h1, h2, rfl⟩
  · rintro ⟨i, p, h1, h2, rfl⟩
    exact ⟨(i, p), List.mem_filter.mpr ⟨mem_idxd h1, h2⟩, rfl⟩
theorem failL_nil {ps : List Prog} (h : failL ps = []) : firstFail ps = none := by
  cases e : firstFail ps with
  | none => rfl
  | some f =>
    obtain ⟨f1, f2, _⟩ := firstFail_some e
    obtain ⟨i, hi, ei⟩ := List.mem_iff_getElem.mp f1
    have : D.tup [.int f.span, .int (i : Int)] ∈ failL ps := mem_failL.mpr ⟨i, f, by rw [List.getElem?_eq_getElem hi, ei], f2, rfl⟩
    rw [h] at this
    cases this
theorem minT_fail {ps : List Prog} {ω : Om} {Φ : D → Om → Prop} (h : failL ps ≠ []) (k : ∀ (i : Nat) (p : Prog), ps[i]? = some p → p.broken.isSome = true → firstFail ps = some p → Φ (.tup [.int p.span, .int (i : Int)]) ω) : cMinT [.lst (failL ps)] ω Φ := by
  simp only [cMinT, asL, onS]
  refine ⟨h, fun d hd => ?_, fun i d ns hi hns hmin => ?_⟩
  · obtain ⟨i, p, _, _, rfl⟩ := mem_failL.mp hd
    intro z
    cases z
  · obtain ⟨i0, p, h1, h2, rfl⟩ := mem_failL.mp (List.mem_of_getElem? hi)
    cases hns
    refine k i0 p h1 h2 (firstFail_at h1 h2 fun j q hj hq => ?_)
    obtain ⟨j', hj', ej'⟩ := List.mem_iff_getElem.mp (mem_failL.mpr ⟨j, q, hj, hq, rfl⟩)
    have h3 := (hmin j' _ [q.span, (j : Int)] (by rw [List.getElem?_eq_getElem hj', ej']) rfl).1
    rw [HT.lexLt_cons] at h3
    by_cases e : q.span = p.span
    · rw [if_pos e, HT.lexLt_cons] at h3
      by_cases e2 : (j : Int) = (i0 : Int)
      · omega
      · rw [if_neg e2] at h3
        have := of_decide_eq_false h3
        omega
    · rw [if_neg e] at h3
      have := of_decide_eq_false h3
      omega
theorem om_put_id {ω : Om} {l : Addr} {c : Cell} (h : ω l = some c) : ω.put l c = ω := by
  funext x
  by_cases e : x = l
  · rw [e, Om.put_same, h]
  · rw [Om.put_ne e]
end Cu

/-! == RowA -/
set_option maxHeartbeats 4000000
namespace Cu
open PySem PySem.Spec PyProof.Rows L2 Evl CuT
/-! ### programs played with a clock (law k01): plain -/

def flatsF (ps : List Prog) : List Prog := ps.flatMap flatP
theorem seqF_flats {ps : List Prog} (h2 : 2 ≤ ps.length) (h3 : ps.length ≤ 3) : seqF ps = mkP .seq (flatsF ps) 0 [] := by
  unfold flatsF
  match ps, h2, h3 with
  | [a, b], _, _ =>
    show addP a b = _
    unfold addP
    simp
  | [a, b, c], _, _ =>
    show addP (addP a b) c = _
    unfold addP
    have e : flatP (mkP .seq (flatP a ++ flatP b) 0 []) = flatP a ++ flatP b := rfl
    rw [e]
    simp
theorem seqM_flats : ∀ {ps : List Prog} {t : Int}, (∀ p ∈ ps, WF p) → seqM (flatsF ps) t = seqM ps t
  | [], t, _ => rfl
  | p :: r, t, h => by
    have e : flatsF (p :: r) = flatP p ++ flatsF r := by unfold flatsF; rw [List.flatMap_cons]
    rw [e, seqM_append, seqM_flat (h p (.head _)), seqM]
    cases hb : p.broken with
    | none =>
      dsimp only
      rw [if_pos rfl, seqM_flats fun q hq => h q (List.mem_cons_of_mem _ hq)]
    | some z =>
      dsimp only
      rw [if_neg (fun z => nomatch z)]
theorem endS_flats : ∀ {ps : List Prog} {b c : Int}, (∀ p ∈ ps, WF p) → b ≤ c → c < (seqM ps b).1 → endS (flatsF ps) b c = endS ps b c
  | [], b, c, _, h0, h1 => by
    have h1 : c < b := h1
    omega
  | p :: r, b, c, h, h0, h1 => by
    have wp := h p (.head _)
    have e : flatsF (p :: r) = flatP p ++ flatsF r := by unfold flatsF; rw [List.flatMap_cons]
    rw [e, endS]
    by_cases z : c < b + p.span
    · rw [if_pos z, endS_left _ _ _ _ (by rw [seqM_flat wp]; exact z) h0]
      have := endS_shift (flatP p) b 0 c
      rw [Int.add_zero] at this
      rw [this, endS_flat wp (by omega) (by omega)]
    · rw [if_neg z]
      have hb : p.broken = none := by
        cases hb : p.broken with
        | none => rfl
        | some y =>
          unfold seqM at h1
          rw [hb] at h1
          have h1 : c < b + p.span := h1
          omega
      have hs : seqM (flatP p) b = (b + p.span, none) := by rw [seqM_flat wp, hb]
      rw [endS_right _ _ _ _ (flat_good wp) (by rw [hs]) (by rw [hs]; omega), hs]
      unfold seqM at h1
      rw [hb] at h1
      exact endS_flats (fun q hq => h q (List.mem_cons_of_mem _ hq)) (by omega) h1
/-- a program that is a row of parts -/
def RowOf (p : Prog) (rs : List Prog) : Prop := seqM rs 0 = (p.span, p.broken) ∧ (∀ c, 0 < c → c < p.span → endA p c = endS rs 0 c) ∧ ∀ q ∈ rs, WF q
theorem row_of_seq {ps : List Prog} (h2 : 2 ≤ ps.length) (h3 : ps.length ≤ 3) (hw : ∀ q ∈ ps, WF q) : RowOf (seqF ps) ps := by
  rw [seqF_flats h2 h3]
  have e : seqM ps 0 = ((mkP .seq (flatsF ps) 0 []).span, (mkP .seq (flatsF ps) 0 []).broken) := (seqM_flats hw).symm
  refine ⟨e, fun c h0 h1 => ?_, hw⟩
  rw [endA_seq (p := mkP .seq (flatsF ps) 0 []) (.inl rfl) h0 h1]
  exact endS_flats hw (by omega) (by rw [e]; exact h1)
theorem seqM_rep (q : Prog) : ∀ (k : Nat) (t : Int), seqM (List.replicate k q) t = if k = 0 then (t, none) else (t + q.span * (if q.broken = none then (k : Int) else 1), q.broken)
  | 0, t => by
    rw [if_pos rfl]
    rfl
  | k + 1, t => by
    rw [List.replicate_succ, if_neg (Nat.succ_ne_zero k), seqM]
    cases hb : q.broken with
    | some z =>
      dsimp only
      rw [if_neg (fun z => nomatch z), Int.mul_one]
    | none =>
      dsimp only
      rw [seqM_rep q k, if_pos rfl]
      by_cases z : k = 0
      · subst z
        rw [if_pos rfl]
        simp
      · rw [if_neg z, hb, if_pos rfl]
        have : q.span * ((k + 1 : Nat) : Int) = q.span * (k : Int) + q.span := by
          rw [Int.natCast_add, Int.mul_add]
          simp
        rw [this]
        congr 1
        omega
theorem sumS_rep (q : Prog) : ∀ k : Nat, sumS (List.replicate k q) = q.span * k
  | 0 => by
    show (0 : Int) = _
    simp
  | k + 1 => by
    have e : sumS (q :: List.replicate k q) = q.span + sumS (List.replicate k q) := by unfold sumS; rw [List.map_cons, List.sum_cons]
    rw [List.replicate_succ, e, sumS_rep q k, Int.natCast_add, Int.mul_add]
    simp
    omega
theorem row_of_loop {q : Prog} {n : Int} (wq : WF q) (n0 : 0 ≤ n) : RowOf (mkP .loop [q] n []) (List.replicate n.toNat q) := by
  have G := wf_good wq
  have hsp := loop_span2 (p := q) (k := n)
  have hsp1 : (mkP .loop [q] n []).span = (if n = 0 then 0 else q.span * (if q.broken = none then n else 1)) := hsp.1
  have hsp2 : (mkP .loop [q] n []).broken = (if n = 0 then none else q.broken) := hsp.2
  refine ⟨?_, fun c h0 h1 => ?_, fun p hp => by rw [(List.mem_replicate.mp hp).2]; exact wq⟩
  · rw [seqM_rep, hsp1, hsp2]
    by_cases z : n = 0
    · rw [if_pos (by omega), if_pos z, if_pos z]
    · rw [if_neg (by omega), if_neg z, if_neg z, show ((n.toNat : Nat) : Int) = n by omega, Int.zero_add]
  · have e := loop_mid (p := q) (k := n) h0 h1
    have e : endA (mkP .loop [q] n []) c = (let r := if q.span = 0 then 0 else min (c / q.span) (n - 1); r * q.span + endA q (c - r * q.span)) := e
    rw [e]
    have nz : n ≠ 0 := fun z => by
      rw [hsp1, if_pos z] at h1
      omega
    rw [hsp1, if_neg nz] at h1
    have sp := G.sp
    have s0 : q.span ≠ 0 := fun z => by
      rw [z, Int.zero_mul] at h1
      omega
    dsimp only
    rw [if_neg s0]
    have d0 : 0 ≤ c / q.span := Int.ediv_nonneg (by omega) (by omega)
    have d1 : q.span * (c / q.span) ≤ c := Int.mul_ediv_self_le s0
    have d2 : c < q.span * (c / q.span) + q.span := Int.lt_mul_ediv_self_add (by omega)
    have key : c / q.span < n := by
      by_cases hb : q.broken = none
      · rw [if_pos hb] at h1
        exact Int.ediv_lt_of_lt_mul (by omega) (by rw [Int.mul_comm]; exact h1)
      · rw [if_neg hb, Int.mul_one] at h1
        rw [Int.ediv_eq_zero_of_lt (by omega) h1]
        omega
    rw [show min (c / q.span) (n - 1) = c / q.span by omega]
    generalize c / q.span = k at *
    obtain ⟨j, hj⟩ : ∃ j : Nat, n.toNat = k.toNat + (j + 1) := ⟨n.toNat - k.toNat - 1, by omega⟩
    have hk : ((k.toNat : Nat) : Int) = k := by omega
    have hs : sumS (List.replicate k.toNat q) = q.span * k := by rw [sumS_rep, hk]
    rw [hj, ← List.replicate_append_replicate, endS_skip (fun p hp => by rw [(List.mem_replicate.mp hp).2]; exact G) (by rw [hs]; omega), hs, List.replicate_succ, endS, if_pos (by omega), Int.zero_add, Int.mul_comm]
/-! ### xs * k -/
end Cu

/-! == MathT -/
set_option maxHeartbeats 4000000
namespace Cu
open PySem PySem.Spec PyProof.Rows L2 Evl CuT
/-! ### lists of the ends after all cuts -/
def endsL (p : Prog) : List Int := (List.range (p.span.toNat + 1)).map fun (c : Nat) => endA p c
theorem endsL_len (p : Prog) : (endsL p).length = p.span.toNat + 1 := by unfold endsL; rw [List.length_map, List.length_range]
theorem endsL_at (p : Prog) {i : Nat} (h : i ≤ p.span.toNat) : (endsL p)[i]? = some (endA p i) := by
  unfold endsL
  rw [List.getElem?_map, List.getElem?_range (by omega)]
  rfl
theorem endsL_ext {p : Prog} {l : List Int} (h1 : l.length = p.span.toNat + 1) (h2 : ∀ i : Nat, i ≤ p.span.toNat → l[i]? = some (endA p i)) : l = endsL p := by
  refine List.ext_getElem? fun i => ?_
  by_cases z : i ≤ p.span.toNat
  · rw [h2 i z, endsL_at p z]
  · rw [List.getElem?_eq_none (by omega), List.getElem?_eq_none (by rw [endsL_len]; omega)]
/-- the ends of a row of parts -/
def rowE (rs : List Prog) (c : Int) : Int := if (seqM rs 0).1 ≤ c then (seqM rs 0).1 else endS rs 0 c
def rowL (rs : List Prog) : List Int := (List.range ((seqM rs 0).1.toNat + 1)).map fun (c : Nat) => rowE rs c
theorem rowL_len (rs : List Prog) : (rowL rs).length = (seqM rs 0).1.toNat + 1 := by unfold rowL; rw [List.length_map, List.length_range]
theorem rowL_at (rs : List Prog) {i : Nat} (h : i ≤ (seqM rs 0).1.toNat) : (rowL rs)[i]? = some (rowE rs i) := by
  unfold rowL
  rw [List.getElem?_map, List.getElem?_range (by omega)]
  rfl
theorem rowL_ext {rs : List Prog} {l : List Int} (h1 : l.length = (seqM rs 0).1.toNat + 1) (h2 : ∀ i : Nat, i ≤ (seqM rs 0).1.toNat → l[i]? = some (rowE rs i)) : l = rowL rs := by
  refine List.ext_getElem? fun i => ?_
  by_cases z : i ≤ (seqM rs 0).1.toNat
  · rw [h2 i z, rowL_at rs z]
  · rw [List.getElem?_eq_none (by omega), List.getElem?_eq_none (by rw [rowL_len]; omega)]
theorem rowL_nil : rowL [] = [0] := rfl
theorem seqM_nonneg : ∀ (rs : List Prog) (t : Int), (∀ q ∈ rs, Good q) → t ≤ (seqM rs t).1
  | [], t, _ => Int.le_refl t
  | p :: r, t, h => by
    have sp := (h p (.head _)).sp
    unfold seqM
    cases p.broken with
    | none =>
      have := seqM_nonneg r (t + p.span) fun q hq => h q (List.mem_cons_of_mem _ hq)
      dsimp only
      omega
    | some z =>
      dsimp only
      omega
/-- what a failure leaves -/
theorem rowL_stop {rs : List Prog} {q : Prog} (h : (seqM rs 0).2 ≠ none) : rowL (rs ++ [q]) = rowL rs ∧ seqM (rs ++ [q]) 0 = seqM rs 0 := by
  have e : seqM (rs ++ [q]) 0 = seqM rs 0 := by rw [seqM_append, if_neg h]
  refine ⟨(rowL_ext (by rw [e, rowL_len]) fun i hi => ?_).symm ▸ rfl, e⟩
  rw [e] at hi
  rw [rowL_at rs hi]
  unfold rowE
  rw [e]
  by_cases z : (seqM rs 0).1 ≤ (i : Int)
  · rw [if_pos z, if_pos z]
  · rw [if_neg z, if_neg z, endS_left _ _ _ _ (by omega) (by omega)]
theorem rowL_next {rs : List Prog} {q : Prog} (hw : ∀ p ∈ rs, Good p) (G : Good q) (h : (seqM rs 0).2 = none) : (rowL rs).dropLast ++ (endsL q).map (fun e => (seqM rs 0).1 + e) = rowL (rs ++ [q]) ∧ seqM (rs ++ [q]) 0 = ((seqM rs 0).1 + q.span, q.broken) := by
  have sp := G.sp
  have s0 := seqM_nonneg rs 0 hw
  have e : seqM (rs ++ [q]) 0 = ((seqM rs 0).1 + q.span, q.broken) := by
    rw [seqM_append, if_pos h, seqM]
    cases hb : q.broken with
    | none => rfl
    | some z => rfl
  refine ⟨rowL_ext (by rw [e, List.length_append, List.length_dropLast, List.length_map, rowL_len, endsL_len]; dsimp only; omega) fun i hi => ?_, e⟩
  rw [e] at hi
  dsimp only at hi
  by_cases z : (i : Int) < (seqM rs 0).1
  · rw [List.getElem?_append_left (by rw [List.length_dropLast, rowL_len]; omega), List.getElem?_dropLast, if_pos (by rw [rowL_len]; omega), rowL_at rs (by omega)]
    unfold rowE
    rw [e, if_neg (by omega), if_neg (by dsimp only; omega), endS_left _ _ _ _ z (by omega)]
  · have hl : (rowL rs).dropLast.length = (seqM rs 0).1.toNat := by rw [List.length_dropLast, rowL_len]; omega
    rw [List.getElem?_append_right (by rw [hl]; omega), hl, List.getElem?_map, endsL_at q (by omega)]
    have ei : ((i - (seqM rs 0).1.toNat : Nat) : Int) = (i : Int) - (seqM rs 0).1 := by omega
    show some ((seqM rs 0).1 + endA q ((i - (seqM rs 0).1.toNat : Nat) : Int)) = some (rowE (rs ++ [q]) i)
    rw [ei]
    unfold rowE
    rw [e]
    dsimp only
    by_cases y : (seqM rs 0).1 + q.span ≤ (i : Int)
    · rw [if_pos y, endA_late (by omega)]
    · rw [if_neg y, endS_right _ _ _ _ hw h (by omega), endS, if_pos (by omega)]
theorem rowL_of {p : Prog} {rs : List Prog} (hsp : 0 ≤ p.span) (h1 : seqM rs 0 = (p.span, p.broken)) (h2 : ∀ c, 0 < c → c < p.span → endA p c = endS rs 0 c) (hw : ∀ q ∈ rs, Good q) : rowL rs = endsL p := by
  refine endsL_ext (by rw [rowL_len, h1]) fun i hi => ?_
  rw [rowL_at rs (by rw [h1]; exact hi)]
  unfold rowE
  rw [h1]
  dsimp only
  by_cases z : p.span ≤ (i : Int)
  · rw [if_pos z, endA_late z]
  · rw [if_neg z]
    by_cases y : i = 0
    · subst y
      show some (endS rs 0 0) = some (endA p 0)
      rw [endA_zero hsp, endS_at rs 0 hw]
    · rw [h2 i (by omega) (by omega)]
end Cu

/-! == MathU -/
set_option maxHeartbeats 4000000
namespace Cu
open PySem PySem.Spec PyProof.Rows L2 Evl CuT
/-! ### lists of ends, construct by construct -/
/-- the same program, as if it succeeded -/
def unB (p : Prog) : Prog := .mk p.kind p.parts p.number p.words p.nodes p.depth p.span none
theorem unB_end (p : Prog) (c : Int) : endA (unB p) c = endA p c := by
  obtain ⟨k, ps, n, ws, nd, d, s, b⟩ := p
  show endA (.mk k ps n ws nd d s none) c = endA (.mk k ps n ws nd d s b) c
  unfold endA
  rfl
theorem unB_good {p : Prog} (g : Good p) : Good (unB p) := ⟨g.sp, fun c h0 h1 => by rw [unB_end]; exact g.lo c h0 h1, fun c h0 => by rw [unB_end]; exact g.hi c h0, fun c c' h0 h1 => by rw [unB_end, unB_end]; exact g.mono c c' h0 h1⟩
theorem unB_ends (p : Prog) : endsL (unB p) = endsL p := by
  unfold endsL
  show (List.range (p.span.toNat + 1)).map _ = _
  refine List.map_congr_left fun c _ => unB_end p _
theorem rowL_row {p : Prog} {rs : List Prog} (hsp : 0 ≤ p.span) (h : RowOf p rs) : rowL rs = endsL p := rowL_of hsp h.1 h.2.1 fun q hq => wf_good (h.2.2 q hq)
theorem rowL_fb {a b : Prog} {ws : List Str} {w : Str} (wa : WF a) (wb : WF b) (wp : WF (mkP .fallback [a, b] 0 ws)) (hb : a.broken = some w) (hw : w ∈ ws) : rowL [unB a, b] = endsL (mkP .fallback [a, b] 0 ws) ∧ seqM [unB a, b] 0 = ((mkP .fallback [a, b] 0 ws).span, (mkP .fallback [a, b] 0 ws).broken) := by
  obtain ⟨e1, e2⟩ := fb_caught (q := b) hb hw
  have ga := wf_good wa
  have gb := wf_good wb
  have es : seqM [unB a, b] 0 = ((mkP .fallback [a, b] 0 ws).span, (mkP .fallback [a, b] 0 ws).broken) := by
    rw [e1, e2]
    show (match b.broken with | some w => (0 + a.span + b.span, some w) | none => (0 + a.span + b.span, none)) = _
    cases b.broken <;> simp
  refine ⟨rowL_of (wf_good wp).sp es (fun c c0 c1 => ?_) fun q hq => ?_, es⟩
  · rw [endA_seq (p := mkP .fallback [a, b] 0 ws) (.inr rfl) c0 c1]
    show endS [a, b] 0 c = _
    show _ = endS (unB a :: [b]) 0 c
    rw [endS, endS, endS, endS, unB_end]
    rfl
  · simp only [List.mem_cons, List.not_mem_nil, or_false] at hq
    rcases hq with rfl | rfl
    · exact unB_good ga
    · exact gb
theorem endsL_other {a b : Prog} {ws : List Str} (wa : WF a) (wb : WF b) (hb : ∀ w, a.broken = some w → w ∉ ws) : endsL (mkP .fallback [a, b] 0 ws) = endsL a ∧ (mkP .fallback [a, b] 0 ws).broken = a.broken := by
  obtain ⟨e1, e2⟩ := fb_other (q := b) hb
  refine ⟨(endsL_ext (by rw [endsL_len, e1]) fun i hi => ?_).symm, e2⟩
  rw [e1] at hi
  rw [endsL_at a hi]
  have sa := (wf_good wa).sp
  rcases fb_end wa wb (c := (i : Int)) (ws := ws) (by omega) (by rw [e1]; exact Int.le_refl _) (by omega) with e | e
  · rw [e]
  · rw [endA_late (p := a) (by omega), endA_late (p := mkP .fallback [a, b] 0 ws) (by rw [e1]; omega), e1]
theorem endsL_sleep {n : Int} (h0 : 0 ≤ n) : endsL (mkP .sleep [] n []) = (List.range (n.toNat + 1)).map fun (c : Nat) => (c : Int) := by
  refine (endsL_ext (by rw [List.length_map, List.length_range]; rfl) fun i hi => ?_).symm
  have hi : i ≤ n.toNat := hi
  rw [List.getElem?_map, List.getElem?_range (by omega)]
  show some (i : Int) = _
  have hs : (mkP .sleep [] n []).span = n := rfl
  by_cases z : n ≤ (i : Int)
  · rw [endA_late (p := mkP .sleep [] n []) z, hs]
    congr 1
    omega
  · by_cases y : i = 0
    · subst y
      show some (0 : Int) = some (endA (mkP .sleep [] n []) 0)
      rw [endA_zero (p := mkP .sleep [] n []) h0]
    · rw [endA_sleep (p := mkP .sleep [] n []) rfl (by omega) (by rw [hs]; omega)]
theorem endsL_fail {z : Str} : endsL (mkP .fail [] 0 [z]) = [0] := by
  refine (endsL_ext rfl fun i hi => ?_).symm
  have hi : i ≤ 0 := hi
  have e : i = 0 := by omega
  subst e
  show some (0 : Int) = some (endA (mkP .fail [] 0 [z]) 0)
  rw [endA_zero (p := mkP .fail [] 0 [z]) (Int.le_refl 0)]
theorem endsL_shield {a : Prog} (wa : WF a) : endsL (mkP .shield [a] 0 []) = 0 :: List.replicate a.span.toNat a.span := by
  have sp := (wf_good wa).sp
  refine (endsL_ext (by rw [List.length_cons, List.length_replicate]; rfl) fun i hi => ?_).symm
  have hi : i ≤ a.span.toNat := hi
  rw [shield_end wa (by omega)]
  cases i with
  | zero => rfl
  | succ i =>
    rw [List.getElem?_cons_succ, List.getElem?_replicate, if_pos (by omega), if_pos (by omega)]
theorem endsL_cleanup {a b : Prog} (wa : WF a) (wb : WF b) : endsL (mkP .cleanup [a, b] 0 []) = 0 :: ((endsL a).drop 1).map (fun e => e + b.span) ++ List.replicate b.span.toNat (a.span + b.span) := by
  have ga := wf_good wa
  have sa := ga.sp
  have sb := (wf_good wb).sp
  have hs : (mkP .cleanup [a, b] 0 []).span = a.span + b.span := rfl
  refine (endsL_ext (by rw [List.length_append, List.length_cons, List.length_map, List.length_drop, endsL_len, List.length_replicate, hs]; omega) fun i hi => ?_).symm
  rw [hs] at hi
  rw [cleanup_end wa wb (by omega)]
  cases i with
  | zero => rfl
  | succ i =>
    rw [if_pos (by omega)]
    by_cases z : i < a.span.toNat
    · rw [List.getElem?_append_left (by rw [List.length_cons, List.length_map, List.length_drop, endsL_len]; omega), List.getElem?_cons_succ, List.getElem?_map, List.getElem?_drop, endsL_at a (by omega)]
      show some (endA a ((1 + i : Nat) : Int) + b.span) = _
      have hi2 := ga.hi ((i + 1 : Nat) : Int) (by omega)
      rw [Nat.add_comm 1 i, Int.min_eq_left (a := ((i + 1 : Nat) : Int)) (by omega), Int.min_eq_left (by omega)]
    · rw [List.getElem?_append_right (by rw [List.length_cons, List.length_map, List.length_drop, endsL_len]; omega), List.getElem?_replicate, if_pos (by rw [List.length_cons, List.length_map, List.length_drop, endsL_len]; omega)]
      rw [endA_late (p := a) (c := min ((i + 1 : Nat) : Int) a.span) (by omega), Int.min_eq_left (by omega)]
theorem endsL_limit {a : Prog} (wa : WF a) {k : Kind} (hk : k = .timeout ∨ k = .moveon) {n : Int} (n0 : 0 ≤ n) {ws : List Str} : (a.span ≤ n → endsL (mkP k [a] n ws) = endsL a ∧ (mkP k [a] n ws).broken = a.broken) ∧
    (n < a.span → endsL (mkP k [a] n ws) = (endsL a).take n.toNat ++ List.replicate (endA a n - n + 1).toNat (endA a n) ∧ (mkP k [a] n ws).broken = ws.head?) := by
  have ga := wf_good wa
  have sa := ga.sp
  obtain ⟨m1, m2⟩ := lim_meas (p := a) hk (n := n) (ws := ws)
  constructor
  · intro h
    rw [if_neg (by omega)] at m1 m2
    refine ⟨(endsL_ext (by rw [endsL_len, m1]) fun i hi => ?_).symm, m2⟩
    rw [m1] at hi
    rw [endsL_at a hi, lim_end wa hk n0 (by omega), if_neg (by omega)]
  · intro h
    rw [if_pos h] at m1 m2
    have lo := ga.lo n n0 (by omega)
    have hi' := ga.hi n n0
    refine ⟨(endsL_ext (by rw [List.length_append, List.length_take, endsL_len, List.length_replicate, m1]; omega) fun i hi => ?_).symm, m2⟩
    rw [m1] at hi
    rw [lim_end wa hk n0 (by omega)]
    by_cases z : i < n.toNat
    · rw [List.getElem?_append_left (by rw [List.length_take, endsL_len]; omega), List.getElem?_take_of_lt z, endsL_at a (by omega), if_neg (by omega)]
    · rw [List.getElem?_append_right (by rw [List.length_take, endsL_len]; omega), List.getElem?_replicate, if_pos (by rw [List.length_take, endsL_len]; omega), if_pos (by omega)]
      split
      · rfl
      · have e0 : n = 0 := by omega
        rw [e0, endA_zero sa]
/-- groups -/
def stopG (ps : List Prog) : Option Int := (firstFail ps).map Prog.span
def runG (ps : List Prog) (c : Int) : List Prog := ps.filter fun p => decide (c < p.span) && (match stopG ps with | some t => decide (c < t) | none => true)
theorem group_at {ps : List Prog} (hne : ps ≠ []) (hw : ∀ p ∈ ps, WF p) {c : Int} (hc : 0 ≤ c) (h : c ≤ (grpM ps).1) :
    (runG ps c ≠ [] → endA (mkP .together ps 0 []) c = maxL ((runG ps c).map fun p => endA p c)) ∧ (runG ps c = [] → endA (mkP .together ps 0 []) c = (grpM ps).1) := by
  have hg : ∀ p ∈ ps, Good p := fun p hp => wf_good (hw p hp)
  obtain ⟨s0, g1, g2⟩ := grp_facts hne hg
  rw [due_eq hne hw hc]
  unfold dueG
  have eS : (firstFail ps).map Prog.span = stopG ps := rfl
  rw [eS]
  by_cases z : c = 0
  · subst z
    rw [if_pos (.inl rfl), if_neg (by omega)]
    constructor
    · intro hr
      have hr2 : ((runG ps 0).map fun p => endA p 0) ≠ [] := fun e => hr (List.map_eq_nil_iff.mp e)
      obtain ⟨p, hp, e⟩ := List.mem_map.mp (maxL_mem hr2)
      rw [← e, endA_zero (hg p ((List.mem_filter.mp hp).1)).sp]
    · intro hr
      cases hf : firstFail ps with
      | none =>
        rw [g2 hf]
        have hne' : ps.map Prog.span ≠ [] := fun e => hne (List.map_eq_nil_iff.mp e)
        obtain ⟨p, hp, e⟩ := List.mem_map.mp (maxL_mem hne')
        have hst : stopG ps = none := by unfold stopG; rw [hf]; rfl
        by_cases y : 0 < p.span
        · exfalso
          have : p ∈ runG ps 0 := List.mem_filter.mpr ⟨hp, by rw [hst]; simp [y]⟩
          rw [hr] at this
          cases this
        · have := (hg p hp).sp
          omega
      | some f =>
        obtain ⟨f1, f2, f3⟩ := g1 f hf
        have hst : stopG ps = some f.span := by unfold stopG; rw [hf]; rfl
        have hfm := (firstFail_some hf).1
        have sf := (hg f hfm).sp
        have fz : f.span = 0 := by
          by_cases y : 0 < f.span
          · exfalso
            have : f ∈ runG ps 0 := List.mem_filter.mpr ⟨hfm, by rw [hst]; simp [y]⟩
            rw [hr] at this
            cases this
          · omega
        rw [f3, fz]
        have hne' : (ps.map fun p => endA p 0) ≠ [] := fun e => hne (List.map_eq_nil_iff.mp e)
        obtain ⟨p, hp, e⟩ := List.mem_map.mp (maxL_mem hne')
        rw [← e, endA_zero (hg p hp).sp]
  · have late : ∀ t, stopG ps = some t → t ≤ c → runG ps c = [] := fun t ht htc => by
      unfold runG
      rw [ht]
      refine List.filter_eq_nil_iff.mpr fun p hp => ?_
      simp
      intro _
      omega
    by_cases y : (grpM ps).1 ≤ c
    · rw [if_pos (.inr y), if_pos (by omega)]
      have hr : runG ps c = [] := by
        cases hf : firstFail ps with
        | none =>
          have e := g2 hf
          unfold runG
          refine List.filter_eq_nil_iff.mpr fun p hp => ?_
          have := le_maxL (List.mem_map.mpr ⟨p, hp, rfl⟩ : p.span ∈ ps.map Prog.span)
          simp
          intro _
          omega
        | some f =>
          obtain ⟨f1, _, _⟩ := g1 f hf
          exact late f.span (by unfold stopG; rw [hf]; rfl) (by omega)
      exact ⟨fun h => absurd hr h, fun _ => rfl⟩
    · rw [if_neg (by omega)]
      have early : (∀ t, stopG ps = some t → c < t) → runG ps c ≠ [] ∧ runG ps c = ps.filter fun p => decide (c < p.span) := fun ht => by
        have e : runG ps c = ps.filter fun p => decide (c < p.span) := by
          unfold runG
          refine List.filter_congr fun p hp => ?_
          cases hs : stopG ps with
          | none => simp
          | some t => simp [ht t hs]
        obtain ⟨p, hp, h1⟩ := grp_open hne hw hc (by omega) ht
        refine ⟨fun hr => ?_, e⟩
        rw [e] at hr
        have : p ∈ ps.filter fun p => decide (c < p.span) := List.mem_filter.mpr ⟨hp, by simp [h1]⟩
        rw [hr] at this
        cases this
      cases hs : stopG ps with
      | none =>
        obtain ⟨e1, e2⟩ := early fun t ht => by rw [hs] at ht; cases ht
        exact ⟨fun _ => by rw [e2], fun h => absurd h e1⟩
      | some t =>
        dsimp only
        by_cases q : t ≤ c
        · rw [if_pos q]
          have := late t hs q
          exact ⟨fun h => absurd this h, fun _ => rfl⟩
        · rw [if_neg q]
          obtain ⟨e1, e2⟩ := early fun t' ht => by rw [hs] at ht; cases ht; omega
          exact ⟨fun _ => by rw [e2], fun h => absurd h e1⟩
end Cu

/-! == DV -/
set_option maxHeartbeats 4000000
namespace Cu
open PySem PySem.Spec PyProof.Rows L2 Evl CuT
/-! ### rounds and paths -/
theorem enumD_len (xs : List D) : (enumD xs).length = xs.length := by unfold enumD zipD; simp
theorem enumD_at {xs : List D} {i : Nat} {d : D} (h : (enumD xs)[i]? = some d) : ∃ x, xs[i]? = some x ∧ d = .tup [.int (i : Int), x] := by
  have hi := (List.getElem?_eq_some_iff.mp h).1
  rw [enumD_len] at hi
  refine ⟨xs[i], List.getElem?_eq_getElem hi, ?_⟩
  unfold enumD zipD at h
  have e : ((List.map (fun (i : Nat) => D.int (i : Int)) (List.range xs.length)).zip xs)[i]? = some (D.int (i : Int), xs[i]) := List.getElem?_zip_eq_some.mpr ⟨by rw [List.getElem?_map, List.getElem?_range hi]; rfl, List.getElem?_eq_getElem hi⟩
  rw [List.getElem?_map, e] at h
  exact (Option.some.inj h).symm
/-! ### xs * k -/
theorem repL_rep {K : PySem.W.Frag} {G : Hp} {xs : List V} {ds : List D} (h : RepL K G xs ds) : ∀ k : Nat, RepL K G (List.replicate k xs).flatten (List.replicate k ds).flatten
  | 0 => .nil
  | k + 1 => by
    rw [List.replicate_succ, List.flatten_cons, List.replicate_succ, List.flatten_cons]
    exact h.append (repL_rep h k)
theorem ok_rep {K : PySem.W.Frag} : OpOk K rRep oRep := fun F G ω H x y dx dy Φ Q s rx ry hd k => by
  cases dy with
  | int n =>
    obtain ⟨es, h2, h0, h1, hl, h⟩ := onS_ok hd
    obtain ⟨a, xs, rfl, ha, hr⟩ := asL_ok s rx h2
    refine ⟨a, n, xs, rfl, ry.invI, ha, by omega, by omega, ?_, fun p hp => ?_⟩
    · rw [sizeLine_eq, hr.len]
      omega
    · have e := Ex.new (o := .lst (List.replicate n.toNat xs).flatten) (s.freshF hp).2.1
      exact k _ _ ω _ _ h e (s.new trivial hp) (.mkL upd_same ((repL_rep hr n.toNat).ext e))
  | _ => exact hd.elim
end Cu

/-! == DW -/
set_option maxHeartbeats 4000000
namespace Cu
open PySem PySem.Spec PyProof.Rows L2 Evl CuT
/-! ### list(range(n)) -/
section
variable {X : Cx} {E : XK}
def intV (n : Nat) : List V := (List.range n).map fun (i : Nat) => V.int (i : Int)
def tLR (ta : TA) : TE := fun σ H Q => ta σ H fun vs H1 => ∃ n : Int, vs = [.int n] ∧ -100000 ≤ n ∧ n ≤ 100000 ∧ ∀ l, H1 l = none → Q (.ref l) (upd H1 l (.lst (intV n.toNat)))
theorem vals_items : ∀ (n : Nat) (acc : List Value), acc.length = n → (∀ (j : Nat) (v : Value), acc[j]? = some v → ∃ t, v = .int ((j : Int)) t) → Vals (intV n) acc
  | 0, [], _, _ => .nil
  | n + 1, acc, hl, h => by
    obtain ⟨l, v, rfl⟩ : ∃ l v, acc = l ++ [v] := ⟨acc.dropLast, acc.getLast (fun z => by rw [z] at hl; cases hl), (List.dropLast_concat_getLast _).symm⟩
    have hl2 : l.length = n := by
      rw [List.length_append] at hl
      simp at hl
      exact hl
    have ih := vals_items n l hl2 fun j v hj => h j v (by rw [List.getElem?_append_left (List.getElem?_eq_some_iff.mp hj).1]; exact hj)
    obtain ⟨t, rfl⟩ := h n v (by rw [List.getElem?_append_right (by omega), hl2, Nat.sub_self]; rfl)
    unfold intV
    rw [List.range_succ, List.map_append]
    exact ih.snoc ⟨t, rfl⟩
theorem pe_listrange {a : Expr} {ta : TA} {p p1 pos pos1 : Pos} (hc : X.calm = true) (hgl : Gl X "list") (hml : X.mg "list" = none) (hgr : Gl X "range") (hmr : X.mg "range" = none) (ha : PA X [a] ta) (hs : starEach [a] X.env = [(false, eval a X.env)] := by rfl)
    (hs2 : starEach [Expr.Call (.Name "range" p) [a] [] pos] X.env = [(false, eval (.Call (.Name "range" p) [a] [] pos) X.env)] := by rfl) : PE X (.Call (.Name "list" p1) [.Call (.Name "range" p) [a] [] pos] [] pos1) (tLR ta) := by
  refine ⟨fun pins s σ H Q I h => ?_⟩
  refine wpAny_Call_Name_kw (ld_blt I hgl hml PyProof.Rows.boot_list ?_)
  refine PyProof.Rows.callWith_type1 ?_ hs2 rfl
  rw [hs2]
  refine Calls.spliced_cons ?_
  refine Call_ (ld_blt I hgr hmr boot_range (PyProof.Rows.callWith_type1 (thn (ha.run pos pins s σ H _ I h) fun us s1 ⟨vs, H1, I1, r1, q1⟩ => ?_) hs rfl))
  obtain ⟨n, e, n0, n1, q⟩ := q1
  subst e
  cases r1 with
  | cons r rr =>
    cases rr
    obtain ⟨t, rfl⟩ := r
    refine call_range_1 ?_
    refine Calls.spliced_nil ?_
    have I2 : Inv X pins σ H1 { s1 with heap := s1.heap.push { cls := .type "range", data := .fields #[.int 0 s1.toks, .int n t, .int 1 (s1.toks + 1)] }, toks := s1.toks + 1 + 1 } := I1.kept fun b o e => Heap.get?_push_of_some _ e
    refine call_list_range (n := n.toNat) (I.ok.hd hc) (IsRange.new ..) (small_one (by omega) (by omega) (by omega) (by omega)) (by rw [rangeSize_one]; split <;> omega) (by omega) fun h' tk acc' c' kp e it => ?_
    refine ⟨.ref _, _, I2.laid (t' := tk) (o := .lst (intV n.toNat)) kp (Nat.le_refl _) ?_, rfl, q _ (I2.hok.fresh (Nat.le_refl _))⟩
    refine ⟨by unfold intV; rw [List.length_map, List.length_range, sizeLine_eq]; omega, acc'.toList, c', vals_items _ _ it.1 fun j v hj => ?_, ?_⟩
    · obtain ⟨t, ht⟩ := it.2 j v (by rw [← Array.getElem?_toList]; exact hj)
      exact ⟨t, by rw [ht]; congr 1; omega⟩
    · exact e
def dLR (d : RA) : RE := fun ξ ρ ω Φ => d ξ ρ ω fun xs ω1 => match xs with
  | [.int n] => -100000 ≤ n ∧ n ≤ 100000 ∧ Φ (.lst (rangeD 0 n.toNat)) ω1
  | _ => False
theorem de_lr {a : Expr} {d : RA} {p p1 pos pos1 : Pos} (hc : X.calm = true) (hgl : Gl X "list") (hml : X.mg "list" = none) (hgr : Gl X "range") (hmr : X.mg "range" = none) (ha : DA X E [a] d) (hs : starEach [a] X.env = [(false, eval a X.env)] := by rfl)
    (hs2 : starEach [Expr.Call (.Name "range" p) [a] [] pos] X.env = [(false, eval (.Call (.Name "range" p) [a] [] pos) X.env)] := by rfl) : DE X E (.Call (.Name "list" p1) [.Call (.Name "range" p) [a] [] pos] [] pos1) (dLR d) :=
  de_of (pe_listrange hc hgl hml hgr hmr ha hs hs2) fun σ H Q ⟨F, G, ω, ρ, Φ, ξ, s, r, h, k, x⟩ => low_thenA s r x h fun vs ds ω1 G1 H1 h1 e1 s1 r1 => by
    match ds, r1, h1 with
    | [.int n], r1, h1 =>
      obtain ⟨v, r2, rfl, h3, h4⟩ := r1.consInv
      cases h4.nilInv
      cases h3.invI
      refine ⟨n, rfl, h1.1, h1.2.1, fun l hl => ?_⟩
      have e := Ex.new (o := .lst (intV n.toNat)) (s1.freshF hl).2.1
      refine k _ _ ω1 _ _ h1.2.2 (e1.trans e) (s1.new trivial hl) (.mkL upd_same ?_)
      unfold rangeD intV
      have key : ∀ L : List Nat, RepL X.K (upd G1 l (.lst (intV n.toNat))) (L.map fun (i : Nat) => V.int (i : Int)) (L.map fun (i : Nat) => D.int (0 + (i : Int))) := fun L => by
        induction L with
        | nil => exact .nil
        | cons a r ih => exact .cons (by show Rep _ _ (V.int (a : Int)) (D.int (0 + (a : Int))); rw [Int.zero_add]; exact .int) ih
      exact key _
end
end Cu

/-! == BT -/
set_option maxHeartbeats 4000000
namespace Cu
open PySem PySem.Spec PyProof.Rows L2 Evl CuT
/-! ### lists of ends of small programs (laws k10, k11, k13, k15, k16) -/
def intsD (l : List Int) : List D := l.map D.int
def tabD (p : Prog) : D := .tup [.lst (intsD (endsL p)), brD p.broken]
theorem tab_un (p : Prog) : D.tup [.lst (intsD (endsL p)), .non] = tabD (unB p) := by
  unfold tabD
  rw [unB_ends]
  rfl
theorem intsD_len (l : List Int) : (intsD l).length = l.length := by unfold intsD; rw [List.length_map]
theorem cutD_m1 (xs : List D) : cutD xs none (some (-1)) = xs.dropLast := by
  unfold cutD
  have e0 : HT.sIx xs.length 0 none = 0 := rfl
  have e1 : HT.sIx xs.length xs.length (some (-1)) = xs.length - 1 := by
    unfold HT.sIx
    simp
    omega
  rw [e0, e1, List.drop_zero, Nat.sub_zero, List.dropLast_eq_take]
theorem row_last (rs : List Prog) (h : 0 ≤ (seqM rs 0).1) : atI (intsD (rowL rs)) (-1) = some (.int (seqM rs 0).1) := by
  have e : rowL rs = (List.range (seqM rs 0).1.toNat).map (fun (c : Nat) => rowE rs c) ++ [(seqM rs 0).1] := by
    unfold rowL
    rw [List.range_succ, List.map_append]
    congr 1
    show [rowE rs _] = _
    unfold rowE
    rw [if_pos (by omega)]
  unfold intsD
  rw [e, List.map_append]
  exact atI_m1
theorem dropD (l : List Int) : (intsD l).dropLast = intsD l.dropLast := by
  unfold intsD
  rw [List.map_dropLast]
def sRowOf : SD := fun _ ds ω Φ => match ds with
  | [.lst rows] => ∃ rs, rows = rs.map tabD ∧ (∀ q ∈ rs, Good q) ∧ sumS rs ≤ 90000 ∧ rs.length ≤ 90000 ∧ Φ (.tup [.lst (intsD (rowL rs)), brD (seqM rs 0).2]) ω
  | _ => False
theorem sumS_take {rs : List Prog} (h : ∀ q ∈ rs, Good q) (i : Nat) : sumS (rs.take i) ≤ sumS rs := by
  have e : sumS rs = sumS (rs.take i) + sumS (rs.drop i) := by rw [← sumS_append, List.take_append_drop]
  have := sumS_nonneg (ps := rs.drop i) fun q hq => h q (List.mem_of_mem_drop hq)
  omega
section
variable {P : Program} {w : World} {K : PySem.W.Frag} {mg : Str → Option Value} {base : Heap}
abbrev N_law_row_of : List Str := ["_law_rows", "_law_ends", "_law_failure", "_law_more", "_law_name", "_law_end"]
theorem sc_law_row_of : FnScope N_law_row_of ["_law_rows"] (defScope s_law_row_of) := ⟨rfl, rfl, rfl, by decide +kernel, rfl, by decide +kernel, by decide +kernel⟩

theorem fd_law_row_of (T : Txt K mg) : FnD P w K mg base 1 (He.ga K "_law_row_of") sRowOf := by
  refine fnd_mk T.f_law_row_of sc_law_row_of (fun _ _ _ _ _ _ us hl => match us, hl with | [_], _ => rfl) (fun ξ ds ω Φ h => ?_) (fun cdv A outer s H E hr => (dss_cons (ds_asg (de_tup (da_cons (de_lst (da_cons de_int da_nil)) (da_cons de_non da_nil))) (dg_tup rfl (dgs_cons (dg_name (i := 1) sc_law_row_of.nd rfl (by first | exact Or.inr rfl | exact Or.inl rfl)) (dgs_cons (dg_name (i := 2) sc_law_row_of.nd rfl (Or.inl rfl)) dgs_nil))))
    (dss_cons (ds_for PassesOwn.never rfl (di_list (dv 0)) (dg_tup rfl (dgs_cons (dg_name (i := 3) sc_law_row_of.nd rfl (Or.inl rfl)) (dgs_cons (dg_name (i := 4) sc_law_row_of.nd rfl (Or.inl rfl)) dgs_nil))) (dss_one (ds_if (dt_isN (dv 2)) (dss_one (ds_asg (de_tup (da_cons (de_op op_cat ok_cat (de_sl sl_list ok_slL (dv 1) do_none (do_some (de_neg de_int))) (de_lc (own := [("_law_end", 5)]) (by rfl) sc_law_row_of.nd (di_list (dv 3)) (blkOk_by (own := [("_law_end", 5)]) (N := N_law_row_of) (sc := defScope s_law_row_of) (by decide +kernel)) (fun _ _ _ _ _ => (dg_name (i := 5) sc_law_row_of.nd rfl (Or.inl rfl))) (fun _ _ _ _ _ => dts_nil) (fun _ _ _ _ _ => (de_op op_add ok_add (de_ix ix_list ok_ixL (dv 1) (de_neg de_int) (fun _ _ => rfl)) (dv 5))))) (da_cons (dv 4) da_nil))) (dg_tup rfl (dgs_cons (dg_name (i := 1) sc_law_row_of.nd rfl (by first | exact Or.inr rfl | exact Or.inl rfl)) (dgs_cons (dg_name (i := 2) sc_law_row_of.nd rfl (Or.inl rfl)) dgs_nil))))) dss_nil)))
    (dss_one (ds_ret (de_tup (da_cons (dv 1) (da_cons (dv 2) da_nil)))))))) (fun ξ ds ω Φ h => ?_)
  · match ds, h with
    | [.lst rows], h => rfl
  match ds, h with
  | [.lst rows], ⟨rs, e, hg, hS, hl, q⟩ =>
    subst e
    simp only [dSeq, dAsg, dAsgT, dPar, dRet, dDrop, dIfS, dNext, dBreak, dCont, dFor, dIL, dIT, dIR1, dIR2, dIE, dIZ, oAdd, oSub, oMul, oDiv, oMod, oPow, oLt, oLe, oGt, oGe, atI_0, atI_1, atI_2, atI_3, atI_m1, ixN_0, ixN_1, ixN_2, Om.put_same, dVar, getK, dC, dNil, dCons, dOp, oI, oIC, oMulS, oEq, oNe, eqS, oIsN, oNotN, isNon, dTest, dAnd, dOr, dNot, dAndV, dOrV, dNotV, dIf, dTup, dLst, dLstM, dCall, dCB, dChain, asL, asQ, oIx, oIxL, oIxT, oCat, oCatM, oCatT, oNil, oIn, dNoPart, dPart, dSl, slL, slT, slLM, cMax2, cMin2, cLen, cList, cListM, cInt, cTuple, dFld, fldP, dMeth, oOwn, put_nm, put_tp, puts_nil, puts_cons, onS, dNeg, dRev, dSetI, dBM, mAppend, mExtend, mClear, mReverse, dYes, startD, List.map_cons, List.map_nil, List.length_cons, List.length_nil, List.set_cons_zero, List.set_cons_succ, List.cons_append, List.nil_append, Nat.reduceAdd, Nat.reduceSub, List.replicate_succ, List.replicate_zero, List.length_singleton, wipeD, decide_eq_true_eq, decide_eq_false_iff_not, reduceCtorEq, true_implies, false_implies, and_true, true_and, if_true, if_false, Bool.false_eq_true, Bool.not_true, Bool.not_false, Bool.not_eq_true', Bool.not_eq_false', Om.put_put, dLc, dLcM, dFrz, frzK, List.getElem?_cons_succ, List.getElem?_cons_zero, dMkP, dForM, dNever, cIs_int, cIs_bool, cIs_str, cIs_list, cIs_tuple, cIsP, tyNm, is_int, is_bool, is_str, is_list, is_tuple, N_law_row_of]
    refine ⟨by decide, by decide, ?_⟩
    refine forL_inv (fun i ρ ω' => ω' = ω ∧ ∃ v3 v4 v5, ρ = [some (.lst (rs.map tabD)), some (.lst (intsD (rowL (rs.take i)))), some (brD (seqM (rs.take i) 0).2), v3, v4, v5]) (fun i d ρ ω' hd hI N hN => ?_) (fun ρ ω' hI => ?_) ⟨rfl, _, _, _, rfl⟩
    · obtain ⟨rfl, v3, v4, v5, rfl⟩ := hI
      obtain ⟨hi, e⟩ := List.getElem?_eq_some_iff.mp hd
      rw [List.length_map] at hi
      rw [List.getElem_map] at e
      subst e
      have ht : rs.take (i + 1) = rs.take i ++ [rs[i]] := by rw [List.take_add_one, List.getElem?_eq_getElem hi]; rfl
      have hgt : ∀ q ∈ rs.take i, Good q := fun q hq => hg q (List.mem_of_mem_take hq)
      have gq : Good rs[i] := hg _ (List.getElem_mem hi)
      have s0 := seqM_nonneg (rs.take i) 0 hgt
      have hl1 := row_last (rs.take i) s0
      have h1 := (seqM_bounds (ps := rs.take (i + 1)) (t := 0) fun q hq => hg q (List.mem_of_mem_take hq)).2
      have h2 := sumS_take hg (i + 1)
      cases hb : (seqM (rs.take i) 0).2 with
      | none =>
        obtain ⟨n1, n2⟩ := rowL_next (q := rs[i]) hgt gq hb
        have eb : brD none = .non := rfl
        rw [ht, n2] at h1
        have hsp := gq.sp
        have h1 : (seqM (rs.take i) 0).1 + rs[i].span ≤ 0 + sumS (rs.take i ++ [rs[i]]) := h1
        rw [ht] at h2
        simp only [tabD]
        simp only [dSeq, dAsg, dAsgT, dPar, dRet, dDrop, dIfS, dNext, dBreak, dCont, dFor, dIL, dIT, dIR1, dIR2, dIE, dIZ, oAdd, oSub, oMul, oDiv, oMod, oPow, oLt, oLe, oGt, oGe, atI_0, atI_1, atI_2, atI_3, atI_m1, ixN_0, ixN_1, ixN_2, Om.put_same, dVar, getK, dC, dNil, dCons, dOp, oI, oIC, oMulS, oEq, oNe, eqS, oIsN, oNotN, isNon, dTest, dAnd, dOr, dNot, dAndV, dOrV, dNotV, dIf, dTup, dLst, dLstM, dCall, dCB, dChain, asL, asQ, oIx, oIxL, oIxT, oCat, oCatM, oCatT, oNil, oIn, dNoPart, dPart, dSl, slL, slT, slLM, cMax2, cMin2, cLen, cList, cListM, cInt, cTuple, dFld, fldP, dMeth, oOwn, put_nm, put_tp, puts_nil, puts_cons, onS, dNeg, dRev, dSetI, dBM, mAppend, mExtend, mClear, mReverse, dYes, startD, List.map_cons, List.map_nil, List.length_cons, List.length_nil, List.set_cons_zero, List.set_cons_succ, List.cons_append, List.nil_append, Nat.reduceAdd, Nat.reduceSub, List.replicate_succ, List.replicate_zero, List.length_singleton, wipeD, decide_eq_true_eq, decide_eq_false_iff_not, reduceCtorEq, true_implies, false_implies, and_true, true_and, if_true, if_false, Bool.false_eq_true, Bool.not_true, Bool.not_false, Bool.not_eq_true', Bool.not_eq_false', Om.put_put, dLc, dLcM, dFrz, frzK, List.getElem?_cons_succ, List.getElem?_cons_zero, dMkP, dForM, dNever, cIs_int, cIs_bool, cIs_str, cIs_list, cIs_tuple, cIsP, tyNm, is_int, is_bool, is_str, is_list, is_tuple, N_law_row_of, eb, cutD_m1, hl1]
        rw [intsD_len, endsL_len]
        refine ⟨by omega, ?_⟩
        unfold intsD
        refine lcl_gmap (fun e => .int ((seqM (rs.take i) 0).1 + e)) (fun e _ A hA => ?_) ?_
        · have hl2 : atI (List.map D.int (rowL (rs.take i))) (-1) = some (.int (seqM (rs.take i) 0).1) := hl1
          simp only [dSeq, dAsg, dAsgT, dPar, dRet, dDrop, dIfS, dNext, dBreak, dCont, dFor, dIL, dIT, dIR1, dIR2, dIE, dIZ, oAdd, oSub, oMul, oDiv, oMod, oPow, oLt, oLe, oGt, oGe, atI_0, atI_1, atI_2, atI_3, atI_m1, ixN_0, ixN_1, ixN_2, Om.put_same, dVar, getK, dC, dNil, dCons, dOp, oI, oIC, oMulS, oEq, oNe, eqS, oIsN, oNotN, isNon, dTest, dAnd, dOr, dNot, dAndV, dOrV, dNotV, dIf, dTup, dLst, dLstM, dCall, dCB, dChain, asL, asQ, oIx, oIxL, oIxT, oCat, oCatM, oCatT, oNil, oIn, dNoPart, dPart, dSl, slL, slT, slLM, cMax2, cMin2, cLen, cList, cListM, cInt, cTuple, dFld, fldP, dMeth, oOwn, put_nm, put_tp, puts_nil, puts_cons, onS, dNeg, dRev, dSetI, dBM, mAppend, mExtend, mClear, mReverse, dYes, startD, List.map_cons, List.map_nil, List.length_cons, List.length_nil, List.set_cons_zero, List.set_cons_succ, List.cons_append, List.nil_append, Nat.reduceAdd, Nat.reduceSub, List.replicate_succ, List.replicate_zero, List.length_singleton, wipeD, decide_eq_true_eq, decide_eq_false_iff_not, reduceCtorEq, true_implies, false_implies, and_true, true_and, if_true, if_false, Bool.false_eq_true, Bool.not_true, Bool.not_false, Bool.not_eq_true', Bool.not_eq_false', Om.put_put, dLc, dLcM, dFrz, frzK, List.getElem?_cons_succ, List.getElem?_cons_zero, dMkP, dForM, dNever, cIs_int, cIs_bool, cIs_str, cIs_list, cIs_tuple, cIsP, tyNm, is_int, is_bool, is_str, is_list, is_tuple, N_law_row_of, hl2]
          exact hA
        · have eR : (List.map D.int (rowL (rs.take i))).dropLast ++ (endsL rs[i]).map (fun e => D.int ((seqM (rs.take i) 0).1 + e)) = intsD (rowL (rs.take (i + 1))) := by
            rw [ht, ← n1]
            unfold intsD
            rw [List.map_append, List.map_dropLast, List.map_map]
            rfl
          rw [eR]
          exact ⟨by rw [List.length_dropLast, List.length_map, List.length_map, rowL_len, endsL_len]; omega, by decide, hN _ _ ⟨rfl, _, _, _, by rw [ht, n2]⟩⟩
      | some z =>
        obtain ⟨n1, n2⟩ := rowL_stop (q := rs[i]) (rs := rs.take i) (by rw [hb]; exact fun z => nomatch z)
        have eb : brD (some z) = .str z := rfl
        simp only [tabD]
        simp only [dSeq, dAsg, dAsgT, dPar, dRet, dDrop, dIfS, dNext, dBreak, dCont, dFor, dIL, dIT, dIR1, dIR2, dIE, dIZ, oAdd, oSub, oMul, oDiv, oMod, oPow, oLt, oLe, oGt, oGe, atI_0, atI_1, atI_2, atI_3, atI_m1, ixN_0, ixN_1, ixN_2, Om.put_same, dVar, getK, dC, dNil, dCons, dOp, oI, oIC, oMulS, oEq, oNe, eqS, oIsN, oNotN, isNon, dTest, dAnd, dOr, dNot, dAndV, dOrV, dNotV, dIf, dTup, dLst, dLstM, dCall, dCB, dChain, asL, asQ, oIx, oIxL, oIxT, oCat, oCatM, oCatT, oNil, oIn, dNoPart, dPart, dSl, slL, slT, slLM, cMax2, cMin2, cLen, cList, cListM, cInt, cTuple, dFld, fldP, dMeth, oOwn, put_nm, put_tp, puts_nil, puts_cons, onS, dNeg, dRev, dSetI, dBM, mAppend, mExtend, mClear, mReverse, dYes, startD, List.map_cons, List.map_nil, List.length_cons, List.length_nil, List.set_cons_zero, List.set_cons_succ, List.cons_append, List.nil_append, Nat.reduceAdd, Nat.reduceSub, List.replicate_succ, List.replicate_zero, List.length_singleton, wipeD, decide_eq_true_eq, decide_eq_false_iff_not, reduceCtorEq, true_implies, false_implies, and_true, true_and, if_true, if_false, Bool.false_eq_true, Bool.not_true, Bool.not_false, Bool.not_eq_true', Bool.not_eq_false', Om.put_put, dLc, dLcM, dFrz, frzK, List.getElem?_cons_succ, List.getElem?_cons_zero, dMkP, dForM, dNever, cIs_int, cIs_bool, cIs_str, cIs_list, cIs_tuple, cIsP, tyNm, is_int, is_bool, is_str, is_list, is_tuple, N_law_row_of, eb]
        exact hN _ _ ⟨rfl, _, _, _, by rw [ht, n1, n2, hb]; rfl⟩
    · obtain ⟨rfl, v3, v4, v5, rfl⟩ := hI
      rw [List.length_map, List.take_length]
      simp only [dSeq, dAsg, dAsgT, dPar, dRet, dDrop, dIfS, dNext, dBreak, dCont, dFor, dIL, dIT, dIR1, dIR2, dIE, dIZ, oAdd, oSub, oMul, oDiv, oMod, oPow, oLt, oLe, oGt, oGe, atI_0, atI_1, atI_2, atI_3, atI_m1, ixN_0, ixN_1, ixN_2, Om.put_same, dVar, getK, dC, dNil, dCons, dOp, oI, oIC, oMulS, oEq, oNe, eqS, oIsN, oNotN, isNon, dTest, dAnd, dOr, dNot, dAndV, dOrV, dNotV, dIf, dTup, dLst, dLstM, dCall, dCB, dChain, asL, asQ, oIx, oIxL, oIxT, oCat, oCatM, oCatT, oNil, oIn, dNoPart, dPart, dSl, slL, slT, slLM, cMax2, cMin2, cLen, cList, cListM, cInt, cTuple, dFld, fldP, dMeth, oOwn, put_nm, put_tp, puts_nil, puts_cons, onS, dNeg, dRev, dSetI, dBM, mAppend, mExtend, mClear, mReverse, dYes, startD, List.map_cons, List.map_nil, List.length_cons, List.length_nil, List.set_cons_zero, List.set_cons_succ, List.cons_append, List.nil_append, Nat.reduceAdd, Nat.reduceSub, List.replicate_succ, List.replicate_zero, List.length_singleton, wipeD, decide_eq_true_eq, decide_eq_false_iff_not, reduceCtorEq, true_implies, false_implies, and_true, true_and, if_true, if_false, Bool.false_eq_true, Bool.not_true, Bool.not_false, Bool.not_eq_true', Bool.not_eq_false', Om.put_put, dLc, dLcM, dFrz, frzK, List.getElem?_cons_succ, List.getElem?_cons_zero, dMkP, dForM, dNever, cIs_int, cIs_bool, cIs_str, cIs_list, cIs_tuple, cIsP, tyNm, is_int, is_bool, is_str, is_list, is_tuple, N_law_row_of]
      exact ⟨by decide, q⟩
/-! ### groups -/
theorem fold_head : ∀ (l : List Prog) (p : Prog), ((p :: l).filter fun x => decide (x.span = (l.foldl (fun m x => if x.span < m.span then x else m) p).span)).head? = some (l.foldl (fun m x => if x.span < m.span then x else m) p)
  | [], p => by simp
  | x :: l, p => by
    rw [List.foldl_cons]
    by_cases h : x.span < p.span
    · rw [if_pos h]
      have h1 := (foldl_min_spec l x).2.1
      rw [List.filter_cons_of_neg (by simp only [decide_eq_true_iff]; omega)]
      exact fold_head l x
    · rw [if_neg h]
      have h1 := (foldl_min_spec l p).2.1
      have ih := fold_head l p
      by_cases e : p.span = (l.foldl (fun m x => if x.span < m.span then x else m) p).span
      · rw [List.filter_cons_of_pos (by simp only [decide_eq_true_iff]; exact e)] at ih ⊢
        exact ih
      · rw [List.filter_cons_of_neg (by simp only [decide_eq_true_iff]; exact e)] at ih ⊢
        rw [List.filter_cons_of_neg (by simp only [decide_eq_true_iff]; omega)]
        exact ih
theorem first_head {ps : List Prog} {f : Prog} (h : firstFail ps = some f) : (ps.filter fun p => p.broken.isSome && decide (p.span = f.span)).head? = some f := by
  unfold firstFail minBy at h
  have e : (ps.filter fun p => p.broken.isSome && decide (p.span = f.span)) = (ps.filter fun p => p.broken.isSome).filter fun p => decide (p.span = f.span) := by
    rw [List.filter_filter]
    refine List.filter_congr fun p _ => Bool.and_comm _ _
  rw [e]
  cases hl : ps.filter fun p => p.broken.isSome with
  | nil => rw [hl] at h; cases h
  | cons p l =>
    rw [hl] at h
    have h := Option.some.inj h
    rw [← h]
    exact fold_head l p
theorem max_intro {α : Type} {xs : List α} {f : α → Int} {ω : Om} {Φ : D → Om → Prop} (h : xs ≠ []) (q : Φ (.int (maxL (xs.map f))) ω) : cMax [.lst (xs.map fun x => D.int (f x))] ω Φ := by
  rw [show (xs.map fun x => D.int (f x)) = (xs.map f).map D.int by rw [List.map_map]; rfl]
  simp only [cMax, onInts, asL, onS, intsOf_map]
  exact ⟨fun e => h (List.map_eq_nil_iff.mp e), q⟩
theorem min_intro {l : List Int} {ω : Om} {Φ : D → Om → Prop} (h : l ≠ []) (q : Φ (.int (minLI l)) ω) : cMin [.lst (intsD l)] ω Φ := by
  unfold intsD
  simp only [cMin, onInts, asL, onS, intsOf_map]
  exact ⟨h, q⟩
def stopI (ps : List Prog) : Int := match firstFail ps with
  | some f => f.span
  | none => 1000000000
theorem fails_nil {ps : List Prog} : (ps.filter fun p => p.broken.isSome) = [] ↔ firstFail ps = none := by
  constructor
  · intro h
    unfold firstFail
    rw [h]
    rfl
  · intro h
    exact minBy_none h
theorem max_succ {ps : List Prog} (hne : ps ≠ []) (hg : ∀ p ∈ ps, 0 ≤ p.span) : maxL (ps.map fun p => ((p.span.toNat + 1 : Nat) : Int)) - 1 = maxL (ps.map Prog.span) := by
  have h1 : ps.map Prog.span ≠ [] := fun e => hne (List.map_eq_nil_iff.mp e)
  obtain ⟨p, hp, e⟩ := List.mem_map.mp (maxL_mem h1)
  have : maxL (ps.map Prog.span) + 1 = maxL (ps.map fun p => ((p.span.toNat + 1 : Nat) : Int)) := by
    refine maxL_unique (List.mem_map.mpr ⟨p, hp, ?_⟩) fun a ha => ?_
    · have := hg p hp
      omega
    · obtain ⟨q, hq, rfl⟩ := List.mem_map.mp ha
      have := le_maxL (List.mem_map.mpr ⟨q, hq, rfl⟩ : q.span ∈ ps.map Prog.span)
      have := hg q hq
      omega
  omega
theorem ends_atI {p : Prog} {c : Int} (h0 : 0 ≤ c) (h1 : c ≤ p.span) : atI (intsD (endsL p)) c = some (.int (endA p c)) := by
  obtain ⟨n, rfl⟩ : ∃ n : Nat, c = (n : Int) := ⟨c.toNat, by omega⟩
  unfold intsD
  rw [atI_nat', List.getElem?_map, endsL_at p (by omega)]
  rfl
theorem runG_stop {ps : List Prog} {c : Int} (hc : c < 1000000000) : runG ps c = ps.filter fun p => decide (c < p.span) && decide (c < stopI ps) := by
  unfold runG stopI stopG
  refine List.filter_congr fun p _ => ?_
  cases firstFail ps with
  | none => simp [hc]
  | some f => rfl
def sGroupOf : SD := fun _ ds ω Φ => match ds with
  | [.lst rows] => ∃ ps, rows = ps.map tabD ∧ ps ≠ [] ∧ ps.length ≤ 20 ∧ (∀ q ∈ ps, WF q ∧ q.span ≤ 60000) ∧ Φ (tabD (mkP .together ps 0 [])) ω
  | _ => False
abbrev N_law_group_of : List Str := ["_law_rows", "_law_stops", "_law_stop", "_law_whole", "_law_failure", "_law_found", "_law_at", "_law_running", "_law_ends", "_law_name"]
theorem sc_law_group_of : FnScope N_law_group_of ["_law_rows"] (defScope s_law_group_of) := ⟨rfl, rfl, rfl, by decide +kernel, rfl, by decide +kernel, by decide +kernel⟩

theorem fd_law_group_of (T : Txt K mg) : FnD P w K mg base 1 (He.ga K "_law_group_of") sGroupOf := by
  refine fnd_mk T.f_law_group_of sc_law_group_of (fun _ _ _ _ _ _ us hl => match us, hl with | [_], _ => rfl) (fun ξ ds ω Φ h => ?_) (fun cdv A outer s H E hr => (dss_cut (ds_setLc (i := 1) (own := [("_law_ends", 8), ("_law_name", 9)]) (by rfl) sc_law_group_of.nd rfl rfl (sw_true rfl rfl rfl (by decide +kernel)) (di_list (dv 0)) (blkOk_by (own := [("_law_ends", 8), ("_law_name", 9)]) (N := N_law_group_of) (sc := defScope s_law_group_of) (by decide +kernel)) (fun _ _ _ _ _ => (dg_tup rfl (dgs_cons (dg_name (i := 8) sc_law_group_of.nd rfl (Or.inl rfl)) (dgs_cons (dg_name (i := 9) sc_law_group_of.nd rfl (Or.inl rfl)) dgs_nil)))) (fun _ _ _ _ _ => (dts_one (dt_notN (dv 9)))) (fun _ _ _ _ _ => (de_op op_sub ok_sub (de_callB call_len_seq ok_len (by rfl) T.b_len PySem.boot_len (da_cons (dv 8) da_nil)) de_int)))
    (dss_cut (ds_if (dt_cmp (op_eqNil hr.units0) ok_nil (dv 1) (de_lst da_nil) (nomark _)) (dss_one (ds_asg (de_tup (da_cons (de_op op_pow ok_pow de_int de_int) (da_cons (de_op op_sub ok_sub (de_callB (cr_max rfl) ok_max (by rfl) T.b_max (by decide +kernel) (da_cons (de_lc (own := [("_law_ends", 8), ("_law_name", 9)]) (by rfl) sc_law_group_of.nd (di_list (dv 0)) (blkOk_by (own := [("_law_ends", 8), ("_law_name", 9)]) (N := N_law_group_of) (sc := defScope s_law_group_of) (by decide +kernel)) (fun _ _ _ _ _ => (dg_tup rfl (dgs_cons (dg_name (i := 8) sc_law_group_of.nd rfl (Or.inl rfl)) (dgs_cons (dg_name (i := 9) sc_law_group_of.nd rfl (Or.inl rfl)) dgs_nil)))) (fun _ _ _ _ _ => dts_nil) (fun _ _ _ _ _ => (de_callB call_len_seq ok_len (by rfl) T.b_len PySem.boot_len (da_cons (dv 8) da_nil)))) da_nil)) de_int) (da_cons de_non da_nil)))) (dg_tup rfl (dgs_cons (dg_name (i := 2) sc_law_group_of.nd rfl (by first | exact Or.inr rfl | exact Or.inl rfl)) (dgs_cons (dg_name (i := 3) sc_law_group_of.nd rfl (Or.inl rfl)) (dgs_cons (dg_name (i := 4) sc_law_group_of.nd rfl (Or.inl rfl)) dgs_nil)))))) (dss_cons (ds_set (i := 2) sc_law_group_of.nd rfl (Or.inr rfl) (de_callB (cr_min rfl) ok_min (by rfl) T.b_min (by decide +kernel) (da_cons (dv 1) da_nil)))
    (dss_cons (ds_set (i := 3) sc_law_group_of.nd rfl (Or.inl rfl) (de_callB (cr_max rfl) ok_max (by rfl) T.b_max (by decide +kernel) (da_cons (de_lc (own := [("_law_ends", 8), ("_law_name", 9)]) (by rfl) sc_law_group_of.nd (di_list (dv 0)) (blkOk_by (own := [("_law_ends", 8), ("_law_name", 9)]) (N := N_law_group_of) (sc := defScope s_law_group_of) (by decide +kernel)) (fun _ _ _ _ _ => (dg_tup rfl (dgs_cons (dg_name (i := 8) sc_law_group_of.nd rfl (Or.inl rfl)) (dgs_cons (dg_name (i := 9) sc_law_group_of.nd rfl (Or.inl rfl)) dgs_nil)))) (fun _ _ _ _ _ => dts_nil) (fun _ _ _ _ _ => (de_ix ix_list ok_ixL (dv 8) (de_callB (call_min2 rfl) ok_min2 (by rfl) T.b_min (by decide +kernel) (da_cons (dv 2) (da_cons (de_op op_sub ok_sub (de_callB call_len_seq ok_len (by rfl) T.b_len PySem.boot_len (da_cons (dv 8) da_nil)) de_int) da_nil))) (fun _ _ => rfl)))) da_nil)))
    (dss_one (ds_set (i := 4) sc_law_group_of.nd rfl (Or.inl rfl) (de_ix ix_list ok_ixL (de_lc (own := [("_law_ends", 8), ("_law_name", 9)]) (by rfl) sc_law_group_of.nd (di_list (dv 0)) (blkOk_by (own := [("_law_ends", 8), ("_law_name", 9)]) (N := N_law_group_of) (sc := defScope s_law_group_of) (by decide +kernel)) (fun _ _ _ _ _ => (dg_tup rfl (dgs_cons (dg_name (i := 8) sc_law_group_of.nd rfl (Or.inl rfl)) (dgs_cons (dg_name (i := 9) sc_law_group_of.nd rfl (Or.inl rfl)) dgs_nil)))) (fun _ _ _ _ _ => (dts_one (DW.dt (dw_and (dt_notN (dv 9)) (dw_and1 (dt_cmp op_eq ok_eq (de_op op_sub ok_sub (de_callB call_len_seq ok_len (by rfl) T.b_len PySem.boot_len (da_cons (dv 8) da_nil)) de_int) (dv 2) (nomark _))))))) (fun _ _ _ _ _ => (dv 9))) de_int (fun _ _ => rfl)))))))
    (dss_cons (ds_set (i := 5) sc_law_group_of.nd rfl (Or.inl rfl) (de_lstM da_nil))
    (dss_cons (ds_for PassesOwn.never rfl (di_range1 (by rfl) T.b_range (da_cons (de_op op_add ok_add (dv 3) de_int) da_nil)) (dg_name (i := 6) sc_law_group_of.nd rfl (by first | exact Or.inr rfl | exact Or.inl rfl)) (dss_cons (ds_setLc (i := 7) (own := [("_law_ends", 8), ("_law_name", 9)]) (by rfl) sc_law_group_of.nd rfl rfl (sw_true rfl rfl rfl (by decide +kernel)) (di_list (dv 0)) (blkOk_by (own := [("_law_ends", 8), ("_law_name", 9)]) (N := N_law_group_of) (sc := defScope s_law_group_of) (by decide +kernel)) (fun _ _ _ _ _ => (dg_tup rfl (dgs_cons (dg_name (i := 8) sc_law_group_of.nd rfl (Or.inl rfl)) (dgs_cons (dg_name (i := 9) sc_law_group_of.nd rfl (Or.inl rfl)) dgs_nil)))) (fun _ _ _ _ _ => (dts_one (DW.dt (dw_and (dt_cmp op_lt ok_lt (dv 6) (de_op op_sub ok_sub (de_callB call_len_seq ok_len (by rfl) T.b_len PySem.boot_len (da_cons (dv 8) da_nil)) de_int) (nomark _)) (dw_and1 (dt_cmp op_lt ok_lt (dv 6) (dv 2) (nomark _))))))) (fun _ _ _ _ _ => (de_ix ix_list ok_ixL (dv 8) (dv 6) (fun _ _ => rfl))))
    (dss_one (ds_expr (de_bm PySem.F.plainAttrs_list PySem.F.slot_list_append PySem.F.type_list_append mt_append ok_append (dv 5) (da_cons (de_if (dt_cmp (op_neNil hr.units0) ok_nil (dv 7) (de_lst da_nil) (nomark _)) (de_callB (cr_max rfl) ok_max (by rfl) T.b_max (by decide +kernel) (da_cons (dv 7) da_nil)) (dv 3)) da_nil))))))
    (dss_frz 5 (dss_one (ds_ret (de_tup (da_cons (dv 5) (da_cons (dv 4) da_nil))))))))))) (fun ξ ds ω Φ h => ?_)
  · match ds, h with
    | [.lst rows], h => rfl
  match ds, h with
  | [.lst rows], ⟨ps, e, hne, h20, hw, q⟩ =>
    subst e
    have hww : ∀ q ∈ ps, WF q := fun q hq => (hw q hq).1
    have hg : ∀ q ∈ ps, Good q := fun q hq => wf_good (hww q hq)
    obtain ⟨s0, g1, g2⟩ := grp_facts hne hg
    have hS : (grpM ps).1 ≤ 60000 := by
      cases hf : firstFail ps with
      | none =>
        rw [g2 hf]
        refine maxL_le (fun e => hne (List.map_eq_nil_iff.mp e)) fun a ha => ?_
        obtain ⟨p, hp, rfl⟩ := List.mem_map.mp ha
        exact (hw p hp).2
      | some f =>
        obtain ⟨f1, _, f3⟩ := g1 f hf
        have sf := (hg f (firstFail_some hf).1).sp
        rw [f3]
        refine maxL_le (fun e => hne (List.map_eq_nil_iff.mp e)) fun a ha => ?_
        obtain ⟨p, hp, rfl⟩ := List.mem_map.mp ha
        exact Int.le_trans ((hg p hp).hi _ sf) (hw p hp).2
    have el : ∀ p : Prog, (((intsD (endsL p)).length : Nat) : Int) = ((p.span.toNat + 1 : Nat) : Int) := fun p => by rw [intsD_len, endsL_len]
    refine dcut_intro (fun ρ ω' => ω' = ω ∧ ρ = [some (.lst (ps.map tabD)), some (.lst (intsD ((ps.filter fun p => p.broken.isSome).map Prog.span))), none, none, none, none, none, none, none, none]) ?_ (fun ρ ω' hM => ?_)
    · simp only [dSeq, dAsg, dAsgT, dPar, dRet, dDrop, dIfS, dNext, dBreak, dCont, dFor, dIL, dIT, dIR1, dIR2, dIE, dIZ, oAdd, oSub, oMul, oDiv, oMod, oPow, oLt, oLe, oGt, oGe, atI_0, atI_1, atI_2, atI_3, atI_m1, ixN_0, ixN_1, ixN_2, Om.put_same, dVar, getK, dC, dNil, dCons, dOp, oI, oIC, oMulS, oEq, oNe, eqS, oIsN, oNotN, isNon, dTest, dAnd, dOr, dNot, dAndV, dOrV, dNotV, dIf, dTup, dLst, dLstM, dCall, dCB, dChain, asL, asQ, oIx, oIxL, oIxT, oCat, oCatM, oCatT, oNil, oIn, dNoPart, dPart, dSl, slL, slT, slLM, cMax2, cMin2, cLen, cList, cListM, cInt, cTuple, dFld, fldP, dMeth, oOwn, put_nm, put_tp, puts_nil, puts_cons, onS, dNeg, dRev, dSetI, dBM, mAppend, mExtend, mClear, mReverse, dYes, startD, List.map_cons, List.map_nil, List.length_cons, List.length_nil, List.set_cons_zero, List.set_cons_succ, List.cons_append, List.nil_append, Nat.reduceAdd, Nat.reduceSub, List.replicate_succ, List.replicate_zero, List.length_singleton, wipeD, decide_eq_true_eq, decide_eq_false_iff_not, reduceCtorEq, true_implies, false_implies, and_true, true_and, if_true, if_false, Bool.false_eq_true, Bool.not_true, Bool.not_false, Bool.not_eq_true', Bool.not_eq_false', Om.put_put, dLc, dLcM, dFrz, frzK, List.getElem?_cons_succ, List.getElem?_cons_zero, dMkP, dForM, dNever, cIs_int, cIs_bool, cIs_str, cIs_list, cIs_tuple, cIsP, tyNm, is_int, is_bool, is_str, is_list, is_tuple, N_law_group_of]
      refine ⟨by rw [List.length_map]; omega, ?_⟩
      refine lcl_gen (fun p => p.broken.isSome) (fun p => .int p.span) (fun p hp A B hA hB => ?_) ⟨rfl, ?_⟩
      · have sp := (hg p hp).sp
        have e1 : (((intsD (endsL p)).length : Nat) : Int) - 1 = p.span := by rw [el]; omega
        simp only [tabD]
        cases hb : p.broken with
        | none =>
          have eb : brD none = .non := rfl
          simp only [dSeq, dAsg, dAsgT, dPar, dRet, dDrop, dIfS, dNext, dBreak, dCont, dFor, dIL, dIT, dIR1, dIR2, dIE, dIZ, oAdd, oSub, oMul, oDiv, oMod, oPow, oLt, oLe, oGt, oGe, atI_0, atI_1, atI_2, atI_3, atI_m1, ixN_0, ixN_1, ixN_2, Om.put_same, dVar, getK, dC, dNil, dCons, dOp, oI, oIC, oMulS, oEq, oNe, eqS, oIsN, oNotN, isNon, dTest, dAnd, dOr, dNot, dAndV, dOrV, dNotV, dIf, dTup, dLst, dLstM, dCall, dCB, dChain, asL, asQ, oIx, oIxL, oIxT, oCat, oCatM, oCatT, oNil, oIn, dNoPart, dPart, dSl, slL, slT, slLM, cMax2, cMin2, cLen, cList, cListM, cInt, cTuple, dFld, fldP, dMeth, oOwn, put_nm, put_tp, puts_nil, puts_cons, onS, dNeg, dRev, dSetI, dBM, mAppend, mExtend, mClear, mReverse, dYes, startD, List.map_cons, List.map_nil, List.length_cons, List.length_nil, List.set_cons_zero, List.set_cons_succ, List.cons_append, List.nil_append, Nat.reduceAdd, Nat.reduceSub, List.replicate_succ, List.replicate_zero, List.length_singleton, wipeD, decide_eq_true_eq, decide_eq_false_iff_not, reduceCtorEq, true_implies, false_implies, and_true, true_and, if_true, if_false, Bool.false_eq_true, Bool.not_true, Bool.not_false, Bool.not_eq_true', Bool.not_eq_false', Om.put_put, dLc, dLcM, dFrz, frzK, List.getElem?_cons_succ, List.getElem?_cons_zero, dMkP, dForM, dNever, cIs_int, cIs_bool, cIs_str, cIs_list, cIs_tuple, cIsP, tyNm, is_int, is_bool, is_str, is_list, is_tuple, N_law_group_of, eb]
          exact hB (by rw [hb]; rfl)
        | some z =>
          have eb : brD (some z) = .str z := rfl
          simp only [dSeq, dAsg, dAsgT, dPar, dRet, dDrop, dIfS, dNext, dBreak, dCont, dFor, dIL, dIT, dIR1, dIR2, dIE, dIZ, oAdd, oSub, oMul, oDiv, oMod, oPow, oLt, oLe, oGt, oGe, atI_0, atI_1, atI_2, atI_3, atI_m1, ixN_0, ixN_1, ixN_2, Om.put_same, dVar, getK, dC, dNil, dCons, dOp, oI, oIC, oMulS, oEq, oNe, eqS, oIsN, oNotN, isNon, dTest, dAnd, dOr, dNot, dAndV, dOrV, dNotV, dIf, dTup, dLst, dLstM, dCall, dCB, dChain, asL, asQ, oIx, oIxL, oIxT, oCat, oCatM, oCatT, oNil, oIn, dNoPart, dPart, dSl, slL, slT, slLM, cMax2, cMin2, cLen, cList, cListM, cInt, cTuple, dFld, fldP, dMeth, oOwn, put_nm, put_tp, puts_nil, puts_cons, onS, dNeg, dRev, dSetI, dBM, mAppend, mExtend, mClear, mReverse, dYes, startD, List.map_cons, List.map_nil, List.length_cons, List.length_nil, List.set_cons_zero, List.set_cons_succ, List.cons_append, List.nil_append, Nat.reduceAdd, Nat.reduceSub, List.replicate_succ, List.replicate_zero, List.length_singleton, wipeD, decide_eq_true_eq, decide_eq_false_iff_not, reduceCtorEq, true_implies, false_implies, and_true, true_and, if_true, if_false, Bool.false_eq_true, Bool.not_true, Bool.not_false, Bool.not_eq_true', Bool.not_eq_false', Om.put_put, dLc, dLcM, dFrz, frzK, List.getElem?_cons_succ, List.getElem?_cons_zero, dMkP, dForM, dNever, cIs_int, cIs_bool, cIs_str, cIs_list, cIs_tuple, cIsP, tyNm, is_int, is_bool, is_str, is_list, is_tuple, N_law_group_of, eb, e1]
          exact hA (by rw [hb]; rfl)
      · unfold intsD
        rw [List.map_map]
        rfl
    obtain ⟨rfl, rfl⟩ := hM
    refine dcut_intro (fun ρ ω'' => ω'' = ω' ∧ ∃ v1 v8 v9, ρ = [some (.lst (ps.map tabD)), v1, some (.int (stopI ps)), some (.int (grpM ps).1), some (brD (grpM ps).2), none, none, none, v8, v9]) ?_ (fun ρ ω'' hM => ?_)
    · cases hf : firstFail ps with
      | none =>
        have e0 := fails_nil.mpr hf
        have e9 : (10 : Int) ^ (9 : Int).toNat = 1000000000 := by decide
        have eg : grpM ps = (maxL (ps.map Prog.span), none) := by unfold grpM; rw [hf]
        have en : intsD (([] : List Prog).map Prog.span) = [] := rfl
        rw [e0]
        simp only [dSeq, dAsg, dAsgT, dPar, dRet, dDrop, dIfS, dNext, dBreak, dCont, dFor, dIL, dIT, dIR1, dIR2, dIE, dIZ, oAdd, oSub, oMul, oDiv, oMod, oPow, oLt, oLe, oGt, oGe, atI_0, atI_1, atI_2, atI_3, atI_m1, ixN_0, ixN_1, ixN_2, Om.put_same, dVar, getK, dC, dNil, dCons, dOp, oI, oIC, oMulS, oEq, oNe, eqS, oIsN, oNotN, isNon, dTest, dAnd, dOr, dNot, dAndV, dOrV, dNotV, dIf, dTup, dLst, dLstM, dCall, dCB, dChain, asL, asQ, oIx, oIxL, oIxT, oCat, oCatM, oCatT, oNil, oIn, dNoPart, dPart, dSl, slL, slT, slLM, cMax2, cMin2, cLen, cList, cListM, cInt, cTuple, dFld, fldP, dMeth, oOwn, put_nm, put_tp, puts_nil, puts_cons, onS, dNeg, dRev, dSetI, dBM, mAppend, mExtend, mClear, mReverse, dYes, startD, List.map_cons, List.map_nil, List.length_cons, List.length_nil, List.set_cons_zero, List.set_cons_succ, List.cons_append, List.nil_append, Nat.reduceAdd, Nat.reduceSub, List.replicate_succ, List.replicate_zero, List.length_singleton, wipeD, decide_eq_true_eq, decide_eq_false_iff_not, reduceCtorEq, true_implies, false_implies, and_true, true_and, if_true, if_false, Bool.false_eq_true, Bool.not_true, Bool.not_false, Bool.not_eq_true', Bool.not_eq_false', Om.put_put, dLc, dLcM, dFrz, frzK, List.getElem?_cons_succ, List.getElem?_cons_zero, dMkP, dForM, dNever, cIs_int, cIs_bool, cIs_str, cIs_list, cIs_tuple, cIsP, tyNm, is_int, is_bool, is_str, is_list, is_tuple, N_law_group_of, en]
        refine ⟨by decide, fun _ => ⟨⟨by decide, by decide, by decide⟩, by rw [List.length_map]; omega, lcl_gmap (fun p => .int ((p.span.toNat + 1 : Nat) : Int)) (fun p hp A hA => ?_) ?_⟩, fun z => nomatch z⟩
        · simp only [tabD]
          simp only [dSeq, dAsg, dAsgT, dPar, dRet, dDrop, dIfS, dNext, dBreak, dCont, dFor, dIL, dIT, dIR1, dIR2, dIE, dIZ, oAdd, oSub, oMul, oDiv, oMod, oPow, oLt, oLe, oGt, oGe, atI_0, atI_1, atI_2, atI_3, atI_m1, ixN_0, ixN_1, ixN_2, Om.put_same, dVar, getK, dC, dNil, dCons, dOp, oI, oIC, oMulS, oEq, oNe, eqS, oIsN, oNotN, isNon, dTest, dAnd, dOr, dNot, dAndV, dOrV, dNotV, dIf, dTup, dLst, dLstM, dCall, dCB, dChain, asL, asQ, oIx, oIxL, oIxT, oCat, oCatM, oCatT, oNil, oIn, dNoPart, dPart, dSl, slL, slT, slLM, cMax2, cMin2, cLen, cList, cListM, cInt, cTuple, dFld, fldP, dMeth, oOwn, put_nm, put_tp, puts_nil, puts_cons, onS, dNeg, dRev, dSetI, dBM, mAppend, mExtend, mClear, mReverse, dYes, startD, List.map_cons, List.map_nil, List.length_cons, List.length_nil, List.set_cons_zero, List.set_cons_succ, List.cons_append, List.nil_append, Nat.reduceAdd, Nat.reduceSub, List.replicate_succ, List.replicate_zero, List.length_singleton, wipeD, decide_eq_true_eq, decide_eq_false_iff_not, reduceCtorEq, true_implies, false_implies, and_true, true_and, if_true, if_false, Bool.false_eq_true, Bool.not_true, Bool.not_false, Bool.not_eq_true', Bool.not_eq_false', Om.put_put, dLc, dLcM, dFrz, frzK, List.getElem?_cons_succ, List.getElem?_cons_zero, dMkP, dForM, dNever, cIs_int, cIs_bool, cIs_str, cIs_list, cIs_tuple, cIsP, tyNm, is_int, is_bool, is_str, is_list, is_tuple, N_law_group_of, el]
          exact hA
        · have em := max_succ hne fun p hp => (hg p hp).sp
          have est : stopI ps = 1000000000 := by unfold stopI; rw [hf]
          refine max_intro hne ?_
          simp only [dSeq, dAsg, dAsgT, dPar, dRet, dDrop, dIfS, dNext, dBreak, dCont, dFor, dIL, dIT, dIR1, dIR2, dIE, dIZ, oAdd, oSub, oMul, oDiv, oMod, oPow, oLt, oLe, oGt, oGe, atI_0, atI_1, atI_2, atI_3, atI_m1, ixN_0, ixN_1, ixN_2, Om.put_same, dVar, getK, dC, dNil, dCons, dOp, oI, oIC, oMulS, oEq, oNe, eqS, oIsN, oNotN, isNon, dTest, dAnd, dOr, dNot, dAndV, dOrV, dNotV, dIf, dTup, dLst, dLstM, dCall, dCB, dChain, asL, asQ, oIx, oIxL, oIxT, oCat, oCatM, oCatT, oNil, oIn, dNoPart, dPart, dSl, slL, slT, slLM, cMax2, cMin2, cLen, cList, cListM, cInt, cTuple, dFld, fldP, dMeth, oOwn, put_nm, put_tp, puts_nil, puts_cons, onS, dNeg, dRev, dSetI, dBM, mAppend, mExtend, mClear, mReverse, dYes, startD, List.map_cons, List.map_nil, List.length_cons, List.length_nil, List.set_cons_zero, List.set_cons_succ, List.cons_append, List.nil_append, Nat.reduceAdd, Nat.reduceSub, List.replicate_succ, List.replicate_zero, List.length_singleton, wipeD, decide_eq_true_eq, decide_eq_false_iff_not, reduceCtorEq, true_implies, false_implies, and_true, true_and, if_true, if_false, Bool.false_eq_true, Bool.not_true, Bool.not_false, Bool.not_eq_true', Bool.not_eq_false', Om.put_put, dLc, dLcM, dFrz, frzK, List.getElem?_cons_succ, List.getElem?_cons_zero, dMkP, dForM, dNever, cIs_int, cIs_bool, cIs_str, cIs_list, cIs_tuple, cIsP, tyNm, is_int, is_bool, is_str, is_list, is_tuple, N_law_group_of, em, e9]
          rw [est, eg]
          exact ⟨by decide, _, _, _, rfl⟩
      | some f =>
        have e0 : (ps.filter fun p => p.broken.isSome) ≠ [] := fun e => by
          rw [fails_nil.mp e] at hf
          cases hf
        obtain ⟨f1, f2, f3⟩ := firstFail_some hf
        have sf := (hg f f1).sp
        have e1 : ((ps.filter fun p => p.broken.isSome).map Prog.span) ≠ [] := fun e => e0 (List.map_eq_nil_iff.mp e)
        have em : f.span = minLI ((ps.filter fun p => p.broken.isSome).map Prog.span) := minLI_unique (List.mem_map.mpr ⟨f, List.mem_filter.mpr ⟨f1, f2⟩, rfl⟩) fun a ha => by
          obtain ⟨x, hx, rfl⟩ := List.mem_map.mp ha
          exact f3 x (List.mem_filter.mp hx).1 (List.mem_filter.mp hx).2
        have est : stopI ps = f.span := by unfold stopI; rw [hf]
        have eg : grpM ps = (maxL (ps.map fun p => endA p f.span), f.broken) := by unfold grpM; rw [hf]
        have ie : (intsD ((ps.filter fun p => p.broken.isSome).map Prog.span)).isEmpty = false := by
          cases hl : (ps.filter fun p => p.broken.isSome) with
          | nil => exact absurd hl e0
          | cons a r => rfl
        simp only [dSeq, dAsg, dAsgT, dPar, dRet, dDrop, dIfS, dNext, dBreak, dCont, dFor, dIL, dIT, dIR1, dIR2, dIE, dIZ, oAdd, oSub, oMul, oDiv, oMod, oPow, oLt, oLe, oGt, oGe, atI_0, atI_1, atI_2, atI_3, atI_m1, ixN_0, ixN_1, ixN_2, Om.put_same, dVar, getK, dC, dNil, dCons, dOp, oI, oIC, oMulS, oEq, oNe, eqS, oIsN, oNotN, isNon, dTest, dAnd, dOr, dNot, dAndV, dOrV, dNotV, dIf, dTup, dLst, dLstM, dCall, dCB, dChain, asL, asQ, oIx, oIxL, oIxT, oCat, oCatM, oCatT, oNil, oIn, dNoPart, dPart, dSl, slL, slT, slLM, cMax2, cMin2, cLen, cList, cListM, cInt, cTuple, dFld, fldP, dMeth, oOwn, put_nm, put_tp, puts_nil, puts_cons, onS, dNeg, dRev, dSetI, dBM, mAppend, mExtend, mClear, mReverse, dYes, startD, List.map_cons, List.map_nil, List.length_cons, List.length_nil, List.set_cons_zero, List.set_cons_succ, List.cons_append, List.nil_append, Nat.reduceAdd, Nat.reduceSub, List.replicate_succ, List.replicate_zero, List.length_singleton, wipeD, decide_eq_true_eq, decide_eq_false_iff_not, reduceCtorEq, true_implies, false_implies, and_true, true_and, if_true, if_false, Bool.false_eq_true, Bool.not_true, Bool.not_false, Bool.not_eq_true', Bool.not_eq_false', Om.put_put, dLc, dLcM, dFrz, frzK, List.getElem?_cons_succ, List.getElem?_cons_zero, dMkP, dForM, dNever, cIs_int, cIs_bool, cIs_str, cIs_list, cIs_tuple, cIsP, tyNm, is_int, is_bool, is_str, is_list, is_tuple, N_law_group_of, ie]
        refine ⟨by decide, min_intro e1 ?_⟩
        rw [← em]
        refine ⟨by rw [List.length_map]; omega, lcl_gmap (fun p => .int (endA p f.span)) (fun p hp A hA => ?_) ?_⟩
        · have sp := (hg p hp).sp
          have ea : atI (intsD (endsL p)) (min f.span (((p.span.toNat + 1 : Nat) : Int) - 1)) = some (.int (endA p f.span)) := by
            rw [ends_atI (p := p) (by omega) (by omega)]
            by_cases z : f.span ≤ p.span
            · rw [show min f.span (((p.span.toNat + 1 : Nat) : Int) - 1) = f.span by omega]
            · rw [endA_late (p := p) (c := f.span) (by omega), endA_late (p := p) (by omega)]
          simp only [tabD]
          simp only [dSeq, dAsg, dAsgT, dPar, dRet, dDrop, dIfS, dNext, dBreak, dCont, dFor, dIL, dIT, dIR1, dIR2, dIE, dIZ, oAdd, oSub, oMul, oDiv, oMod, oPow, oLt, oLe, oGt, oGe, atI_0, atI_1, atI_2, atI_3, atI_m1, ixN_0, ixN_1, ixN_2, Om.put_same, dVar, getK, dC, dNil, dCons, dOp, oI, oIC, oMulS, oEq, oNe, eqS, oIsN, oNotN, isNon, dTest, dAnd, dOr, dNot, dAndV, dOrV, dNotV, dIf, dTup, dLst, dLstM, dCall, dCB, dChain, asL, asQ, oIx, oIxL, oIxT, oCat, oCatM, oCatT, oNil, oIn, dNoPart, dPart, dSl, slL, slT, slLM, cMax2, cMin2, cLen, cList, cListM, cInt, cTuple, dFld, fldP, dMeth, oOwn, put_nm, put_tp, puts_nil, puts_cons, onS, dNeg, dRev, dSetI, dBM, mAppend, mExtend, mClear, mReverse, dYes, startD, List.map_cons, List.map_nil, List.length_cons, List.length_nil, List.set_cons_zero, List.set_cons_succ, List.cons_append, List.nil_append, Nat.reduceAdd, Nat.reduceSub, List.replicate_succ, List.replicate_zero, List.length_singleton, wipeD, decide_eq_true_eq, decide_eq_false_iff_not, reduceCtorEq, true_implies, false_implies, and_true, true_and, if_true, if_false, Bool.false_eq_true, Bool.not_true, Bool.not_false, Bool.not_eq_true', Bool.not_eq_false', Om.put_put, dLc, dLcM, dFrz, frzK, List.getElem?_cons_succ, List.getElem?_cons_zero, dMkP, dForM, dNever, cIs_int, cIs_bool, cIs_str, cIs_list, cIs_tuple, cIsP, tyNm, is_int, is_bool, is_str, is_list, is_tuple, N_law_group_of, el, ea]
          exact hA
        · refine max_intro hne ?_
          refine ⟨by rw [List.length_map]; omega, lcl_gen (fun p => p.broken.isSome && decide (p.span = f.span)) (fun p => brD p.broken) (fun p hp A B hA hB => ?_) ?_⟩
          · have sp := (hg p hp).sp
            have e1 : (((intsD (endsL p)).length : Nat) : Int) - 1 = p.span := by rw [el]; omega
            simp only [tabD]
            cases hb : p.broken with
            | none =>
              have eb : brD none = .non := rfl
              simp only [dSeq, dAsg, dAsgT, dPar, dRet, dDrop, dIfS, dNext, dBreak, dCont, dFor, dIL, dIT, dIR1, dIR2, dIE, dIZ, oAdd, oSub, oMul, oDiv, oMod, oPow, oLt, oLe, oGt, oGe, atI_0, atI_1, atI_2, atI_3, atI_m1, ixN_0, ixN_1, ixN_2, Om.put_same, dVar, getK, dC, dNil, dCons, dOp, oI, oIC, oMulS, oEq, oNe, eqS, oIsN, oNotN, isNon, dTest, dAnd, dOr, dNot, dAndV, dOrV, dNotV, dIf, dTup, dLst, dLstM, dCall, dCB, dChain, asL, asQ, oIx, oIxL, oIxT, oCat, oCatM, oCatT, oNil, oIn, dNoPart, dPart, dSl, slL, slT, slLM, cMax2, cMin2, cLen, cList, cListM, cInt, cTuple, dFld, fldP, dMeth, oOwn, put_nm, put_tp, puts_nil, puts_cons, onS, dNeg, dRev, dSetI, dBM, mAppend, mExtend, mClear, mReverse, dYes, startD, List.map_cons, List.map_nil, List.length_cons, List.length_nil, List.set_cons_zero, List.set_cons_succ, List.cons_append, List.nil_append, Nat.reduceAdd, Nat.reduceSub, List.replicate_succ, List.replicate_zero, List.length_singleton, wipeD, decide_eq_true_eq, decide_eq_false_iff_not, reduceCtorEq, true_implies, false_implies, and_true, true_and, if_true, if_false, Bool.false_eq_true, Bool.not_true, Bool.not_false, Bool.not_eq_true', Bool.not_eq_false', Om.put_put, dLc, dLcM, dFrz, frzK, List.getElem?_cons_succ, List.getElem?_cons_zero, dMkP, dForM, dNever, cIs_int, cIs_bool, cIs_str, cIs_list, cIs_tuple, cIsP, tyNm, is_int, is_bool, is_str, is_list, is_tuple, N_law_group_of, eb]
              exact hB (by rw [hb]; rfl)
            | some z =>
              have eb : brD (some z) = .str z := rfl
              simp only [dSeq, dAsg, dAsgT, dPar, dRet, dDrop, dIfS, dNext, dBreak, dCont, dFor, dIL, dIT, dIR1, dIR2, dIE, dIZ, oAdd, oSub, oMul, oDiv, oMod, oPow, oLt, oLe, oGt, oGe, atI_0, atI_1, atI_2, atI_3, atI_m1, ixN_0, ixN_1, ixN_2, Om.put_same, dVar, getK, dC, dNil, dCons, dOp, oI, oIC, oMulS, oEq, oNe, eqS, oIsN, oNotN, isNon, dTest, dAnd, dOr, dNot, dAndV, dOrV, dNotV, dIf, dTup, dLst, dLstM, dCall, dCB, dChain, asL, asQ, oIx, oIxL, oIxT, oCat, oCatM, oCatT, oNil, oIn, dNoPart, dPart, dSl, slL, slT, slLM, cMax2, cMin2, cLen, cList, cListM, cInt, cTuple, dFld, fldP, dMeth, oOwn, put_nm, put_tp, puts_nil, puts_cons, onS, dNeg, dRev, dSetI, dBM, mAppend, mExtend, mClear, mReverse, dYes, startD, List.map_cons, List.map_nil, List.length_cons, List.length_nil, List.set_cons_zero, List.set_cons_succ, List.cons_append, List.nil_append, Nat.reduceAdd, Nat.reduceSub, List.replicate_succ, List.replicate_zero, List.length_singleton, wipeD, decide_eq_true_eq, decide_eq_false_iff_not, reduceCtorEq, true_implies, false_implies, and_true, true_and, if_true, if_false, Bool.false_eq_true, Bool.not_true, Bool.not_false, Bool.not_eq_true', Bool.not_eq_false', Om.put_put, dLc, dLcM, dFrz, frzK, List.getElem?_cons_succ, List.getElem?_cons_zero, dMkP, dForM, dNever, cIs_int, cIs_bool, cIs_str, cIs_list, cIs_tuple, cIsP, tyNm, is_int, is_bool, is_str, is_list, is_tuple, N_law_group_of, eb, e1]
              have hA' := hA
              rw [hb] at hA' hB
              exact ⟨fun z => hA' (by simp [z]), fun z => hB (by simp [z])⟩
          · have hh := first_head hf
            cases hl : (ps.filter fun p => p.broken.isSome && decide (p.span = f.span)) with
            | nil => rw [hl] at hh; cases hh
            | cons a r =>
              rw [hl] at hh
              have ea := Option.some.inj hh
              subst ea
              simp only [dSeq, dAsg, dAsgT, dPar, dRet, dDrop, dIfS, dNext, dBreak, dCont, dFor, dIL, dIT, dIR1, dIR2, dIE, dIZ, oAdd, oSub, oMul, oDiv, oMod, oPow, oLt, oLe, oGt, oGe, atI_0, atI_1, atI_2, atI_3, atI_m1, ixN_0, ixN_1, ixN_2, Om.put_same, dVar, getK, dC, dNil, dCons, dOp, oI, oIC, oMulS, oEq, oNe, eqS, oIsN, oNotN, isNon, dTest, dAnd, dOr, dNot, dAndV, dOrV, dNotV, dIf, dTup, dLst, dLstM, dCall, dCB, dChain, asL, asQ, oIx, oIxL, oIxT, oCat, oCatM, oCatT, oNil, oIn, dNoPart, dPart, dSl, slL, slT, slLM, cMax2, cMin2, cLen, cList, cListM, cInt, cTuple, dFld, fldP, dMeth, oOwn, put_nm, put_tp, puts_nil, puts_cons, onS, dNeg, dRev, dSetI, dBM, mAppend, mExtend, mClear, mReverse, dYes, startD, List.map_cons, List.map_nil, List.length_cons, List.length_nil, List.set_cons_zero, List.set_cons_succ, List.cons_append, List.nil_append, Nat.reduceAdd, Nat.reduceSub, List.replicate_succ, List.replicate_zero, List.length_singleton, wipeD, decide_eq_true_eq, decide_eq_false_iff_not, reduceCtorEq, true_implies, false_implies, and_true, true_and, if_true, if_false, Bool.false_eq_true, Bool.not_true, Bool.not_false, Bool.not_eq_true', Bool.not_eq_false', Om.put_put, dLc, dLcM, dFrz, frzK, List.getElem?_cons_succ, List.getElem?_cons_zero, dMkP, dForM, dNever, cIs_int, cIs_bool, cIs_str, cIs_list, cIs_tuple, cIsP, tyNm, is_int, is_bool, is_str, is_list, is_tuple, N_law_group_of]
              rw [est, eg]
              exact ⟨_, _, _, rfl⟩
    obtain ⟨rfl, v1, v8, v9, rfl⟩ := hM
    have hp : (mkP .together ps 0 []).span = (grpM ps).1 := rfl
    have hpn : (grpM ps).1.toNat + 1 = (endsL (mkP .together ps 0 [])).length := by rw [endsL_len, hp]
    simp only [dSeq, dAsg, dAsgT, dPar, dRet, dDrop, dIfS, dNext, dBreak, dCont, dFor, dIL, dIT, dIR1, dIR2, dIE, dIZ, oAdd, oSub, oMul, oDiv, oMod, oPow, oLt, oLe, oGt, oGe, atI_0, atI_1, atI_2, atI_3, atI_m1, ixN_0, ixN_1, ixN_2, Om.put_same, dVar, getK, dC, dNil, dCons, dOp, oI, oIC, oMulS, oEq, oNe, eqS, oIsN, oNotN, isNon, dTest, dAnd, dOr, dNot, dAndV, dOrV, dNotV, dIf, dTup, dLst, dLstM, dCall, dCB, dChain, asL, asQ, oIx, oIxL, oIxT, oCat, oCatM, oCatT, oNil, oIn, dNoPart, dPart, dSl, slL, slT, slLM, cMax2, cMin2, cLen, cList, cListM, cInt, cTuple, dFld, fldP, dMeth, oOwn, put_nm, put_tp, puts_nil, puts_cons, onS, dNeg, dRev, dSetI, dBM, mAppend, mExtend, mClear, mReverse, dYes, startD, List.map_cons, List.map_nil, List.length_cons, List.length_nil, List.set_cons_zero, List.set_cons_succ, List.cons_append, List.nil_append, Nat.reduceAdd, Nat.reduceSub, List.replicate_succ, List.replicate_zero, List.length_singleton, wipeD, decide_eq_true_eq, decide_eq_false_iff_not, reduceCtorEq, true_implies, false_implies, and_true, true_and, if_true, if_false, Bool.false_eq_true, Bool.not_true, Bool.not_false, Bool.not_eq_true', Bool.not_eq_false', Om.put_put, dLc, dLcM, dFrz, frzK, List.getElem?_cons_succ, List.getElem?_cons_zero, dMkP, dForM, dNever, cIs_int, cIs_bool, cIs_str, cIs_list, cIs_tuple, cIsP, tyNm, is_int, is_bool, is_str, is_list, is_tuple, N_law_group_of]
    refine ⟨by decide, fun l hl => ⟨by omega, by omega, ?_⟩⟩
    rw [show ((grpM ps).1 + 1).toNat = (grpM ps).1.toNat + 1 by omega]
    refine forL_inv (fun i ρ ω2 => i ≤ (grpM ps).1.toNat + 1 ∧ ω2 = ω''.put l (.lst (intsD ((endsL (mkP .together ps 0 [])).take i))) ∧ ∃ v6 v7 v8 v9, ρ = [some (.lst (ps.map tabD)), v1, some (.int (stopI ps)), some (.int (grpM ps).1), some (brD (grpM ps).2), some (.mref l), v6, v7, v8, v9]) (fun i d ρ ω2 hd hI N hN => ?_) (fun ρ ω2 hI => ?_) ⟨Nat.zero_le _, rfl, _, _, _, _, rfl⟩
    · obtain ⟨hi, rfl, v6, v7, v8, v9, rfl⟩ := hI
      obtain ⟨hi2, rfl⟩ := rangeD_at hd
      have hi3 : i ≤ (grpM ps).1.toNat := by omega
      obtain ⟨k1, k2⟩ := group_at hne hww (c := (i : Int)) (by omega) (by omega)
      have et : (endsL (mkP .together ps 0 [])).take (i + 1) = (endsL (mkP .together ps 0 [])).take i ++ [endA (mkP .together ps 0 []) i] := by
        rw [List.take_add_one, endsL_at _ (by rw [hp]; omega)]
        rfl
      rw [Int.zero_add]
      simp only [dSeq, dAsg, dAsgT, dPar, dRet, dDrop, dIfS, dNext, dBreak, dCont, dFor, dIL, dIT, dIR1, dIR2, dIE, dIZ, oAdd, oSub, oMul, oDiv, oMod, oPow, oLt, oLe, oGt, oGe, atI_0, atI_1, atI_2, atI_3, atI_m1, ixN_0, ixN_1, ixN_2, Om.put_same, dVar, getK, dC, dNil, dCons, dOp, oI, oIC, oMulS, oEq, oNe, eqS, oIsN, oNotN, isNon, dTest, dAnd, dOr, dNot, dAndV, dOrV, dNotV, dIf, dTup, dLst, dLstM, dCall, dCB, dChain, asL, asQ, oIx, oIxL, oIxT, oCat, oCatM, oCatT, oNil, oIn, dNoPart, dPart, dSl, slL, slT, slLM, cMax2, cMin2, cLen, cList, cListM, cInt, cTuple, dFld, fldP, dMeth, oOwn, put_nm, put_tp, puts_nil, puts_cons, onS, dNeg, dRev, dSetI, dBM, mAppend, mExtend, mClear, mReverse, dYes, startD, List.map_cons, List.map_nil, List.length_cons, List.length_nil, List.set_cons_zero, List.set_cons_succ, List.cons_append, List.nil_append, Nat.reduceAdd, Nat.reduceSub, List.replicate_succ, List.replicate_zero, List.length_singleton, wipeD, decide_eq_true_eq, decide_eq_false_iff_not, reduceCtorEq, true_implies, false_implies, and_true, true_and, if_true, if_false, Bool.false_eq_true, Bool.not_true, Bool.not_false, Bool.not_eq_true', Bool.not_eq_false', Om.put_put, dLc, dLcM, dFrz, frzK, List.getElem?_cons_succ, List.getElem?_cons_zero, dMkP, dForM, dNever, cIs_int, cIs_bool, cIs_str, cIs_list, cIs_tuple, cIsP, tyNm, is_int, is_bool, is_str, is_list, is_tuple, N_law_group_of]
      refine ⟨by rw [List.length_map]; omega, lcl_gen (fun p => decide ((i : Int) < p.span) && decide ((i : Int) < stopI ps)) (fun p => .int (endA p i)) (fun p hp A B hA hB => ?_) ?_⟩
      · have sp := (hg p hp).sp
        have e1 : (((intsD (endsL p)).length : Nat) : Int) - 1 = p.span := by rw [el]; omega
        simp only [tabD]
        have ea : (i : Int) ≤ p.span → atI (intsD (endsL p)) (i : Int) = some (.int (endA p i)) := fun h => ends_atI (by omega) h
        simp only [dSeq, dAsg, dAsgT, dPar, dRet, dDrop, dIfS, dNext, dBreak, dCont, dFor, dIL, dIT, dIR1, dIR2, dIE, dIZ, oAdd, oSub, oMul, oDiv, oMod, oPow, oLt, oLe, oGt, oGe, atI_0, atI_1, atI_2, atI_3, atI_m1, ixN_0, ixN_1, ixN_2, Om.put_same, dVar, getK, dC, dNil, dCons, dOp, oI, oIC, oMulS, oEq, oNe, eqS, oIsN, oNotN, isNon, dTest, dAnd, dOr, dNot, dAndV, dOrV, dNotV, dIf, dTup, dLst, dLstM, dCall, dCB, dChain, asL, asQ, oIx, oIxL, oIxT, oCat, oCatM, oCatT, oNil, oIn, dNoPart, dPart, dSl, slL, slT, slLM, cMax2, cMin2, cLen, cList, cListM, cInt, cTuple, dFld, fldP, dMeth, oOwn, put_nm, put_tp, puts_nil, puts_cons, onS, dNeg, dRev, dSetI, dBM, mAppend, mExtend, mClear, mReverse, dYes, startD, List.map_cons, List.map_nil, List.length_cons, List.length_nil, List.set_cons_zero, List.set_cons_succ, List.cons_append, List.nil_append, Nat.reduceAdd, Nat.reduceSub, List.replicate_succ, List.replicate_zero, List.length_singleton, wipeD, decide_eq_true_eq, decide_eq_false_iff_not, reduceCtorEq, true_implies, false_implies, and_true, true_and, if_true, if_false, Bool.false_eq_true, Bool.not_true, Bool.not_false, Bool.not_eq_true', Bool.not_eq_false', Om.put_put, dLc, dLcM, dFrz, frzK, List.getElem?_cons_succ, List.getElem?_cons_zero, dMkP, dForM, dNever, cIs_int, cIs_bool, cIs_str, cIs_list, cIs_tuple, cIsP, tyNm, is_int, is_bool, is_str, is_list, is_tuple, N_law_group_of, e1]
        exact ⟨fun h1 => ⟨fun h2 => by rw [ea (by omega)]; exact hA (by simp [h1, h2]), fun h2 => hB (by simp [h2])⟩, fun h1 => hB (by simp [h1])⟩
      · rw [← runG_stop (by omega)]
        have eN : intsD ((endsL (mkP .together ps 0 [])).take (i + 1)) = intsD ((endsL (mkP .together ps 0 [])).take i) ++ [.int (endA (mkP .together ps 0 []) i)] := by
          rw [et]
          unfold intsD
          rw [List.map_append]
          rfl
        have hlen : (intsD ((endsL (mkP .together ps 0 [])).take i)).length < 100000 := by
          rw [intsD_len, List.length_take, endsL_len]
          omega
        cases hR : runG ps i with
        | nil =>
          simp only [dSeq, dAsg, dAsgT, dPar, dRet, dDrop, dIfS, dNext, dBreak, dCont, dFor, dIL, dIT, dIR1, dIR2, dIE, dIZ, oAdd, oSub, oMul, oDiv, oMod, oPow, oLt, oLe, oGt, oGe, atI_0, atI_1, atI_2, atI_3, atI_m1, ixN_0, ixN_1, ixN_2, Om.put_same, dVar, getK, dC, dNil, dCons, dOp, oI, oIC, oMulS, oEq, oNe, eqS, oIsN, oNotN, isNon, dTest, dAnd, dOr, dNot, dAndV, dOrV, dNotV, dIf, dTup, dLst, dLstM, dCall, dCB, dChain, asL, asQ, oIx, oIxL, oIxT, oCat, oCatM, oCatT, oNil, oIn, dNoPart, dPart, dSl, slL, slT, slLM, cMax2, cMin2, cLen, cList, cListM, cInt, cTuple, dFld, fldP, dMeth, oOwn, put_nm, put_tp, puts_nil, puts_cons, onS, dNeg, dRev, dSetI, dBM, mAppend, mExtend, mClear, mReverse, dYes, startD, List.map_cons, List.map_nil, List.length_cons, List.length_nil, List.set_cons_zero, List.set_cons_succ, List.cons_append, List.nil_append, Nat.reduceAdd, Nat.reduceSub, List.replicate_succ, List.replicate_zero, List.length_singleton, wipeD, decide_eq_true_eq, decide_eq_false_iff_not, reduceCtorEq, true_implies, false_implies, and_true, true_and, if_true, if_false, Bool.false_eq_true, Bool.not_true, Bool.not_false, Bool.not_eq_true', Bool.not_eq_false', Om.put_put, dLc, dLcM, dFrz, frzK, List.getElem?_cons_succ, List.getElem?_cons_zero, dMkP, dForM, dNever, cIs_int, cIs_bool, cIs_str, cIs_list, cIs_tuple, cIsP, tyNm, is_int, is_bool, is_str, is_list, is_tuple, N_law_group_of]
          refine ⟨⟨l, _, rfl, Om.put_same⟩, by decide, (fun z => nomatch z), fun _ => ⟨hlen, hN _ _ ⟨by omega, ?_, _, _, _, _, rfl⟩⟩⟩
          rw [eN, k2 hR]
        | cons a r =>
          have k1' := k1 (by rw [hR]; exact fun z => nomatch z)
          rw [hR] at k1'
          simp only [dSeq, dAsg, dAsgT, dPar, dRet, dDrop, dIfS, dNext, dBreak, dCont, dFor, dIL, dIT, dIR1, dIR2, dIE, dIZ, oAdd, oSub, oMul, oDiv, oMod, oPow, oLt, oLe, oGt, oGe, atI_0, atI_1, atI_2, atI_3, atI_m1, ixN_0, ixN_1, ixN_2, Om.put_same, dVar, getK, dC, dNil, dCons, dOp, oI, oIC, oMulS, oEq, oNe, eqS, oIsN, oNotN, isNon, dTest, dAnd, dOr, dNot, dAndV, dOrV, dNotV, dIf, dTup, dLst, dLstM, dCall, dCB, dChain, asL, asQ, oIx, oIxL, oIxT, oCat, oCatM, oCatT, oNil, oIn, dNoPart, dPart, dSl, slL, slT, slLM, cMax2, cMin2, cLen, cList, cListM, cInt, cTuple, dFld, fldP, dMeth, oOwn, put_nm, put_tp, puts_nil, puts_cons, onS, dNeg, dRev, dSetI, dBM, mAppend, mExtend, mClear, mReverse, dYes, startD, List.map_cons, List.map_nil, List.length_cons, List.length_nil, List.set_cons_zero, List.set_cons_succ, List.cons_append, List.nil_append, Nat.reduceAdd, Nat.reduceSub, List.replicate_succ, List.replicate_zero, List.length_singleton, wipeD, decide_eq_true_eq, decide_eq_false_iff_not, reduceCtorEq, true_implies, false_implies, and_true, true_and, if_true, if_false, Bool.false_eq_true, Bool.not_true, Bool.not_false, Bool.not_eq_true', Bool.not_eq_false', Om.put_put, dLc, dLcM, dFrz, frzK, List.getElem?_cons_succ, List.getElem?_cons_zero, dMkP, dForM, dNever, cIs_int, cIs_bool, cIs_str, cIs_list, cIs_tuple, cIsP, tyNm, is_int, is_bool, is_str, is_list, is_tuple, N_law_group_of]
          refine ⟨⟨l, _, rfl, Om.put_same⟩, by decide, fun _ => ?_, fun z => nomatch z⟩
          show cMax [D.lst ((a :: r).map fun p => D.int (endA p i))] _ _
          refine max_intro (fun z => nomatch z) ?_
          simp only [dSeq, dAsg, dAsgT, dPar, dRet, dDrop, dIfS, dNext, dBreak, dCont, dFor, dIL, dIT, dIR1, dIR2, dIE, dIZ, oAdd, oSub, oMul, oDiv, oMod, oPow, oLt, oLe, oGt, oGe, atI_0, atI_1, atI_2, atI_3, atI_m1, ixN_0, ixN_1, ixN_2, Om.put_same, dVar, getK, dC, dNil, dCons, dOp, oI, oIC, oMulS, oEq, oNe, eqS, oIsN, oNotN, isNon, dTest, dAnd, dOr, dNot, dAndV, dOrV, dNotV, dIf, dTup, dLst, dLstM, dCall, dCB, dChain, asL, asQ, oIx, oIxL, oIxT, oCat, oCatM, oCatT, oNil, oIn, dNoPart, dPart, dSl, slL, slT, slLM, cMax2, cMin2, cLen, cList, cListM, cInt, cTuple, dFld, fldP, dMeth, oOwn, put_nm, put_tp, puts_nil, puts_cons, onS, dNeg, dRev, dSetI, dBM, mAppend, mExtend, mClear, mReverse, dYes, startD, List.map_cons, List.map_nil, List.length_cons, List.length_nil, List.set_cons_zero, List.set_cons_succ, List.cons_append, List.nil_append, Nat.reduceAdd, Nat.reduceSub, List.replicate_succ, List.replicate_zero, List.length_singleton, wipeD, decide_eq_true_eq, decide_eq_false_iff_not, reduceCtorEq, true_implies, false_implies, and_true, true_and, if_true, if_false, Bool.false_eq_true, Bool.not_true, Bool.not_false, Bool.not_eq_true', Bool.not_eq_false', Om.put_put, dLc, dLcM, dFrz, frzK, List.getElem?_cons_succ, List.getElem?_cons_zero, dMkP, dForM, dNever, cIs_int, cIs_bool, cIs_str, cIs_list, cIs_tuple, cIsP, tyNm, is_int, is_bool, is_str, is_list, is_tuple, N_law_group_of]
          refine ⟨hlen, hN _ _ ⟨by omega, ?_, _, _, _, _, rfl⟩⟩
          rw [eN, k1']
          rfl
    · obtain ⟨hi, rfl, v6, v7, v8, v9, rfl⟩ := hI
      simp only [dSeq, dAsg, dAsgT, dPar, dRet, dDrop, dIfS, dNext, dBreak, dCont, dFor, dIL, dIT, dIR1, dIR2, dIE, dIZ, oAdd, oSub, oMul, oDiv, oMod, oPow, oLt, oLe, oGt, oGe, atI_0, atI_1, atI_2, atI_3, atI_m1, ixN_0, ixN_1, ixN_2, Om.put_same, dVar, getK, dC, dNil, dCons, dOp, oI, oIC, oMulS, oEq, oNe, eqS, oIsN, oNotN, isNon, dTest, dAnd, dOr, dNot, dAndV, dOrV, dNotV, dIf, dTup, dLst, dLstM, dCall, dCB, dChain, asL, asQ, oIx, oIxL, oIxT, oCat, oCatM, oCatT, oNil, oIn, dNoPart, dPart, dSl, slL, slT, slLM, cMax2, cMin2, cLen, cList, cListM, cInt, cTuple, dFld, fldP, dMeth, oOwn, put_nm, put_tp, puts_nil, puts_cons, onS, dNeg, dRev, dSetI, dBM, mAppend, mExtend, mClear, mReverse, dYes, startD, List.map_cons, List.map_nil, List.length_cons, List.length_nil, List.set_cons_zero, List.set_cons_succ, List.cons_append, List.nil_append, Nat.reduceAdd, Nat.reduceSub, List.replicate_succ, List.replicate_zero, List.length_singleton, wipeD, decide_eq_true_eq, decide_eq_false_iff_not, reduceCtorEq, true_implies, false_implies, and_true, true_and, if_true, if_false, Bool.false_eq_true, Bool.not_true, Bool.not_false, Bool.not_eq_true', Bool.not_eq_false', Om.put_put, dLc, dLcM, dFrz, frzK, List.getElem?_cons_succ, List.getElem?_cons_zero, dMkP, dForM, dNever, cIs_int, cIs_bool, cIs_str, cIs_list, cIs_tuple, cIsP, tyNm, is_int, is_bool, is_str, is_list, is_tuple, N_law_group_of]
      rw [Om.del_put hl, rangeD_length, hpn, List.take_length]
      first | exact ⟨by decide, q⟩ | exact q
/-! ### the table of a program -/
theorem sum_le3 {ps : List Prog} {B : Int} (h : ∀ p ∈ ps, p.span ≤ B) (h0 : 0 ≤ B) (hl : ps.length ≤ 3) : sumS ps ≤ 3 * B := by
  match ps, hl with
  | [], _ => show (0 : Int) ≤ _; omega
  | [a], _ =>
    have := h a (by simp)
    show a.span + 0 ≤ _
    omega
  | [a, b], _ =>
    have := h a (by simp)
    have := h b (by simp)
    show a.span + (b.span + 0) ≤ _
    omega
  | [a, b, c], _ =>
    have := h a (by simp)
    have := h b (by simp)
    have := h c (by simp)
    show a.span + (b.span + (c.span + 0)) ≤ _
    omega
def nine : Nat → Int
  | 0 => 9
  | d + 1 => 3 * nine d
theorem nine_pos : ∀ d, 9 ≤ nine d
  | 0 => Int.le_refl 9
  | d + 1 => by
    have := nine_pos d
    show (9 : Int) ≤ 3 * nine d
    omega
theorem spec_wf {b : Bool} {d : Nat} {f : D} {p : Prog} (h : SpecD b d f p) (hd : d ≤ 4) : WF p := (spec_small h hd).1
theorem spec_span {d : Nat} {f : D} {p : Prog} (h : SpecD false d f p) : d ≤ 4 → p.span ≤ nine d := by
  induction h with
  | @sleep d n h0 h1 =>
    intro hd
    have := nine_pos d
    have h1 : n ≤ 9 := h1
    show n ≤ _
    omega
  | @fail d z hz =>
    intro hd
    have := nine_pos d
    show (0 : Int) ≤ _
    omega
  | @seq d fs ps len h2 h3 sub ih =>
    intro hd
    have hn := nine_pos d
    have hs : ∀ p ∈ ps, WF p ∧ p.span ≤ nine d := fun p hp => by
      obtain ⟨i, hi, e⟩ := List.mem_iff_getElem.mp hp
      exact ⟨spec_wf (sub i _ p (List.getElem?_eq_getElem (by omega)) (by rw [List.getElem?_eq_getElem hi, e])) (by omega), ih i _ p (List.getElem?_eq_getElem (by omega)) (by rw [List.getElem?_eq_getElem hi, e]) (by omega)⟩
    have e := (row_of_seq h2 h3 fun q hq => (hs q hq).1).1
    have e1 : (seqM ps 0).1 = (seqF ps).span := by rw [e]
    have h4 := (seqM_bounds (ps := ps) (t := 0) fun q hq => wf_good (hs q hq).1).2
    have h5 := sum_le3 (B := nine d) (fun p hp => (hs p hp).2) (by omega) h3
    show (seqF ps).span ≤ 3 * nine d
    omega
  | @group d fs ps len h2 h3 sub ih =>
    intro hd
    have hn := nine_pos d
    have hs : ∀ p ∈ ps, WF p ∧ p.span ≤ nine d := fun p hp => by
      obtain ⟨i, hi, e⟩ := List.mem_iff_getElem.mp hp
      exact ⟨spec_wf (sub i _ p (List.getElem?_eq_getElem (by omega)) (by rw [List.getElem?_eq_getElem hi, e])) (by omega), ih i _ p (List.getElem?_eq_getElem (by omega)) (by rw [List.getElem?_eq_getElem hi, e]) (by omega)⟩
    have hne : ps ≠ [] := fun e => by rw [e] at h2; exact absurd h2 (by decide)
    have hg : ∀ q ∈ ps, Good q := fun q hq => wf_good (hs q hq).1
    obtain ⟨s0, g1, g2⟩ := grp_facts hne hg
    have key : (grpM ps).1 ≤ nine d := by
      cases hf : firstFail ps with
      | none =>
        rw [g2 hf]
        refine maxL_le (fun e => hne (List.map_eq_nil_iff.mp e)) fun a ha => ?_
        obtain ⟨p, hp, rfl⟩ := List.mem_map.mp ha
        exact (hs p hp).2
      | some f =>
        obtain ⟨f1, _, f3⟩ := g1 f hf
        have sf := (hg f (firstFail_some hf).1).sp
        rw [f3]
        refine maxL_le (fun e => hne (List.map_eq_nil_iff.mp e)) fun a ha => ?_
        obtain ⟨p, hp, rfl⟩ := List.mem_map.mp ha
        exact Int.le_trans ((hg p hp).hi _ sf) (hs p hp).2
    show (grpM ps).1 ≤ 3 * nine d
    omega
  | @loop d x p n sub h0 h1 ih =>
    intro hd
    have hn := nine_pos d
    have ih := ih (by omega)
    have sp := (wf_good (spec_wf sub (by omega))).sp
    have h1 : n ≤ 3 := h1
    have e : (mkP .loop [p] n []).span = _ := (loop_span2 (p := p) (k := n)).1
    show (mkP .loop [p] n []).span ≤ 3 * nine d
    rw [e]
    split
    · omega
    · split
      · have h2 : p.span * n ≤ nine d * 3 := Int.mul_le_mul ih h1 h0 (by omega)
        omega
      · omega
  | @shield d x p sub ih =>
    intro hd
    have hn := nine_pos d
    have ih := ih (by omega)
    show p.span ≤ 3 * nine d
    omega
  | @cleanup d x y p q sub sub2 ih ih2 =>
    intro hd
    have hn := nine_pos d
    have ih := ih (by omega)
    have ih2 := ih2 (by omega)
    show p.span + q.span ≤ 3 * nine d
    omega
  | @fallback d x y p q ws n1 n2 n3 n4 sub sub2 ih ih2 =>
    intro hd
    have hn := nine_pos d
    have ih := ih (by omega)
    have ih2 := ih2 (by omega)
    have w := wf_seq (spec_wf (.fallback n1 n2 n3 n4 sub sub2) hd) (.inr rfl)
    have e2 : sumS [p, q] = p.span + (q.span + 0) := rfl
    have w : (mkP .fallback [p, q] 0 ws).span ≤ sumS [p, q] := w
    show _ ≤ 3 * nine d
    omega
  | @timeout d x p n z hz sub h0 h1 ih =>
    intro hd
    have hn := nine_pos d
    have ih := ih (by omega)
    have hi := (wf_good (spec_wf sub (by omega))).hi n h0
    show (mkP .timeout [p] n [z]).span ≤ 3 * nine d
    rw [(lim_meas (p := p) (.inl rfl) (n := n) (ws := [z])).1]
    split <;> omega
  | @moveon d x p n sub h0 h1 ih =>
    intro hd
    have hn := nine_pos d
    have ih := ih (by omega)
    have hi := (wf_good (spec_wf sub (by omega))).hi n h0
    show (mkP .moveon [p] n []).span ≤ 3 * nine d
    rw [(lim_meas (p := p) (.inr rfl) (n := n) (ws := [])).1]
    split <;> omega
theorem nine_le {d : Nat} (h : d ≤ 4) : nine d ≤ 59049 := by
  have : d = 0 ∨ d = 1 ∨ d = 2 ∨ d = 3 ∨ d = 4 := by omega
  rcases this with rfl | rfl | rfl | rfl | rfl <;> decide
end
end Cu

/-! == BU -/
set_option maxHeartbeats 4000000
namespace Cu
open PySem PySem.Spec PyProof.Rows L2 Evl CuT
/-! ### the table of a program -/
section
variable {P : Program} {w : World} {K : PySem.W.Frag} {mg : Str → Option Value} {base : Heap}
theorem in_names {w : Str} : ∀ ws : List Str, inF (.str w) (ws.map D.str) = decide (w ∈ ws)
  | [] => rfl
  | z :: ws => by
    show (eqF (.str z) (.str w) || inF (.str w) (ws.map D.str)) = _
    rw [in_names ws]
    show (decide (z = w) || decide (w ∈ ws)) = _
    by_cases h : z = w
    · subst h
      simp
    · have h' : w ≠ z := fun e => h e.symm
      simp [h, h']
theorem in_names0 : ∀ ws : List Str, inF .non (ws.map D.str) = false
  | [] => rfl
  | z :: ws => by
    show (eqF (.str z) .non || inF .non (ws.map D.str)) = _
    rw [in_names0 ws]
    rfl
theorem names_flat : ∀ ws : List Str, (ws.map D.str).all flatD = true
  | [] => rfl
  | z :: ws => by
    show (flatD (.str z) && (ws.map D.str).all flatD) = _
    rw [names_flat ws]
    rfl
theorem cutD_1 (xs : List D) : cutD xs (some 1) none = xs.drop 1 := by
  unfold cutD HT.sIx
  cases xs with
  | nil => rfl
  | cons a r =>
    simp
theorem cutD_n {xs : List D} {n : Int} (h0 : 0 ≤ n) (h1 : n ≤ xs.length) : cutD xs none (some n) = xs.take n.toNat := by
  obtain ⟨m, rfl⟩ : ∃ m : Nat, n = (m : Int) := ⟨n.toNat, by omega⟩
  unfold cutD
  have e0 : HT.sIx xs.length 0 none = 0 := rfl
  have e1 : HT.sIx xs.length xs.length (some (m : Int)) = m := by
    unfold HT.sIx
    simp
    rw [if_neg (by omega)]
    omega
  rw [e0, e1, List.drop_zero, Nat.sub_zero, Int.toNat_natCast]
theorem rep1 {α : Type} (x : α) : ∀ k : Nat, (List.replicate k [x]).flatten = List.replicate k x
  | 0 => rfl
  | k + 1 => by rw [List.replicate_succ, List.flatten_cons, rep1 x k, List.replicate_succ]; rfl
theorem rep_intro {x : D} {k : Int} {ω : Om} {Φ : D → Om → Prop} (h0 : -1000000 ≤ k) (h1 : k ≤ 100000) (q : Φ (.lst (List.replicate k.toNat x)) ω) : oRep (.lst [x]) (.int k) ω Φ := by
  refine ⟨h0, by omega, ?_, ?_⟩
  · show 1 * k.toNat ≤ 100000
    omega
  · rw [rep1]
    exact q
theorem ne_nil0 {ω : Om} {Φ : D → Om → Prop} (q : Φ (.bl false) ω) : oNeD (.tup []) (.tup []) ω Φ := by
  unfold oNeD
  rw [show pyOf (.tup []) = some (.tuple []) by simp [pyOf, pysOf]]
  refine ⟨by decide, by decide, ?_⟩
  rw [show PyData.eqv (.tuple []) (.tuple []) = true by simp [PyData.eqv, PyData.eqvAll]]
  exact q
theorem ne_nil1 {z : Str} {ω : Om} {Φ : D → Om → Prop} (hz : IsName z) (q : Φ (.bl true) ω) : oNeD (.tup [.str z]) (.tup []) ω Φ := by
  unfold oNeD
  rw [show pyOf (.tup [.str z]) = some (.tuple [.str z]) by simp [pyOf, pysOf], show pyOf (.tup []) = some (.tuple []) by simp [pyOf, pysOf]]
  refine ⟨?_, by decide, ?_⟩
  · have := name_ok hz
    unfold SeqAt.shaped
    simp [PyData.canLay0, PyData.canLayAll0, PyData.depth, PyData.depthAll, this]
  rw [show PyData.eqv (.tuple [.str z]) (.tuple []) = false by simp [PyData.eqv, PyData.eqvAll]]
  exact q
theorem tab_row {p : Prog} {rs : List Prog} (wp : WF p) (h : RowOf p rs) : D.tup [.lst (intsD (rowL rs)), brD (seqM rs 0).2] = tabD p := by
  unfold tabD
  rw [rowL_row (wf_good wp).sp h, h.1]
def sTable (n : Nat) : SD := fun _ ds ω Φ => match ds with
  | [f] => ∃ p e, e < n ∧ e ≤ 4 ∧ SpecD false e f p ∧ Φ (tabD p) ω
  | _ => False
theorem table_parts {n d : Nat} {v0 v1 v2 v3 v4 v5 v6 v7 v8 v9 v10 v11 : Option D} {fs : List D} {ps : List Prog} {ω : Om} {Φ : List D → Om → Prop} (hd : d < n) (h4 : d ≤ 4) (len : fs.length = ps.length) (sub : ∀ (i : Nat) (x : D) (q : Prog), fs[i]? = some x → ps[i]? = some q → SpecD false d x q) (fin : Φ (ps.map tabD) ω) : dLcL (Tg.nm 10) dYes (dCall (sTable n) (dCons (dVar 10) dNil)) [v0, v1, v2, v3, v4, v5, v6, v7, v8, v9, v10, v11] fs [] ω Φ := by
  refine lcl_inv (fun i acc ω' => i ≤ fs.length ∧ acc = (ps.take i).map tabD ∧ ω' = ω) (fun i f acc ω' hd hI N hN => ?_) (fun acc ω' hI => ?_) ⟨Nat.zero_le _, rfl, rfl⟩
  · obtain ⟨hi, rfl, rfl⟩ := hI
    have hlt := (List.getElem?_eq_some_iff.mp hd).1
    have hp : ps[i]? = some ps[i] := List.getElem?_eq_getElem (by omega)
    simp only [dSeq, dAsg, dAsgT, dPar, dRet, dDrop, dIfS, dNext, dBreak, dCont, dFor, dIL, dIT, dIR1, dIR2, dIE, dIZ, oAdd, oSub, oMul, oDiv, oMod, oPow, oLt, oLe, oGt, oGe, atI_0, atI_1, atI_2, atI_3, atI_m1, ixN_0, ixN_1, ixN_2, Om.put_same, dVar, getK, dC, dNil, dCons, dOp, oI, oIC, oMulS, oEq, oNe, eqS, oIsN, oNotN, isNon, dTest, dAnd, dOr, dNot, dAndV, dOrV, dNotV, dIf, dTup, dLst, dLstM, dCall, dCB, dChain, asL, asQ, oIx, oIxL, oIxT, oCat, oCatM, oCatT, oNil, oIn, dNoPart, dPart, dSl, slL, slT, slLM, cMax2, cMin2, cLen, cList, cListM, cInt, cTuple, dFld, fldP, dMeth, oOwn, put_nm, put_tp, puts_nil, puts_cons, onS, dNeg, dRev, dSetI, dBM, mAppend, mExtend, mClear, mReverse, dYes, startD, List.map_cons, List.map_nil, List.length_cons, List.length_nil, List.set_cons_zero, List.set_cons_succ, List.cons_append, List.nil_append, Nat.reduceAdd, Nat.reduceSub, List.replicate_succ, List.replicate_zero, List.length_singleton, wipeD, decide_eq_true_eq, decide_eq_false_iff_not, reduceCtorEq, true_implies, false_implies, and_true, true_and, if_true, if_false, Bool.false_eq_true, Bool.not_true, Bool.not_false, Bool.not_eq_true', Bool.not_eq_false', Om.put_put, dLc, dLcM, dFrz, frzK, List.getElem?_cons_succ, List.getElem?_cons_zero, dMkP, dForM, dNever, cIs_int, cIs_bool, cIs_str, cIs_list, cIs_tuple, cIsP, tyNm, is_int, is_bool, is_str, is_list, is_tuple, sTable]
    exact ⟨ps[i], d, by omega, by omega, sub i f _ hd hp, hN _ _ ⟨hlt, by rw [show ps.take (i + 1) = ps.take i ++ [ps[i]] by rw [List.take_add_one, hp]; rfl, List.map_append]; rfl, rfl⟩⟩
  · obtain ⟨hi, rfl, rfl⟩ := hI
    rw [len, List.take_length]
    exact fin
abbrev N_law_table : List Str := ["_law_spec_here", "_law_kind", "_law_parts", "_law_number", "_law_names", "_law_rows", "_law_ends", "_law_failure", "_law_more", "_law_found", "_law_part", "_law_end"]
theorem sc_law_table : FnScope N_law_table ["_law_spec_here"] (defScope s_law_table) := ⟨rfl, rfl, rfl, by decide +kernel, rfl, by decide +kernel, by decide +kernel⟩

theorem fd_law_table {n k : Nat} (hk : 1 ≤ k) (T : Txt K mg) (G_law_table : FnD P w K mg base k (He.ga K "_law_table") (sTable n)) : FnD P w K mg base (k + 1) (He.ga K "_law_table") (sTable (n + 1)) := by
  have G_law_row_of : FnD P w K mg base 1 (He.ga K "_law_row_of") sRowOf := fd_law_row_of T
  have G_law_group_of : FnD P w K mg base 1 (He.ga K "_law_group_of") sGroupOf := fd_law_group_of T
  refine fnd_mk T.f_law_table sc_law_table (fun _ _ _ _ _ _ us hl => match us, hl with | [_], _ => rfl) (fun ξ ds ω Φ h => ?_) (fun cdv A outer s H E hr => (dss_cons (ds_asg (dv 0) (dg_tup rfl (dgs_cons (dg_name (i := 1) sc_law_table.nd rfl (Or.inl rfl)) (dgs_cons (dg_name (i := 2) sc_law_table.nd rfl (Or.inl rfl)) (dgs_cons (dg_name (i := 3) sc_law_table.nd rfl (Or.inl rfl)) (dgs_cons (dg_name (i := 4) sc_law_table.nd rfl (Or.inl rfl)) dgs_nil))))))
    (dss_cons (ds_if (dt_cmp op_eq ok_eq (dv 1) de_str (nomark _)) (dss_one (ds_ret (de_tup (da_cons (de_lr rfl (by rfl) T.b_list (by rfl) T.b_range (da_cons (de_op op_add ok_add (dv 3) de_int) da_nil)) (da_cons de_non da_nil))))) dss_nil)
    (dss_cons (ds_if (dt_cmp op_eq ok_eq (dv 1) de_str (nomark _)) (dss_one (ds_ret (de_tup (da_cons (de_lst (da_cons de_int da_nil)) (da_cons (de_ix ix_tup ok_ixT (dv 4) de_int (fun _ _ => rfl)) da_nil))))) dss_nil)
    (dss_cons (ds_setLc (i := 5) (own := [("_law_part", 10)]) (by rfl) sc_law_table.nd rfl rfl (sw_true rfl rfl rfl (by decide +kernel)) (di_tup (dv 2)) (blkOk_by (own := [("_law_part", 10)]) (N := N_law_table) (sc := defScope s_law_table) (by decide +kernel)) (fun _ _ _ _ _ => (dg_name (i := 10) sc_law_table.nd rfl (Or.inl rfl))) (fun _ _ _ _ _ => dts_nil) (fun _ _ _ _ _ => (de_call G_law_table (hr.mono (by omega)) rfl T.g_law_table (kp_of T.f_law_table) passL (da_cons (dv 10) da_nil))))
    (dss_cons (ds_asg (de_ix ix_list ok_ixL (dv 5) de_int (fun _ _ => rfl)) (dg_tup rfl (dgs_cons (dg_name (i := 6) sc_law_table.nd rfl (Or.inl rfl)) (dgs_cons (dg_name (i := 7) sc_law_table.nd rfl (Or.inl rfl)) dgs_nil))))
    (dss_cons (ds_if (dt_cmp op_in_seq ok_in (dv 1) (de_tup (da_cons de_str (da_cons de_str da_nil))) (by rfl)) (dss_one (ds_ret (de_if (dt_cmp op_eq ok_eq (dv 1) de_str (nomark _)) (de_call G_law_row_of (hr.mono (by omega)) rfl T.g_law_row_of (kp_of T.f_law_row_of) passL (da_cons (dv 5) da_nil)) (de_call G_law_group_of (hr.mono (by omega)) rfl T.g_law_group_of (kp_of T.f_law_group_of) passL (da_cons (dv 5) da_nil))))) dss_nil)
    (dss_cons (ds_if (dt_cmp op_eq ok_eq (dv 1) de_str (nomark _)) (dss_one (ds_ret (de_call G_law_row_of (hr.mono (by omega)) rfl T.g_law_row_of (kp_of T.f_law_row_of) passL (da_cons (de_op op_rep ok_rep (dv 5) (dv 3)) da_nil)))) dss_nil)
    (dss_cons (ds_if (dt_cmp op_eq ok_eq (dv 1) de_str (nomark _)) (dss_one (ds_ret (de_if (dt_cmp op_in_seq ok_in (dv 7) (dv 4) (by rfl)) (de_call G_law_row_of (hr.mono (by omega)) rfl T.g_law_row_of (kp_of T.f_law_row_of) passL (da_cons (de_lst (da_cons (de_tup (da_cons (dv 6) (da_cons de_non da_nil))) (da_cons (de_ix ix_list ok_ixL (dv 5) de_int (fun _ _ => rfl)) da_nil))) da_nil)) (de_ix ix_list ok_ixL (dv 5) de_int (fun _ _ => rfl))))) dss_nil)
    (dss_cons (ds_if (dt_cmp op_eq ok_eq (dv 1) de_str (nomark _)) (dss_cons (ds_set (i := 8) sc_law_table.nd rfl (Or.inr rfl) (de_op op_sub ok_sub (de_callB call_len_seq ok_len (by rfl) T.b_len PySem.boot_len (da_cons (de_ix ix_tup ok_ixT (de_ix ix_list ok_ixL (dv 5) de_int (fun _ _ => rfl)) de_int (fun _ _ => rfl)) da_nil)) de_int))
    (dss_cons (ds_set (i := 9) sc_law_table.nd rfl (Or.inl rfl) (de_op op_cat ok_cat (de_op op_cat ok_cat (de_lst (da_cons de_int da_nil)) (de_lc (own := [("_law_end", 11)]) (by rfl) sc_law_table.nd (di_list (de_sl sl_list ok_slL (dv 6) (do_some de_int) do_none)) (blkOk_by (own := [("_law_end", 11)]) (N := N_law_table) (sc := defScope s_law_table) (by decide +kernel)) (fun _ _ _ _ _ => (dg_name (i := 11) sc_law_table.nd rfl (Or.inl rfl))) (fun _ _ _ _ _ => dts_nil) (fun _ _ _ _ _ => (de_op op_add ok_add (dv 11) (dv 8))))) (de_op op_rep ok_rep (de_lst (da_cons (de_op op_add ok_add (de_op op_sub ok_sub (de_callB call_len_seq ok_len (by rfl) T.b_len PySem.boot_len (da_cons (dv 6) da_nil)) de_int) (dv 8)) da_nil)) (dv 8))))
    (dss_one (ds_ret (de_tup (da_cons (dv 9) (da_cons (de_if (dt_notN (de_ix ix_tup ok_ixT (de_ix ix_list ok_ixL (dv 5) de_int (fun _ _ => rfl)) de_int (fun _ _ => rfl))) (de_ix ix_tup ok_ixT (de_ix ix_list ok_ixL (dv 5) de_int (fun _ _ => rfl)) de_int (fun _ _ => rfl)) (dv 7)) da_nil))))))) dss_nil)
    (dss_cons (ds_if (dt_cmp op_eq ok_eq (dv 1) de_str (nomark _)) (dss_one (ds_ret (de_tup (da_cons (de_op op_cat ok_cat (de_lst (da_cons de_int da_nil)) (de_op op_rep ok_rep (de_lst (da_cons (de_op op_sub ok_sub (de_callB call_len_seq ok_len (by rfl) T.b_len PySem.boot_len (da_cons (dv 6) da_nil)) de_int) da_nil)) (de_op op_sub ok_sub (de_callB call_len_seq ok_len (by rfl) T.b_len PySem.boot_len (da_cons (dv 6) da_nil)) de_int))) (da_cons (dv 7) da_nil))))) dss_nil)
    (dss_cons (ds_if (dt_cmp op_le ok_le (de_op op_sub ok_sub (de_callB call_len_seq ok_len (by rfl) T.b_len PySem.boot_len (da_cons (dv 6) da_nil)) de_int) (dv 3) (nomark _)) (dss_one (ds_ret (de_ix ix_list ok_ixL (dv 5) de_int (fun _ _ => rfl)))) dss_nil)
    (dss_one (ds_ret (de_tup (da_cons (de_op op_cat ok_cat (de_sl sl_list ok_slL (dv 6) do_none (do_some (dv 3))) (de_op op_rep ok_rep (de_lst (da_cons (de_ix ix_list ok_ixL (dv 6) (dv 3) (fun _ _ => rfl)) da_nil)) (de_op op_add ok_add (de_op op_sub ok_sub (de_ix ix_list ok_ixL (dv 6) (dv 3) (fun _ _ => rfl)) (dv 3)) de_int))) (da_cons (de_if (dt_cmp (op_neD (hu64_of hr)) ok_neD (dv 4) (de_tup da_nil) (nomark _)) (de_ix ix_tup ok_ixT (dv 4) de_int (fun _ _ => rfl)) de_non) da_nil))))))))))))))))) (fun ξ ds ω Φ h => ?_)
  · match ds, h with
    | [f], h => rfl
  match ds, h with
  | [f], h =>
    obtain ⟨p, e, he, he4, hf, q⟩ := h
    have wp := spec_wf hf he4
    have gp := wf_good wp
    have hsn := spec_span hf he4
    have h59 := nine_le he4
    have el : ∀ p : Prog, (((intsD (endsL p)).length : Nat) : Int) = ((p.span.toNat + 1 : Nat) : Int) := fun p => by rw [intsD_len, endsL_len]
    cases hf with
    | @sleep d n0 h0 h1 =>
      have h1 : n0 ≤ 9 := h1
      simp (decide := true) only [dSeq, dAsg, dAsgT, dPar, dRet, dDrop, dIfS, dNext, dBreak, dCont, dFor, dIL, dIT, dIR1, dIR2, dIE, dIZ, oAdd, oSub, oMul, oDiv, oMod, oPow, oLt, oLe, oGt, oGe, atI_0, atI_1, atI_2, atI_3, atI_m1, ixN_0, ixN_1, ixN_2, Om.put_same, dVar, getK, dC, dNil, dCons, dOp, oI, oIC, oMulS, oEq, oNe, eqS, oIsN, oNotN, isNon, dTest, dAnd, dOr, dNot, dAndV, dOrV, dNotV, dIf, dTup, dLst, dLstM, dCall, dCB, dChain, asL, asQ, oIx, oIxL, oIxT, oCat, oCatM, oCatT, oNil, oIn, dNoPart, dPart, dSl, slL, slT, slLM, cMax2, cMin2, cLen, cList, cListM, cInt, cTuple, dFld, fldP, dMeth, oOwn, put_nm, put_tp, puts_nil, puts_cons, onS, dNeg, dRev, dSetI, dBM, mAppend, mExtend, mClear, mReverse, dYes, startD, List.map_cons, List.map_nil, List.length_cons, List.length_nil, List.set_cons_zero, List.set_cons_succ, List.cons_append, List.nil_append, Nat.reduceAdd, Nat.reduceSub, List.replicate_succ, List.replicate_zero, List.length_singleton, wipeD, decide_eq_true_eq, decide_eq_false_iff_not, reduceCtorEq, true_implies, false_implies, and_true, true_and, if_true, if_false, Bool.false_eq_true, Bool.not_true, Bool.not_false, Bool.not_eq_true', Bool.not_eq_false', Om.put_put, dLc, dLcM, dFrz, frzK, List.getElem?_cons_succ, List.getElem?_cons_zero, dMkP, dForM, dNever, cIs_int, cIs_bool, cIs_str, cIs_list, cIs_tuple, cIsP, tyNm, is_int, is_bool, is_str, is_list, is_tuple, N_law_table, dLR]
      refine ⟨by omega, by omega, ?_⟩
      have e : D.tup [.lst (rangeD 0 (n0 + 1).toNat), .non] = tabD (mkP .sleep [] n0 []) := by
        unfold tabD intsD rangeD
        rw [endsL_sleep h0, List.map_map, show (n0 + 1).toNat = n0.toNat + 1 by omega]
        simp only [Int.zero_add]
        rfl
      rw [e]
      exact q
    | @fail d z hz =>
      simp (decide := true) only [dSeq, dAsg, dAsgT, dPar, dRet, dDrop, dIfS, dNext, dBreak, dCont, dFor, dIL, dIT, dIR1, dIR2, dIE, dIZ, oAdd, oSub, oMul, oDiv, oMod, oPow, oLt, oLe, oGt, oGe, atI_0, atI_1, atI_2, atI_3, atI_m1, ixN_0, ixN_1, ixN_2, Om.put_same, dVar, getK, dC, dNil, dCons, dOp, oI, oIC, oMulS, oEq, oNe, eqS, oIsN, oNotN, isNon, dTest, dAnd, dOr, dNot, dAndV, dOrV, dNotV, dIf, dTup, dLst, dLstM, dCall, dCB, dChain, asL, asQ, oIx, oIxL, oIxT, oCat, oCatM, oCatT, oNil, oIn, dNoPart, dPart, dSl, slL, slT, slLM, cMax2, cMin2, cLen, cList, cListM, cInt, cTuple, dFld, fldP, dMeth, oOwn, put_nm, put_tp, puts_nil, puts_cons, onS, dNeg, dRev, dSetI, dBM, mAppend, mExtend, mClear, mReverse, dYes, startD, List.map_cons, List.map_nil, List.length_cons, List.length_nil, List.set_cons_zero, List.set_cons_succ, List.cons_append, List.nil_append, Nat.reduceAdd, Nat.reduceSub, List.replicate_succ, List.replicate_zero, List.length_singleton, wipeD, decide_eq_true_eq, decide_eq_false_iff_not, reduceCtorEq, true_implies, false_implies, and_true, true_and, if_true, if_false, Bool.false_eq_true, Bool.not_true, Bool.not_false, Bool.not_eq_true', Bool.not_eq_false', Om.put_put, dLc, dLcM, dFrz, frzK, List.getElem?_cons_succ, List.getElem?_cons_zero, dMkP, dForM, dNever, cIs_int, cIs_bool, cIs_str, cIs_list, cIs_tuple, cIsP, tyNm, is_int, is_bool, is_str, is_list, is_tuple, N_law_table, dLR]
      have e : D.tup [.lst [.int 0], .str z] = tabD (mkP .fail [] 0 [z]) := by
        unfold tabD
        rw [endsL_fail]
        rfl
      rw [e]
      exact q
    | @seq d fs ps len h2 h3 sub =>
      have hs : ∀ p ∈ ps, WF p ∧ p.span ≤ nine d := fun p hp => by
        obtain ⟨i, hi, e⟩ := List.mem_iff_getElem.mp hp
        exact ⟨spec_wf (sub i _ p (List.getElem?_eq_getElem (by omega)) (by rw [List.getElem?_eq_getElem hi, e])) (by omega), spec_span (sub i _ p (List.getElem?_eq_getElem (by omega)) (by rw [List.getElem?_eq_getElem hi, e])) (by omega)⟩
      have hn := nine_pos d
      have h5 := sum_le3 (B := nine d) (fun p hp => (hs p hp).2) (by omega) h3
      have h6 : 3 * nine d ≤ 59049 := h59
      have hrow := row_of_seq h2 h3 fun q hq => (hs q hq).1
      obtain ⟨a, r, rfl⟩ : ∃ a r, ps = a :: r := by
        cases ps with
        | nil => exact absurd h2 (by decide)
        | cons a r => exact ⟨a, r, rfl⟩
      have ea : tabD a = .tup [.lst (intsD (endsL a)), brD a.broken] := rfl
      simp (decide := true) only [dSeq, dAsg, dAsgT, dPar, dRet, dDrop, dIfS, dNext, dBreak, dCont, dFor, dIL, dIT, dIR1, dIR2, dIE, dIZ, oAdd, oSub, oMul, oDiv, oMod, oPow, oLt, oLe, oGt, oGe, atI_0, atI_1, atI_2, atI_3, atI_m1, ixN_0, ixN_1, ixN_2, Om.put_same, dVar, getK, dC, dNil, dCons, dOp, oI, oIC, oMulS, oEq, oNe, eqS, oIsN, oNotN, isNon, dTest, dAnd, dOr, dNot, dAndV, dOrV, dNotV, dIf, dTup, dLst, dLstM, dCall, dCB, dChain, asL, asQ, oIx, oIxL, oIxT, oCat, oCatM, oCatT, oNil, oIn, dNoPart, dPart, dSl, slL, slT, slLM, cMax2, cMin2, cLen, cList, cListM, cInt, cTuple, dFld, fldP, dMeth, oOwn, put_nm, put_tp, puts_nil, puts_cons, onS, dNeg, dRev, dSetI, dBM, mAppend, mExtend, mClear, mReverse, dYes, startD, List.map_cons, List.map_nil, List.length_cons, List.length_nil, List.set_cons_zero, List.set_cons_succ, List.cons_append, List.nil_append, Nat.reduceAdd, Nat.reduceSub, List.replicate_succ, List.replicate_zero, List.length_singleton, wipeD, decide_eq_true_eq, decide_eq_false_iff_not, reduceCtorEq, true_implies, false_implies, and_true, true_and, if_true, if_false, Bool.false_eq_true, Bool.not_true, Bool.not_false, Bool.not_eq_true', Bool.not_eq_false', Om.put_put, dLc, dLcM, dFrz, frzK, List.getElem?_cons_succ, List.getElem?_cons_zero, dMkP, dForM, dNever, cIs_int, cIs_bool, cIs_str, cIs_list, cIs_tuple, cIsP, tyNm, is_int, is_bool, is_str, is_list, is_tuple, N_law_table, inF, eqF, List.any_cons, List.any_nil]
      refine ⟨by omega, table_parts (d := d) (by omega) (by omega) len sub ?_⟩
      simp (decide := true) only [dSeq, dAsg, dAsgT, dPar, dRet, dDrop, dIfS, dNext, dBreak, dCont, dFor, dIL, dIT, dIR1, dIR2, dIE, dIZ, oAdd, oSub, oMul, oDiv, oMod, oPow, oLt, oLe, oGt, oGe, atI_0, atI_1, atI_2, atI_3, atI_m1, ixN_0, ixN_1, ixN_2, Om.put_same, dVar, getK, dC, dNil, dCons, dOp, oI, oIC, oMulS, oEq, oNe, eqS, oIsN, oNotN, isNon, dTest, dAnd, dOr, dNot, dAndV, dOrV, dNotV, dIf, dTup, dLst, dLstM, dCall, dCB, dChain, asL, asQ, oIx, oIxL, oIxT, oCat, oCatM, oCatT, oNil, oIn, dNoPart, dPart, dSl, slL, slT, slLM, cMax2, cMin2, cLen, cList, cListM, cInt, cTuple, dFld, fldP, dMeth, oOwn, put_nm, put_tp, puts_nil, puts_cons, onS, dNeg, dRev, dSetI, dBM, mAppend, mExtend, mClear, mReverse, dYes, startD, List.map_cons, List.map_nil, List.length_cons, List.length_nil, List.set_cons_zero, List.set_cons_succ, List.cons_append, List.nil_append, Nat.reduceAdd, Nat.reduceSub, List.replicate_succ, List.replicate_zero, List.length_singleton, wipeD, decide_eq_true_eq, decide_eq_false_iff_not, reduceCtorEq, true_implies, false_implies, and_true, true_and, if_true, if_false, Bool.false_eq_true, Bool.not_true, Bool.not_false, Bool.not_eq_true', Bool.not_eq_false', Om.put_put, dLc, dLcM, dFrz, frzK, List.getElem?_cons_succ, List.getElem?_cons_zero, dMkP, dForM, dNever, cIs_int, cIs_bool, cIs_str, cIs_list, cIs_tuple, cIsP, tyNm, is_int, is_bool, is_str, is_list, is_tuple, N_law_table, ea, sRowOf]
      refine ⟨a :: r, rfl, fun q hq => wf_good (hs q hq).1, by omega, by omega, ?_⟩
      rw [tab_row wp hrow]
      exact q
    | @group d fs ps len h2 h3 sub =>
      have hs : ∀ p ∈ ps, WF p ∧ p.span ≤ nine d := fun p hp => by
        obtain ⟨i, hi, e⟩ := List.mem_iff_getElem.mp hp
        exact ⟨spec_wf (sub i _ p (List.getElem?_eq_getElem (by omega)) (by rw [List.getElem?_eq_getElem hi, e])) (by omega), spec_span (sub i _ p (List.getElem?_eq_getElem (by omega)) (by rw [List.getElem?_eq_getElem hi, e])) (by omega)⟩
      have hn := nine_pos d
      have h6 : 3 * nine d ≤ 59049 := h59
      obtain ⟨a, r, rfl⟩ : ∃ a r, ps = a :: r := by
        cases ps with
        | nil => exact absurd h2 (by decide)
        | cons a r => exact ⟨a, r, rfl⟩
      have ea : tabD a = .tup [.lst (intsD (endsL a)), brD a.broken] := rfl
      simp (decide := true) only [dSeq, dAsg, dAsgT, dPar, dRet, dDrop, dIfS, dNext, dBreak, dCont, dFor, dIL, dIT, dIR1, dIR2, dIE, dIZ, oAdd, oSub, oMul, oDiv, oMod, oPow, oLt, oLe, oGt, oGe, atI_0, atI_1, atI_2, atI_3, atI_m1, ixN_0, ixN_1, ixN_2, Om.put_same, dVar, getK, dC, dNil, dCons, dOp, oI, oIC, oMulS, oEq, oNe, eqS, oIsN, oNotN, isNon, dTest, dAnd, dOr, dNot, dAndV, dOrV, dNotV, dIf, dTup, dLst, dLstM, dCall, dCB, dChain, asL, asQ, oIx, oIxL, oIxT, oCat, oCatM, oCatT, oNil, oIn, dNoPart, dPart, dSl, slL, slT, slLM, cMax2, cMin2, cLen, cList, cListM, cInt, cTuple, dFld, fldP, dMeth, oOwn, put_nm, put_tp, puts_nil, puts_cons, onS, dNeg, dRev, dSetI, dBM, mAppend, mExtend, mClear, mReverse, dYes, startD, List.map_cons, List.map_nil, List.length_cons, List.length_nil, List.set_cons_zero, List.set_cons_succ, List.cons_append, List.nil_append, Nat.reduceAdd, Nat.reduceSub, List.replicate_succ, List.replicate_zero, List.length_singleton, wipeD, decide_eq_true_eq, decide_eq_false_iff_not, reduceCtorEq, true_implies, false_implies, and_true, true_and, if_true, if_false, Bool.false_eq_true, Bool.not_true, Bool.not_false, Bool.not_eq_true', Bool.not_eq_false', Om.put_put, dLc, dLcM, dFrz, frzK, List.getElem?_cons_succ, List.getElem?_cons_zero, dMkP, dForM, dNever, cIs_int, cIs_bool, cIs_str, cIs_list, cIs_tuple, cIsP, tyNm, is_int, is_bool, is_str, is_list, is_tuple, N_law_table, inF, eqF, List.any_cons, List.any_nil]
      refine ⟨by omega, table_parts (d := d) (by omega) (by omega) len sub ?_⟩
      simp (decide := true) only [dSeq, dAsg, dAsgT, dPar, dRet, dDrop, dIfS, dNext, dBreak, dCont, dFor, dIL, dIT, dIR1, dIR2, dIE, dIZ, oAdd, oSub, oMul, oDiv, oMod, oPow, oLt, oLe, oGt, oGe, atI_0, atI_1, atI_2, atI_3, atI_m1, ixN_0, ixN_1, ixN_2, Om.put_same, dVar, getK, dC, dNil, dCons, dOp, oI, oIC, oMulS, oEq, oNe, eqS, oIsN, oNotN, isNon, dTest, dAnd, dOr, dNot, dAndV, dOrV, dNotV, dIf, dTup, dLst, dLstM, dCall, dCB, dChain, asL, asQ, oIx, oIxL, oIxT, oCat, oCatM, oCatT, oNil, oIn, dNoPart, dPart, dSl, slL, slT, slLM, cMax2, cMin2, cLen, cList, cListM, cInt, cTuple, dFld, fldP, dMeth, oOwn, put_nm, put_tp, puts_nil, puts_cons, onS, dNeg, dRev, dSetI, dBM, mAppend, mExtend, mClear, mReverse, dYes, startD, List.map_cons, List.map_nil, List.length_cons, List.length_nil, List.set_cons_zero, List.set_cons_succ, List.cons_append, List.nil_append, Nat.reduceAdd, Nat.reduceSub, List.replicate_succ, List.replicate_zero, List.length_singleton, wipeD, decide_eq_true_eq, decide_eq_false_iff_not, reduceCtorEq, true_implies, false_implies, and_true, true_and, if_true, if_false, Bool.false_eq_true, Bool.not_true, Bool.not_false, Bool.not_eq_true', Bool.not_eq_false', Om.put_put, dLc, dLcM, dFrz, frzK, List.getElem?_cons_succ, List.getElem?_cons_zero, dMkP, dForM, dNever, cIs_int, cIs_bool, cIs_str, cIs_list, cIs_tuple, cIsP, tyNm, is_int, is_bool, is_str, is_list, is_tuple, N_law_table, ea, sGroupOf]
      exact ⟨a :: r, rfl, (fun z => nomatch z), by omega, fun q hq => ⟨(hs q hq).1, by have := (hs q hq).2; omega⟩, q⟩
    | @loop d x p0 n0 sub h0 h1 =>
      have h1 : n0 ≤ 3 := h1
      have w0 := spec_wf sub (by omega)
      have s0 := spec_span sub (by omega)
      have g0 := (wf_good w0).sp
      have h6 : 3 * nine d ≤ 59049 := h59
      have ea : tabD p0 = .tup [.lst (intsD (endsL p0)), brD p0.broken] := rfl
      simp (decide := true) only [dSeq, dAsg, dAsgT, dPar, dRet, dDrop, dIfS, dNext, dBreak, dCont, dFor, dIL, dIT, dIR1, dIR2, dIE, dIZ, oAdd, oSub, oMul, oDiv, oMod, oPow, oLt, oLe, oGt, oGe, atI_0, atI_1, atI_2, atI_3, atI_m1, ixN_0, ixN_1, ixN_2, Om.put_same, dVar, getK, dC, dNil, dCons, dOp, oI, oIC, oMulS, oEq, oNe, eqS, oIsN, oNotN, isNon, dTest, dAnd, dOr, dNot, dAndV, dOrV, dNotV, dIf, dTup, dLst, dLstM, dCall, dCB, dChain, asL, asQ, oIx, oIxL, oIxT, oCat, oCatM, oCatT, oNil, oIn, dNoPart, dPart, dSl, slL, slT, slLM, cMax2, cMin2, cLen, cList, cListM, cInt, cTuple, dFld, fldP, dMeth, oOwn, put_nm, put_tp, puts_nil, puts_cons, onS, dNeg, dRev, dSetI, dBM, mAppend, mExtend, mClear, mReverse, dYes, startD, List.map_cons, List.map_nil, List.length_cons, List.length_nil, List.set_cons_zero, List.set_cons_succ, List.cons_append, List.nil_append, Nat.reduceAdd, Nat.reduceSub, List.replicate_succ, List.replicate_zero, List.length_singleton, wipeD, decide_eq_true_eq, decide_eq_false_iff_not, reduceCtorEq, true_implies, false_implies, and_true, true_and, if_true, if_false, Bool.false_eq_true, Bool.not_true, Bool.not_false, Bool.not_eq_true', Bool.not_eq_false', Om.put_put, dLc, dLcM, dFrz, frzK, List.getElem?_cons_succ, List.getElem?_cons_zero, dMkP, dForM, dNever, cIs_int, cIs_bool, cIs_str, cIs_list, cIs_tuple, cIsP, tyNm, is_int, is_bool, is_str, is_list, is_tuple, N_law_table, inF, eqF, List.any_cons, List.any_nil]
      refine table_parts (d := d) (ps := [p0]) (by omega) (by omega) rfl (spec1 sub) ?_
      simp (decide := true) only [dSeq, dAsg, dAsgT, dPar, dRet, dDrop, dIfS, dNext, dBreak, dCont, dFor, dIL, dIT, dIR1, dIR2, dIE, dIZ, oAdd, oSub, oMul, oDiv, oMod, oPow, oLt, oLe, oGt, oGe, atI_0, atI_1, atI_2, atI_3, atI_m1, ixN_0, ixN_1, ixN_2, Om.put_same, dVar, getK, dC, dNil, dCons, dOp, oI, oIC, oMulS, oEq, oNe, eqS, oIsN, oNotN, isNon, dTest, dAnd, dOr, dNot, dAndV, dOrV, dNotV, dIf, dTup, dLst, dLstM, dCall, dCB, dChain, asL, asQ, oIx, oIxL, oIxT, oCat, oCatM, oCatT, oNil, oIn, dNoPart, dPart, dSl, slL, slT, slLM, cMax2, cMin2, cLen, cList, cListM, cInt, cTuple, dFld, fldP, dMeth, oOwn, put_nm, put_tp, puts_nil, puts_cons, onS, dNeg, dRev, dSetI, dBM, mAppend, mExtend, mClear, mReverse, dYes, startD, List.map_cons, List.map_nil, List.length_cons, List.length_nil, List.set_cons_zero, List.set_cons_succ, List.cons_append, List.nil_append, Nat.reduceAdd, Nat.reduceSub, List.replicate_succ, List.replicate_zero, List.length_singleton, wipeD, decide_eq_true_eq, decide_eq_false_iff_not, reduceCtorEq, true_implies, false_implies, and_true, true_and, if_true, if_false, Bool.false_eq_true, Bool.not_true, Bool.not_false, Bool.not_eq_true', Bool.not_eq_false', Om.put_put, dLc, dLcM, dFrz, frzK, List.getElem?_cons_succ, List.getElem?_cons_zero, dMkP, dForM, dNever, cIs_int, cIs_bool, cIs_str, cIs_list, cIs_tuple, cIsP, tyNm, is_int, is_bool, is_str, is_list, is_tuple, N_law_table, ea, sRowOf, List.map_cons, List.map_nil]
      refine ⟨by omega, by omega, by show 1 * n0.toNat ≤ 100000; omega, List.replicate n0.toNat p0, by rw [rep1, List.map_replicate]; rfl, fun q hq => by rw [(List.mem_replicate.mp hq).2]; exact wf_good w0, ?_, by rw [List.length_replicate]; omega, ?_⟩
      · rw [sumS_rep]
        have : p0.span * ((n0.toNat : Nat) : Int) ≤ nine d * 3 := Int.mul_le_mul s0 (by omega) (by omega) (by omega)
        omega
      · rw [tab_row wp (row_of_loop w0 h0)]
        exact q
    | @shield d x p0 sub =>
      have w0 := spec_wf sub (by omega)
      have s0 := spec_span sub (by omega)
      have g0 := (wf_good w0).sp
      have hn := nine_pos d
      have h6 : 3 * nine d ≤ 59049 := h59
      have ea : tabD p0 = .tup [.lst (intsD (endsL p0)), brD p0.broken] := rfl
      have e1 : (((intsD (endsL p0)).length : Nat) : Int) - 1 = p0.span := by rw [el]; omega
      simp (decide := true) only [dSeq, dAsg, dAsgT, dPar, dRet, dDrop, dIfS, dNext, dBreak, dCont, dFor, dIL, dIT, dIR1, dIR2, dIE, dIZ, oAdd, oSub, oMul, oDiv, oMod, oPow, oLt, oLe, oGt, oGe, atI_0, atI_1, atI_2, atI_3, atI_m1, ixN_0, ixN_1, ixN_2, Om.put_same, dVar, getK, dC, dNil, dCons, dOp, oI, oIC, oMulS, oEq, oNe, eqS, oIsN, oNotN, isNon, dTest, dAnd, dOr, dNot, dAndV, dOrV, dNotV, dIf, dTup, dLst, dLstM, dCall, dCB, dChain, asL, asQ, oIx, oIxL, oIxT, oCat, oCatM, oCatT, oNil, oIn, dNoPart, dPart, dSl, slL, slT, slLM, cMax2, cMin2, cLen, cList, cListM, cInt, cTuple, dFld, fldP, dMeth, oOwn, put_nm, put_tp, puts_nil, puts_cons, onS, dNeg, dRev, dSetI, dBM, mAppend, mExtend, mClear, mReverse, dYes, startD, List.map_cons, List.map_nil, List.length_cons, List.length_nil, List.set_cons_zero, List.set_cons_succ, List.cons_append, List.nil_append, Nat.reduceAdd, Nat.reduceSub, List.replicate_succ, List.replicate_zero, List.length_singleton, wipeD, decide_eq_true_eq, decide_eq_false_iff_not, reduceCtorEq, true_implies, false_implies, and_true, true_and, if_true, if_false, Bool.false_eq_true, Bool.not_true, Bool.not_false, Bool.not_eq_true', Bool.not_eq_false', Om.put_put, dLc, dLcM, dFrz, frzK, List.getElem?_cons_succ, List.getElem?_cons_zero, dMkP, dForM, dNever, cIs_int, cIs_bool, cIs_str, cIs_list, cIs_tuple, cIsP, tyNm, is_int, is_bool, is_str, is_list, is_tuple, N_law_table, inF, eqF, List.any_cons, List.any_nil]
      refine table_parts (d := d) (ps := [p0]) (by omega) (by omega) rfl (spec1 sub) ?_
      simp (decide := true) only [dSeq, dAsg, dAsgT, dPar, dRet, dDrop, dIfS, dNext, dBreak, dCont, dFor, dIL, dIT, dIR1, dIR2, dIE, dIZ, oAdd, oSub, oMul, oDiv, oMod, oPow, oLt, oLe, oGt, oGe, atI_0, atI_1, atI_2, atI_3, atI_m1, ixN_0, ixN_1, ixN_2, Om.put_same, dVar, getK, dC, dNil, dCons, dOp, oI, oIC, oMulS, oEq, oNe, eqS, oIsN, oNotN, isNon, dTest, dAnd, dOr, dNot, dAndV, dOrV, dNotV, dIf, dTup, dLst, dLstM, dCall, dCB, dChain, asL, asQ, oIx, oIxL, oIxT, oCat, oCatM, oCatT, oNil, oIn, dNoPart, dPart, dSl, slL, slT, slLM, cMax2, cMin2, cLen, cList, cListM, cInt, cTuple, dFld, fldP, dMeth, oOwn, put_nm, put_tp, puts_nil, puts_cons, onS, dNeg, dRev, dSetI, dBM, mAppend, mExtend, mClear, mReverse, dYes, startD, List.map_cons, List.map_nil, List.length_cons, List.length_nil, List.set_cons_zero, List.set_cons_succ, List.cons_append, List.nil_append, Nat.reduceAdd, Nat.reduceSub, List.replicate_succ, List.replicate_zero, List.length_singleton, wipeD, decide_eq_true_eq, decide_eq_false_iff_not, reduceCtorEq, true_implies, false_implies, and_true, true_and, if_true, if_false, Bool.false_eq_true, Bool.not_true, Bool.not_false, Bool.not_eq_true', Bool.not_eq_false', Om.put_put, dLc, dLcM, dFrz, frzK, List.getElem?_cons_succ, List.getElem?_cons_zero, dMkP, dForM, dNever, cIs_int, cIs_bool, cIs_str, cIs_list, cIs_tuple, cIsP, tyNm, is_int, is_bool, is_str, is_list, is_tuple, N_law_table, ea, e1, List.map_cons, List.map_nil]
      refine rep_intro (by omega) (by omega) ⟨by rw [List.length_replicate]; omega, ?_⟩
      have e : D.tup [.lst (.int 0 :: List.replicate p0.span.toNat (.int p0.span)), brD p0.broken] = tabD (mkP .shield [p0] 0 []) := by
        unfold tabD intsD
        rw [endsL_shield w0, List.map_cons, List.map_replicate]
        rfl
      rw [e]
      exact q
    | @cleanup d x y p0 q0 sub sub2 =>
      have w0 := spec_wf sub (by omega)
      have s0 := spec_span sub (by omega)
      have g0 := (wf_good w0).sp
      have w1 := spec_wf sub2 (by omega)
      have s1 := spec_span sub2 (by omega)
      have g1 := (wf_good w1).sp
      have hn := nine_pos d
      have h6 : 3 * nine d ≤ 59049 := h59
      have ea : tabD p0 = .tup [.lst (intsD (endsL p0)), brD p0.broken] := rfl
      have eb : tabD q0 = .tup [.lst (intsD (endsL q0)), brD q0.broken] := rfl
      have e1 : (((intsD (endsL p0)).length : Nat) : Int) - 1 = p0.span := by rw [el]; omega
      have e2 : (((intsD (endsL q0)).length : Nat) : Int) - 1 = q0.span := by rw [el]; omega
      simp (decide := true) only [dSeq, dAsg, dAsgT, dPar, dRet, dDrop, dIfS, dNext, dBreak, dCont, dFor, dIL, dIT, dIR1, dIR2, dIE, dIZ, oAdd, oSub, oMul, oDiv, oMod, oPow, oLt, oLe, oGt, oGe, atI_0, atI_1, atI_2, atI_3, atI_m1, ixN_0, ixN_1, ixN_2, Om.put_same, dVar, getK, dC, dNil, dCons, dOp, oI, oIC, oMulS, oEq, oNe, eqS, oIsN, oNotN, isNon, dTest, dAnd, dOr, dNot, dAndV, dOrV, dNotV, dIf, dTup, dLst, dLstM, dCall, dCB, dChain, asL, asQ, oIx, oIxL, oIxT, oCat, oCatM, oCatT, oNil, oIn, dNoPart, dPart, dSl, slL, slT, slLM, cMax2, cMin2, cLen, cList, cListM, cInt, cTuple, dFld, fldP, dMeth, oOwn, put_nm, put_tp, puts_nil, puts_cons, onS, dNeg, dRev, dSetI, dBM, mAppend, mExtend, mClear, mReverse, dYes, startD, List.map_cons, List.map_nil, List.length_cons, List.length_nil, List.set_cons_zero, List.set_cons_succ, List.cons_append, List.nil_append, Nat.reduceAdd, Nat.reduceSub, List.replicate_succ, List.replicate_zero, List.length_singleton, wipeD, decide_eq_true_eq, decide_eq_false_iff_not, reduceCtorEq, true_implies, false_implies, and_true, true_and, if_true, if_false, Bool.false_eq_true, Bool.not_true, Bool.not_false, Bool.not_eq_true', Bool.not_eq_false', Om.put_put, dLc, dLcM, dFrz, frzK, List.getElem?_cons_succ, List.getElem?_cons_zero, dMkP, dForM, dNever, cIs_int, cIs_bool, cIs_str, cIs_list, cIs_tuple, cIsP, tyNm, is_int, is_bool, is_str, is_list, is_tuple, N_law_table, inF, eqF, List.any_cons, List.any_nil]
      refine table_parts (d := d) (ps := [p0, q0]) (by omega) (by omega) rfl (spec2 sub sub2) ?_
      simp (decide := true) only [dSeq, dAsg, dAsgT, dPar, dRet, dDrop, dIfS, dNext, dBreak, dCont, dFor, dIL, dIT, dIR1, dIR2, dIE, dIZ, oAdd, oSub, oMul, oDiv, oMod, oPow, oLt, oLe, oGt, oGe, atI_0, atI_1, atI_2, atI_3, atI_m1, ixN_0, ixN_1, ixN_2, Om.put_same, dVar, getK, dC, dNil, dCons, dOp, oI, oIC, oMulS, oEq, oNe, eqS, oIsN, oNotN, isNon, dTest, dAnd, dOr, dNot, dAndV, dOrV, dNotV, dIf, dTup, dLst, dLstM, dCall, dCB, dChain, asL, asQ, oIx, oIxL, oIxT, oCat, oCatM, oCatT, oNil, oIn, dNoPart, dPart, dSl, slL, slT, slLM, cMax2, cMin2, cLen, cList, cListM, cInt, cTuple, dFld, fldP, dMeth, oOwn, put_nm, put_tp, puts_nil, puts_cons, onS, dNeg, dRev, dSetI, dBM, mAppend, mExtend, mClear, mReverse, dYes, startD, List.map_cons, List.map_nil, List.length_cons, List.length_nil, List.set_cons_zero, List.set_cons_succ, List.cons_append, List.nil_append, Nat.reduceAdd, Nat.reduceSub, List.replicate_succ, List.replicate_zero, List.length_singleton, wipeD, decide_eq_true_eq, decide_eq_false_iff_not, reduceCtorEq, true_implies, false_implies, and_true, true_and, if_true, if_false, Bool.false_eq_true, Bool.not_true, Bool.not_false, Bool.not_eq_true', Bool.not_eq_false', Om.put_put, dLc, dLcM, dFrz, frzK, List.getElem?_cons_succ, List.getElem?_cons_zero, dMkP, dForM, dNever, cIs_int, cIs_bool, cIs_str, cIs_list, cIs_tuple, cIsP, tyNm, is_int, is_bool, is_str, is_list, is_tuple, N_law_table, ea, eb, e1, e2, List.map_cons, List.map_nil, cutD_1]
      refine ⟨by rw [List.length_drop, intsD_len, endsL_len]; omega, ?_⟩
      have ed : List.drop 1 (intsD (endsL p0)) = ((endsL p0).drop 1).map D.int := by unfold intsD; rw [List.map_drop]
      rw [ed]
      refine lcl_gmap (fun e => .int (e + q0.span)) (fun e _ A hA => ?_) ?_
      · simp only [dSeq, dAsg, dAsgT, dPar, dRet, dDrop, dIfS, dNext, dBreak, dCont, dFor, dIL, dIT, dIR1, dIR2, dIE, dIZ, oAdd, oSub, oMul, oDiv, oMod, oPow, oLt, oLe, oGt, oGe, atI_0, atI_1, atI_2, atI_3, atI_m1, ixN_0, ixN_1, ixN_2, Om.put_same, dVar, getK, dC, dNil, dCons, dOp, oI, oIC, oMulS, oEq, oNe, eqS, oIsN, oNotN, isNon, dTest, dAnd, dOr, dNot, dAndV, dOrV, dNotV, dIf, dTup, dLst, dLstM, dCall, dCB, dChain, asL, asQ, oIx, oIxL, oIxT, oCat, oCatM, oCatT, oNil, oIn, dNoPart, dPart, dSl, slL, slT, slLM, cMax2, cMin2, cLen, cList, cListM, cInt, cTuple, dFld, fldP, dMeth, oOwn, put_nm, put_tp, puts_nil, puts_cons, onS, dNeg, dRev, dSetI, dBM, mAppend, mExtend, mClear, mReverse, dYes, startD, List.map_cons, List.map_nil, List.length_cons, List.length_nil, List.set_cons_zero, List.set_cons_succ, List.cons_append, List.nil_append, Nat.reduceAdd, Nat.reduceSub, List.replicate_succ, List.replicate_zero, List.length_singleton, wipeD, decide_eq_true_eq, decide_eq_false_iff_not, reduceCtorEq, true_implies, false_implies, and_true, true_and, if_true, if_false, Bool.false_eq_true, Bool.not_true, Bool.not_false, Bool.not_eq_true', Bool.not_eq_false', Om.put_put, dLc, dLcM, dFrz, frzK, List.getElem?_cons_succ, List.getElem?_cons_zero, dMkP, dForM, dNever, cIs_int, cIs_bool, cIs_str, cIs_list, cIs_tuple, cIsP, tyNm, is_int, is_bool, is_str, is_list, is_tuple, N_law_table]
        exact hA
      · refine ⟨by rw [List.length_map, List.length_drop, endsL_len]; omega, rep_intro (by omega) (by omega) ?_⟩
        have e : ∀ b : Option Str, b = (mkP .cleanup [p0, q0] 0 []).broken → D.tup [.lst (.int 0 :: (((endsL p0).drop 1).map (fun e => D.int (e + q0.span)) ++ List.replicate q0.span.toNat (.int (p0.span + q0.span)))), brD b] = tabD (mkP .cleanup [p0, q0] 0 []) := fun b hb => by
          unfold tabD intsD
          rw [endsL_cleanup w0 w1, List.map_append, List.map_cons, List.map_replicate, List.map_map, hb]
          rfl
        refine ⟨by rw [List.length_map, List.length_drop, endsL_len, List.length_replicate]; omega, ?_⟩
        have hbr : (mkP .cleanup [p0, q0] 0 []).broken = if q0.broken = none then p0.broken else q0.broken := rfl
        cases hb : q0.broken with
        | none =>
          rw [hb, if_pos rfl] at hbr
          refine ⟨(fun z => by cases z), fun _ => ?_⟩
          rw [e _ hbr.symm]
          exact q
        | some z =>
          rw [hb, if_neg (fun z => by cases z)] at hbr
          refine ⟨fun _ => ?_, fun z => by cases z⟩
          rw [e _ hbr.symm]
          exact q
    | @fallback d x y p0 q0 ws n1 n2 n3 n4 sub sub2 =>
      have w0 := spec_wf sub (by omega)
      have s0 := spec_span sub (by omega)
      have w1 := spec_wf sub2 (by omega)
      have s1 := spec_span sub2 (by omega)
      have hn := nine_pos d
      have h6 : 3 * nine d ≤ 59049 := h59
      have ea : tabD p0 = .tup [.lst (intsD (endsL p0)), brD p0.broken] := rfl
      have eb : tabD q0 = .tup [.lst (intsD (endsL q0)), brD q0.broken] := rfl
      have hnf := names_flat ws
      have in2 : inF (.str "fallback") [.str "seq", .str "group"] = false := rfl
      simp (decide := true) only [dSeq, dAsg, dAsgT, dPar, dRet, dDrop, dIfS, dNext, dBreak, dCont, dFor, dIL, dIT, dIR1, dIR2, dIE, dIZ, oAdd, oSub, oMul, oDiv, oMod, oPow, oLt, oLe, oGt, oGe, atI_0, atI_1, atI_2, atI_3, atI_m1, ixN_0, ixN_1, ixN_2, Om.put_same, dVar, getK, dC, dNil, dCons, dOp, oI, oIC, oMulS, oEq, oNe, eqS, oIsN, oNotN, isNon, dTest, dAnd, dOr, dNot, dAndV, dOrV, dNotV, dIf, dTup, dLst, dLstM, dCall, dCB, dChain, asL, asQ, oIx, oIxL, oIxT, oCat, oCatM, oCatT, oNil, oIn, dNoPart, dPart, dSl, slL, slT, slLM, cMax2, cMin2, cLen, cList, cListM, cInt, cTuple, dFld, fldP, dMeth, oOwn, put_nm, put_tp, puts_nil, puts_cons, onS, dNeg, dRev, dSetI, dBM, mAppend, mExtend, mClear, mReverse, dYes, startD, List.map_cons, List.map_nil, List.length_cons, List.length_nil, List.set_cons_zero, List.set_cons_succ, List.cons_append, List.nil_append, Nat.reduceAdd, Nat.reduceSub, List.replicate_succ, List.replicate_zero, List.length_singleton, wipeD, decide_eq_true_eq, decide_eq_false_iff_not, reduceCtorEq, true_implies, false_implies, and_true, true_and, if_true, if_false, Bool.false_eq_true, Bool.not_true, Bool.not_false, Bool.not_eq_true', Bool.not_eq_false', Om.put_put, dLc, dLcM, dFrz, frzK, List.getElem?_cons_succ, List.getElem?_cons_zero, dMkP, dForM, dNever, cIs_int, cIs_bool, cIs_str, cIs_list, cIs_tuple, cIsP, tyNm, is_int, is_bool, is_str, is_list, is_tuple, N_law_table, eqF, List.any_cons, List.any_nil]
      refine table_parts (d := d) (ps := [p0, q0]) (by omega) (by omega) rfl (spec2 sub sub2) ?_
      cases hb : p0.broken with
      | none =>
        rw [hb] at ea
        have ebn : brD none = .non := rfl
        simp (decide := true) only [dSeq, dAsg, dAsgT, dPar, dRet, dDrop, dIfS, dNext, dBreak, dCont, dFor, dIL, dIT, dIR1, dIR2, dIE, dIZ, oAdd, oSub, oMul, oDiv, oMod, oPow, oLt, oLe, oGt, oGe, atI_0, atI_1, atI_2, atI_3, atI_m1, ixN_0, ixN_1, ixN_2, Om.put_same, dVar, getK, dC, dNil, dCons, dOp, oI, oIC, oMulS, oEq, oNe, eqS, oIsN, oNotN, isNon, dTest, dAnd, dOr, dNot, dAndV, dOrV, dNotV, dIf, dTup, dLst, dLstM, dCall, dCB, dChain, asL, asQ, oIx, oIxL, oIxT, oCat, oCatM, oCatT, oNil, oIn, dNoPart, dPart, dSl, slL, slT, slLM, cMax2, cMin2, cLen, cList, cListM, cInt, cTuple, dFld, fldP, dMeth, oOwn, put_nm, put_tp, puts_nil, puts_cons, onS, dNeg, dRev, dSetI, dBM, mAppend, mExtend, mClear, mReverse, dYes, startD, List.map_cons, List.map_nil, List.length_cons, List.length_nil, List.set_cons_zero, List.set_cons_succ, List.cons_append, List.nil_append, Nat.reduceAdd, Nat.reduceSub, List.replicate_succ, List.replicate_zero, List.length_singleton, wipeD, decide_eq_true_eq, decide_eq_false_iff_not, reduceCtorEq, true_implies, false_implies, and_true, true_and, if_true, if_false, Bool.false_eq_true, Bool.not_true, Bool.not_false, Bool.not_eq_true', Bool.not_eq_false', Om.put_put, dLc, dLcM, dFrz, frzK, List.getElem?_cons_succ, List.getElem?_cons_zero, dMkP, dForM, dNever, cIs_int, cIs_bool, cIs_str, cIs_list, cIs_tuple, cIsP, tyNm, is_int, is_bool, is_str, is_list, is_tuple, N_law_table, ea, eb, ebn, in_names0, in2, List.map_cons, List.map_nil, hnf]
        obtain ⟨k1, k2⟩ := endsL_other (ws := ws) w0 w1 fun w hw => by rw [hb] at hw; cases hw
        have e : D.tup [.lst (intsD (endsL p0)), .non] = tabD (mkP .fallback [p0, q0] 0 ws) := by
          unfold tabD
          rw [k1, k2, hb]
          rfl
        rw [e]
        exact q
      | some z =>
        rw [hb] at ea
        have ebn : brD (some z) = .str z := rfl
        simp (decide := true) only [dSeq, dAsg, dAsgT, dPar, dRet, dDrop, dIfS, dNext, dBreak, dCont, dFor, dIL, dIT, dIR1, dIR2, dIE, dIZ, oAdd, oSub, oMul, oDiv, oMod, oPow, oLt, oLe, oGt, oGe, atI_0, atI_1, atI_2, atI_3, atI_m1, ixN_0, ixN_1, ixN_2, Om.put_same, dVar, getK, dC, dNil, dCons, dOp, oI, oIC, oMulS, oEq, oNe, eqS, oIsN, oNotN, isNon, dTest, dAnd, dOr, dNot, dAndV, dOrV, dNotV, dIf, dTup, dLst, dLstM, dCall, dCB, dChain, asL, asQ, oIx, oIxL, oIxT, oCat, oCatM, oCatT, oNil, oIn, dNoPart, dPart, dSl, slL, slT, slLM, cMax2, cMin2, cLen, cList, cListM, cInt, cTuple, dFld, fldP, dMeth, oOwn, put_nm, put_tp, puts_nil, puts_cons, onS, dNeg, dRev, dSetI, dBM, mAppend, mExtend, mClear, mReverse, dYes, startD, List.map_cons, List.map_nil, List.length_cons, List.length_nil, List.set_cons_zero, List.set_cons_succ, List.cons_append, List.nil_append, Nat.reduceAdd, Nat.reduceSub, List.replicate_succ, List.replicate_zero, List.length_singleton, wipeD, decide_eq_true_eq, decide_eq_false_iff_not, reduceCtorEq, true_implies, false_implies, and_true, true_and, if_true, if_false, Bool.false_eq_true, Bool.not_true, Bool.not_false, Bool.not_eq_true', Bool.not_eq_false', Om.put_put, dLc, dLcM, dFrz, frzK, List.getElem?_cons_succ, List.getElem?_cons_zero, dMkP, dForM, dNever, cIs_int, cIs_bool, cIs_str, cIs_list, cIs_tuple, cIsP, tyNm, is_int, is_bool, is_str, is_list, is_tuple, N_law_table, ea, eb, ebn, in_names, in2, List.map_cons, List.map_nil, hnf, sRowOf]
        refine ⟨rfl, fun hz => ?_, fun hz => ?_⟩
        · obtain ⟨k1, k2⟩ := rowL_fb w0 w1 wp hb hz
          have es : sumS [unB p0, q0] = p0.span + (q0.span + 0) := rfl
          refine ⟨[unB p0, q0], by rw [tab_un]; rfl, fun r hr => ?_, by omega, by show 2 ≤ 90000; decide, ?_⟩
          · simp only [List.mem_cons, List.not_mem_nil, or_false] at hr
            rcases hr with rfl | rfl
            · exact unB_good (wf_good w0)
            · exact wf_good w1
          · have e : D.tup [.lst (intsD (rowL [unB p0, q0])), brD (seqM [unB p0, q0] 0).2] = tabD (mkP .fallback [p0, q0] 0 ws) := by
              unfold tabD
              rw [k1, k2]
            rw [e]
            exact q
        · obtain ⟨k1, k2⟩ := endsL_other (ws := ws) w0 w1 fun w hw => by rw [hb] at hw; cases hw; exact hz
          have e : D.tup [.lst (intsD (endsL p0)), .str z] = tabD (mkP .fallback [p0, q0] 0 ws) := by
            unfold tabD
            rw [k1, k2, hb]
            rfl
          rw [e]
          exact q
    | @timeout d x p0 n0 z hz sub h0 h1 =>
      have h1 : n0 ≤ 9 := h1
      have w0 := spec_wf sub (by omega)
      have s0 := spec_span sub (by omega)
      have g0 := (wf_good w0).sp
      have hn := nine_pos d
      have h6 : 3 * nine d ≤ 59049 := h59
      have ea : tabD p0 = .tup [.lst (intsD (endsL p0)), brD p0.broken] := rfl
      have e1 : (((intsD (endsL p0)).length : Nat) : Int) - 1 = p0.span := by rw [el]; omega
      obtain ⟨l1, l2⟩ := endsL_limit w0 (.inl rfl : Kind.timeout = .timeout ∨ Kind.timeout = .moveon) h0 (ws := [z])
      simp (decide := true) only [dSeq, dAsg, dAsgT, dPar, dRet, dDrop, dIfS, dNext, dBreak, dCont, dFor, dIL, dIT, dIR1, dIR2, dIE, dIZ, oAdd, oSub, oMul, oDiv, oMod, oPow, oLt, oLe, oGt, oGe, atI_0, atI_1, atI_2, atI_3, atI_m1, ixN_0, ixN_1, ixN_2, Om.put_same, dVar, getK, dC, dNil, dCons, dOp, oI, oIC, oMulS, oEq, oNe, eqS, oIsN, oNotN, isNon, dTest, dAnd, dOr, dNot, dAndV, dOrV, dNotV, dIf, dTup, dLst, dLstM, dCall, dCB, dChain, asL, asQ, oIx, oIxL, oIxT, oCat, oCatM, oCatT, oNil, oIn, dNoPart, dPart, dSl, slL, slT, slLM, cMax2, cMin2, cLen, cList, cListM, cInt, cTuple, dFld, fldP, dMeth, oOwn, put_nm, put_tp, puts_nil, puts_cons, onS, dNeg, dRev, dSetI, dBM, mAppend, mExtend, mClear, mReverse, dYes, startD, List.map_cons, List.map_nil, List.length_cons, List.length_nil, List.set_cons_zero, List.set_cons_succ, List.cons_append, List.nil_append, Nat.reduceAdd, Nat.reduceSub, List.replicate_succ, List.replicate_zero, List.length_singleton, wipeD, decide_eq_true_eq, decide_eq_false_iff_not, reduceCtorEq, true_implies, false_implies, and_true, true_and, if_true, if_false, Bool.false_eq_true, Bool.not_true, Bool.not_false, Bool.not_eq_true', Bool.not_eq_false', Om.put_put, dLc, dLcM, dFrz, frzK, List.getElem?_cons_succ, List.getElem?_cons_zero, dMkP, dForM, dNever, cIs_int, cIs_bool, cIs_str, cIs_list, cIs_tuple, cIsP, tyNm, is_int, is_bool, is_str, is_list, is_tuple, N_law_table, inF, eqF, List.any_cons, List.any_nil]
      refine table_parts (d := d) (ps := [p0]) (by omega) (by omega) rfl (spec1 sub) ?_
      simp (decide := true) only [dSeq, dAsg, dAsgT, dPar, dRet, dDrop, dIfS, dNext, dBreak, dCont, dFor, dIL, dIT, dIR1, dIR2, dIE, dIZ, oAdd, oSub, oMul, oDiv, oMod, oPow, oLt, oLe, oGt, oGe, atI_0, atI_1, atI_2, atI_3, atI_m1, ixN_0, ixN_1, ixN_2, Om.put_same, dVar, getK, dC, dNil, dCons, dOp, oI, oIC, oMulS, oEq, oNe, eqS, oIsN, oNotN, isNon, dTest, dAnd, dOr, dNot, dAndV, dOrV, dNotV, dIf, dTup, dLst, dLstM, dCall, dCB, dChain, asL, asQ, oIx, oIxL, oIxT, oCat, oCatM, oCatT, oNil, oIn, dNoPart, dPart, dSl, slL, slT, slLM, cMax2, cMin2, cLen, cList, cListM, cInt, cTuple, dFld, fldP, dMeth, oOwn, put_nm, put_tp, puts_nil, puts_cons, onS, dNeg, dRev, dSetI, dBM, mAppend, mExtend, mClear, mReverse, dYes, startD, List.map_cons, List.map_nil, List.length_cons, List.length_nil, List.set_cons_zero, List.set_cons_succ, List.cons_append, List.nil_append, Nat.reduceAdd, Nat.reduceSub, List.replicate_succ, List.replicate_zero, List.length_singleton, wipeD, decide_eq_true_eq, decide_eq_false_iff_not, reduceCtorEq, true_implies, false_implies, and_true, true_and, if_true, if_false, Bool.false_eq_true, Bool.not_true, Bool.not_false, Bool.not_eq_true', Bool.not_eq_false', Om.put_put, dLc, dLcM, dFrz, frzK, List.getElem?_cons_succ, List.getElem?_cons_zero, dMkP, dForM, dNever, cIs_int, cIs_bool, cIs_str, cIs_list, cIs_tuple, cIsP, tyNm, is_int, is_bool, is_str, is_list, is_tuple, N_law_table, ea, e1, List.map_cons, List.map_nil]
      refine ⟨fun hle => ?_, fun hle => ?_⟩
      · obtain ⟨k1, k2⟩ := l1 hle
        have e : D.tup [.lst (intsD (endsL p0)), brD p0.broken] = tabD (mkP .timeout [p0] n0 [z]) := by
          unfold tabD
          rw [k1, k2]
        rw [e]
        exact q
      · obtain ⟨k1, k2⟩ := l2 (by omega)
        have lo := (wf_good w0).lo n0 h0 (by omega)
        have hi := (wf_good w0).hi n0 h0
        rw [ends_atI h0 (by omega)]
        refine rep_intro (by omega) (by omega) ⟨?_, ?_⟩
        · rw [cutD_n h0 (by rw [el]; omega), List.length_take, intsD_len, endsL_len, List.length_replicate]
          omega
        · refine ne_nil1 hz ?_
          have e : D.tup [.lst (cutD (intsD (endsL p0)) none (some n0) ++ List.replicate (endA p0 n0 - n0 + 1).toNat (.int (endA p0 n0))), .str z] = tabD (mkP .timeout [p0] n0 [z]) := by
            rw [cutD_n h0 (by rw [el]; omega)]
            unfold tabD intsD
            rw [k1, k2, List.map_append, List.map_take, List.map_replicate]
            rfl
          refine ⟨fun _ => ?_, fun z => by cases z⟩
          rw [e]
          exact q
    | @moveon d x p0 n0 sub h0 h1 =>
      have h1 : n0 ≤ 9 := h1
      have w0 := spec_wf sub (by omega)
      have s0 := spec_span sub (by omega)
      have g0 := (wf_good w0).sp
      have hn := nine_pos d
      have h6 : 3 * nine d ≤ 59049 := h59
      have ea : tabD p0 = .tup [.lst (intsD (endsL p0)), brD p0.broken] := rfl
      have e1 : (((intsD (endsL p0)).length : Nat) : Int) - 1 = p0.span := by rw [el]; omega
      obtain ⟨l1, l2⟩ := endsL_limit w0 (.inr rfl : Kind.moveon = .timeout ∨ Kind.moveon = .moveon) h0 (ws := [])
      simp (decide := true) only [dSeq, dAsg, dAsgT, dPar, dRet, dDrop, dIfS, dNext, dBreak, dCont, dFor, dIL, dIT, dIR1, dIR2, dIE, dIZ, oAdd, oSub, oMul, oDiv, oMod, oPow, oLt, oLe, oGt, oGe, atI_0, atI_1, atI_2, atI_3, atI_m1, ixN_0, ixN_1, ixN_2, Om.put_same, dVar, getK, dC, dNil, dCons, dOp, oI, oIC, oMulS, oEq, oNe, eqS, oIsN, oNotN, isNon, dTest, dAnd, dOr, dNot, dAndV, dOrV, dNotV, dIf, dTup, dLst, dLstM, dCall, dCB, dChain, asL, asQ, oIx, oIxL, oIxT, oCat, oCatM, oCatT, oNil, oIn, dNoPart, dPart, dSl, slL, slT, slLM, cMax2, cMin2, cLen, cList, cListM, cInt, cTuple, dFld, fldP, dMeth, oOwn, put_nm, put_tp, puts_nil, puts_cons, onS, dNeg, dRev, dSetI, dBM, mAppend, mExtend, mClear, mReverse, dYes, startD, List.map_cons, List.map_nil, List.length_cons, List.length_nil, List.set_cons_zero, List.set_cons_succ, List.cons_append, List.nil_append, Nat.reduceAdd, Nat.reduceSub, List.replicate_succ, List.replicate_zero, List.length_singleton, wipeD, decide_eq_true_eq, decide_eq_false_iff_not, reduceCtorEq, true_implies, false_implies, and_true, true_and, if_true, if_false, Bool.false_eq_true, Bool.not_true, Bool.not_false, Bool.not_eq_true', Bool.not_eq_false', Om.put_put, dLc, dLcM, dFrz, frzK, List.getElem?_cons_succ, List.getElem?_cons_zero, dMkP, dForM, dNever, cIs_int, cIs_bool, cIs_str, cIs_list, cIs_tuple, cIsP, tyNm, is_int, is_bool, is_str, is_list, is_tuple, N_law_table, inF, eqF, List.any_cons, List.any_nil]
      refine table_parts (d := d) (ps := [p0]) (by omega) (by omega) rfl (spec1 sub) ?_
      simp (decide := true) only [dSeq, dAsg, dAsgT, dPar, dRet, dDrop, dIfS, dNext, dBreak, dCont, dFor, dIL, dIT, dIR1, dIR2, dIE, dIZ, oAdd, oSub, oMul, oDiv, oMod, oPow, oLt, oLe, oGt, oGe, atI_0, atI_1, atI_2, atI_3, atI_m1, ixN_0, ixN_1, ixN_2, Om.put_same, dVar, getK, dC, dNil, dCons, dOp, oI, oIC, oMulS, oEq, oNe, eqS, oIsN, oNotN, isNon, dTest, dAnd, dOr, dNot, dAndV, dOrV, dNotV, dIf, dTup, dLst, dLstM, dCall, dCB, dChain, asL, asQ, oIx, oIxL, oIxT, oCat, oCatM, oCatT, oNil, oIn, dNoPart, dPart, dSl, slL, slT, slLM, cMax2, cMin2, cLen, cList, cListM, cInt, cTuple, dFld, fldP, dMeth, oOwn, put_nm, put_tp, puts_nil, puts_cons, onS, dNeg, dRev, dSetI, dBM, mAppend, mExtend, mClear, mReverse, dYes, startD, List.map_cons, List.map_nil, List.length_cons, List.length_nil, List.set_cons_zero, List.set_cons_succ, List.cons_append, List.nil_append, Nat.reduceAdd, Nat.reduceSub, List.replicate_succ, List.replicate_zero, List.length_singleton, wipeD, decide_eq_true_eq, decide_eq_false_iff_not, reduceCtorEq, true_implies, false_implies, and_true, true_and, if_true, if_false, Bool.false_eq_true, Bool.not_true, Bool.not_false, Bool.not_eq_true', Bool.not_eq_false', Om.put_put, dLc, dLcM, dFrz, frzK, List.getElem?_cons_succ, List.getElem?_cons_zero, dMkP, dForM, dNever, cIs_int, cIs_bool, cIs_str, cIs_list, cIs_tuple, cIsP, tyNm, is_int, is_bool, is_str, is_list, is_tuple, N_law_table, ea, e1, List.map_cons, List.map_nil]
      refine ⟨fun hle => ?_, fun hle => ?_⟩
      · obtain ⟨k1, k2⟩ := l1 hle
        have e : D.tup [.lst (intsD (endsL p0)), brD p0.broken] = tabD (mkP .moveon [p0] n0 []) := by
          unfold tabD
          rw [k1, k2]
        rw [e]
        exact q
      · obtain ⟨k1, k2⟩ := l2 (by omega)
        have lo := (wf_good w0).lo n0 h0 (by omega)
        have hi := (wf_good w0).hi n0 h0
        rw [ends_atI h0 (by omega)]
        refine rep_intro (by omega) (by omega) ⟨?_, ?_⟩
        · rw [cutD_n h0 (by rw [el]; omega), List.length_take, intsD_len, endsL_len, List.length_replicate]
          omega
        · refine ne_nil0 ?_
          have e : D.tup [.lst (cutD (intsD (endsL p0)) none (some n0) ++ List.replicate (endA p0 n0 - n0 + 1).toNat (.int (endA p0 n0))), .non] = tabD (mkP .moveon [p0] n0 []) := by
            rw [cutD_n h0 (by rw [el]; omega)]
            unfold tabD intsD
            rw [k1, k2, List.map_append, List.map_take, List.map_replicate]
            rfl
          refine ⟨(fun z => by cases z), fun _ => ?_⟩
          rw [e]
          exact q
theorem table_all (T : Txt K mg) : ∀ n : Nat, FnD P w K mg base (1 + n) (He.ga K "_law_table") (sTable n)
  | 0 => fun A outer s H us vs Q E hr e0 r h => by
    obtain ⟨F, G, ω, ds, Φ, ξ, _, _, h, _⟩ := h
    match ds, h with
    | [f], h =>
      obtain ⟨p, e, he, _⟩ := h
      exact absurd he (Nat.not_lt_zero _)
  | n + 1 => fd_law_table (Nat.le_add_right 1 n) T (table_all T n)
end
end Cu

/-! == MathV -/
set_option maxHeartbeats 4000000
namespace Cu
open PySem PySem.Spec PyProof.Rows L2 Evl CuT
/-! ### cuts by their ends, from the list of all ends -/
def ckD (l : List Nat) : List D := l.map fun (c : Nat) => D.int (c : Int)
def earlyL (p : Prog) (t : Int) : List Nat := (List.range (p.span.toNat + 1)).filter fun (c : Nat) => decide (endA p c ≤ t)
def someL (p : Prog) (t : Int) : List Nat := (earlyL p t).filter fun (c : Nat) => decide (endA p c = t)
theorem mem_early {p : Prog} {t : Int} {c : Nat} : c ∈ earlyL p t ↔ c ≤ p.span.toNat ∧ endA p c ≤ t := by
  unfold earlyL
  rw [List.mem_filter, List.mem_range, decide_eq_true_iff]
  omega
theorem mem_some {p : Prog} {t : Int} {c : Nat} : c ∈ someL p t ↔ c ≤ p.span.toNat ∧ endA p c = t := by
  unfold someL
  rw [List.mem_filter, mem_early, decide_eq_true_iff]
  omega
theorem early_sorted (p : Prog) (t : Int) : (earlyL p t).Pairwise (· < ·) := List.Pairwise.filter _ List.pairwise_lt_range
theorem some_sorted (p : Prog) (t : Int) : (someL p t).Pairwise (· < ·) := List.Pairwise.filter _ (early_sorted p t)
theorem sorted_last {l : List Nat} {c : Nat} (hs : l.Pairwise (· < ·)) (hc : c ∈ l) (hm : ∀ x ∈ l, x ≤ c) : ∃ r, l = r ++ [c] := by
  have hne : l ≠ [] := fun e => by rw [e] at hc; cases hc
  have e := (List.dropLast_concat_getLast hne).symm
  have h1 := hm _ (List.getLast_mem hne)
  generalize l.getLast hne = g at e h1
  have h2 : c ≤ g := by
    rw [e] at hc hs
    rcases List.mem_append.mp hc with z | z
    · exact Nat.le_of_lt ((List.pairwise_append.mp hs).2.2 c z g (.head _))
    · rw [List.mem_singleton.mp z]
      exact Nat.le_refl _
  have h3 : g = c := by omega
  subst h3
  exact ⟨_, e⟩
theorem sorted_first {l : List Nat} {c : Nat} (hs : l.Pairwise (· < ·)) (hc : c ∈ l) (hm : ∀ x ∈ l, c ≤ x) : ∃ r, l = c :: r := by
  cases l with
  | nil => cases hc
  | cons g r =>
    have h1 := hm g (.head _)
    have h2 : g ≤ c := by
      rcases List.mem_cons.mp hc with z | z
      · omega
      · exact Nat.le_of_lt ((List.pairwise_cons.mp hs).1 c z)
    have h3 : g = c := by omega
    subst h3
    exact ⟨r, rfl⟩
theorem early_last {p : Prog} {t c : Int} (hw : WF p) (h : IsLast p t c) : ∃ r, earlyL p t = r ++ [c.toNat] := by
  obtain ⟨c0, c1, c2, c3⟩ := id h
  refine sorted_last (early_sorted p t) (mem_early.mpr ⟨by omega, by rw [show ((c.toNat : Nat) : Int) = c by omega]; exact c2⟩) fun x hx => ?_
  have := le_last hw h (Int.natCast_nonneg x) (mem_early.mp hx).2
  omega
theorem some_late {p : Prog} {t : Int} (hw : WF p) (h : p.span < t) : someL p t = [] := by
  refine List.eq_nil_iff_forall_not_mem.mpr fun x hx => ?_
  have := (wf_good hw).hi x (Int.natCast_nonneg x)
  have := (mem_some.mp hx).2
  omega
theorem some_whole {p : Prog} {t a : Int} (hw : WF p) (h : t = p.span) (hf : IsFirst p t a) : ∃ r, someL p t = a.toNat :: r := by
  obtain ⟨a0, a1, a2, a3⟩ := id hf
  have := (wf_good hw).hi a a0
  refine sorted_first (some_sorted p t) (mem_some.mpr ⟨by omega, by rw [show ((a.toNat : Nat) : Int) = a by omega]; omega⟩) fun x hx => ?_
  have := first_le hw hf (Int.natCast_nonneg x) (by rw [(mem_some.mp hx).2]; exact Int.le_refl _)
  omega
theorem some_both {p : Prog} {t a c : Int} (hw : WF p) (hf : IsFirst p t a) (hl : IsLast p t c) (h : a ≤ c) : (∃ r, someL p t = a.toNat :: r) ∧ ∃ r, someL p t = r ++ [c.toNat] := by
  obtain ⟨a0, a1, a2, a3⟩ := id hf
  obtain ⟨c0, c1, c2, c3⟩ := id hl
  have m := (wf_good hw).mono a c a0 h
  refine ⟨sorted_first (some_sorted p t) (mem_some.mpr ⟨by omega, by rw [show ((a.toNat : Nat) : Int) = a by omega]; omega⟩) fun x hx => ?_, sorted_last (some_sorted p t) (mem_some.mpr ⟨by omega, by rw [show ((c.toNat : Nat) : Int) = c by omega]; omega⟩) fun x hx => ?_⟩
  · have := first_le hw hf (Int.natCast_nonneg x) (by rw [(mem_some.mp hx).2]; exact Int.le_refl _)
    omega
  · have := le_last hw hl (Int.natCast_nonneg x) (by rw [(mem_some.mp hx).2]; exact Int.le_refl _)
    omega
theorem some_none {p : Prog} {t a c : Int} (hw : WF p) (hf : IsFirst p t a) (hl : IsLast p t c) (h : ¬ a ≤ c) : someL p t = [] := by
  refine List.eq_nil_iff_forall_not_mem.mpr fun x hx => ?_
  have h1 := first_le hw hf (Int.natCast_nonneg x) (by rw [(mem_some.mp hx).2]; exact Int.le_refl _)
  have h2 := le_last hw hl (Int.natCast_nonneg x) (by rw [(mem_some.mp hx).2]; exact Int.le_refl _)
  omega
theorem enum_endsI (p : Prog) : enumD (intsD (endsL p)) = (List.range (p.span.toNat + 1)).map fun (c : Nat) => .tup [.int (c : Int), .int (endA p c)] := by
  refine List.ext_getElem? fun i => ?_
  cases h : (enumD (intsD (endsL p)))[i]? with
  | none =>
    have := List.getElem?_eq_none_iff.mp h
    rw [enumD_len, intsD_len, endsL_len] at this
    rw [List.getElem?_map, List.getElem?_eq_none (by rw [List.length_range]; omega)]
    rfl
  | some d =>
    obtain ⟨x, hx, rfl⟩ := enumD_at h
    have hi := (List.getElem?_eq_some_iff.mp hx).1
    rw [intsD_len, endsL_len] at hi
    unfold intsD at hx
    rw [List.getElem?_map, endsL_at p (by omega)] at hx
    have : x = .int (endA p i) := (Option.some.inj hx).symm
    rw [this, List.getElem?_map, List.getElem?_range (by omega)]
    rfl
end Cu

/-! == EK -/
set_option maxHeartbeats 4000000
namespace Cu
open PySem PySem.Spec PyProof.Rows L2 Evl CuT
/-! ### calls by keywords in the reverse order, of the package's own functions -/
section
variable {P : Program} {w : World} {K : PySem.W.Frag} {mg : Str → Option Value} {base : Heap}
theorem fnkd_mk {x qual : Str} {st : Stmt} {f : Addr} {N ps ks : List Str} {k : Nat} {d : RS} {S : SD} (F : ∃ fd, FunD K x qual (defArgs st) (defBody st) (defScope st) [] [] f fd) (sc : FnScope N ps (defScope st)) (hks : ks.length = ps.length)
    (hb : ∀ (kV doc pm : Value) (an : Option Addr) (cdv ct : Value) (us : List Value), us.length = ps.length → bindArgs (PySem.W.fnOf x qual (defArgs st) (defBody st) (defScope st) .none kV doc pm an cdv ct) ⟨[], ks.zip us⟩ = pure (ps.zip us.reverse))
    (len : ∀ ξ ds ω Φ, S ξ ds ω Φ → ds.length = ps.length)
    (der : ∀ (cdv : Value) (A : Around) (outer : List Env) (s : Shared) (H : Hp) (E : XK), Room k (A.deeper (envOfC qual (defScope st) s.heap.objs.size f cdv)) → DSs (cxOf (L2.CX P w) P w K mg base N qual (defScope st) f cdv A outer s H E).nox E0 (defBody st) d)
    (vc : ∀ ξ ds ω Φ, S ξ ds ω Φ → d xno { nx := fun _ ω' => Φ .non ω', rt := Φ } (startD N ds) ω) : FnK P w K mg base (k + 1) f ks (spD K (sRev S)) := by
  obtain ⟨fd, F⟩ := F
  refine (fnk_of (sp := spD K S) F (F.ok sc (fun vs H Q E h => ?_) (fun cdv A outer s H vs Q E hr h => ?_)) hks hb).imp rev_sp
  · obtain ⟨F, G, ω, ds, Φ, ξ, s, r, h, _⟩ := h
    rw [r.len]
    exact len ξ ds ω Φ h
  · obtain ⟨F, G, ω, ds, Φ, ξ, s', r, h, k', x⟩ := h
    refine ⟨_, PSs.nox (der cdv A outer s H E hr), F, G, ω, _, _, xno, s', start_rep r, vc ξ ds ω Φ h, ⟨fun σ' ρ' ω' G' H' h' e' s' _ => k' .non .non ω' G' H' h' e' s' .non, k', fun _ _ _ _ _ z => z.elim, fun _ _ _ _ _ z => z.elim⟩, XOk.no⟩
end
end Cu

/-! == DI -/
set_option maxHeartbeats 4000000
namespace Cu
open PySem PySem.Spec PyProof.Rows L2 Evl CuT
/-! ### things that change: instances, dicts with tuples as keys -/
section
variable {K : PySem.W.Frag} {F G H : Hp} {ω : Om} {p : Addr}
theorem Sim.noF (s : Sim K F G ω H) {c : Cell} (h : ω p = some c) : G p = none ∧ F p = none := by
  refine ⟨s.sepO p _ h, ?_⟩
  cases e : F p with
  | none => rfl
  | some o =>
    rw [(s.sepF p o e).2] at h
    cases h
theorem Sim.isD (s : Sim K F G ω H) {kvs : List (List Key × D)} (h : ω p = some (.dct kvs)) : ∃ hvs : List (List Key × V), H p = some (.dT hvs) ∧ hvs.map (·.1) = kvs.map (·.1) ∧ RepL K G (hvs.map (·.2)) (kvs.map (·.2)) := s.cell p _ h
theorem Sim.isI (s : Sim K F G ω H) {c : Str} {fs : List (Str × D)} (h : ω p = some (.ins c fs)) : ∃ dx fvs, H p = some (.ins (He.ga K c) dx fvs) ∧ H dx = some (.own p) ∧ fvs.map (·.1) = fs.map (·.1) ∧ RepL K G (fvs.map (·.2)) (fs.map (·.2)) := s.cell p _ h
/-- a cell is laid or changed -/
theorem Sim.putC (s : Sim K F G ω H) {o : HO} {c : Cell} (hG : G p = none) (hF : F p = none) (hc : CellOk K G (upd H p o) p c) (hold : ∀ x, H p ≠ some (.own x)) (ht : ∀ xs, o ≠ .tup xs) (hw : ∀ x, o ≠ .own x) (hi : ∀ dx, InsIn o dx → G dx = none) : Sim K F G (ω.put p c) (upd H p o) := by
  refine ⟨s.exG.mut hG, s.exF.mut hF, fun a u e => ?_, fun a c e => ?_, fun a c' e => ?_, fun a ys e => ?_, fun a u dx e i q => ?_⟩
  · have ha : a ≠ p := fun z => by rw [z, hF] at e; cases e
    rw [Om.put_ne ha]
    exact s.sepF a u e
  · by_cases ha : a = p
    · rw [ha]; exact hG
    · rw [Om.put_ne ha] at e
      exact s.sepO a c e
  · by_cases ha : a = p
    · subst ha
      rw [Om.put_same] at e
      cases e
      exact hc
    · rw [Om.put_ne ha] at e
      refine (s.cell a c' e).monoA (Ex.refl G) fun b u hb hx => ?_
      rw [upd_ne fun z => ?_]
      · exact hb
      · rw [z] at hb hx
        rcases hx with hx | hx
        · exact ha hx.symm
        · rw [hx] at hb
          exact hold a hb
  · by_cases ha : a = p
    · rw [ha, upd_same] at e
      exact absurd (Option.some.inj e) (ht ys)
    · rw [upd_ne ha] at e
      exact s.tups a ys e
  · by_cases ha : a = p
    · rw [ha, upd_same] at e
      cases e
      rw [ha]
      exact ⟨fun _ => hi dx i, fun _ => hG⟩
    · rw [upd_ne ha] at e
      by_cases hd : dx = p
      · rw [hd, upd_same] at q
        exact absurd (Option.some.inj q) (hw a)
      · rw [upd_ne hd] at q
        exact s.inss a u dx e i q
theorem Sim.newD (s : Sim K F G ω H) (h : H p = none) : Sim K F G (ω.put p (.dct [])) (upd H p (.dT [])) := by
  obtain ⟨hF, hG, hO⟩ := s.freshF h
  exact s.putC hG hF ⟨[], upd_same, rfl, .nil⟩ (fun x z => by rw [h] at z; cases z) (fun _ z => nomatch z) (fun _ z => nomatch z) (fun _ z => False.elim z)
/-- the own dict of a new instance -/
theorem Sim.ownN (s : Sim K F G ω H) {x dx : Addr} (hx : H x = none) (hd : H dx = none) (ne : dx ≠ x) : Sim K F G ω (upd H dx (.own x)) := by
  obtain ⟨hF, hG, hO⟩ := s.freshF hd
  refine ⟨s.exG.mut hG, s.exF.mut hF, s.sepF, s.sepO, fun a c e => ?_, fun a ys e => ?_, fun a u dx' e i q => ?_⟩
  · exact (s.cell a c e).monoA (Ex.refl G) fun b u hb _ => by rw [upd_ne (ne_of_none hb hd)]; exact hb
  · by_cases ha : a = dx
    · rw [ha, upd_same] at e
      cases e
    · rw [upd_ne ha] at e
      exact s.tups a ys e
  · by_cases ha : a = dx
    · rw [ha, upd_same] at e
      cases e
      exact False.elim i
    · rw [upd_ne ha] at e
      by_cases hd' : dx' = dx
      · rw [hd', upd_same] at q
        cases q
        rw [hx] at e
        cases e
      · rw [upd_ne hd'] at q
        exact s.inss a u dx' e i q
theorem Sim.newI (s : Sim K F G ω H) {c : Str} {x dx : Addr} (hx : H x = none) (hd : H dx = none) (ne : dx ≠ x) : Sim K F G (ω.put x (.ins c [])) (upd (upd H dx (.own x)) x (.ins (He.ga K c) dx [])) := by
  obtain ⟨hF, hG, hO⟩ := s.freshF hx
  have s1 := s.ownN hx hd ne
  refine s1.putC hG hF ⟨dx, [], upd_same, by rw [upd_ne ne, upd_same], rfl, .nil⟩ (fun y z => ?_) (fun _ z => nomatch z) (fun _ z => nomatch z) (fun d z => ?_)
  · rw [upd_ne (Ne.symm ne), hx] at z
    cases z
  · have z : dx = d := z
    rw [← z]
    exact (s.freshF hd).2.1
/-- attributes -/
def putFD (f : Str) (v : D) : List (Str × D) → List (Str × D)
  | [] => [(f, v)]
  | (g, x) :: r => if g = f then (g, v) :: r else (g, x) :: putFD f v r
theorem putF_rep {f : Str} {v : V} {d : D} (r : Rep K G v d) : ∀ (fvs : List (Str × V)) (fs : List (Str × D)), fvs.map (·.1) = fs.map (·.1) → RepL K G (fvs.map (·.2)) (fs.map (·.2)) → (putF f v fvs).map (·.1) = (putFD f d fs).map (·.1) ∧ RepL K G ((putF f v fvs).map (·.2)) ((putFD f d fs).map (·.2))
  | [], [], _, _ => ⟨rfl, .cons r .nil⟩
  | [], _ :: _, h, _ => by cases h
  | _ :: _, [], h, _ => by cases h
  | (g, x) :: l, (g', y) :: m, h, hr => by
    have e1 : g = g' := (List.cons.inj h).1
    have e2 := (List.cons.inj h).2
    subst e1
    cases hr with
    | cons h1 h2 =>
      unfold putF putFD
      by_cases e : g = f
      · rw [if_pos e, if_pos e]
        exact ⟨by rw [List.map_cons, List.map_cons, e2], .cons r h2⟩
      · rw [if_neg e, if_neg e]
        obtain ⟨i1, i2⟩ := putF_rep r l m e2 h2
        exact ⟨by rw [List.map_cons, List.map_cons, i1], .cons h1 i2⟩
theorem lookup_rep {f : Str} : ∀ (fvs : List (Str × V)) (fs : List (Str × D)), fvs.map (·.1) = fs.map (·.1) → RepL K G (fvs.map (·.2)) (fs.map (·.2)) → (∀ d, fs.lookup f = some d → ∃ v, fvs.lookup f = some v ∧ Rep K G v d) ∧ (fs.lookup f = none → fvs.lookup f = none)
  | [], [], _, _ => ⟨(fun _ z => nomatch z), fun _ => rfl⟩
  | [], _ :: _, h, _ => by cases h
  | _ :: _, [], h, _ => by cases h
  | (g, x) :: l, (g', y) :: m, h, hr => by
    have e1 : g = g' := (List.cons.inj h).1
    have e2 := (List.cons.inj h).2
    subst e1
    cases hr with
    | cons h1 h2 =>
      obtain ⟨i1, i2⟩ := lookup_rep (f := f) l m e2 h2
      cases hb : f == g with
      | true =>
        rw [show List.lookup f ((g, x) :: l) = some x by simp only [List.lookup, hb], show List.lookup f ((g, y) :: m) = some y by simp only [List.lookup, hb]]
        exact ⟨fun d e => ⟨x, rfl, by rw [← Option.some.inj e]; exact h1⟩, fun z => nomatch z⟩
      | false =>
        rw [show List.lookup f ((g, x) :: l) = List.lookup f l by simp only [List.lookup, hb], show List.lookup f ((g, y) :: m) = List.lookup f m by simp only [List.lookup, hb]]
        exact ⟨i1, i2⟩
/-- dicts -/
def valD (kvs : List (List Key × D)) (k : List Key) : Option D := (kvs.find? fun kv => decide (kv.1 = k)).map (·.2)
def putKD (kvs : List (List Key × D)) (k : List Key) (v : D) : List (List Key × D) := if kvs.any (fun kv => decide (kv.1 = k)) then kvs.map fun kv => if kv.1 = k then (kv.1, v) else kv else kvs ++ [(k, v)]
theorem valD_rep {k : List Key} : ∀ (hvs : List (List Key × V)) (kvs : List (List Key × D)), hvs.map (·.1) = kvs.map (·.1) → RepL K G (hvs.map (·.2)) (kvs.map (·.2)) → (∀ d, valD kvs k = some d → ∃ v, valV hvs k = some v ∧ Rep K G v d) ∧ (valD kvs k = none → valV hvs k = none)
  | [], [], _, _ => ⟨(fun _ z => nomatch z), fun _ => rfl⟩
  | [], _ :: _, h, _ => by cases h
  | _ :: _, [], h, _ => by cases h
  | (g, x) :: l, (g', y) :: m, h, hr => by
    have e1 : g = g' := (List.cons.inj h).1
    have e2 := (List.cons.inj h).2
    subst e1
    cases hr with
    | cons h1 h2 =>
      obtain ⟨i1, i2⟩ := valD_rep (k := k) l m e2 h2
      by_cases e : g = k
      · rw [valV_pos (p := (g, x)) e, show valD ((g, y) :: m) k = some y by unfold valD; rw [List.find?_cons_of_pos (by simpa using e)]; rfl]
        exact ⟨fun d z => ⟨x, rfl, by rw [← Option.some.inj z]; exact h1⟩, fun z => nomatch z⟩
      · rw [valV_neg (p := (g, x)) e, show valD ((g, y) :: m) k = valD m k by unfold valD; rw [List.find?_cons_of_neg (by simpa using e)]]
        exact ⟨i1, i2⟩
theorem map_if_keys {α : Type} {k : List Key} {v : α} : ∀ l : List (List Key × α), (l.map fun kv => if kv.1 = k then (kv.1, v) else kv).map (·.1) = l.map (·.1)
  | [] => rfl
  | kv :: l => by
    rw [List.map_cons, List.map_cons, map_if_keys l, List.map_cons]
    by_cases e : kv.1 = k
    · rw [if_pos e]
    · rw [if_neg e]
theorem map_if_rep {k : List Key} {v : V} {d : D} (r : Rep K G v d) : ∀ (hvs : List (List Key × V)) (kvs : List (List Key × D)), hvs.map (·.1) = kvs.map (·.1) → RepL K G (hvs.map (·.2)) (kvs.map (·.2)) → RepL K G ((hvs.map fun kv => if kv.1 = k then (kv.1, v) else kv).map (·.2)) ((kvs.map fun kv => if kv.1 = k then (kv.1, d) else kv).map (·.2))
  | [], [], _, _ => .nil
  | [], _ :: _, h, _ => by cases h
  | _ :: _, [], h, _ => by cases h
  | (g, x) :: l, (g', y) :: m, h, hr => by
    have e1 : g = g' := (List.cons.inj h).1
    have e2 := (List.cons.inj h).2
    subst e1
    cases hr with
    | cons h1 h2 =>
      have ih := map_if_rep (k := k) r l m e2 h2
      rw [List.map_cons, List.map_cons, List.map_cons, List.map_cons]
      by_cases e : g = k
      · rw [if_pos e, if_pos e]
        exact .cons r ih
      · rw [if_neg e, if_neg e]
        exact .cons h1 ih
theorem any_keys {α β : Type} {k : List Key} : ∀ (hvs : List (List Key × α)) (kvs : List (List Key × β)), hvs.map (·.1) = kvs.map (·.1) → (hvs.any fun kv => decide (kv.1 = k)) = (kvs.any fun kv => decide (kv.1 = k))
  | [], [], _ => rfl
  | [], _ :: _, h => by cases h
  | _ :: _, [], h => by cases h
  | (g, x) :: l, (g', y) :: m, h => by
    have e1 : g = g' := (List.cons.inj h).1
    subst e1
    rw [List.any_cons, List.any_cons, any_keys l m (List.cons.inj h).2]
theorem putK_rep {k : List Key} {v : V} {d : D} (r : Rep K G v d) (hvs : List (List Key × V)) (kvs : List (List Key × D)) (h : hvs.map (·.1) = kvs.map (·.1)) (hr : RepL K G (hvs.map (·.2)) (kvs.map (·.2))) : (putK hvs k v).map (·.1) = (putKD kvs k d).map (·.1) ∧ RepL K G ((putK hvs k v).map (·.2)) ((putKD kvs k d).map (·.2)) := by
  unfold putK putKD
  rw [any_keys hvs kvs h]
  by_cases e : (kvs.any fun kv => decide (kv.1 = k)) = true
  · rw [if_pos e, if_pos e]
    exact ⟨by rw [map_if_keys, map_if_keys, h], map_if_rep r hvs kvs h hr⟩
  · rw [if_neg e, if_neg e, List.map_append, List.map_append, List.map_append, List.map_append, h]
    exact ⟨rfl, Paired.snoc hr r⟩
theorem Sim.putD (s : Sim K F G ω H) {kvs : List (List Key × D)} {hvs : List (List Key × V)} (h : ω p = some (.dct kvs)) (hh : H p = some (.dT hvs)) (hn : hvs.map (·.1) = kvs.map (·.1)) (hr : RepL K G (hvs.map (·.2)) (kvs.map (·.2))) {k : List Key} {v : V} {d : D} (r : Rep K G v d) : Sim K F G (ω.put p (.dct (putKD kvs k d))) (upd H p (.dT (putK hvs k v))) := by
  obtain ⟨hG, hF⟩ := s.noF h
  obtain ⟨i1, i2⟩ := putK_rep r hvs kvs hn hr
  exact s.putC hG hF ⟨_, upd_same, i1, i2⟩ (fun x z => by rw [hh] at z; cases z) (fun _ z => nomatch z) (fun _ z => nomatch z) (fun _ z => False.elim z)
theorem Sim.putI (s : Sim K F G ω H) {c f : Str} {fs : List (Str × D)} {dx : Addr} {fvs : List (Str × V)} (h : ω p = some (.ins c fs)) (hh : H p = some (.ins (He.ga K c) dx fvs)) (ho : H dx = some (.own p)) (hn : fvs.map (·.1) = fs.map (·.1)) (hr : RepL K G (fvs.map (·.2)) (fs.map (·.2))) {v : V} {d : D} (r : Rep K G v d) : Sim K F G (ω.put p (.ins c (putFD f d fs))) (upd H p (.ins (He.ga K c) dx (putF f v fvs))) := by
  obtain ⟨hG, hF⟩ := s.noF h
  obtain ⟨i1, i2⟩ := putF_rep (f := f) r fvs fs hn hr
  have ne : dx ≠ p := fun z => by rw [z, hh] at ho; cases ho
  refine s.putC hG hF ⟨dx, _, upd_same, by rw [upd_ne ne]; exact ho, i1, i2⟩ (fun x z => by rw [hh] at z; cases z) (fun _ z => nomatch z) (fun _ z => nomatch z) (fun d z => ?_)
  have z : dx = d := z
  rw [← z]
  exact (s.inss p _ dx hh rfl ho).mp hG
/-- keys -/
def keysOf : List D → Option (List Key)
  | [] => some []
  | .int i :: r => (keysOf r).map (Sum.inl i :: ·)
  | .str x :: r => (keysOf r).map (Sum.inr x :: ·)
  | _ :: _ => none
def keyOf : D → Option (List Key)
  | .tup ds => keysOf ds
  | _ => none
theorem keysOf_rep : ∀ {ds : List D} {xs : List V} {k : List Key}, RepL K G xs ds → keysOf ds = some k → xs = k.map kV
  | [], _, k, .nil, h => by
    cases h
    rfl
  | d :: ds, _, k, .cons r t, h => by
    cases d with
    | int i =>
      obtain ⟨k', h1, rfl⟩ := Option.map_eq_some_iff.mp (show (keysOf ds).map (Sum.inl i :: ·) = some k from h)
      rw [List.map_cons, ← keysOf_rep t h1, r.invI]
      rfl
    | str x =>
      obtain ⟨k', h1, rfl⟩ := Option.map_eq_some_iff.mp (show (keysOf ds).map (Sum.inr x :: ·) = some k from h)
      rw [List.map_cons, ← keysOf_rep t h1, r.invS]
      rfl
    | _ => cases h
end
/-- e.f of an instance that may change -/
def dFldM (c f : Str) (d : RE) : RE := fun ξ ρ ω Φ => d ξ ρ ω fun x ω1 => match x with
  | .mref a => (match ω1 a with
    | some (.ins c' fs) => c' = c ∧ onS (fs.lookup f) fun y => Φ y ω1
    | _ => False)
  | _ => False
/-- o.m(..) of such an instance -/
def dMethM (c m : Str) (S : SD) (d : RE) (da : RA) : RE := fun ξ ρ ω Φ => d ξ ρ ω fun x ω1 => match x with
  | .mref a => (match ω1 a with
    | some (.ins c' fs) => c' = c ∧ fs.lookup m = none ∧ da ξ ρ ω1 fun xs ω2 => S ξ (.mref a :: xs) ω2 Φ
    | _ => False)
  | _ => False
/-- o.f = e -/
def dSetF (c f : Str) (dv d : RE) : RS := fun ξ Δ ρ ω => dv ξ ρ ω fun y ω1 => d ξ ρ ω1 fun x ω2 => match x with
  | .mref a => (match ω2 a with
    | some (.ins c' fs) => c' = c ∧ fs.length < 1000 ∧ Δ.nx ρ (ω2.put a (.ins c (putFD f y fs)))
    | _ => False)
  | _ => False
/-- {} -/
def dDNew : RE := fun _ _ ω Φ => ∀ p, ω p = none → Φ (.mref p) (ω.put p (.dct []))
/-- k not in d -/
def oNotInD : RR2 := fun y x ω Φ => match x with
  | .mref a => (match ω a with
    | some (.dct kvs) => onS (keyOf y) fun k => Φ (.bl (!(valD kvs k).isSome)) ω
    | _ => False)
  | _ => False
/-- d[k] -/
def dDGet (dd dy : RE) : RE := fun ξ ρ ω Φ => dd ξ ρ ω fun x ω1 => dy ξ ρ ω1 fun y ω2 => match x with
  | .mref a => (match ω2 a with
    | some (.dct kvs) => onS (keyOf y) fun k => onS (valD kvs k) fun v => Φ v ω2
    | _ => False)
  | _ => False
/-- d[k] = e -/
def dDPut (dv dd dy : RE) : RS := fun ξ Δ ρ ω => dv ξ ρ ω fun v ω1 => dd ξ ρ ω1 fun x ω2 => dy ξ ρ ω2 fun y ω3 => match x with
  | .mref a => (match ω3 a with
    | some (.dct kvs) => onS (keyOf y) fun k => kvs.length < 16777216 ∧ Δ.nx ρ (ω3.put a (.dct (putKD kvs k v)))
    | _ => False)
  | _ => False
/-- C(..) -/
def dMake (c : Str) (S : SD) (da : RA) : RE := fun ξ ρ ω Φ => da ξ ρ ω fun ds ω1 => ∀ a, ω1 a = none → S ξ (.mref a :: ds) (ω1.put a (.ins c [])) fun z ω2 => z = .non ∧ Φ (.mref a) ω2
theorem omI {o : Option Cell} {Ψ : Str → List (Str × D) → Prop} (h : match o with | some (.ins c fs) => Ψ c fs | _ => False) : ∃ c fs, o = some (.ins c fs) ∧ Ψ c fs := by
  cases o with
  | none => exact h.elim
  | some x =>
    cases x with
    | ins c fs => exact ⟨c, fs, rfl, h⟩
    | _ => exact h.elim
theorem omD {o : Option Cell} {Ψ : List (List Key × D) → Prop} (h : match o with | some (.dct kvs) => Ψ kvs | _ => False) : ∃ kvs, o = some (.dct kvs) ∧ Ψ kvs := by
  cases o with
  | none => exact h.elim
  | some x =>
    cases x with
    | dct kvs => exact ⟨kvs, rfl, h⟩
    | _ => exact h.elim
theorem keyOf_rep {K : PySem.W.Frag} {F G H : Hp} {ω : Om} {v : V} {y : D} {k : List Key} (s : Sim K F G ω H) (r : Rep K G v y) (h : keyOf y = some k) : ∃ b, v = .ref b ∧ H b = some (.tup (k.map kV)) := by
  cases y with
  | tup ds =>
    obtain ⟨b, xs, rfl, hb, hr⟩ := r.invT
    have := keysOf_rep hr h
    subst this
    exact ⟨b, rfl, s.exG _ _ hb⟩
  | _ => cases h
section
variable {X : Cx} {E : XK} {pos : Pos}
theorem de_fldM {c f : Str} {e : Expr} {d : RE} (hc : Cls X.K (He.ga X.K c)) (hn : NoAttr X.K (He.ga X.K c) f) (h : DE X E e d) (hb : attributeBase e f X.env (eval e X.env) = eval e X.env := by rfl) : DE X E (.Attribute e f pos) (dFldM c f d) :=
  de_of (pe_fld h hb) fun σ H Q ⟨F, G, ω, ρ, Φ, ξ, s, r, h, k, x⟩ => low_then s r x h fun v d ω1 G1 H1 h1 e1 s1 r1 => by
    cases d with
    | mref a =>
      obtain ⟨c', fs, ha, ec, h2⟩ := omI h1
      obtain ⟨y, hy, h3⟩ := onS_ok h2
      subst ec
      obtain ⟨dx, fvs, i1, i2, i3, i4⟩ := s1.isI ha
      obtain ⟨u, hu, ru⟩ := (lookup_rep fvs fs i3 i4).1 y hy
      cases r1.invM
      exact ⟨a, _, dx, fvs, u, rfl, i1, hc, hn, hu, k _ _ ω1 G1 H1 h3 e1 s1 ru⟩
    | _ => exact h1.elim
theorem methM_low {c : Str} {S : SD} {d : RE} {da : RA} {m : Str} : ∀ σ H Q, lowE X.K E (dMethM c m S d da) σ H Q → tMethR (He.ga X.K c) m (spD X.K S) E (lowE X.K E d) (lowA X.K E da) σ H Q := fun σ H Q ⟨F, G, ω, ρ, Φ, ξ, s, r, h, k, x⟩ => low_then s r x h fun v d ω1 G1 H1 h1 e1 s1 r1 => by
  cases d with
  | mref a =>
    obtain ⟨c', fs, ha, rfl, hm, h1⟩ := omI h1
    obtain ⟨dx, fvs, i1, i2, i3, i4⟩ := s1.isI ha
    cases r1.invM
    exact ⟨a, dx, fvs, rfl, i1, (lookup_rep fvs fs i3 i4).2 hm, low_thenA s1 (r.ext e1) (x.mono e1) h1 fun vs ds ω2 G2 H2 h2 e2 s2 r2 => ⟨F, G2, ω2, _, Φ, ξ, s2, .cons .mref r2, h2, k.mono (e1.trans e2), x.mono (e1.trans e2)⟩⟩
  | _ => exact h1.elim
theorem de_methM {k : Nat} {f : Addr} {S : SD} {c m : Str} {apos : Pos} {e o : Expr} {es : List Expr} {d : RE} {da : RA} {pl : Sem Bool} (he : DE X E o d) (hc : Cls X.K (He.ga X.K c)) (hm : Meth X.K (He.ga X.K c) m f) (F : FnR X.prog X.w X.K X.mg X.base (L2.CX X.prog X.w) k f (spD X.K S)) (hr : Room k X.A) (hx : Passes (L2.CX X.prog X.w) X E) (ha : DA X E (e :: es) da)
    (hst : starEach (e :: es) X.env = (false, eval e X.env) :: starEach es X.env := by rfl) (hpl : (backTo pos (starEach es X.env)).any (·.1) = false := by rfl)
    (ht : eval (.Call (.Attribute o m apos) (e :: es) [] pos) X.env = (do
      let ov ← eval o X.env
      standAt apos.atName
      let (f, first) ← holding [ov] (getMethod ov m pl)
      callWith pos f first (backTo pos (starEach (e :: es) X.env)) (backToKw pos (keywordEach [] X.env))) := by rfl) : DE X E (.Call (.Attribute o m apos) (e :: es) [] pos) (dMethM c m S d da) :=
  de_of (pe_methR he hc hm F hr hx ha hst hpl ht) methM_low
theorem ds_setF {c f : Str} {o e : Expr} {d dv : RE} {pos' : Pos} (hc : Cls X.K (He.ga X.K c)) (hn : NoAttr X.K (He.ga X.K c) f) (ho : DE X E o d) (he : DE X E e dv) (hs : swapsWith e (some (.Attribute o f pos')) pos.line X.env = pure false := by rfl) : DS X E (.Assign [.Attribute o f pos'] e pos) (dSetF c f dv d) :=
  ds_of (ps_fld ho he hs) fun D σ H ⟨F, G, ω, ρ, Δ, ξ, s, r, h, k, x⟩ => low_then s r x h fun v y ω1 G1 H1 h1 e1 s1 r1 => low_then s1 (r.ext e1) (x.mono e1) h1 fun v2 d2 ω2 G2 H2 h2 e2 s2 r2 => by
    cases d2 with
    | mref a =>
      obtain ⟨c', fs, ha, rfl, hl, h2⟩ := omI h2
      obtain ⟨dx, fvs, i1, i2, i3, i4⟩ := s2.isI ha
      cases r2.invM
      have hlen : fvs.length = fs.length := by
        have := congrArg List.length i3
        rwa [List.length_map, List.length_map] at this
      exact ⟨a, _, dx, fvs, rfl, i1, hc, hn, by omega, k.nx σ ρ _ G2 _ h2 (e1.trans e2) (s2.putI ha i1 i2 i3 i4 (r1.ext e2)) (r.ext (e1.trans e2))⟩
    | _ => exact h2.elim
theorem de_dnew : DE X E (.Dict [] [] pos) dDNew := de_of pe_dnewT fun σ H Q ⟨F, G, ω, ρ, Φ, ξ, s, r, h, k, x⟩ => fun p hp => k _ _ _ _ _ (h p (s.freshF hp).2.2) (Ex.refl G) (s.newD hp) .mref
def rNotInD : R2 := fun y x H Q => ∃ a o, x = .ref a ∧ DGet H a y o ∧ Q (.bl (!o.isSome)) H
theorem op_notInD (hu : X.A.units + 64 < cLine) : OpR X (compareOp .NotIn) rNotInD := by
  intro pins s σ H y x v u Q I ry rx h
  obtain ⟨a, o, ex, g, q⟩ := h
  subst ex
  obtain rfl : u = Value.ref a := rx
  exact d_notIn (by omega) I g ry fun s3 I3 => ⟨.bl (!o.isSome), H, I3, rfl, q⟩
theorem ok_notInD {K : PySem.W.Frag} : OpOk K rNotInD oNotInD := fun F G ω H x y dx dy Φ Q s rx ry hd k => by
  cases dy with
  | mref a =>
    obtain ⟨kvs, ha, hd⟩ := omD hd
    obtain ⟨ky, hk, hd⟩ := onS_ok hd
    obtain ⟨hvs, i1, i2, i3⟩ := s.isD ha
    obtain ⟨b, rfl, hb⟩ := keyOf_rep s rx hk
    have hv : (valV hvs ky).isSome = (valD kvs ky).isSome := by
      obtain ⟨j1, j2⟩ := valD_rep (k := ky) hvs kvs i2 i3
      cases e : valD kvs ky with
      | none => rw [j2 e] <;> rfl
      | some d =>
        obtain ⟨v, hv, _⟩ := j1 d e
        rw [hv] <;> rfl
    refine ⟨a, valV hvs ky, ry.invM, DGet.t i1 hb, ?_⟩
    rw [hv]
    exact k _ _ ω G H hd (Ex.refl G) s .bl
  | _ => exact hd.elim
theorem de_dget {o i : Expr} {dd dy : RE} (hu : X.A.units + 64 < cLine) (ho : DE X E o dd) (hi : DE X E i dy) (hs : NoSl i) : DE X E (.Subscript o i pos) (dDGet dd dy) :=
  de_of (pe_dget (by omega) ho hi hs) fun σ H Q ⟨F, G, ω, ρ, Φ, ξ, s, r, h, k, x⟩ => low_then s r x h fun v d ω1 G1 H1 h1 e1 s1 r1 => low_then s1 (r.ext e1) (x.mono e1) h1 fun v2 y ω2 G2 H2 h2 e2 s2 r2 => by
    cases d with
    | mref a =>
      obtain ⟨kvs, ha, h2⟩ := omD h2
      obtain ⟨ky, hk, h2⟩ := onS_ok h2
      obtain ⟨z, hz, h2⟩ := onS_ok h2
      obtain ⟨hvs, i1, i2, i3⟩ := s2.isD ha
      obtain ⟨b, rfl, hb⟩ := keyOf_rep s2 r2 hk
      obtain ⟨u, hu, ru⟩ := (valD_rep (k := ky) hvs kvs i2 i3).1 z hz
      refine ⟨a, u, r1.invM, ?_, k _ _ ω2 G2 H2 h2 (e1.trans e2) s2 ru⟩
      rw [← hu]
      exact DGet.t i1 hb
    | _ => exact h2.elim
theorem ds_dput {o i e : Expr} {dv dd dy : RE} {pos' : Pos} (hu : X.A.units + 64 < cLine) (ho : DE X E o dd) (hi : DE X E i dy) (he : DE X E e dv) (hs : swapsWith e (some (.Subscript o i pos')) pos.line X.env = pure false := by rfl) : DS X E (.Assign [.Subscript o i pos'] e pos) (dDPut dv dd dy) :=
  ds_of (ps_dput (by omega) ho hi he hs) fun D σ H ⟨F, G, ω, ρ, Δ, ξ, s, r, h, k, x⟩ => low_then s r x h fun v d ω1 G1 H1 h1 e1 s1 r1 => low_then s1 (r.ext e1) (x.mono e1) h1 fun v2 d2 ω2 G2 H2 h2 e2 s2 r2 => low_then s2 (r.ext (e1.trans e2)) (x.mono (e1.trans e2)) h2 fun v3 d3 ω3 G3 H3 h3 e3 s3 r3 => by
    cases d2 with
    | mref a =>
      obtain ⟨kvs, ha, h3⟩ := omD h3
      obtain ⟨ky, hk, hl, h3⟩ := onS_ok h3
      obtain ⟨hvs, i1, i2, i3⟩ := s3.isD ha
      obtain ⟨b, rfl, hb⟩ := keyOf_rep s3 r3 hk
      have hlen : hvs.length = kvs.length := by
        have := congrArg List.length i2
        rwa [List.length_map, List.length_map] at this
      have ex := (e1.trans e2).trans e3
      exact ⟨a, _, r2.invM, DPut.t i1 hb (by rw [hlen, sizeLine_eq]; exact hl), k.nx σ ρ _ G3 _ h3 ex (s3.putD ha i1 i2 i3 (r1.ext (e2.trans e3))) (r.ext ex)⟩
    | _ => exact h3.elim
theorem make_low {c : Str} {S : SD} {da : RA} : ∀ σ H Q, lowE X.K E (dMake c S da) σ H Q → StX.tMakeR (He.ga X.K c) (spD X.K S) E (lowA X.K E da) σ H Q := fun σ H Q ⟨F, G, ω, ρ, Φ, ξ, s, r, h, k, x⟩ => low_thenA s r x h fun vs ds ω1 G1 H1 h1 e1 s1 r1 => fun a dx na ndx ne =>
  ⟨F, G1, ω1.put a (.ins c []), .mref a :: ds, _, ξ, s1.newI na ndx ne, .cons .mref r1, h1 a (s1.freshF na).2.2, fun v z ω2 G2 H2 hz e2 s2 r2 => by
    obtain ⟨rfl, hz⟩ := hz
    exact ⟨r2.invN, k _ _ ω2 G2 H2 hz (e1.trans e2) s2 .mref⟩, x.mono e1⟩
theorem de_make0 {k : Nat} {c : Str} {f : Addr} {S : SD} {p : Pos} (M : Mk X.K (He.ga X.K c) f) (F : FnR X.prog X.w X.K X.mg X.base (L2.CX X.prog X.w) k f (spD X.K S)) (hr : Room (k + 1) X.A) (hg : Gl X c) (hm : X.mg c = some (.ref (He.ga X.K c))) (hx : Passes (L2.CX X.prog X.w) X E)
    (hdb : (c == ("__debug__" : Str)) = false := by decide) : DE X E (.Call (.Name c p) [] [] pos) (dMake c S dNil) := by
  refine de_of (t := StX.tMakeR (He.ga X.K c) (spD X.K S) E tNil) ⟨fun pins s σ H Q I h => ?_⟩ fun σ H Q q => ?_
  · refine wpAny_Call_Name_kw (ld_glob I hg hm ?_ hdb)
    exact PySem.W.callWith_K0 I.kIn M.kp (StX.run_makeR (us := []) M F hr hx I .nil h)
  · obtain ⟨F, G, ω, ρ, Φ, ξ, s, r, h, k, x⟩ := make_low σ H Q q
    exact k [] [] ω G H h (Ex.refl G) s .nil
end
end Cu

/-! == XA -/
set_option maxHeartbeats 4000000
namespace Cu
open PySem PySem.Spec PyProof.Rows L2 Evl CuT
/-! ### own errors: made -/
abbrev bmA : List Value := [.type "ArithmeticError", .type "Exception", .type "BaseException", .type "object"]
/-- an error's class: its field f -/
structure ErrC (K : PySem.W.Frag) (C : Addr) (f : Str) : Prop where
  q : PySem.W.excInitIn K C bmA "ArithmeticError.__new__" = true
  ov : PySem.W.excOver K C bmA = true
  sa : PySem.W.findIn K (.ref C) "__setattr__" = some (some (.builtin "object.__setattr__"))
  ga : PySem.W.findIn K (.ref C) "__getattribute__" = some (some (.builtin "BaseException.__getattribute__"))
  gg : PySem.W.findIn K (.ref C) "__getattr__" = some none
  no : PySem.W.findIn K (.ref C) f = some none
  init : PySem.W.findIn K (.ref C) "__init__" = some (some (.ref (He.ma K C "__init__")))
  fn : PySem.W.typeIn K (.ref (He.ma K C "__init__")) = some (.type "function")
  kC : PySem.W.keepIn K (.ref C) = true
  exC : PySem.W.subIn K (.ref C) (.type "BaseException") = some true
  tyC : PySem.W.typeIn K (.ref C) = some (.type "type")
  hd : PySem.W.hasDictIn K C = true
/-- the base class of the program's errors -/
structure BaseC (K : PySem.W.Frag) (B : Addr) : Prop where
  rd : PySem.W.readsIn K B (.type "type") = true
  sp : PySem.W.specialIn K (.ref B) "__getattribute__" = some (some (.builtin "type.__getattribute__"))
  at_ : PySem.W.findCls K (.ref B) (.type "type") "__init__" = some (.val (.builtin "ArithmeticError.__init__"))
section
variable {X : Cx} {pins : List (Addr × Obj)} {σ : L2.St} {H : Hp} {s : Shared} {a C : Addr} {f : Str} {y : V} {u : Value} {E : Value → Shared → Prop} {A : Around}
/-- self.f = y of a fresh error -/
theorem err_store {Q : Unit → Shared → Prop} (T : ErrC X.K C f) (I : Inv X pins σ H s) (e : H a = some (exo a C none)) (ry : RelV y u)
    (h : ∀ dx s', H dx = none → dx ≠ a → Inv X pins σ (upd (upd H dx (exd dx [(f, y)])) a (exo a C (some dx))) s' → Q () s') : wpAny (model X.prog X.w) A (setAttr (.ref a) f u) Q E s := by
  obtain ⟨t1, ho⟩ := exo_at I.hok e
  obtain ⟨hp, g, d, t, os⟩ := s
  obtain ⟨cd, hc, hd⟩ := PySem.W.any_some T.hd
  have ht : PySem.W.takerIn X.K C f = some none := by
    unfold PySem.W.takerIn
    rw [T.no]
    rfl
  have la : a < hp.objs.size := Heap.lt_size ho
  have nd : H hp.objs.size = none := I.hok.fresh (Nat.le_refl _)
  have na : hp.objs.size ≠ a := fun z => Nat.lt_irrefl _ (by rw [z] at la; exact la)
  have hx1 : (hp.push (PySem.W.dictOf [] 0)).get? a = some ({ cls := .ref C, dict := none, data := .fields #[.ref t1, .none, .none, .none, .bool false, .none] } : Obj) := Heap.get?_push_of_some _ ho
  refine PySem.W.set_plain I.kIn (ox := _) (od := none) ⟨ho, rfl, rfl, trivial⟩ T.sa ?_
  refine PySem.W.osa_openX (od := none) PySem.F.store_ArithmeticError I.kIn ⟨ho, rfl, rfl, trivial⟩ T.ov ht fun b => ?_
  refine wpAny_bind (wpAny_pure (wpAny_bind (PySem.W.instanceDict_exc ho (PySem.W.looks_clsIn I.kIn hc) hd ?_)))
  refine HandSPX.store_in_new ?_ (fun h' tk' hn hs => ?_)
  · exact ⟨_, #[], _, (Heap.get?_update_ne _ _ _ _ na).trans (Heap.get?_push_at rfl rfl), rfl, fun e he => absurd he (by simp), fun _ => rfl⟩
  · have k0 : ∀ b o, b ≠ a → hp.get? b = some o → h'.get? b = some o := fun b o hb q => (hs.2 b (Nat.ne_of_lt (Heap.lt_size q))).trans ((Heap.get?_update_ne _ _ _ _ hb).trans (Heap.get?_push_of_some _ q))
    have ka : h'.get? a = some ({ cls := .ref C, dict := some hp.objs.size, data := .fields #[.ref t1, .none, .none, .none, .bool false, .none] } : Obj) := (hs.2 a (Ne.symm na)).trans (Heap.get?_update_self _ hx1 rfl)
    -- the heap with the old object at a
    have og : ∀ b, b ≠ a → (h'.update a fun _ => ({ cls := .ref C, dict := none, data := .fields #[.ref t1, .none, .none, .none, .bool false, .none] } : Obj)).get? b = h'.get? b := fun b hb => Heap.get?_update_ne _ _ _ _ hb
    have oa : (h'.update a fun _ => ({ cls := .ref C, dict := none, data := .fields #[.ref t1, .none, .none, .none, .bool false, .none] } : Obj)).get? a = some ({ cls := .ref C, dict := none, data := .fields #[.ref t1, .none, .none, .none, .bool false, .none] } : Obj) := Heap.get?_update_self _ ka rfl
    have I1 := I.laid (t' := tk') (a := hp.objs.size) (o := exd hp.objs.size [(f, y)]) (h' := h'.update a fun _ => ({ cls := .ref C, dict := none, data := .fields #[.ref t1, .none, .none, .none, .bool false, .none] } : Obj))
      (fun b o q => by
        by_cases hb : b = a
        · rw [hb] at q ⊢
          rw [oa, ← q, ho]
        · rw [og b hb]
          exact k0 b o hb q) (Nat.le_refl _) (exd_ok (hn.at fun o q => (og _ na).trans q) (relO_put (fs := []) ry fun g => True.intro))
    have I2 := I1.write (t' := tk') (h' := h') (x := a) (e := a) (o := exo a C (some hp.objs.size)) (by rw [upd_ne (Ne.symm na), e]; exact True.intro) (.inl rfl) (fun b o hb q => (og b hb).symm.trans q) ⟨_, ka⟩ (exo_ok ka)
    exact h _ _ nd na I2
/-- CutError.__init__(self, ..) -/
theorem err_init {us : List Value} {Q : Value → Shared → Prop} (T : ErrC X.K C f) (I : Inv X pins σ H s) (e : H a = some (exo a C none)) (hl : us.length ≤ sizeLine) (h : ∀ s', Inv X pins σ H s' → Q .none s') :
    wpAny (model X.prog X.w) A (call (.builtin "ArithmeticError.__init__") (.ref a :: us)) Q E s := by
  obtain ⟨t1, ho⟩ := exo_at I.hok e
  obtain ⟨nm, N, qn, bs, bm, hdct, sn, sub, ab, col, dd, k0, k1, k2, k3, k5, hC, hT⟩ := PySem.W.excInit_of I.kIn T.q
  obtain ⟨hp, g, d, t, os⟩ := s
  refine wpAny_call (HandSPX.init_base PySem.F.excBase_ArithmeticError hT hC ho hl fun h' t2 k hx => ?_)
  have J := I.write (t' := t) (x := a) (e := a) (o := exo a C none) (by rw [e]; exact True.intro) (.inl rfl) k ⟨_, hx⟩ (exo_ok hx)
  have same : upd H a (exo a C none) = H := funext fun b => by
    by_cases hb : b = a
    · rw [hb, upd_same, e]
    · exact upd_ne hb
  rw [same] at J
  exact h _ J
end
/-- CutError.__init__(self, ..) -/
def tErrI (K : PySem.W.Frag) (ta : TA) : TE := fun σ H Q => ta σ H fun vs H1 => ∃ (a C : Addr) (f : Str) (ws : List V), vs = .ref a :: ws ∧ ws.length ≤ 1000 ∧ ErrC K C f ∧ H1 a = some (exo a C none) ∧ Q .non H1
/-- self.f = e -/
def tErrS (K : PySem.W.Frag) (f : Str) (to te : TE) : TS := fun D σ H => te σ H fun y H1 => to σ H1 fun x H2 => ∃ a C : Addr, x = .ref a ∧ ErrC K C f ∧ H2 a = some (exo a C none) ∧ ∀ dx, H2 dx = none → dx ≠ a → D.nx σ (upd (upd H2 dx (exd dx [(f, y)])) a (exo a C (some dx)))
section
variable {X : Cx} {o e : Expr} {es : List Expr} {to te : TE} {ta : TA} {f : Str} {p p' p1 p2 pos : Pos}
theorem pe_errI {pl : Sem Bool} {x : Str} {B : Addr} (hg : Gl X x) (hm : X.mg x = some (.ref B)) (hB : BaseC X.K B) (ha : PA X (e :: es) ta) (hdb : (x == ("__debug__" : Str)) = false := by decide)
    (hc : eval (.Call (.Attribute (.Name x p1) "__init__" p2) (e :: es) [] pos) X.env = (do
      let ov ← eval (.Name x p1) X.env
      standAt p2.atName
      let (f, first) ← holding [ov] (getMethod ov "__init__" pl)
      callWith pos f first (backTo pos (starEach (e :: es) X.env)) (backToKw pos (keywordEach [] X.env))) := by rfl)
    (he : starEach (e :: es) X.env = (false, eval e X.env) :: starEach es X.env := by rfl) (hpl : (backTo pos (starEach es X.env)).any (·.1) = false := by rfl) :
    PE X (.Call (.Attribute (.Name x p1) "__init__" p2) (e :: es) [] pos) (tErrI X.K ta) := by
  refine ⟨fun pins s σ H Q I h => ?_⟩
  refine PySem.W.methodCall_KW (ld_glob I hg hm ?_ hdb) hc
  refine PySem.W.method_cls I.kIn hB.sp (PySem.W.cls_value I.kIn hB.rd hB.at_ (by decide +kernel) ?_)
  refine PyProof.Rows.callWith_method1 (thn (ha.run pos pins _ σ H _ (I.tok _) h) fun us s1 hh => ?_) he hpl
  obtain ⟨vs, H1, I1, r1, a, C, f, ws, ev, hl, T, ea, q⟩ := hh
  subst ev
  cases r1 with
  | @cons _ u0 _ ur ra rw' =>
    obtain rfl : u0 = Value.ref a := ra
    exact err_init T I1 ea (by rw [← rw'.length, sizeLine_eq]; omega) fun s' J => ⟨.non, H1, J, rfl, q⟩
theorem ps_errS (ho : PE X o to) (he : PE X e te) (hs : swapsWith e (some (.Attribute o f p')) pos.line X.env = pure false := by rfl) : PS X (.Assign [.Attribute o f p'] e pos) (tErrS X.K f to te) := by
  refine ⟨fun pins s σ H D I h => ?_⟩
  refine plainObj_wpAny_Assign_Attribute (thn (he.run pins s σ H _ I h) fun v s1 hh => ?_) hs
  obtain ⟨y, H1, I1, r1, q1⟩ := hh
  refine thn (ho.run pins s1 σ H1 _ I1 q1) fun u s2 hh => ?_
  obtain ⟨x, H2, I2, r2, a, C, ex, T, ea, q⟩ := hh
  subst ex
  obtain rfl : u = Value.ref a := r2
  exact err_store T I2 ea r1 fun dx s' n ne J => ⟨σ, _, J, q dx n ne⟩
/-- the promise of an error's __init__ -/
def spErr (C : Addr) (f : Str) : Sp := fun vs H Q _ => ∃ (a : Addr) (v : V), vs = [.ref a, v] ∧ H a = some (exo a C none) ∧ ∀ dx, H dx = none → dx ≠ a → Q .non (upd (upd H dx (exd dx [(f, v)])) a (exo a C (some dx)))
theorem pmk_err {x : Str} {C : Addr} {k : Nat} (T : ErrC X.K C f) (F : FnR X.prog X.w X.K X.mg X.base (L2.CX X.prog X.w) k (He.ma X.K C "__init__") (spErr C f)) (hr : Room (k + 1) X.A) (hx : Passes (L2.CX X.prog X.w) X E0) (hg : Gl X x) (hm : X.mg x = some (.ref C)) (ha : PA X [e] ta)
    (hdb : (x == ("__debug__" : Str)) = false := by decide) (he : starEach [e] X.env = (false, eval e X.env) :: starEach [] X.env := by rfl) (hpl : (backTo pos (starEach [] X.env)).any (·.1) = false := by rfl) :
    PMk X (.Call (.Name x p) [e] [] pos) (tMkO C (spErr C f) [] ta) := by
  intro pins s σ H Q I h
  refine wpAny_Call_Name_kw (ld_glob I hg hm ?_ hdb)
  refine PySem.W.callWith_K (h₀ := X.base) I.ok.mod.kin T.kC (thn (ha.run pos pins s σ H _ I h) fun us s1 hh => ?_) he hpl
  obtain ⟨vs, H1, I1, r1, hz, q1⟩ := hh
  refine ⟨I1.kIn, ?_⟩
  show wpAny _ _ (call (.ref C) us) _ _ _
  obtain ⟨nm, N, qn, bs, bm, hdct, sn, sub, ab, col, dd, k0, k1, k2, k3, k5, hC, hT⟩ := PySem.W.excInit_of I1.kIn T.q
  obtain ⟨hp, g, dr, tk, os⟩ := s1
  have grow : ∀ b o, hp.get? b = some o → ((hp.push (PySem.W.kdv_tup us)).push (HandSPX.excO C hp.objs.size)).get? b = some o := fun b o z => Heap.get?_push_of_some _ (Heap.get?_push_of_some _ z)
  have me : ((hp.push (PySem.W.kdv_tup us)).push (HandSPX.excO C hp.objs.size)).get? (hp.objs.size + 1) = some (HandSPX.excO C hp.objs.size) := by heap_get
  have I2 := I1.laid (t' := tk) (a := hp.objs.size + 1) (o := exo (hp.objs.size + 1) C none) grow (Nat.le_succ _) (exo_ok me)
  have hus : us.length ≤ sizeLine := by
    rw [← r1.length, sizeLine_eq]
    omega
  have r2 : Vals (V.ref (hp.objs.size + 1) :: (vs ++ [])) (Value.ref (hp.objs.size + 1) :: us) := .cons rfl (by rw [List.append_nil]; exact r1)
  have run := F _ X.stack ⟨(hp.push (PySem.W.kdv_tup us)).push (HandSPX.excO C hp.objs.size), g, dr, tk, os⟩ _ (.ref (hp.objs.size + 1) :: us) _ _ _ (hr.make C us []) (I2.env0.make C us []) r2 (q1 _ (I1.hok.fresh (Nat.le_succ _)))
  refine wpAny_call (HandSPX.call_own PySem.F.excBase_ArithmeticError hT hC (PySem.W.looks_findIn I1.kIn T.init) (fun self => PySem.W.bind_fn I1.kIn self T.fn) hus (codeAny_mono run fun r s' hq => ?_))
  cases r with
  | error er => exact hx pins σ _ _ er s' I2 hq
  | ok fl =>
    cases fl with
    | ret w =>
      obtain ⟨v, H2, os2, bare2, un2, hok2, rv, ev, d, fs, ea, ed, hd1, q2⟩ := hq
      subst ev
      obtain ⟨h2, g2, d2, t2, os'⟩ := s'
      exact ⟨rv, mk_end (raises_own T.exC T.tyC) I1 (Nat.le_succ _) grow un2 hok2 os2 bare2 ea ed hd1 q2⟩
    | next => exact False.elim hq
    | brk => exact False.elim hq
    | cont => exact False.elim hq
end
end Cu

/-! == XB -/
set_option maxHeartbeats 4000000
namespace Cu
open PySem PySem.Spec PyProof.Rows L2 Evl CuT
/-! ### errors, in readings without a heap -/
section
variable {P : Program} {w : World} {K : PySem.W.Frag} {mg : Str → Option Value} {base : Heap} {x qual : Str} {st : Stmt} {f : Addr} {N ps : List Str} {k : Nat} {S : SD} {d : RS}
/-- what a call lets out leaves the def -/
theorem passE {scp : Scope} {cdv : Value} {A : Around} {outer : List Env} {s : Shared} {H : Hp} {E : XK} : Passes (L2.CX P w) (cxOf (L2.CX P w) P w K mg base N qual scp f cdv A outer s H E) E :=
  passes_call (takes_of rfl rfl rfl rfl) fun _ _ _ _ h => h
/-- a def that may raise, by its body -/
theorem fndx_mk (F : ∃ fd, FunD K x qual (defArgs st) (defBody st) (defScope st) [] [] f fd) (sc : FnScope N ps (defScope st))
    (hb : ∀ (kV doc pm : Value) (an : Option Addr) (cdv ct : Value) (us : List Value), us.length = ps.length → bindArgs (PySem.W.fnOf x qual (defArgs st) (defBody st) (defScope st) .none kV doc pm an cdv ct) ⟨us, []⟩ = pure (ps.zip us))
    (len : ∀ ξ ds ω Φ, S ξ ds ω Φ → ds.length = ps.length)
    (der : ∀ (cdv : Value) (A : Around) (outer : List Env) (s : Shared) (H : Hp) (E : XK), Room k (A.deeper (envOfC qual (defScope st) s.heap.objs.size f cdv)) → DSs (cxOf (L2.CX P w) P w K mg base N qual (defScope st) f cdv A outer s H E) E (defBody st) d)
    (vc : ∀ ξ ds ω Φ, S ξ ds ω Φ → d ξ { nx := fun _ ω' => Φ .non ω', rt := Φ } (startD N ds) ω) : FnD P w K mg base (k + 1) f S := by
  refine fn_mk F sc hb (fun vs H Q E h => ?_) (fun cdv A outer s H vs Q E hr h => ?_)
  · obtain ⟨F, G, ω, ds, Φ, ξ, s, r, h, _⟩ := h
    rw [r.len]
    exact len ξ ds ω Φ h
  · obtain ⟨F, G, ω, ds, Φ, ξ, s', r, h, k', x⟩ := h
    exact ⟨_, der cdv A outer s H E hr, F, G, ω, _, _, ξ, s', start_rep r, vc ξ ds ω Φ h, ⟨fun σ' ρ' ω' G' H' h' e' s' _ => k' .non .non ω' G' H' h' e' s' .non, k', fun _ _ _ _ _ z => z.elim, fun _ _ _ _ _ z => z.elim⟩, x⟩
end
section
variable {X : Cx} {E : XK} {e : Expr} {pos : Pos}
/-- what raises nothing, where something may be raised -/
def dCalm (d : RE) : RE := fun _ ρ ω Φ => d xno ρ ω Φ
theorem de_calm {d : RE} (h : DE X E0 e d) : DE X E e (dCalm d) := de_of h fun σ H Q ⟨F, G, ω, ρ, Φ, ξ, s, r, h, k, _⟩ => ⟨F, G, ω, ρ, Φ, xno, s, r, h, k, XOk.no⟩
def dCalmT (d : RT) : RT := fun _ ρ ω Φ => d xno ρ ω Φ
theorem dt_calm {d : RT} (h : DT X E0 e d) : DT X E e (dCalmT d) := dt_of h fun σ H Q ⟨F, G, ω, ρ, Φ, ξ, s, r, h, k, _⟩ => ⟨F, G, ω, ρ, Φ, xno, s, r, h, k, XOk.no⟩
def dCalmS (d : RS) : RS := fun _ Δ ρ ω => d xno Δ ρ ω
theorem ds_calm {st : Stmt} {d : RS} (h : DS X E0 st d) : DS X E st (dCalmS d) := ds_of h fun D σ H ⟨F, G, ω, ρ, Δ, ξ, s, r, h, k, _⟩ => ⟨F, G, ω, ρ, Δ, xno, s, r, h, k, XOk.no⟩
/-- raise C(e) -/
def dRaise (c f : Str) (da : RA) : RS := fun ξ _ ρ ω => da ξ ρ ω fun xs ω1 => match xs with
  | [x] => ξ c f x ω1
  | _ => False
theorem made_heap {H : Hp} {a C dx : Addr} {f : Str} {v : V} (na : H a = none) (nd : H dx = none) (ne : dx ≠ a) : upd (del (upd (upd (upd H a (exo a C none)) dx (exd dx [(f, v)])) a (exo a C (some dx))) a) dx (.xd [(f, v)]) = upd H dx (.xd [(f, v)]) := by
  funext b
  by_cases hb : b = dx
  · rw [hb, upd_same, upd_same]
  · rw [upd_ne hb, upd_ne hb]
    by_cases hc : b = a
    · rw [hc, del_same, na]
    · rw [del_ne hc, upd_ne hc, upd_ne hb, upd_ne hc]
theorem ds_raise {c f : Str} {p pos2 : Pos} {k : Nat} {da : RA} (hc : X.calm = true) (T : ErrC X.K (He.ga X.K c) f) (F : FnR X.prog X.w X.K X.mg X.base (L2.CX X.prog X.w) k (He.ma X.K (He.ga X.K c) "__init__") (spErr (He.ga X.K c) f)) (hr : Room (k + 1) X.A) (hp : Passes (L2.CX X.prog X.w) X E0) (tk : Takes X fun cls d _ H => E cls d H)
    (hg : Gl X c) (hm : X.mg c = some (.ref (He.ga X.K c))) (ha : DA X E [e] da) (hdb : (c == ("__debug__" : Str)) = false := by decide)
    (he : starEach [e] X.env = (false, eval e X.env) :: starEach [] X.env := by rfl) (hpl : (backTo pos (starEach [] X.env)).any (·.1) = false := by rfl) :
    DS X E (.Raise (some (.Call (.Name c p) [e] [] pos)) none pos2) (dRaise c f da) :=
  ds_of (ps_raise hc tk (pmk_err T F hr hp hg hm ha hdb he hpl)) fun D σ H ⟨F, G, ω, ρ, Δ, ξ, s, r, h, k, x⟩ => low_thenA s r x h fun vs ds ω1 G1 H1 h1 e1 s1 r1 => by
    match ds, r1, h1 with
    | [z], r1, h1 =>
      obtain ⟨v, r2, rfl, h3, h4⟩ := r1.consInv
      cases h4.nilInv
      refine ⟨by simp, fun a na => ⟨a, v, rfl, upd_same, fun dx nd ne => ?_⟩⟩
      rw [upd_ne ne] at nd
      refine ⟨rfl, dx, _, upd_same, by rw [upd_ne ne, upd_same], nd, ?_⟩
      rw [made_heap na nd ne]
      have hG := (s1.freshF nd).2.1
      have ex := Ex.new (o := .xd [(f, v)]) hG
      exact x c f z ω1 _ _ dx v h1 (e1.trans ex) (s1.new trivial nd) upd_same (h3.ext ex)
/-! #### try -/
variable {W : WX}
def lowX (K : PySem.W.Frag) (W : WX) (d : RE) : TE := fun σ H Q => ∃ F G ω ρ Φ ξ, Sim K F G ω H ∧ RepE K G σ ρ ∧ d ξ ρ ω Φ ∧ Kont K F G Φ Q ∧ XOk K F G ξ fun cls dx H' => W cls dx σ H'
/-- a call that may raise, the wish told at the caller's slots -/
def DX (X : Cx) (W : WX) (e : Expr) (d : RE) : Prop := PE X e (lowX X.K W d)
theorem run_fnX {pins : List (Addr × Obj)} {σ : L2.St} {H : Hp} {s : Shared} {k : Nat} {f : Addr} {sp : Sp} {Q : VK} {us : List Value} {vs : List V} (F : FnR X.prog X.w X.K X.mg X.base (L2.CX X.prog X.w) k f sp) (hr : Room k X.A) (tk : Takes X W) (I : Inv X pins σ H s) (r : Vals vs us) (h : sp vs H Q fun cls d H' => W cls d σ H') :
    codeAny (model X.prog X.w) X.A (.call (.ref f) ⟨us, []⟩) (fun r s' => match r with | .ok (.ret v) => EP X pins σ Q v s' | .ok _ => False | .error e => X.xe e s') s := by
  refine codeAny_mono (F X.A X.stack s H us vs Q _ hr I.env0 r h) fun r s' hq => ?_
  match r, hq with
  | .error y, hq => exact tk y s' (XE.of_call I (fun _ _ _ h => h) hq)
  | .ok (.ret u), hq => exact I.after hq
  | .ok .next, hq => exact False.elim hq
  | .ok .brk, hq => exact False.elim hq
  | .ok .cont, hq => exact False.elim hq
def dCallX (S : SD) (da : RA) : RE := fun ξ ρ ω Φ => da xno ρ ω fun ds ω1 => S ξ ds ω1 Φ
theorem dx_call {k : Nat} {f : Addr} {S : SD} {x : Str} {p : Pos} {es : List Expr} {da : RA} (F : FnR X.prog X.w X.K X.mg X.base (L2.CX X.prog X.w) k f (spD X.K S)) (hr : Room k X.A) (hg : Gl X x) (hm : X.mg x = some (.ref f)) (hk : PySem.W.keepIn X.K (.ref f) = true) (tk : Takes X W)
    (ha : DA X E0 (e :: es) da) (hdb : (x == ("__debug__" : Str)) = false := by decide) (he : starEach (e :: es) X.env = (false, eval e X.env) :: starEach es X.env := by rfl) (hpl : (backTo pos (starEach es X.env)).any (·.1) = false := by rfl) : DX X W (.Call (.Name x p) (e :: es) [] pos) (dCallX S da) := by
  refine ⟨fun pins s σ H Q I h => ?_⟩
  obtain ⟨F', G, ω, ρ, Φ, ξ, sm, r, h, kk, x'⟩ := h
  refine wpAny_Call_Name_kw (ld_glob I hg hm ?_ hdb)
  refine PySem.W.callWith_K (h₀ := X.base) I.ok.mod.kin hk (thn (ha.run pos pins s σ H (fun vs H1 => spD X.K S vs H1 Q fun cls d H' => W cls d σ H') I (low_thenA sm r XOk.no h fun vs ds ω1 G1 H1 h1 e1 s1 r1 => ⟨F', G1, ω1, ds, Φ, ξ, s1, r1, h1, kk.mono e1, x'.mono e1⟩)) fun us s1 hh => ?_) he hpl
  obtain ⟨vs, H1, I1, r1, q1⟩ := hh
  exact ⟨I1.kIn, wpAny_call (run_fnX F hr tk I1 r1 q1)⟩
def dMethX (c m : Str) (S : SD) (d : RE) : RE := fun ξ ρ ω Φ => d xno ρ ω fun x ω1 => match x with
  | .mref a => (match ω1 a with
    | some (.ins c' fs) => c' = c ∧ fs.lookup m = none ∧ S ξ [.mref a] ω1 Φ
    | _ => False)
  | _ => False
theorem dx_meth0 {k : Nat} {f : Addr} {S : SD} {c m : Str} {apos : Pos} {o : Expr} {d : RE} {pl : Sem Bool} (he : DE X E0 o d) (hc : Cls X.K (He.ga X.K c)) (hm : Meth X.K (He.ga X.K c) m f) (F : FnR X.prog X.w X.K X.mg X.base (L2.CX X.prog X.w) k f (spD X.K S)) (hr : Room k X.A) (tk : Takes X W)
    (ht : eval (.Call (.Attribute o m apos) [] [] pos) X.env = (do
      let ov ← eval o X.env
      standAt apos.atName
      let (f, first) ← holding [ov] (getMethod ov m pl)
      callWith pos f first (backTo pos (starEach [] X.env)) (backToKw pos (keywordEach [] X.env))) := by rfl) : DX X W (.Call (.Attribute o m apos) [] [] pos) (dMethX c m S d) := by
  refine ⟨fun pins s σ H Q I h => ?_⟩
  obtain ⟨F', G, ω, ρ, Φ, ξ, sm, r, h, kk, x'⟩ := h
  refine PySem.W.methodCall_KW (pl := pl) (thn (he.run pins s σ H (fun x H1 => ∃ (a dx : Addr) (fs : List (Str × V)), x = .ref a ∧ H1 a = some (.ins (He.ga X.K c) dx fs) ∧ fs.lookup m = none ∧ spD X.K S [.ref a] H1 Q fun cls d H' => W cls d σ H') I (low_then sm r XOk.no h fun v z ω1 G1 H1 h1 e1 s1 r1 => ?_)) fun u s1 hh => ?_) ht
  · cases z with
    | mref a =>
      obtain ⟨c', fs, ha, rfl, hl, h1⟩ := omI h1
      obtain ⟨dx, fvs, i1, i2, i3, i4⟩ := s1.isI ha
      cases r1.invM
      exact ⟨a, dx, fvs, rfl, i1, (lookup_rep fvs fs i3 i4).2 hl, F', G1, ω1, _, Φ, ξ, s1, .cons .mref .nil, h1, kk.mono e1, x'.mono e1⟩
    | _ => exact h1.elim
  · obtain ⟨v, H1, I1, rx, a, dx, fs, ev, ea, l, q⟩ := hh
    subst ev
    obtain rfl : u = Value.ref a := rx
    refine getmeth_ok I1 ea hc hm l ?_
    exact PySem.W.callWith_K0 (first := [.ref a]) I1.kIn hm.kp (wpAny_call (run_fnX (us := [.ref a]) (vs := [.ref a]) F hr tk I1 (.cons rfl .nil) q))
/-- try: y = e / except C as n: suite; cs: which errors C catches -/
def dTryA (cs : List (Str × Bool)) (i j : Nat) (dc : RE) (dh : Addr → Addr → Str → RS) : RS := fun _ Δ ρ ω => dc (fun c nm x ω' => cs.lookup c = some true ∧ ∀ a dx, dh a dx c xno { nx := fun ρ' ω' => Δ.nx (ρ'.set j none) ω', rt := Δ.rt, bk := fun ρ' ω' => Δ.bk (ρ'.set j none) ω', ct := fun ρ' ω' => Δ.ct (ρ'.set j none) ω' } (ρ.set j (some (.exc a dx c nm x))) ω') ρ ω fun v ω' => Δ.nx (ρ.set i (some v)) ω'
/-- try: e / except C as n: suite -/
def dTryE (cs : List (Str × Bool)) (j : Nat) (dc : RE) (dh : Addr → Addr → Str → RS) : RS := fun _ Δ ρ ω => dc (fun c nm x ω' => cs.lookup c = some true ∧ ∀ a dx, dh a dx c xno { nx := fun ρ' ω' => Δ.nx (ρ'.set j none) ω', rt := Δ.rt, bk := fun ρ' ω' => Δ.bk (ρ'.set j none) ω', ct := fun ρ' ω' => Δ.ct (ρ'.set j none) ω' } (ρ.set j (some (.exc a dx c nm x))) ω') ρ ω fun _ ω' => Δ.nx ρ ω'
theorem ends_clr {K : PySem.W.Frag} {F G : Hp} {Δ : EndsD} {D : Ends} {j : Nat} (k : EndsOk K F G Δ D) : EndsOk K F G { nx := fun ρ' ω' => Δ.nx (ρ'.set j none) ω', rt := Δ.rt, bk := fun ρ' ω' => Δ.bk (ρ'.set j none) ω', ct := fun ρ' ω' => Δ.ct (ρ'.set j none) ω' } { nx := fun σ' H' => D.nx (σ'.set j none) H', rt := D.rt, bk := fun σ' H' => D.bk (σ'.set j none) H', ct := fun σ' H' => D.ct (σ'.set j none) H' } :=
  ⟨fun σ' ρ' ω' G' H' h e s r => k.nx _ _ ω' G' H' h e s (r.clr j), k.rt, fun σ' ρ' ω' G' H' h e s r => k.bk _ _ ω' G' H' h e s (r.clr j), fun σ' ρ' ω' G' H' h e s r => k.ct _ _ ω' G' H' h e s (r.clr j)⟩
def tHand (K : PySem.W.Frag) (dh : Addr → Addr → Str → RS) : Addr → Value → Option Addr → TS := fun a cls d D σ H => ∃ (c : Str) (dx : Addr), cls = .ref (He.ga K c) ∧ d = some dx ∧ lowS K E0 (dh a dx c) D σ H
theorem hand_ok {cs : List (Str × Bool)} {C : Value} {j : Nat} {dh : Addr → Addr → Str → RS} {F G : Hp} {Δ : EndsD} {D : Ends} {σ : L2.St} {ρ : EnvD} (xm : ∀ c b, cs.lookup c = some b → PySem.W.exmOne X.K (.ref (He.ga X.K c)) C = some b) (r : RepE X.K G σ ρ) (k : EndsOk X.K F G Δ D) :
    XOk X.K F G (fun c nm x ω' => cs.lookup c = some true ∧ ∀ a dx, dh a dx c xno { nx := fun ρ' ω' => Δ.nx (ρ'.set j none) ω', rt := Δ.rt, bk := fun ρ' ω' => Δ.bk (ρ'.set j none) ω', ct := fun ρ' ω' => Δ.ct (ρ'.set j none) ω' } (ρ.set j (some (.exc a dx c nm x))) ω') fun cls dx H' => wAs X.K C j (tHand X.K dh) (fun _ _ _ _ => False) D cls dx σ H' := by
  intro c nm x ω' G' H' dx v hh e s hd rv
  refine ⟨true, xm c true hh.1, fun _ a na => ⟨c, dx, rfl, rfl, F, G', ω', _, _, xno, s, (r.ext e).set (.exc hd rv) j, hh.2 a dx, ends_clr (k.mono e), XOk.no⟩, fun z => nomatch z⟩
theorem ds_tryA {c n y : Str} {cs : List (Str × Bool)} {i j : Nat} {dc : RE} {dh : Addr → Addr → Str → RS} {b₀ : Stmt} {suite : List Stmt} {yp np pos' ap : Pos} (hs : X.stack = X.env :: X.outer) (hf : X.env.frame = some X.env.locals) (hN : X.N.Nodup) (hj : X.N[j]? = some n) (hln : X.env.kindOf n = some .local) (hc : Names X c (.ref (He.ga X.K c))) (xm : ∀ c' b, cs.lookup c' = some b → PySem.W.exmOne X.K (.ref (He.ga X.K c')) (.ref (He.ga X.K c)) = some b)
    (hi : X.N[i]? = some y) (hly : Loc X.env.scope y)
    (hb : ∀ (W : WX) (pn : List (Addr × Obj)) (xe : Value → Shared → Prop), Takes (X.tr pn xe) W → DX (X.tr pn xe) W e dc)
    (hsu : ∀ (a dx : Addr) (c' : Str) (oe : Obj) (pn : List (Addr × Obj)), Zc (.ref (He.ga X.K c')) (some dx) oe → (∃ vs, oe.data = .fields vs) → DSs (X.suite a ((a, oe) :: pn)) E0 (b₀ :: suite) (dh a dx c'))
    (hsw : swapsWith e (some (.Name y yp)) ap.line X.env = pure false := by rfl) (hfy : X.fn y = true ∨ X.env.scope.names.lookup y = some .local := by first | exact .inl rfl | exact .inr rfl | assumption) :
    DS X E0 (.Try [.Assign [.Name y yp] e ap] [.ExceptHandler (some (.Name c np)) (some n) (b₀ :: suite) pos'] [] [] pos) (dTryA cs i j dc dh) := by
  refine ds_of (ps_try_as (i := j) (c := .ref (He.ga X.K c)) (tb := fun W => tAsg (lowX X.K W dc) (gName i)) (ts := tHand X.K dh) (Wout := fun _ _ _ _ => False) hs hf hN hj hln hc takes0 (fun W pn xe tk _ => pss_one (ps_set (X := X.tr pn xe) hN hi hly (hb W pn xe tk) hsw hfy)) (fun a oe cls d pn hz hv => ?_)) (fun D σ H h => ?_)
  · refine ⟨fun pins s σ H D I h => ?_⟩
    obtain ⟨c', dx, rfl, rfl, h⟩ := h
    exact (hsu a dx c' oe pn hz hv).run pins s σ H D I h
  · obtain ⟨F, G, ω, ρ, Δ, ξ, s, r, h, k, _⟩ := h
    exact ⟨F, G, ω, ρ, _, _, s, r, h, fun v z ω' G' H' h' e' s' r' => k.nx _ _ ω' G' H' h' e' s' ((r.ext e').set r' i), hand_ok xm r k⟩
/-- n.f, n what an except clause caught -/
def dErrF (a dx : Addr) (c : Str) (cs : List Str) (f : Str) (d : RE) : RE := fun ξ ρ ω Φ => d ξ ρ ω fun z ω1 => match z with
  | .exc a' dx' c' nm x => a' = a ∧ dx' = dx ∧ c' = c ∧ c ∈ cs ∧ nm = f ∧ Φ x ω1
  | _ => False
theorem invX {K : PySem.W.Frag} {G : Hp} {v : V} {a dx : Addr} {c nm : Str} {x : D} (r : Rep K G v (.exc a dx c nm x)) : v = .ref a ∧ ∃ u, G dx = some (.xd [(nm, u)]) ∧ Rep K G u x := by
  cases r with
  | exc h s => exact ⟨rfl, _, h, s⟩
theorem de_errF {a dx : Addr} {c f : Str} {cs : List Str} {oe : Obj} {pn : List (Addr × Obj)} {d : RE} (hT : ∀ c0 ∈ cs, ErrC X.K (He.ga X.K c0) f) (hz : Zc (.ref (He.ga X.K c)) (some dx) oe) (hf : ∃ vs, oe.data = .fields vs) (he : DE (X.suite a ((a, oe) :: pn)) E0 e d)
    (hb : attributeBase e f X.env (eval e X.env) = eval e X.env := by rfl) : DE (X.suite a ((a, oe) :: pn)) E0 (.Attribute e f pos) (dErrF a dx c cs f d) := by
  refine ⟨fun pins s σ H Q I h => ?_⟩
  obtain ⟨F, G, ω, ρ, Φ, ξ, sm, r, h, kk, x'⟩ := h
  refine attr_of hb (thn (he.run pins s σ H (fun v H1 => v = .ref a ∧ c ∈ cs ∧ ∃ u, H1 dx = some (.xd [(f, u)]) ∧ Q u H1) I (low_then sm r x' h fun v z ω1 G1 H1 h1 e1 s1 r1 => ?_)) fun u s1 hh => ?_)
  · cases z with
    | exc a' dx' c' nm x =>
      obtain ⟨rfl, rfl, rfl, hc, rfl, h1⟩ := h1
      obtain ⟨rfl, y, hd, ry⟩ := invX r1
      exact ⟨rfl, hc, y, s1.exG _ _ hd, kk _ _ _ _ _ h1 e1 s1 ry⟩
    | _ => exact h1.elim
  · obtain ⟨v, H1, I1, rv, ev, hc, y, hd, q⟩ := hh
    subst ev
    obtain rfl : u = Value.ref a := rv
    have T := hT c hc
    obtain ⟨ha, _⟩ := I1.pin (a, oe) (List.mem_append_left _ List.mem_cons_self)
    obtain ⟨vs, hv⟩ := hf
    have own : ObjOk X.prog X.w H1 s1.heap dx (.xd [(f, y)]) := I1.hok dx _ hd
    obtain ⟨mA, hns, hr⟩ := own
    obtain ⟨od, ho, hl⟩ := lookIn_ns hns
    have first : List.lookup f [(f, y)] = some y := by simp [List.lookup]
    obtain ⟨w, hw, rw'⟩ := RelO.some_of (v := y) (o := mA f) (by rw [← first]; exact hr f)
    have J : PySem.W.InstAt s1.heap a oe (He.ga X.K c) (some od) := ⟨ha, hz.1, by unfold PySem.W.notCls; rw [hv] <;> rfl, by rw [hz.2]; exact ho⟩
    exact HandSPX.exc_get I1.kIn J T.ga T.gg T.exC (PySem.W.findObj_own T.hd T.no rfl (by rw [hl, hw])) (handed_of rw') ⟨y, H1, I1.tok _, rw', q⟩
/-- of a list's pairs -/
theorem look_all {β : Type} {l : List (Str × β)} {P : Str → β → Prop} (h : ∀ q ∈ l, P q.1 q.2) (c : Str) (b : β) (e : l.lookup c = some b) : P c b := h (c, b) (PySem.mem_of_lookup e)
end
end Cu

/-! == XE -/
set_option maxHeartbeats 4000000
namespace Cu
open PySem PySem.Spec PyProof.Rows L2 Evl CuT
/-! ### the program's errors -/
theorem _root_.CuT.Txt.err_InvalidCut {K : PySem.W.Frag} {mg : Str → Option Value} (T : Txt K mg) : Cu.ErrC K (He.ga K "InvalidCut") "cut" := ⟨T.eq_InvalidCut, T.eov_InvalidCut, T.esa_InvalidCut, T.ega_InvalidCut, T.egg_InvalidCut, T.eno_InvalidCut, T.einit_InvalidCut, T.efn_InvalidCut, T.ekC_InvalidCut, T.eexC_InvalidCut, T.etyC_InvalidCut, T.ehd_InvalidCut⟩
theorem baseC_of {K : PySem.W.Frag} {mg : Str → Option Value} (T : Txt K mg) : BaseC K (He.ga K "CutError") := ⟨T.be_rd, T.be_sp, by
  have h := T.be_at
  unfold cutInit at h
  split at h
  · rename_i n e
    rw [beq_iff_eq.mp h] at e
    exact e
  · cases h⟩
section
variable {P : Program} {w : World} {K : PySem.W.Frag} {mg : Str → Option Value} {base : Heap}
abbrev N_InvalidCut_init : List Str := ["self", "cut"]
theorem sc_InvalidCut_init : FnScope N_InvalidCut_init ["self", "cut"] (defScope s_InvalidCut_init) := ⟨rfl, rfl, rfl, by decide +kernel, rfl, by decide +kernel, by decide +kernel⟩

theorem fe_InvalidCut (T : Txt K mg) : FnR P w K mg base (L2.CX P w) 1 (He.ma K (He.ga K "InvalidCut") "__init__") (spErr (He.ga K "InvalidCut") "cut") := by
  refine fn_mk T.f_InvalidCut_init sc_InvalidCut_init (fun _ _ _ _ _ _ us hl => match us, hl with | [_, _], _ => rfl) (fun vs H Q E h => ?_) (fun cdv A outer s H vs Q E hr h => ?_)
  · obtain ⟨a, v, rfl, _⟩ := h
    rfl
  · obtain ⟨a, v, rfl, ha, q⟩ := h
    refine ⟨_, pss_cons (ps_expr (pe_errI rfl T.g_CutError (baseC_of T) (pa_cons (pv 0) (pa_cons pe_str pa_nil)))) (pss_one (ps_errS (pv 0) (pv 1))), ?_⟩
    exact ⟨.ref a, rfl, a, He.ga K "InvalidCut", "cut", [_], rfl, by decide, T.err_InvalidCut, ha, v, rfl, .ref a, rfl, a, He.ga K "InvalidCut", rfl, T.err_InvalidCut, ha, fun dx hd ne => q dx hd ne⟩
end
end Cu

/-! == TryW -/
set_option maxHeartbeats 4000000
namespace Cu
open PySem PySem.Spec PyProof.Rows L2 Evl CuT
/-! ### try with further clauses, which are not reached -/
section
variable {M : Model} {Γ : PySem.Ctx}
theorem wp_strict {α : Type} (t : Sem α) : ∀ (p : Pos) (s : Shared), ¬ Sem.wp M Γ t (fun _ _ _ => False) (fun _ _ _ => False) p s := by
  induction t with
  | call c h g l k ih =>
    intro p s hw
    simp only [Sem.wp] at hw
    obtain ⟨r, s', _, hR⟩ := hw
    exact ih r p s' hR
  | _ =>
    intro p s hw
    simp only [Sem.wp] at hw
    try first
      | exact hw
      | (rename_i ih; exact ih _ _ _ hw)
      | (rename_i ih; exact ih _ _ _ hw.2)
      | (rename_i ih; obtain ⟨_, _, hw⟩ := hw; exact ih _ _ _ hw)
      | (rename_i ih; obtain ⟨_, _, _, hw⟩ := hw; exact ih _ _ _ hw)
theorem pass_no {α : Type} {what : String} {e : Value} {env : Env} {Q : α → Pos → Shared → Prop} {p : Pos} {s : Shared} (h : Sem.wp M Γ (PySem.passOn what e env) Q (fun _ _ _ => False) p s) : False := by
  unfold PySem.passOn at h
  simp only [Sem.wp_bind'] at h
  refine wp_strict _ p s (Sem.wp_mono _ _ _ (fun v p1 s1 h1 => ?_) (fun _ _ _ z => z) p s h)
  split at h1
  · simp only [Sem.wp_bind'] at h1
    exact h1
  · simp only [Sem.wp_bind'] at h1
    exact wp_strict _ p1 s1 (Sem.wp_mono _ _ _ (fun v p2 s2 h2 => h2) (fun _ _ _ z => z) p1 s1 h1)
theorem handle_more {e : Value} {env : Env} {h₀ : ExceptHandler} {rest : List ExceptHandler} {Q : Flow → Pos → Shared → Prop} {p : Pos} {s : Shared} (h : Sem.wp M Γ (handleBy e env [h₀]) Q (fun _ _ _ => False) p s) : Sem.wp M Γ (handleBy e env (h₀ :: rest)) Q (fun _ _ _ => False) p s := by
  cases h₀ with
  | ExceptHandler type name body pos =>
    have key : ∀ {T : Sem Bool} {R : Sem Flow}, Sem.wp M Γ (do
        let hit ← T
        if (!hit) = true then handleBy e env [] else R) Q (fun _ _ _ => False) p s → Sem.wp M Γ (do
        let hit ← T
        if (!hit) = true then handleBy e env rest else R) Q (fun _ _ _ => False) p s := fun {T R} h => by
      simp only [Sem.wp_bind'] at h ⊢
      refine Sem.wp_mono _ _ _ (fun hit p1 s1 h1 => ?_) (fun _ _ _ z => z) p s h
      cases hit with
      | true => exact h1
      | false =>
        rw [if_pos (show (!false) = true from rfl)] at h1
        unfold handleBy at h1
        exact (pass_no h1).elim
    unfold handleBy at h ⊢
    cases type with
    | none => exact key h
    | some t =>
      simp at h ⊢
      refine Sem.wp_mono _ _ _ (fun x p1 s1 h1 => ?_) (fun _ _ _ z => z) p s h
      cases x with
      | brk => exact h1
      | _ =>
        unfold handleBy at h1
        exact (pass_no h1).elim
theorem try_more {A : Around} {prog : Program} {w : World} {Q : Flow → Shared → Prop} {s : Shared} {body orelse : List Stmt} {h₀ : ExceptHandler} {rest : List ExceptHandler} {pos : Pos} {env : Env} (h : wpAny (model prog w) A (exec (.Try body [h₀] orelse [] pos) env) Q (fun _ _ => False) s) : wpAny (model prog w) A (exec (.Try body (h₀ :: rest) orelse [] pos) env) Q (fun _ _ => False) s := by
  intro Γ p hΓ
  have h := h Γ p hΓ
  rw [arm_exec_Try] at h ⊢
  unfold tryStmt at h ⊢
  simp only [Sem.wp_bind', List.isEmpty_nil, List.isEmpty_cons, if_true, Bool.false_and, Bool.false_eq_true, if_false] at h ⊢
  refine Sem.wp_mono _ _ _ (fun _ p1 s1 h1 => ?_) (fun _ _ _ z => z) p s h
  refine Sem.wp_mono _ _ _ (fun x p2 s2 h2 => ?_) (fun _ _ _ z => z) p1 s1 h1
  cases x with
  | ok f => cases f <;> exact h2
  | error y =>
    simp only [Sem.wp_bind'] at h2 ⊢
    refine Sem.wp_mono _ _ _ (fun _ p3 s3 h3 => ?_) (fun _ _ _ z => z) p2 s2 h2
    refine Sem.wp_mono _ _ _ (fun _ p4 s4 h4 => ?_) (fun _ _ _ z => z) p3 s3 h3
    exact handle_more h4
theorem ps_more {X : Cx} {t : TS} {body : List Stmt} {h₀ : ExceptHandler} {rest : List ExceptHandler} {pos : Pos} (h : PS X.nox (.Try body [h₀] [] [] pos) t) : PS X (.Try body (h₀ :: rest) [] [] pos) t := ⟨fun pins s σ H D I hw =>
  wpAny_mono (try_more (h.run pins s σ H D (I.wish _) hw)) (fun _ _ q => q.unwish) fun _ _ z => False.elim z⟩
end
end Cu

/-! == OddR -/
set_option maxHeartbeats 4000000
namespace Cu
open PySem PySem.Spec PyProof.Rows L2 Evl CuT
/-! ### repr, by what stands on the stack -/
section
variable {prog : Program} {w : World} {A : Around} {E : Value → Shared → Prop} {s : Shared} {a : Addr} {o : Obj} {g : List Code}
/-- the list's own text is being made -/
def listHit (g : List Code) (a : Addr) : Prop := ∃ v rest kw, Code.builtin "list.__repr__.loop" ⟨v :: rest, kw⟩ ∈ g ∧ Builtin.List.listSameRef v (.ref a) = true
open Classical in
noncomputable def txtL (g : List Code) (a : Addr) (n : Int) : Str := if listHit g a then "[...]" else listText [toString n]
def txtT (g : List Code) (a : Addr) (n : Int) : Str := if (g.any fun c => tupGuardF (.ref a) (c, default)) = true then "(...)" else tupleText [toString n]
def txtE (g : List Code) (a : Addr) : Str := if (g.any fun c => dictGuardF (.ref a) (c, default)) = true then "{...}" else "{}"
def ShortI (n : Int) : Prop := n.natAbs.log2 < 1920 ∧ (listText [Str.ofString (toString n)]).length ≤ sizeLine ∧ (tupleText [Str.ofString (toString n)]).length ≤ sizeLine
theorem list_hit {c : Code} {Q : Fin → Shared → Prop} {x : Value} {l : List Value} {n b : Nat} (hg : A.guards = some g) (hh : listHit g a)
    (hget : s.heap.get? a = some o) (hd : o.data = .seq (x :: l).toArray n) (h : Q (.done (.ret (.str "[...]" s.toks))) { s with toks := s.toks + 1 }) : wpOwn (model prog w) A c (Builtin.listReprAt b ⟨[.ref a], []⟩) Q E s := by
  intro Γ p hc hΓ
  obtain ⟨v, rest, kw, hm, hs⟩ := hh
  rw [← hΓ.2.2.2.1 g hg] at hm
  obtain ⟨q, hq, e⟩ : ∃ q ∈ Γ.below, q.1 = Code.builtin "list.__repr__.loop" ⟨v :: rest, kw⟩ := by
    unfold guardsOf at hm
    obtain ⟨h1, _⟩ := List.mem_filter.mp hm
    obtain ⟨q, hq, e⟩ := List.mem_map.mp h1
    exact ⟨q, hq, e⟩
  unfold Builtin.listReprAt
  simp [slotArgs, Builtin.List.listItems, seqItems?, Sem.wp_load_of (h := hget), hd, stack]
  show Sem.wp _ Γ (if (Γ.below.any _) = true then _ else _) _ _ p s
  rw [if_pos]
  · simp [rule, retStr, ret]
    exact h
  · refine List.any_eq_true.mpr ⟨q, hq, ?_⟩
    obtain ⟨c1, p1⟩ := q
    cases e
    exact hs
theorem call_list_txt {Q : Value → Shared → Prop} {t : Tok} {n : Int} {m : Nat} (hg : A.guards = some g) (hTy : s.TypeIs (.ref a) "list") (ha : s.heap.get? a = some o) (hd : o.data = .seq #[.int n t] m) (sh : ShortI n)
    (hQ : ∀ h' u tk, (∀ b o, s.heap.get? b = some o → h'.get? b = some o) → Q (.str (txtL g a n) u) { s with heap := h', toks := tk }) : wpAny (model prog w) A (call (.builtin "list.__repr__") [.ref a]) Q E s := by
  have hd' : o.data = .seq (Value.int n t :: []).toArray m := hd
  unfold txtL at hQ
  by_cases hh : listHit g a
  · simp only [if_pos hh] at hQ
    refine wpAny_call (codeAny_call_builtin_own (Code.quiet_builtin _ (by decide +kernel)) F.entry_list_repr (F.slot_list_repr.check _ _ _ _ _ _ _ _ hTy (F.args_list_repr_1 _) (list_hit (b := 0) hg hh ha hd' ?_)))
    exact hQ s.heap s.toks _ fun _ _ q => q
  · simp only [if_neg hh] at hQ
    refine call_list_repr hTy hg (fun v rest kw hm => ?_) ha hd' rfl (fun i y hy => ?_) hQ sh.2.1
    · cases z : Builtin.List.listSameRef v (.ref a) with
      | false => rfl
      | true => exact absurd ⟨v, rest, kw, hm, z⟩ hh
    · match i, hy with
      | 0, hy =>
        cases hy
        exact ⟨_, rfl, ReprIs.int t sh.1⟩
theorem call_tuple_txt {Q : Value → Shared → Prop} {t : Tok} {n : Int} {m : Nat} (hg : A.guards = some g) (hTy : s.TypeIs (.ref a) "tuple") (ha : s.heap.get? a = some o) (hd : o.data = .seq #[.int n t] m) (sh : ShortI n)
    (hQ : ∀ u tk, Q (.str (txtT g a n) u) { s with toks := tk }) : wpAny (model prog w) A (call (.builtin "tuple.__repr__") [.ref a]) Q E s := by
  unfold txtT at hQ
  by_cases hh : (g.any fun c => tupGuardF (.ref a) (c, default)) = true
  · simp only [if_pos hh] at hQ
    refine wpAny_call (codeAny_call_builtin_own (Code.quiet_builtin _ (by decide +kernel)) F.entry_tuple_repr (F.slot_tuple_repr.check _ _ _ _ _ _ _ _ hTy (F.args_tuple_repr_1 _) ?_))
    show wpOwn _ _ _ (Builtin.tupleReprAt 0 ⟨[.ref a], []⟩) _ _ s
    rw [tuple_repr_tree, tupleReprUnderWay_eq]
    refine wpOwn_bind (wpOwn_stackTailAny hg (tupGuardF_off _) (tupGuardF_pos _) ?_)
    rw [hh]
    refine wpOwn_of_wpAny fun Γ p hΓ => ?_
    simp [rule, retStr, ret]
    exact hQ _ _
  · simp only [if_neg hh] at hQ
    refine call_tuple_repr hTy hg (fun c hc => ?_) ha hd (.cons (ReprIs.int t sh.1) .nil) hQ sh.2.2
    cases z : tupGuardF (.ref a) (c, default) with
    | false => rfl
    | true => exact absurd (List.any_eq_true.mpr ⟨c, hc, z⟩) hh
theorem call_dict_txt {Q : Value → Shared → Prop} {m : Nat} (hg : A.guards = some g) (hTy : s.TypeIs (.ref a) "dict") (ha : s.heap.get? a = some o) (hsys : (a == sysModules) = false) (hd : o.data = .dict #[] m)
    (hQ : ∀ u tk, Q (.str (txtE g a) u) { s with toks := tk }) : wpAny (model prog w) A (call (.builtin "dict.__repr__") [.ref a]) Q E s := by
  unfold txtE at hQ
  refine wpAny_call (codeAny_call_builtin_own (Code.quiet_builtin _ (by decide +kernel)) F.entry_dict_repr (F.slot_dict_repr.check _ _ _ _ _ _ _ _ hTy (F.args_dict_repr_1 _) ?_))
  show wpOwn _ _ _ (Builtin.dictReprAt 0 ⟨[.ref a], []⟩) _ _ s
  unfold Builtin.dictReprAt
  refine wpOwn_bind (wpOwn_of_wpAny ?_)
  unfold Builtin.Dict.dictSlotNone
  refine wpAny_bind (wpAny_notOrdered_dict hTy ?_)
  show wpAny _ _ (pure (Value.ref a)) _ _ s
  refine wpAny_pure ?_
  rw [dictReprRunning_eq]
  refine wpOwn_bind (wpOwn_stackTailAny hg (dictGuardF_off _) (dictGuardF_pos _) ?_)
  by_cases hh : (g.any fun c => dictGuardF (.ref a) (c, default)) = true
  · simp only [if_pos hh] at hQ
    rw [hh]
    refine wpOwn_of_wpAny fun Γ p hΓ => ?_
    simp [rule, retStr, ret]
    exact hQ _ _
  · simp only [if_neg hh] at hQ
    have hn : (g.any fun c => dictGuardF (.ref a) (c, default)) = false := by
      cases z : g.any fun c => dictGuardF (.ref a) (c, default) with
      | false => rfl
      | true => exact absurd z hh
    rw [hn]
    refine wpOwn_of_wpAny ?_
    show wpAny _ _ (Builtin.Dict.addrOf (.ref a) >>= _) _ _ s
    refine wpAny_bind (wpAny_pure ?_)
    show wpAny _ _ (Builtin.Dict.showsAll a >>= _) _ _ s
    unfold Builtin.Dict.showsAll
    rw [if_neg (by rw [hsys]; exact Bool.false_ne_true)]
    refine wpAny_bind (wpAny_pure ?_)
    refine wpAny_bind (wpAny_dictEpoch ha hd ?_)
    refine wpAny_bind (wpAny_dictEntries ha hd ?_)
    have e0 : (#[] : Array DictEntry).size = 0 := rfl
    rw [e0]
    refine wpAny_bind ?_
    rw [Std.Legacy.Range.forIn_eq_forIn_range']
    simp only [Std.Legacy.Range.size, Nat.sub_zero, Nat.add_sub_cancel, Nat.div_one, List.range'_zero, List.forIn_nil]
    refine wpAny_pure ?_
    intro Γ p hΓ
    simp [retStr, ret]
    exact hQ _ _
end
section
variable {X : Cx} {E : XK} {g : List Code}
def rReprO (g : List Code) : List V → Hp → VK → Prop := fun xs H Q => ∃ x, xs = [x] ∧ ((x = .non ∧ Q (.str "None") H) ∨ (∃ b : Bool, x = .bl b ∧ Q (.str (if b then "True" else "False")) H) ∨ (∃ i : Int, x = .int i ∧ i.natAbs.log2 < 1920 ∧ Q (.str (toString i)) H) ∨ (∃ y : Str, x = .str y ∧ (reprText y).length ≤ sizeLine ∧ Q (.str (reprText y)) H) ∨
  (∃ (a : Addr) (n : Int), x = .ref a ∧ H a = some (.lst [.int n]) ∧ ShortI n ∧ Q (.str (txtL g a n)) H) ∨ (∃ (a : Addr) (n : Int), x = .ref a ∧ H a = some (.tup [.int n]) ∧ ShortI n ∧ Q (.str (txtT g a n)) H) ∨ (∃ a : Addr, x = .ref a ∧ H a = some (.dT []) ∧ Q (.str (txtE g a)) H))
theorem call_reprO (hg : X.A.guards = some g) (hu : X.A.units + 64 < cLine) : CallR X (.builtin "repr") (rReprO g) := by
  intro pins s σ H xs us Q I r h
  obtain ⟨x, rfl, h⟩ := h
  rcases h with ⟨rfl, q⟩ | ⟨b, rfl, q⟩ | ⟨i, rfl, hi, q⟩ | ⟨y, rfl, hy, q⟩ | ⟨a, n, rfl, ha, sh, q⟩ | ⟨a, n, rfl, ha, sh, q⟩ | ⟨a, rfl, ha, q⟩
  · obtain ⟨u, rfl, rfl⟩ := vals1 r
    exact PySem.P.repr_of_none ⟨.str _, H, I.tok _, ⟨_, rfl⟩, q⟩
  · obtain ⟨u, rfl, rfl⟩ := vals1 r
    exact PySem.P.repr_of_bool ⟨.str _, H, I.tok _, ⟨_, rfl⟩, q⟩
  · obtain ⟨u, rfl, t, rfl⟩ := vals1 r
    exact PySem.P.repr_of_int hi ⟨.str _, H, I.tok _, ⟨_, rfl⟩, q⟩
  · obtain ⟨u, rfl, t, rfl⟩ := vals1 r
    exact PySem.P.repr_of_str ⟨.str _, H, I.tok _, ⟨_, rfl⟩, q⟩ hy
  · obtain ⟨u, rfl, rfl⟩ := vals1 r
    obtain ⟨_, us, m, rv, ho⟩ := I.hok a _ ha
    obtain ⟨x1, rfl, t, rfl⟩ := vals1 rv
    exact call_repr_slot (by omega) ⟨_, ho, rfl⟩ PySem.F.slot_list_repr.toG (call_list_txt (A := X.A.in1) hg ⟨_, ho, rfl⟩ ho rfl sh fun h' u tk k => ⟨_, _, rfl, .str _, H, I.kept k, ⟨_, rfl⟩, q⟩)
  · obtain ⟨u, rfl, rfl⟩ := vals1 r
    have ho := I.hok a _ ha
    obtain ⟨_, us, rv, o, h1, h2, m, h3⟩ := ho
    obtain ⟨x1, rfl, t, rfl⟩ := vals1 rv
    exact call_repr_slot (by omega) ⟨_, h1, h2⟩ PySem.F.slot_tuple_repr (call_tuple_txt (A := X.A.in1) hg ⟨_, h1, h2⟩ h1 h3 sh fun u tk => ⟨_, _, rfl, .str _, H, I.tok _, ⟨_, rfl⟩, q⟩)
  · obtain ⟨u, rfl, rfl⟩ := vals1 r
    have ho := I.hok a _ ha
    obtain ⟨_, hsys, xs, pr, o, es, ep, h1, hex, hdat, hes, _⟩ := ho
    cases pr
    have e0 : es = #[] := by
      cases es with
      | mk l =>
        have : l = [] := hes
        rw [this]
    rw [e0] at hdat
    exact call_repr_slot (by omega) ⟨_, h1, hex.1⟩ PySem.F.slot_dict_repr (call_dict_txt (A := X.A.in1) hg ⟨_, h1, hex.1⟩ h1 hsys hdat fun u tk => ⟨_, _, rfl, .str _, H, I.tok _, ⟨_, rfl⟩, q⟩)
end
end Cu

/-! == OddD -/
set_option maxHeartbeats 4000000
namespace Cu
open PySem PySem.Spec PyProof.Rows L2 Evl CuT
/-! ### values that are no cuts, by data: repr, isinstance; what stands on the stack; try: e / except .. -/
section
variable {X : Cx} {E : XK} {e : Expr} {pos : Pos}
/-- {} , never to be changed -/
def dEdct : RE := fun _ _ ω Φ => Φ .edct ω
theorem de_edct : DE X E (.Dict [] [] pos) dEdct := de_of pe_dnewT fun σ H Q ⟨F, G, ω, ρ, Φ, ξ, s, r, h, k, x⟩ => fun p hp => k _ _ ω _ _ h (Ex.new (s.freshF hp).2.1) (s.new trivial hp) (.edct upd_same)
def shortD : D → Prop
  | .int i => i.natAbs.log2 < 1920
  | .str y => (reprText y).length ≤ sizeLine
  | .odd (.lst [.int n]) _ => ShortI n
  | .odd (.tup [.int n]) _ => ShortI n
  | _ => True
noncomputable def txtD (g : List Code) : D → Option Str
  | .non => some "None"
  | .bl b => some (if b then "True" else "False")
  | .int i => some (Str.ofString (toString i))
  | .str y => some (reprText y)
  | .odd (.lst [.int n]) a => some (txtL g a n)
  | .odd (.tup [.int n]) a => some (txtT g a n)
  | .odd .edct a => some (txtE g a)
  | _ => none
noncomputable def cRepr (g : List Code) : RC1 := fun ds ω Φ => match ds with
  | [d] => shortD d ∧ onS (txtD g d) fun t => Φ (.str t) ω
  | _ => False
theorem Rep.invO {K : PySem.W.Frag} {G : Hp} {v : V} {x : D} {a : Addr} (r : Rep K G v (.odd x a)) : v = .ref a ∧ Rep K G (.ref a) x := by
  cases r with
  | odd s => exact ⟨rfl, s⟩
theorem Rep.invE {K : PySem.W.Frag} {G : Hp} {v : V} (r : Rep K G v .edct) : ∃ a, v = .ref a ∧ G a = some (.dT []) := by
  cases r with
  | edct h => exact ⟨_, rfl, h⟩
theorem one_int {K : PySem.W.Frag} {G : Hp} {xs : List V} {n : Int} (r : RepL K G xs [.int n]) : xs = [.int n] := by
  obtain ⟨v, rfl, h⟩ := one_arg r
  rw [h.invI]
theorem ok_reprO {K : PySem.W.Frag} (g : List Code) : CallOk K (rReprO g) (cRepr g) := fun F G ω H vs ds Φ Q s r h k => by
  match ds, r, h with
  | [d], r, ⟨sh, h⟩ =>
    obtain ⟨v, rfl, rv⟩ := one_arg r
    refine ⟨v, rfl, ?_⟩
    cases d with
    | non => exact .inl ⟨rv.invN, k _ _ ω G H h (Ex.refl G) s .str⟩
    | bl b => exact .inr (.inl ⟨b, rv.invB, k _ _ ω G H h (Ex.refl G) s .str⟩)
    | int i => exact .inr (.inr (.inl ⟨i, rv.invI, sh, k _ _ ω G H h (Ex.refl G) s .str⟩))
    | str y => exact .inr (.inr (.inr (.inl ⟨y, rv.invS, sh, k _ _ ω G H h (Ex.refl G) s .str⟩)))
    | odd x a =>
      obtain ⟨rfl, rx⟩ := rv.invO
      cases x with
      | lst ds =>
        match ds, sh, h, rx with
        | [.int n], sh, h, rx =>
          obtain ⟨b, xs, e, hb, hr⟩ := rx.invL
          cases e
          rw [one_int hr] at hb
          exact .inr (.inr (.inr (.inr (.inl ⟨a, n, rfl, s.exG _ _ hb, sh, k _ _ ω G H h (Ex.refl G) s .str⟩))))
      | tup ds =>
        match ds, sh, h, rx with
        | [.int n], sh, h, rx =>
          obtain ⟨b, xs, e, hb, hr⟩ := rx.invT
          cases e
          rw [one_int hr] at hb
          exact .inr (.inr (.inr (.inr (.inr (.inl ⟨a, n, rfl, s.exG _ _ hb, sh, k _ _ ω G H h (Ex.refl G) s .str⟩)))))
      | edct =>
        obtain ⟨b, e, hb⟩ := rx.invE
        cases e
        exact .inr (.inr (.inr (.inr (.inr (.inr ⟨a, rfl, s.exG _ _ hb, k _ _ ω G H h (Ex.refl G) s .str⟩)))))
      | _ => exact h.elim
    | _ => exact h.elim
/-- lists, tuples of one int, {} -/
def OddK : D → Prop
  | .lst [.int n] => ShortI n
  | .tup [.int n] => ShortI n
  | .edct => True
  | _ => False
theorem odd_ty {K : PySem.W.Frag} {F G H : Hp} {ω : Om} {a : Addr} {x : D} (s : Sim K F G ω H) (r : Rep K G (.ref a) x) (h : OddK x) : ∃ n : String, (n = "list" ∨ n = "tuple" ∨ n = "dict") ∧ TyX K H (.ref a) (.type n) := by
  cases x with
  | lst ds =>
    obtain ⟨b, xs, e, hb, _⟩ := r.invL
    cases e
    exact ⟨_, .inl rfl, .base (.lst (s.exG _ _ hb))⟩
  | tup ds =>
    obtain ⟨b, xs, e, hb, _⟩ := r.invT
    cases e
    exact ⟨_, .inr (.inl rfl), .base (.tup (s.exG _ _ hb))⟩
  | edct =>
    obtain ⟨b, e, hb⟩ := r.invE
    cases e
    exact ⟨_, .inr (.inr rfl), .base (.dT (s.exG _ _ hb))⟩
  | _ => exact h.elim
def cIs_intA : RC1 := fun ds ω Φ => match ds with
  | [.odd x _, .ty m] => m = "int" ∧ OddK x ∧ Φ (.bl false) ω
  | [x, .ty m] => m = "int" ∧ onS (tyNm x ω) fun t => Φ (.bl (is_int t)) ω
  | _ => False
theorem ok_is_intA {K : PySem.W.Frag} : CallOk K (rIsi K) cIs_intA := fun F G ω H vs ds Φ Q s r h k => by
  unfold cIs_intA at h
  split at h
  · obtain ⟨e, ho, h⟩ := h
    subst e
    obtain ⟨v, u, rfl, h1, h2⟩ := two_args r
    obtain ⟨rfl, rx⟩ := h1.invO
    cases h2.invTy
    obtain ⟨n, hn, ty⟩ := odd_ty s rx ho
    refine ⟨_, _, _, _, false, rfl, .ty _, ty, ?_, k _ _ ω G H h (Ex.refl G) s .bl⟩
    rcases hn with rfl | rfl | rfl <;> exact kit_ty (by decide +kernel)
  · obtain ⟨e, h⟩ := h
    subst e
    obtain ⟨v, u, rfl, h1, h2⟩ := two_args r
    obtain ⟨t, h3, h⟩ := onS_ok h
    cases h2.invTy
    refine ⟨v, _, _, _, is_int t, rfl, .ty _, tyNm_ok s h1 h3, ?_, k _ _ ω G H h (Ex.refl G) s .bl⟩
    cases t <;> exact kit_ty (by decide +kernel)
  · exact h.elim
/-- try: e / except C as n: suite / further clauses, which are not reached -/
theorem ds_tryE {c n : Str} {cs : List (Str × Bool)} {j : Nat} {dc : RE} {dh : Addr → Addr → Str → RS} {b₀ : Stmt} {suite : List Stmt} {np pos' ap : Pos} {rest : List ExceptHandler} (hs : X.stack = X.env :: X.outer) (hf : X.env.frame = some X.env.locals) (hN : X.N.Nodup) (hj : X.N[j]? = some n) (hln : X.env.kindOf n = some .local) (hc : Names X c (.ref (He.ga X.K c))) (xm : ∀ c' b, cs.lookup c' = some b → PySem.W.exmOne X.K (.ref (He.ga X.K c')) (.ref (He.ga X.K c)) = some b)
    (hb : ∀ (W : WX) (pn : List (Addr × Obj)) (xe : Value → Shared → Prop), Takes (X.tr pn xe) W → DX (X.tr pn xe) W e dc)
    (hsu : ∀ (a dx : Addr) (c' : Str) (oe : Obj) (pn : List (Addr × Obj)), Zc (.ref (He.ga X.K c')) (some dx) oe → (∃ vs, oe.data = .fields vs) → DSs (X.suite a ((a, oe) :: pn)) E0 (b₀ :: suite) (dh a dx c'))
    (hsw : swapsWith e none ap.line X.env = pure false := by rfl) :
    DS X E0 (.Try [.Expr e ap] (.ExceptHandler (some (.Name c np)) (some n) (b₀ :: suite) pos' :: rest) [] [] pos) (dTryE cs j dc dh) := by
  refine ds_of (ps_more (ps_try_as (X := X.nox) (i := j) (c := .ref (He.ga X.K c)) (tb := fun W => tDrop (lowX X.K W dc)) (ts := tHand X.K dh) (Wout := fun _ _ _ _ => False) hs hf hN hj hln hc takes0 (fun W pn xe tk _ => pss_one (ps_expr (X := X.tr pn xe) (hb W pn xe tk) hsw)) (fun a oe cls d pn hz hv => ?_))) (fun D σ H h => ?_)
  · refine ⟨fun pins s σ H D I h => ?_⟩
    obtain ⟨c', dx, rfl, rfl, h⟩ := h
    exact (hsu a dx c' oe pn hz hv).run pins s σ H D I h
  · obtain ⟨F, G, ω, ρ, Δ, ξ, s, r, h, k, _⟩ := h
    exact ⟨F, G, ω, ρ, _, _, s, r, h, fun v z ω' G' H' h' e' s' r' => k.nx _ _ ω' G' H' h' e' s' (r.ext e'), hand_ok xm r k⟩
end
section
variable {P : Program} {w : World} {K : PySem.W.Frag} {mg : Str → Option Value} {base : Heap} {x qual : Str} {st : Stmt} {f : Addr} {N ps : List Str} {k : Nat} {S : SD}
/-- a def by its body, for each state of the stack -/
theorem fnd_mkG {d : List Code → RS} (F : ∃ fd, FunD K x qual (defArgs st) (defBody st) (defScope st) [] [] f fd) (sc : FnScope N ps (defScope st))
    (hb : ∀ (kV doc pm : Value) (an : Option Addr) (cdv ct : Value) (us : List Value), us.length = ps.length → bindArgs (PySem.W.fnOf x qual (defArgs st) (defBody st) (defScope st) .none kV doc pm an cdv ct) ⟨us, []⟩ = pure (ps.zip us))
    (len : ∀ ξ ds ω Φ, S ξ ds ω Φ → ds.length = ps.length)
    (der : ∀ (g : List Code) (cdv : Value) (A : Around) (outer : List Env) (s : Shared) (H : Hp) (E : XK), A.guards = some g → Room k (A.deeper (envOfC qual (defScope st) s.heap.objs.size f cdv)) → DSs (cxOf (L2.CX P w) P w K mg base N qual (defScope st) f cdv A outer s H E).nox E0 (defBody st) (d g))
    (vc : ∀ g ξ ds ω Φ, S ξ ds ω Φ → d g xno { nx := fun _ ω' => Φ .non ω', rt := Φ } (startD N ds) ω) : FnD P w K mg base (k + 1) f S := by
  obtain ⟨fd, F⟩ := F
  intro A outer s H us vs Q E hr e0 r h Γ p hc hΓ
  obtain ⟨Fr, G, ω, ds, Φ, ξ, s', rr, hS, k', xx⟩ := h
  have hl : vs.length = ps.length := by
    rw [rr.len]
    exact len ξ ds ω Φ hS
  have hbb : BindsTo s fd ⟨us, []⟩ (ps.zip us) := F.bindsA hb s us (by rw [← r.length]; exact hl)
  obtain ⟨oc, od, dV, kV, doc, pm, an, cdv, ct, osl, rfl, lk, hcd, _, _⟩ := F.ex
  have hr' : Room (k + 1) { A with guards := some (guardsOf Γ.below) } := ⟨hr.hd, hr.dp, hr.un⟩
  have e0' : Env0 P w K mg base { A with guards := some (guardsOf Γ.below) } outer s H := ⟨e0.frames, e0.mod, e0.bs, e0.bsz, e0.funs, e0.frf, e0.hok, e0.bare⟩
  exact LamX.run_ofS (CX := L2.CX P w) lk hcd sc hr' e0' hbb r hl (fun hr2 => ⟨_, PSs.nox (der _ cdv _ outer s H E rfl hr2), Fr, G, ω, _, _, xno, s', start_rep rr, vc _ ξ ds ω Φ hS, ⟨fun σ' ρ' ω' G' H' h' e' s' _ => k' .non .non ω' G' H' h' e' s' .non, k', fun _ _ _ _ _ z => z.elim, fun _ _ _ _ _ z => z.elim⟩, XOk.no⟩) Γ p hc ⟨hΓ.1, hΓ.2.1, hΓ.2.2.1, fun g hg => Option.some.inj hg, hΓ.2.2.2.2⟩
end
end Cu

/-! == OddI -/
set_option maxHeartbeats 4000000
namespace Cu
open PySem PySem.Spec PyProof.Rows L2 Evl CuT
/-! ### values that are no integers -/
def NoCut : D → Prop
  | .non => True
  | .bl _ => True
  | .str _ => True
  | .odd x _ => OddK x
  | _ => False
def sIsIntX : SD := fun _ ds ω Φ => match ds with
  | [.int _] => Φ (.bl true) ω
  | [d] => NoCut d ∧ Φ (.bl false) ω
  | _ => False
section
variable {P : Program} {w : World} {K : PySem.W.Frag} {mg : Str → Option Value} {base : Heap}
theorem fd_is_integerX (T : Txt K mg) : FnD P w K mg base 1 (He.ga K "is_integer") sIsIntX := by
  refine fnd_mk T.f_is_integer sc_is_integer (fun _ _ _ _ _ _ us hl => match us, hl with | [_], _ => rfl) (fun ξ ds ω Φ h => ?_) (fun cdv A outer s H E hr => (dss_one (ds_ret (de_and (de_callB call_isi ok_is_intA (by rfl) T.b_isinstance (by decide +kernel) (da_cons (dv 0) (da_cons (de_ty (pe_bltn (v := .ty "int") (by rfl) T.b_int (by decide +kernel) rfl)) da_nil))) (de_one (de_not (de_callB call_isi ok_is_bool (by rfl) T.b_isinstance (by decide +kernel) (da_cons (dv 0) (da_cons (de_ty (pe_bltn (v := .ty "bool") (by rfl) T.b_bool (by decide +kernel) rfl)) da_nil))))))))) (fun ξ ds ω Φ h => ?_)
  · match ds, h with
    | [d], h => rfl
    | d :: _ :: _, h => cases d <;> exact h.elim
  match ds, h with
  | d :: _ :: _, h => cases d <;> exact h.elim
  | [d], h =>
    cases d with
    | int i =>
      have h : Φ (.bl true) ω := h
      simp only [dSeq, dAsg, dAsgT, dPar, dRet, dDrop, dIfS, dNext, dBreak, dCont, dFor, dIL, dIT, dIR1, dIR2, dIE, dIZ, oAdd, oSub, oMul, oDiv, oMod, oPow, oLt, oLe, oGt, oGe, atI_0, atI_1, atI_2, atI_3, atI_m1, ixN_0, ixN_1, ixN_2, Om.put_same, dVar, getK, dC, dNil, dCons, dOp, oI, oIC, oMulS, oEq, oNe, eqS, oIsN, oNotN, isNon, dTest, dAnd, dOr, dNot, dAndV, dOrV, dNotV, dIf, dTup, dLst, dLstM, dCall, dCB, dChain, asL, asQ, oIx, oIxL, oIxT, oCat, oCatM, oCatT, oNil, oIn, dNoPart, dPart, dSl, slL, slT, slLM, cMax2, cMin2, cLen, cList, cListM, cInt, cTuple, dFld, fldP, dMeth, oOwn, put_nm, put_tp, puts_nil, puts_cons, onS, dNeg, dRev, dSetI, dBM, mAppend, mExtend, mClear, mReverse, dYes, startD, List.map_cons, List.map_nil, List.length_cons, List.length_nil, List.set_cons_zero, List.set_cons_succ, List.cons_append, List.nil_append, Nat.reduceAdd, Nat.reduceSub, List.replicate_succ, List.replicate_zero, List.length_singleton, wipeD, decide_eq_true_eq, decide_eq_false_iff_not, reduceCtorEq, true_implies, false_implies, and_true, true_and, if_true, if_false, Bool.false_eq_true, Bool.not_true, Bool.not_false, Bool.not_eq_true', Bool.not_eq_false', Om.put_put, dLc, dLcM, dFrz, frzK, List.getElem?_cons_succ, List.getElem?_cons_zero, dMkP, dForM, dNever, cIs_int, cIs_bool, cIs_str, cIs_list, cIs_tuple, cIsP, tyNm, is_int, is_bool, is_str, is_list, is_tuple, N_is_integer, cIs_intA]
      exact h
    | non =>
      obtain ⟨_, h⟩ := h
      simp only [dSeq, dAsg, dAsgT, dPar, dRet, dDrop, dIfS, dNext, dBreak, dCont, dFor, dIL, dIT, dIR1, dIR2, dIE, dIZ, oAdd, oSub, oMul, oDiv, oMod, oPow, oLt, oLe, oGt, oGe, atI_0, atI_1, atI_2, atI_3, atI_m1, ixN_0, ixN_1, ixN_2, Om.put_same, dVar, getK, dC, dNil, dCons, dOp, oI, oIC, oMulS, oEq, oNe, eqS, oIsN, oNotN, isNon, dTest, dAnd, dOr, dNot, dAndV, dOrV, dNotV, dIf, dTup, dLst, dLstM, dCall, dCB, dChain, asL, asQ, oIx, oIxL, oIxT, oCat, oCatM, oCatT, oNil, oIn, dNoPart, dPart, dSl, slL, slT, slLM, cMax2, cMin2, cLen, cList, cListM, cInt, cTuple, dFld, fldP, dMeth, oOwn, put_nm, put_tp, puts_nil, puts_cons, onS, dNeg, dRev, dSetI, dBM, mAppend, mExtend, mClear, mReverse, dYes, startD, List.map_cons, List.map_nil, List.length_cons, List.length_nil, List.set_cons_zero, List.set_cons_succ, List.cons_append, List.nil_append, Nat.reduceAdd, Nat.reduceSub, List.replicate_succ, List.replicate_zero, List.length_singleton, wipeD, decide_eq_true_eq, decide_eq_false_iff_not, reduceCtorEq, true_implies, false_implies, and_true, true_and, if_true, if_false, Bool.false_eq_true, Bool.not_true, Bool.not_false, Bool.not_eq_true', Bool.not_eq_false', Om.put_put, dLc, dLcM, dFrz, frzK, List.getElem?_cons_succ, List.getElem?_cons_zero, dMkP, dForM, dNever, cIs_int, cIs_bool, cIs_str, cIs_list, cIs_tuple, cIsP, tyNm, is_int, is_bool, is_str, is_list, is_tuple, N_is_integer, cIs_intA]
      exact h
    | bl b =>
      obtain ⟨_, h⟩ := h
      simp only [dSeq, dAsg, dAsgT, dPar, dRet, dDrop, dIfS, dNext, dBreak, dCont, dFor, dIL, dIT, dIR1, dIR2, dIE, dIZ, oAdd, oSub, oMul, oDiv, oMod, oPow, oLt, oLe, oGt, oGe, atI_0, atI_1, atI_2, atI_3, atI_m1, ixN_0, ixN_1, ixN_2, Om.put_same, dVar, getK, dC, dNil, dCons, dOp, oI, oIC, oMulS, oEq, oNe, eqS, oIsN, oNotN, isNon, dTest, dAnd, dOr, dNot, dAndV, dOrV, dNotV, dIf, dTup, dLst, dLstM, dCall, dCB, dChain, asL, asQ, oIx, oIxL, oIxT, oCat, oCatM, oCatT, oNil, oIn, dNoPart, dPart, dSl, slL, slT, slLM, cMax2, cMin2, cLen, cList, cListM, cInt, cTuple, dFld, fldP, dMeth, oOwn, put_nm, put_tp, puts_nil, puts_cons, onS, dNeg, dRev, dSetI, dBM, mAppend, mExtend, mClear, mReverse, dYes, startD, List.map_cons, List.map_nil, List.length_cons, List.length_nil, List.set_cons_zero, List.set_cons_succ, List.cons_append, List.nil_append, Nat.reduceAdd, Nat.reduceSub, List.replicate_succ, List.replicate_zero, List.length_singleton, wipeD, decide_eq_true_eq, decide_eq_false_iff_not, reduceCtorEq, true_implies, false_implies, and_true, true_and, if_true, if_false, Bool.false_eq_true, Bool.not_true, Bool.not_false, Bool.not_eq_true', Bool.not_eq_false', Om.put_put, dLc, dLcM, dFrz, frzK, List.getElem?_cons_succ, List.getElem?_cons_zero, dMkP, dForM, dNever, cIs_int, cIs_bool, cIs_str, cIs_list, cIs_tuple, cIsP, tyNm, is_int, is_bool, is_str, is_list, is_tuple, N_is_integer, cIs_intA]
      exact h
    | str y =>
      obtain ⟨_, h⟩ := h
      simp only [dSeq, dAsg, dAsgT, dPar, dRet, dDrop, dIfS, dNext, dBreak, dCont, dFor, dIL, dIT, dIR1, dIR2, dIE, dIZ, oAdd, oSub, oMul, oDiv, oMod, oPow, oLt, oLe, oGt, oGe, atI_0, atI_1, atI_2, atI_3, atI_m1, ixN_0, ixN_1, ixN_2, Om.put_same, dVar, getK, dC, dNil, dCons, dOp, oI, oIC, oMulS, oEq, oNe, eqS, oIsN, oNotN, isNon, dTest, dAnd, dOr, dNot, dAndV, dOrV, dNotV, dIf, dTup, dLst, dLstM, dCall, dCB, dChain, asL, asQ, oIx, oIxL, oIxT, oCat, oCatM, oCatT, oNil, oIn, dNoPart, dPart, dSl, slL, slT, slLM, cMax2, cMin2, cLen, cList, cListM, cInt, cTuple, dFld, fldP, dMeth, oOwn, put_nm, put_tp, puts_nil, puts_cons, onS, dNeg, dRev, dSetI, dBM, mAppend, mExtend, mClear, mReverse, dYes, startD, List.map_cons, List.map_nil, List.length_cons, List.length_nil, List.set_cons_zero, List.set_cons_succ, List.cons_append, List.nil_append, Nat.reduceAdd, Nat.reduceSub, List.replicate_succ, List.replicate_zero, List.length_singleton, wipeD, decide_eq_true_eq, decide_eq_false_iff_not, reduceCtorEq, true_implies, false_implies, and_true, true_and, if_true, if_false, Bool.false_eq_true, Bool.not_true, Bool.not_false, Bool.not_eq_true', Bool.not_eq_false', Om.put_put, dLc, dLcM, dFrz, frzK, List.getElem?_cons_succ, List.getElem?_cons_zero, dMkP, dForM, dNever, cIs_int, cIs_bool, cIs_str, cIs_list, cIs_tuple, cIsP, tyNm, is_int, is_bool, is_str, is_list, is_tuple, N_is_integer, cIs_intA]
      exact h
    | odd x a =>
      obtain ⟨ho, h⟩ := h
      simp only [dSeq, dAsg, dAsgT, dPar, dRet, dDrop, dIfS, dNext, dBreak, dCont, dFor, dIL, dIT, dIR1, dIR2, dIE, dIZ, oAdd, oSub, oMul, oDiv, oMod, oPow, oLt, oLe, oGt, oGe, atI_0, atI_1, atI_2, atI_3, atI_m1, ixN_0, ixN_1, ixN_2, Om.put_same, dVar, getK, dC, dNil, dCons, dOp, oI, oIC, oMulS, oEq, oNe, eqS, oIsN, oNotN, isNon, dTest, dAnd, dOr, dNot, dAndV, dOrV, dNotV, dIf, dTup, dLst, dLstM, dCall, dCB, dChain, asL, asQ, oIx, oIxL, oIxT, oCat, oCatM, oCatT, oNil, oIn, dNoPart, dPart, dSl, slL, slT, slLM, cMax2, cMin2, cLen, cList, cListM, cInt, cTuple, dFld, fldP, dMeth, oOwn, put_nm, put_tp, puts_nil, puts_cons, onS, dNeg, dRev, dSetI, dBM, mAppend, mExtend, mClear, mReverse, dYes, startD, List.map_cons, List.map_nil, List.length_cons, List.length_nil, List.set_cons_zero, List.set_cons_succ, List.cons_append, List.nil_append, Nat.reduceAdd, Nat.reduceSub, List.replicate_succ, List.replicate_zero, List.length_singleton, wipeD, decide_eq_true_eq, decide_eq_false_iff_not, reduceCtorEq, true_implies, false_implies, and_true, true_and, if_true, if_false, Bool.false_eq_true, Bool.not_true, Bool.not_false, Bool.not_eq_true', Bool.not_eq_false', Om.put_put, dLc, dLcM, dFrz, frzK, List.getElem?_cons_succ, List.getElem?_cons_zero, dMkP, dForM, dNever, cIs_int, cIs_bool, cIs_str, cIs_list, cIs_tuple, cIsP, tyNm, is_int, is_bool, is_str, is_list, is_tuple, N_is_integer, cIs_intA]
      exact ⟨ho, h⟩
    | _ => exact h.1.elim
end
end Cu

/-! == LawK10 -/
set_option maxHeartbeats 4000000
namespace Cu
open PySem PySem.Spec PyProof.Rows L2 Evl CuT
/-! ### law k10 -/
def sOvX : SD := fun ξ ds ω Φ => match ds with
  | [.prog p, .int c] => WF p ∧ (0 ≤ c → Φ (.int (max 0 (endA p c - c))) ω) ∧ (c < 0 → ξ "InvalidCut" "cut" (.int c) ω)
  | [.prog _, d] => NoCut d ∧ ξ "InvalidCut" "cut" d ω
  | _ => False
def sOver : SD := fun _ ds ω Φ => match ds with
  | [.prog p, .int c] => WF p ∧ 0 ≤ c ∧ Φ (.int (max 0 (endA p c - c))) ω
  | _ => False
def BadC (d : D) : Prop := shortD d ∧ (NoCut d ∨ ∃ c, d = .int c ∧ c < 0)
theorem txt_some (g : List Code) {d : D} (h : NoCut d ∨ ∃ c, d = .int c ∧ c < 0) : ∃ t, txtD g d = some t := by
  rcases h with h | ⟨c, rfl, _⟩
  · cases d with
    | non => exact ⟨_, rfl⟩
    | bl b => exact ⟨_, rfl⟩
    | str y => exact ⟨_, rfl⟩
    | odd x a =>
      have h : OddK x := h
      unfold OddK at h
      split at h
      · exact ⟨_, rfl⟩
      · exact ⟨_, rfl⟩
      · exact ⟨_, rfl⟩
      · exact h.elim
    | _ => exact h.elim
  · exact ⟨_, rfl⟩
def sRefused : SD := fun _ ds ω Φ => match ds with
  | [.prog p, d] => WF p ∧ BadC d ∧ Φ (.bl true) ω
  | _ => False
/-- what the law hands over -/
def BadL (d : D) : Prop := (BadC d ∧ ∀ x a, d ≠ .odd x a) ∨ OddK d
def sRefusedL : SD := fun _ ds ω Φ => match ds with
  | [.prog p, d] => WF p ∧ BadL d ∧ Φ (.bl true) ω
  | _ => False
section
variable {P : Program} {w : World} {K : PySem.W.Frag} {mg : Str → Option Value} {base : Heap}
abbrev N_overrun : List Str := ["program", "cut"]
theorem sc_overrun : FnScope N_overrun ["program", "cut"] (defScope s_overrun) := ⟨rfl, rfl, rfl, by decide +kernel, rfl, by decide +kernel, by decide +kernel⟩

theorem fd_overrunX (T : Txt K mg) : FnD P w K mg base 124 (He.ga K "overrun") sOvX := by
  have G_is_integer : FnD P w K mg base 1 (He.ga K "is_integer") sIsIntX := fd_is_integerX T
  have G_end_after : FnD P w K mg base 123 (He.ga K "end_after") sEnd := fd_end_after T
  refine fndx_mk T.f_overrun sc_overrun (fun _ _ _ _ _ _ us hl => match us, hl with | [_, _], _ => rfl) (fun ξ ds ω Φ h => ?_) (fun cdv A outer s H E hr => (dss_cons (ds_if (DW.dt (dw_or (dt_not (dt_val (de_call G_is_integer (hr.mono (by omega)) rfl T.g_is_integer (kp_of T.f_is_integer) passE (da_cons (dv 1) da_nil)))) (dw_or1 (dt_cmp op_lt ok_lt (dv 1) de_int (nomark _))))) (dss_one (ds_raise (f := "cut") rfl T.err_InvalidCut (fe_InvalidCut T) (hr.mono (by omega)) passL (takes_of rfl rfl rfl rfl) rfl T.g_InvalidCut (da_cons (dv 1) da_nil))) dss_nil)
    (dss_one (ds_ret (de_callB (call_max2 rfl) ok_max2 (by rfl) T.b_max (by decide +kernel) (da_cons de_int (da_cons (de_op op_sub ok_sub (de_call G_end_after (hr.mono (by omega)) rfl T.g_end_after (kp_of T.f_end_after) passE (da_cons (dv 0) (da_cons (dv 1) da_nil))) (dv 1)) da_nil))))))) (fun ξ ds ω Φ h => ?_)
  · match ds, h with
    | [.prog p, d], h => rfl
    | .prog _ :: d :: _ :: _, h => cases d <;> exact h.elim
  match ds, h with
  | .prog _ :: d :: _ :: _, h => cases d <;> exact h.elim
  | [.prog p, d], h =>
    cases d with
    | int c =>
      obtain ⟨hw, q1, q2⟩ := h
      simp only [dSeq, dAsg, dAsgT, dPar, dRet, dDrop, dIfS, dNext, dBreak, dCont, dFor, dIL, dIT, dIR1, dIR2, dIE, dIZ, oAdd, oSub, oMul, oDiv, oMod, oPow, oLt, oLe, oGt, oGe, atI_0, atI_1, atI_2, atI_3, atI_m1, ixN_0, ixN_1, ixN_2, Om.put_same, dVar, getK, dC, dNil, dCons, dOp, oI, oIC, oMulS, oEq, oNe, eqS, oIsN, oNotN, isNon, dTest, dAnd, dOr, dNot, dAndV, dOrV, dNotV, dIf, dTup, dLst, dLstM, dCall, dCB, dChain, asL, asQ, oIx, oIxL, oIxT, oCat, oCatM, oCatT, oNil, oIn, dNoPart, dPart, dSl, slL, slT, slLM, cMax2, cMin2, cLen, cList, cListM, cInt, cTuple, dFld, fldP, dMeth, oOwn, put_nm, put_tp, puts_nil, puts_cons, onS, dNeg, dRev, dSetI, dBM, mAppend, mExtend, mClear, mReverse, dYes, startD, List.map_cons, List.map_nil, List.length_cons, List.length_nil, List.set_cons_zero, List.set_cons_succ, List.cons_append, List.nil_append, Nat.reduceAdd, Nat.reduceSub, List.replicate_succ, List.replicate_zero, List.length_singleton, wipeD, decide_eq_true_eq, decide_eq_false_iff_not, reduceCtorEq, true_implies, false_implies, and_true, true_and, if_true, if_false, Bool.false_eq_true, Bool.not_true, Bool.not_false, Bool.not_eq_true', Bool.not_eq_false', Om.put_put, dLc, dLcM, dFrz, frzK, List.getElem?_cons_succ, List.getElem?_cons_zero, dMkP, dForM, dNever, cIs_int, cIs_bool, cIs_str, cIs_list, cIs_tuple, cIsP, tyNm, is_int, is_bool, is_str, is_list, is_tuple, N_overrun, sIsIntX, sEnd, dRaise, dCalm, dCalmT]
      exact ⟨q2, fun z => ⟨hw, by omega, q1 (by omega)⟩⟩
    | _ =>
      obtain ⟨hn, h⟩ := h
      simp only [dSeq, dAsg, dAsgT, dPar, dRet, dDrop, dIfS, dNext, dBreak, dCont, dFor, dIL, dIT, dIR1, dIR2, dIE, dIZ, oAdd, oSub, oMul, oDiv, oMod, oPow, oLt, oLe, oGt, oGe, atI_0, atI_1, atI_2, atI_3, atI_m1, ixN_0, ixN_1, ixN_2, Om.put_same, dVar, getK, dC, dNil, dCons, dOp, oI, oIC, oMulS, oEq, oNe, eqS, oIsN, oNotN, isNon, dTest, dAnd, dOr, dNot, dAndV, dOrV, dNotV, dIf, dTup, dLst, dLstM, dCall, dCB, dChain, asL, asQ, oIx, oIxL, oIxT, oCat, oCatM, oCatT, oNil, oIn, dNoPart, dPart, dSl, slL, slT, slLM, cMax2, cMin2, cLen, cList, cListM, cInt, cTuple, dFld, fldP, dMeth, oOwn, put_nm, put_tp, puts_nil, puts_cons, onS, dNeg, dRev, dSetI, dBM, mAppend, mExtend, mClear, mReverse, dYes, startD, List.map_cons, List.map_nil, List.length_cons, List.length_nil, List.set_cons_zero, List.set_cons_succ, List.cons_append, List.nil_append, Nat.reduceAdd, Nat.reduceSub, List.replicate_succ, List.replicate_zero, List.length_singleton, wipeD, decide_eq_true_eq, decide_eq_false_iff_not, reduceCtorEq, true_implies, false_implies, and_true, true_and, if_true, if_false, Bool.false_eq_true, Bool.not_true, Bool.not_false, Bool.not_eq_true', Bool.not_eq_false', Om.put_put, dLc, dLcM, dFrz, frzK, List.getElem?_cons_succ, List.getElem?_cons_zero, dMkP, dForM, dNever, cIs_int, cIs_bool, cIs_str, cIs_list, cIs_tuple, cIsP, tyNm, is_int, is_bool, is_str, is_list, is_tuple, N_overrun, sIsIntX, sEnd, dRaise, dCalm, dCalmT]
      exact ⟨hn, h⟩
theorem fd_overrun (T : Txt K mg) : FnD P w K mg base 124 (He.ga K "overrun") sOver := (fd_overrunX T).imp fun vs H Q E ⟨Fr, G, ω, ds, Φ, ξ, s, r, h, kk, xx⟩ => ⟨Fr, G, ω, ds, Φ, ξ, s, r, by
  match ds, h with
  | [.prog p, .int c], ⟨hw, c0, q⟩ => exact ⟨hw, fun _ => q, fun z => absurd z (by omega)⟩, kk, xx⟩
theorem fk_overrun (T : Txt K mg) : FnK P w K mg base 124 (He.ga K "overrun") ["cut", "program"] (spD K (sRev sOver)) := by
  have G_is_integer : FnD P w K mg base 1 (He.ga K "is_integer") sIsInt := fd_is_integer T
  have G_end_after : FnD P w K mg base 123 (He.ga K "end_after") sEnd := fd_end_after T
  refine fnkd_mk T.f_overrun sc_overrun rfl (fun _ _ _ _ _ _ us hl => match us, hl with | [_, _], _ => rfl) (fun ξ ds ω Φ h => ?_) (fun cdv A outer s H E hr => (dss_cons (ds_if (DW.dt (dw_or (dt_not (dt_val (de_call G_is_integer (hr.mono (by omega)) rfl T.g_is_integer (kp_of T.f_is_integer) passL (da_cons (dv 1) da_nil)))) (dw_or1 (dt_cmp op_lt ok_lt (dv 1) de_int (nomark _))))) (dss_one ds_never) dss_nil)
    (dss_one (ds_ret (de_callB (call_max2 rfl) ok_max2 (by rfl) T.b_max (by decide +kernel) (da_cons de_int (da_cons (de_op op_sub ok_sub (de_call G_end_after (hr.mono (by omega)) rfl T.g_end_after (kp_of T.f_end_after) passL (da_cons (dv 0) (da_cons (dv 1) da_nil))) (dv 1)) da_nil))))))) (fun ξ ds ω Φ h => ?_)
  · match ds, h with
    | [.prog p, .int c], h => rfl
  match ds, h with
  | [.prog p, .int c], ⟨hw, c0, q⟩ =>
    simp only [dSeq, dAsg, dAsgT, dPar, dRet, dDrop, dIfS, dNext, dBreak, dCont, dFor, dIL, dIT, dIR1, dIR2, dIE, dIZ, oAdd, oSub, oMul, oDiv, oMod, oPow, oLt, oLe, oGt, oGe, atI_0, atI_1, atI_2, atI_3, atI_m1, ixN_0, ixN_1, ixN_2, Om.put_same, dVar, getK, dC, dNil, dCons, dOp, oI, oIC, oMulS, oEq, oNe, eqS, oIsN, oNotN, isNon, dTest, dAnd, dOr, dNot, dAndV, dOrV, dNotV, dIf, dTup, dLst, dLstM, dCall, dCB, dChain, asL, asQ, oIx, oIxL, oIxT, oCat, oCatM, oCatT, oNil, oIn, dNoPart, dPart, dSl, slL, slT, slLM, cMax2, cMin2, cLen, cList, cListM, cInt, cTuple, dFld, fldP, dMeth, oOwn, put_nm, put_tp, puts_nil, puts_cons, onS, dNeg, dRev, dSetI, dBM, mAppend, mExtend, mClear, mReverse, dYes, startD, List.map_cons, List.map_nil, List.length_cons, List.length_nil, List.set_cons_zero, List.set_cons_succ, List.cons_append, List.nil_append, Nat.reduceAdd, Nat.reduceSub, List.replicate_succ, List.replicate_zero, List.length_singleton, wipeD, decide_eq_true_eq, decide_eq_false_iff_not, reduceCtorEq, true_implies, false_implies, and_true, true_and, if_true, if_false, Bool.false_eq_true, Bool.not_true, Bool.not_false, Bool.not_eq_true', Bool.not_eq_false', Om.put_put, dLc, dLcM, dFrz, frzK, List.getElem?_cons_succ, List.getElem?_cons_zero, dMkP, dForM, dNever, cIs_int, cIs_bool, cIs_str, cIs_list, cIs_tuple, cIsP, tyNm, is_int, is_bool, is_str, is_list, is_tuple, N_overrun, sIsInt, sEnd]
    exact ⟨fun z => by omega, fun _ => ⟨hw, c0, q⟩⟩
abbrev N_law_refused : List Str := ["_law_task", "_law_odd", "_law_found", "error"]
theorem sc_law_refused : FnScope N_law_refused ["_law_task", "_law_odd"] (defScope s_law_refused) := ⟨rfl, rfl, rfl, by decide +kernel, rfl, by decide +kernel, by decide +kernel⟩

theorem fd_law_refused0 (T : Txt K mg) : FnD P w K mg base 125 (He.ga K "_law_refused") sRefused := by
  have G_overrun : FnD P w K mg base 124 (He.ga K "overrun") sOvX := fd_overrunX T
  refine fnd_mkG T.f_law_refused sc_law_refused (fun _ _ _ _ _ _ us hl => match us, hl with | [_, _], _ => rfl) (fun ξ ds ω Φ h => ?_) (fun g cdv A outer s H E hg hr => (dss_cons (ds_set (i := 2) sc_law_refused.nd rfl (Or.inl rfl) de_str)
    (dss_cons (ds_tryE (cs := [("InvalidCut", true)]) (j := 3) rfl rfl sc_law_refused.nd rfl rfl ⟨rfl, by decide, .inl T.g_InvalidCut⟩ (look_all (by intro q hq; simp only [List.mem_cons, List.not_mem_nil, or_false] at hq; rcases hq with rfl <;> first | exact T.exm_InvalidCut_InvalidCut)) (fun W pn xe tk => (dx_call G_overrun (hr.mono (by omega)) rfl T.g_overrun (kp_of T.f_overrun) tk (da_cons (dv 0) (da_cons (dv 1) da_nil)))) (fun a dx c0 oe pn hz hv => (dss_one (ds_set (i := 2) sc_law_refused.nd rfl (Or.inl rfl) (de_callB (call_reprO (g := g) (by have h9 := hg; exact h9) (by have h9 := hu64_of hr; exact h9)) (ok_reprO g) (by rfl) T.b_repr (by decide +kernel) (da_cons (de_errF (cs := ["InvalidCut"]) (by intro c1 h1; simp only [List.mem_cons, List.not_mem_nil, or_false] at h1; rcases h1 with rfl <;> first | exact T.err_InvalidCut) hz hv (dv 3)) da_nil))))))
    (dss_one (ds_ret (de_cmp op_eq ok_eq (dv 2) (de_callB (call_reprO (g := g) hg (hu64_of hr)) (ok_reprO g) (by rfl) T.b_repr (by decide +kernel) (da_cons (dv 1) da_nil)) (nomark _))))))) (fun g ξ ds ω Φ h => ?_)
  · match ds, h with
    | [.prog p, d], h => rfl
  match ds, h with
  | [.prog p, d], ⟨hw, ⟨sh, hd⟩, q⟩ =>
    have ov : ∀ (ξ : XD) (ω : Om) (Φ : D → Om → Prop), ξ "InvalidCut" "cut" d ω → sOvX ξ [.prog p, d] ω Φ := fun ξ ω Φ hξ => by
      rcases hd with hn | ⟨i, rfl, hi⟩
      · cases d with
        | int i => exact hn.elim
        | _ => exact ⟨hn, hξ⟩
      · exact ⟨hw, fun z => absurd z (by omega), fun _ => hξ⟩
    obtain ⟨t, ht⟩ := txt_some g hd
    have rp : ∀ (ω : Om) (Φ : D → Om → Prop), Φ (.str t) ω → cRepr g [d] ω Φ := fun ω Φ h => ⟨sh, by rw [ht]; exact h⟩
    simp only [dSeq, dAsg, dAsgT, dPar, dRet, dDrop, dIfS, dNext, dBreak, dCont, dFor, dIL, dIT, dIR1, dIR2, dIE, dIZ, oAdd, oSub, oMul, oDiv, oMod, oPow, oLt, oLe, oGt, oGe, atI_0, atI_1, atI_2, atI_3, atI_m1, ixN_0, ixN_1, ixN_2, Om.put_same, dVar, getK, dC, dNil, dCons, dOp, oI, oIC, oMulS, oEq, oNe, eqS, oIsN, oNotN, isNon, dTest, dAnd, dOr, dNot, dAndV, dOrV, dNotV, dIf, dTup, dLst, dLstM, dCall, dCB, dChain, asL, asQ, oIx, oIxL, oIxT, oCat, oCatM, oCatT, oNil, oIn, dNoPart, dPart, dSl, slL, slT, slLM, cMax2, cMin2, cLen, cList, cListM, cInt, cTuple, dFld, fldP, dMeth, oOwn, put_nm, put_tp, puts_nil, puts_cons, onS, dNeg, dRev, dSetI, dBM, mAppend, mExtend, mClear, mReverse, dYes, startD, List.map_cons, List.map_nil, List.length_cons, List.length_nil, List.set_cons_zero, List.set_cons_succ, List.cons_append, List.nil_append, Nat.reduceAdd, Nat.reduceSub, List.replicate_succ, List.replicate_zero, List.length_singleton, wipeD, decide_eq_true_eq, decide_eq_false_iff_not, reduceCtorEq, true_implies, false_implies, and_true, true_and, if_true, if_false, Bool.false_eq_true, Bool.not_true, Bool.not_false, Bool.not_eq_true', Bool.not_eq_false', Om.put_put, dLc, dLcM, dFrz, frzK, List.getElem?_cons_succ, List.getElem?_cons_zero, dMkP, dForM, dNever, cIs_int, cIs_bool, cIs_str, cIs_list, cIs_tuple, cIsP, tyNm, is_int, is_bool, is_str, is_list, is_tuple, N_law_refused, dTryE, dCallX, dErrF]
    refine ov _ _ _ ⟨rfl, fun a dx => ⟨.head _, rfl, rp _ _ (rp _ _ ?_)⟩⟩
    show Φ (.bl (decide (t = t))) ω
    rw [decide_eq_true rfl]
    exact q
theorem fd_law_refused (T : Txt K mg) : FnD P w K mg base 125 (He.ga K "_law_refused") sRefusedL := (fd_law_refused0 T).imp fun vs H Q E ⟨Fr, G, ω, ds, Φ, ξ, s, r, h, kk, xx⟩ => by
  match ds, r, h with
  | [.prog p, d], r, ⟨hw, .inl ⟨hb, _⟩, q⟩ => exact ⟨Fr, G, ω, _, Φ, ξ, s, r, ⟨hw, hb, q⟩, kk, xx⟩
  | [.prog p, d], r, ⟨hw, .inr ho, q⟩ =>
    obtain ⟨v, u, rfl, h1, h2⟩ := two_args r
    obtain ⟨a, rfl⟩ : ∃ a, u = .ref a := by
      cases d with
      | lst ds => obtain ⟨a, _, e, _⟩ := h2.invL; exact ⟨a, e⟩
      | tup ds => obtain ⟨a, _, e, _⟩ := h2.invT; exact ⟨a, e⟩
      | edct => obtain ⟨a, e, _⟩ := h2.invE; exact ⟨a, e⟩
      | _ => exact ho.elim
    refine ⟨Fr, G, ω, [.prog p, .odd d a], Φ, ξ, s, .cons h1 (.cons (.odd h2) .nil), ⟨hw, ⟨?_, .inl ho⟩, q⟩, kk, xx⟩
    unfold OddK at ho
    split at ho
    · exact ho
    · exact ho
    · trivial
    · exact ho.elim
abbrev N_law : List Str := ["_law_script", "_law_cell", "_law_source", "_law_spec_here", "_law_task", "_law_ends", "_law_at", "_law_end", "_law_far", "_law_repeat", "_law_odd"]
theorem sc_law : FnScope N_law ["_law_script"] (defScope s_law) := ⟨rfl, rfl, rfl, by decide +kernel, rfl, by decide +kernel, by decide +kernel⟩

theorem r_law {fd : FuncData} (T : Txt K mg) (F : FunD K "law" "law" (defArgs s_law) (defBody s_law) (defScope s_law) [] [] (He.ga K "law") fd) : FnOk P w K mg base (L2.CX P w) 184 (He.ga K "law") fd ["_law_script"] (spLaw K) := by
  have G_overrun : FnD P w K mg base 124 (He.ga K "overrun") sOver := fd_overrun T
  have GK_overrun : FnK P w K mg base 124 (He.ga K "overrun") ["cut", "program"] (spD K (sRev sOver)) := fk_overrun T
  have G_law_refused : FnD P w K mg base 125 (He.ga K "_law_refused") sRefusedL := fd_law_refused T
  have G_Program_call := fd_Program_call (P := P) (w := w) (base := base) T
  have G_Program_total_length := fd_Program_total_length (P := P) (w := w) (base := base) T
  have G_law_draw : FnD P w K mg base 1 (He.ga K "_law_draw") sDraw := fd_law_draw T
  have G_law_cell_at : FnD P w K mg base 1 (He.ga K "_law_cell_at") sCell := fd_law_cell_at T
  have G_law_source_of : FnD P w K mg base 1 (He.ga K "_law_source_of") sSource := fd_law_source_of T
  have G_law_spec : FnD P w K mg base 8 (He.ga K "_law_spec") (sSpec 5) := spec_all T 5
  have G_law_built : FnD P w K mg base 133 (He.ga K "_law_built") (sBuilt 5) := built_all T 5
  have G_law_table : FnD P w K mg base 5 (He.ga K "_law_table") (sTable 4) := table_all T 4
  refine law_mk F sc_law (fun cdv A outer s H E hr => (dss_cons (ds_for PassesOwn.never rfl (di_list (de_op op_cat ok_cat (de_lst (da_cons (de_call G_law_cell_at (hr.mono (by omega)) rfl T.g_law_cell_at (kp_of T.f_law_cell_at) passL (da_cons (dv 0) (da_cons de_int da_nil))) da_nil)) (de_sl sl_list ok_slL (dv 0) (do_some de_int) (do_some de_int)))) (dg_name (i := 1) sc_law.nd rfl (Or.inl rfl)) (dss_cons (ds_set (i := 2) sc_law.nd rfl (Or.inl rfl) (de_call G_law_source_of (hr.mono (by omega)) rfl T.g_law_source_of (kp_of T.f_law_source_of) passL (da_cons (dv 1) da_nil)))
    (dss_cons (ds_set (i := 3) sc_law.nd rfl (Or.inl rfl) (de_call G_law_spec (hr.mono (by omega)) rfl T.g_law_spec (kp_of T.f_law_spec) passL (da_cons (dv 2) (da_cons de_int (da_cons de_bl da_nil)))))
    (dss_cut (ds_par (i := 4) (j := 5) (by rfl) sc_law.nd rfl rfl (by decide) rfl rfl (da_cons (de_call G_law_built (hr.mono (by omega)) rfl T.g_law_built (kp_of T.f_law_built) passL (da_cons (dv 3) da_nil)) (da_cons (de_ix ix_seq ok_ix (de_call G_law_table (hr.mono (by omega)) rfl T.g_law_table (kp_of T.f_law_table) passL (da_cons (dv 3) da_nil)) de_int (fun _ _ => rfl)) da_nil)) (by rfl))
    (dss_cut (ds_for PassesOwn.never rfl (di_enum (by rfl) T.b_enumerate (da_cons (de_op op_cat ok_cat (dv 5) (de_lst (da_cons (de_callB call_len_seq ok_len (by rfl) T.b_len PySem.boot_len (da_cons (dv 5) da_nil)) (da_cons (de_op op_add ok_add (de_callB call_len_seq ok_len (by rfl) T.b_len PySem.boot_len (da_cons (dv 5) da_nil)) de_int) da_nil)))) da_nil)) (dg_tup rfl (dgs_cons (dg_name (i := 6) sc_law.nd rfl (Or.inl rfl)) (dgs_cons (dg_name (i := 7) sc_law.nd rfl (Or.inl rfl)) dgs_nil))) (dss_one (ds_if (dt_cmp op_ne ok_ne (de_call G_overrun (hr.mono (by omega)) rfl T.g_overrun (kp_of T.f_overrun) passL (da_cons (dv 4) (da_cons (dv 6) da_nil))) (de_op op_sub ok_sub (dv 7) (dv 6)) (nomark _)) (dss_one (ds_ret de_bl)) dss_nil)))
    (dss_cut (ds_set (i := 8) sc_law.nd rfl (Or.inl rfl) (de_call G_law_built (hr.mono (by omega)) rfl T.g_law_built (kp_of T.f_law_built) passL (da_cons (de_call G_law_spec (hr.mono (by omega)) rfl T.g_law_spec (kp_of T.f_law_spec) passL (da_cons (dv 2) (da_cons de_int (da_cons de_bl da_nil)))) da_nil)))
    (dss_cut (ds_for PassesOwn.never rfl (di_range1 (by rfl) T.b_range (da_cons de_int da_nil)) (dg_name (i := 9) sc_law.nd rfl (Or.inl rfl)) (dss_cut (ds_set (i := 6) sc_law.nd rfl (Or.inl rfl) (de_call G_law_draw (hr.mono (by omega)) rfl T.g_law_draw (kp_of T.f_law_draw) passL (da_cons (dv 2) (da_cons (de_op op_add ok_add (de_meth0 (dv 8) T.cls_Program T.m_Program_total_length nf_total_length G_Program_total_length (hr.mono (by omega)) passL) de_int) da_nil))))
    (dss_one (ds_if (DW.dt (dw_or (dt_cmp op_ne ok_ne (de_call G_overrun (hr.mono (by omega)) rfl T.g_overrun (kp_of T.f_overrun) passL (da_cons (dv 8) (da_cons (dv 6) da_nil))) (de_callB (call_max2 rfl) ok_max2 (by rfl) T.b_max (by decide +kernel) (da_cons de_int (da_cons (de_op op_sub ok_sub (de_callP (dv 8) (callO_P T) G_Program_call (hr.mono (by omega)) (da_cons (dv 6) da_nil)) (dv 6)) da_nil))) (nomark _)) (dw_or1 (dt_cmp op_ne ok_ne (de_callK GK_overrun (hr.mono (by omega)) rfl T.g_overrun (kp_of T.f_overrun) passL (dk_cons (dv 6) (dk_cons (dv 8) dk_nil))) (de_call G_overrun (hr.mono (by omega)) rfl T.g_overrun (kp_of T.f_overrun) passL (da_cons (dv 8) (da_cons (dv 6) da_nil))) (nomark _))))) (dss_one (ds_ret de_bl)) dss_nil))))
    (dss_one (ds_for PassesOwn.never rfl (di_list (de_lst (da_cons de_non (da_cons de_bl (da_cons (de_neg de_int) (da_cons de_str (da_cons (de_lst (da_cons de_int da_nil)) (da_cons (de_tup (da_cons de_int da_nil)) (da_cons de_edct (da_cons de_bl da_nil)))))))))) (dg_name (i := 10) sc_law.nd rfl (Or.inl rfl)) (dss_one (ds_if (DW.dt (dw_or (dt_not (dt_val (de_call G_law_refused (hr.mono (by omega)) rfl T.g_law_refused (kp_of T.f_law_refused) passL (da_cons (dv 4) (da_cons (dv 10) da_nil))))) (dw_or1 (dt_not (dt_val (de_call G_law_refused (hr.mono (by omega)) rfl T.g_law_refused (kp_of T.f_law_refused) passL (da_cons (dv 8) (da_cons (dv 10) da_nil)))))))) (dss_one (ds_ret de_bl)) dss_nil)))))))))))
    (dss_one (ds_ret de_bl)))) (fun ns hlen => ?_)
  simp only [dSeq, dAsg, dAsgT, dPar, dRet, dDrop, dIfS, dNext, dBreak, dCont, dFor, dIL, dIT, dIR1, dIR2, dIE, dIZ, oAdd, oSub, oMul, oDiv, oMod, oPow, oLt, oLe, oGt, oGe, atI_0, atI_1, atI_2, atI_3, atI_m1, ixN_0, ixN_1, ixN_2, Om.put_same, dVar, getK, dC, dNil, dCons, dOp, oI, oIC, oMulS, oEq, oNe, eqS, oIsN, oNotN, isNon, dTest, dAnd, dOr, dNot, dAndV, dOrV, dNotV, dIf, dTup, dLst, dLstM, dCall, dCB, dChain, asL, asQ, oIx, oIxL, oIxT, oCat, oCatM, oCatT, oNil, oIn, dNoPart, dPart, dSl, slL, slT, slLM, cMax2, cMin2, cLen, cList, cListM, cInt, cTuple, dFld, fldP, dMeth, oOwn, put_nm, put_tp, puts_nil, puts_cons, onS, dNeg, dRev, dSetI, dBM, mAppend, mExtend, mClear, mReverse, dYes, startD, List.map_cons, List.map_nil, List.length_cons, List.length_nil, List.set_cons_zero, List.set_cons_succ, List.cons_append, List.nil_append, Nat.reduceAdd, Nat.reduceSub, List.replicate_succ, List.replicate_zero, List.length_singleton, wipeD, decide_eq_true_eq, decide_eq_false_iff_not, reduceCtorEq, true_implies, false_implies, and_true, true_and, if_true, if_false, Bool.false_eq_true, Bool.not_true, Bool.not_false, Bool.not_eq_true', Bool.not_eq_false', Om.put_put, dLc, dLcM, dFrz, frzK, List.getElem?_cons_succ, List.getElem?_cons_zero, dMkP, dForM, dNever, cIs_int, cIs_bool, cIs_str, cIs_list, cIs_tuple, cIsP, tyNm, is_int, is_bool, is_str, is_list, is_tuple, N_law, sCell]
  have hcl : (cutD (ns.map D.int) (some 1) (some 4)).length ≤ 63 := by
    unfold cutD
    rw [List.length_take, List.length_drop, List.length_map]
    omega
  have hci : ∀ x ∈ D.int ((ns[(0 : Int).toNat]?).getD 0) :: cutD (ns.map D.int) (some 1) (some 4), ∃ c, x = .int c := fun x hx => by
    rcases List.mem_cons.mp hx with rfl | hx
    · exact ⟨_, rfl⟩
    · have := List.mem_of_mem_drop (List.mem_of_mem_take hx)
      obtain ⟨c, _, e⟩ := List.mem_map.mp this
      exact ⟨c, e.symm⟩
  refine ⟨by decide, by decide, by omega, ?_⟩
  refine forL_inv (fun i ρ ω => ∃ v1 v2 v3 v4 v5 v6 v7 v8 v9 v10, ρ = [some (.scr ns), v1, v2, v3, v4, v5, v6, v7, v8, v9, v10]) (fun i d ρ ω hd hI N hN => ?_) (fun ρ ω hI => trivial) ⟨_, _, _, _, _, _, _, _, _, _, rfl⟩
  obtain ⟨v1, v2, v3, v4, v5, v6, v7, v8, v9, v10, rfl⟩ := hI
  obtain ⟨c, rfl⟩ := hci d (List.mem_of_getElem? hd)
  simp only [dSeq, dAsg, dAsgT, dPar, dRet, dDrop, dIfS, dNext, dBreak, dCont, dFor, dIL, dIT, dIR1, dIR2, dIE, dIZ, oAdd, oSub, oMul, oDiv, oMod, oPow, oLt, oLe, oGt, oGe, atI_0, atI_1, atI_2, atI_3, atI_m1, ixN_0, ixN_1, ixN_2, Om.put_same, dVar, getK, dC, dNil, dCons, dOp, oI, oIC, oMulS, oEq, oNe, eqS, oIsN, oNotN, isNon, dTest, dAnd, dOr, dNot, dAndV, dOrV, dNotV, dIf, dTup, dLst, dLstM, dCall, dCB, dChain, asL, asQ, oIx, oIxL, oIxT, oCat, oCatM, oCatT, oNil, oIn, dNoPart, dPart, dSl, slL, slT, slLM, cMax2, cMin2, cLen, cList, cListM, cInt, cTuple, dFld, fldP, dMeth, oOwn, put_nm, put_tp, puts_nil, puts_cons, onS, dNeg, dRev, dSetI, dBM, mAppend, mExtend, mClear, mReverse, dYes, startD, List.map_cons, List.map_nil, List.length_cons, List.length_nil, List.set_cons_zero, List.set_cons_succ, List.cons_append, List.nil_append, Nat.reduceAdd, Nat.reduceSub, List.replicate_succ, List.replicate_zero, List.length_singleton, wipeD, decide_eq_true_eq, decide_eq_false_iff_not, reduceCtorEq, true_implies, false_implies, and_true, true_and, if_true, if_false, Bool.false_eq_true, Bool.not_true, Bool.not_false, Bool.not_eq_true', Bool.not_eq_false', Om.put_put, dLc, dLcM, dFrz, frzK, List.getElem?_cons_succ, List.getElem?_cons_zero, dMkP, dForM, dNever, cIs_int, cIs_bool, cIs_str, cIs_list, cIs_tuple, cIsP, tyNm, is_int, is_bool, is_str, is_list, is_tuple, N_law, sSource, sSpec]
  intro l c0 hl s0
  have c3 := costS_le (d := 3) (by decide)
  refine ⟨0, by decide, by decide, s0, (by show 0 + costS 3 ≤ _; omega), fun f p c1 s1 hf => ?_⟩
  have hw : WF p := (spec_small hf (by decide)).1
  have g := wf_good hw
  have hs0 := g.sp
  have h9 : p.span ≤ 59049 := Int.le_trans (spec_span hf (by decide)) (nine_le (by decide))
  have s1 := s1.mono (m := 1000000) (by show 0 + costS 3 ≤ _; omega)
  clear c3
  refine dcut_intro (fun ρ ω' => ω' = ω.put l c1 ∧ ρ = [some (.scr ns), some (.int c), some (.mref l), some f, some (.prog p), some (.lst (intsD (endsL p))), v6, v7, v8, v9, v10]) ?_ (fun ρ ω' hM => ?_)
  · have ea : tabD p = .tup [.lst (intsD (endsL p)), brD p.broken] := rfl
    simp only [dSeq, dAsg, dAsgT, dPar, dRet, dDrop, dIfS, dNext, dBreak, dCont, dFor, dIL, dIT, dIR1, dIR2, dIE, dIZ, oAdd, oSub, oMul, oDiv, oMod, oPow, oLt, oLe, oGt, oGe, atI_0, atI_1, atI_2, atI_3, atI_m1, ixN_0, ixN_1, ixN_2, Om.put_same, dVar, getK, dC, dNil, dCons, dOp, oI, oIC, oMulS, oEq, oNe, eqS, oIsN, oNotN, isNon, dTest, dAnd, dOr, dNot, dAndV, dOrV, dNotV, dIf, dTup, dLst, dLstM, dCall, dCB, dChain, asL, asQ, oIx, oIxL, oIxT, oCat, oCatM, oCatT, oNil, oIn, dNoPart, dPart, dSl, slL, slT, slLM, cMax2, cMin2, cLen, cList, cListM, cInt, cTuple, dFld, fldP, dMeth, oOwn, put_nm, put_tp, puts_nil, puts_cons, onS, dNeg, dRev, dSetI, dBM, mAppend, mExtend, mClear, mReverse, dYes, startD, List.map_cons, List.map_nil, List.length_cons, List.length_nil, List.set_cons_zero, List.set_cons_succ, List.cons_append, List.nil_append, Nat.reduceAdd, Nat.reduceSub, List.replicate_succ, List.replicate_zero, List.length_singleton, wipeD, decide_eq_true_eq, decide_eq_false_iff_not, reduceCtorEq, true_implies, false_implies, and_true, true_and, if_true, if_false, Bool.false_eq_true, Bool.not_true, Bool.not_false, Bool.not_eq_true', Bool.not_eq_false', Om.put_put, dLc, dLcM, dFrz, frzK, List.getElem?_cons_succ, List.getElem?_cons_zero, dMkP, dForM, dNever, cIs_int, cIs_bool, cIs_str, cIs_list, cIs_tuple, cIsP, tyNm, is_int, is_bool, is_str, is_list, is_tuple, N_law, sBuilt, sTable]
    refine ⟨p, 3, false, by decide, by decide, hf, p, 3, by decide, by decide, hf, ?_⟩
    simp only [dSeq, dAsg, dAsgT, dPar, dRet, dDrop, dIfS, dNext, dBreak, dCont, dFor, dIL, dIT, dIR1, dIR2, dIE, dIZ, oAdd, oSub, oMul, oDiv, oMod, oPow, oLt, oLe, oGt, oGe, atI_0, atI_1, atI_2, atI_3, atI_m1, ixN_0, ixN_1, ixN_2, Om.put_same, dVar, getK, dC, dNil, dCons, dOp, oI, oIC, oMulS, oEq, oNe, eqS, oIsN, oNotN, isNon, dTest, dAnd, dOr, dNot, dAndV, dOrV, dNotV, dIf, dTup, dLst, dLstM, dCall, dCB, dChain, asL, asQ, oIx, oIxL, oIxT, oCat, oCatM, oCatT, oNil, oIn, dNoPart, dPart, dSl, slL, slT, slLM, cMax2, cMin2, cLen, cList, cListM, cInt, cTuple, dFld, fldP, dMeth, oOwn, put_nm, put_tp, puts_nil, puts_cons, onS, dNeg, dRev, dSetI, dBM, mAppend, mExtend, mClear, mReverse, dYes, startD, List.map_cons, List.map_nil, List.length_cons, List.length_nil, List.set_cons_zero, List.set_cons_succ, List.cons_append, List.nil_append, Nat.reduceAdd, Nat.reduceSub, List.replicate_succ, List.replicate_zero, List.length_singleton, wipeD, decide_eq_true_eq, decide_eq_false_iff_not, reduceCtorEq, true_implies, false_implies, and_true, true_and, if_true, if_false, Bool.false_eq_true, Bool.not_true, Bool.not_false, Bool.not_eq_true', Bool.not_eq_false', Om.put_put, dLc, dLcM, dFrz, frzK, List.getElem?_cons_succ, List.getElem?_cons_zero, dMkP, dForM, dNever, cIs_int, cIs_bool, cIs_str, cIs_list, cIs_tuple, cIsP, tyNm, is_int, is_bool, is_str, is_list, is_tuple, N_law, ea]
  obtain ⟨rfl, rfl⟩ := hM
  have e1 : (intsD (endsL p)).length = p.span.toNat + 1 := by rw [intsD_len, endsL_len]
  refine dcut_intro (fun ρ ω' => ∃ v6 v7, ω' = ω.put l c1 ∧ ρ = [some (.scr ns), some (.int c), some (.mref l), some f, some (.prog p), some (.lst (intsD (endsL p))), v6, v7, v8, v9, v10]) ?_ (fun ρ ω' hM => ?_)
  · simp only [dSeq, dAsg, dAsgT, dPar, dRet, dDrop, dIfS, dNext, dBreak, dCont, dFor, dIL, dIT, dIR1, dIR2, dIE, dIZ, oAdd, oSub, oMul, oDiv, oMod, oPow, oLt, oLe, oGt, oGe, atI_0, atI_1, atI_2, atI_3, atI_m1, ixN_0, ixN_1, ixN_2, Om.put_same, dVar, getK, dC, dNil, dCons, dOp, oI, oIC, oMulS, oEq, oNe, eqS, oIsN, oNotN, isNon, dTest, dAnd, dOr, dNot, dAndV, dOrV, dNotV, dIf, dTup, dLst, dLstM, dCall, dCB, dChain, asL, asQ, oIx, oIxL, oIxT, oCat, oCatM, oCatT, oNil, oIn, dNoPart, dPart, dSl, slL, slT, slLM, cMax2, cMin2, cLen, cList, cListM, cInt, cTuple, dFld, fldP, dMeth, oOwn, put_nm, put_tp, puts_nil, puts_cons, onS, dNeg, dRev, dSetI, dBM, mAppend, mExtend, mClear, mReverse, dYes, startD, List.map_cons, List.map_nil, List.length_cons, List.length_nil, List.set_cons_zero, List.set_cons_succ, List.cons_append, List.nil_append, Nat.reduceAdd, Nat.reduceSub, List.replicate_succ, List.replicate_zero, List.length_singleton, wipeD, decide_eq_true_eq, decide_eq_false_iff_not, reduceCtorEq, true_implies, false_implies, and_true, true_and, if_true, if_false, Bool.false_eq_true, Bool.not_true, Bool.not_false, Bool.not_eq_true', Bool.not_eq_false', Om.put_put, dLc, dLcM, dFrz, frzK, List.getElem?_cons_succ, List.getElem?_cons_zero, dMkP, dForM, dNever, cIs_int, cIs_bool, cIs_str, cIs_list, cIs_tuple, cIsP, tyNm, is_int, is_bool, is_str, is_list, is_tuple, N_law, e1]
    refine ⟨by decide, by omega, ?_⟩
    refine forL_inv (fun i ρ ω' => ∃ v6 v7, ω' = ω.put l c1 ∧ ρ = [some (.scr ns), some (.int c), some (.mref l), some f, some (.prog p), some (.lst (intsD (endsL p))), v6, v7, v8, v9, v10]) (fun i d ρ ω' hd hI N hN => ?_) (fun ρ ω' hI => hI) ⟨_, _, rfl, rfl⟩
    obtain ⟨v6, v7, rfl, rfl⟩ := hI
    obtain ⟨x, hx, rfl⟩ := enumD_at hd
    have hx2 : ∃ e : Int, x = .int e ∧ max 0 (endA p i - i) = e - i := by
      by_cases z : i < p.span.toNat + 1
      · rw [List.getElem?_append_left (by rw [e1]; exact z)] at hx
        unfold intsD at hx
        rw [List.getElem?_map, endsL_at p (by omega)] at hx
        cases hx
        have lo := g.lo i (by omega) (by omega)
        exact ⟨_, rfl, by omega⟩
      · rw [List.getElem?_append_right (by rw [e1]; omega), e1] at hx
        have late : endA p i = p.span := endA_late (by omega)
        have : i - (p.span.toNat + 1) = 0 ∨ i - (p.span.toNat + 1) = 1 ∨ 2 ≤ i - (p.span.toNat + 1) := by omega
        rcases this with y | y | y
        · rw [y] at hx
          cases hx
          exact ⟨_, rfl, by omega⟩
        · rw [y] at hx
          cases hx
          exact ⟨_, rfl, by omega⟩
        · rw [List.getElem?_eq_none (by simpa using y)] at hx
          cases hx
    obtain ⟨e, rfl, he⟩ := hx2
    simp only [dSeq, dAsg, dAsgT, dPar, dRet, dDrop, dIfS, dNext, dBreak, dCont, dFor, dIL, dIT, dIR1, dIR2, dIE, dIZ, oAdd, oSub, oMul, oDiv, oMod, oPow, oLt, oLe, oGt, oGe, atI_0, atI_1, atI_2, atI_3, atI_m1, ixN_0, ixN_1, ixN_2, Om.put_same, dVar, getK, dC, dNil, dCons, dOp, oI, oIC, oMulS, oEq, oNe, eqS, oIsN, oNotN, isNon, dTest, dAnd, dOr, dNot, dAndV, dOrV, dNotV, dIf, dTup, dLst, dLstM, dCall, dCB, dChain, asL, asQ, oIx, oIxL, oIxT, oCat, oCatM, oCatT, oNil, oIn, dNoPart, dPart, dSl, slL, slT, slLM, cMax2, cMin2, cLen, cList, cListM, cInt, cTuple, dFld, fldP, dMeth, oOwn, put_nm, put_tp, puts_nil, puts_cons, onS, dNeg, dRev, dSetI, dBM, mAppend, mExtend, mClear, mReverse, dYes, startD, List.map_cons, List.map_nil, List.length_cons, List.length_nil, List.set_cons_zero, List.set_cons_succ, List.cons_append, List.nil_append, Nat.reduceAdd, Nat.reduceSub, List.replicate_succ, List.replicate_zero, List.length_singleton, wipeD, decide_eq_true_eq, decide_eq_false_iff_not, reduceCtorEq, true_implies, false_implies, and_true, true_and, if_true, if_false, Bool.false_eq_true, Bool.not_true, Bool.not_false, Bool.not_eq_true', Bool.not_eq_false', Om.put_put, dLc, dLcM, dFrz, frzK, List.getElem?_cons_succ, List.getElem?_cons_zero, dMkP, dForM, dNever, cIs_int, cIs_bool, cIs_str, cIs_list, cIs_tuple, cIsP, tyNm, is_int, is_bool, is_str, is_list, is_tuple, N_law, sOver]
    exact ⟨hw, by omega, fun z => absurd he z, fun _ => hN _ _ ⟨_, _, rfl, rfl⟩⟩
  obtain ⟨v6, v7, rfl, rfl⟩ := hM
  refine dcut_intro (fun ρ ω' => ∃ (p2 : Prog) (c2 : Cell), WF p2 ∧ SrcC c2 10000000 ∧ ω' = ω.put l c2 ∧ ρ = [some (.scr ns), some (.int c), some (.mref l), some f, some (.prog p), some (.lst (intsD (endsL p))), v6, v7, some (.prog p2), v9, v10]) ?_ (fun ρ ω' hM => ?_)
  · have c4 := costS_le (d := 4) (by decide)
    simp only [dSeq, dAsg, dAsgT, dPar, dRet, dDrop, dIfS, dNext, dBreak, dCont, dFor, dIL, dIT, dIR1, dIR2, dIE, dIZ, oAdd, oSub, oMul, oDiv, oMod, oPow, oLt, oLe, oGt, oGe, atI_0, atI_1, atI_2, atI_3, atI_m1, ixN_0, ixN_1, ixN_2, Om.put_same, dVar, getK, dC, dNil, dCons, dOp, oI, oIC, oMulS, oEq, oNe, eqS, oIsN, oNotN, isNon, dTest, dAnd, dOr, dNot, dAndV, dOrV, dNotV, dIf, dTup, dLst, dLstM, dCall, dCB, dChain, asL, asQ, oIx, oIxL, oIxT, oCat, oCatM, oCatT, oNil, oIn, dNoPart, dPart, dSl, slL, slT, slLM, cMax2, cMin2, cLen, cList, cListM, cInt, cTuple, dFld, fldP, dMeth, oOwn, put_nm, put_tp, puts_nil, puts_cons, onS, dNeg, dRev, dSetI, dBM, mAppend, mExtend, mClear, mReverse, dYes, startD, List.map_cons, List.map_nil, List.length_cons, List.length_nil, List.set_cons_zero, List.set_cons_succ, List.cons_append, List.nil_append, Nat.reduceAdd, Nat.reduceSub, List.replicate_succ, List.replicate_zero, List.length_singleton, wipeD, decide_eq_true_eq, decide_eq_false_iff_not, reduceCtorEq, true_implies, false_implies, and_true, true_and, if_true, if_false, Bool.false_eq_true, Bool.not_true, Bool.not_false, Bool.not_eq_true', Bool.not_eq_false', Om.put_put, dLc, dLcM, dFrz, frzK, List.getElem?_cons_succ, List.getElem?_cons_zero, dMkP, dForM, dNever, cIs_int, cIs_bool, cIs_str, cIs_list, cIs_tuple, cIsP, tyNm, is_int, is_bool, is_str, is_list, is_tuple, N_law, sSpec, sBuilt]
    refine ⟨1000000, by decide, by decide, s1, (by show 1000000 + costS 4 ≤ _; omega), fun f2 p2 c2 s2 hf2 => ⟨p2, 4, true, by decide, by decide, hf2, p2, c2, (spec_small hf2 (by decide)).1, s2.mono (by show 1000000 + costS 4 ≤ _; omega), rfl, rfl⟩⟩
  obtain ⟨p2, c2, hw2, s2, rfl, rfl⟩ := hM
  have hs2 := (wf_good hw2).sp
  have b2 : (p2.span + 2).natAbs < 2 ^ 8000 := by
    have h1 := span_bits hw2
    have h2 : (2 : Nat) ^ 6000 + 2 < 2 ^ 8000 := by decide +kernel
    generalize (2 : Nat) ^ 6000 = A at *
    generalize (2 : Nat) ^ 8000 = B at *
    omega
  refine dcut_intro (fun ρ ω' => ∃ (v6 v9 : Option D) (c3 : Cell), ω' = ω.put l c3 ∧ ρ = [some (.scr ns), some (.int c), some (.mref l), some f, some (.prog p), some (.lst (intsD (endsL p))), v6, v7, some (.prog p2), v9, v10]) ?_ (fun ρ ω' hM => ?_)
  · simp only [dSeq, dAsg, dAsgT, dPar, dRet, dDrop, dIfS, dNext, dBreak, dCont, dFor, dIL, dIT, dIR1, dIR2, dIE, dIZ, oAdd, oSub, oMul, oDiv, oMod, oPow, oLt, oLe, oGt, oGe, atI_0, atI_1, atI_2, atI_3, atI_m1, ixN_0, ixN_1, ixN_2, Om.put_same, dVar, getK, dC, dNil, dCons, dOp, oI, oIC, oMulS, oEq, oNe, eqS, oIsN, oNotN, isNon, dTest, dAnd, dOr, dNot, dAndV, dOrV, dNotV, dIf, dTup, dLst, dLstM, dCall, dCB, dChain, asL, asQ, oIx, oIxL, oIxT, oCat, oCatM, oCatT, oNil, oIn, dNoPart, dPart, dSl, slL, slT, slLM, cMax2, cMin2, cLen, cList, cListM, cInt, cTuple, dFld, fldP, dMeth, oOwn, put_nm, put_tp, puts_nil, puts_cons, onS, dNeg, dRev, dSetI, dBM, mAppend, mExtend, mClear, mReverse, dYes, startD, List.map_cons, List.map_nil, List.length_cons, List.length_nil, List.set_cons_zero, List.set_cons_succ, List.cons_append, List.nil_append, Nat.reduceAdd, Nat.reduceSub, List.replicate_succ, List.replicate_zero, List.length_singleton, wipeD, decide_eq_true_eq, decide_eq_false_iff_not, reduceCtorEq, true_implies, false_implies, and_true, true_and, if_true, if_false, Bool.false_eq_true, Bool.not_true, Bool.not_false, Bool.not_eq_true', Bool.not_eq_false', Om.put_put, dLc, dLcM, dFrz, frzK, List.getElem?_cons_succ, List.getElem?_cons_zero, dMkP, dForM, dNever, cIs_int, cIs_bool, cIs_str, cIs_list, cIs_tuple, cIsP, tyNm, is_int, is_bool, is_str, is_list, is_tuple, N_law]
    refine ⟨by decide, by decide, ?_⟩
    refine forL_inv (fun i ρ ω' => ∃ (v6 v9 : Option D) (c3 : Cell), i ≤ 8 ∧ SrcC c3 (10000000 + 300 * i) ∧ ω' = ω.put l c3 ∧ ρ = [some (.scr ns), some (.int c), some (.mref l), some f, some (.prog p), some (.lst (intsD (endsL p))), v6, v7, some (.prog p2), v9, v10]) (fun i d ρ ω' hd hI N hN => ?_) (fun ρ ω' hI => ?_) ⟨_, _, c2, by decide, s2, rfl, rfl⟩
    · obtain ⟨v6, v9, c3, i8, s3, rfl, rfl⟩ := hI
      have hi8 : i < 8 := (List.getElem?_eq_some_iff.mp hd).1
      simp only [put_nm, onS, List.set_cons_zero, List.set_cons_succ]
      refine dcut_intro (fun ρ ω' => ∃ (a : Int) (c4 : Cell), 0 ≤ a ∧ SrcC c4 (10000000 + 300 * (i + 1)) ∧ ω' = ω.put l c4 ∧ ρ = [some (.scr ns), some (.int c), some (.mref l), some f, some (.prog p), some (.lst (intsD (endsL p))), some (.int a), v7, some (.prog p2), some d, v10]) ?_ (fun ρ ω' hM => ?_)
      · simp only [dSeq, dAsg, dAsgT, dPar, dRet, dDrop, dIfS, dNext, dBreak, dCont, dFor, dIL, dIT, dIR1, dIR2, dIE, dIZ, oAdd, oSub, oMul, oDiv, oMod, oPow, oLt, oLe, oGt, oGe, atI_0, atI_1, atI_2, atI_3, atI_m1, ixN_0, ixN_1, ixN_2, Om.put_same, dVar, getK, dC, dNil, dCons, dOp, oI, oIC, oMulS, oEq, oNe, eqS, oIsN, oNotN, isNon, dTest, dAnd, dOr, dNot, dAndV, dOrV, dNotV, dIf, dTup, dLst, dLstM, dCall, dCB, dChain, asL, asQ, oIx, oIxL, oIxT, oCat, oCatM, oCatT, oNil, oIn, dNoPart, dPart, dSl, slL, slT, slLM, cMax2, cMin2, cLen, cList, cListM, cInt, cTuple, dFld, fldP, dMeth, oOwn, put_nm, put_tp, puts_nil, puts_cons, onS, dNeg, dRev, dSetI, dBM, mAppend, mExtend, mClear, mReverse, dYes, startD, List.map_cons, List.map_nil, List.length_cons, List.length_nil, List.set_cons_zero, List.set_cons_succ, List.cons_append, List.nil_append, Nat.reduceAdd, Nat.reduceSub, List.replicate_succ, List.replicate_zero, List.length_singleton, wipeD, decide_eq_true_eq, decide_eq_false_iff_not, reduceCtorEq, true_implies, false_implies, and_true, true_and, if_true, if_false, Bool.false_eq_true, Bool.not_true, Bool.not_false, Bool.not_eq_true', Bool.not_eq_false', Om.put_put, dLc, dLcM, dFrz, frzK, List.getElem?_cons_succ, List.getElem?_cons_zero, dMkP, dForM, dNever, cIs_int, cIs_bool, cIs_str, cIs_list, cIs_tuple, cIsP, tyNm, is_int, is_bool, is_str, is_list, is_tuple, N_law, sDraw, dMeth, sAsk]
        refine ⟨_, s3, by omega, by omega, b2, fun r c4 r0 r1 s4 => ⟨r, c4, r0, s4.mono (by omega), rfl, rfl⟩⟩
      obtain ⟨a, c4, a0, s4, rfl, rfl⟩ := hM
      simp only [dSeq, dAsg, dAsgT, dPar, dRet, dDrop, dIfS, dNext, dBreak, dCont, dFor, dIL, dIT, dIR1, dIR2, dIE, dIZ, oAdd, oSub, oMul, oDiv, oMod, oPow, oLt, oLe, oGt, oGe, atI_0, atI_1, atI_2, atI_3, atI_m1, ixN_0, ixN_1, ixN_2, Om.put_same, dVar, getK, dC, dNil, dCons, dOp, oI, oIC, oMulS, oEq, oNe, eqS, oIsN, oNotN, isNon, dTest, dAnd, dOr, dNot, dAndV, dOrV, dNotV, dIf, dTup, dLst, dLstM, dCall, dCB, dChain, asL, asQ, oIx, oIxL, oIxT, oCat, oCatM, oCatT, oNil, oIn, dNoPart, dPart, dSl, slL, slT, slLM, cMax2, cMin2, cLen, cList, cListM, cInt, cTuple, dFld, fldP, dMeth, oOwn, put_nm, put_tp, puts_nil, puts_cons, onS, dNeg, dRev, dSetI, dBM, mAppend, mExtend, mClear, mReverse, dYes, startD, List.map_cons, List.map_nil, List.length_cons, List.length_nil, List.set_cons_zero, List.set_cons_succ, List.cons_append, List.nil_append, Nat.reduceAdd, Nat.reduceSub, List.replicate_succ, List.replicate_zero, List.length_singleton, wipeD, decide_eq_true_eq, decide_eq_false_iff_not, reduceCtorEq, true_implies, false_implies, and_true, true_and, if_true, if_false, Bool.false_eq_true, Bool.not_true, Bool.not_false, Bool.not_eq_true', Bool.not_eq_false', Om.put_put, dLc, dLcM, dFrz, frzK, List.getElem?_cons_succ, List.getElem?_cons_zero, dMkP, dForM, dNever, cIs_int, cIs_bool, cIs_str, cIs_list, cIs_tuple, cIsP, tyNm, is_int, is_bool, is_str, is_list, is_tuple, N_law, sOver, sEnd, sRev, List.reverse_cons, List.reverse_nil, List.nil_append, List.cons_append]
      exact ⟨hw2, a0, hw2, a0, fun z => absurd trivial z, hw2, a0, hw2, a0, fun z => absurd trivial z, hN _ _ ⟨_, _, c4, by omega, s4, rfl, rfl⟩⟩
    · obtain ⟨v6, v9, c3, _, _, rfl, rfl⟩ := hI
      exact ⟨_, _, _, rfl, rfl⟩
  obtain ⟨v6, v9, c3, rfl, rfl⟩ := hM
  simp only [dSeq, dAsg, dAsgT, dPar, dRet, dDrop, dIfS, dNext, dBreak, dCont, dFor, dIL, dIT, dIR1, dIR2, dIE, dIZ, oAdd, oSub, oMul, oDiv, oMod, oPow, oLt, oLe, oGt, oGe, atI_0, atI_1, atI_2, atI_3, atI_m1, ixN_0, ixN_1, ixN_2, Om.put_same, dVar, getK, dC, dNil, dCons, dOp, oI, oIC, oMulS, oEq, oNe, eqS, oIsN, oNotN, isNon, dTest, dAnd, dOr, dNot, dAndV, dOrV, dNotV, dIf, dTup, dLst, dLstM, dCall, dCB, dChain, asL, asQ, oIx, oIxL, oIxT, oCat, oCatM, oCatT, oNil, oIn, dNoPart, dPart, dSl, slL, slT, slLM, cMax2, cMin2, cLen, cList, cListM, cInt, cTuple, dFld, fldP, dMeth, oOwn, put_nm, put_tp, puts_nil, puts_cons, onS, dNeg, dRev, dSetI, dBM, mAppend, mExtend, mClear, mReverse, dYes, startD, List.map_cons, List.map_nil, List.length_cons, List.length_nil, List.set_cons_zero, List.set_cons_succ, List.cons_append, List.nil_append, Nat.reduceAdd, Nat.reduceSub, List.replicate_succ, List.replicate_zero, List.length_singleton, wipeD, decide_eq_true_eq, decide_eq_false_iff_not, reduceCtorEq, true_implies, false_implies, and_true, true_and, if_true, if_false, Bool.false_eq_true, Bool.not_true, Bool.not_false, Bool.not_eq_true', Bool.not_eq_false', Om.put_put, dLc, dLcM, dFrz, frzK, List.getElem?_cons_succ, List.getElem?_cons_zero, dMkP, dForM, dNever, cIs_int, cIs_bool, cIs_str, cIs_list, cIs_tuple, cIsP, tyNm, is_int, is_bool, is_str, is_list, is_tuple, N_law, dEdct]
  refine ⟨by decide, by decide, by decide, ?_⟩
  refine forL_inv (fun i ρ ω' => ∃ (v10 : Option D), ρ = [some (.scr ns), some (.int c), some (.mref l), some f, some (.prog p), some (.lst (intsD (endsL p))), v6, v7, some (.prog p2), v9, v10]) (fun i d ρ ω' hd hI M hM => ?_) (fun ρ ω' hI => ?_) ⟨_, rfl⟩
  · obtain ⟨v10, rfl⟩ := hI
    have hb : BadL d := by
      have hm := List.mem_of_getElem? hd
      simp only [List.mem_cons, List.not_mem_nil, or_false] at hm
      have s3 : ShortI 3 := by
        refine ⟨by decide, ?_, ?_⟩ <;> decide +kernel
      rcases hm with rfl | rfl | rfl | rfl | rfl | rfl | rfl | rfl
      · exact .inl ⟨⟨trivial, .inl trivial⟩, fun _ _ z => nomatch z⟩
      · exact .inl ⟨⟨trivial, .inl trivial⟩, fun _ _ z => nomatch z⟩
      · exact .inl ⟨⟨by show ((-1 : Int)).natAbs.log2 < 1920; decide, .inr ⟨_, rfl, by decide⟩⟩, fun _ _ z => nomatch z⟩
      · exact .inl ⟨⟨by show (reprText _).length ≤ _; decide +kernel, .inl trivial⟩, fun _ _ z => nomatch z⟩
      · exact .inr s3
      · exact .inr s3
      · exact .inr trivial
      · exact .inl ⟨⟨trivial, .inl trivial⟩, fun _ _ z => nomatch z⟩
    simp only [dSeq, dAsg, dAsgT, dPar, dRet, dDrop, dIfS, dNext, dBreak, dCont, dFor, dIL, dIT, dIR1, dIR2, dIE, dIZ, oAdd, oSub, oMul, oDiv, oMod, oPow, oLt, oLe, oGt, oGe, atI_0, atI_1, atI_2, atI_3, atI_m1, ixN_0, ixN_1, ixN_2, Om.put_same, dVar, getK, dC, dNil, dCons, dOp, oI, oIC, oMulS, oEq, oNe, eqS, oIsN, oNotN, isNon, dTest, dAnd, dOr, dNot, dAndV, dOrV, dNotV, dIf, dTup, dLst, dLstM, dCall, dCB, dChain, asL, asQ, oIx, oIxL, oIxT, oCat, oCatM, oCatT, oNil, oIn, dNoPart, dPart, dSl, slL, slT, slLM, cMax2, cMin2, cLen, cList, cListM, cInt, cTuple, dFld, fldP, dMeth, oOwn, put_nm, put_tp, puts_nil, puts_cons, onS, dNeg, dRev, dSetI, dBM, mAppend, mExtend, mClear, mReverse, dYes, startD, List.map_cons, List.map_nil, List.length_cons, List.length_nil, List.set_cons_zero, List.set_cons_succ, List.cons_append, List.nil_append, Nat.reduceAdd, Nat.reduceSub, List.replicate_succ, List.replicate_zero, List.length_singleton, wipeD, decide_eq_true_eq, decide_eq_false_iff_not, reduceCtorEq, true_implies, false_implies, and_true, true_and, if_true, if_false, Bool.false_eq_true, Bool.not_true, Bool.not_false, Bool.not_eq_true', Bool.not_eq_false', Om.put_put, dLc, dLcM, dFrz, frzK, List.getElem?_cons_succ, List.getElem?_cons_zero, dMkP, dForM, dNever, cIs_int, cIs_bool, cIs_str, cIs_list, cIs_tuple, cIsP, tyNm, is_int, is_bool, is_str, is_list, is_tuple, N_law, sRefusedL]
    exact ⟨hw, hb, hw2, hb, hM _ _ ⟨_, rfl⟩⟩
  · obtain ⟨v10, rfl⟩ := hI
    exact hN _ _ ⟨_, _, _, _, _, _, _, _, _, _, rfl⟩
end
end Cu

/-! == End -/
set_option maxHeartbeats 4000000
namespace Cu
open PySem PySem.Spec PyProof.Rows L2 Evl CuT
/-- nothing is raised -/
theorem ok_calm {P : Program} {w : World} {K : PySem.W.Frag} {mg : Str → Option Value} {base : Heap} {k : Nat} {f : Addr} {fd : FuncData} {ps : List Str} (F : FnOk P w K mg base (L2.CX P w) k f fd ps (spLaw K)) : FnOk P w K mg base CX0 k f fd ps (spLaw K) := by
  refine ⟨F.len, fun A outer s H args us vs Q E hr e0 b r h => ?_⟩
  refine codeAny_mono (F.run A outer s H args us vs Q L2.E0 hr e0 b r h) fun rs s' hq => ?_
  cases rs with
  | error e =>
    obtain ⟨_, _, _, _, _, _, _, _, _, _, _, _, z⟩ := hq
    exact z.elim
  | ok fl =>
    cases fl with
    | ret u => exact hq
    | next => exact False.elim hq
    | brk => exact False.elim hq
    | cont => exact False.elim hq
theorem law_facts {P : Program} {w : World} {K : PySem.W.Frag} {h hh : Heap} {mg : Str → Option Value} {f : Addr} (X : K.In h) (G : h.Ns mainGlobals mg) (hfa : mg ("law" : Str) = some (.ref f)) (c : He.SaysX fa fn [] tf ex w hh K) :
    ∃ fd : FuncData, (∀ (s : Shared) (v : Value), BindsTo s fd ⟨[v], []⟩ [("_law_script", v)]) ∧ ∀ base : Heap, K.In base → base.Ns mainGlobals mg → FnOk P w K mg base CX0 184 f fd ["_law_script"] (spLaw K) := by
  have T := txt_of X G c
  have e := hfa.symm.trans T.g_law
  cases e
  obtain ⟨fd, F⟩ := T.f_law
  have b := FunD.bindsA (ps := ["_law_script"]) F fun _ _ _ _ _ _ us hl => match us, hl with | [_], _ => rfl
  exact ⟨fd, fun s v => b s [v] rfl, fun base _ _ => ok_calm (r_law T F)⟩
end Cu
open PySem PySem.W PySem.Calls PyProof.Rows
theorem PySem.Challenge.cw_cutends_k10_overruns_at_cuts_holds : PySem.Challenge.rw_cutends_k10_overruns_at_cuts.Holds := by
  w_on; o_law
  refine HandSHeadRun.head_any (r := CuT.R) (q := view CuT.R.prog [57]) (H := CuT.hk) (ob := CuT.ob) (M := 12000) (loose := CuT.loose) (d := HandSHeadRun.topDef CuT.R.prog 57) (kwd := []) CuT.ob_eq
    (by kernel_rfl) (fun s => by kernel_rfl) CuT.run (by kernel_rfl) (by kernel_rfl) (by kernel_rfl) (by rfl) (by first | assumption | decide +kernel) (by decide +kernel) ⟨rfl, rfl, rfl, rfl, rfl, by decide +kernel⟩ ?hw ?hc
  case hw => w_witness2
  case hc =>
    refine L2.walk_ofE (l := PySem.Challenge.rw_cutends_k10_overruns_at_cuts) (n := 63) (k := 184) (x := "_law_script") (CX := L2.CX0) rfl (by decide) (by kernel_rfl) ⟨rfl, by decide, by decide⟩ ?F (fun _ _ _ _ z => z)
    intro w mg fa h Y G hmg0
    obtain ⟨K, KX, c⟩ := Y
    have hmg : mg ("law" : PySem.Str) = some (.ref fa) := by
      have e : (HandSHeadRun.topDef CuT.R.prog 57).name = ("law" : PySem.Str) := by kernel_rfl
      rw [← e]
      exact hmg0
    obtain ⟨fd, hb, hF⟩ := Cu.law_facts (P := (PySem.Challenge.rw_cutends_k10_overruns_at_cuts).prog) (w := w) KX G hmg c
    exact ⟨K, fd, Cu.spLaw K, KX, hb, fun H a ns hl _ hS => ⟨a, ns, rfl, hS, hl, fun _ => rfl⟩, hF⟩
