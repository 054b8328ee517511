import PyProof.Rows.All
import Wide.All
import OpenK.AllK
import Wide.FinOn
import KE.KStateDown
import HandS.Base
import HandS.Call
import HandS.List
import HandS.Comp
import HandS.Ends
import HandS.Dict
import HandS.Iter
import HandS.Text
import HandS.More
import HandS.Words
import HandS.WordsList
import HandS.WordsDict
import HandS.Exc
import HandS.TryOnly
import HandS.ExcOwn
import HandS.ExcInit
import HandS.ExcSuper
import HandS.WordsExc
import HandS.Defaults
import HandS.Star
import HandS.Codes
import HandS.DictComp
import HandS.Rev
import HandS.RevRange
import HandS.TupAny
import HandS.Wide
import HandS.Flow
import HandS.Style
import HandS.Head0
import HandS.Head1
import HandS.Head2
import HandS.HeadEnd
import HandS.HeadHook1
import HandS.HeadHook2
import HandS.HeadHook3
import HandS.HeadHook4
import PySem.Challenge.RW_askedfor_k44_whole_early_ends
import HandS.ExcField
import KE.KSuper
import KE.KExcSuper
import HandS.Zip
import HandS.Conv
set_option Elab.async false
set_option linter.all false
set_option maxRecDepth 100000
set_option maxHeartbeats 0
namespace AF
open PySem PySem.Spec PyProof.Rows L2
/-! ### the text by places -/
def topS (i : Nat) : Stmt := PySem.Challenge.pw_askedfor_k44_whole_early_ends.main.body.getD i (.Pass ⟨0, 0, 0, 0⟩)
abbrev s_parts : Stmt := topS 2
theorem sc_parts : FnScope ["expression", "head", "inner", "clause"] ["expression"] (defScope s_parts) := ⟨rfl, rfl, rfl, by decide +kernel, rfl, by decide +kernel, by decide +kernel⟩
abbrev s_with_parts : Stmt := topS 3
theorem sc_with_parts : FnScope ["expression", "inner", "head", "clauses", "clause", "body"] ["expression", "inner"] (defScope s_with_parts) := ⟨rfl, rfl, rfl, by decide +kernel, rfl, by decide +kernel, by decide +kernel⟩
abbrev s_bound_names : Stmt := topS 4
theorem sc_bound_names : FnScope ["expression", "head", "part", "clause"] ["expression"] (defScope s_bound_names) := ⟨rfl, rfl, rfl, by decide +kernel, rfl, by decide +kernel, by decide +kernel⟩
abbrev s_put_in : Stmt := topS 7
theorem sc_put_in : FnScope ["expression", "name", "tree", "inner", "part", "names"] ["expression", "name", "tree"] (defScope s_put_in) := ⟨rfl, rfl, rfl, by decide +kernel, rfl, by decide +kernel, by decide +kernel⟩
abbrev s_operated : Stmt := topS 11
theorem sc_operated : FnScope ["sign", "one", "two", "number"] ["sign", "one", "two"] (defScope s_operated) := ⟨rfl, rfl, rfl, by decide +kernel, rfl, by decide +kernel, by decide +kernel⟩
abbrev s_is_value : Stmt := topS 12
theorem sc_is_value : FnScope ["tree"] ["tree"] (defScope s_is_value) := ⟨rfl, rfl, rfl, by decide +kernel, rfl, by decide +kernel, by decide +kernel⟩
abbrev s_shape : Stmt := topS 13
theorem sc_shape : FnScope ["value"] ["value"] (defScope s_shape) := ⟨rfl, rfl, rfl, by decide +kernel, rfl, by decide +kernel, by decide +kernel⟩
abbrev s_quoted : Stmt := topS 14
theorem sc_quoted : FnScope ["value"] ["value"] (defScope s_quoted) := ⟨rfl, rfl, rfl, by decide +kernel, rfl, by decide +kernel, by decide +kernel⟩
abbrev s_Run__init__ : Stmt := inClass (topS 15) 0
theorem sc_Run__init__ : FnScope ["self", "expression", "steps"] ["self", "expression", "steps"] (defScope s_Run__init__) := ⟨rfl, rfl, rfl, by decide +kernel, rfl, by decide +kernel, by decide +kernel⟩
abbrev s_Run_counted : Stmt := inClass (topS 15) 1
theorem sc_Run_counted : FnScope ["self"] ["self"] (defScope s_Run_counted) := ⟨rfl, rfl, rfl, by decide +kernel, rfl, by decide +kernel, by decide +kernel⟩
abbrev s_Run_begin : Stmt := inClass (topS 15) 2
theorem sc_Run_begin : FnScope ["self", "head"] ["self"] (defScope s_Run_begin) := ⟨rfl, rfl, rfl, by decide +kernel, rfl, by decide +kernel, by decide +kernel⟩
abbrev s_Run_go_on : Stmt := inClass (topS 15) 3
theorem sc_Run_go_on : FnScope ["self", "frame", "value", "head"] ["self"] (defScope s_Run_go_on) := ⟨rfl, rfl, rfl, by decide +kernel, rfl, by decide +kernel, by decide +kernel⟩
abbrev s_Run_ask : Stmt := inClass (topS 15) 6
theorem sc_Run_ask : FnScope ["self", "name", "value", "place", "frame", "clause"] ["self", "name", "value"] (defScope s_Run_ask) := ⟨rfl, rfl, rfl, by decide +kernel, rfl, by decide +kernel, by decide +kernel⟩
abbrev s_Run_answer : Stmt := inClass (topS 15) 7
theorem sc_Run_answer : FnScope ["self", "place", "clause", "value", "kept", "body"] ["self", "place", "clause", "value"] (defScope s_Run_answer) := ⟨rfl, rfl, rfl, by decide +kernel, rfl, by decide +kernel, by decide +kernel⟩
abbrev s_run_plain : Stmt := topS 16
theorem sc_run_plain : FnScope ["expression", "steps", "run"] ["expression", "steps"] (defScope s_run_plain) := ⟨rfl, rfl, rfl, by decide +kernel, rfl, by decide +kernel, by decide +kernel⟩
abbrev s_Stop__init__ : Stmt := inClass (topS 19) 0
abbrev s_looked_up : Stmt := topS 20
theorem sc_looked_up : FnScope ["env", "name"] ["env", "name"] (defScope s_looked_up) := ⟨rfl, rfl, rfl, by decide +kernel, rfl, by decide +kernel, by decide +kernel⟩
abbrev s_calculated : Stmt := topS 21
theorem sc_calculated : FnScope ["sign", "one", "two", "numbers"] ["sign", "one", "two"] (defScope s_calculated) := ⟨rfl, rfl, rfl, by decide +kernel, rfl, by decide +kernel, by decide +kernel⟩
abbrev s_value_shape : Stmt := topS 22
theorem sc_value_shape : FnScope ["value"] ["value"] (defScope s_value_shape) := ⟨rfl, rfl, rfl, by decide +kernel, rfl, by decide +kernel, by decide +kernel⟩
abbrev s_Machine__init__ : Stmt := inClass (topS 23) 0
theorem sc_Machine__init__ : FnScope ["self", "steps"] ["self", "steps"] (defScope s_Machine__init__) := ⟨rfl, rfl, rfl, by decide +kernel, rfl, by decide +kernel, by decide +kernel⟩
abbrev s_Machine_step : Stmt := inClass (topS 23) 1
theorem sc_Machine_step : FnScope ["self"] ["self"] (defScope s_Machine_step) := ⟨rfl, rfl, rfl, by decide +kernel, rfl, by decide +kernel, by decide +kernel⟩
abbrev s_Machine_wait : Stmt := inClass (topS 23) 2
theorem sc_Machine_wait : FnScope ["self", "frame"] ["self", "frame"] (defScope s_Machine_wait) := ⟨rfl, rfl, rfl, by decide +kernel, rfl, by decide +kernel, by decide +kernel⟩
abbrev s_Machine_add_piece : Stmt := inClass (topS 23) 3
theorem sc_Machine_add_piece : FnScope ["self", "handler", "frames"] ["self", "handler", "frames"] (defScope s_Machine_add_piece) := ⟨rfl, rfl, rfl, by decide +kernel, rfl, by decide +kernel, by decide +kernel⟩
abbrev s_Machine_run : Stmt := inClass (topS 23) 4
theorem sc_Machine_run : FnScope ["self", "expression", "current", "env", "value", "frame"] ["self", "expression"] (defScope s_Machine_run) := ⟨rfl, rfl, rfl, by decide +kernel, rfl, by decide +kernel, by decide +kernel⟩
abbrev s_Machine_handled : Stmt := inClass (topS 23) 5
theorem sc_Machine_handled : FnScope ["self", "value", "name", "body", "clauses", "env"] ["self", "value"] (defScope s_Machine_handled) := ⟨rfl, rfl, rfl, by decide +kernel, rfl, by decide +kernel, by decide +kernel⟩
abbrev s_Machine_begin : Stmt := inClass (topS 23) 6
theorem sc_Machine_begin : FnScope ["self", "current", "env", "head"] ["self", "current", "env"] (defScope s_Machine_begin) := ⟨rfl, rfl, rfl, by decide +kernel, rfl, by decide +kernel, by decide +kernel⟩
abbrev s_Machine_resume : Stmt := inClass (topS 23) 7
theorem sc_Machine_resume : FnScope ["self", "frame", "value", "head"] ["self", "frame", "value"] (defScope s_Machine_resume) := ⟨rfl, rfl, rfl, by decide +kernel, rfl, by decide +kernel, by decide +kernel⟩
abbrev s_Machine_ask : Stmt := inClass (topS 23) 9
theorem sc_Machine_ask : FnScope ["self", "name", "value", "place", "last", "body", "clauses", "env", "clause"] ["self", "name", "value"] (defScope s_Machine_ask) := ⟨rfl, rfl, rfl, by decide +kernel, rfl, by decide +kernel, by decide +kernel⟩
abbrev s_Machine_answer : Stmt := inClass (topS 23) 10
theorem sc_Machine_answer : FnScope ["self", "place", "clause", "value", "env", "taken", "pieces", "inner", "handler", "frames"] ["self", "place", "clause", "value", "env"] (defScope s_Machine_answer) := ⟨rfl, rfl, rfl, by decide +kernel, rfl, by decide +kernel, by decide +kernel⟩
abbrev s_run_counted : Stmt := topS 24
theorem sc_run_counted : FnScope ["expression", "steps", "machine", "end", "stop"] ["expression", "steps"] (defScope s_run_counted) := ⟨rfl, rfl, rfl, by decide +kernel, rfl, by decide +kernel, by decide +kernel⟩
abbrev s_run_machine : Stmt := topS 25
theorem sc_run_machine : FnScope ["expression", "steps", "prints", "end", "measures"] ["expression", "steps"] (defScope s_run_machine) := ⟨rfl, rfl, rfl, by decide +kernel, rfl, by decide +kernel, by decide +kernel⟩
abbrev s_Piece__init__ : Stmt := inClass (topS 31) 0
theorem sc_Piece__init__ : FnScope ["self", "kind", "handler", "frames", "distance"] ["self", "kind", "handler", "frames", "distance"] (defScope s_Piece__init__) := ⟨rfl, rfl, rfl, by decide +kernel, rfl, by decide +kernel, by decide +kernel⟩
abbrev s_Piece_frozen : Stmt := inClass (topS 31) 1
theorem sc_Piece_frozen : FnScope ["self"] ["self"] (defScope s_Piece_frozen) := ⟨rfl, rfl, rfl, by decide +kernel, rfl, by decide +kernel, by decide +kernel⟩
abbrev s_Runner__init__ : Stmt := inClass (topS 32) 0
theorem sc_Runner__init__ : FnScope ["self", "code", "steps"] ["self", "code", "steps"] (defScope s_Runner__init__) := ⟨rfl, rfl, rfl, by decide +kernel, rfl, by decide +kernel, by decide +kernel⟩
abbrev s_Runner_enter : Stmt := inClass (topS 32) 1
theorem sc_Runner_enter : FnScope ["self", "block", "bindings"] ["self", "block", "bindings"] (defScope s_Runner_enter) := ⟨rfl, rfl, rfl, by decide +kernel, rfl, by decide +kernel, by decide +kernel⟩
abbrev s_Runner_counted : Stmt := inClass (topS 32) 2
theorem sc_Runner_counted : FnScope ["self"] ["self"] (defScope s_Runner_counted) := ⟨rfl, rfl, rfl, by decide +kernel, rfl, by decide +kernel, by decide +kernel⟩
abbrev s_Runner_save : Stmt := inClass (topS 32) 3
theorem sc_Runner_save : FnScope ["self", "frame"] ["self"] (defScope s_Runner_save) := ⟨rfl, rfl, rfl, by decide +kernel, rfl, by decide +kernel, by decide +kernel⟩
abbrev s_Runner_add_piece : Stmt := inClass (topS 32) 4
theorem sc_Runner_add_piece : FnScope ["self", "piece", "below", "more", "name"] ["self", "piece"] (defScope s_Runner_add_piece) := ⟨rfl, rfl, rfl, by decide +kernel, rfl, by decide +kernel, by decide +kernel⟩
abbrev s_Runner_deliver : Stmt := inClass (topS 32) 5
theorem sc_Runner_deliver : FnScope ["self", "value", "piece", "operands"] ["self", "value"] (defScope s_Runner_deliver) := ⟨rfl, rfl, rfl, by decide +kernel, rfl, by decide +kernel, by decide +kernel⟩
abbrev s_Runner_ask : Stmt := inClass (topS 32) 7
theorem sc_Runner_ask : FnScope ["self", "name", "value", "table", "place", "handler", "block", "in_place", "answer", "piece"] ["self", "name"] (defScope s_Runner_ask) := ⟨rfl, rfl, rfl, by decide +kernel, rfl, by decide +kernel, by decide +kernel⟩
abbrev s_Runner_handle : Stmt := inClass (topS 32) 8
theorem sc_Runner_handle : FnScope ["self", "row", "bindings"] ["self", "row"] (defScope s_Runner_handle) := ⟨rfl, rfl, rfl, by decide +kernel, rfl, by decide +kernel, by decide +kernel⟩
abbrev s_Runner_step : Stmt := inClass (topS 32) 9
theorem sc_Runner_step : FnScope ["self", "row", "head", "bindings", "_"] ["self"] (defScope s_Runner_step) := ⟨rfl, rfl, rfl, by decide +kernel, rfl, by decide +kernel, by decide +kernel⟩
abbrev s_Runner_move : Stmt := inClass (topS 32) 10
theorem sc_Runner_move : FnScope ["self", "row", "value"] ["self", "row"] (defScope s_Runner_move) := ⟨rfl, rfl, rfl, by decide +kernel, rfl, by decide +kernel, by decide +kernel⟩
abbrev s_Runner_worked : Stmt := inClass (topS 32) 11
theorem sc_Runner_worked : FnScope ["self", "row", "value", "first"] ["self", "row"] (defScope s_Runner_worked) := ⟨rfl, rfl, rfl, by decide +kernel, rfl, by decide +kernel, by decide +kernel⟩
abbrev s_run_kept : Stmt := topS 33
theorem sc_run_kept : FnScope ["code", "steps", "runner"] ["code", "steps"] (defScope s_run_kept) := ⟨rfl, rfl, rfl, by decide +kernel, rfl, by decide +kernel, by decide +kernel⟩
abbrev s_run_code : Stmt := topS 34
theorem sc_run_code : FnScope ["code", "steps", "prints", "end", "kept"] ["code", "steps"] (defScope s_run_code) := ⟨rfl, rfl, rfl, by decide +kernel, rfl, by decide +kernel, by decide +kernel⟩
abbrev s_answers : Stmt := topS 36
theorem sc_answers : FnScope ["body", "kept", "head", "is_free", "part"] ["body", "kept"] (defScope s_answers) := ⟨rfl, rfl, rfl, by decide +kernel, rfl, by decide +kernel, by decide +kernel⟩
abbrev s_answers_at_once : Stmt := topS 37
theorem sc_answers_at_once : FnScope ["clause"] ["clause"] (defScope s_answers_at_once) := ⟨rfl, rfl, rfl, by decide +kernel, rfl, by decide +kernel, by decide +kernel⟩
abbrev s_Code__init__ : Stmt := inClass (topS 40) 0
theorem sc_Code__init__ : FnScope ["self", "blocks"] ["self", "blocks"] (defScope s_Code__init__) := ⟨rfl, rfl, rfl, by decide +kernel, rfl, by decide +kernel, by decide +kernel⟩
abbrev s_Compiler__init__ : Stmt := inClass (topS 42) 0
theorem sc_Compiler__init__ : FnScope ["self"] ["self"] (defScope s_Compiler__init__) := ⟨rfl, rfl, rfl, by decide +kernel, rfl, by decide +kernel, by decide +kernel⟩
abbrev s_Compiler_block : Stmt := inClass (topS 42) 1
theorem sc_Compiler_block : FnScope ["self", "expression", "names"] ["self", "expression", "names"] (defScope s_Compiler_block) := ⟨rfl, rfl, rfl, by decide +kernel, rfl, by decide +kernel, by decide +kernel⟩
abbrev s_Compiler_compile_all : Stmt := inClass (topS 42) 2
theorem sc_Compiler_compile_all : FnScope ["self", "expression", "names", "rows"] ["self"] (defScope s_Compiler_compile_all) := ⟨rfl, rfl, rfl, by decide +kernel, rfl, by decide +kernel, by decide +kernel⟩
abbrev s_Compiler_last : Stmt := inClass (topS 42) 3
theorem sc_Compiler_last : FnScope ["self", "rows", "expression", "names", "head", "unless"] ["self", "rows", "expression", "names"] (defScope s_Compiler_last) := ⟨rfl, rfl, rfl, by decide +kernel, rfl, by decide +kernel, by decide +kernel⟩
abbrev s_Compiler_value : Stmt := inClass (topS 42) 4
theorem sc_Compiler_value : FnScope ["self", "rows", "expression", "names", "head", "inner"] ["self", "rows", "expression", "names"] (defScope s_Compiler_value) := ⟨rfl, rfl, rfl, by decide +kernel, rfl, by decide +kernel, by decide +kernel⟩
abbrev s_Compiler_simple : Stmt := inClass (topS 42) 6
theorem sc_Compiler_simple : FnScope ["self", "rows", "expression", "names", "head", "has_word", "part"] ["self", "rows", "expression", "names"] (defScope s_Compiler_simple) := ⟨rfl, rfl, rfl, by decide +kernel, rfl, by decide +kernel, by decide +kernel⟩
abbrev s_Compiler_handler : Stmt := inClass (topS 42) 7
theorem sc_Compiler_handler : FnScope ["self", "rows", "expression", "names", "inner", "name", "last", "after", "clauses", "clause", "body", "in_place"] ["self", "rows", "expression", "names"] (defScope s_Compiler_handler) := ⟨rfl, rfl, rfl, by decide +kernel, rfl, by decide +kernel, by decide +kernel⟩
abbrev s_compile_expression : Stmt := topS 43
theorem sc_compile_expression : FnScope ["expression", "compiler"] ["expression"] (defScope s_compile_expression) := ⟨rfl, rfl, rfl, by decide +kernel, rfl, by decide +kernel, by decide +kernel⟩
abbrev s__law_state : Stmt := topS 45
theorem sc__law_state : FnScope ["_law_script", "_law_cells", "_law_cell"] ["_law_script"] (defScope s__law_state) := ⟨rfl, rfl, rfl, by decide +kernel, rfl, by decide +kernel, by decide +kernel⟩
abbrev s__law_take : Stmt := topS 46
theorem sc__law_take : FnScope ["_law_state_here", "_law_most", "_law_cells", "_law_at", "_law_cell", "_law_mixed"] ["_law_state_here", "_law_most"] (defScope s__law_take) := ⟨rfl, rfl, rfl, by decide +kernel, rfl, by decide +kernel, by decide +kernel⟩
abbrev s__law_roads : Stmt := topS 47
theorem sc__law_roads : FnScope ["_law_tree", "_law_steps"] ["_law_tree", "_law_steps"] (defScope s__law_roads) := ⟨rfl, rfl, rfl, by decide +kernel, rfl, by decide +kernel, by decide +kernel⟩
abbrev s__law_items : Stmt := topS 48
theorem sc__law_items : FnScope ["_law_numbers", "_law_divisor", "_law_tree", "_law_number", "_law_shown"] ["_law_numbers", "_law_divisor", "_law_tree"] (defScope s__law_items) := ⟨rfl, rfl, rfl, by decide +kernel, rfl, by decide +kernel, by decide +kernel⟩
abbrev s__law_due : Stmt := topS 49
theorem sc__law_due : FnScope ["_law_numbers", "_law_divisor", "_law_passing", "_law_prints", "_law_total", "_law_number", "_law_value", "_law_k_here", "_law_rest"] ["_law_numbers", "_law_divisor", "_law_passing"] (defScope s__law_due) := ⟨rfl, rfl, rfl, by decide +kernel, rfl, by decide +kernel, by decide +kernel⟩
abbrev s_law : Stmt := topS 50
theorem sc_law : FnScope ["_law_script", "_law_state_here", "_law_numbers", "_law_divisor", "_law_passing", "_law_tree", "_law_is_passing", "_law_value", "_law_due_here", "_law_k"] ["_law_script"] (defScope s_law) := ⟨rfl, rfl, rfl, by decide +kernel, rfl, by decide +kernel, by decide +kernel⟩
end AF

namespace AF
open PySem PySem.Spec PyProof.Rows L2
def fn : List He.DefD := [
  ⟨("parts", none), "parts", "parts", defArgs s_parts, defBody s_parts, defScope s_parts, [], []⟩,
  ⟨("with_parts", none), "with_parts", "with_parts", defArgs s_with_parts, defBody s_with_parts, defScope s_with_parts, [], []⟩,
  ⟨("bound_names", none), "bound_names", "bound_names", defArgs s_bound_names, defBody s_bound_names, defScope s_bound_names, [], []⟩,
  ⟨("put_in", none), "put_in", "put_in", defArgs s_put_in, defBody s_put_in, defScope s_put_in, [], []⟩,
  ⟨("operated", none), "operated", "operated", defArgs s_operated, defBody s_operated, defScope s_operated, [], []⟩,
  ⟨("is_value", none), "is_value", "is_value", defArgs s_is_value, defBody s_is_value, defScope s_is_value, [], []⟩,
  ⟨("shape", none), "shape", "shape", defArgs s_shape, defBody s_shape, defScope s_shape, [], []⟩,
  ⟨("quoted", none), "quoted", "quoted", defArgs s_quoted, defBody s_quoted, defScope s_quoted, [], []⟩,
  ⟨("Run", some "__init__"), "__init__", "Run.__init__", defArgs s_Run__init__, defBody s_Run__init__, defScope s_Run__init__, [], []⟩,
  ⟨("Run", some "counted"), "counted", "Run.counted", defArgs s_Run_counted, defBody s_Run_counted, defScope s_Run_counted, [], []⟩,
  ⟨("Run", some "begin"), "begin", "Run.begin", defArgs s_Run_begin, defBody s_Run_begin, defScope s_Run_begin, [], []⟩,
  ⟨("Run", some "go_on"), "go_on", "Run.go_on", defArgs s_Run_go_on, defBody s_Run_go_on, defScope s_Run_go_on, [], []⟩,
  ⟨("Run", some "ask"), "ask", "Run.ask", defArgs s_Run_ask, defBody s_Run_ask, defScope s_Run_ask, [], []⟩,
  ⟨("Run", some "answer"), "answer", "Run.answer", defArgs s_Run_answer, defBody s_Run_answer, defScope s_Run_answer, [], []⟩,
  ⟨("run_plain", none), "run_plain", "run_plain", defArgs s_run_plain, defBody s_run_plain, defScope s_run_plain, [], []⟩,
  ⟨("looked_up", none), "looked_up", "looked_up", defArgs s_looked_up, defBody s_looked_up, defScope s_looked_up, [], []⟩,
  ⟨("calculated", none), "calculated", "calculated", defArgs s_calculated, defBody s_calculated, defScope s_calculated, [], []⟩,
  ⟨("value_shape", none), "value_shape", "value_shape", defArgs s_value_shape, defBody s_value_shape, defScope s_value_shape, [], []⟩,
  ⟨("Machine", some "__init__"), "__init__", "Machine.__init__", defArgs s_Machine__init__, defBody s_Machine__init__, defScope s_Machine__init__, [], []⟩,
  ⟨("Machine", some "step"), "step", "Machine.step", defArgs s_Machine_step, defBody s_Machine_step, defScope s_Machine_step, [], []⟩,
  ⟨("Machine", some "wait"), "wait", "Machine.wait", defArgs s_Machine_wait, defBody s_Machine_wait, defScope s_Machine_wait, [], []⟩,
  ⟨("Machine", some "add_piece"), "add_piece", "Machine.add_piece", defArgs s_Machine_add_piece, defBody s_Machine_add_piece, defScope s_Machine_add_piece, [], []⟩,
  ⟨("Machine", some "run"), "run", "Machine.run", defArgs s_Machine_run, defBody s_Machine_run, defScope s_Machine_run, [], []⟩,
  ⟨("Machine", some "handled"), "handled", "Machine.handled", defArgs s_Machine_handled, defBody s_Machine_handled, defScope s_Machine_handled, [], []⟩,
  ⟨("Machine", some "begin"), "begin", "Machine.begin", defArgs s_Machine_begin, defBody s_Machine_begin, defScope s_Machine_begin, [], []⟩,
  ⟨("Machine", some "resume"), "resume", "Machine.resume", defArgs s_Machine_resume, defBody s_Machine_resume, defScope s_Machine_resume, [], []⟩,
  ⟨("Machine", some "ask"), "ask", "Machine.ask", defArgs s_Machine_ask, defBody s_Machine_ask, defScope s_Machine_ask, [], []⟩,
  ⟨("Machine", some "answer"), "answer", "Machine.answer", defArgs s_Machine_answer, defBody s_Machine_answer, defScope s_Machine_answer, [], []⟩,
  ⟨("run_counted", none), "run_counted", "run_counted", defArgs s_run_counted, defBody s_run_counted, defScope s_run_counted, [], []⟩,
  ⟨("run_machine", none), "run_machine", "run_machine", defArgs s_run_machine, defBody s_run_machine, defScope s_run_machine, [], []⟩,
  ⟨("Piece", some "__init__"), "__init__", "Piece.__init__", defArgs s_Piece__init__, defBody s_Piece__init__, defScope s_Piece__init__, [], []⟩,
  ⟨("Piece", some "frozen"), "frozen", "Piece.frozen", defArgs s_Piece_frozen, defBody s_Piece_frozen, defScope s_Piece_frozen, [], []⟩,
  ⟨("Runner", some "__init__"), "__init__", "Runner.__init__", defArgs s_Runner__init__, defBody s_Runner__init__, defScope s_Runner__init__, [], []⟩,
  ⟨("Runner", some "enter"), "enter", "Runner.enter", defArgs s_Runner_enter, defBody s_Runner_enter, defScope s_Runner_enter, [], []⟩,
  ⟨("Runner", some "counted"), "counted", "Runner.counted", defArgs s_Runner_counted, defBody s_Runner_counted, defScope s_Runner_counted, [], []⟩,
  ⟨("Runner", some "save"), "save", "Runner.save", defArgs s_Runner_save, defBody s_Runner_save, defScope s_Runner_save, [], []⟩,
  ⟨("Runner", some "add_piece"), "add_piece", "Runner.add_piece", defArgs s_Runner_add_piece, defBody s_Runner_add_piece, defScope s_Runner_add_piece, [], []⟩,
  ⟨("Runner", some "deliver"), "deliver", "Runner.deliver", defArgs s_Runner_deliver, defBody s_Runner_deliver, defScope s_Runner_deliver, [], []⟩,
  ⟨("Runner", some "ask"), "ask", "Runner.ask", defArgs s_Runner_ask, defBody s_Runner_ask, defScope s_Runner_ask, [], []⟩,
  ⟨("Runner", some "handle"), "handle", "Runner.handle", defArgs s_Runner_handle, defBody s_Runner_handle, defScope s_Runner_handle, [], []⟩,
  ⟨("Runner", some "step"), "step", "Runner.step", defArgs s_Runner_step, defBody s_Runner_step, defScope s_Runner_step, [], []⟩,
  ⟨("Runner", some "move"), "move", "Runner.move", defArgs s_Runner_move, defBody s_Runner_move, defScope s_Runner_move, [], []⟩,
  ⟨("Runner", some "worked"), "worked", "Runner.worked", defArgs s_Runner_worked, defBody s_Runner_worked, defScope s_Runner_worked, [], []⟩,
  ⟨("run_kept", none), "run_kept", "run_kept", defArgs s_run_kept, defBody s_run_kept, defScope s_run_kept, [], []⟩,
  ⟨("run_code", none), "run_code", "run_code", defArgs s_run_code, defBody s_run_code, defScope s_run_code, [], []⟩,
  ⟨("answers", none), "answers", "answers", defArgs s_answers, defBody s_answers, defScope s_answers, [], []⟩,
  ⟨("answers_at_once", none), "answers_at_once", "answers_at_once", defArgs s_answers_at_once, defBody s_answers_at_once, defScope s_answers_at_once, [], []⟩,
  ⟨("Code", some "__init__"), "__init__", "Code.__init__", defArgs s_Code__init__, defBody s_Code__init__, defScope s_Code__init__, [], []⟩,
  ⟨("Compiler", some "__init__"), "__init__", "Compiler.__init__", defArgs s_Compiler__init__, defBody s_Compiler__init__, defScope s_Compiler__init__, [], []⟩,
  ⟨("Compiler", some "block"), "block", "Compiler.block", defArgs s_Compiler_block, defBody s_Compiler_block, defScope s_Compiler_block, [], []⟩,
  ⟨("Compiler", some "compile_all"), "compile_all", "Compiler.compile_all", defArgs s_Compiler_compile_all, defBody s_Compiler_compile_all, defScope s_Compiler_compile_all, [], []⟩,
  ⟨("Compiler", some "last"), "last", "Compiler.last", defArgs s_Compiler_last, defBody s_Compiler_last, defScope s_Compiler_last, [], []⟩,
  ⟨("Compiler", some "value"), "value", "Compiler.value", defArgs s_Compiler_value, defBody s_Compiler_value, defScope s_Compiler_value, [], []⟩,
  ⟨("Compiler", some "simple"), "simple", "Compiler.simple", defArgs s_Compiler_simple, defBody s_Compiler_simple, defScope s_Compiler_simple, [], []⟩,
  ⟨("Compiler", some "handler"), "handler", "Compiler.handler", defArgs s_Compiler_handler, defBody s_Compiler_handler, defScope s_Compiler_handler, [], []⟩,
  ⟨("compile_expression", none), "compile_expression", "compile_expression", defArgs s_compile_expression, defBody s_compile_expression, defScope s_compile_expression, [], []⟩,
  ⟨("_law_state", none), "_law_state", "_law_state", defArgs s__law_state, defBody s__law_state, defScope s__law_state, [], []⟩,
  ⟨("_law_take", none), "_law_take", "_law_take", defArgs s__law_take, defBody s__law_take, defScope s__law_take, [], []⟩,
  ⟨("_law_roads", none), "_law_roads", "_law_roads", defArgs s__law_roads, defBody s__law_roads, defScope s__law_roads, [], []⟩,
  ⟨("_law_items", none), "_law_items", "_law_items", defArgs s__law_items, defBody s__law_items, defScope s__law_items, [], []⟩,
  ⟨("_law_due", none), "_law_due", "_law_due", defArgs s__law_due, defBody s__law_due, defScope s__law_due, [], []⟩,
  ⟨("law", none), "law", "law", defArgs s_law, defBody s_law, defScope s_law, [], []⟩
]
def fa : List He.Fa := [
  .glo "parts", .glo "with_parts", .glo "bound_names", .glo "put_in", .glo "operated", .glo "is_value", .glo "shape", .glo "quoted", .glo "run_plain", .glo "looked_up", .glo "calculated", .glo "value_shape", .glo "run_counted", .glo "run_machine", .glo "run_kept", .glo "run_code", .glo "answers", .glo "answers_at_once", .glo "compile_expression", .glo "_law_state", .glo "_law_take", .glo "_law_roads", .glo "_law_items", .glo "_law_due", .glo "law", .glo "Run", .glo "Stop", .glo "Machine", .glo "Piece", .glo "Runner", .glo "Code", .glo "Compiler", .free "len", .free "list", .free "tuple", .free "int", .free "abs", .free "max", .free "range", .free "zip", .free "reversed", .free "super", .free "Exception", .int "HALF" 2147483648, .int "BOTTOM" 0, .int "HANDLER" 1, .int "PLACE" 2, .glo "LEAVES_trees", .glo "UNIT_runner", .glo "LEAVES_code", .cls "Run", .cls "Machine", .cls "Piece", .cls "Runner", .cls "Code", .cls "Compiler", .mkr "Run", .mkr "Machine", .mkr "Piece", .mkr "Runner", .mkr "Code", .mkr "Compiler", .noat "Run" "current", .noat "Run" "frames", .noat "Run" "left", .noat "Run" "prints", .noat "Run" "end", .noat "Machine" "left", .noat "Machine" "prints", .noat "Machine" "pieces", .noat "Machine" "kept", .noat "Machine" "most", .noat "Piece" "kind", .noat "Piece" "handler", .noat "Piece" "frames", .noat "Piece" "distance", .noat "Piece" "table", .noat "Runner" "blocks", .noat "Runner" "left", .noat "Runner" "prints", .noat "Runner" "kept", .noat "Runner" "end", .noat "Runner" "pieces", .noat "Runner" "rows", .noat "Runner" "at", .noat "Runner" "bindings", .noat "Runner" "operands", .noat "Code" "blocks", .noat "Compiler" "blocks", .noat "Compiler" "queue", .meth "Run" "__init__", .meth "Run" "counted", .meth "Run" "begin", .meth "Run" "go_on", .meth "Run" "ask", .meth "Run" "answer", .meth "Machine" "__init__", .meth "Machine" "step", .meth "Machine" "wait", .meth "Machine" "add_piece", .meth "Machine" "run", .meth "Machine" "handled", .meth "Machine" "begin", .meth "Machine" "resume", .meth "Machine" "ask", .meth "Machine" "answer", .meth "Piece" "__init__", .meth "Piece" "frozen", .meth "Runner" "__init__", .meth "Runner" "enter", .meth "Runner" "counted", .meth "Runner" "save", .meth "Runner" "add_piece", .meth "Runner" "deliver", .meth "Runner" "ask", .meth "Runner" "handle", .meth "Runner" "step", .meth "Runner" "move", .meth "Runner" "worked", .meth "Code" "__init__", .meth "Compiler" "__init__", .meth "Compiler" "block", .meth "Compiler" "compile_all", .meth "Compiler" "last", .meth "Compiler" "value", .meth "Compiler" "simple", .meth "Compiler" "handler"]
def names1 : List PySem.Str := [("LEAVES_trees" : PySem.Str), ("parts" : PySem.Str), ("with_parts" : PySem.Str), ("bound_names" : PySem.Str), ("collect_free" : PySem.Str), ("free_names" : PySem.Str), ("put_in" : PySem.Str), ("UNIT_plain" : PySem.Str), ("HALF" : PySem.Str), ("operated" : PySem.Str), ("is_value" : PySem.Str), ("shape" : PySem.Str), ("quoted" : PySem.Str), ("Run" : PySem.Str), ("run_plain" : PySem.Str), ("UNIT_machine" : PySem.Str), ("Stop" : PySem.Str), ("looked_up" : PySem.Str), ("calculated" : PySem.Str), ("value_shape" : PySem.Str)]
def names2 : List PySem.Str := [("Machine" : PySem.Str), ("run_counted" : PySem.Str), ("run_machine" : PySem.Str), ("BOTTOM" : PySem.Str), ("HANDLER" : PySem.Str), ("PLACE" : PySem.Str), ("UNIT_runner" : PySem.Str), ("Piece" : PySem.Str), ("Runner" : PySem.Str), ("run_kept" : PySem.Str), ("run_code" : PySem.Str), ("answers" : PySem.Str), ("answers_at_once" : PySem.Str), ("LEAVES_code" : PySem.Str), ("Code" : PySem.Str), ("answer_of" : PySem.Str), ("Compiler" : PySem.Str), ("compile_expression" : PySem.Str), ("_law_state" : PySem.Str), ("_law_take" : PySem.Str)]
def names3 : List PySem.Str := [("_law_roads" : PySem.Str), ("_law_items" : PySem.Str), ("_law_due" : PySem.Str)]

end AF

namespace AF
open PySem PySem.Spec PyProof.Rows L2
/-! ### Stop: its __init__ as the text has it -/
def sNs : List (Str × NameKind) := [(("self" : Str), NameKind.local), (("end" : Str), NameKind.local), (("__class__" : Str), NameKind.free), (("super" : Str), NameKind.globalImplicit)]
def sPos : List Pos := [⟨213, 8, 213, 13⟩, ⟨213, 8, 213, 15⟩, ⟨213, 8, 213, 24⟩, ⟨213, 25, 213, 34⟩, ⟨213, 8, 213, 35⟩, ⟨213, 8, 213, 35⟩, ⟨214, 8, 214, 12⟩, ⟨214, 8, 214, 16⟩, ⟨214, 19, 214, 22⟩, ⟨214, 8, 214, 22⟩]
def stopFn (fd : FuncData) : Bool := match fd with
  | ⟨_, _, ⟨[], [a1, a2], none, [], [], none, []⟩, .stmts [.Expr (.Call (.Attribute (.Call (.Name s1 p0) [] [] p1) s2 p2) [.Constant (.str s3) _ p3] [] p4) p5, .Assign [.Attribute (.Name s4 p6) s5 p7] (.Name s6 p8) p9], ⟨.function, ns, false, false, _⟩, gl, [(cn, _)], .none, _, _, _, _, .ref _, _, bl⟩ =>
    decide ([p0, p1, p2, p3, p4, p5, p6, p7, p8, p9] = sPos) && (decide (a1.arg = "self") && (decide (a2.arg = "end") && (decide (s1 = "super") && (decide (s2 = "__init__") && (decide (s3 = "stopped") && (decide (s4 = "self") && (decide (s5 = "end") && (decide (s6 = "end") && (decide (ns = sNs) && (decide (gl = mainGlobals) && (decide (cn = "__class__") && decide (bl = builtinsNs))))))))))))
  | _ => false
def sFd (nm q : Str) (y1 y2 : Option Expr) (z1 z2 : Pos) (j : Nat) (mo : List (Str × Const)) (cc cda : Addr) (kv doc pm : Value) (an : Option Addr) (ct : Value) : FuncData :=
  ⟨nm, q, ⟨[], [⟨"self", y1, z1⟩, ⟨"end", y2, z2⟩], none, [], [], none, []⟩, .stmts [.Expr (.Call (.Attribute (.Call (.Name "super" ⟨213, 8, 213, 13⟩) [] [] ⟨213, 8, 213, 15⟩) "__init__" ⟨213, 8, 213, 24⟩) [.Constant (.str "stopped") j ⟨213, 25, 213, 34⟩] [] ⟨213, 8, 213, 35⟩) ⟨213, 8, 213, 35⟩, .Assign [.Attribute (.Name "self" ⟨214, 8, 214, 12⟩) "end" ⟨214, 8, 214, 16⟩] (.Name "end" ⟨214, 19, 214, 22⟩) ⟨214, 8, 214, 22⟩],
    ⟨.function, sNs, false, false, mo⟩, mainGlobals, [("__class__", cc)], .none, kv, doc, pm, an, .ref cda, ct, builtinsNs⟩
theorem stopFn_ok {fd : FuncData} (h : stopFn fd = true) : ∃ nm q y1 y2 z1 z2 j mo cc cda kv doc pm an ct, fd = sFd nm q y1 y2 z1 z2 j mo cc cda kv doc pm an ct := by
  unfold stopFn at h
  split at h
  · rename_i nm q a1 a2 s1 p0 p1 s2 p2 s3 j p3 p4 p5 s4 p6 s5 p7 s6 p8 p9 ns mo gl cn cc kv doc pm an cda ct bl
    obtain ⟨n1, y1, z1⟩ := a1
    obtain ⟨n2, y2, z2⟩ := a2
    simp only [Bool.and_eq_true, decide_eq_true_eq] at h
    obtain ⟨e0, e1, e2, e3, e4, e5, e6, e7, e8, e9, e10, e11, e12⟩ := h
    simp only [sPos, List.cons.injEq, and_true] at e0
    obtain ⟨f0, f1, f2, f3, f4, f5, f6, f7, f8, f9⟩ := e0
    subst f0 f1 f2 f3 f4 f5 f6 f7 f8 f9
    subst e1 e2 e3 e4 e5 e6 e7 e8 e9 e10 e11 e12
    exact ⟨nm, q, y1, y2, z1, z2, j, mo, cc, cda, kv, doc, pm, an, ct, rfl⟩
  · cases h

abbrev stC (K : PySem.W.Frag) : Addr := He.ga K "Stop"
abbrev stI (K : PySem.W.Frag) : Addr := He.ma K (stC K) "__init__"
def stopDef (K : PySem.W.Frag) : Bool := match K.lookup (stI K) with
  | some ⟨_, _, .func fd, _⟩ => stopFn fd && (PySem.W.codeIn K fd.code fd.qualname && ((match fd.code with
      | .ref c => (match K.lookup c with
        | some ⟨_, _, .fields vs, _⟩ => (match (vs.toList[2]? : Option Value) with
          | some (.str file _) => decide (file = "/claim/cut.py")
          | _ => false)
        | _ => false)
      | _ => false) && (match fd.closure with
      | [(_, cc)] => (match K.lookup cc with
        | some ⟨_, _, .cell (some (.ref D)), _⟩ => decide (D = stC K)
        | _ => false)
      | _ => false)))
  | _ => false
def stopCls (K : PySem.W.Frag) : Bool := match K.lookup (stC K) with
  | some ⟨.type t, _, .cls cd, sl⟩ => (match sl.toList with
    | [_, _, _, _, some (.builtin n), _] => decide (t = "type") && (decide (cd.mro = .ref (stC K) :: ESX.exTail) && (cd.hasDict && (!cd.hasDel && decide (n = "Exception.__new__"))))
    | _ => false)
  | _ => false
def stopB (K : PySem.W.Frag) : Bool := stopDef K && (stopCls K && (decide (PySem.W.findIn K (.ref (stC K)) "__setattr__" = some (some (.builtin "object.__setattr__"))) && (decide (PySem.W.findIn K (.ref (stC K)) "end" = some none) && (decide (PySem.W.subIn K (.ref (stC K)) (.type "BaseException") = some true) && (decide (PySem.W.subIn K (.ref (stC K)) (.type "Exception") = some true) &&
  (decide (PySem.W.typeIn K (.ref (stC K)) = some (.type "type")) && (PySem.W.keepIn K (.ref (stC K)) && (decide (PySem.W.findIn K (.ref (stC K)) "__init__" = some (some (.ref (stI K)))) && (decide (PySem.W.typeIn K (.ref (stI K)) = some (.type "function")) && (decide (PySem.W.nsIn K cStatics "thirdparty.any" = some none) && (xfB K (stC K) && decide (PySem.W.exmOne K (.ref (stC K)) (.ref (stC K)) = some true))))))))))))
structure StopK (K : PySem.W.Frag) : Prop where
  fn : ∃ oc od osl nm q y1 y2 z1 z2 j mo cc cda kv doc pm an ct, K.lookup (stI K) = some ⟨oc, od, .func (sFd nm q y1 y2 z1 z2 j mo cc cda kv doc pm an ct), osl⟩ ∧ PySem.W.codeIn K (.ref cda) q = true ∧
    (∃ a b vs d t, K.lookup cda = some ⟨a, b, .fields vs, d⟩ ∧ vs.toList[2]? = some (.str "/claim/cut.py" t)) ∧ ∃ a b d, K.lookup cc = some ⟨a, b, .cell (some (.ref (stC K))), d⟩
  cls : ∃ nm q N bs sn sub ab col dd k0 k1 k2 k3 k5, K.lookup (stC K) = some (excClassObj nm q (stC K) N bs ESX.exTail true sn sub ab col dd k0 k1 k2 k3 k5 "Exception.__new__")
  sa : PySem.W.findIn K (.ref (stC K)) "__setattr__" = some (some (.builtin "object.__setattr__"))
  ed : PySem.W.findIn K (.ref (stC K)) "end" = some none
  sb : PySem.W.subIn K (.ref (stC K)) (.type "BaseException") = some true
  se : PySem.W.subIn K (.ref (stC K)) (.type "Exception") = some true
  ty : PySem.W.typeIn K (.ref (stC K)) = some (.type "type")
  kp : PySem.W.keepIn K (.ref (stC K)) = true
  ini : PySem.W.findIn K (.ref (stC K)) "__init__" = some (some (.ref (stI K)))
  tI : PySem.W.typeIn K (.ref (stI K)) = some (.type "function")
  op : PySem.W.nsIn K cStatics "thirdparty.any" = some none
  xf : XfC K (stC K)
  exm : PySem.W.exmOne K (.ref (stC K)) (.ref (stC K)) = some true
theorem stopDef_ok {K : PySem.W.Frag} (h : stopDef K = true) : ∃ oc od osl nm q y1 y2 z1 z2 j mo cc cda kv doc pm an ct, K.lookup (stI K) = some ⟨oc, od, .func (sFd nm q y1 y2 z1 z2 j mo cc cda kv doc pm an ct), osl⟩ ∧ PySem.W.codeIn K (.ref cda) q = true ∧
    (∃ a b vs d t, K.lookup cda = some ⟨a, b, .fields vs, d⟩ ∧ vs.toList[2]? = some (.str "/claim/cut.py" t)) ∧ ∃ a b d, K.lookup cc = some ⟨a, b, .cell (some (.ref (stC K))), d⟩ := by
  unfold stopDef at h
  split at h
  · rename_i oc od fd osl lk
    obtain ⟨h1, h2⟩ := Bool.and_eq_true_iff.mp h
    obtain ⟨h2, h3⟩ := Bool.and_eq_true_iff.mp h2
    obtain ⟨h3, h4⟩ := Bool.and_eq_true_iff.mp h3
    obtain ⟨nm, q, y1, y2, z1, z2, j, mo, cc, cda, kv, doc, pm, an, ct, rfl⟩ := stopFn_ok h1
    refine ⟨oc, od, osl, nm, q, y1, y2, z1, z2, j, mo, cc, cda, kv, doc, pm, an, ct, lk, h2, ?_, ?_⟩
    · have h3 : (match K.lookup cda with
        | some ⟨_, _, .fields vs, _⟩ => (match (vs.toList[2]? : Option Value) with
          | some (.str file _) => decide (file = "/claim/cut.py")
          | _ => false)
        | _ => false) = true := h3
      split at h3
      · rename_i a b vs d e
        split at h3
        · rename_i file t e2
          rw [of_decide_eq_true h3] at e2
          exact ⟨a, b, vs, d, t, e, e2⟩
        · cases h3
      · cases h3
    · have h4 : (match K.lookup cc with
        | some ⟨_, _, .cell (some (.ref D)), _⟩ => decide (D = stC K)
        | _ => false) = true := h4
      split at h4
      · rename_i a b D d e
        rw [of_decide_eq_true h4] at e
        exact ⟨a, b, d, e⟩
      · cases h4
  · cases h
theorem stopCls_ok {K : PySem.W.Frag} (h : stopCls K = true) : ∃ nm q N bs sn sub ab col dd k0 k1 k2 k3 k5, K.lookup (stC K) = some (excClassObj nm q (stC K) N bs ESX.exTail true sn sub ab col dd k0 k1 k2 k3 k5 "Exception.__new__") := by
  unfold stopCls at h
  split at h
  · rename_i t dd cd sl lk
    split at h
    · rename_i k0 k1 k2 k3 n k5 hs
      obtain ⟨nm, bs, mro, ns, qn, hd, sn, sub, ab, col, del⟩ := cd
      simp only [Bool.and_eq_true, decide_eq_true_eq, Bool.not_eq_true'] at h
      obtain ⟨e1, e2, e3, e4, e5⟩ := h
      have hsl : sl = #[k0, k1, k2, k3, some (.builtin n), k5] := by
        obtain ⟨l⟩ := sl
        simp only at hs
        rw [hs]
      subst hsl e1 e2 e3 e4 e5
      exact ⟨nm, qn, ns, bs, sn, sub, ab, col, dd, k0, k1, k2, k3, k5, lk⟩
    · cases h
  · cases h
theorem stopB_ok {K : PySem.W.Frag} (h : stopB K = true) : StopK K := by
  unfold stopB at h
  simp only [Bool.and_eq_true, decide_eq_true_eq] at h
  obtain ⟨h1, h2, h3, h4, h5, h6, h7, h8, h9, h10, h11, h12, h13⟩ := h
  exact ⟨stopDef_ok h1, stopCls_ok h2, h3, h4, h5, h6, h7, h8, h9, h10, h11, xfB_ok h12, h13⟩
end AF

namespace AF
open PySem PySem.Spec PyProof.Rows L2
/-! ### the head: what is looked at -/
def ts : List He.Tab := [(fun K => He.ga K "LEAVES_code", ["num", "flag", "unit"])]
def missB (K : PySem.W.Frag) : Bool := (["name", "op", "ask", "print", "let", "handle"] : List PySem.Str).all fun x => decide (PySem.W.nsIn K (He.ga K "LEAVES_code") x = some none)
def exB (K : PySem.W.Frag) : Bool := He.tupB K "LEAVES_trees" [.str "num", .str "flag", .str "unit", .str "name", .str "kept", .str "quoted"] && (He.valsB K (He.ga K "LEAVES_code") [("num", .str "int"), ("flag", .str "flag"), ("unit", .str "unit")] && (missB K && (stopB K && decide (PySem.W.nsIn K mainGlobals "Stop" = some (some (.ref (stC K)))))))
abbrev AlU : Type := He.AlT × Bool
def asU (g : Addr → Option Obj) (n : Nat) : List Addr := He.asD g n ++ [cStatics]
def obsU (n : Nat) (g : Addr → Option Obj) : AlU := (He.obsT fa fn ts (He.frG g (asU g n)), exB (He.frG g (asU g n)))
def hookU : PySem.W.Hook where
  α := AlU
  obs := fun s => obsU 5 s.heap.get?
  val := fun w => (He.valT fn ts w, true)
  says := fun w h => ∃ K : PySem.W.Frag, K.In h ∧ He.SaysT fa fn ts w K ∧ exB K = true
  of := fun _ _ e => ⟨_, He.frG_in, congrArg (fun z : AlU => z.1) e, congrArg (fun z : AlU => z.2) e⟩
  keeps := fun _ _ _ ⟨K, hK, c⟩ k => ⟨K, PySem.W.Frag.In.keeps hK k, c⟩
def obU (s : PySem.W.SharedT) : AlU := obsU 5 (HandSHeadRun.getT s)
theorem obs_eq {n : Nat} {g : Addr → Option Obj} {s : Shared} (h : ∀ a, g a = s.heap.get? a) : obsU n g = obsU n s.heap.get? := by
  have e : g = s.heap.get? := funext h
  rw [e]
theorem obU_eq (s : PySem.W.SharedT) : obU s = hookU.obs s.abs := obs_eq (HandSHeadRun.getT_eq s)
abbrev rowU : PySem.W.OpenRow := PySem.W.OpenLaw.row PySem.Challenge.rw_askedfor_k44_whole_early_ends
def namesU : List PySem.Str := names1 ++ names2 ++ names3
end AF

namespace AF
open PySem PySem.Spec PyProof.Rows L2
theorem runF (w : World) : HandSHeadRun.RunEq rowU (PySem.W.view rowU.prog [50]) hookU obU 5000 namesU (w.withFollow "special-get-raises" false) := by
  intro os
  kernel_rfl
theorem runT (w : World) : HandSHeadRun.RunEq rowU (PySem.W.view rowU.prog [50]) hookU obU 5000 namesU (w.withFollow "special-get-raises" true) := by
  intro os
  kernel_rfl
theorem runU (w : World) : HandSHeadRun.RunEq rowU (PySem.W.view rowU.prog [50]) hookU obU 5000 namesU w :=
  PySem.W.byRow2 "special-get-raises" (P := fun w => HandSHeadRun.RunEq rowU (PySem.W.view rowU.prog [50]) hookU obU 5000 namesU w) runF runT w
end AF

namespace AF
open PySem PySem.Spec PyProof.Rows L2
/-! ### what the top has left, by names -/
def fdOf (K : PySem.W.Frag) (p : Str × Option Str) : FuncData := match K.lookup (He.fAd K p) with
  | some ⟨_, _, .func fd, _⟩ => fd
  | _ => PySem.W.fnOf "" "" (defArgs (.Pass ⟨0, 0, 0, 0⟩)) [] (defScope (.Pass ⟨0, 0, 0, 0⟩)) .none .none .none .none none .none .none
structure GD (K : PySem.W.Frag) (mg : Str → Option Value) (x : Str) (st : Stmt) (ps : List Str) : Prop where
  F : Fun K x x st (He.ga K x) (fdOf K (x, none))
  b : Binds K (fdOf K (x, none)) ps []
  m : mg x = some (.ref (He.ga K x))
structure MD (K : PySem.W.Frag) (c m qual : Str) (st : Stmt) (ps : List Str) : Prop where
  F : Fun K m qual st (He.ma K (He.ga K c) m) (fdOf K (c, some m))
  b : Binds K (fdOf K (c, some m)) ps []
  m : Meth K (He.ga K c) m (He.ma K (He.ga K c) m)
structure MV (K : PySem.W.Frag) (c m qual : Str) (st : Stmt) : Prop where
  F : Fun K m qual st (He.ma K (He.ga K c) m) (fdOf K (c, some m))
  m : Meth K (He.ga K c) m (He.ma K (He.ga K c) m)
structure CD (K : PySem.W.Frag) (mg : Str → Option Value) (c : Str) : Prop where
  cl : Cls K (He.ga K c)
  mg : mg c = some (.ref (He.ga K c))
  mkr : Mk K (He.ga K c) (He.ma K (He.ga K c) "__init__")
structure Fx (K : PySem.W.Frag) (w : World) (mg : Str → Option Value) : Prop where
  parts : GD K mg "parts" s_parts ["expression"]
  with_parts : GD K mg "with_parts" s_with_parts ["expression", "inner"]
  bound_names : GD K mg "bound_names" s_bound_names ["expression"]
  put_in : GD K mg "put_in" s_put_in ["expression", "name", "tree"]
  operated : GD K mg "operated" s_operated ["sign", "one", "two"]
  is_value : GD K mg "is_value" s_is_value ["tree"]
  shape : GD K mg "shape" s_shape ["value"]
  quoted : GD K mg "quoted" s_quoted ["value"]
  Run__init__ : MD K "Run" "__init__" "Run.__init__" s_Run__init__ ["self", "expression", "steps"]
  Run_counted : MD K "Run" "counted" "Run.counted" s_Run_counted ["self"]
  Run_begin : MD K "Run" "begin" "Run.begin" s_Run_begin ["self"]
  Run_go_on : MD K "Run" "go_on" "Run.go_on" s_Run_go_on ["self"]
  Run_ask : MD K "Run" "ask" "Run.ask" s_Run_ask ["self", "name", "value"]
  Run_answer : MD K "Run" "answer" "Run.answer" s_Run_answer ["self", "place", "clause", "value"]
  run_plain : GD K mg "run_plain" s_run_plain ["expression", "steps"]
  looked_up : GD K mg "looked_up" s_looked_up ["env", "name"]
  calculated : GD K mg "calculated" s_calculated ["sign", "one", "two"]
  value_shape : GD K mg "value_shape" s_value_shape ["value"]
  Machine__init__ : MD K "Machine" "__init__" "Machine.__init__" s_Machine__init__ ["self", "steps"]
  Machine_step : MD K "Machine" "step" "Machine.step" s_Machine_step ["self"]
  Machine_wait : MV K "Machine" "wait" "Machine.wait" s_Machine_wait
  Machine_add_piece : MD K "Machine" "add_piece" "Machine.add_piece" s_Machine_add_piece ["self", "handler", "frames"]
  Machine_run : MD K "Machine" "run" "Machine.run" s_Machine_run ["self", "expression"]
  Machine_handled : MD K "Machine" "handled" "Machine.handled" s_Machine_handled ["self", "value"]
  Machine_begin : MD K "Machine" "begin" "Machine.begin" s_Machine_begin ["self", "current", "env"]
  Machine_resume : MD K "Machine" "resume" "Machine.resume" s_Machine_resume ["self", "frame", "value"]
  Machine_ask : MD K "Machine" "ask" "Machine.ask" s_Machine_ask ["self", "name", "value"]
  Machine_answer : MD K "Machine" "answer" "Machine.answer" s_Machine_answer ["self", "place", "clause", "value", "env"]
  run_counted : GD K mg "run_counted" s_run_counted ["expression", "steps"]
  run_machine : GD K mg "run_machine" s_run_machine ["expression", "steps"]
  Piece__init__ : MD K "Piece" "__init__" "Piece.__init__" s_Piece__init__ ["self", "kind", "handler", "frames", "distance"]
  Piece_frozen : MD K "Piece" "frozen" "Piece.frozen" s_Piece_frozen ["self"]
  Runner__init__ : MD K "Runner" "__init__" "Runner.__init__" s_Runner__init__ ["self", "code", "steps"]
  Runner_enter : MD K "Runner" "enter" "Runner.enter" s_Runner_enter ["self", "block", "bindings"]
  Runner_counted : MD K "Runner" "counted" "Runner.counted" s_Runner_counted ["self"]
  Runner_save : MD K "Runner" "save" "Runner.save" s_Runner_save ["self"]
  Runner_add_piece : MD K "Runner" "add_piece" "Runner.add_piece" s_Runner_add_piece ["self", "piece"]
  Runner_deliver : MD K "Runner" "deliver" "Runner.deliver" s_Runner_deliver ["self", "value"]
  Runner_ask : MD K "Runner" "ask" "Runner.ask" s_Runner_ask ["self", "name"]
  Runner_handle : MD K "Runner" "handle" "Runner.handle" s_Runner_handle ["self", "row"]
  Runner_step : MD K "Runner" "step" "Runner.step" s_Runner_step ["self"]
  Runner_move : MD K "Runner" "move" "Runner.move" s_Runner_move ["self", "row"]
  Runner_worked : MD K "Runner" "worked" "Runner.worked" s_Runner_worked ["self", "row"]
  run_kept : GD K mg "run_kept" s_run_kept ["code", "steps"]
  run_code : GD K mg "run_code" s_run_code ["code", "steps"]
  answers : GD K mg "answers" s_answers ["body", "kept"]
  answers_at_once : GD K mg "answers_at_once" s_answers_at_once ["clause"]
  Code__init__ : MD K "Code" "__init__" "Code.__init__" s_Code__init__ ["self", "blocks"]
  Compiler__init__ : MD K "Compiler" "__init__" "Compiler.__init__" s_Compiler__init__ ["self"]
  Compiler_block : MD K "Compiler" "block" "Compiler.block" s_Compiler_block ["self", "expression", "names"]
  Compiler_compile_all : MD K "Compiler" "compile_all" "Compiler.compile_all" s_Compiler_compile_all ["self"]
  Compiler_last : MD K "Compiler" "last" "Compiler.last" s_Compiler_last ["self", "rows", "expression", "names"]
  Compiler_value : MD K "Compiler" "value" "Compiler.value" s_Compiler_value ["self", "rows", "expression", "names"]
  Compiler_simple : MD K "Compiler" "simple" "Compiler.simple" s_Compiler_simple ["self", "rows", "expression", "names"]
  Compiler_handler : MD K "Compiler" "handler" "Compiler.handler" s_Compiler_handler ["self", "rows", "expression", "names"]
  compile_expression : GD K mg "compile_expression" s_compile_expression ["expression"]
  _law_state : GD K mg "_law_state" s__law_state ["_law_script"]
  _law_take : GD K mg "_law_take" s__law_take ["_law_state_here", "_law_most"]
  _law_roads : GD K mg "_law_roads" s__law_roads ["_law_tree", "_law_steps"]
  _law_items : GD K mg "_law_items" s__law_items ["_law_numbers", "_law_divisor", "_law_tree"]
  _law_due : GD K mg "_law_due" s__law_due ["_law_numbers", "_law_divisor", "_law_passing"]
  law : GD K mg "law" s_law ["_law_script"]
  Run : CD K mg "Run"
  Machine : CD K mg "Machine"
  Piece : CD K mg "Piece"
  Runner : CD K mg "Runner"
  Code : CD K mg "Code"
  Compiler : CD K mg "Compiler"
  na_Run_current : NoAttr K (He.ga K "Run") "current"
  na_Run_frames : NoAttr K (He.ga K "Run") "frames"
  na_Run_left : NoAttr K (He.ga K "Run") "left"
  na_Run_prints : NoAttr K (He.ga K "Run") "prints"
  na_Run_end : NoAttr K (He.ga K "Run") "end"
  na_Machine_left : NoAttr K (He.ga K "Machine") "left"
  na_Machine_prints : NoAttr K (He.ga K "Machine") "prints"
  na_Machine_pieces : NoAttr K (He.ga K "Machine") "pieces"
  na_Machine_kept : NoAttr K (He.ga K "Machine") "kept"
  na_Machine_most : NoAttr K (He.ga K "Machine") "most"
  na_Piece_kind : NoAttr K (He.ga K "Piece") "kind"
  na_Piece_handler : NoAttr K (He.ga K "Piece") "handler"
  na_Piece_frames : NoAttr K (He.ga K "Piece") "frames"
  na_Piece_distance : NoAttr K (He.ga K "Piece") "distance"
  na_Piece_table : NoAttr K (He.ga K "Piece") "table"
  na_Runner_blocks : NoAttr K (He.ga K "Runner") "blocks"
  na_Runner_left : NoAttr K (He.ga K "Runner") "left"
  na_Runner_prints : NoAttr K (He.ga K "Runner") "prints"
  na_Runner_kept : NoAttr K (He.ga K "Runner") "kept"
  na_Runner_end : NoAttr K (He.ga K "Runner") "end"
  na_Runner_pieces : NoAttr K (He.ga K "Runner") "pieces"
  na_Runner_rows : NoAttr K (He.ga K "Runner") "rows"
  na_Runner_at : NoAttr K (He.ga K "Runner") "at"
  na_Runner_bindings : NoAttr K (He.ga K "Runner") "bindings"
  na_Runner_operands : NoAttr K (He.ga K "Runner") "operands"
  na_Code_blocks : NoAttr K (He.ga K "Code") "blocks"
  na_Compiler_blocks : NoAttr K (He.ga K "Compiler") "blocks"
  na_Compiler_queue : NoAttr K (He.ga K "Compiler") "queue"
  n_len : mg "len" = none
  n_list : mg "list" = none
  n_tuple : mg "tuple" = none
  n_int : mg "int" = none
  n_abs : mg "abs" = none
  n_max : mg "max" = none
  n_range : mg "range" = none
  n_zip : mg "zip" = none
  n_reversed : mg "reversed" = none
  n_super : mg "super" = none
  n_Exception : mg "Exception" = none
  g_HALF : ∃ u, mg "HALF" = some u ∧ RelV (.int 2147483648) u
  g_BOTTOM : ∃ u, mg "BOTTOM" = some u ∧ RelV (.int 0) u
  g_HANDLER : ∃ u, mg "HANDLER" = some u ∧ RelV (.int 1) u
  g_PLACE : ∃ u, mg "PLACE" = some u ∧ RelV (.int 2) u
  g_LEAVES_trees : ∃ u, mg "LEAVES_trees" = some u ∧ RelV (.ref (He.ga K "LEAVES_trees")) u
  g_UNIT_runner : ∃ u, mg "UNIT_runner" = some u ∧ RelV (.ref (He.ga K "UNIT_runner")) u
  g_LEAVES_code : ∃ u, mg "LEAVES_code" = some u ∧ RelV (.ref (He.ga K "LEAVES_code")) u
  lt : ∀ H, SqT K H (He.ga K "LEAVES_trees") [.str "num", .str "flag", .str "unit", .str "name", .str "kept", .str "quoted"]
  kd : ∃ es n, KDict K w (He.ga K "LEAVES_code") es n
  kv : ∀ x v, (x, v) ∈ ([("num", .str "int"), ("flag", .str "flag"), ("unit", .str "unit")] : List (Str × V)) → ∃ u, PySem.W.nsIn K (He.ga K "LEAVES_code") x = some (some u) ∧ RelV v u
  kn : ∀ x ∈ (["name", "op", "ask", "print", "let", "handle"] : List Str), PySem.W.nsIn K (He.ga K "LEAVES_code") x = some none
/-! ### targets: an attribute -/
def gFld (K : PySem.W.Frag) (ta : TE) (f : Str) : TG := fun y σ H Q => ta σ H fun x H1 => ∃ a C dx fs, x = .ref a ∧ H1 a = some (.ins C dx fs) ∧ Cls K C ∧ NoAttr K C f ∧ fs.length < 1000 ∧ Q σ (upd H1 a (.ins C dx (putF f y fs)))
theorem pg_fld {X : Cx} {o : Expr} {ta : TE} {f : Str} {pos : Pos} (ho : PE X o ta)
    (ha : ∀ v, assign (.Attribute o f pos) X.env v = (do
      let ov ← holding [v] (eval o X.env)
      standAt pos.atName
      holding [v, ov] (setAttr ov f v)
      release [v, ov] []) := by intro _; rfl) : PG X (.Attribute o f pos) (gFld X.K ta f) := by
  refine ⟨fun pins s σ H v u Q I r h => ?_⟩
  rw [ha]
  refine wpAny_bind (wpAny_holding (thn (ho.run pins s σ H _ I h) fun ov s1 ⟨x, H1, I1, r1, q1⟩ => ?_))
  obtain ⟨a, C, dx, fs, rfl, e, c, n, l, q⟩ := q1
  obtain rfl : ov = Value.ref a := r1
  refine wpAny_bind (wpAny_standAt (wpAny_bind (wpAny_holding (setattr_ok I1 e c n l r fun s2 I2 => ?_))))
  exact wpAny_release ⟨σ, _, I2, q⟩
/-! ### heaps -/
/-- tuples stay -/
def Tx (H H' : Hp) : Prop := ∀ b xs, H b = some (.tup xs) → H' b = some (.tup xs)
theorem Tx.refl (H : Hp) : Tx H H := fun _ _ h => h
theorem Tx.trans {H H1 H2 : Hp} (a : Tx H H1) (b : Tx H1 H2) : Tx H H2 := fun c xs h => b c xs (a c xs h)
theorem Tx.same {H H' : Hp} (s : Same H H') : Tx H H' := fun b xs h => s b _ h
def NT : Option HO → Prop
  | some (.tup _) => False
  | _ => True
theorem Tx.upd {H : Hp} {a : Addr} {o : HO} (h : NT (H a)) : Tx H (upd H a o) := fun b xs e => by
  have ne : b ≠ a := fun q => by subst q; rw [e] at h; exact h
  rw [upd_ne ne]; exact e
theorem Tx.new {H : Hp} {a : Addr} {o : HO} (h : H a = none) : Tx H (L2.upd H a o) := Tx.upd (by rw [h]; trivial)
theorem same_new {H : Hp} {p : Addr} (h : H p = none) (o : HO) : Same H (upd H p o) := fun b u q => by rw [upd_ne (ne_of_none q h)]; exact q
/-- what was there ahead stays, if only newer places are written -/
theorem same_upd {H0 H : Hp} {a : Addr} {o : HO} (s : Same H0 H) (n : H0 a = none) : Same H0 (upd H a o) := fun b u q => by rw [upd_ne (ne_of_none q n)]; exact s b u q
theorem br_f {c : Bool} {A B : Prop} (h : c = false) (q : B) : if c = true then A else B := by rw [h]; exact q
theorem br_t {c : Bool} {A B : Prop} (h : c = true) (q : A) : if c = true then A else B := by rw [if_pos h]; exact q
theorem small {n : Nat} (h : n ≤ 1000) : n ≤ sizeLine := Nat.le_of_lt (small1000 h)
/-! ### names, signs -/
inductive Nm where
  | t | x | r | k | stop
  deriving DecidableEq
def Nm.s : Nm → Str
  | .t => "t" | .x => "x" | .r => "r" | .k => "k" | .stop => "stop"
theorem Nm.inj : ∀ {a b : Nm}, a.s = b.s → a = b
  | a, b, h => by cases a <;> cases b <;> first | rfl | exact absurd h (by decide +kernel)
theorem Nm.dec (a b : Nm) : decide (V.str a.s = V.str b.s) = decide (a = b) := by
  by_cases e : a = b
  · subst e; rw [decide_eq_true rfl, decide_eq_true rfl]
  · rw [decide_eq_false e, decide_eq_false (fun z => e (Nm.inj (V.str.inj z)))]
inductive Sg where
  | add | mul
  deriving DecidableEq
def Sg.s : Sg → Str
  | .add => "+" | .mul => "*"
/-! ### trees -/
inductive Tr where
  | num (i : Int) | name (x : Nm) | op (s : Sg) (a b : Tr) | lt (x : Nm) (a b : Tr) | ask (o : Nm) (a : Tr) | print (a b : Tr) | quoted (a : Tr)
  | handle (a : Tr) (r : Nm) (f : Tr) (o x k : Nm) (g : Tr) | kept
def Hd (H : Hp) (vr : V) (vc : V) (r : Nm) (vf : V) (o x k : Nm) (vg : V) : Prop :=
  ∃ q c d, vr = .ref q ∧ vc = .ref c ∧ H q = some (.tup [.str r.s, vf]) ∧ H c = some (.tup [.ref d]) ∧ H d = some (.tup [.str o.s, .str x.s, .str k.s, vg])
def At (H : Hp) : Tr → V → Prop
  | .num i, v => ∃ p, v = .ref p ∧ H p = some (.tup [.str "num", .int i])
  | .name x, v => ∃ p, v = .ref p ∧ H p = some (.tup [.str "name", .str x.s])
  | .op s a b, v => ∃ p va vb, v = .ref p ∧ H p = some (.tup [.str "op", .str s.s, va, vb]) ∧ At H a va ∧ At H b vb
  | .lt x a b, v => ∃ p va vb, v = .ref p ∧ H p = some (.tup [.str "let", .str x.s, va, vb]) ∧ At H a va ∧ At H b vb
  | .ask o a, v => ∃ p va, v = .ref p ∧ H p = some (.tup [.str "ask", .str o.s, va]) ∧ At H a va
  | .print a b, v => ∃ p va vb, v = .ref p ∧ H p = some (.tup [.str "print", va, vb]) ∧ At H a va ∧ At H b vb
  | .quoted a, v => ∃ p va, v = .ref p ∧ H p = some (.tup [.str "quoted", va]) ∧ At H a va
  | .handle a r f o x k g, v => ∃ p va vr vc vf vg, v = .ref p ∧ H p = some (.tup [.str "handle", va, vr, vc]) ∧ Hd H vr vc r vf o x k vg ∧ At H a va ∧ At H f vf ∧ At H g vg
  | .kept, _ => True
theorem Hd.mono {H H' : Hp} {vr vc vf vg : V} {r o x k : Nm} (h : Hd H vr vc r vf o x k vg) (t : Tx H H') : Hd H' vr vc r vf o x k vg := by
  obtain ⟨q, c, d, e1, e2, h1, h2, h3⟩ := h
  exact ⟨q, c, d, e1, e2, t _ _ h1, t _ _ h2, t _ _ h3⟩
theorem At.mono {H H' : Hp} (t : Tx H H') : ∀ {e : Tr} {v : V}, At H e v → At H' e v
  | .num _, _, ⟨p, e, h⟩ => ⟨p, e, t _ _ h⟩
  | .name _, _, ⟨p, e, h⟩ => ⟨p, e, t _ _ h⟩
  | .op .., _, ⟨p, va, vb, e, h, a, b⟩ => ⟨p, va, vb, e, t _ _ h, At.mono t a, At.mono t b⟩
  | .lt .., _, ⟨p, va, vb, e, h, a, b⟩ => ⟨p, va, vb, e, t _ _ h, At.mono t a, At.mono t b⟩
  | .ask .., _, ⟨p, va, e, h, a⟩ => ⟨p, va, e, t _ _ h, At.mono t a⟩
  | .print .., _, ⟨p, va, vb, e, h, a, b⟩ => ⟨p, va, vb, e, t _ _ h, At.mono t a, At.mono t b⟩
  | .quoted _, _, ⟨p, va, e, h, a⟩ => ⟨p, va, e, t _ _ h, At.mono t a⟩
  | .handle .., _, ⟨p, va, vr, vc, vf, vg, e, h, hd, a, f, g⟩ => ⟨p, va, vr, vc, vf, vg, e, t _ _ h, hd.mono t, At.mono t a, At.mono t f, At.mono t g⟩
  | .kept, _, _ => trivial
/-! ### lists of related values -/
inductive Rel2 {α : Type} (R : α → V → Prop) : List α → List V → Prop where
  | nil : Rel2 R [] []
  | cons {a : α} {v : V} {as : List α} {vs : List V} : R a v → Rel2 R as vs → Rel2 R (a :: as) (v :: vs)
theorem Rel2.mono {α : Type} {R S : α → V → Prop} (h : ∀ a v, R a v → S a v) : ∀ {as : List α} {vs : List V}, Rel2 R as vs → Rel2 S as vs
  | _, _, .nil => .nil
  | _, _, .cons r t => .cons (h _ _ r) (t.mono h)
theorem Rel2.len {α : Type} {R : α → V → Prop} : ∀ {as : List α} {vs : List V}, Rel2 R as vs → as.length = vs.length
  | _, _, .nil => rfl
  | _, _, .cons _ t => congrArg Nat.succ t.len
/-! ### putting in -/
def putIn (n : Nm) (t : Tr) : Tr → Tr
  | .name x => if x = n then t else .name x
  | .op s a b => .op s (putIn n t a) (putIn n t b)
  | .lt x a b => .lt x (putIn n t a) (if n = x then b else putIn n t b)
  | .ask o a => .ask o (putIn n t a)
  | .print a b => .print (putIn n t a) (putIn n t b)
  | e => e
/-- how deep the calls go -/
def pdep (n : Nm) : Tr → Nat
  | .op _ a b => max (pdep n a) (pdep n b) + 1
  | .lt x a b => max (pdep n a) (if n = x then 0 else pdep n b) + 1
  | .ask _ a => pdep n a + 1
  | .print a b => max (pdep n a) (pdep n b) + 1
  | _ => 0
/-- no handle, nothing kept -/
def plainT : Tr → Bool
  | .op _ a b => plainT a && plainT b
  | .lt _ a b => plainT a && plainT b
  | .ask _ a => plainT a
  | .print a b => plainT a && plainT b
  | .handle .. => false
  | .kept => false
  | _ => true
def partsT : Tr → List Tr
  | .op _ a b => [a, b]
  | .lt _ a b => [a, b]
  | .ask _ a => [a]
  | .print a b => [a, b]
  | _ => []
end AF

namespace AF
open PySem PySem.Spec PyProof.Rows L2
set_option hygiene false in
local macro_rules | `(tactic| walk_at "skip") => `(tactic| repeat (refine ⟨_, rfl, rfl, _, rfl, br_f (by decide +kernel) ?_⟩))
set_option hygiene false in
local macro_rules | `(tactic| walk_at "hit") => `(tactic| refine ⟨_, rfl, rfl, _, rfl, br_t (by decide +kernel) ?_⟩)
section
variable {P : Program} {w : World} {K : PySem.W.Frag} {mg : Str → Option Value} {base : Heap}
theorem if_lt {t u : TS} {D : Ends} {σ : L2.St} {H : Hp} {i : Nat} {x : V} {b : Bool} (T : Fx K w mg) (h : σ[i]? = some (some x)) (hx : flatV x = true) (hb : inV x [.str "num", .str "flag", .str "unit", .str "name", .str "kept", .str "quoted"] = b)
    (q : if b = true then t D σ H else u D σ H) : tIfS (tTest (tOp (rIn K false) (tVar i) (tC (.ref (He.ga K "LEAVES_trees"))))) t u D σ H :=
  ⟨_, h, _, _, rfl, .inr (T.lt H), hx, rfl, b, by rw [if_neg Bool.false_ne_true, hb], q⟩
theorem if_in2 {t u : TS} {D : Ends} {σ : L2.St} {H : Hp} {i : Nat} {x s1 s2 : V} {b : Bool} (h : σ[i]? = some (some x)) (hx : flatV x = true) (h1 : flatV s1 = true) (h2 : flatV s2 = true) (hb : inV x [s1, s2] = b)
    (q : ∀ H', Same H H' → if b = true then t D σ H' else u D σ H') : tIfS (tTest (tOp (rIn K false) (tVar i) (tTup (tCons (tC s1) (tCons (tC s2) tNil))))) t u D σ H :=
  ⟨_, h, by show 2 ≤ sizeLine; decide, fun p hp => ⟨p, [s1, s2], rfl, .inr (SqT.of upd_same), hx, by rw [List.all_cons, List.all_cons, h1, h2] <;> rfl, b, by rw [if_neg Bool.false_ne_true, hb], q _ (same_new hp _)⟩⟩
theorem if_in3 {t u : TS} {D : Ends} {σ : L2.St} {H : Hp} {i : Nat} {x s1 s2 s3 : V} {b : Bool} (h : σ[i]? = some (some x)) (hx : flatV x = true) (h1 : [s1, s2, s3].all flatV = true) (hb : inV x [s1, s2, s3] = b)
    (q : ∀ H', Same H H' → if b = true then t D σ H' else u D σ H') : tIfS (tTest (tOp (rIn K false) (tVar i) (tTup (tCons (tC s1) (tCons (tC s2) (tCons (tC s3) tNil)))))) t u D σ H :=
  ⟨_, h, by show 3 ≤ sizeLine; decide, fun p hp => ⟨p, [s1, s2, s3], rfl, .inr (SqT.of upd_same), hx, h1, b, by rw [if_neg Bool.false_ne_true, hb], q _ (same_new hp _)⟩⟩
/-! ### parts -/
def spParts : Sp := fun vs H Q _ => ∃ e v, vs = [v] ∧ At H e v ∧ plainT e = true ∧ ∀ H' p ws, Same H H' → H p = none → H' p = some (.lst ws) → Rel2 (At H') (partsT e) ws → Q (.ref p) H'
theorem ok_parts (T : Fx K w mg) : FnOk P w K mg base CX0 1 (He.ga K "parts") (fdOf K ("parts", none)) ["expression"] spParts := by
  refine T.parts.F.ok sc_parts (fun vs H Q E h => ?_) (fun cdv A outer s H vs Q E hr h => ?_)
  · obtain ⟨e, v, rfl, _⟩ := h
    rfl
  · obtain ⟨e, v, rfl, hv, hp, k⟩ := h
    refine ⟨_, (pss_cons (ps_set (i := 1) sc_parts.nd rfl (Or.inl rfl) (pe_ix ix_tup (pv 0) pe_int (fun _ _ => rfl)))
      (pss_cons (ps_if (pt_cmpR op_in_seq (pv 1) (C8.pe_gc rfl T.g_LEAVES_trees) rfl)
        (pss_one (ps_ret (pe_lst pa_nil)))
        pss_nil)
      (pss_cons (ps_if (pt_cmpR op_in_seq (pv 1) (pe_tup (pa_cons pe_str (pa_cons pe_str pa_nil))) rfl)
        pss_never
        pss_nil)
      (pss_cons (ps_if (pt_cmpR op_in_seq (pv 1) (pe_tup (pa_cons pe_str (pa_cons pe_str pa_nil))) rfl)
        (pss_one (ps_ret (pe_lst (pa_cons (pe_ix ix_tup (pv 0) pe_int (fun _ _ => rfl)) (pa_cons (pe_ix ix_tup (pv 0) pe_int (fun _ _ => rfl)) pa_nil)))))
        pss_nil)
      (pss_cons (ps_if (pt_cmpR op_eq (pv 1) pe_str (nomark _))
        (pss_one (ps_ret (pe_lst (pa_cons (pe_ix ix_tup (pv 0) pe_int (fun _ _ => rfl)) pa_nil))))
        pss_nil)
      (pss_cons (ps_if (pt_cmpR op_eq (pv 1) pe_str (nomark _))
        pss_never
        pss_nil)
      (pss_one (ps_ret (pe_callTy call_list_of (by rfl) T.n_list (by decide +kernel) (pa_cons (pe_slice sl_tupA (pv 0) (po_some pe_int) po_none) pa_nil)))))))))), ?_⟩
    cases e with
    | num i =>
      obtain ⟨a, rfl, hA⟩ := hv
      refine ⟨_, rfl, a, _, _, _, rfl, rfl, SqT.of hA, rfl, ?_⟩
      refine if_lt T rfl rfl (b := true) (by decide +kernel) (iteT ?_)
      exact ⟨Nat.zero_le _, fun p np => k _ p _ (same_new np _) np upd_same .nil⟩
    | name x =>
      obtain ⟨a, rfl, hA⟩ := hv
      refine ⟨_, rfl, a, _, _, _, rfl, rfl, SqT.of hA, rfl, ?_⟩
      refine if_lt T rfl rfl (b := true) (by decide +kernel) (iteT ?_)
      exact ⟨Nat.zero_le _, fun p np => k _ p _ (same_new np _) np upd_same .nil⟩
    | quoted q =>
      obtain ⟨a, va, rfl, hA, _⟩ := hv
      refine ⟨_, rfl, a, _, _, _, rfl, rfl, SqT.of hA, rfl, ?_⟩
      refine if_lt T rfl rfl (b := true) (by decide +kernel) (iteT ?_)
      exact ⟨Nat.zero_le _, fun p np => k _ p _ (same_new np _) np upd_same .nil⟩
    | op s a b =>
      obtain ⟨p, va, vb, rfl, hA, ha, hb⟩ := hv
      refine ⟨_, rfl, p, _, _, _, rfl, rfl, SqT.of hA, rfl, ?_⟩
      refine if_lt T rfl rfl (b := false) (by decide +kernel) (iteF ?_)
      refine if_in2 (b := false) rfl rfl rfl rfl (by decide +kernel) fun H1 s1 => iteF ?_
      refine if_in2 (b := true) rfl rfl rfl rfl (by decide +kernel) fun H2 s2 => iteT ?_
      have s3 := s1.trans s2
      refine ⟨_, rfl, p, _, _, _, rfl, rfl, SqT.of (s3 _ _ hA), rfl, _, rfl, p, _, _, _, rfl, rfl, SqT.of (s3 _ _ hA), rfl, by show 2 ≤ sizeLine; decide, fun q nq => ?_⟩
      have s4 := s3.trans (same_new nq (.lst [va, vb]))
      exact k _ q _ s4 (s3.free nq) upd_same (.cons (ha.mono (.same s4)) (.cons (hb.mono (.same s4)) .nil))
    | lt x a b =>
      obtain ⟨p, va, vb, rfl, hA, ha, hb⟩ := hv
      refine ⟨_, rfl, p, _, _, _, rfl, rfl, SqT.of hA, rfl, ?_⟩
      refine if_lt T rfl rfl (b := false) (by decide +kernel) (iteF ?_)
      refine if_in2 (b := false) rfl rfl rfl rfl (by decide +kernel) fun H1 s1 => iteF ?_
      refine if_in2 (b := true) rfl rfl rfl rfl (by decide +kernel) fun H2 s2 => iteT ?_
      have s3 := s1.trans s2
      refine ⟨_, rfl, p, _, _, _, rfl, rfl, SqT.of (s3 _ _ hA), rfl, _, rfl, p, _, _, _, rfl, rfl, SqT.of (s3 _ _ hA), rfl, by show 2 ≤ sizeLine; decide, fun q nq => ?_⟩
      have s4 := s3.trans (same_new nq (.lst [va, vb]))
      exact k _ q _ s4 (s3.free nq) upd_same (.cons (ha.mono (.same s4)) (.cons (hb.mono (.same s4)) .nil))
    | ask o a =>
      obtain ⟨p, va, rfl, hA, ha⟩ := hv
      refine ⟨_, rfl, p, _, _, _, rfl, rfl, SqT.of hA, rfl, ?_⟩
      refine if_lt T rfl rfl (b := false) (by decide +kernel) (iteF ?_)
      refine if_in2 (b := false) rfl rfl rfl rfl (by decide +kernel) fun H1 s1 => iteF ?_
      refine if_in2 (b := false) rfl rfl rfl rfl (by decide +kernel) fun H2 s2 => iteF ?_
      have s3 := s1.trans s2
      walk_at "hit"
      refine ⟨_, rfl, p, _, _, _, rfl, rfl, SqT.of (s3 _ _ hA), rfl, by show 1 ≤ sizeLine; decide, fun q nq => ?_⟩
      have s4 := s3.trans (same_new nq (.lst [va]))
      exact k _ q _ s4 (s3.free nq) upd_same (.cons (ha.mono (.same s4)) .nil)
    | print a b =>
      obtain ⟨p, va, vb, rfl, hA, ha, hb⟩ := hv
      refine ⟨_, rfl, p, _, _, _, rfl, rfl, SqT.of hA, rfl, ?_⟩
      refine if_lt T rfl rfl (b := false) (by decide +kernel) (iteF ?_)
      refine if_in2 (b := false) rfl rfl rfl rfl (by decide +kernel) fun H1 s1 => iteF ?_
      refine if_in2 (b := false) rfl rfl rfl rfl (by decide +kernel) fun H2 s2 => iteF ?_
      have s3 := s1.trans s2
      walk_at "skip"
      refine ⟨_, rfl, _, rfl, p, _, rfl, SqT.of (s3 _ _ hA), fun z => absurd z.1 (by show ¬ (HT.sIx 3 0 (some 1) = 0); decide), fun _ t nt => ?_⟩
      refine ⟨t, [va, vb], rfl, .inr (SqT.of upd_same), fun q nq => ?_⟩
      have s5 := s3.trans (same_new nt (.tup [va, vb]))
      have s4 := s5.trans (same_new nq (.lst [va, vb]))
      exact k _ q _ s4 (s5.free nq) upd_same (.cons (ha.mono (.same s4)) (.cons (hb.mono (.same s4)) .nil))
    | handle => cases hp
    | kept => cases hp
/-! ### the names bound in the parts -/
def NL (H0 H : Hp) (ns : List Nm) (v : V) : Prop := ∃ q, v = .ref q ∧ H0 q = none ∧ H q = some (.lst (ns.map fun n => .str n.s))
def boundT : Tr → List (List Nm)
  | .lt x _ _ => [[], [x]]
  | e => (partsT e).map fun _ => []
inductive HK where
  | num | name | op | lt | ask | print | quoted | handle | kept
  deriving DecidableEq
def HK.s : HK → Str
  | .num => "num" | .name => "name" | .op => "op" | .lt => "let" | .ask => "ask" | .print => "print" | .quoted => "quoted" | .handle => "handle" | .kept => "kept"
def hk : Tr → HK
  | .num _ => .num | .name _ => .name | .op .. => .op | .lt .. => .lt | .ask .. => .ask | .print .. => .print | .quoted _ => .quoted | .handle .. => .handle | .kept => .kept
def hdT (e : Tr) : Str := (hk e).s
theorem hk_lt {e : Tr} (h : hk e = .lt) : ∃ x a b, e = .lt x a b := by
  cases e with
  | lt x a b => exact ⟨x, a, b, rfl⟩
  | _ => cases h
theorem hk_name {e : Tr} (h : hk e = .name) : ∃ x, e = .name x := by
  cases e with
  | name x => exact ⟨x, rfl⟩
  | _ => cases h
theorem plain_hk {e : Tr} (h : plainT e = true) : hk e ≠ .handle := by
  cases e with
  | handle => cases h
  | _ => intro z; cases z
theorem HK.fun_ : ∀ h : HK, decide (V.str h.s = V.str "fun") = false := by intro h; cases h <;> decide +kernel
theorem HK.rec_ : ∀ h : HK, decide (V.str h.s = V.str "rec") = false := by intro h; cases h <;> decide +kernel
theorem HK.let_ : ∀ h : HK, h ≠ .lt → decide (V.str h.s = V.str "let") = false := by intro h; cases h <;> decide +kernel
theorem HK.name_ : ∀ h : HK, h ≠ .name → decide (V.str h.s = V.str "name") = false := by intro h; cases h <;> decide +kernel
theorem HK.handle_ : ∀ h : HK, h ≠ .handle → decide (V.str h.s = V.str "handle") = false := by intro h; cases h <;> decide +kernel
theorem at_head {H : Hp} {e : Tr} {v : V} (h : At H e v) (hp : e ≠ .kept) : ∃ a rest, v = .ref a ∧ H a = some (.tup (.str (hdT e) :: rest)) := by
  cases e with
  | num i => obtain ⟨a, e, h⟩ := h; exact ⟨a, _, e, h⟩
  | name i => obtain ⟨a, e, h⟩ := h; exact ⟨a, _, e, h⟩
  | op s a b => obtain ⟨a, _, _, e, h, _⟩ := h; exact ⟨a, _, e, h⟩
  | lt s a b => obtain ⟨a, _, _, e, h, _⟩ := h; exact ⟨a, _, e, h⟩
  | ask s a => obtain ⟨a, _, e, h, _⟩ := h; exact ⟨a, _, e, h⟩
  | print a b => obtain ⟨a, _, _, e, h, _⟩ := h; exact ⟨a, _, e, h⟩
  | quoted a => obtain ⟨a, _, e, h, _⟩ := h; exact ⟨a, _, e, h⟩
  | handle a => obtain ⟨a, _, _, _, _, _, e, h, _⟩ := h; exact ⟨a, _, e, h⟩
  | kept => exact absurd rfl hp
def spBound : Sp := fun vs H Q _ => ∃ e v, vs = [v] ∧ At H e v ∧ plainT e = true ∧ ∀ H' p ws, Same H H' → H p = none → H' p = some (.lst ws) → Rel2 (NL H H') (boundT e) ws → Q (.ref p) H'
theorem rel2_snoc {α : Type} {R : α → V → Prop} {a : α} {v : V} (h : R a v) : ∀ {as : List α} {vs : List V}, Rel2 R as vs → Rel2 R (as ++ [a]) (vs ++ [v])
  | _, _, .nil => .cons h .nil
  | _, _, .cons r t => .cons r (rel2_snoc h t)
theorem map_nil {α : Type} : ∀ l : List α, (l.map fun _ => ([] : List Nm)) = List.replicate l.length []
  | [] => rfl
  | _ :: r => by rw [List.map_cons, map_nil r]; rfl
theorem boundT_nil {e : Tr} (h : ∀ x a b, e ≠ .lt x a b) : boundT e = List.replicate (partsT e).length [] := by
  cases e with
  | lt x a b => exact absurd rfl (h x a b)
  | _ => first | exact map_nil _ | rfl
def NLx (D : Addr) (H0 H : Hp) (ns : List Nm) (v : V) : Prop := ∃ q, v = .ref q ∧ q ≠ D ∧ H0 q = none ∧ H q = some (.lst (ns.map fun n => .str n.s))
theorem ok_bound (T : Fx K w mg) : FnOk P w K mg base CX0 2 (He.ga K "bound_names") (fdOf K ("bound_names", none)) ["expression"] spBound := by
  have G_parts : FnOk P w K mg base CX0 1 _ _ _ _ := ok_parts T
  refine T.bound_names.F.ok sc_bound_names (fun vs H Q E h => ?_) (fun cdv A outer s H vs Q E hr h => ?_)
  · obtain ⟨e, v, rfl, _⟩ := h
    rfl
  · obtain ⟨e, v, rfl, hv, hp, k⟩ := h
    refine ⟨_, (pss_cons (ps_set (i := 1) sc_bound_names.nd rfl (Or.inl rfl) (pe_ix ix_tup (pv 0) pe_int (fun _ _ => rfl)))
      (pss_cons (ps_if (pt_cmpR op_eq (pv 1) pe_str (nomark _))
        pss_never
        pss_nil)
      (pss_cons (ps_if (pt_cmpR op_eq (pv 1) pe_str (nomark _))
        pss_never
        pss_nil)
      (pss_cons (ps_if (pt_cmpR op_eq (pv 1) pe_str (nomark _))
        (pss_one (ps_ret (pe_lst (pa_cons (pe_lst pa_nil) (pa_cons (pe_lst (pa_cons (pe_ix ix_tup (pv 0) pe_int (fun _ _ => rfl)) pa_nil)) pa_nil)))))
        pss_nil)
      (pss_cons (ps_if (pt_cmpR op_eq (pv 1) pe_str (nomark _))
        pss_never
        pss_nil)
      (pss_one (ps_ret (pe_lc (own := [("part", 2)]) rfl sc_bound_names.nd (pi_list (pe_call G_parts (hr.mono (by omega)) rfl T.parts.m T.parts.F.kp T.parts.b .nil pass0 (pa_cons (pv 0) pa_nil))) (blkOk_by (sc := defScope s_bound_names) (own := [("part", 2)]) (N := ["expression", "head", "part", "clause"]) (by decide +kernel)) (fun _ _ _ _ _ => pg_name (i := 2) sc_bound_names.nd rfl (Or.inl rfl)) (fun _ _ _ _ _ => pts_nil) (fun _ _ _ _ _ => (pe_lst pa_nil)))))))))), ?_⟩
    obtain ⟨a, rest, rfl, hA⟩ := at_head hv (fun z => by rw [z] at hp; cases hp)
    refine ⟨_, rfl, a, _, _, _, rfl, rfl, SqT.of hA, atI_nat (j := 0) rfl, ?_⟩
    by_cases hl : ∃ x b c, e = .lt x b c
    · obtain ⟨x, b, c, rfl⟩ := hl
      obtain ⟨p, va, vb, e1, hA2, _⟩ := hv
      cases e1
      refine ⟨_, rfl, rfl, _, rfl, br_f (HK.fun_ .lt) ?_⟩
      refine ⟨_, rfl, rfl, _, rfl, br_f (HK.rec_ .lt) ?_⟩
      refine ⟨_, rfl, rfl, _, rfl, br_t rfl ?_⟩
      refine ⟨Nat.zero_le _, fun q nq => ?_⟩
      have s1 := same_new nq (.lst [])
      refine ⟨_, rfl, a, _, _, _, rfl, rfl, SqT.of (s1 _ _ hA2), rfl, by show 1 ≤ sizeLine; decide, fun q2 nq2 => ⟨by show 2 ≤ sizeLine; decide, fun q3 nq3 => ?_⟩⟩
      have s2 := same_new nq2 (.lst [V.str x.s])
      have s3 := same_new nq3 (.lst [V.ref q, V.ref q2])
      exact k _ q3 _ (s1.trans (s2.trans s3)) (s1.free (s2.free nq3)) upd_same (.cons ⟨q, rfl, nq, s3 _ _ (s2 _ _ upd_same)⟩ (.cons ⟨q2, rfl, s1.free nq2, s3 _ _ upd_same⟩ .nil))
    · have hne : ∀ x b c, e ≠ .lt x b c := fun x b c z => hl ⟨x, b, c, z⟩
      refine ⟨_, rfl, rfl, _, rfl, br_f (HK.fun_ (hk e)) ?_⟩
      refine ⟨_, rfl, rfl, _, rfl, br_f (HK.rec_ (hk e)) ?_⟩
      refine ⟨_, rfl, rfl, _, rfl, br_f (HK.let_ (hk e) fun z => hl (hk_lt z)) ?_⟩
      refine ⟨_, rfl, rfl, _, rfl, br_f (HK.handle_ (hk e) (plain_hk hp)) ?_⟩
      refine ⟨_, rfl, e, _, rfl, hv, hp, fun H1 p ws s1 np h1 r1 => ⟨p, rfl, ⟨_, SqL.of h1⟩, fun D nD => ?_⟩⟩
      have hl := r1.len
      have h2 : ws.length ≤ 2 := by
        rw [← hl]
        cases e <;> simp [partsT]
      refine lc_list (K := K) (a := p) (xs := ws) (fun i H2 => Same H1 H2 ∧ ∃ acc, H2 D = some (.lst acc) ∧ acc.length = i ∧ Rel2 (NLx D H H2) (List.replicate i []) acc) ⟨same_new nD _, [], upd_same, rfl, .nil⟩ (fun i H2 _ ⟨s2, _⟩ => SqL.of (s2 _ _ h1)) ?_ ?_
      · rintro i y H2 hi ⟨s2, acc, hD, ha, hrel⟩
        have hil : i < ws.length := (List.getElem?_eq_some_iff.mp hi).1
        refine ⟨rfl, ?_⟩
        refine ⟨Nat.zero_le _, fun q nq => ?_⟩
        have nDq : D ≠ q := ne_of_none hD nq
        have sq : Same H2 (upd H2 q (.lst [])) := same_new nq _
        refine ⟨acc, by rw [upd_ne nDq]; exact hD, small1000 (by omega), same_upd (s2.trans sq) nD, acc ++ [.ref q], upd_same, by simp [ha], ?_⟩
        rw [List.replicate_succ']
        refine rel2_snoc ⟨q, rfl, nDq.symm, (s1.trans s2).free nq, by rw [upd_ne nDq.symm, upd_same]; rfl⟩ (hrel.mono fun ns v ⟨b, e1, hb, h0, h⟩ => ⟨b, e1, hb, h0, by rw [upd_ne hb]; exact sq _ _ h⟩)
      · rintro H2 ⟨s2, acc, hD, ha, hrel⟩
        refine k H2 D acc (s1.trans s2) (s1.free nD) hD ?_
        rw [boundT_nil hne, hl]
        exact hrel.mono fun ns v ⟨b, e1, hb, h0, h⟩ => ⟨b, e1, h0, h⟩
/-! ### with other parts -/
def withT : Tr → List Tr → Tr
  | .op s _ _, [a, b] => .op s a b
  | .lt x _ _, [a, b] => .lt x a b
  | .ask o _, [a] => .ask o a
  | .print _ _, [a, b] => .print a b
  | e, _ => e
def spWith : Sp := fun vs H Q _ => ∃ e v p ps ws, vs = [v, .ref p] ∧ At H e v ∧ plainT e = true ∧ H p = some (.lst ws) ∧ Rel2 (At H) ps ws ∧ ps.length = (partsT e).length ∧ ∀ H' v', Same H H' → At H' (withT e ps) v' → Q v' H'
theorem ok_with (T : Fx K w mg) : FnOk P w K mg base CX0 1 (He.ga K "with_parts") (fdOf K ("with_parts", none)) ["expression", "inner"] spWith := by
  refine T.with_parts.F.ok sc_with_parts (fun vs H Q E h => ?_) (fun cdv A outer s H vs Q E hr h => ?_)
  · obtain ⟨e, v, p, ps, ws, rfl, _⟩ := h
    rfl
  · obtain ⟨e, v, p, ps, ws, rfl, hv, hp, hP, rel, hl, k⟩ := h
    refine ⟨_, (pss_cons (ps_set (i := 2) sc_with_parts.nd rfl (Or.inl rfl) (pe_ix ix_tup (pv 0) pe_int (fun _ _ => rfl)))
      (pss_cons (ps_if (pt_cmpR op_in_seq (pv 2) (C8.pe_gc rfl T.g_LEAVES_trees) rfl)
        (pss_one (ps_ret (pv 0)))
        pss_nil)
      (pss_cons (ps_if (pt_cmpR op_in_seq (pv 2) (pe_tup (pa_cons pe_str (pa_cons pe_str pa_nil))) rfl)
        pss_never
        pss_nil)
      (pss_cons (ps_if (pt_cmpR op_in_seq (pv 2) (pe_tup (pa_cons pe_str (pa_cons pe_str pa_nil))) rfl)
        (pss_one (ps_ret (pe_op op_catA (pe_slice sl_tupA (pv 0) po_none (po_some pe_int)) (pe_tup (pa_cons (pe_ix ix_list (pv 1) pe_int (fun _ _ => rfl)) (pa_cons (pe_ix ix_list (pv 1) pe_int (fun _ _ => rfl)) pa_nil))))))
        pss_nil)
      (pss_cons (ps_if (pt_cmpR op_eq (pv 2) pe_str (nomark _))
        (pss_one (ps_ret (pe_tup (pa_cons pe_str (pa_cons (pe_ix ix_tup (pv 0) pe_int (fun _ _ => rfl)) (pa_cons (pe_ix ix_list (pv 1) pe_int (fun _ _ => rfl)) pa_nil))))))
        pss_nil)
      (pss_cons (ps_if (pt_cmpR op_eq (pv 2) pe_str (nomark _))
        pss_never
        pss_nil)
      (pss_one (ps_ret (pe_op op_catA (pe_tup (pa_cons (pv 2) pa_nil)) (pe_callTy call_tuple_of (by rfl) T.n_tuple (by decide +kernel) (pa_cons (pv 1) pa_nil))))))))))), ?_⟩
    cases e with
    | num i =>
      obtain ⟨a, rfl, hA⟩ := id hv
      refine ⟨_, rfl, a, _, _, _, rfl, rfl, SqT.of hA, rfl, ?_⟩
      refine if_lt T rfl rfl (b := true) (by decide +kernel) (iteT ?_)
      exact ⟨_, rfl, k _ _ (Same.refl _) hv⟩
    | name x =>
      obtain ⟨a, rfl, hA⟩ := id hv
      refine ⟨_, rfl, a, _, _, _, rfl, rfl, SqT.of hA, rfl, ?_⟩
      refine if_lt T rfl rfl (b := true) (by decide +kernel) (iteT ?_)
      exact ⟨_, rfl, k _ _ (Same.refl _) hv⟩
    | quoted q =>
      obtain ⟨a, va, rfl, hA, _⟩ := id hv
      refine ⟨_, rfl, a, _, _, _, rfl, rfl, SqT.of hA, rfl, ?_⟩
      refine if_lt T rfl rfl (b := true) (by decide +kernel) (iteT ?_)
      exact ⟨_, rfl, k _ _ (Same.refl _) hv⟩
    | op s a b =>
      obtain ⟨q, va, vb, rfl, hA, _⟩ := id hv
      obtain ⟨a', b', ua, ub, rfl, rfl, ra, rb⟩ : ∃ a' b' ua ub, ps = [a', b'] ∧ ws = [ua, ub] ∧ At H a' ua ∧ At H b' ub := by
        cases rel with
        | nil => cases hl
        | cons r1 t => cases t with
          | nil => cases hl
          | cons r2 t => cases t with
            | nil => exact ⟨_, _, _, _, rfl, rfl, r1, r2⟩
            | cons _ _ => cases hl
      refine ⟨_, rfl, q, _, _, _, rfl, rfl, SqT.of hA, rfl, ?_⟩
      refine if_lt T rfl rfl (b := false) (by decide +kernel) (iteF ?_)
      refine if_in2 (b := false) rfl rfl rfl rfl (by decide +kernel) fun H1 s1 => iteF ?_
      refine if_in2 (b := true) rfl rfl rfl rfl (by decide +kernel) fun H2 s2 => iteT ?_
      have s3 := s1.trans s2
      refine ⟨_, rfl, _, rfl, q, _, rfl, SqT.of (s3 _ _ hA), fun z => absurd z.2 (by show ¬ (HT.sIx 4 4 (some 2) = 4); decide), fun _ t nt => ?_⟩
      have s4 := s3.trans (same_new nt (.tup [V.str "op", V.str s.s]))
      refine ⟨_, rfl, p, _, _, _, rfl, rfl, SqL.of (s4 _ _ hP), rfl, _, rfl, p, _, _, _, rfl, rfl, SqL.of (s4 _ _ hP), rfl, by show 2 ≤ sizeLine; decide, fun t2 nt2 => ?_⟩
      have st := same_new nt2 (.tup [ua, ub])
      have s5 := s4.trans st
      refine ⟨t, t2, [V.str "op", V.str s.s], [ua, ub], rfl, rfl, SqT.of (st _ _ upd_same), SqT.of upd_same, by show 4 ≤ sizeLine; decide, (fun z => nomatch z), (fun _ z => nomatch z), fun _ _ t3 nt3 => ?_⟩
      have s6 := s5.trans (same_new nt3 (.tup [V.str "op", V.str s.s, ua, ub]))
      exact k _ _ s6 ⟨t3, ua, ub, rfl, upd_same, ra.mono (.same s6), rb.mono (.same s6)⟩
    | lt x a b =>
      obtain ⟨q, va, vb, rfl, hA, _⟩ := id hv
      obtain ⟨a', b', ua, ub, rfl, rfl, ra, rb⟩ : ∃ a' b' ua ub, ps = [a', b'] ∧ ws = [ua, ub] ∧ At H a' ua ∧ At H b' ub := by
        cases rel with
        | nil => cases hl
        | cons r1 t => cases t with
          | nil => cases hl
          | cons r2 t => cases t with
            | nil => exact ⟨_, _, _, _, rfl, rfl, r1, r2⟩
            | cons _ _ => cases hl
      refine ⟨_, rfl, q, _, _, _, rfl, rfl, SqT.of hA, rfl, ?_⟩
      refine if_lt T rfl rfl (b := false) (by decide +kernel) (iteF ?_)
      refine if_in2 (b := false) rfl rfl rfl rfl (by decide +kernel) fun H1 s1 => iteF ?_
      refine if_in2 (b := true) rfl rfl rfl rfl (by decide +kernel) fun H2 s2 => iteT ?_
      have s3 := s1.trans s2
      refine ⟨_, rfl, _, rfl, q, _, rfl, SqT.of (s3 _ _ hA), fun z => absurd z.2 (by show ¬ (HT.sIx 4 4 (some 2) = 4); decide), fun _ t nt => ?_⟩
      have s4 := s3.trans (same_new nt (.tup [V.str "let", V.str x.s]))
      refine ⟨_, rfl, p, _, _, _, rfl, rfl, SqL.of (s4 _ _ hP), rfl, _, rfl, p, _, _, _, rfl, rfl, SqL.of (s4 _ _ hP), rfl, by show 2 ≤ sizeLine; decide, fun t2 nt2 => ?_⟩
      have st := same_new nt2 (.tup [ua, ub])
      have s5 := s4.trans st
      refine ⟨t, t2, [V.str "let", V.str x.s], [ua, ub], rfl, rfl, SqT.of (st _ _ upd_same), SqT.of upd_same, by show 4 ≤ sizeLine; decide, (fun z => nomatch z), (fun _ z => nomatch z), fun _ _ t3 nt3 => ?_⟩
      have s6 := s5.trans (same_new nt3 (.tup [V.str "let", V.str x.s, ua, ub]))
      exact k _ _ s6 ⟨t3, ua, ub, rfl, upd_same, ra.mono (.same s6), rb.mono (.same s6)⟩
    | ask o a =>
      obtain ⟨q, va, rfl, hA, _⟩ := id hv
      obtain ⟨a', ua, rfl, rfl, ra⟩ : ∃ a' ua, ps = [a'] ∧ ws = [ua] ∧ At H a' ua := by
        cases rel with
        | nil => cases hl
        | cons r1 t => cases t with
          | nil => exact ⟨_, _, rfl, rfl, r1⟩
          | cons r2 t => cases hl
      refine ⟨_, rfl, q, _, _, _, rfl, rfl, SqT.of hA, rfl, ?_⟩
      refine if_lt T rfl rfl (b := false) (by decide +kernel) (iteF ?_)
      refine if_in2 (b := false) rfl rfl rfl rfl (by decide +kernel) fun H1 s1 => iteF ?_
      refine if_in2 (b := false) rfl rfl rfl rfl (by decide +kernel) fun H2 s2 => iteF ?_
      have s3 := s1.trans s2
      walk_at "hit"
      refine ⟨_, rfl, q, _, _, _, rfl, rfl, SqT.of (s3 _ _ hA), rfl, _, rfl, p, _, _, _, rfl, rfl, SqL.of (s3 _ _ hP), rfl, by show 3 ≤ sizeLine; decide, fun t nt => ?_⟩
      have s4 := s3.trans (same_new nt (.tup [V.str "ask", V.str o.s, ua]))
      exact k _ _ s4 ⟨t, ua, rfl, upd_same, ra.mono (.same s4)⟩
    | print a b =>
      obtain ⟨q, va, vb, rfl, hA, _⟩ := id hv
      obtain ⟨a', b', ua, ub, rfl, rfl, ra, rb⟩ : ∃ a' b' ua ub, ps = [a', b'] ∧ ws = [ua, ub] ∧ At H a' ua ∧ At H b' ub := by
        cases rel with
        | nil => cases hl
        | cons r1 t => cases t with
          | nil => cases hl
          | cons r2 t => cases t with
            | nil => exact ⟨_, _, _, _, rfl, rfl, r1, r2⟩
            | cons _ _ => cases hl
      refine ⟨_, rfl, q, _, _, _, rfl, rfl, SqT.of hA, rfl, ?_⟩
      refine if_lt T rfl rfl (b := false) (by decide +kernel) (iteF ?_)
      refine if_in2 (b := false) rfl rfl rfl rfl (by decide +kernel) fun H1 s1 => iteF ?_
      refine if_in2 (b := false) rfl rfl rfl rfl (by decide +kernel) fun H2 s2 => iteF ?_
      have s3 := s1.trans s2
      walk_at "skip"
      refine ⟨_, rfl, by show 1 ≤ sizeLine; decide, fun t nt => ?_⟩
      have s4 := s3.trans (same_new nt (.tup [V.str "print"]))
      refine ⟨_, rfl, p, _, rfl, .inl ⟨SqL.of (s4 _ _ hP), fun t2 nt2 => ?_⟩⟩
      have st := same_new nt2 (.tup [ua, ub])
      have s5 := s4.trans st
      refine ⟨t, t2, [V.str "print"], [ua, ub], rfl, rfl, SqT.of (st _ _ upd_same), SqT.of upd_same, by show 3 ≤ sizeLine; decide, (fun z => nomatch z), (fun _ z => nomatch z), fun _ _ t3 nt3 => ?_⟩
      have s6 := s5.trans (same_new nt3 (.tup [V.str "print", ua, ub]))
      exact k _ _ s6 ⟨t3, ua, ub, rfl, upd_same, ra.mono (.same s6), rb.mono (.same s6)⟩
    | handle => cases hp
    | kept => cases hp
end
end AF

namespace AF
open PySem PySem.Spec PyProof.Rows L2
theorem Rel2.get {α : Type} {R : α → V → Prop} : ∀ {as : List α} {vs : List V} {i : Nat} {v : V}, Rel2 R as vs → vs[i]? = some v → ∃ a, as[i]? = some a ∧ R a v
  | _, _, _, _, .nil, e => by simp at e
  | _, _, 0, _, .cons r _, e => by simp at e; subst e; exact ⟨_, rfl, r⟩
  | _, _, i + 1, _, .cons _ t, e => by
    obtain ⟨a, h1, h2⟩ := Rel2.get (i := i) t (by simpa using e)
    exact ⟨a, by simpa using h1, h2⟩
/-- all but l is kept -/
def Kp (l : Addr) (H H' : Hp) : Prop := ∀ b o, H b = some o → b ≠ l → H' b = some o
theorem Kp.refl {l : Addr} (H : Hp) : Kp l H H := fun _ _ h _ => h
theorem Kp.same {l : Addr} {H H1 H2 : Hp} (k : Kp l H H1) (s : Same H1 H2) : Kp l H H2 := fun b o h n => s _ _ (k b o h n)
theorem Kp.upd {l : Addr} {H H1 : Hp} {o : HO} (k : Kp l H H1) : Kp l H (upd H1 l o) := fun b u h n => by rw [upd_ne n]; exact k b u h n
theorem Kp.tx {l : Addr} {H H1 : Hp} {xs : List V} (k : Kp l H H1) (h : H l = some (.lst xs)) : Tx H H1 := fun b ys q => k b _ q fun z => by rw [z, h] at q; cases q
theorem inV_names (n : Nm) : ∀ ns : List Nm, inV (.str n.s) (ns.map fun m => .str m.s) = decide (n ∈ ns)
  | [] => rfl
  | m :: r => by
    have ih := inV_names n r
    unfold inV at ih ⊢
    rw [List.map_cons, List.any_cons, ih]
    by_cases e : m = n
    · subst e
      have z : eqV (.str m.s) (.str m.s) = true := by simp [eqV]
      rw [z, decide_eq_true List.mem_cons_self]
      rfl
    · have z : eqV (.str m.s) (.str n.s) = false := by
        show (m.s == n.s) = false
        exact beq_eq_false_iff_ne.mpr fun q => e (Nm.inj q)
      rw [z, Bool.false_or]
      by_cases q : n ∈ r
      · rw [decide_eq_true q, decide_eq_true (List.mem_cons_of_mem _ q)]
      · rw [decide_eq_false q, decide_eq_false (by
          intro w
          rcases List.mem_cons.mp w with w | w
          · exact e w.symm
          · exact q w)]
theorem flat_names : ∀ ns : List Nm, (ns.map fun m => V.str m.s).all flatV = true
  | [] => rfl
  | _ :: r => by rw [List.map_cons, List.all_cons, flat_names r]; rfl
def newParts (n : Nm) (t e : Tr) : List Tr := List.zipWith (fun p ns => if n ∈ ns then p else putIn n t p) (partsT e) (boundT e)
theorem with_new {n : Nm} {t e : Tr} (hp : plainT e = true) (hn : hk e ≠ .name) : withT e (newParts n t e) = putIn n t e := by
  cases e with
  | name => exact absurd rfl hn
  | handle => cases hp
  | kept => cases hp
  | lt x a b =>
    show Tr.lt x (if n ∈ ([] : List Nm) then a else putIn n t a) (if n ∈ [x] then b else putIn n t b) = Tr.lt x (putIn n t a) (if n = x then b else putIn n t b)
    simp
  | op s a b =>
    show Tr.op s (if n ∈ ([] : List Nm) then a else putIn n t a) (if n ∈ ([] : List Nm) then b else putIn n t b) = Tr.op s (putIn n t a) (putIn n t b)
    simp
  | ask o a =>
    show Tr.ask o (if n ∈ ([] : List Nm) then a else putIn n t a) = Tr.ask o (putIn n t a)
    simp
  | print a b =>
    show Tr.print (if n ∈ ([] : List Nm) then a else putIn n t a) (if n ∈ ([] : List Nm) then b else putIn n t b) = Tr.print (putIn n t a) (putIn n t b)
    simp
  | _ => rfl
theorem new_len {n : Nm} {t e : Tr} : (newParts n t e).length = (partsT e).length := by
  cases e <;> rfl
theorem part_dep {n : Nm} {e p : Tr} {ns : List Nm} {i : Nat} (h1 : (partsT e)[i]? = some p) (h2 : (boundT e)[i]? = some ns) (h : n ∉ ns) : pdep n p < pdep n e := by
  have two : ∀ {a b : Tr}, ([a, b] : List Tr)[i]? = some p → p = a ∨ p = b := by
    intro a b z
    match i, z with
    | 0, z => left; simpa using z.symm
    | 1, z => right; simpa using z.symm
    | i + 2, z => simp at z
  cases e with
  | op s a b =>
    rcases two h1 with rfl | rfl
    · simp only [pdep]; omega
    · simp only [pdep]; omega
  | print a b =>
    rcases two h1 with rfl | rfl
    · simp only [pdep]; omega
    · simp only [pdep]; omega
  | ask o a =>
    match i, h1 with
    | 0, z =>
      have e : a = p := by simpa [partsT] using z
      subst e
      simp only [pdep]; omega
    | i + 1, z => simp [partsT] at z
  | lt x a b =>
    match i, h1, h2 with
    | 0, z, _ =>
      have e : a = p := by simpa [partsT] using z
      subst e
      simp only [pdep]; omega
    | 1, z, z2 =>
      have e : b = p := by simpa [partsT] using z
      have e2 : [x] = ns := by simpa [boundT] using z2
      subst e e2
      have q : ¬ n = x := fun q => h (by rw [q]; exact List.mem_cons_self)
      simp only [pdep, if_neg q]; omega
    | i + 2, z, _ => simp [partsT] at z
  | _ => simp [partsT] at h1
theorem part_plain {e p : Tr} {i : Nat} (hp : plainT e = true) (h1 : (partsT e)[i]? = some p) : plainT p = true := by
  have two : ∀ {a b : Tr}, ([a, b] : List Tr)[i]? = some p → p = a ∨ p = b := by
    intro a b z
    match i, z with
    | 0, z => left; simpa using z.symm
    | 1, z => right; simpa using z.symm
    | i + 2, z => simp at z
  cases e with
  | op s a b =>
    obtain ⟨x, y⟩ := Bool.and_eq_true_iff.mp (show (plainT a && plainT b) = true from hp)
    rcases two h1 with rfl | rfl <;> assumption
  | print a b =>
    obtain ⟨x, y⟩ := Bool.and_eq_true_iff.mp (show (plainT a && plainT b) = true from hp)
    rcases two h1 with rfl | rfl <;> assumption
  | lt x a b =>
    obtain ⟨x, y⟩ := Bool.and_eq_true_iff.mp (show (plainT a && plainT b) = true from hp)
    rcases two h1 with rfl | rfl <;> assumption
  | ask o a =>
    match i, h1 with
    | 0, z =>
      have e : a = p := by simpa [partsT] using z
      subst e
      exact hp
    | i + 1, z => simp [partsT] at z
  | _ => simp [partsT] at h1
theorem bound_len {e : Tr} : (boundT e).length = (partsT e).length := by cases e <;> rfl
def spPutIn (d : Nat) : Sp := fun vs H Q _ => ∃ e v n t vt, vs = [v, .str (Nm.s n), vt] ∧ At H e v ∧ At H t vt ∧ plainT e = true ∧ pdep n e < d ∧ ∀ H' v', Same H H' → At H' (putIn n t e) v' → Q v' H'
section
variable {P : Program} {w : World} {K : PySem.W.Frag} {mg : Str → Option Value} {base : Heap}
theorem ok_put (T : Fx K w mg) : ∀ d : Nat, FnOk P w K mg base CX0 (d + 2) (He.ga K "put_in") (fdOf K ("put_in", none)) ["expression", "name", "tree"] (spPutIn d)
  | 0 => ⟨fun vs H Q E ⟨_, _, _, _, _, _, _, _, _, h, _⟩ => absurd h (Nat.not_lt_zero _), fun A outer s H args us vs Q E _ _ _ _ ⟨_, _, _, _, _, _, _, _, _, h, _⟩ => absurd h (Nat.not_lt_zero _)⟩
  | d + 1 => by
    have G_put_in := ok_put T d
    have G_parts : FnOk P w K mg base CX0 1 _ _ _ _ := ok_parts T
    have G_bound_names : FnOk P w K mg base CX0 2 _ _ _ _ := ok_bound T
    have G_with_parts : FnOk P w K mg base CX0 1 _ _ _ _ := ok_with T
    refine T.put_in.F.ok sc_put_in (fun vs H Q E h => ?_) (fun cdv A outer s H vs Q E hr h => ?_)
    · obtain ⟨e, v, n, t, vt, rfl, _⟩ := h
      rfl
    · obtain ⟨e, v, n, t, vt, rfl, hv, ht, hp, hd, k⟩ := h
      refine ⟨_, (pss_cons (ps_if (pt_cmpR op_eq (pe_ix ix_tup (pv 0) pe_int (fun _ _ => rfl)) pe_str (nomark _))
        (pss_cons (ps_if (pt_cmpR op_eq (pe_ix ix_tup (pv 0) pe_int (fun _ _ => rfl)) (pv 1) (nomark _))
          (pss_one (ps_ret (pv 2)))
          pss_nil)
        (pss_one (ps_ret (pv 0))))
        pss_nil)
      (pss_cons (ps_set (i := 3) sc_put_in.nd rfl (Or.inl rfl) (pe_lst pa_nil))
      (pss_cons (ps_for PassesOwn.never rfl (pi_zip (by rfl) T.n_zip (pa_cons (pe_call G_parts (hr.mono (by omega)) rfl T.parts.m T.parts.F.kp T.parts.b .nil pass0 (pa_cons (pv 0) pa_nil)) (pa_cons (pe_call G_bound_names (hr.mono (by omega)) rfl T.bound_names.m T.bound_names.F.kp T.bound_names.b .nil pass0 (pa_cons (pv 0) pa_nil)) pa_nil))) (pg_tup rfl (pgs_cons (pg_name (i := 4) sc_put_in.nd rfl (Or.inl rfl)) (pgs_cons (pg_name (i := 5) sc_put_in.nd rfl (Or.inl rfl)) pgs_nil)))
        (pss_one (ps_if (pt_cmpR op_in_seq (pv 1) (pv 5) rfl)
          (pss_one (ps_expr (pe_bm PySem.F.plainAttrs_list PySem.F.slot_list_append PySem.F.type_list_append mt_append (pv 3) (pa_cons (pv 4) pa_nil))))
          (pss_one (ps_expr (pe_bm PySem.F.plainAttrs_list PySem.F.slot_list_append PySem.F.type_list_append mt_append (pv 3) (pa_cons (pe_call G_put_in (hr.mono (by omega)) rfl T.put_in.m T.put_in.F.kp T.put_in.b .nil pass0 (pa_cons (pv 4) (pa_cons (pv 1) (pa_cons (pv 2) pa_nil)))) pa_nil)))))))
      (pss_one (ps_ret (pe_call G_with_parts (hr.mono (by omega)) rfl T.with_parts.m T.with_parts.F.kp T.with_parts.b .nil pass0 (pa_cons (pv 0) (pa_cons (pv 3) pa_nil)))))))), ?_⟩
      by_cases hn : hk e = .name
      · obtain ⟨x, rfl⟩ := hk_name hn
        obtain ⟨a, rfl, hA⟩ := id hv
        refine ⟨_, rfl, a, _, _, _, rfl, rfl, SqT.of hA, rfl, rfl, _, rfl, br_t rfl ?_⟩
        refine ⟨_, rfl, a, _, _, _, rfl, rfl, SqT.of hA, rfl, _, rfl, rfl, _, rfl, ?_⟩
        rw [Nm.dec]
        by_cases q : x = n
        · refine br_t (decide_eq_true q) ?_
          refine ⟨_, rfl, k _ _ (Same.refl _) ?_⟩
          show At H (if x = n then t else .name x) vt
          rw [if_pos q]
          exact ht
        · refine br_f (decide_eq_false q) ?_
          refine ⟨_, rfl, k _ _ (Same.refl _) ?_⟩
          show At H (if x = n then t else .name x) _
          rw [if_neg q]
          exact hv
      · obtain ⟨a, rest, rfl, hA⟩ := at_head hv (fun z => by rw [z] at hp; cases hp)
        refine ⟨_, rfl, a, _, _, _, rfl, rfl, SqT.of hA, atI_nat (j := 0) rfl, rfl, _, rfl, br_f (HK.name_ _ hn) ?_⟩
        refine ⟨Nat.zero_le _, fun li nli => ?_⟩
        have s1 := same_new nli (.lst [])
        refine ⟨_, rfl, e, _, rfl, hv.mono (.same s1), hp, fun H1 p ws s2 np h1 r1 => ?_⟩
        refine ⟨_, rfl, e, _, rfl, hv.mono (.same (s1.trans s2)), hp, fun H2 bp bs s3 nbp h2 r2 => ?_⟩
        have hli : H2 li = some (.lst []) := s3 _ _ (s2 _ _ upd_same)
        have n1 : p ≠ li := (ne_of_none upd_same np).symm
        have n2 : bp ≠ li := (ne_of_none (s2 _ _ upd_same) nbp).symm
        have hl : ws.length = bs.length := by rw [← r1.len, ← r2.len, bound_len]
        have s03 : Same H H2 := s1.trans (s2.trans s3)
        refine ⟨p, bp, ws, bs, rfl, SqL.of (s3 _ _ h1), SqL.of h2, ?_⟩
        refine RZ.for_zipL (K := K) (a := p) (b := bp) hl (fun i σ Hc => (∃ o1 o2, σ = [some (.ref a), some (.str n.s), some vt, some (.ref li), o1, o2]) ∧ Kp li H2 Hc ∧ ∃ acc, Hc li = some (.lst acc) ∧ acc.length ≤ i ∧ Rel2 (At Hc) ((newParts n t e).take i) acc)
          ⟨⟨none, none, rfl⟩, Kp.refl _, [], hli, Nat.le_refl _, .nil⟩ (fun i σ Hc ⟨_, kp, _⟩ => ⟨SqL.of (kp _ _ (s3 _ _ h1) n1), SqL.of (kp _ _ h2 n2)⟩) ?_ ?_
        · rintro i x y TT σ Hc hx hy ⟨⟨o1, o2, rfl⟩, kp, acc, hc, ha, rel⟩ nT
          have hil : i < ws.length := (List.getElem?_eq_some_iff.mp hx).1
          have h2w : ws.length ≤ 2 := by
            rw [← r1.len]
            cases e <;> simp [partsT]
          obtain ⟨pt, ep, rp⟩ := r1.get hx
          obtain ⟨ns, en, q, rfl, nq0, rn⟩ := r2.get hy
          have tx : Tx H2 Hc := kp.tx hli
          have sT := same_new nT (.tup [x, .ref q])
          have nq : q ≠ li := (ne_of_none (s2 _ _ upd_same) nq0).symm
          have hq : SqL K (upd Hc TT (.tup [x, .ref q])) q (ns.map fun m => .str m.s) := SqL.of (sT _ _ (kp _ _ rn nq))
          refine ⟨TT, _, rfl, SqT.of upd_same, rfl, _, _, rfl, _, _, rfl, rfl, ?_⟩
          refine ⟨_, rfl, _, rfl, q, _, rfl, .inl hq, rfl, flat_names _, decide (n ∈ ns), by rw [if_neg Bool.false_ne_true, inV_names], ?_⟩
          have enew : (newParts n t e)[i]? = some (if n ∈ ns then pt else putIn n t pt) := by
            unfold newParts
            rw [List.getElem?_zipWith, ep, en]
          by_cases hm : n ∈ ns
          · refine br_t (decide_eq_true hm) ?_
            refine ⟨_, rfl, .inl ⟨rfl, _, SqL.of (sT _ _ hc)⟩, _, rfl, li, acc, _, rfl, rfl, sT _ _ hc, small1000 (by omega), ?_⟩
            refine ⟨⟨_, _, rfl⟩, (kp.same sT).upd, acc ++ [x], upd_same, by simp; omega, ?_⟩
            rw [if_pos hm] at enew
            rw [List.take_add_one, enew]
            have tx2 : Tx Hc (upd (upd Hc TT (.tup [x, .ref q])) li (.lst (acc ++ [x]))) := (Tx.same sT).trans (Tx.upd (by rw [sT _ _ hc]; trivial))
            exact rel2_snoc ((rp.mono (.same s3)).mono (tx.trans tx2)) (rel.mono fun a v z => z.mono tx2)
          · refine br_f (decide_eq_false hm) ?_
            refine ⟨_, rfl, .inl ⟨rfl, _, SqL.of (sT _ _ hc)⟩, _, rfl, _, rfl, _, rfl, pt, x, n, t, vt, rfl, (rp.mono (.same s3)).mono (tx.trans (.same sT)), ht.mono ((Tx.same s03).trans (tx.trans (.same sT))), part_plain hp ep, ?_, fun H4 v4 s4 h4 => ?_⟩
            · have := part_dep ep en hm
              omega
            have hc4 : H4 li = some (.lst acc) := s4 _ _ (sT _ _ hc)
            refine ⟨li, acc, _, rfl, rfl, hc4, small1000 (by omega), ?_⟩
            refine ⟨⟨_, _, rfl⟩, ((kp.same sT).same s4).upd, acc ++ [v4], upd_same, by simp; omega, ?_⟩
            rw [if_neg hm] at enew
            rw [List.take_add_one, enew]
            have tx3 : Tx H4 (upd H4 li (.lst (acc ++ [v4]))) := Tx.upd (by rw [hc4]; trivial)
            have tx2 : Tx Hc (upd H4 li (.lst (acc ++ [v4]))) := (Tx.same sT).trans ((Tx.same s4).trans tx3)
            exact rel2_snoc (h4.mono tx3) (rel.mono fun a v z => z.mono tx2)
        · rintro σ Hc ⟨⟨o1, o2, rfl⟩, kp, acc, hc, ha, rel⟩
          have tx : Tx H2 Hc := kp.tx hli
          have e1 : (newParts n t e).take ws.length = newParts n t e := List.take_of_length_le (by rw [new_len, r1.len]; exact Nat.le_refl _)
          rw [e1] at rel
          refine ⟨_, rfl, _, rfl, e, _, li, newParts n t e, acc, rfl, hv.mono ((Tx.same s03).trans tx), hp, hc, rel, new_len, fun H5 v5 s5 h5 => ?_⟩
          refine k H5 v5 (fun b o z => s5 _ _ (kp _ _ (s03 _ _ z) (ne_of_none z nli))) ?_
          rw [← with_new hp hn]
          exact h5
end
end AF

namespace AF
open PySem PySem.Spec PyProof.Rows L2
theorem lkT {k : Str} {v : V} {es : List (Str × V)} : ((k, v) :: es).lookup k = some v := by
  rw [List.lookup_cons, beq_self_eq_true]
theorem lkF {k a : Str} {v : V} {es : List (Str × V)} {r : Option V} (h : a ≠ k) (q : es.lookup a = r) : ((k, v) :: es).lookup a = r := by
  rw [List.lookup_cons, beq_false_of_ne h]
  exact q
theorem pfT {k : Str} {v y : V} {es : List (Str × V)} : putF k y ((k, v) :: es) = (k, y) :: es := by
  show (if k = k then _ else _) = _
  rw [if_pos rfl]
theorem pfF {k a : Str} {v y : V} {es es' : List (Str × V)} (h : ¬ k = a) (q : putF a y es = es') : putF a y ((k, v) :: es) = (k, v) :: es' := by
  show (if k = a then _ else _) = _
  rw [if_neg h, q]
def flRun (a0 a1 a2 a3 a4 : V) : List (Str × V) := [("current", a0), ("frames", a1), ("left", a2), ("prints", a3), ("end", a4)]
section
variable {a0 a1 a2 a3 a4 y : V}
theorem lk_Run_current : (flRun a0 a1 a2 a3 a4).lookup ("current" : Str) = some a0 := lkT
theorem pf_Run_current : putF "current" y (flRun a0 a1 a2 a3 a4) = flRun y a1 a2 a3 a4 := pfT
theorem lk_Run_frames : (flRun a0 a1 a2 a3 a4).lookup ("frames" : Str) = some a1 := lkF (by decide +kernel) lkT
theorem pf_Run_frames : putF "frames" y (flRun a0 a1 a2 a3 a4) = flRun a0 y a2 a3 a4 := pfF (by decide +kernel) (pfT)
theorem lk_Run_left : (flRun a0 a1 a2 a3 a4).lookup ("left" : Str) = some a2 := lkF (by decide +kernel) (lkF (by decide +kernel) lkT)
theorem pf_Run_left : putF "left" y (flRun a0 a1 a2 a3 a4) = flRun a0 a1 y a3 a4 := pfF (by decide +kernel) (pfF (by decide +kernel) (pfT))
theorem lk_Run_prints : (flRun a0 a1 a2 a3 a4).lookup ("prints" : Str) = some a3 := lkF (by decide +kernel) (lkF (by decide +kernel) (lkF (by decide +kernel) lkT))
theorem pf_Run_prints : putF "prints" y (flRun a0 a1 a2 a3 a4) = flRun a0 a1 a2 y a4 := pfF (by decide +kernel) (pfF (by decide +kernel) (pfF (by decide +kernel) (pfT)))
theorem lk_Run_end : (flRun a0 a1 a2 a3 a4).lookup ("end" : Str) = some a4 := lkF (by decide +kernel) (lkF (by decide +kernel) (lkF (by decide +kernel) (lkF (by decide +kernel) lkT)))
theorem pf_Run_end : putF "end" y (flRun a0 a1 a2 a3 a4) = flRun a0 a1 a2 a3 y := pfF (by decide +kernel) (pfF (by decide +kernel) (pfF (by decide +kernel) (pfF (by decide +kernel) (pfT))))
theorem ln_Run : (flRun a0 a1 a2 a3 a4).length < 1000 := by show 5 < 1000; decide
theorem no_Run_counted : (flRun a0 a1 a2 a3 a4).lookup ("counted" : Str) = none := lkF (by decide +kernel) (lkF (by decide +kernel) (lkF (by decide +kernel) (lkF (by decide +kernel) (lkF (by decide +kernel) rfl))))
theorem no_Run_begin : (flRun a0 a1 a2 a3 a4).lookup ("begin" : Str) = none := lkF (by decide +kernel) (lkF (by decide +kernel) (lkF (by decide +kernel) (lkF (by decide +kernel) (lkF (by decide +kernel) rfl))))
theorem no_Run_go_on : (flRun a0 a1 a2 a3 a4).lookup ("go_on" : Str) = none := lkF (by decide +kernel) (lkF (by decide +kernel) (lkF (by decide +kernel) (lkF (by decide +kernel) (lkF (by decide +kernel) rfl))))
theorem no_Run_single : (flRun a0 a1 a2 a3 a4).lookup ("single" : Str) = none := lkF (by decide +kernel) (lkF (by decide +kernel) (lkF (by decide +kernel) (lkF (by decide +kernel) (lkF (by decide +kernel) rfl))))
theorem no_Run_call : (flRun a0 a1 a2 a3 a4).lookup ("call" : Str) = none := lkF (by decide +kernel) (lkF (by decide +kernel) (lkF (by decide +kernel) (lkF (by decide +kernel) (lkF (by decide +kernel) rfl))))
theorem no_Run_ask : (flRun a0 a1 a2 a3 a4).lookup ("ask" : Str) = none := lkF (by decide +kernel) (lkF (by decide +kernel) (lkF (by decide +kernel) (lkF (by decide +kernel) (lkF (by decide +kernel) rfl))))
theorem no_Run_answer : (flRun a0 a1 a2 a3 a4).lookup ("answer" : Str) = none := lkF (by decide +kernel) (lkF (by decide +kernel) (lkF (by decide +kernel) (lkF (by decide +kernel) (lkF (by decide +kernel) rfl))))
def inRun0 : List (Str × V) := []
def inRun1 (a0 : V) : List (Str × V) := [("current", a0)]
def inRun2 (a0 : V) (a1 : V) : List (Str × V) := [("current", a0), ("frames", a1)]
def inRun3 (a0 : V) (a1 : V) (a2 : V) : List (Str × V) := [("current", a0), ("frames", a1), ("left", a2)]
def inRun4 (a0 : V) (a1 : V) (a2 : V) (a3 : V) : List (Str × V) := [("current", a0), ("frames", a1), ("left", a2), ("prints", a3)]
def inRun5 (a0 : V) (a1 : V) (a2 : V) (a3 : V) (a4 : V) : List (Str × V) := [("current", a0), ("frames", a1), ("left", a2), ("prints", a3), ("end", a4)]
theorem pi_Run_0 : putF "current" y (inRun0 ) = inRun1 y := rfl
theorem li_Run_0 : (inRun0 ).length < 1000 := by show 0 < 1000; decide
theorem pi_Run_1 : putF "frames" y (inRun1 a0) = inRun2 a0 y := pfF (by decide +kernel) rfl
theorem li_Run_1 : (inRun1 a0).length < 1000 := by show 1 < 1000; decide
theorem pi_Run_2 : putF "left" y (inRun2 a0 a1) = inRun3 a0 a1 y := pfF (by decide +kernel) (pfF (by decide +kernel) rfl)
theorem li_Run_2 : (inRun2 a0 a1).length < 1000 := by show 2 < 1000; decide
theorem pi_Run_3 : putF "prints" y (inRun3 a0 a1 a2) = inRun4 a0 a1 a2 y := pfF (by decide +kernel) (pfF (by decide +kernel) (pfF (by decide +kernel) rfl))
theorem li_Run_3 : (inRun3 a0 a1 a2).length < 1000 := by show 3 < 1000; decide
theorem pi_Run_4 : putF "end" y (inRun4 a0 a1 a2 a3) = inRun5 a0 a1 a2 a3 y := pfF (by decide +kernel) (pfF (by decide +kernel) (pfF (by decide +kernel) (pfF (by decide +kernel) rfl)))
theorem li_Run_4 : (inRun4 a0 a1 a2 a3).length < 1000 := by show 4 < 1000; decide
end
def flMachine (a0 a1 a2 a3 a4 : V) : List (Str × V) := [("left", a0), ("prints", a1), ("pieces", a2), ("kept", a3), ("most", a4)]
section
variable {a0 a1 a2 a3 a4 y : V}
theorem lk_Machine_left : (flMachine a0 a1 a2 a3 a4).lookup ("left" : Str) = some a0 := lkT
theorem pf_Machine_left : putF "left" y (flMachine a0 a1 a2 a3 a4) = flMachine y a1 a2 a3 a4 := pfT
theorem lk_Machine_prints : (flMachine a0 a1 a2 a3 a4).lookup ("prints" : Str) = some a1 := lkF (by decide +kernel) lkT
theorem pf_Machine_prints : putF "prints" y (flMachine a0 a1 a2 a3 a4) = flMachine a0 y a2 a3 a4 := pfF (by decide +kernel) (pfT)
theorem lk_Machine_pieces : (flMachine a0 a1 a2 a3 a4).lookup ("pieces" : Str) = some a2 := lkF (by decide +kernel) (lkF (by decide +kernel) lkT)
theorem pf_Machine_pieces : putF "pieces" y (flMachine a0 a1 a2 a3 a4) = flMachine a0 a1 y a3 a4 := pfF (by decide +kernel) (pfF (by decide +kernel) (pfT))
theorem lk_Machine_kept : (flMachine a0 a1 a2 a3 a4).lookup ("kept" : Str) = some a3 := lkF (by decide +kernel) (lkF (by decide +kernel) (lkF (by decide +kernel) lkT))
theorem pf_Machine_kept : putF "kept" y (flMachine a0 a1 a2 a3 a4) = flMachine a0 a1 a2 y a4 := pfF (by decide +kernel) (pfF (by decide +kernel) (pfF (by decide +kernel) (pfT)))
theorem lk_Machine_most : (flMachine a0 a1 a2 a3 a4).lookup ("most" : Str) = some a4 := lkF (by decide +kernel) (lkF (by decide +kernel) (lkF (by decide +kernel) (lkF (by decide +kernel) lkT)))
theorem pf_Machine_most : putF "most" y (flMachine a0 a1 a2 a3 a4) = flMachine a0 a1 a2 a3 y := pfF (by decide +kernel) (pfF (by decide +kernel) (pfF (by decide +kernel) (pfF (by decide +kernel) (pfT))))
theorem ln_Machine : (flMachine a0 a1 a2 a3 a4).length < 1000 := by show 5 < 1000; decide
theorem no_Machine_step : (flMachine a0 a1 a2 a3 a4).lookup ("step" : Str) = none := lkF (by decide +kernel) (lkF (by decide +kernel) (lkF (by decide +kernel) (lkF (by decide +kernel) (lkF (by decide +kernel) rfl))))
theorem no_Machine_wait : (flMachine a0 a1 a2 a3 a4).lookup ("wait" : Str) = none := lkF (by decide +kernel) (lkF (by decide +kernel) (lkF (by decide +kernel) (lkF (by decide +kernel) (lkF (by decide +kernel) rfl))))
theorem no_Machine_add_piece : (flMachine a0 a1 a2 a3 a4).lookup ("add_piece" : Str) = none := lkF (by decide +kernel) (lkF (by decide +kernel) (lkF (by decide +kernel) (lkF (by decide +kernel) (lkF (by decide +kernel) rfl))))
theorem no_Machine_run : (flMachine a0 a1 a2 a3 a4).lookup ("run" : Str) = none := lkF (by decide +kernel) (lkF (by decide +kernel) (lkF (by decide +kernel) (lkF (by decide +kernel) (lkF (by decide +kernel) rfl))))
theorem no_Machine_handled : (flMachine a0 a1 a2 a3 a4).lookup ("handled" : Str) = none := lkF (by decide +kernel) (lkF (by decide +kernel) (lkF (by decide +kernel) (lkF (by decide +kernel) (lkF (by decide +kernel) rfl))))
theorem no_Machine_begin : (flMachine a0 a1 a2 a3 a4).lookup ("begin" : Str) = none := lkF (by decide +kernel) (lkF (by decide +kernel) (lkF (by decide +kernel) (lkF (by decide +kernel) (lkF (by decide +kernel) rfl))))
theorem no_Machine_resume : (flMachine a0 a1 a2 a3 a4).lookup ("resume" : Str) = none := lkF (by decide +kernel) (lkF (by decide +kernel) (lkF (by decide +kernel) (lkF (by decide +kernel) (lkF (by decide +kernel) rfl))))
theorem no_Machine_call : (flMachine a0 a1 a2 a3 a4).lookup ("call" : Str) = none := lkF (by decide +kernel) (lkF (by decide +kernel) (lkF (by decide +kernel) (lkF (by decide +kernel) (lkF (by decide +kernel) rfl))))
theorem no_Machine_ask : (flMachine a0 a1 a2 a3 a4).lookup ("ask" : Str) = none := lkF (by decide +kernel) (lkF (by decide +kernel) (lkF (by decide +kernel) (lkF (by decide +kernel) (lkF (by decide +kernel) rfl))))
theorem no_Machine_answer : (flMachine a0 a1 a2 a3 a4).lookup ("answer" : Str) = none := lkF (by decide +kernel) (lkF (by decide +kernel) (lkF (by decide +kernel) (lkF (by decide +kernel) (lkF (by decide +kernel) rfl))))
def inMachine0 : List (Str × V) := []
def inMachine1 (a0 : V) : List (Str × V) := [("left", a0)]
def inMachine2 (a0 : V) (a1 : V) : List (Str × V) := [("left", a0), ("prints", a1)]
def inMachine3 (a0 : V) (a1 : V) (a2 : V) : List (Str × V) := [("left", a0), ("prints", a1), ("pieces", a2)]
def inMachine4 (a0 : V) (a1 : V) (a2 : V) (a3 : V) : List (Str × V) := [("left", a0), ("prints", a1), ("pieces", a2), ("kept", a3)]
def inMachine5 (a0 : V) (a1 : V) (a2 : V) (a3 : V) (a4 : V) : List (Str × V) := [("left", a0), ("prints", a1), ("pieces", a2), ("kept", a3), ("most", a4)]
theorem pi_Machine_0 : putF "left" y (inMachine0 ) = inMachine1 y := rfl
theorem li_Machine_0 : (inMachine0 ).length < 1000 := by show 0 < 1000; decide
theorem pi_Machine_1 : putF "prints" y (inMachine1 a0) = inMachine2 a0 y := pfF (by decide +kernel) rfl
theorem li_Machine_1 : (inMachine1 a0).length < 1000 := by show 1 < 1000; decide
theorem pi_Machine_2 : putF "pieces" y (inMachine2 a0 a1) = inMachine3 a0 a1 y := pfF (by decide +kernel) (pfF (by decide +kernel) rfl)
theorem li_Machine_2 : (inMachine2 a0 a1).length < 1000 := by show 2 < 1000; decide
theorem pi_Machine_3 : putF "kept" y (inMachine3 a0 a1 a2) = inMachine4 a0 a1 a2 y := pfF (by decide +kernel) (pfF (by decide +kernel) (pfF (by decide +kernel) rfl))
theorem li_Machine_3 : (inMachine3 a0 a1 a2).length < 1000 := by show 3 < 1000; decide
theorem pi_Machine_4 : putF "most" y (inMachine4 a0 a1 a2 a3) = inMachine5 a0 a1 a2 a3 y := pfF (by decide +kernel) (pfF (by decide +kernel) (pfF (by decide +kernel) (pfF (by decide +kernel) rfl)))
theorem li_Machine_4 : (inMachine4 a0 a1 a2 a3).length < 1000 := by show 4 < 1000; decide
end
def flPiece (a0 a1 a2 a3 a4 : V) : List (Str × V) := [("kind", a0), ("handler", a1), ("frames", a2), ("distance", a3), ("table", a4)]
section
variable {a0 a1 a2 a3 a4 y : V}
theorem lk_Piece_kind : (flPiece a0 a1 a2 a3 a4).lookup ("kind" : Str) = some a0 := lkT
theorem pf_Piece_kind : putF "kind" y (flPiece a0 a1 a2 a3 a4) = flPiece y a1 a2 a3 a4 := pfT
theorem lk_Piece_handler : (flPiece a0 a1 a2 a3 a4).lookup ("handler" : Str) = some a1 := lkF (by decide +kernel) lkT
theorem pf_Piece_handler : putF "handler" y (flPiece a0 a1 a2 a3 a4) = flPiece a0 y a2 a3 a4 := pfF (by decide +kernel) (pfT)
theorem lk_Piece_frames : (flPiece a0 a1 a2 a3 a4).lookup ("frames" : Str) = some a2 := lkF (by decide +kernel) (lkF (by decide +kernel) lkT)
theorem pf_Piece_frames : putF "frames" y (flPiece a0 a1 a2 a3 a4) = flPiece a0 a1 y a3 a4 := pfF (by decide +kernel) (pfF (by decide +kernel) (pfT))
theorem lk_Piece_distance : (flPiece a0 a1 a2 a3 a4).lookup ("distance" : Str) = some a3 := lkF (by decide +kernel) (lkF (by decide +kernel) (lkF (by decide +kernel) lkT))
theorem pf_Piece_distance : putF "distance" y (flPiece a0 a1 a2 a3 a4) = flPiece a0 a1 a2 y a4 := pfF (by decide +kernel) (pfF (by decide +kernel) (pfF (by decide +kernel) (pfT)))
theorem lk_Piece_table : (flPiece a0 a1 a2 a3 a4).lookup ("table" : Str) = some a4 := lkF (by decide +kernel) (lkF (by decide +kernel) (lkF (by decide +kernel) (lkF (by decide +kernel) lkT)))
theorem pf_Piece_table : putF "table" y (flPiece a0 a1 a2 a3 a4) = flPiece a0 a1 a2 a3 y := pfF (by decide +kernel) (pfF (by decide +kernel) (pfF (by decide +kernel) (pfF (by decide +kernel) (pfT))))
theorem ln_Piece : (flPiece a0 a1 a2 a3 a4).length < 1000 := by show 5 < 1000; decide
theorem no_Piece_frozen : (flPiece a0 a1 a2 a3 a4).lookup ("frozen" : Str) = none := lkF (by decide +kernel) (lkF (by decide +kernel) (lkF (by decide +kernel) (lkF (by decide +kernel) (lkF (by decide +kernel) rfl))))
def inPiece0 : List (Str × V) := []
def inPiece1 (a0 : V) : List (Str × V) := [("kind", a0)]
def inPiece2 (a0 : V) (a1 : V) : List (Str × V) := [("kind", a0), ("handler", a1)]
def inPiece3 (a0 : V) (a1 : V) (a2 : V) : List (Str × V) := [("kind", a0), ("handler", a1), ("frames", a2)]
def inPiece4 (a0 : V) (a1 : V) (a2 : V) (a3 : V) : List (Str × V) := [("kind", a0), ("handler", a1), ("frames", a2), ("distance", a3)]
def inPiece5 (a0 : V) (a1 : V) (a2 : V) (a3 : V) (a4 : V) : List (Str × V) := [("kind", a0), ("handler", a1), ("frames", a2), ("distance", a3), ("table", a4)]
theorem pi_Piece_0 : putF "kind" y (inPiece0 ) = inPiece1 y := rfl
theorem li_Piece_0 : (inPiece0 ).length < 1000 := by show 0 < 1000; decide
theorem pi_Piece_1 : putF "handler" y (inPiece1 a0) = inPiece2 a0 y := pfF (by decide +kernel) rfl
theorem li_Piece_1 : (inPiece1 a0).length < 1000 := by show 1 < 1000; decide
theorem pi_Piece_2 : putF "frames" y (inPiece2 a0 a1) = inPiece3 a0 a1 y := pfF (by decide +kernel) (pfF (by decide +kernel) rfl)
theorem li_Piece_2 : (inPiece2 a0 a1).length < 1000 := by show 2 < 1000; decide
theorem pi_Piece_3 : putF "distance" y (inPiece3 a0 a1 a2) = inPiece4 a0 a1 a2 y := pfF (by decide +kernel) (pfF (by decide +kernel) (pfF (by decide +kernel) rfl))
theorem li_Piece_3 : (inPiece3 a0 a1 a2).length < 1000 := by show 3 < 1000; decide
theorem pi_Piece_4 : putF "table" y (inPiece4 a0 a1 a2 a3) = inPiece5 a0 a1 a2 a3 y := pfF (by decide +kernel) (pfF (by decide +kernel) (pfF (by decide +kernel) (pfF (by decide +kernel) rfl)))
theorem li_Piece_4 : (inPiece4 a0 a1 a2 a3).length < 1000 := by show 4 < 1000; decide
end
def flRunner (a0 a1 a2 a3 a4 a5 a6 a7 a8 a9 : V) : List (Str × V) := [("blocks", a0), ("left", a1), ("prints", a2), ("kept", a3), ("end", a4), ("pieces", a5), ("rows", a6), ("at", a7), ("bindings", a8), ("operands", a9)]
section
variable {a0 a1 a2 a3 a4 a5 a6 a7 a8 a9 y : V}
theorem lk_Runner_blocks : (flRunner a0 a1 a2 a3 a4 a5 a6 a7 a8 a9).lookup ("blocks" : Str) = some a0 := lkT
theorem pf_Runner_blocks : putF "blocks" y (flRunner a0 a1 a2 a3 a4 a5 a6 a7 a8 a9) = flRunner y a1 a2 a3 a4 a5 a6 a7 a8 a9 := pfT
theorem lk_Runner_left : (flRunner a0 a1 a2 a3 a4 a5 a6 a7 a8 a9).lookup ("left" : Str) = some a1 := lkF (by decide +kernel) lkT
theorem pf_Runner_left : putF "left" y (flRunner a0 a1 a2 a3 a4 a5 a6 a7 a8 a9) = flRunner a0 y a2 a3 a4 a5 a6 a7 a8 a9 := pfF (by decide +kernel) (pfT)
theorem lk_Runner_prints : (flRunner a0 a1 a2 a3 a4 a5 a6 a7 a8 a9).lookup ("prints" : Str) = some a2 := lkF (by decide +kernel) (lkF (by decide +kernel) lkT)
theorem pf_Runner_prints : putF "prints" y (flRunner a0 a1 a2 a3 a4 a5 a6 a7 a8 a9) = flRunner a0 a1 y a3 a4 a5 a6 a7 a8 a9 := pfF (by decide +kernel) (pfF (by decide +kernel) (pfT))
theorem lk_Runner_kept : (flRunner a0 a1 a2 a3 a4 a5 a6 a7 a8 a9).lookup ("kept" : Str) = some a3 := lkF (by decide +kernel) (lkF (by decide +kernel) (lkF (by decide +kernel) lkT))
theorem pf_Runner_kept : putF "kept" y (flRunner a0 a1 a2 a3 a4 a5 a6 a7 a8 a9) = flRunner a0 a1 a2 y a4 a5 a6 a7 a8 a9 := pfF (by decide +kernel) (pfF (by decide +kernel) (pfF (by decide +kernel) (pfT)))
theorem lk_Runner_end : (flRunner a0 a1 a2 a3 a4 a5 a6 a7 a8 a9).lookup ("end" : Str) = some a4 := lkF (by decide +kernel) (lkF (by decide +kernel) (lkF (by decide +kernel) (lkF (by decide +kernel) lkT)))
theorem pf_Runner_end : putF "end" y (flRunner a0 a1 a2 a3 a4 a5 a6 a7 a8 a9) = flRunner a0 a1 a2 a3 y a5 a6 a7 a8 a9 := pfF (by decide +kernel) (pfF (by decide +kernel) (pfF (by decide +kernel) (pfF (by decide +kernel) (pfT))))
theorem lk_Runner_pieces : (flRunner a0 a1 a2 a3 a4 a5 a6 a7 a8 a9).lookup ("pieces" : Str) = some a5 := lkF (by decide +kernel) (lkF (by decide +kernel) (lkF (by decide +kernel) (lkF (by decide +kernel) (lkF (by decide +kernel) lkT))))
theorem pf_Runner_pieces : putF "pieces" y (flRunner a0 a1 a2 a3 a4 a5 a6 a7 a8 a9) = flRunner a0 a1 a2 a3 a4 y a6 a7 a8 a9 := pfF (by decide +kernel) (pfF (by decide +kernel) (pfF (by decide +kernel) (pfF (by decide +kernel) (pfF (by decide +kernel) (pfT)))))
theorem lk_Runner_rows : (flRunner a0 a1 a2 a3 a4 a5 a6 a7 a8 a9).lookup ("rows" : Str) = some a6 := lkF (by decide +kernel) (lkF (by decide +kernel) (lkF (by decide +kernel) (lkF (by decide +kernel) (lkF (by decide +kernel) (lkF (by decide +kernel) lkT)))))
theorem pf_Runner_rows : putF "rows" y (flRunner a0 a1 a2 a3 a4 a5 a6 a7 a8 a9) = flRunner a0 a1 a2 a3 a4 a5 y a7 a8 a9 := pfF (by decide +kernel) (pfF (by decide +kernel) (pfF (by decide +kernel) (pfF (by decide +kernel) (pfF (by decide +kernel) (pfF (by decide +kernel) (pfT))))))
theorem lk_Runner_at : (flRunner a0 a1 a2 a3 a4 a5 a6 a7 a8 a9).lookup ("at" : Str) = some a7 := lkF (by decide +kernel) (lkF (by decide +kernel) (lkF (by decide +kernel) (lkF (by decide +kernel) (lkF (by decide +kernel) (lkF (by decide +kernel) (lkF (by decide +kernel) lkT))))))
theorem pf_Runner_at : putF "at" y (flRunner a0 a1 a2 a3 a4 a5 a6 a7 a8 a9) = flRunner a0 a1 a2 a3 a4 a5 a6 y a8 a9 := pfF (by decide +kernel) (pfF (by decide +kernel) (pfF (by decide +kernel) (pfF (by decide +kernel) (pfF (by decide +kernel) (pfF (by decide +kernel) (pfF (by decide +kernel) (pfT)))))))
theorem lk_Runner_bindings : (flRunner a0 a1 a2 a3 a4 a5 a6 a7 a8 a9).lookup ("bindings" : Str) = some a8 := lkF (by decide +kernel) (lkF (by decide +kernel) (lkF (by decide +kernel) (lkF (by decide +kernel) (lkF (by decide +kernel) (lkF (by decide +kernel) (lkF (by decide +kernel) (lkF (by decide +kernel) lkT)))))))
theorem pf_Runner_bindings : putF "bindings" y (flRunner a0 a1 a2 a3 a4 a5 a6 a7 a8 a9) = flRunner a0 a1 a2 a3 a4 a5 a6 a7 y a9 := pfF (by decide +kernel) (pfF (by decide +kernel) (pfF (by decide +kernel) (pfF (by decide +kernel) (pfF (by decide +kernel) (pfF (by decide +kernel) (pfF (by decide +kernel) (pfF (by decide +kernel) (pfT))))))))
theorem lk_Runner_operands : (flRunner a0 a1 a2 a3 a4 a5 a6 a7 a8 a9).lookup ("operands" : Str) = some a9 := lkF (by decide +kernel) (lkF (by decide +kernel) (lkF (by decide +kernel) (lkF (by decide +kernel) (lkF (by decide +kernel) (lkF (by decide +kernel) (lkF (by decide +kernel) (lkF (by decide +kernel) (lkF (by decide +kernel) lkT))))))))
theorem pf_Runner_operands : putF "operands" y (flRunner a0 a1 a2 a3 a4 a5 a6 a7 a8 a9) = flRunner a0 a1 a2 a3 a4 a5 a6 a7 a8 y := pfF (by decide +kernel) (pfF (by decide +kernel) (pfF (by decide +kernel) (pfF (by decide +kernel) (pfF (by decide +kernel) (pfF (by decide +kernel) (pfF (by decide +kernel) (pfF (by decide +kernel) (pfF (by decide +kernel) (pfT)))))))))
theorem ln_Runner : (flRunner a0 a1 a2 a3 a4 a5 a6 a7 a8 a9).length < 1000 := by show 10 < 1000; decide
theorem no_Runner_enter : (flRunner a0 a1 a2 a3 a4 a5 a6 a7 a8 a9).lookup ("enter" : Str) = none := lkF (by decide +kernel) (lkF (by decide +kernel) (lkF (by decide +kernel) (lkF (by decide +kernel) (lkF (by decide +kernel) (lkF (by decide +kernel) (lkF (by decide +kernel) (lkF (by decide +kernel) (lkF (by decide +kernel) (lkF (by decide +kernel) rfl)))))))))
theorem no_Runner_counted : (flRunner a0 a1 a2 a3 a4 a5 a6 a7 a8 a9).lookup ("counted" : Str) = none := lkF (by decide +kernel) (lkF (by decide +kernel) (lkF (by decide +kernel) (lkF (by decide +kernel) (lkF (by decide +kernel) (lkF (by decide +kernel) (lkF (by decide +kernel) (lkF (by decide +kernel) (lkF (by decide +kernel) (lkF (by decide +kernel) rfl)))))))))
theorem no_Runner_save : (flRunner a0 a1 a2 a3 a4 a5 a6 a7 a8 a9).lookup ("save" : Str) = none := lkF (by decide +kernel) (lkF (by decide +kernel) (lkF (by decide +kernel) (lkF (by decide +kernel) (lkF (by decide +kernel) (lkF (by decide +kernel) (lkF (by decide +kernel) (lkF (by decide +kernel) (lkF (by decide +kernel) (lkF (by decide +kernel) rfl)))))))))
theorem no_Runner_add_piece : (flRunner a0 a1 a2 a3 a4 a5 a6 a7 a8 a9).lookup ("add_piece" : Str) = none := lkF (by decide +kernel) (lkF (by decide +kernel) (lkF (by decide +kernel) (lkF (by decide +kernel) (lkF (by decide +kernel) (lkF (by decide +kernel) (lkF (by decide +kernel) (lkF (by decide +kernel) (lkF (by decide +kernel) (lkF (by decide +kernel) rfl)))))))))
theorem no_Runner_deliver : (flRunner a0 a1 a2 a3 a4 a5 a6 a7 a8 a9).lookup ("deliver" : Str) = none := lkF (by decide +kernel) (lkF (by decide +kernel) (lkF (by decide +kernel) (lkF (by decide +kernel) (lkF (by decide +kernel) (lkF (by decide +kernel) (lkF (by decide +kernel) (lkF (by decide +kernel) (lkF (by decide +kernel) (lkF (by decide +kernel) rfl)))))))))
theorem no_Runner_call : (flRunner a0 a1 a2 a3 a4 a5 a6 a7 a8 a9).lookup ("call" : Str) = none := lkF (by decide +kernel) (lkF (by decide +kernel) (lkF (by decide +kernel) (lkF (by decide +kernel) (lkF (by decide +kernel) (lkF (by decide +kernel) (lkF (by decide +kernel) (lkF (by decide +kernel) (lkF (by decide +kernel) (lkF (by decide +kernel) rfl)))))))))
theorem no_Runner_ask : (flRunner a0 a1 a2 a3 a4 a5 a6 a7 a8 a9).lookup ("ask" : Str) = none := lkF (by decide +kernel) (lkF (by decide +kernel) (lkF (by decide +kernel) (lkF (by decide +kernel) (lkF (by decide +kernel) (lkF (by decide +kernel) (lkF (by decide +kernel) (lkF (by decide +kernel) (lkF (by decide +kernel) (lkF (by decide +kernel) rfl)))))))))
theorem no_Runner_handle : (flRunner a0 a1 a2 a3 a4 a5 a6 a7 a8 a9).lookup ("handle" : Str) = none := lkF (by decide +kernel) (lkF (by decide +kernel) (lkF (by decide +kernel) (lkF (by decide +kernel) (lkF (by decide +kernel) (lkF (by decide +kernel) (lkF (by decide +kernel) (lkF (by decide +kernel) (lkF (by decide +kernel) (lkF (by decide +kernel) rfl)))))))))
theorem no_Runner_step : (flRunner a0 a1 a2 a3 a4 a5 a6 a7 a8 a9).lookup ("step" : Str) = none := lkF (by decide +kernel) (lkF (by decide +kernel) (lkF (by decide +kernel) (lkF (by decide +kernel) (lkF (by decide +kernel) (lkF (by decide +kernel) (lkF (by decide +kernel) (lkF (by decide +kernel) (lkF (by decide +kernel) (lkF (by decide +kernel) rfl)))))))))
theorem no_Runner_move : (flRunner a0 a1 a2 a3 a4 a5 a6 a7 a8 a9).lookup ("move" : Str) = none := lkF (by decide +kernel) (lkF (by decide +kernel) (lkF (by decide +kernel) (lkF (by decide +kernel) (lkF (by decide +kernel) (lkF (by decide +kernel) (lkF (by decide +kernel) (lkF (by decide +kernel) (lkF (by decide +kernel) (lkF (by decide +kernel) rfl)))))))))
theorem no_Runner_worked : (flRunner a0 a1 a2 a3 a4 a5 a6 a7 a8 a9).lookup ("worked" : Str) = none := lkF (by decide +kernel) (lkF (by decide +kernel) (lkF (by decide +kernel) (lkF (by decide +kernel) (lkF (by decide +kernel) (lkF (by decide +kernel) (lkF (by decide +kernel) (lkF (by decide +kernel) (lkF (by decide +kernel) (lkF (by decide +kernel) rfl)))))))))
def inRunner0 : List (Str × V) := []
def inRunner1 (a0 : V) : List (Str × V) := [("blocks", a0)]
def inRunner2 (a0 : V) (a1 : V) : List (Str × V) := [("blocks", a0), ("left", a1)]
def inRunner3 (a0 : V) (a1 : V) (a2 : V) : List (Str × V) := [("blocks", a0), ("left", a1), ("prints", a2)]
def inRunner4 (a0 : V) (a1 : V) (a2 : V) (a3 : V) : List (Str × V) := [("blocks", a0), ("left", a1), ("prints", a2), ("kept", a3)]
def inRunner5 (a0 : V) (a1 : V) (a2 : V) (a3 : V) (a4 : V) : List (Str × V) := [("blocks", a0), ("left", a1), ("prints", a2), ("kept", a3), ("end", a4)]
def inRunner6 (a0 : V) (a1 : V) (a2 : V) (a3 : V) (a4 : V) (a5 : V) : List (Str × V) := [("blocks", a0), ("left", a1), ("prints", a2), ("kept", a3), ("end", a4), ("pieces", a5)]
def inRunner7 (a0 : V) (a1 : V) (a2 : V) (a3 : V) (a4 : V) (a5 : V) (a6 : V) : List (Str × V) := [("blocks", a0), ("left", a1), ("prints", a2), ("kept", a3), ("end", a4), ("pieces", a5), ("rows", a6)]
def inRunner8 (a0 : V) (a1 : V) (a2 : V) (a3 : V) (a4 : V) (a5 : V) (a6 : V) (a7 : V) : List (Str × V) := [("blocks", a0), ("left", a1), ("prints", a2), ("kept", a3), ("end", a4), ("pieces", a5), ("rows", a6), ("at", a7)]
def inRunner9 (a0 : V) (a1 : V) (a2 : V) (a3 : V) (a4 : V) (a5 : V) (a6 : V) (a7 : V) (a8 : V) : List (Str × V) := [("blocks", a0), ("left", a1), ("prints", a2), ("kept", a3), ("end", a4), ("pieces", a5), ("rows", a6), ("at", a7), ("bindings", a8)]
def inRunner10 (a0 : V) (a1 : V) (a2 : V) (a3 : V) (a4 : V) (a5 : V) (a6 : V) (a7 : V) (a8 : V) (a9 : V) : List (Str × V) := [("blocks", a0), ("left", a1), ("prints", a2), ("kept", a3), ("end", a4), ("pieces", a5), ("rows", a6), ("at", a7), ("bindings", a8), ("operands", a9)]
theorem pi_Runner_0 : putF "blocks" y (inRunner0 ) = inRunner1 y := rfl
theorem li_Runner_0 : (inRunner0 ).length < 1000 := by show 0 < 1000; decide
theorem pi_Runner_1 : putF "left" y (inRunner1 a0) = inRunner2 a0 y := pfF (by decide +kernel) rfl
theorem li_Runner_1 : (inRunner1 a0).length < 1000 := by show 1 < 1000; decide
theorem pi_Runner_2 : putF "prints" y (inRunner2 a0 a1) = inRunner3 a0 a1 y := pfF (by decide +kernel) (pfF (by decide +kernel) rfl)
theorem li_Runner_2 : (inRunner2 a0 a1).length < 1000 := by show 2 < 1000; decide
theorem pi_Runner_3 : putF "kept" y (inRunner3 a0 a1 a2) = inRunner4 a0 a1 a2 y := pfF (by decide +kernel) (pfF (by decide +kernel) (pfF (by decide +kernel) rfl))
theorem li_Runner_3 : (inRunner3 a0 a1 a2).length < 1000 := by show 3 < 1000; decide
theorem pi_Runner_4 : putF "end" y (inRunner4 a0 a1 a2 a3) = inRunner5 a0 a1 a2 a3 y := pfF (by decide +kernel) (pfF (by decide +kernel) (pfF (by decide +kernel) (pfF (by decide +kernel) rfl)))
theorem li_Runner_4 : (inRunner4 a0 a1 a2 a3).length < 1000 := by show 4 < 1000; decide
theorem pi_Runner_5 : putF "pieces" y (inRunner5 a0 a1 a2 a3 a4) = inRunner6 a0 a1 a2 a3 a4 y := pfF (by decide +kernel) (pfF (by decide +kernel) (pfF (by decide +kernel) (pfF (by decide +kernel) (pfF (by decide +kernel) rfl))))
theorem li_Runner_5 : (inRunner5 a0 a1 a2 a3 a4).length < 1000 := by show 5 < 1000; decide
theorem pi_Runner_6 : putF "rows" y (inRunner6 a0 a1 a2 a3 a4 a5) = inRunner7 a0 a1 a2 a3 a4 a5 y := pfF (by decide +kernel) (pfF (by decide +kernel) (pfF (by decide +kernel) (pfF (by decide +kernel) (pfF (by decide +kernel) (pfF (by decide +kernel) rfl)))))
theorem li_Runner_6 : (inRunner6 a0 a1 a2 a3 a4 a5).length < 1000 := by show 6 < 1000; decide
theorem pi_Runner_7 : putF "at" y (inRunner7 a0 a1 a2 a3 a4 a5 a6) = inRunner8 a0 a1 a2 a3 a4 a5 a6 y := pfF (by decide +kernel) (pfF (by decide +kernel) (pfF (by decide +kernel) (pfF (by decide +kernel) (pfF (by decide +kernel) (pfF (by decide +kernel) (pfF (by decide +kernel) rfl))))))
theorem li_Runner_7 : (inRunner7 a0 a1 a2 a3 a4 a5 a6).length < 1000 := by show 7 < 1000; decide
theorem pi_Runner_8 : putF "bindings" y (inRunner8 a0 a1 a2 a3 a4 a5 a6 a7) = inRunner9 a0 a1 a2 a3 a4 a5 a6 a7 y := pfF (by decide +kernel) (pfF (by decide +kernel) (pfF (by decide +kernel) (pfF (by decide +kernel) (pfF (by decide +kernel) (pfF (by decide +kernel) (pfF (by decide +kernel) (pfF (by decide +kernel) rfl)))))))
theorem li_Runner_8 : (inRunner8 a0 a1 a2 a3 a4 a5 a6 a7).length < 1000 := by show 8 < 1000; decide
theorem pi_Runner_9 : putF "operands" y (inRunner9 a0 a1 a2 a3 a4 a5 a6 a7 a8) = inRunner10 a0 a1 a2 a3 a4 a5 a6 a7 a8 y := pfF (by decide +kernel) (pfF (by decide +kernel) (pfF (by decide +kernel) (pfF (by decide +kernel) (pfF (by decide +kernel) (pfF (by decide +kernel) (pfF (by decide +kernel) (pfF (by decide +kernel) (pfF (by decide +kernel) rfl))))))))
theorem li_Runner_9 : (inRunner9 a0 a1 a2 a3 a4 a5 a6 a7 a8).length < 1000 := by show 9 < 1000; decide
end
def flCode (a0 : V) : List (Str × V) := [("blocks", a0)]
section
variable {a0 y : V}
theorem lk_Code_blocks : (flCode a0).lookup ("blocks" : Str) = some a0 := lkT
theorem pf_Code_blocks : putF "blocks" y (flCode a0) = flCode y := pfT
theorem ln_Code : (flCode a0).length < 1000 := by show 1 < 1000; decide
def inCode0 : List (Str × V) := []
def inCode1 (a0 : V) : List (Str × V) := [("blocks", a0)]
theorem pi_Code_0 : putF "blocks" y (inCode0 ) = inCode1 y := rfl
theorem li_Code_0 : (inCode0 ).length < 1000 := by show 0 < 1000; decide
end
def flCompiler (a0 a1 : V) : List (Str × V) := [("blocks", a0), ("queue", a1)]
section
variable {a0 a1 y : V}
theorem lk_Compiler_blocks : (flCompiler a0 a1).lookup ("blocks" : Str) = some a0 := lkT
theorem pf_Compiler_blocks : putF "blocks" y (flCompiler a0 a1) = flCompiler y a1 := pfT
theorem lk_Compiler_queue : (flCompiler a0 a1).lookup ("queue" : Str) = some a1 := lkF (by decide +kernel) lkT
theorem pf_Compiler_queue : putF "queue" y (flCompiler a0 a1) = flCompiler a0 y := pfF (by decide +kernel) (pfT)
theorem ln_Compiler : (flCompiler a0 a1).length < 1000 := by show 2 < 1000; decide
theorem no_Compiler_block : (flCompiler a0 a1).lookup ("block" : Str) = none := lkF (by decide +kernel) (lkF (by decide +kernel) rfl)
theorem no_Compiler_compile_all : (flCompiler a0 a1).lookup ("compile_all" : Str) = none := lkF (by decide +kernel) (lkF (by decide +kernel) rfl)
theorem no_Compiler_last : (flCompiler a0 a1).lookup ("last" : Str) = none := lkF (by decide +kernel) (lkF (by decide +kernel) rfl)
theorem no_Compiler_value : (flCompiler a0 a1).lookup ("value" : Str) = none := lkF (by decide +kernel) (lkF (by decide +kernel) rfl)
theorem no_Compiler_choice : (flCompiler a0 a1).lookup ("choice" : Str) = none := lkF (by decide +kernel) (lkF (by decide +kernel) rfl)
theorem no_Compiler_simple : (flCompiler a0 a1).lookup ("simple" : Str) = none := lkF (by decide +kernel) (lkF (by decide +kernel) rfl)
theorem no_Compiler_handler : (flCompiler a0 a1).lookup ("handler" : Str) = none := lkF (by decide +kernel) (lkF (by decide +kernel) rfl)
def inCompiler0 : List (Str × V) := []
def inCompiler1 (a0 : V) : List (Str × V) := [("blocks", a0)]
def inCompiler2 (a0 : V) (a1 : V) : List (Str × V) := [("blocks", a0), ("queue", a1)]
theorem pi_Compiler_0 : putF "blocks" y (inCompiler0 ) = inCompiler1 y := rfl
theorem li_Compiler_0 : (inCompiler0 ).length < 1000 := by show 0 < 1000; decide
theorem pi_Compiler_1 : putF "queue" y (inCompiler1 a0) = inCompiler2 a0 y := pfF (by decide +kernel) rfl
theorem li_Compiler_1 : (inCompiler1 a0).length < 1000 := by show 1 < 1000; decide
end
section
variable {K : PySem.W.Frag} {w : World} {mg : Str → Option Value} {σ : L2.St} {H : Hp} {i : Nat} {p dx : Addr} {a0 a1 a2 a3 a4 y : V} {Q : VK} {R : Hp → Prop}
theorem rd_Run_current (T : Fx K w mg) (h0 : σ[i]? = some (some (.ref p))) (hO : H p = some (.ins (He.ga K "Run") dx (flRun a0 a1 a2 a3 a4))) (q : Q a0 H) : tFld K (tVar i) "current" σ H Q := ⟨_, h0, p, _, dx, _, _, rfl, hO, T.Run.cl, T.na_Run_current, lk_Run_current, q⟩
theorem wr_Run_current (T : Fx K w mg) (h0 : σ[i]? = some (some (.ref p))) (hO : H p = some (.ins (He.ga K "Run") dx (flRun a0 a1 a2 a3 a4))) (q : R (upd H p (.ins (He.ga K "Run") dx (flRun y a1 a2 a3 a4)))) : tVar i σ H fun x H1 => ∃ a C dx fs, x = .ref a ∧ H1 a = some (.ins C dx fs) ∧ Cls K C ∧ NoAttr K C "current" ∧ fs.length < 1000 ∧ R (upd H1 a (.ins C dx (putF "current" y fs))) := ⟨_, h0, p, _, dx, _, rfl, hO, T.Run.cl, T.na_Run_current, ln_Run, by rw [pf_Run_current]; exact q⟩
theorem rd_Run_frames (T : Fx K w mg) (h0 : σ[i]? = some (some (.ref p))) (hO : H p = some (.ins (He.ga K "Run") dx (flRun a0 a1 a2 a3 a4))) (q : Q a1 H) : tFld K (tVar i) "frames" σ H Q := ⟨_, h0, p, _, dx, _, _, rfl, hO, T.Run.cl, T.na_Run_frames, lk_Run_frames, q⟩
theorem wr_Run_frames (T : Fx K w mg) (h0 : σ[i]? = some (some (.ref p))) (hO : H p = some (.ins (He.ga K "Run") dx (flRun a0 a1 a2 a3 a4))) (q : R (upd H p (.ins (He.ga K "Run") dx (flRun a0 y a2 a3 a4)))) : tVar i σ H fun x H1 => ∃ a C dx fs, x = .ref a ∧ H1 a = some (.ins C dx fs) ∧ Cls K C ∧ NoAttr K C "frames" ∧ fs.length < 1000 ∧ R (upd H1 a (.ins C dx (putF "frames" y fs))) := ⟨_, h0, p, _, dx, _, rfl, hO, T.Run.cl, T.na_Run_frames, ln_Run, by rw [pf_Run_frames]; exact q⟩
theorem rd_Run_left (T : Fx K w mg) (h0 : σ[i]? = some (some (.ref p))) (hO : H p = some (.ins (He.ga K "Run") dx (flRun a0 a1 a2 a3 a4))) (q : Q a2 H) : tFld K (tVar i) "left" σ H Q := ⟨_, h0, p, _, dx, _, _, rfl, hO, T.Run.cl, T.na_Run_left, lk_Run_left, q⟩
theorem wr_Run_left (T : Fx K w mg) (h0 : σ[i]? = some (some (.ref p))) (hO : H p = some (.ins (He.ga K "Run") dx (flRun a0 a1 a2 a3 a4))) (q : R (upd H p (.ins (He.ga K "Run") dx (flRun a0 a1 y a3 a4)))) : tVar i σ H fun x H1 => ∃ a C dx fs, x = .ref a ∧ H1 a = some (.ins C dx fs) ∧ Cls K C ∧ NoAttr K C "left" ∧ fs.length < 1000 ∧ R (upd H1 a (.ins C dx (putF "left" y fs))) := ⟨_, h0, p, _, dx, _, rfl, hO, T.Run.cl, T.na_Run_left, ln_Run, by rw [pf_Run_left]; exact q⟩
theorem rd_Run_prints (T : Fx K w mg) (h0 : σ[i]? = some (some (.ref p))) (hO : H p = some (.ins (He.ga K "Run") dx (flRun a0 a1 a2 a3 a4))) (q : Q a3 H) : tFld K (tVar i) "prints" σ H Q := ⟨_, h0, p, _, dx, _, _, rfl, hO, T.Run.cl, T.na_Run_prints, lk_Run_prints, q⟩
theorem wr_Run_prints (T : Fx K w mg) (h0 : σ[i]? = some (some (.ref p))) (hO : H p = some (.ins (He.ga K "Run") dx (flRun a0 a1 a2 a3 a4))) (q : R (upd H p (.ins (He.ga K "Run") dx (flRun a0 a1 a2 y a4)))) : tVar i σ H fun x H1 => ∃ a C dx fs, x = .ref a ∧ H1 a = some (.ins C dx fs) ∧ Cls K C ∧ NoAttr K C "prints" ∧ fs.length < 1000 ∧ R (upd H1 a (.ins C dx (putF "prints" y fs))) := ⟨_, h0, p, _, dx, _, rfl, hO, T.Run.cl, T.na_Run_prints, ln_Run, by rw [pf_Run_prints]; exact q⟩
theorem rd_Run_end (T : Fx K w mg) (h0 : σ[i]? = some (some (.ref p))) (hO : H p = some (.ins (He.ga K "Run") dx (flRun a0 a1 a2 a3 a4))) (q : Q a4 H) : tFld K (tVar i) "end" σ H Q := ⟨_, h0, p, _, dx, _, _, rfl, hO, T.Run.cl, T.na_Run_end, lk_Run_end, q⟩
theorem wr_Run_end (T : Fx K w mg) (h0 : σ[i]? = some (some (.ref p))) (hO : H p = some (.ins (He.ga K "Run") dx (flRun a0 a1 a2 a3 a4))) (q : R (upd H p (.ins (He.ga K "Run") dx (flRun a0 a1 a2 a3 y)))) : tVar i σ H fun x H1 => ∃ a C dx fs, x = .ref a ∧ H1 a = some (.ins C dx fs) ∧ Cls K C ∧ NoAttr K C "end" ∧ fs.length < 1000 ∧ R (upd H1 a (.ins C dx (putF "end" y fs))) := ⟨_, h0, p, _, dx, _, rfl, hO, T.Run.cl, T.na_Run_end, ln_Run, by rw [pf_Run_end]; exact q⟩
end
section
variable {K : PySem.W.Frag} {w : World} {mg : Str → Option Value} {σ : L2.St} {H : Hp} {i : Nat} {p dx : Addr} {a0 a1 a2 a3 a4 y : V} {Q : VK} {R : Hp → Prop}
theorem rd_Machine_left (T : Fx K w mg) (h0 : σ[i]? = some (some (.ref p))) (hO : H p = some (.ins (He.ga K "Machine") dx (flMachine a0 a1 a2 a3 a4))) (q : Q a0 H) : tFld K (tVar i) "left" σ H Q := ⟨_, h0, p, _, dx, _, _, rfl, hO, T.Machine.cl, T.na_Machine_left, lk_Machine_left, q⟩
theorem wr_Machine_left (T : Fx K w mg) (h0 : σ[i]? = some (some (.ref p))) (hO : H p = some (.ins (He.ga K "Machine") dx (flMachine a0 a1 a2 a3 a4))) (q : R (upd H p (.ins (He.ga K "Machine") dx (flMachine y a1 a2 a3 a4)))) : tVar i σ H fun x H1 => ∃ a C dx fs, x = .ref a ∧ H1 a = some (.ins C dx fs) ∧ Cls K C ∧ NoAttr K C "left" ∧ fs.length < 1000 ∧ R (upd H1 a (.ins C dx (putF "left" y fs))) := ⟨_, h0, p, _, dx, _, rfl, hO, T.Machine.cl, T.na_Machine_left, ln_Machine, by rw [pf_Machine_left]; exact q⟩
theorem rd_Machine_prints (T : Fx K w mg) (h0 : σ[i]? = some (some (.ref p))) (hO : H p = some (.ins (He.ga K "Machine") dx (flMachine a0 a1 a2 a3 a4))) (q : Q a1 H) : tFld K (tVar i) "prints" σ H Q := ⟨_, h0, p, _, dx, _, _, rfl, hO, T.Machine.cl, T.na_Machine_prints, lk_Machine_prints, q⟩
theorem wr_Machine_prints (T : Fx K w mg) (h0 : σ[i]? = some (some (.ref p))) (hO : H p = some (.ins (He.ga K "Machine") dx (flMachine a0 a1 a2 a3 a4))) (q : R (upd H p (.ins (He.ga K "Machine") dx (flMachine a0 y a2 a3 a4)))) : tVar i σ H fun x H1 => ∃ a C dx fs, x = .ref a ∧ H1 a = some (.ins C dx fs) ∧ Cls K C ∧ NoAttr K C "prints" ∧ fs.length < 1000 ∧ R (upd H1 a (.ins C dx (putF "prints" y fs))) := ⟨_, h0, p, _, dx, _, rfl, hO, T.Machine.cl, T.na_Machine_prints, ln_Machine, by rw [pf_Machine_prints]; exact q⟩
theorem rd_Machine_pieces (T : Fx K w mg) (h0 : σ[i]? = some (some (.ref p))) (hO : H p = some (.ins (He.ga K "Machine") dx (flMachine a0 a1 a2 a3 a4))) (q : Q a2 H) : tFld K (tVar i) "pieces" σ H Q := ⟨_, h0, p, _, dx, _, _, rfl, hO, T.Machine.cl, T.na_Machine_pieces, lk_Machine_pieces, q⟩
theorem wr_Machine_pieces (T : Fx K w mg) (h0 : σ[i]? = some (some (.ref p))) (hO : H p = some (.ins (He.ga K "Machine") dx (flMachine a0 a1 a2 a3 a4))) (q : R (upd H p (.ins (He.ga K "Machine") dx (flMachine a0 a1 y a3 a4)))) : tVar i σ H fun x H1 => ∃ a C dx fs, x = .ref a ∧ H1 a = some (.ins C dx fs) ∧ Cls K C ∧ NoAttr K C "pieces" ∧ fs.length < 1000 ∧ R (upd H1 a (.ins C dx (putF "pieces" y fs))) := ⟨_, h0, p, _, dx, _, rfl, hO, T.Machine.cl, T.na_Machine_pieces, ln_Machine, by rw [pf_Machine_pieces]; exact q⟩
theorem rd_Machine_kept (T : Fx K w mg) (h0 : σ[i]? = some (some (.ref p))) (hO : H p = some (.ins (He.ga K "Machine") dx (flMachine a0 a1 a2 a3 a4))) (q : Q a3 H) : tFld K (tVar i) "kept" σ H Q := ⟨_, h0, p, _, dx, _, _, rfl, hO, T.Machine.cl, T.na_Machine_kept, lk_Machine_kept, q⟩
theorem wr_Machine_kept (T : Fx K w mg) (h0 : σ[i]? = some (some (.ref p))) (hO : H p = some (.ins (He.ga K "Machine") dx (flMachine a0 a1 a2 a3 a4))) (q : R (upd H p (.ins (He.ga K "Machine") dx (flMachine a0 a1 a2 y a4)))) : tVar i σ H fun x H1 => ∃ a C dx fs, x = .ref a ∧ H1 a = some (.ins C dx fs) ∧ Cls K C ∧ NoAttr K C "kept" ∧ fs.length < 1000 ∧ R (upd H1 a (.ins C dx (putF "kept" y fs))) := ⟨_, h0, p, _, dx, _, rfl, hO, T.Machine.cl, T.na_Machine_kept, ln_Machine, by rw [pf_Machine_kept]; exact q⟩
theorem rd_Machine_most (T : Fx K w mg) (h0 : σ[i]? = some (some (.ref p))) (hO : H p = some (.ins (He.ga K "Machine") dx (flMachine a0 a1 a2 a3 a4))) (q : Q a4 H) : tFld K (tVar i) "most" σ H Q := ⟨_, h0, p, _, dx, _, _, rfl, hO, T.Machine.cl, T.na_Machine_most, lk_Machine_most, q⟩
theorem wr_Machine_most (T : Fx K w mg) (h0 : σ[i]? = some (some (.ref p))) (hO : H p = some (.ins (He.ga K "Machine") dx (flMachine a0 a1 a2 a3 a4))) (q : R (upd H p (.ins (He.ga K "Machine") dx (flMachine a0 a1 a2 a3 y)))) : tVar i σ H fun x H1 => ∃ a C dx fs, x = .ref a ∧ H1 a = some (.ins C dx fs) ∧ Cls K C ∧ NoAttr K C "most" ∧ fs.length < 1000 ∧ R (upd H1 a (.ins C dx (putF "most" y fs))) := ⟨_, h0, p, _, dx, _, rfl, hO, T.Machine.cl, T.na_Machine_most, ln_Machine, by rw [pf_Machine_most]; exact q⟩
end
section
variable {K : PySem.W.Frag} {w : World} {mg : Str → Option Value} {σ : L2.St} {H : Hp} {i : Nat} {p dx : Addr} {a0 a1 a2 a3 a4 y : V} {Q : VK} {R : Hp → Prop}
theorem rd_Piece_kind (T : Fx K w mg) (h0 : σ[i]? = some (some (.ref p))) (hO : H p = some (.ins (He.ga K "Piece") dx (flPiece a0 a1 a2 a3 a4))) (q : Q a0 H) : tFld K (tVar i) "kind" σ H Q := ⟨_, h0, p, _, dx, _, _, rfl, hO, T.Piece.cl, T.na_Piece_kind, lk_Piece_kind, q⟩
theorem wr_Piece_kind (T : Fx K w mg) (h0 : σ[i]? = some (some (.ref p))) (hO : H p = some (.ins (He.ga K "Piece") dx (flPiece a0 a1 a2 a3 a4))) (q : R (upd H p (.ins (He.ga K "Piece") dx (flPiece y a1 a2 a3 a4)))) : tVar i σ H fun x H1 => ∃ a C dx fs, x = .ref a ∧ H1 a = some (.ins C dx fs) ∧ Cls K C ∧ NoAttr K C "kind" ∧ fs.length < 1000 ∧ R (upd H1 a (.ins C dx (putF "kind" y fs))) := ⟨_, h0, p, _, dx, _, rfl, hO, T.Piece.cl, T.na_Piece_kind, ln_Piece, by rw [pf_Piece_kind]; exact q⟩
theorem rd_Piece_handler (T : Fx K w mg) (h0 : σ[i]? = some (some (.ref p))) (hO : H p = some (.ins (He.ga K "Piece") dx (flPiece a0 a1 a2 a3 a4))) (q : Q a1 H) : tFld K (tVar i) "handler" σ H Q := ⟨_, h0, p, _, dx, _, _, rfl, hO, T.Piece.cl, T.na_Piece_handler, lk_Piece_handler, q⟩
theorem wr_Piece_handler (T : Fx K w mg) (h0 : σ[i]? = some (some (.ref p))) (hO : H p = some (.ins (He.ga K "Piece") dx (flPiece a0 a1 a2 a3 a4))) (q : R (upd H p (.ins (He.ga K "Piece") dx (flPiece a0 y a2 a3 a4)))) : tVar i σ H fun x H1 => ∃ a C dx fs, x = .ref a ∧ H1 a = some (.ins C dx fs) ∧ Cls K C ∧ NoAttr K C "handler" ∧ fs.length < 1000 ∧ R (upd H1 a (.ins C dx (putF "handler" y fs))) := ⟨_, h0, p, _, dx, _, rfl, hO, T.Piece.cl, T.na_Piece_handler, ln_Piece, by rw [pf_Piece_handler]; exact q⟩
theorem rd_Piece_frames (T : Fx K w mg) (h0 : σ[i]? = some (some (.ref p))) (hO : H p = some (.ins (He.ga K "Piece") dx (flPiece a0 a1 a2 a3 a4))) (q : Q a2 H) : tFld K (tVar i) "frames" σ H Q := ⟨_, h0, p, _, dx, _, _, rfl, hO, T.Piece.cl, T.na_Piece_frames, lk_Piece_frames, q⟩
theorem wr_Piece_frames (T : Fx K w mg) (h0 : σ[i]? = some (some (.ref p))) (hO : H p = some (.ins (He.ga K "Piece") dx (flPiece a0 a1 a2 a3 a4))) (q : R (upd H p (.ins (He.ga K "Piece") dx (flPiece a0 a1 y a3 a4)))) : tVar i σ H fun x H1 => ∃ a C dx fs, x = .ref a ∧ H1 a = some (.ins C dx fs) ∧ Cls K C ∧ NoAttr K C "frames" ∧ fs.length < 1000 ∧ R (upd H1 a (.ins C dx (putF "frames" y fs))) := ⟨_, h0, p, _, dx, _, rfl, hO, T.Piece.cl, T.na_Piece_frames, ln_Piece, by rw [pf_Piece_frames]; exact q⟩
theorem rd_Piece_distance (T : Fx K w mg) (h0 : σ[i]? = some (some (.ref p))) (hO : H p = some (.ins (He.ga K "Piece") dx (flPiece a0 a1 a2 a3 a4))) (q : Q a3 H) : tFld K (tVar i) "distance" σ H Q := ⟨_, h0, p, _, dx, _, _, rfl, hO, T.Piece.cl, T.na_Piece_distance, lk_Piece_distance, q⟩
theorem wr_Piece_distance (T : Fx K w mg) (h0 : σ[i]? = some (some (.ref p))) (hO : H p = some (.ins (He.ga K "Piece") dx (flPiece a0 a1 a2 a3 a4))) (q : R (upd H p (.ins (He.ga K "Piece") dx (flPiece a0 a1 a2 y a4)))) : tVar i σ H fun x H1 => ∃ a C dx fs, x = .ref a ∧ H1 a = some (.ins C dx fs) ∧ Cls K C ∧ NoAttr K C "distance" ∧ fs.length < 1000 ∧ R (upd H1 a (.ins C dx (putF "distance" y fs))) := ⟨_, h0, p, _, dx, _, rfl, hO, T.Piece.cl, T.na_Piece_distance, ln_Piece, by rw [pf_Piece_distance]; exact q⟩
theorem rd_Piece_table (T : Fx K w mg) (h0 : σ[i]? = some (some (.ref p))) (hO : H p = some (.ins (He.ga K "Piece") dx (flPiece a0 a1 a2 a3 a4))) (q : Q a4 H) : tFld K (tVar i) "table" σ H Q := ⟨_, h0, p, _, dx, _, _, rfl, hO, T.Piece.cl, T.na_Piece_table, lk_Piece_table, q⟩
theorem wr_Piece_table (T : Fx K w mg) (h0 : σ[i]? = some (some (.ref p))) (hO : H p = some (.ins (He.ga K "Piece") dx (flPiece a0 a1 a2 a3 a4))) (q : R (upd H p (.ins (He.ga K "Piece") dx (flPiece a0 a1 a2 a3 y)))) : tVar i σ H fun x H1 => ∃ a C dx fs, x = .ref a ∧ H1 a = some (.ins C dx fs) ∧ Cls K C ∧ NoAttr K C "table" ∧ fs.length < 1000 ∧ R (upd H1 a (.ins C dx (putF "table" y fs))) := ⟨_, h0, p, _, dx, _, rfl, hO, T.Piece.cl, T.na_Piece_table, ln_Piece, by rw [pf_Piece_table]; exact q⟩
end
section
variable {K : PySem.W.Frag} {w : World} {mg : Str → Option Value} {σ : L2.St} {H : Hp} {i : Nat} {p dx : Addr} {a0 a1 a2 a3 a4 a5 a6 a7 a8 a9 y : V} {Q : VK} {R : Hp → Prop}
theorem rd_Runner_blocks (T : Fx K w mg) (h0 : σ[i]? = some (some (.ref p))) (hO : H p = some (.ins (He.ga K "Runner") dx (flRunner a0 a1 a2 a3 a4 a5 a6 a7 a8 a9))) (q : Q a0 H) : tFld K (tVar i) "blocks" σ H Q := ⟨_, h0, p, _, dx, _, _, rfl, hO, T.Runner.cl, T.na_Runner_blocks, lk_Runner_blocks, q⟩
theorem wr_Runner_blocks (T : Fx K w mg) (h0 : σ[i]? = some (some (.ref p))) (hO : H p = some (.ins (He.ga K "Runner") dx (flRunner a0 a1 a2 a3 a4 a5 a6 a7 a8 a9))) (q : R (upd H p (.ins (He.ga K "Runner") dx (flRunner y a1 a2 a3 a4 a5 a6 a7 a8 a9)))) : tVar i σ H fun x H1 => ∃ a C dx fs, x = .ref a ∧ H1 a = some (.ins C dx fs) ∧ Cls K C ∧ NoAttr K C "blocks" ∧ fs.length < 1000 ∧ R (upd H1 a (.ins C dx (putF "blocks" y fs))) := ⟨_, h0, p, _, dx, _, rfl, hO, T.Runner.cl, T.na_Runner_blocks, ln_Runner, by rw [pf_Runner_blocks]; exact q⟩
theorem rd_Runner_left (T : Fx K w mg) (h0 : σ[i]? = some (some (.ref p))) (hO : H p = some (.ins (He.ga K "Runner") dx (flRunner a0 a1 a2 a3 a4 a5 a6 a7 a8 a9))) (q : Q a1 H) : tFld K (tVar i) "left" σ H Q := ⟨_, h0, p, _, dx, _, _, rfl, hO, T.Runner.cl, T.na_Runner_left, lk_Runner_left, q⟩
theorem wr_Runner_left (T : Fx K w mg) (h0 : σ[i]? = some (some (.ref p))) (hO : H p = some (.ins (He.ga K "Runner") dx (flRunner a0 a1 a2 a3 a4 a5 a6 a7 a8 a9))) (q : R (upd H p (.ins (He.ga K "Runner") dx (flRunner a0 y a2 a3 a4 a5 a6 a7 a8 a9)))) : tVar i σ H fun x H1 => ∃ a C dx fs, x = .ref a ∧ H1 a = some (.ins C dx fs) ∧ Cls K C ∧ NoAttr K C "left" ∧ fs.length < 1000 ∧ R (upd H1 a (.ins C dx (putF "left" y fs))) := ⟨_, h0, p, _, dx, _, rfl, hO, T.Runner.cl, T.na_Runner_left, ln_Runner, by rw [pf_Runner_left]; exact q⟩
theorem rd_Runner_prints (T : Fx K w mg) (h0 : σ[i]? = some (some (.ref p))) (hO : H p = some (.ins (He.ga K "Runner") dx (flRunner a0 a1 a2 a3 a4 a5 a6 a7 a8 a9))) (q : Q a2 H) : tFld K (tVar i) "prints" σ H Q := ⟨_, h0, p, _, dx, _, _, rfl, hO, T.Runner.cl, T.na_Runner_prints, lk_Runner_prints, q⟩
theorem wr_Runner_prints (T : Fx K w mg) (h0 : σ[i]? = some (some (.ref p))) (hO : H p = some (.ins (He.ga K "Runner") dx (flRunner a0 a1 a2 a3 a4 a5 a6 a7 a8 a9))) (q : R (upd H p (.ins (He.ga K "Runner") dx (flRunner a0 a1 y a3 a4 a5 a6 a7 a8 a9)))) : tVar i σ H fun x H1 => ∃ a C dx fs, x = .ref a ∧ H1 a = some (.ins C dx fs) ∧ Cls K C ∧ NoAttr K C "prints" ∧ fs.length < 1000 ∧ R (upd H1 a (.ins C dx (putF "prints" y fs))) := ⟨_, h0, p, _, dx, _, rfl, hO, T.Runner.cl, T.na_Runner_prints, ln_Runner, by rw [pf_Runner_prints]; exact q⟩
theorem rd_Runner_kept (T : Fx K w mg) (h0 : σ[i]? = some (some (.ref p))) (hO : H p = some (.ins (He.ga K "Runner") dx (flRunner a0 a1 a2 a3 a4 a5 a6 a7 a8 a9))) (q : Q a3 H) : tFld K (tVar i) "kept" σ H Q := ⟨_, h0, p, _, dx, _, _, rfl, hO, T.Runner.cl, T.na_Runner_kept, lk_Runner_kept, q⟩
theorem wr_Runner_kept (T : Fx K w mg) (h0 : σ[i]? = some (some (.ref p))) (hO : H p = some (.ins (He.ga K "Runner") dx (flRunner a0 a1 a2 a3 a4 a5 a6 a7 a8 a9))) (q : R (upd H p (.ins (He.ga K "Runner") dx (flRunner a0 a1 a2 y a4 a5 a6 a7 a8 a9)))) : tVar i σ H fun x H1 => ∃ a C dx fs, x = .ref a ∧ H1 a = some (.ins C dx fs) ∧ Cls K C ∧ NoAttr K C "kept" ∧ fs.length < 1000 ∧ R (upd H1 a (.ins C dx (putF "kept" y fs))) := ⟨_, h0, p, _, dx, _, rfl, hO, T.Runner.cl, T.na_Runner_kept, ln_Runner, by rw [pf_Runner_kept]; exact q⟩
theorem rd_Runner_end (T : Fx K w mg) (h0 : σ[i]? = some (some (.ref p))) (hO : H p = some (.ins (He.ga K "Runner") dx (flRunner a0 a1 a2 a3 a4 a5 a6 a7 a8 a9))) (q : Q a4 H) : tFld K (tVar i) "end" σ H Q := ⟨_, h0, p, _, dx, _, _, rfl, hO, T.Runner.cl, T.na_Runner_end, lk_Runner_end, q⟩
theorem wr_Runner_end (T : Fx K w mg) (h0 : σ[i]? = some (some (.ref p))) (hO : H p = some (.ins (He.ga K "Runner") dx (flRunner a0 a1 a2 a3 a4 a5 a6 a7 a8 a9))) (q : R (upd H p (.ins (He.ga K "Runner") dx (flRunner a0 a1 a2 a3 y a5 a6 a7 a8 a9)))) : tVar i σ H fun x H1 => ∃ a C dx fs, x = .ref a ∧ H1 a = some (.ins C dx fs) ∧ Cls K C ∧ NoAttr K C "end" ∧ fs.length < 1000 ∧ R (upd H1 a (.ins C dx (putF "end" y fs))) := ⟨_, h0, p, _, dx, _, rfl, hO, T.Runner.cl, T.na_Runner_end, ln_Runner, by rw [pf_Runner_end]; exact q⟩
theorem rd_Runner_pieces (T : Fx K w mg) (h0 : σ[i]? = some (some (.ref p))) (hO : H p = some (.ins (He.ga K "Runner") dx (flRunner a0 a1 a2 a3 a4 a5 a6 a7 a8 a9))) (q : Q a5 H) : tFld K (tVar i) "pieces" σ H Q := ⟨_, h0, p, _, dx, _, _, rfl, hO, T.Runner.cl, T.na_Runner_pieces, lk_Runner_pieces, q⟩
theorem wr_Runner_pieces (T : Fx K w mg) (h0 : σ[i]? = some (some (.ref p))) (hO : H p = some (.ins (He.ga K "Runner") dx (flRunner a0 a1 a2 a3 a4 a5 a6 a7 a8 a9))) (q : R (upd H p (.ins (He.ga K "Runner") dx (flRunner a0 a1 a2 a3 a4 y a6 a7 a8 a9)))) : tVar i σ H fun x H1 => ∃ a C dx fs, x = .ref a ∧ H1 a = some (.ins C dx fs) ∧ Cls K C ∧ NoAttr K C "pieces" ∧ fs.length < 1000 ∧ R (upd H1 a (.ins C dx (putF "pieces" y fs))) := ⟨_, h0, p, _, dx, _, rfl, hO, T.Runner.cl, T.na_Runner_pieces, ln_Runner, by rw [pf_Runner_pieces]; exact q⟩
theorem rd_Runner_rows (T : Fx K w mg) (h0 : σ[i]? = some (some (.ref p))) (hO : H p = some (.ins (He.ga K "Runner") dx (flRunner a0 a1 a2 a3 a4 a5 a6 a7 a8 a9))) (q : Q a6 H) : tFld K (tVar i) "rows" σ H Q := ⟨_, h0, p, _, dx, _, _, rfl, hO, T.Runner.cl, T.na_Runner_rows, lk_Runner_rows, q⟩
theorem wr_Runner_rows (T : Fx K w mg) (h0 : σ[i]? = some (some (.ref p))) (hO : H p = some (.ins (He.ga K "Runner") dx (flRunner a0 a1 a2 a3 a4 a5 a6 a7 a8 a9))) (q : R (upd H p (.ins (He.ga K "Runner") dx (flRunner a0 a1 a2 a3 a4 a5 y a7 a8 a9)))) : tVar i σ H fun x H1 => ∃ a C dx fs, x = .ref a ∧ H1 a = some (.ins C dx fs) ∧ Cls K C ∧ NoAttr K C "rows" ∧ fs.length < 1000 ∧ R (upd H1 a (.ins C dx (putF "rows" y fs))) := ⟨_, h0, p, _, dx, _, rfl, hO, T.Runner.cl, T.na_Runner_rows, ln_Runner, by rw [pf_Runner_rows]; exact q⟩
theorem rd_Runner_at (T : Fx K w mg) (h0 : σ[i]? = some (some (.ref p))) (hO : H p = some (.ins (He.ga K "Runner") dx (flRunner a0 a1 a2 a3 a4 a5 a6 a7 a8 a9))) (q : Q a7 H) : tFld K (tVar i) "at" σ H Q := ⟨_, h0, p, _, dx, _, _, rfl, hO, T.Runner.cl, T.na_Runner_at, lk_Runner_at, q⟩
theorem wr_Runner_at (T : Fx K w mg) (h0 : σ[i]? = some (some (.ref p))) (hO : H p = some (.ins (He.ga K "Runner") dx (flRunner a0 a1 a2 a3 a4 a5 a6 a7 a8 a9))) (q : R (upd H p (.ins (He.ga K "Runner") dx (flRunner a0 a1 a2 a3 a4 a5 a6 y a8 a9)))) : tVar i σ H fun x H1 => ∃ a C dx fs, x = .ref a ∧ H1 a = some (.ins C dx fs) ∧ Cls K C ∧ NoAttr K C "at" ∧ fs.length < 1000 ∧ R (upd H1 a (.ins C dx (putF "at" y fs))) := ⟨_, h0, p, _, dx, _, rfl, hO, T.Runner.cl, T.na_Runner_at, ln_Runner, by rw [pf_Runner_at]; exact q⟩
theorem rd_Runner_bindings (T : Fx K w mg) (h0 : σ[i]? = some (some (.ref p))) (hO : H p = some (.ins (He.ga K "Runner") dx (flRunner a0 a1 a2 a3 a4 a5 a6 a7 a8 a9))) (q : Q a8 H) : tFld K (tVar i) "bindings" σ H Q := ⟨_, h0, p, _, dx, _, _, rfl, hO, T.Runner.cl, T.na_Runner_bindings, lk_Runner_bindings, q⟩
theorem wr_Runner_bindings (T : Fx K w mg) (h0 : σ[i]? = some (some (.ref p))) (hO : H p = some (.ins (He.ga K "Runner") dx (flRunner a0 a1 a2 a3 a4 a5 a6 a7 a8 a9))) (q : R (upd H p (.ins (He.ga K "Runner") dx (flRunner a0 a1 a2 a3 a4 a5 a6 a7 y a9)))) : tVar i σ H fun x H1 => ∃ a C dx fs, x = .ref a ∧ H1 a = some (.ins C dx fs) ∧ Cls K C ∧ NoAttr K C "bindings" ∧ fs.length < 1000 ∧ R (upd H1 a (.ins C dx (putF "bindings" y fs))) := ⟨_, h0, p, _, dx, _, rfl, hO, T.Runner.cl, T.na_Runner_bindings, ln_Runner, by rw [pf_Runner_bindings]; exact q⟩
theorem rd_Runner_operands (T : Fx K w mg) (h0 : σ[i]? = some (some (.ref p))) (hO : H p = some (.ins (He.ga K "Runner") dx (flRunner a0 a1 a2 a3 a4 a5 a6 a7 a8 a9))) (q : Q a9 H) : tFld K (tVar i) "operands" σ H Q := ⟨_, h0, p, _, dx, _, _, rfl, hO, T.Runner.cl, T.na_Runner_operands, lk_Runner_operands, q⟩
theorem wr_Runner_operands (T : Fx K w mg) (h0 : σ[i]? = some (some (.ref p))) (hO : H p = some (.ins (He.ga K "Runner") dx (flRunner a0 a1 a2 a3 a4 a5 a6 a7 a8 a9))) (q : R (upd H p (.ins (He.ga K "Runner") dx (flRunner a0 a1 a2 a3 a4 a5 a6 a7 a8 y)))) : tVar i σ H fun x H1 => ∃ a C dx fs, x = .ref a ∧ H1 a = some (.ins C dx fs) ∧ Cls K C ∧ NoAttr K C "operands" ∧ fs.length < 1000 ∧ R (upd H1 a (.ins C dx (putF "operands" y fs))) := ⟨_, h0, p, _, dx, _, rfl, hO, T.Runner.cl, T.na_Runner_operands, ln_Runner, by rw [pf_Runner_operands]; exact q⟩
end
section
variable {K : PySem.W.Frag} {w : World} {mg : Str → Option Value} {σ : L2.St} {H : Hp} {i : Nat} {p dx : Addr} {a0 y : V} {Q : VK} {R : Hp → Prop}
theorem rd_Code_blocks (T : Fx K w mg) (h0 : σ[i]? = some (some (.ref p))) (hO : H p = some (.ins (He.ga K "Code") dx (flCode a0))) (q : Q a0 H) : tFld K (tVar i) "blocks" σ H Q := ⟨_, h0, p, _, dx, _, _, rfl, hO, T.Code.cl, T.na_Code_blocks, lk_Code_blocks, q⟩
theorem wr_Code_blocks (T : Fx K w mg) (h0 : σ[i]? = some (some (.ref p))) (hO : H p = some (.ins (He.ga K "Code") dx (flCode a0))) (q : R (upd H p (.ins (He.ga K "Code") dx (flCode y)))) : tVar i σ H fun x H1 => ∃ a C dx fs, x = .ref a ∧ H1 a = some (.ins C dx fs) ∧ Cls K C ∧ NoAttr K C "blocks" ∧ fs.length < 1000 ∧ R (upd H1 a (.ins C dx (putF "blocks" y fs))) := ⟨_, h0, p, _, dx, _, rfl, hO, T.Code.cl, T.na_Code_blocks, ln_Code, by rw [pf_Code_blocks]; exact q⟩
end
section
variable {K : PySem.W.Frag} {w : World} {mg : Str → Option Value} {σ : L2.St} {H : Hp} {i : Nat} {p dx : Addr} {a0 a1 y : V} {Q : VK} {R : Hp → Prop}
theorem rd_Compiler_blocks (T : Fx K w mg) (h0 : σ[i]? = some (some (.ref p))) (hO : H p = some (.ins (He.ga K "Compiler") dx (flCompiler a0 a1))) (q : Q a0 H) : tFld K (tVar i) "blocks" σ H Q := ⟨_, h0, p, _, dx, _, _, rfl, hO, T.Compiler.cl, T.na_Compiler_blocks, lk_Compiler_blocks, q⟩
theorem wr_Compiler_blocks (T : Fx K w mg) (h0 : σ[i]? = some (some (.ref p))) (hO : H p = some (.ins (He.ga K "Compiler") dx (flCompiler a0 a1))) (q : R (upd H p (.ins (He.ga K "Compiler") dx (flCompiler y a1)))) : tVar i σ H fun x H1 => ∃ a C dx fs, x = .ref a ∧ H1 a = some (.ins C dx fs) ∧ Cls K C ∧ NoAttr K C "blocks" ∧ fs.length < 1000 ∧ R (upd H1 a (.ins C dx (putF "blocks" y fs))) := ⟨_, h0, p, _, dx, _, rfl, hO, T.Compiler.cl, T.na_Compiler_blocks, ln_Compiler, by rw [pf_Compiler_blocks]; exact q⟩
theorem rd_Compiler_queue (T : Fx K w mg) (h0 : σ[i]? = some (some (.ref p))) (hO : H p = some (.ins (He.ga K "Compiler") dx (flCompiler a0 a1))) (q : Q a1 H) : tFld K (tVar i) "queue" σ H Q := ⟨_, h0, p, _, dx, _, _, rfl, hO, T.Compiler.cl, T.na_Compiler_queue, lk_Compiler_queue, q⟩
theorem wr_Compiler_queue (T : Fx K w mg) (h0 : σ[i]? = some (some (.ref p))) (hO : H p = some (.ins (He.ga K "Compiler") dx (flCompiler a0 a1))) (q : R (upd H p (.ins (He.ga K "Compiler") dx (flCompiler a0 y)))) : tVar i σ H fun x H1 => ∃ a C dx fs, x = .ref a ∧ H1 a = some (.ins C dx fs) ∧ Cls K C ∧ NoAttr K C "queue" ∧ fs.length < 1000 ∧ R (upd H1 a (.ins C dx (putF "queue" y fs))) := ⟨_, h0, p, _, dx, _, rfl, hO, T.Compiler.cl, T.na_Compiler_queue, ln_Compiler, by rw [pf_Compiler_queue]; exact q⟩
end
end AF

namespace AF
open PySem PySem.Spec PyProof.Rows L2
/-! ### the plain road's mirror -/
def opv : Sg → Int → Int → Int
  | .add, i, j => (i + j + 2147483648) % (2 * 2147483648) - 2147483648
  | .mul, i, j => (i * j + 2147483648) % (2 * 2147483648) - 2147483648
inductive PF where
  | lt (x : Nm) (b : Tr) | op (s : Sg) (b : Tr) | op2 (s : Sg) (j : Int) | ask (o : Nm) | print (b : Tr) | hd (r : Nm) (f : Tr) (o x k : Nm) (g : Tr)
def PFAt (H : Hp) : PF → V → Prop
  | .lt x b, v => ∃ p vb, v = .ref p ∧ H p = some (.tup [.str "let", .str x.s, vb]) ∧ At H b vb
  | .op s b, v => ∃ p vb, v = .ref p ∧ H p = some (.tup [.str "op", .str s.s, vb]) ∧ At H b vb
  | .op2 s j, v => ∃ p u, v = .ref p ∧ H p = some (.tup [.str "op2", .str s.s, .ref u]) ∧ H u = some (.tup [.str "num", .int j])
  | .ask o, v => ∃ p, v = .ref p ∧ H p = some (.tup [.str "ask", .str o.s])
  | .print b, v => ∃ p vb, v = .ref p ∧ H p = some (.tup [.str "print", vb]) ∧ At H b vb
  | .hd r f o x k g, v => ∃ p vr vc vf vg, v = .ref p ∧ H p = some (.tup [.str "handle", vr, vc]) ∧ Hd H vr vc r vf o x k vg ∧ At H f vf ∧ At H g vg
theorem PFAt.mono {H H' : Hp} (t : Tx H H') : ∀ {e : PF} {v : V}, PFAt H e v → PFAt H' e v
  | .lt .., _, ⟨p, vb, e, h, a⟩ => ⟨p, vb, e, t _ _ h, a.mono t⟩
  | .op .., _, ⟨p, vb, e, h, a⟩ => ⟨p, vb, e, t _ _ h, a.mono t⟩
  | .op2 .., _, ⟨p, vb, e, h, a⟩ => ⟨p, vb, e, t _ _ h, t _ _ a⟩
  | .ask .., _, ⟨p, e, h⟩ => ⟨p, e, t _ _ h⟩
  | .print .., _, ⟨p, vb, e, h, a⟩ => ⟨p, vb, e, t _ _ h, a.mono t⟩
  | .hd .., _, ⟨p, vr, vc, vf, vg, e, h, d, f, g⟩ => ⟨p, vr, vc, vf, vg, e, t _ _ h, d.mono t, f.mono t, g.mono t⟩
inductive En where
  | val (i : Int) | unh (o : Nm)
def EnAt (H : Hp) : En → V → Prop
  | .val i, v => ∃ p q, v = .ref p ∧ H p = some (.tup [.str "value", .ref q]) ∧ H q = some (.tup [.str "int", .int i])
  | .unh o, v => ∃ p, v = .ref p ∧ H p = some (.tup [.str "unhandled", .str o.s])
theorem EnAt.mono {H H' : Hp} (t : Tx H H') : ∀ {e : En} {v : V}, EnAt H e v → EnAt H' e v
  | .val _, _, ⟨p, q, e, h, a⟩ => ⟨p, q, e, t _ _ h, t _ _ a⟩
  | .unh _, _, ⟨p, e, h⟩ => ⟨p, e, t _ _ h⟩
def EnO (H : Hp) : Option En → V → Prop
  | none, v => v = .non
  | some e, v => EnAt H e v
theorem EnO.mono {H H' : Hp} (t : Tx H H') : ∀ {e : Option En} {v : V}, EnO H e v → EnO H' e v
  | none, _, h => h
  | some _, _, h => EnAt.mono t h
structure PS where
  cur : Tr
  fr : List PF
  left : Nat
  out : List Int
  room : Nat
  en : Option En
def pushM (s : PS) (c : Tr) (f : PF) (fs : List PF) : Option PS := if 900 < fs.length then none else some { s with cur := c, fr := f :: fs }
def beginM (s : PS) : Option PS := match s.cur with
  | .quoted a => some { s with cur := a }
  | .lt x a b => pushM s a (.lt x b) s.fr
  | .op sg a b => pushM s a (.op sg b) s.fr
  | .ask o a => pushM s a (.ask o) s.fr
  | .print a b => pushM s a (.print b) s.fr
  | .handle a r f o x k g => pushM s a (.hd r f o x k g) s.fr
  | _ => none
/-- the innermost handler -/
def findM : List PF → Option (Nm × Nm × Nm × Tr × List PF)
  | [] => none
  | .hd _ _ o x k g :: fs => some (o, x, k, g, fs)
  | _ :: fs => findM fs
def okPut (n : Nm) (e : Tr) : Bool := plainT e && decide (pdep n e < 8)
def askM (s : PS) (o : Nm) (i : Int) (fs : List PF) : Option PS := if 900 < fs.length then none else match s.left with
  | 0 => none
  | l + 1 => match findM fs with
    | none => some { s with cur := .num i, fr := fs, left := l, en := some (.unh o) }
    | some (o', x, k, g, fs') => if o = o' ∧ x ≠ k ∧ okPut x g = true ∧ okPut k (putIn x (.quoted (.num i)) g) = true then some { s with cur := putIn k (.quoted .kept) (putIn x (.quoted (.num i)) g), fr := fs', left := l } else none
def goOnM (s : PS) : Option PS := match s.cur, s.fr with
  | .num i, [] => some { s with en := some (.val i) }
  | .num i, .op sg b :: fs => pushM s b (.op2 sg i) fs
  | .num j, .op2 .add i :: fs => some { s with cur := .num (opv .add i j), fr := fs }
  | .num j, .op2 .mul i :: fs => if j = 2 then some { s with cur := .num (opv .mul i j), fr := fs } else none
  | .num i, .lt x b :: fs => if okPut x b = true then some { s with cur := putIn x (.quoted (.num i)) b, fr := fs } else none
  | .num i, .print b :: fs => match s.room with
    | 0 => none
    | r + 1 => some { s with cur := b, fr := fs, out := s.out ++ [i], room := r }
  | .num i, .ask o :: fs => askM s o i fs
  | .num i, .hd r f _ _ _ _ :: fs => if okPut r f = true then some { s with cur := putIn r (.quoted (.num i)) f, fr := fs } else none
  | _, _ => none
def isNum : Tr → Bool
  | .num _ => true
  | _ => false
def stepM (s : PS) : Option PS := if isNum s.cur = true then goOnM s else beginM s
def RunsM : Nat → PS → PS → Prop
  | 0, s, f => s = f ∧ s.en.isSome = true
  | m + 1, s, f => s.en = none ∧ ∃ s', stepM s = some s' ∧ RunsM m s' f
def initM (e : Tr) (steps room : Nat) : PS := ⟨e, [], steps, [], room, none⟩
/-! ### the state as it stands in the heap -/
structure RunAt (C : Addr) (H0 H : Hp) (p : Addr) (st : PS) (dx lf lp : Addr) (vc ve : V) (fs : List V) : Prop where
  s0 : Same H0 H
  np : H0 p = none
  nf : H0 lf = none
  nq : H0 lp = none
  ne : lf ≠ lp
  ob : H p = some (.ins C dx (flRun vc (.ref lf) (.int (st.left : Nat)) (.ref lp) ve))
  fr : H lf = some (.lst fs.reverse)
  fa : Rel2 (PFAt H) st.fr fs
  pr : H lp = some (.lst (st.out.map V.int))
  pl : st.out.length + st.room ≤ 1000
  cu : At H st.cur vc
  en : EnO H st.en ve
def RunO (C : Addr) (H0 H : Hp) (p : Addr) (st : PS) : Prop := ∃ dx lf lp vc ve fs, RunAt C H0 H p st dx lf lp vc ve fs
theorem gd {c : Prop} [Decidable c] {α : Type} {x : Option α} {y : α} (h : (if c then none else x) = some y) : ¬ c ∧ x = some y := by
  by_cases q : c
  · rw [if_pos q] at h; cases h
  · rw [if_neg q] at h; exact ⟨q, h⟩
theorem gd2 {c : Prop} [Decidable c] {α : Type} {x : Option α} {y : α} (h : (if c then x else none) = some y) : c ∧ x = some y := by
  by_cases q : c
  · rw [if_pos q] at h; exact ⟨q, h⟩
  · rw [if_neg q] at h; cases h
theorem rev_last {x : V} {xs : List V} : (xs.reverse ++ [x])[(xs.reverse ++ [x]).length - 1]? = some x := by simp
theorem rev_cons {x : V} {xs : List V} : (x :: xs).reverse = xs.reverse ++ [x] := List.reverse_cons
/-- the object is changed -/
theorem tx_ins {H : Hp} {p C dx : Addr} {fs : List (Str × V)} {o : HO} (h : H p = some (.ins C dx fs)) : Tx H (upd H p o) := Tx.upd (by rw [h]; trivial)
theorem tx_lst {H : Hp} {p : Addr} {xs : List V} {o : HO} (h : H p = some (.lst xs)) : Tx H (upd H p o) := Tx.upd (by rw [h]; trivial)
theorem ne_il {H : Hp} {p q C dx : Addr} {fs : List (Str × V)} {xs : List V} (h : H p = some (.ins C dx fs)) (h2 : H q = some (.lst xs)) : p ≠ q := ne_of h h2 (fun z => nomatch z)
theorem ne_tl {H : Hp} {p q : Addr} {ys xs : List V} (h : H p = some (.tup ys)) (h2 : H q = some (.lst xs)) : p ≠ q := ne_of h h2 (fun z => nomatch z)
theorem ne_it {H : Hp} {p q C dx : Addr} {fs : List (Str × V)} {xs : List V} (h : H p = some (.ins C dx fs)) (h2 : H q = some (.tup xs)) : p ≠ q := ne_of h h2 (fun z => nomatch z)
end AF

namespace AF
open PySem PySem.Spec PyProof.Rows L2
local macro_rules | `(tactic| walk_at "skip") => `(tactic| repeat (refine ⟨_, rfl, rfl, _, rfl, br_f (by decide +kernel) ?_⟩))
local macro_rules | `(tactic| walk_at "hit") => `(tactic| refine ⟨_, rfl, rfl, _, rfl, br_t (by decide +kernel) ?_⟩)
local macro_rules | `(tactic| walk_at "or2") => `(tactic| refine ⟨_, rfl, rfl, _, rfl, br_f (by decide +kernel) ⟨_, rfl, rfl, _, rfl, br_f (by decide +kernel) ?_⟩⟩)
set_option hygiene false in
local macro_rules | `(tactic| walk_at "Run.current") => `(tactic| refine ⟨_, rfl, _, _, _, _, _, rfl, hO, T.Run.cl, T.na_Run_current, lk_Run_current, ?_⟩)
set_option hygiene false in
local macro_rules | `(tactic| walk_at "Run.frames") => `(tactic| refine ⟨_, rfl, _, _, _, _, _, rfl, hO, T.Run.cl, T.na_Run_frames, lk_Run_frames, ?_⟩)
set_option hygiene false in
local macro_rules | `(tactic| walk_at "Run.left") => `(tactic| refine ⟨_, rfl, _, _, _, _, _, rfl, hO, T.Run.cl, T.na_Run_left, lk_Run_left, ?_⟩)
set_option hygiene false in
local macro_rules | `(tactic| walk_at "Run.prints") => `(tactic| refine ⟨_, rfl, _, _, _, _, _, rfl, hO, T.Run.cl, T.na_Run_prints, lk_Run_prints, ?_⟩)
set_option hygiene false in
local macro_rules | `(tactic| walk_at "Run.end") => `(tactic| refine ⟨_, rfl, _, _, _, _, _, rfl, hO, T.Run.cl, T.na_Run_end, lk_Run_end, ?_⟩)
set_option hygiene false in
local macro_rules | `(tactic| walk_at "Machine.left") => `(tactic| refine ⟨_, rfl, _, _, _, _, _, rfl, hO, T.Machine.cl, T.na_Machine_left, lk_Machine_left, ?_⟩)
set_option hygiene false in
local macro_rules | `(tactic| walk_at "Machine.prints") => `(tactic| refine ⟨_, rfl, _, _, _, _, _, rfl, hO, T.Machine.cl, T.na_Machine_prints, lk_Machine_prints, ?_⟩)
set_option hygiene false in
local macro_rules | `(tactic| walk_at "Machine.pieces") => `(tactic| refine ⟨_, rfl, _, _, _, _, _, rfl, hO, T.Machine.cl, T.na_Machine_pieces, lk_Machine_pieces, ?_⟩)
set_option hygiene false in
local macro_rules | `(tactic| walk_at "Machine.kept") => `(tactic| refine ⟨_, rfl, _, _, _, _, _, rfl, hO, T.Machine.cl, T.na_Machine_kept, lk_Machine_kept, ?_⟩)
set_option hygiene false in
local macro_rules | `(tactic| walk_at "Machine.most") => `(tactic| refine ⟨_, rfl, _, _, _, _, _, rfl, hO, T.Machine.cl, T.na_Machine_most, lk_Machine_most, ?_⟩)
set_option hygiene false in
local macro_rules | `(tactic| walk_at "Piece.kind") => `(tactic| refine ⟨_, rfl, _, _, _, _, _, rfl, hO, T.Piece.cl, T.na_Piece_kind, lk_Piece_kind, ?_⟩)
set_option hygiene false in
local macro_rules | `(tactic| walk_at "Piece.handler") => `(tactic| refine ⟨_, rfl, _, _, _, _, _, rfl, hO, T.Piece.cl, T.na_Piece_handler, lk_Piece_handler, ?_⟩)
set_option hygiene false in
local macro_rules | `(tactic| walk_at "Piece.frames") => `(tactic| refine ⟨_, rfl, _, _, _, _, _, rfl, hO, T.Piece.cl, T.na_Piece_frames, lk_Piece_frames, ?_⟩)
set_option hygiene false in
local macro_rules | `(tactic| walk_at "Piece.distance") => `(tactic| refine ⟨_, rfl, _, _, _, _, _, rfl, hO, T.Piece.cl, T.na_Piece_distance, lk_Piece_distance, ?_⟩)
set_option hygiene false in
local macro_rules | `(tactic| walk_at "Piece.table") => `(tactic| refine ⟨_, rfl, _, _, _, _, _, rfl, hO, T.Piece.cl, T.na_Piece_table, lk_Piece_table, ?_⟩)
set_option hygiene false in
local macro_rules | `(tactic| walk_at "Runner.blocks") => `(tactic| refine ⟨_, rfl, _, _, _, _, _, rfl, hO, T.Runner.cl, T.na_Runner_blocks, lk_Runner_blocks, ?_⟩)
set_option hygiene false in
local macro_rules | `(tactic| walk_at "Runner.left") => `(tactic| refine ⟨_, rfl, _, _, _, _, _, rfl, hO, T.Runner.cl, T.na_Runner_left, lk_Runner_left, ?_⟩)
set_option hygiene false in
local macro_rules | `(tactic| walk_at "Runner.prints") => `(tactic| refine ⟨_, rfl, _, _, _, _, _, rfl, hO, T.Runner.cl, T.na_Runner_prints, lk_Runner_prints, ?_⟩)
set_option hygiene false in
local macro_rules | `(tactic| walk_at "Runner.kept") => `(tactic| refine ⟨_, rfl, _, _, _, _, _, rfl, hO, T.Runner.cl, T.na_Runner_kept, lk_Runner_kept, ?_⟩)
set_option hygiene false in
local macro_rules | `(tactic| walk_at "Runner.end") => `(tactic| refine ⟨_, rfl, _, _, _, _, _, rfl, hO, T.Runner.cl, T.na_Runner_end, lk_Runner_end, ?_⟩)
set_option hygiene false in
local macro_rules | `(tactic| walk_at "Runner.pieces") => `(tactic| refine ⟨_, rfl, _, _, _, _, _, rfl, hO, T.Runner.cl, T.na_Runner_pieces, lk_Runner_pieces, ?_⟩)
set_option hygiene false in
local macro_rules | `(tactic| walk_at "Runner.rows") => `(tactic| refine ⟨_, rfl, _, _, _, _, _, rfl, hO, T.Runner.cl, T.na_Runner_rows, lk_Runner_rows, ?_⟩)
set_option hygiene false in
local macro_rules | `(tactic| walk_at "Runner.at") => `(tactic| refine ⟨_, rfl, _, _, _, _, _, rfl, hO, T.Runner.cl, T.na_Runner_at, lk_Runner_at, ?_⟩)
set_option hygiene false in
local macro_rules | `(tactic| walk_at "Runner.bindings") => `(tactic| refine ⟨_, rfl, _, _, _, _, _, rfl, hO, T.Runner.cl, T.na_Runner_bindings, lk_Runner_bindings, ?_⟩)
set_option hygiene false in
local macro_rules | `(tactic| walk_at "Runner.operands") => `(tactic| refine ⟨_, rfl, _, _, _, _, _, rfl, hO, T.Runner.cl, T.na_Runner_operands, lk_Runner_operands, ?_⟩)
set_option hygiene false in
local macro_rules | `(tactic| walk_at "Code.blocks") => `(tactic| refine ⟨_, rfl, _, _, _, _, _, rfl, hO, T.Code.cl, T.na_Code_blocks, lk_Code_blocks, ?_⟩)
set_option hygiene false in
local macro_rules | `(tactic| walk_at "Compiler.blocks") => `(tactic| refine ⟨_, rfl, _, _, _, _, _, rfl, hO, T.Compiler.cl, T.na_Compiler_blocks, lk_Compiler_blocks, ?_⟩)
set_option hygiene false in
local macro_rules | `(tactic| walk_at "Compiler.queue") => `(tactic| refine ⟨_, rfl, _, _, _, _, _, rfl, hO, T.Compiler.cl, T.na_Compiler_queue, lk_Compiler_queue, ?_⟩)
/-! ### the state under changes -/
section
variable {C p dx lf lp : Addr} {H0 H : Hp} {st : PS} {vc ve : V} {fs : List V}
theorem RunAt.ext {H' : Hp} (R : RunAt C H0 H p st dx lf lp vc ve fs) (s : Same H H') : RunAt C H0 H' p st dx lf lp vc ve fs :=
  ⟨R.s0.trans s, R.np, R.nf, R.nq, R.ne, s _ _ R.ob, s _ _ R.fr, R.fa.mono fun _ _ z => z.mono (.same s), s _ _ R.pr, R.pl, R.cu.mono (.same s), R.en.mono (.same s)⟩
theorem RunAt.set {c : Tr} {l : Nat} {e : Option En} {vc' ve' : V} (R : RunAt C H0 H p st dx lf lp vc ve fs) (hc : At H c vc') (he : EnO H e ve') :
    RunAt C H0 (upd H p (.ins C dx (flRun vc' (.ref lf) (.int (l : Nat)) (.ref lp) ve'))) p ⟨c, st.fr, l, st.out, st.room, e⟩ dx lf lp vc' ve' fs := by
  have t : Tx H (upd H p (.ins C dx (flRun vc' (.ref lf) (.int (l : Nat)) (.ref lp) ve'))) := tx_ins R.ob
  have n1 := ne_il R.ob R.fr
  have n2 := ne_il R.ob R.pr
  exact ⟨same_upd R.s0 R.np, R.np, R.nf, R.nq, R.ne, upd_same, by rw [upd_ne n1.symm]; exact R.fr, R.fa.mono fun _ _ z => z.mono t, by rw [upd_ne n2.symm]; exact R.pr, R.pl, hc.mono t, he.mono t⟩
theorem RunAt.frs {fr : List PF} {fs' : List V} (R : RunAt C H0 H p st dx lf lp vc ve fs) (hf : Rel2 (PFAt H) fr fs') :
    RunAt C H0 (upd H lf (.lst fs'.reverse)) p { st with fr := fr } dx lf lp vc ve fs' := by
  have t : Tx H (upd H lf (.lst fs'.reverse)) := tx_lst R.fr
  have n1 := ne_il R.ob R.fr
  exact ⟨same_upd R.s0 R.nf, R.np, R.nf, R.nq, R.ne, by rw [upd_ne n1]; exact R.ob, upd_same, hf.mono fun _ _ z => z.mono t, by rw [upd_ne R.ne.symm]; exact R.pr, R.pl, R.cu.mono t, R.en.mono t⟩
theorem RunAt.prs {i : Int} {r : Nat} (R : RunAt C H0 H p st dx lf lp vc ve fs) (hr : st.room = r + 1) :
    RunAt C H0 (upd H lp (.lst ((st.out ++ [i]).map V.int))) p { st with out := st.out ++ [i], room := r } dx lf lp vc ve fs := by
  have t : Tx H (upd H lp (.lst ((st.out ++ [i]).map V.int))) := tx_lst R.pr
  have n2 := ne_il R.ob R.pr
  have z := R.pl
  exact ⟨same_upd R.s0 R.nq, R.np, R.nf, R.nq, R.ne, by rw [upd_ne n2]; exact R.ob, by rw [upd_ne R.ne]; exact R.fr, R.fa.mono fun _ _ z => z.mono t, upd_same, by
    show (st.out ++ [i]).length + r ≤ 1000
    rw [List.length_append, List.length_singleton]
    omega, R.cu.mono t, R.en.mono t⟩
end
section
variable {P : Program} {w : World} {K : PySem.W.Frag} {mg : Str → Option Value} {base : Heap}
/-- self.current[j] -/
theorem curIx {σ : L2.St} {H : Hp} {i : Nat} {p q dx : Addr} {a1 a2 a3 a4 v : V} {xs : List V} {j : Int} {Q : VK} (T : Fx K w mg) (h0 : σ[i]? = some (some (.ref p))) (hO : H p = some (.ins (He.ga K "Run") dx (flRun (.ref q) a1 a2 a3 a4))) (hq : H q = some (.tup xs))
    (hx : atI xs j = some v) (k : Q v H) : tOp (rIxT K) (tFld K (tVar i) "current") (tC (.int j)) σ H Q := rd_Run_current T h0 hO ⟨q, _, _, _, rfl, rfl, SqT.of hq, hx, k⟩
/-! ### small defs -/
def spOp : Sp := fun vs H Q _ => ∃ s i j, vs = [.str (Sg.s s), .int i, .int j] ∧ (s = .mul → j = 2) ∧ ∀ H' p, Same H H' → H' p = some (.tup [.str "num", .int (opv s i j)]) → Q (.ref p) H'
theorem ok_op (T : Fx K w mg) : FnOk P w K mg base CX0 1 (He.ga K "operated") (fdOf K ("operated", none)) ["sign", "one", "two"] spOp := by
  refine T.operated.F.ok sc_operated (fun vs H Q E h => ?_) (fun cdv A outer s H vs Q E hr h => ?_)
  · obtain ⟨s, i, j, rfl, _⟩ := h
    rfl
  · obtain ⟨s, i, j, rfl, hj, k⟩ := h
    refine ⟨_, (pss_cons (ps_if (pt_cmpR op_eq (pv 0) pe_str (nomark _))
        pss_never
        pss_nil)
      (pss_cons (ps_if (pt_cmpR op_eq (pv 0) pe_str (nomark _))
        pss_never
        pss_nil)
      (pss_cons (ps_if (pt_cmpR op_eq (pv 0) pe_str (nomark _))
        (pss_one (ps_set (i := 3) sc_operated.nd rfl (Or.inl rfl) (pe_op op_add (pv 1) (pv 2))))
        (pss_one (ps_if (pt_cmpR op_eq (pv 0) pe_str (nomark _))
          pss_never
          (pss_one (ps_set (i := 3) sc_operated.nd rfl (Or.inl rfl) (pe_op op_mul (pv 1) (pv 2)))))))
      (pss_one (ps_ret (pe_tup (pa_cons pe_str (pa_cons (pe_op op_sub (pe_op op_mod (pe_callTy call_int1 (by rfl) T.n_int (by decide +kernel) (pa_cons (pe_op op_add (pv 3) (C8.pe_gc rfl T.g_HALF)) pa_nil)) (pe_op op_mul pe_int (C8.pe_gc rfl T.g_HALF))) (C8.pe_gc rfl T.g_HALF)) pa_nil)))))))), ?_⟩
    cases s with
    | add =>
      walk_at "skip"
      walk_at "hit"
      refine ⟨_, rfl, _, rfl, _, _, rfl, rfl, ?_⟩
      refine ⟨_, rfl, _, _, rfl, rfl, .inl ⟨_, rfl, _, _, rfl, rfl, .inr ⟨by decide, by decide⟩, _, _, rfl, rfl, by show (0 : Int) < 2 * 2147483648; decide, _, _, rfl, rfl, by show 2 ≤ sizeLine; decide, fun p np => ?_⟩⟩
      exact k _ _ (same_new np _) upd_same
    | mul =>
      walk_at "skip"
      have e : j = 2 := hj rfl
      subst e
      refine ⟨_, rfl, _, rfl, _, _, rfl, rfl, .inr ⟨by decide, by decide⟩, ?_⟩
      refine ⟨_, rfl, _, _, rfl, rfl, .inl ⟨_, rfl, _, _, rfl, rfl, .inr ⟨by decide, by decide⟩, _, _, rfl, rfl, by show (0 : Int) < 2 * 2147483648; decide, _, _, rfl, rfl, by show 2 ≤ sizeLine; decide, fun p np => ?_⟩⟩
      exact k _ _ (same_new np _) upd_same
def spQuoted : Sp := fun vs H Q _ => ∃ v, vs = [v] ∧ ∀ H' p, Same H H' → H' p = some (.tup [.str "quoted", v]) → Q (.ref p) H'
theorem ok_quoted (T : Fx K w mg) : FnOk P w K mg base CX0 1 (He.ga K "quoted") (fdOf K ("quoted", none)) ["value"] spQuoted := by
  refine T.quoted.F.ok sc_quoted (fun vs H Q E h => ?_) (fun cdv A outer s H vs Q E hr h => ?_)
  · obtain ⟨v, rfl, _⟩ := h
    rfl
  · obtain ⟨v, rfl, k⟩ := h
    refine ⟨_, (pss_one (ps_ret (pe_tup (pa_cons pe_str (pa_cons (pv 0) pa_nil))))), ?_⟩
    exact ⟨_, rfl, by show 2 ≤ sizeLine; decide, fun p np => k _ p (same_new np _) upd_same⟩
def spShape : Sp := fun vs H Q _ => ∃ p i, vs = [.ref p] ∧ H p = some (.tup [.str "num", .int i]) ∧ ∀ H' q, Same H H' → H' q = some (.tup [.str "int", .int i]) → Q (.ref q) H'
theorem ok_shape (T : Fx K w mg) : FnOk P w K mg base CX0 1 (He.ga K "shape") (fdOf K ("shape", none)) ["value"] spShape := by
  refine T.shape.F.ok sc_shape (fun vs H Q E h => ?_) (fun cdv A outer s H vs Q E hr h => ?_)
  · obtain ⟨p, i, rfl, _⟩ := h
    rfl
  · obtain ⟨p, i, rfl, hp, k⟩ := h
    refine ⟨_, (pss_cons (ps_if (pt_cmpR op_eq (pe_ix ix_tup (pv 0) pe_int (fun _ _ => rfl)) pe_str (nomark _))
        (pss_one (ps_ret (pe_tup (pa_cons pe_str (pa_cons (pe_ix ix_tup (pv 0) pe_int (fun _ _ => rfl)) pa_nil)))))
        pss_nil)
      pss_never), ?_⟩
    refine ⟨_, rfl, p, _, _, _, rfl, rfl, SqT.of hp, rfl, rfl, _, rfl, br_t (by decide +kernel) ?_⟩
    exact ⟨_, rfl, p, _, _, _, rfl, rfl, SqT.of hp, rfl, by show 2 ≤ sizeLine; decide, fun q nq => k _ q (same_new nq _) upd_same⟩
def spIsV : Sp := fun vs H Q _ => ∃ e v, vs = [v] ∧ At H e v ∧ (hk e ≠ .name ∧ hk e ≠ .kept) ∧ ∀ H', Same H H' → Q (.bl (isNum e)) H'
theorem HK.pair_ : ∀ h : HK, decide (V.str h.s = V.str "pair") = false := by intro h; cases h <;> decide +kernel
theorem HK.val_ : ∀ h : HK, h ≠ .kept → inV (.str h.s) [.str "num", .str "flag", .str "unit", .str "fun", .str "rec", .str "kept"] = decide (h = .num) := by intro h; cases h <;> decide +kernel
theorem isNum_hk (e : Tr) : isNum e = decide (hk e = .num) := by cases e <;> rfl
theorem ok_isv (T : Fx K w mg) : FnOk P w K mg base CX0 1 (He.ga K "is_value") (fdOf K ("is_value", none)) ["tree"] spIsV := by
  refine T.is_value.F.ok sc_is_value (fun vs H Q E h => ?_) (fun cdv A outer s H vs Q E hr h => ?_)
  · obtain ⟨e, v, rfl, _⟩ := h
    rfl
  · obtain ⟨e, v, rfl, hv, hn, k⟩ := h
    refine ⟨_, (pss_cons (ps_if (pt_cmpR op_eq (pe_ix ix_tup (pv 0) pe_int (fun _ _ => rfl)) pe_str (nomark _))
        pss_never
        pss_nil)
      (pss_one (ps_ret (pe_cmpR op_in_seq (pe_ix ix_tup (pv 0) pe_int (fun _ _ => rfl)) (pe_tup (pa_cons pe_str (pa_cons pe_str (pa_cons pe_str (pa_cons pe_str (pa_cons pe_str (pa_cons pe_str pa_nil))))))) rfl)))), ?_⟩
    obtain ⟨a, rest, rfl, hA⟩ := at_head hv (fun z => by rw [z] at hn; exact hn.2 rfl)
    refine ⟨_, rfl, a, _, _, _, rfl, rfl, SqT.of hA, atI_nat (j := 0) rfl, rfl, _, rfl, br_f (HK.pair_ _) ?_⟩
    refine ⟨_, rfl, a, _, _, _, rfl, rfl, SqT.of hA, atI_nat (j := 0) rfl, by show 6 ≤ sizeLine; decide, fun p np => ?_⟩
    refine ⟨p, _, rfl, .inr (SqT.of upd_same), rfl, rfl, ?_⟩
    rw [if_neg Bool.false_ne_true, show inV (V.str (hdT e)) _ = _ from HK.val_ _ hn.2, ← isNum_hk]
    exact k _ (same_new np _)
/-! ### Run -/
def spCounted : Sp := fun vs H Q _ => ∃ (p dx : Addr) (a b : V) (l : Nat) (c d : V), vs = [.ref p] ∧ H p = some (.ins (He.ga K "Run") dx (flRun a b (.int ((l + 1 : Nat) : Int)) c d)) ∧ Q (.bl true) (upd H p (.ins (He.ga K "Run") dx (flRun a b (.int (l : Nat)) c d)))
theorem ok_Run_counted (T : Fx K w mg) : FnOk P w K mg base CX0 1 (He.ma K (He.ga K "Run") "counted") (fdOf K ("Run", some "counted")) ["self"] (spCounted (K := K)) := by
  refine T.Run_counted.F.ok sc_Run_counted (fun vs H Q E h => ?_) (fun cdv A outer s H vs Q E hr h => ?_)
  · obtain ⟨p, dx, a, b, l, c, d, rfl, _⟩ := h
    rfl
  · obtain ⟨p, dx, a, b, l, c, d, rfl, hO, k⟩ := h
    refine ⟨_, (pss_cons (ps_if (pt_cmpR op_eq (pe_fld (pv 0) rfl) pe_int (nomark _))
        pss_never
        pss_nil)
      (pss_cons (ps_fldaug (pv 0) pe_int in_sub)
      (pss_one (ps_ret pe_bl)))), ?_⟩
    walk_at "Run.left"
    refine ⟨rfl, _, rfl, br_f (decide_eq_false (fun z => by have q := V.int.inj z; omega)) ?_⟩
    refine ⟨_, rfl, p, _, dx, _, _, rfl, hO, T.Run.cl, T.na_Run_left, lk_Run_left, _, _, rfl, rfl, dx, _, hO, ln_Run, ?_⟩
    rw [pf_Run_left, show ((l + 1 : Nat) : Int) - 1 = (l : Int) by omega]
    exact k
def spBegin : Sp := fun vs H Q _ => ∃ H0 p st st', vs = [.ref p] ∧ RunO (He.ga K "Run") H0 H p st ∧ beginM st = some st' ∧ ∀ H', RunO (He.ga K "Run") H0 H' p st' → Q .non H'
/-- self.frames.append(a new tuple), then self.current = v -/
theorem RunAt.push {C p dx lf lp t : Addr} {H0 H : Hp} {st st' : PS} {vc ve v : V} {fs xs : List V} {c : Tr} {f : PF} (R : RunAt C H0 H p st dx lf lp vc ve fs) (nt : H t = none) (hf : ∀ H', H' t = some (.tup xs) → Tx H H' → PFAt H' f (.ref t)) (hc : At H c v) (hs : pushM st c f st.fr = some st') :
    RunO C H0 (upd (upd (upd H t (.tup xs)) lf (.lst (fs.reverse ++ [.ref t]))) p (.ins C dx (flRun v (.ref lf) (.int (st.left : Nat)) (.ref lp) ve))) p st' := by
  obtain ⟨_, e⟩ := gd hs
  cases e
  have s1 := same_new nt (.tup xs)
  have R1 := R.ext s1
  have R2 := R1.frs (fr := f :: st.fr) (fs' := .ref t :: fs) (.cons (hf _ upd_same (.same s1)) R1.fa)
  have R3 := R2.set (c := c) (l := st.left) (e := st.en) (vc' := v) (ve' := ve) (hc.mono ((Tx.same s1).trans (tx_lst R1.fr))) R2.en
  rw [rev_cons] at R3
  exact ⟨dx, lf, lp, v, ve, _, R3⟩
theorem push_len {st st' : PS} {c : Tr} {f : PF} (hs : pushM st c f st.fr = some st') {H : Hp} {fs : List V} (r : Rel2 (PFAt H) st.fr fs) : fs.reverse.length < sizeLine := by
  obtain ⟨h, _⟩ := gd hs
  rw [List.length_reverse, ← r.len]
  exact small1000 (by omega)
theorem ok_Run_begin (T : Fx K w mg) : FnOk P w K mg base CX0 1 (He.ma K (He.ga K "Run") "begin") (fdOf K ("Run", some "begin")) ["self"] (spBegin (K := K)) := by
  refine T.Run_begin.F.ok sc_Run_begin (fun vs H Q E h => ?_) (fun cdv A outer s H vs Q E hr h => ?_)
  · obtain ⟨H0, p, st, st', rfl, _⟩ := h
    rfl
  · obtain ⟨H0, p, st, st', rfl, ⟨dx, lf, lp, vc, ve, fs, R⟩, hb, k⟩ := h
    refine ⟨_, (pss_cons (ps_set (i := 1) sc_Run_begin.nd rfl (Or.inl rfl) (pe_ix ix_tup (pe_fld (pv 0) rfl) pe_int (fun _ _ => rfl)))
      (pss_one (ps_if (pt_cmpR op_eq (pv 1) pe_str (nomark _))
        (pss_one (ps_fld (pv 0) (pe_ix ix_tup (pe_fld (pv 0) rfl) pe_int (fun _ _ => rfl)) rfl))
        (pss_one (ps_if (PW.pt (pw_or (pt_cmpR op_eq (pv 1) pe_str (nomark _)) (pw_or1 (pt_cmpR op_eq (pv 1) pe_str (nomark _)))))
          (pss_cons (ps_expr (pe_bm PySem.F.plainAttrs_list PySem.F.slot_list_append PySem.F.type_list_append mt_append (pe_fld (pv 0) rfl) (pa_cons (pe_tup (pa_cons (pv 1) (pa_cons (pe_ix ix_tup (pe_fld (pv 0) rfl) pe_int (fun _ _ => rfl)) (pa_cons (pe_ix ix_tup (pe_fld (pv 0) rfl) pe_int (fun _ _ => rfl)) pa_nil)))) pa_nil)))
          (pss_one (ps_fld (pv 0) (pe_ix ix_tup (pe_fld (pv 0) rfl) pe_int (fun _ _ => rfl)) rfl)))
          (pss_one (ps_if (pt_cmpR op_eq (pv 1) pe_str (nomark _))
            (pss_cons (ps_expr (pe_bm PySem.F.plainAttrs_list PySem.F.slot_list_append PySem.F.type_list_append mt_append (pe_fld (pv 0) rfl) (pa_cons (pe_tup (pa_cons (pv 1) (pa_cons (pe_ix ix_tup (pe_fld (pv 0) rfl) pe_int (fun _ _ => rfl)) pa_nil))) pa_nil)))
            (pss_one (ps_fld (pv 0) (pe_ix ix_tup (pe_fld (pv 0) rfl) pe_int (fun _ _ => rfl)) rfl)))
            (pss_one (ps_if (pt_cmpR op_eq (pv 1) pe_str (nomark _))
              (pss_cons (ps_expr (pe_bm PySem.F.plainAttrs_list PySem.F.slot_list_append PySem.F.type_list_append mt_append (pe_fld (pv 0) rfl) (pa_cons (pe_tup (pa_cons (pv 1) (pa_cons (pe_ix ix_tup (pe_fld (pv 0) rfl) pe_int (fun _ _ => rfl)) (pa_cons (pe_ix ix_tup (pe_fld (pv 0) rfl) pe_int (fun _ _ => rfl)) pa_nil)))) pa_nil)))
              (pss_one (ps_fld (pv 0) (pe_ix ix_tup (pe_fld (pv 0) rfl) pe_int (fun _ _ => rfl)) rfl)))
              (pss_cons (ps_expr (pe_bm PySem.F.plainAttrs_list PySem.F.slot_list_append PySem.F.type_list_append mt_append (pe_fld (pv 0) rfl) (pa_cons (pe_op op_catA (pe_tup (pa_cons (pv 1) pa_nil)) (pe_slice sl_tupA (pe_fld (pv 0) rfl) (po_some pe_int) po_none)) pa_nil)))
              (pss_one (ps_fld (pv 0) (pe_ix ix_tup (pe_fld (pv 0) rfl) pe_int (fun _ _ => rfl)) rfl)))))))))))), ?_⟩
    have npl := ne_il R.ob R.fr
    have hO := R.ob
    have cu := R.cu
    unfold beginM at hb
    cases hc : st.cur with
    | num i => rw [hc] at hb; cases hb
    | name x => rw [hc] at hb; cases hb
    | kept => rw [hc] at hb; cases hb
    | quoted a =>
      rw [hc] at hb cu
      cases hb
      obtain ⟨q, va, rfl, hq, ha⟩ := cu
      refine curIx T rfl R.ob hq rfl ?_
      walk_at "hit"
      refine curIx T rfl R.ob hq rfl (wr_Run_current T rfl R.ob (R := fun H' => Q .non H') ?_)
      exact k _ ⟨dx, lf, lp, va, ve, fs, R.set (c := a) (l := st.left) (e := st.en) ha R.en⟩
    | lt x a b =>
      rw [hc] at hb cu
      obtain ⟨q, va, vb, rfl, hq, ha, hB⟩ := cu
      refine curIx T rfl R.ob hq rfl ?_
      walk_at "skip"
      refine ⟨_, rfl, rfl, _, rfl, br_t rfl (iteT ?_)⟩
      walk_at "Run.frames"
      refine ⟨.inl ⟨rfl, _, SqL.of R.fr⟩, _, rfl, curIx T rfl R.ob hq rfl (curIx T rfl R.ob hq rfl ⟨by show 3 ≤ sizeLine; decide, fun t nt => ?_⟩)⟩
      have s1 := same_new nt (.tup [V.str "let", V.str x.s, vb])
      refine ⟨lf, _, _, rfl, rfl, s1 _ _ R.fr, push_len hb R.fa, ?_⟩
      refine curIx T rfl (by rw [upd_ne npl]; exact s1 _ _ R.ob) (by rw [upd_ne (ne_tl hq R.fr)]; exact s1 _ _ hq) rfl (wr_Run_current T rfl (by rw [upd_ne npl]; exact s1 _ _ R.ob) (R := fun H' => Q .non H') ?_)
      exact k _ (R.push (f := PF.lt x b) nt (fun H' e tx => ⟨t, vb, rfl, e, hB.mono tx⟩) ha hb)
    | op sg a b =>
      rw [hc] at hb cu
      obtain ⟨q, va, vb, rfl, hq, ha, hB⟩ := cu
      refine curIx T rfl R.ob hq rfl ?_
      refine ⟨_, rfl, rfl, _, rfl, br_f (by decide +kernel) ?_⟩
      refine ⟨_, rfl, rfl, _, rfl, br_f (by decide +kernel) ⟨_, rfl, rfl, _, rfl, br_t rfl ?_⟩⟩
      walk_at "Run.frames"
      refine ⟨.inl ⟨rfl, _, SqL.of R.fr⟩, _, rfl, curIx T rfl R.ob hq rfl (curIx T rfl R.ob hq rfl ⟨by show 3 ≤ sizeLine; decide, fun t nt => ?_⟩)⟩
      have s1 := same_new nt (.tup [V.str "op", V.str sg.s, vb])
      refine ⟨lf, _, _, rfl, rfl, s1 _ _ R.fr, push_len hb R.fa, ?_⟩
      refine curIx T rfl (by rw [upd_ne npl]; exact s1 _ _ R.ob) (by rw [upd_ne (ne_tl hq R.fr)]; exact s1 _ _ hq) rfl (wr_Run_current T rfl (by rw [upd_ne npl]; exact s1 _ _ R.ob) (R := fun H' => Q .non H') ?_)
      exact k _ (R.push (f := PF.op sg b) nt (fun H' e tx => ⟨t, vb, rfl, e, hB.mono tx⟩) ha hb)
    | ask o a =>
      rw [hc] at hb cu
      obtain ⟨q, va, rfl, hq, ha⟩ := cu
      refine curIx T rfl R.ob hq rfl ?_
      refine ⟨_, rfl, rfl, _, rfl, br_f (by decide +kernel) ?_⟩
      walk_at "or2"
      walk_at "hit"
      walk_at "Run.frames"
      refine ⟨.inl ⟨rfl, _, SqL.of R.fr⟩, _, rfl, curIx T rfl R.ob hq rfl ⟨by show 2 ≤ sizeLine; decide, fun t nt => ?_⟩⟩
      have s1 := same_new nt (.tup [V.str "ask", V.str o.s])
      refine ⟨lf, _, _, rfl, rfl, s1 _ _ R.fr, push_len hb R.fa, ?_⟩
      refine curIx T rfl (by rw [upd_ne npl]; exact s1 _ _ R.ob) (by rw [upd_ne (ne_tl hq R.fr)]; exact s1 _ _ hq) rfl (wr_Run_current T rfl (by rw [upd_ne npl]; exact s1 _ _ R.ob) (R := fun H' => Q .non H') ?_)
      exact k _ (R.push (f := PF.ask o) nt (fun H' e tx => ⟨t, rfl, e⟩) ha hb)
    | print a b =>
      rw [hc] at hb cu
      obtain ⟨q, va, vb, rfl, hq, ha, hB⟩ := cu
      refine curIx T rfl R.ob hq rfl ?_
      refine ⟨_, rfl, rfl, _, rfl, br_f (by decide +kernel) ?_⟩
      walk_at "or2"
      walk_at "skip"
      walk_at "Run.frames"
      refine ⟨.inl ⟨rfl, _, SqL.of R.fr⟩, _, rfl, by show 1 ≤ sizeLine; decide, fun t1 nt1 => ?_⟩
      have s1 := same_new nt1 (.tup [V.str "print"])
      have R1 := R.ext s1
      refine rd_Run_current T rfl R1.ob ⟨_, rfl, q, _, rfl, SqT.of (s1 _ _ hq), fun z => absurd z.1 (by show ¬ (HT.sIx 3 0 (some 2) = 0); decide), fun _ t2 nt2 => ?_⟩
      have s2 := same_new nt2 (.tup [vb])
      have R2 := R1.ext s2
      refine ⟨t1, t2, [V.str "print"], [vb], rfl, rfl, SqT.of (s2 _ _ upd_same), SqT.of upd_same, by show 2 ≤ sizeLine; decide, (fun z => nomatch z), (fun _ z => nomatch z), fun _ _ t nt => ?_⟩
      have s3 := same_new nt (.tup [V.str "print", vb])
      refine ⟨lf, _, _, rfl, rfl, s3 _ _ R2.fr, push_len hb R2.fa, ?_⟩
      refine curIx T rfl (by rw [upd_ne npl]; exact s3 _ _ R2.ob) (by rw [upd_ne (ne_tl hq R.fr)]; exact s3 _ _ (s2 _ _ (s1 _ _ hq))) rfl (wr_Run_current T rfl (by rw [upd_ne npl]; exact s3 _ _ R2.ob) (R := fun H' => Q .non H') ?_)
      exact k _ (R2.push (f := PF.print b) nt (fun H' e tx => ⟨t, vb, rfl, e, hB.mono ((Tx.same (s1.trans s2)).trans tx)⟩) (ha.mono (.same (s1.trans s2))) hb)
    | handle a r f o x kk g =>
      rw [hc] at hb cu
      obtain ⟨q, va, vr, vc, vf, vg, rfl, hq, hd, ha, hf, hg⟩ := cu
      refine curIx T rfl R.ob hq rfl ?_
      refine ⟨_, rfl, rfl, _, rfl, br_f (by decide +kernel) ?_⟩
      walk_at "or2"
      walk_at "skip"
      walk_at "hit"
      walk_at "Run.frames"
      refine ⟨.inl ⟨rfl, _, SqL.of R.fr⟩, _, rfl, curIx T rfl R.ob hq rfl (curIx T rfl R.ob hq rfl ⟨by show 3 ≤ sizeLine; decide, fun t nt => ?_⟩)⟩
      have s1 := same_new nt (.tup [V.str "handle", vr, vc])
      refine ⟨lf, _, _, rfl, rfl, s1 _ _ R.fr, push_len hb R.fa, ?_⟩
      refine curIx T rfl (by rw [upd_ne npl]; exact s1 _ _ R.ob) (by rw [upd_ne (ne_tl hq R.fr)]; exact s1 _ _ hq) rfl (wr_Run_current T rfl (by rw [upd_ne npl]; exact s1 _ _ R.ob) (R := fun H' => Q .non H') ?_)
      exact k _ (R.push (f := PF.hd r f o x kk g) nt (fun H' e tx => ⟨t, vr, vc, vf, vg, rfl, e, hd.mono tx, hf.mono tx, hg.mono tx⟩) ha hb)
/-- put_in(e, n, quoted(v)) at work -/
theorem put_q {H : Hp} {n : Nm} {e t : Tr} {v vt : V} {Q : VK} (hok : okPut n e = true) (he : At H e v) (ht : At H t vt) (k : ∀ H' v', Same H H' → At H' (putIn n t e) v' → Q v' H') : spPutIn 8 [v, .str n.s, vt] H Q E0 := by
  obtain ⟨h1, h2⟩ := Bool.and_eq_true_iff.mp hok
  exact ⟨e, v, n, t, vt, rfl, he, ht, h1, of_decide_eq_true h2, k⟩
def spAnswer (K : PySem.W.Frag) : Sp := fun vs H Q _ => ∃ (H0 : Hp) (p c : Addr) (pl : Int) (vv vg : V) (st st' : PS) (pre : List PF) (r : Nm) (f : Tr) (o x kk : Nm) (g : Tr) (rest : List PF) (i : Int) (l : Nat),
  vs = [.ref p, .int pl, .ref c, vv] ∧ RunO (He.ga K "Run") H0 H p st ∧ st.fr = pre ++ .hd r f o x kk g :: rest ∧ pl = (rest.length : Int) ∧ H c = some (.tup [.str o.s, .str x.s, .str kk.s, vg]) ∧ At H g vg ∧ At H (.num i) vv ∧ x ≠ kk ∧ okPut x g = true ∧ okPut kk (putIn x (.quoted (.num i)) g) = true ∧
  ∀ H', RunO (He.ga K "Run") H0 H' p { st with cur := putIn kk (.quoted .kept) (putIn x (.quoted (.num i)) g), fr := rest } → Q .non H'
theorem rel2_drop {α : Type} {R : α → V → Prop} : ∀ {as bs : List α} {vs : List V}, Rel2 R (as ++ bs) vs → ∃ us ws, vs = us ++ ws ∧ us.length = as.length ∧ Rel2 R bs ws
  | [], _, _, h => ⟨[], _, rfl, rfl, h⟩
  | _ :: as, bs, _, .cons r t => by
    obtain ⟨us, ws, e, hl, h⟩ := rel2_drop (as := as) t
    exact ⟨_ :: us, ws, by rw [e]; rfl, congrArg Nat.succ hl, h⟩
theorem cut_tail {us ws : List V} {x : V} : cutV (us ++ x :: ws).reverse none (some ((ws.length : Nat) : Int)) = ws.reverse := by
  unfold cutV
  rw [HT.sIx_none, HT.sIx_nat, List.reverse_append, List.reverse_cons, List.append_assoc]
  simp
theorem ok_Run_answer (T : Fx K w mg) : FnOk P w K mg base CX0 11 (He.ma K (He.ga K "Run") "answer") (fdOf K ("Run", some "answer")) ["self", "place", "clause", "value"] (spAnswer K) := by
  have G_put_in := ok_put (P := P) (base := base) T 8
  have G_quoted := ok_quoted (P := P) (base := base) T
  refine T.Run_answer.F.ok sc_Run_answer (fun vs H Q E h => ?_) (fun cdv A outer s H vs Q E hr h => ?_)
  · obtain ⟨_, _, _, _, _, _, _, _, _, _, _, _, _, _, _, _, _, _, rfl, _⟩ := h
    rfl
  · obtain ⟨H0, p, c, pl, vv, vg, st, st', pre, r, f, o, x, kk, g, rest, i, l, rfl, ⟨dx, lf, lp, vc, ve, fs, R⟩, hfr, rfl, hc, hg, hv, hxk, ok1, ok2, k⟩ := h
    refine ⟨_, (pss_cons (ps_set (i := 4) sc_Run_answer.nd rfl (Or.inl rfl) (pe_tup (pa_cons pe_str (pa_cons (pe_callTy call_tuple_of (by rfl) T.n_tuple (by decide +kernel) (pa_cons (pe_slice sl_list (pe_fld (pv 0) rfl) (po_some (pv 1)) po_none) pa_nil)) pa_nil))))
      (pss_cons (ps_fld (pv 0) (pe_slice sl_list (pe_fld (pv 0) rfl) po_none (po_some (pv 1))) rfl)
      (pss_cons (ps_set (i := 5) sc_Run_answer.nd rfl (Or.inl rfl) (pe_ix ix_tup (pv 2) pe_int (fun _ _ => rfl)))
      (pss_cons (ps_if (pt_cmpR op_ne (pe_ix ix_tup (pv 2) pe_int (fun _ _ => rfl)) (pe_ix ix_tup (pv 2) pe_int (fun _ _ => rfl)) (nomark _))
        (pss_one (ps_set (i := 5) sc_Run_answer.nd rfl (Or.inl rfl) (pe_call G_put_in (hr.mono (by omega)) rfl T.put_in.m T.put_in.F.kp T.put_in.b .nil pass0 (pa_cons (pv 5) (pa_cons (pe_ix ix_tup (pv 2) pe_int (fun _ _ => rfl)) (pa_cons (pe_call G_quoted (hr.mono (by omega)) rfl T.quoted.m T.quoted.F.kp T.quoted.b .nil pass0 (pa_cons (pv 3) pa_nil)) pa_nil))))))
        pss_never)
      (pss_one (ps_fld (pv 0) (pe_call G_put_in (hr.mono (by omega)) rfl T.put_in.m T.put_in.F.kp T.put_in.b .nil pass0 (pa_cons (pv 5) (pa_cons (pe_ix ix_tup (pv 2) pe_int (fun _ _ => rfl)) (pa_cons (pe_call G_quoted (hr.mono (by omega)) rfl T.quoted.m T.quoted.F.kp T.quoted.b .nil pass0 (pa_cons (pv 4) pa_nil)) pa_nil)))) rfl)))))), ?_⟩
    have fa := R.fa
    rw [hfr] at fa
    obtain ⟨us, ws, rfl, hl, fa2⟩ := rel2_drop fa
    cases fa2 with
    | @cons _ vh _ vs2 rh rt =>
      rw [show rest.length = vs2.length from rt.len]
      have hO := R.ob
      walk_at "Run.frames"
      refine ⟨_, rfl, _, rfl, lf, _, rfl, SqL.of R.fr, fun q1 n1 => ?_⟩
      have s1 := same_new n1 (.lst (cutV (us ++ vh :: vs2).reverse (some (vs2.length : Int)) none))
      refine ⟨q1, _, rfl, .inl ⟨SqL.of upd_same, fun q2 n2 => ?_⟩⟩
      have s2 := same_new n2 (.tup (cutV (us ++ vh :: vs2).reverse (some (vs2.length : Int)) none))
      refine ⟨by show 2 ≤ sizeLine; decide, fun q3 n3 => ?_⟩
      have s3 := same_new n3 (.tup [V.str "kept", V.ref q2])
      have s13 := s1.trans (s2.trans s3)
      have R1 := R.ext s13
      have hO := R1.ob
      -- self.frames = self.frames[:place]
      walk_at "Run.frames"
      refine ⟨_, rfl, _, rfl, lf, _, rfl, SqL.of R1.fr, fun q4 n4 => ?_⟩
      rw [cut_tail]
      have s4 := same_new n4 (.lst vs2.reverse)
      have R2 := R1.ext s4
      refine wr_Run_frames T rfl R2.ob ?_
      have n04 : H0 q4 = none := R1.s0.free n4
      have npq : p ≠ q4 := ne_of_none R1.ob n4
      have nlq : lp ≠ q4 := ne_of_none R1.pr n4
      have t5 : Tx (upd _ q4 (.lst vs2.reverse)) (upd (upd _ q4 (.lst vs2.reverse)) p (.ins (He.ga K "Run") dx (flRun vc (.ref q4) (.int (st.left : Nat)) (.ref lp) ve))) := tx_ins R2.ob
      have tall := (Tx.same (s13.trans s4)).trans t5
      have R3 : RunAt (He.ga K "Run") H0 (upd (upd _ q4 (.lst vs2.reverse)) p (.ins (He.ga K "Run") dx (flRun vc (.ref q4) (.int (st.left : Nat)) (.ref lp) ve))) p { st with fr := rest } dx q4 lp vc ve vs2 :=
        ⟨same_upd R2.s0 R.np, R.np, n04, R.nq, nlq.symm, upd_same, by rw [upd_ne npq.symm]; exact upd_same, rt.mono fun _ _ z => z.mono tall, by rw [upd_ne (ne_il R.ob R.pr).symm]; exact R2.pr, R.pl, R.cu.mono tall, R.en.mono tall⟩
      have hc3 := tall _ _ hc
      have hg3 := hg.mono tall
      -- body = clause[3]; if clause[1] != clause[2]
      refine ⟨_, rfl, c, _, _, _, rfl, rfl, SqT.of hc3, rfl, ?_⟩
      refine ⟨_, rfl, c, _, _, _, rfl, rfl, SqT.of hc3, rfl, _, rfl, c, _, _, _, rfl, rfl, SqT.of hc3, rfl, rfl, _, rfl, br_t (by rw [Nm.dec, decide_eq_false hxk]; rfl) ?_⟩
      refine ⟨_, rfl, _, rfl, c, _, _, _, rfl, rfl, SqT.of hc3, rfl, _, rfl, vv, rfl, fun H4 u s4' hu => ?_⟩
      refine put_q (v := vg) ok1 (hg3.mono (.same s4')) (show At H4 (.quoted (.num i)) (.ref u) from ⟨u, vv, rfl, hu, (hv.mono tall).mono (.same s4')⟩) fun H5 b5 s5 h5 => ?_
      -- self.current = put_in(body, clause[2], quoted(kept))
      refine ⟨_, rfl, _, rfl, c, _, _, _, rfl, rfl, SqT.of (s5 _ _ (s4' _ _ hc3)), rfl, _, rfl, _, rfl, fun H6 u6 s6 hu6 => ?_⟩
      refine put_q (v := b5) ok2 (h5.mono (.same s6)) (show At H6 (.quoted .kept) (.ref u6) from ⟨u6, _, rfl, hu6, trivial⟩) fun H7 b7 s7 h7 => ?_
      have R7 := R3.ext (s4'.trans (s5.trans (s6.trans s7)))
      refine wr_Run_current T rfl R7.ob (R := fun H' => Q .non H') ?_
      exact k _ ⟨dx, q4, lp, b7, ve, _, R7.set (l := st.left) h7 R7.en⟩
end
end AF

namespace AF
open PySem PySem.Spec PyProof.Rows L2
local macro_rules | `(tactic| walk_at "skip") => `(tactic| repeat (refine ⟨_, rfl, rfl, _, rfl, br_f (by decide +kernel) ?_⟩))
local macro_rules | `(tactic| walk_at "hit") => `(tactic| refine ⟨_, rfl, rfl, _, rfl, br_t (by decide +kernel) ?_⟩)
local macro_rules | `(tactic| walk_at "or2") => `(tactic| refine ⟨_, rfl, rfl, _, rfl, br_f (by decide +kernel) ⟨_, rfl, rfl, _, rfl, br_f (by decide +kernel) ?_⟩⟩)
set_option hygiene false in
local macro_rules | `(tactic| walk_at "Run.current") => `(tactic| refine ⟨_, rfl, _, _, _, _, _, rfl, hO, T.Run.cl, T.na_Run_current, lk_Run_current, ?_⟩)
set_option hygiene false in
local macro_rules | `(tactic| walk_at "Run.frames") => `(tactic| refine ⟨_, rfl, _, _, _, _, _, rfl, hO, T.Run.cl, T.na_Run_frames, lk_Run_frames, ?_⟩)
set_option hygiene false in
local macro_rules | `(tactic| walk_at "Run.left") => `(tactic| refine ⟨_, rfl, _, _, _, _, _, rfl, hO, T.Run.cl, T.na_Run_left, lk_Run_left, ?_⟩)
set_option hygiene false in
local macro_rules | `(tactic| walk_at "Run.prints") => `(tactic| refine ⟨_, rfl, _, _, _, _, _, rfl, hO, T.Run.cl, T.na_Run_prints, lk_Run_prints, ?_⟩)
set_option hygiene false in
local macro_rules | `(tactic| walk_at "Run.end") => `(tactic| refine ⟨_, rfl, _, _, _, _, _, rfl, hO, T.Run.cl, T.na_Run_end, lk_Run_end, ?_⟩)
set_option hygiene false in
local macro_rules | `(tactic| walk_at "Machine.left") => `(tactic| refine ⟨_, rfl, _, _, _, _, _, rfl, hO, T.Machine.cl, T.na_Machine_left, lk_Machine_left, ?_⟩)
set_option hygiene false in
local macro_rules | `(tactic| walk_at "Machine.prints") => `(tactic| refine ⟨_, rfl, _, _, _, _, _, rfl, hO, T.Machine.cl, T.na_Machine_prints, lk_Machine_prints, ?_⟩)
set_option hygiene false in
local macro_rules | `(tactic| walk_at "Machine.pieces") => `(tactic| refine ⟨_, rfl, _, _, _, _, _, rfl, hO, T.Machine.cl, T.na_Machine_pieces, lk_Machine_pieces, ?_⟩)
set_option hygiene false in
local macro_rules | `(tactic| walk_at "Machine.kept") => `(tactic| refine ⟨_, rfl, _, _, _, _, _, rfl, hO, T.Machine.cl, T.na_Machine_kept, lk_Machine_kept, ?_⟩)
set_option hygiene false in
local macro_rules | `(tactic| walk_at "Machine.most") => `(tactic| refine ⟨_, rfl, _, _, _, _, _, rfl, hO, T.Machine.cl, T.na_Machine_most, lk_Machine_most, ?_⟩)
set_option hygiene false in
local macro_rules | `(tactic| walk_at "Piece.kind") => `(tactic| refine ⟨_, rfl, _, _, _, _, _, rfl, hO, T.Piece.cl, T.na_Piece_kind, lk_Piece_kind, ?_⟩)
set_option hygiene false in
local macro_rules | `(tactic| walk_at "Piece.handler") => `(tactic| refine ⟨_, rfl, _, _, _, _, _, rfl, hO, T.Piece.cl, T.na_Piece_handler, lk_Piece_handler, ?_⟩)
set_option hygiene false in
local macro_rules | `(tactic| walk_at "Piece.frames") => `(tactic| refine ⟨_, rfl, _, _, _, _, _, rfl, hO, T.Piece.cl, T.na_Piece_frames, lk_Piece_frames, ?_⟩)
set_option hygiene false in
local macro_rules | `(tactic| walk_at "Piece.distance") => `(tactic| refine ⟨_, rfl, _, _, _, _, _, rfl, hO, T.Piece.cl, T.na_Piece_distance, lk_Piece_distance, ?_⟩)
set_option hygiene false in
local macro_rules | `(tactic| walk_at "Piece.table") => `(tactic| refine ⟨_, rfl, _, _, _, _, _, rfl, hO, T.Piece.cl, T.na_Piece_table, lk_Piece_table, ?_⟩)
set_option hygiene false in
local macro_rules | `(tactic| walk_at "Runner.blocks") => `(tactic| refine ⟨_, rfl, _, _, _, _, _, rfl, hO, T.Runner.cl, T.na_Runner_blocks, lk_Runner_blocks, ?_⟩)
set_option hygiene false in
local macro_rules | `(tactic| walk_at "Runner.left") => `(tactic| refine ⟨_, rfl, _, _, _, _, _, rfl, hO, T.Runner.cl, T.na_Runner_left, lk_Runner_left, ?_⟩)
set_option hygiene false in
local macro_rules | `(tactic| walk_at "Runner.prints") => `(tactic| refine ⟨_, rfl, _, _, _, _, _, rfl, hO, T.Runner.cl, T.na_Runner_prints, lk_Runner_prints, ?_⟩)
set_option hygiene false in
local macro_rules | `(tactic| walk_at "Runner.kept") => `(tactic| refine ⟨_, rfl, _, _, _, _, _, rfl, hO, T.Runner.cl, T.na_Runner_kept, lk_Runner_kept, ?_⟩)
set_option hygiene false in
local macro_rules | `(tactic| walk_at "Runner.end") => `(tactic| refine ⟨_, rfl, _, _, _, _, _, rfl, hO, T.Runner.cl, T.na_Runner_end, lk_Runner_end, ?_⟩)
set_option hygiene false in
local macro_rules | `(tactic| walk_at "Runner.pieces") => `(tactic| refine ⟨_, rfl, _, _, _, _, _, rfl, hO, T.Runner.cl, T.na_Runner_pieces, lk_Runner_pieces, ?_⟩)
set_option hygiene false in
local macro_rules | `(tactic| walk_at "Runner.rows") => `(tactic| refine ⟨_, rfl, _, _, _, _, _, rfl, hO, T.Runner.cl, T.na_Runner_rows, lk_Runner_rows, ?_⟩)
set_option hygiene false in
local macro_rules | `(tactic| walk_at "Runner.at") => `(tactic| refine ⟨_, rfl, _, _, _, _, _, rfl, hO, T.Runner.cl, T.na_Runner_at, lk_Runner_at, ?_⟩)
set_option hygiene false in
local macro_rules | `(tactic| walk_at "Runner.bindings") => `(tactic| refine ⟨_, rfl, _, _, _, _, _, rfl, hO, T.Runner.cl, T.na_Runner_bindings, lk_Runner_bindings, ?_⟩)
set_option hygiene false in
local macro_rules | `(tactic| walk_at "Runner.operands") => `(tactic| refine ⟨_, rfl, _, _, _, _, _, rfl, hO, T.Runner.cl, T.na_Runner_operands, lk_Runner_operands, ?_⟩)
set_option hygiene false in
local macro_rules | `(tactic| walk_at "Code.blocks") => `(tactic| refine ⟨_, rfl, _, _, _, _, _, rfl, hO, T.Code.cl, T.na_Code_blocks, lk_Code_blocks, ?_⟩)
set_option hygiene false in
local macro_rules | `(tactic| walk_at "Compiler.blocks") => `(tactic| refine ⟨_, rfl, _, _, _, _, _, rfl, hO, T.Compiler.cl, T.na_Compiler_blocks, lk_Compiler_blocks, ?_⟩)
set_option hygiene false in
local macro_rules | `(tactic| walk_at "Compiler.queue") => `(tactic| refine ⟨_, rfl, _, _, _, _, _, rfl, hO, T.Compiler.cl, T.na_Compiler_queue, lk_Compiler_queue, ?_⟩)
def PF.h : PF → Str
  | .lt .. => "let" | .op .. => "op" | .op2 .. => "op2" | .ask _ => "ask" | .print _ => "print" | .hd .. => "handle"
theorem pf_head {H : Hp} {f : PF} {v : V} (h : PFAt H f v) : ∃ q rest, v = .ref q ∧ H q = some (.tup (.str f.h :: rest)) := by
  cases f with
  | lt => obtain ⟨p, _, e, h, _⟩ := h; exact ⟨p, _, e, h⟩
  | op => obtain ⟨p, _, e, h, _⟩ := h; exact ⟨p, _, e, h⟩
  | op2 => obtain ⟨p, _, e, h, _⟩ := h; exact ⟨p, _, e, h⟩
  | ask => obtain ⟨p, e, h⟩ := h; exact ⟨p, _, e, h⟩
  | print => obtain ⟨p, _, e, h, _⟩ := h; exact ⟨p, _, e, h⟩
  | hd => obtain ⟨p, _, _, _, _, e, h, _⟩ := h; exact ⟨p, _, e, h⟩
def isHd : PF → Bool
  | .hd .. => true
  | _ => false
theorem PF.hdec (f : PF) : decide (V.str f.h = V.str "handle") = isHd f := by
  cases f with
  | lt => exact (show decide (V.str ("let" : Str) = V.str "handle") = false by decide +kernel)
  | op => exact (show decide (V.str ("op" : Str) = V.str "handle") = false by decide +kernel)
  | op2 => exact (show decide (V.str ("op2" : Str) = V.str "handle") = false by decide +kernel)
  | ask => exact (show decide (V.str ("ask" : Str) = V.str "handle") = false by decide +kernel)
  | print => exact (show decide (V.str ("print" : Str) = V.str "handle") = false by decide +kernel)
  | hd => exact (show decide (V.str ("handle" : Str) = V.str "handle") = true by decide +kernel)
theorem atI_rev {fs : List V} {i : Nat} {v : V} {z : Int} (h : fs[i]? = some v) (hz : z = (fs.reverse.length : Int) - 1 - i) : atI fs.reverse z = some v := by
  have hi : i < fs.length := (List.getElem?_eq_some_iff.mp h).1
  rw [List.length_reverse] at hz
  have e : z = ((fs.length - 1 - i : Nat) : Int) := by omega
  rw [e]
  refine atI_nat ?_
  rw [List.getElem?_reverse (by omega), show fs.length - 1 - (fs.length - 1 - i) = i by omega]
  exact h
theorem rel2_at {α : Type} {R : α → V → Prop} : ∀ {as bs : List α} {a : α} {vs : List V}, Rel2 R (as ++ a :: bs) vs → ∃ v, vs[as.length]? = some v ∧ R a v
  | [], _, _, _, .cons r _ => ⟨_, rfl, r⟩
  | _ :: as, bs, a, _, .cons _ t => by
    obtain ⟨v, h, r⟩ := rel2_at (as := as) t
    exact ⟨v, by simpa using h, r⟩
section
variable {P : Program} {w : World} {K : PySem.W.Frag} {mg : Str → Option Value} {base : Heap}
def spAsk (K : PySem.W.Frag) : Sp := fun vs H Q _ => ∃ (H0 : Hp) (p : Addr) (vv : V) (st st' : PS) (o : Nm) (i : Int), vs = [.ref p, .str o.s, vv] ∧ RunO (He.ga K "Run") H0 H p st ∧ st.cur = .num i ∧ At H (.num i) vv ∧ askM st o i st.fr = some st' ∧
  ∀ H', RunO (He.ga K "Run") H0 H' p st' → Q .non H'
theorem ok_Run_ask (T : Fx K w mg) : FnOk P w K mg base CX0 12 (He.ma K (He.ga K "Run") "ask") (fdOf K ("Run", some "ask")) ["self", "name", "value"] (spAsk K) := by
  have G_Run_counted := ok_Run_counted (P := P) (base := base) T
  have G_Run_answer := ok_Run_answer (P := P) (base := base) T
  refine T.Run_ask.F.ok sc_Run_ask (fun vs H Q E h => ?_) (fun cdv A outer s H vs Q E hr h => ?_)
  · obtain ⟨_, _, _, _, _, _, _, rfl, _⟩ := h
    rfl
  · obtain ⟨H0, p, vv, st, st', o, i, rfl, ⟨dx, lf, lp, vc, ve, fs, R⟩, hcu, hv, ha, k⟩ := h
    refine ⟨_, (pss_cons (ps_if (pt_not (pt_val (pe_meth0 (pv 0) T.Run.cl T.Run_counted.m G_Run_counted (hr.mono (by omega)) T.Run_counted.b .nil pass0)))
        (pss_one ps_retN)
        pss_nil)
      (pss_cons (ps_for PassesOwn.never rfl (pi_revR (by rfl) T.n_reversed (prg_1 (by rfl) T.n_range (pe_callB call_len_seq (by rfl) T.n_len (by decide +kernel) (pa_cons (pe_fld (pv 0) rfl) pa_nil)))) (pg_name (i := 3) sc_Run_ask.nd rfl (Or.inl rfl))
        (pss_cons (ps_set (i := 4) sc_Run_ask.nd rfl (Or.inl rfl) (pe_ix ix_list (pe_fld (pv 0) rfl) (pv 3) (fun _ _ => rfl)))
        (pss_one (ps_if (pt_cmpR op_eq (pe_ix ix_tup (pv 4) pe_int (fun _ _ => rfl)) pe_str (nomark _))
          (pss_one (ps_for PassesOwn.never rfl (pi_tup (pe_ix ix_tup (pv 4) pe_int (fun _ _ => rfl))) (pg_name (i := 5) sc_Run_ask.nd rfl (Or.inl rfl))
            (pss_one (ps_if (pt_cmpR op_eq (pe_ix ix_tup (pv 5) pe_int (fun _ _ => rfl)) (pv 1) (nomark _))
              (pss_cons (ps_expr (pe_meth (pv 0) T.Run.cl T.Run_answer.m G_Run_answer (hr.mono (by omega)) T.Run_answer.b .nil pass0 (pa_cons (pv 3) (pa_cons (pv 5) (pa_cons (pv 2) pa_nil)))))
              (pss_one ps_retN))
              pss_nil))))
          pss_nil))))
      (pss_one (ps_fld (pv 0) (pe_tup (pa_cons pe_str (pa_cons (pv 1) pa_nil))) rfl)))), ?_⟩
    unfold askM at ha
    obtain ⟨hlen, ha⟩ := gd ha
    have hfl : fs.length ≤ 900 := by rw [← R.fa.len]; omega
    cases hl : st.left with
    | zero => rw [hl] at ha; cases ha
    | succ l =>
      rw [hl] at ha
      have hO := R.ob
      rw [hl] at hO
      refine ⟨_, rfl, p, dx, _, rfl, hO, no_Run_counted, p, dx, _, _, l, _, _, rfl, hO, _, rfl, br_f rfl ?_⟩
      have R1 := R.set (c := st.cur) (l := l) (e := st.en) R.cu R.en
      generalize hH1 : upd H p (.ins (He.ga K "Run") dx (flRun vc (.ref lf) (.int (l : Nat)) (.ref lp) ve)) = H1 at R1
      have t1 : Tx H H1 := by rw [← hH1]; exact tx_ins R.ob
      have hO := R1.ob
      have hv1 := hv.mono t1
      walk_at "Run.frames"
      refine ⟨lf, _, rfl, .inl (SqL.of R1.fr), _, rfl, by decide, by decide, by rw [List.length_reverse]; omega, by rw [List.length_reverse]; omega, ?_⟩
      refine for_rangeC (fun i' σ H' => H1 = H' ∧ (∃ o1 o2 o3, σ = [some (.ref p), some (.str o.s), some vv, o1, o2, o3]) ∧ ∃ pre rest, st.fr = pre ++ rest ∧ pre.length = i' ∧ findM st.fr = findM rest)
        ⟨rfl, ⟨none, none, none, rfl⟩, [], st.fr, rfl, rfl, rfl⟩ ?_ ?_
      · rintro j σ H' hj ⟨rfl, ⟨o1, o2, o3, rfl⟩, pre, rest, hfr, hpre, hfind⟩
        have hfa := R1.fa
        have hfr1 : (⟨st.cur, st.fr, l, st.out, st.room, st.en⟩ : PS).fr = pre ++ rest := hfr
        cases rest with
        | nil =>
          have : fs.length = j := by rw [← R.fa.len, hfr, List.append_nil, hpre]
          rw [List.length_reverse] at hj
          omega
        | cons f rest =>
          rw [hfr1] at hfa
          obtain ⟨v, hvj, rv⟩ := rel2_at hfa
          rw [hpre] at hvj
          have hat := atI_rev (z := 0 + ((((fs.reverse.length : Nat) : Int) - 0).toNat : Nat) - 1 + ((j : Nat) : Int) * (-1)) hvj (by omega)
          walk_at "Run.frames"
          refine ⟨_, rfl, lf, _, _, v, rfl, rfl, SqL.of R1.fr, hat, ?_⟩
          obtain ⟨q, rst, rfl, hq⟩ := pf_head rv
          refine ⟨_, rfl, q, _, _, _, rfl, rfl, SqT.of hq, atI_nat (j := 0) rfl, rfl, _, rfl, ?_⟩
          cases f with
          | hd r f o' x kk g =>
            refine br_t (PF.hdec (.hd r f o' x kk g)) ?_
            obtain ⟨q', vr, vc2, vf, vg, e1, hq2, ⟨qr, c, d, rfl, rfl, h1, h2, h3⟩, hf, hg⟩ := rv
            cases e1
            rw [hfind] at ha
            obtain ⟨⟨ho, hxk, ok1, ok2⟩, est⟩ := gd2 (show (if o = o' ∧ x ≠ kk ∧ okPut x g = true ∧ okPut kk (putIn x (.quoted (.num i)) g) = true then some { st with cur := putIn kk (.quoted .kept) (putIn x (.quoted (.num i)) g), fr := rest, left := l } else none) = some st' from ha)
            subst ho
            refine ⟨_, rfl, q, _, _, _, rfl, rfl, SqT.of hq2, rfl, c, rfl, ⟨_, SqT.of h2⟩, ?_⟩
            refine for_tup (K := K) (a := c) (xs := [.ref d]) (fun i' σ H' => i' = 0 ∧ H1 = H' ∧ ∃ o1, σ = [some (.ref p), some (.str o.s), some vv, some (.int (0 + ((((fs.reverse.length : Nat) : Int) - 0).toNat : Nat) - 1 + ((j : Nat) : Int) * (-1))), some (.ref q), o1])
              ⟨rfl, rfl, _, rfl⟩ (fun i' σ H' _ ⟨_, e, _⟩ => by rw [← e]; exact SqT.of h2) ?_ (fun σ H' ⟨e, _⟩ => absurd e (by show ¬ (1 = 0); decide))
            rintro i' y σ H' hy ⟨rfl, rfl, o4, rfl⟩
            have ey : y = .ref d := by simpa using hy.symm
            subst ey
            refine ⟨_, rfl, d, _, _, _, rfl, rfl, SqT.of h3, rfl, _, rfl, rfl, _, rfl, br_t (by rw [Nm.dec]; exact decide_eq_true rfl) ?_⟩
            refine ⟨_, rfl, p, dx, _, rfl, R1.ob, no_Run_answer, _, rfl, _, rfl, _, rfl, ?_⟩
            refine ⟨H0, p, d, _, vv, vg, ⟨st.cur, st.fr, l, st.out, st.room, st.en⟩, st', pre, r, f, o, x, kk, g, rest, i, l, rfl, ⟨dx, lf, lp, vc, ve, fs, R1⟩, hfr, ?_, h3, hg, hv1, hxk, ok1, ok2, fun H2 R2 => ?_⟩
            · have : fs.length = pre.length + (rest.length + 1) := by rw [← R.fa.len, hfr, List.length_append, List.length_cons]
              rw [List.length_reverse]
              omega
            · cases est
              exact k H2 R2
          | _ =>
            refine br_f (PF.hdec _) ?_
            refine ⟨rfl, ⟨_, _, _, rfl⟩, pre ++ [_], rest, by rw [hfr, List.append_assoc]; rfl, by simp [hpre], ?_⟩
            rw [hfind]
            rfl
      · rintro σ H' ⟨rfl, ⟨o1, o2, o3, rfl⟩, pre, rest, hfr, hpre, hfind⟩
        have hr0 : rest = [] := by
          have : fs.length = pre.length + rest.length := by rw [← R.fa.len, hfr, List.length_append]
          rw [List.length_reverse] at hpre
          cases rest with
          | nil => rfl
          | cons _ _ => rw [List.length_cons] at this; omega
        subst hr0
        rw [hfind] at ha
        have est : some { st with cur := .num i, fr := st.fr, left := l, en := some (.unh o) } = some st' := ha
        refine ⟨_, rfl, by show 2 ≤ sizeLine; decide, fun t nt => ?_⟩
        have s1 := same_new nt (.tup [V.str "unhandled", V.str o.s])
        have R2 := R1.ext s1
        refine wr_Run_end T rfl R2.ob (R := fun H' => Q .non H') ?_
        rw [← hcu] at est
        cases est
        exact k _ ⟨dx, lf, lp, vc, _, fs, R2.set (c := st.cur) (l := l) (e := some (.unh o)) (ve' := .ref t) R2.cu ⟨t, rfl, upd_same⟩⟩
def spGoOn (K : PySem.W.Frag) : Sp := fun vs H Q _ => ∃ (H0 : Hp) (p : Addr) (st st' : PS) (i : Int), vs = [.ref p] ∧ RunO (He.ga K "Run") H0 H p st ∧ st.cur = .num i ∧ goOnM st = some st' ∧ ∀ H', RunO (He.ga K "Run") H0 H' p st' → Q .non H'
theorem ok_Run_go_on (T : Fx K w mg) : FnOk P w K mg base CX0 13 (He.ma K (He.ga K "Run") "go_on") (fdOf K ("Run", some "go_on")) ["self"] (spGoOn K) := by
  have G_put_in := ok_put (P := P) (base := base) T 8
  have G_quoted := ok_quoted (P := P) (base := base) T
  have G_shape := ok_shape (P := P) (base := base) T
  have G_operated := ok_op (P := P) (base := base) T
  have G_Run_ask := ok_Run_ask (P := P) (base := base) T
  refine T.Run_go_on.F.ok sc_Run_go_on (fun vs H Q E h => ?_) (fun cdv A outer s H vs Q E hr h => ?_)
  · obtain ⟨_, _, _, _, _, rfl, _⟩ := h
    rfl
  · obtain ⟨H0, p, st, st', i, rfl, ⟨dx, lf, lp, vc, ve, fs, R⟩, hc, hb, k⟩ := h
    refine ⟨_, (pss_cons (ps_if (pt_not (pt_truth (pe_fld (pv 0) rfl) (by intro _; rfl)))
        (pss_cons (ps_fld (pv 0) (pe_tup (pa_cons pe_str (pa_cons (pe_call G_shape (hr.mono (by omega)) rfl T.shape.m T.shape.F.kp T.shape.b .nil pass0 (pa_cons (pe_fld (pv 0) rfl) pa_nil)) pa_nil))) rfl)
        (pss_one ps_retN))
        pss_nil)
      (pss_cons (ps_set (i := 1) sc_Run_go_on.nd rfl (Or.inl rfl) (pe_bm0 PySem.F.plainAttrs_list PySem.F.slot_list_pop PySem.F.type_list_pop mt_pop (pe_fld (pv 0) rfl)))
      (pss_cons (ps_set (i := 2) sc_Run_go_on.nd rfl (Or.inl rfl) (pe_fld (pv 0) rfl))
      (pss_cons (ps_set (i := 3) sc_Run_go_on.nd rfl (Or.inl rfl) (pe_ix ix_tup (pv 1) pe_int (fun _ _ => rfl)))
      (pss_one (ps_if (PW.pt (pw_or (pt_cmpR op_eq (pv 3) pe_str (nomark _)) (pw_or1 (pt_cmpR op_eq (pv 3) pe_str (nomark _)))))
        pss_never
        (pss_one (ps_if (pt_cmpR op_eq (pv 3) pe_str (nomark _))
          (pss_cons (ps_expr (pe_bm PySem.F.plainAttrs_list PySem.F.slot_list_append PySem.F.type_list_append mt_append (pe_fld (pv 0) rfl) (pa_cons (pe_tup (pa_cons pe_str (pa_cons (pe_ix ix_tup (pv 1) pe_int (fun _ _ => rfl)) (pa_cons (pv 2) pa_nil)))) pa_nil)))
          (pss_one (ps_fld (pv 0) (pe_ix ix_tup (pv 1) pe_int (fun _ _ => rfl)) rfl)))
          (pss_one (ps_if (pt_cmpR op_eq (pv 3) pe_str (nomark _))
            pss_never
            (pss_one (ps_if (pt_cmpR op_eq (pv 3) pe_str (nomark _))
              pss_never
              (pss_one (ps_if (pt_cmpR op_eq (pv 3) pe_str (nomark _))
                (pss_one (ps_fld (pv 0) (pe_call G_operated (hr.mono (by omega)) rfl T.operated.m T.operated.F.kp T.operated.b .nil pass0 (pa_cons (pe_ix ix_tup (pv 1) pe_int (fun _ _ => rfl)) (pa_cons (pe_ix ix_tup (pe_ix ix_tup (pv 1) pe_int (fun _ _ => rfl)) pe_int (fun _ _ => rfl)) (pa_cons (pe_ix ix_tup (pv 2) pe_int (fun _ _ => rfl)) pa_nil)))) rfl))
                (pss_one (ps_if (pt_cmpR op_eq (pv 3) pe_str (nomark _))
                  (pss_one (ps_fld (pv 0) (pe_call G_put_in (hr.mono (by omega)) rfl T.put_in.m T.put_in.F.kp T.put_in.b .nil pass0 (pa_cons (pe_ix ix_tup (pv 1) pe_int (fun _ _ => rfl)) (pa_cons (pe_ix ix_tup (pv 1) pe_int (fun _ _ => rfl)) (pa_cons (pe_call G_quoted (hr.mono (by omega)) rfl T.quoted.m T.quoted.F.kp T.quoted.b .nil pass0 (pa_cons (pv 2) pa_nil)) pa_nil)))) rfl))
                  (pss_one (ps_if (pt_cmpR op_eq (pv 3) pe_str (nomark _))
                    pss_never
                    (pss_one (ps_if (pt_cmpR op_eq (pv 3) pe_str (nomark _))
                      (pss_cons (ps_expr (pe_bm PySem.F.plainAttrs_list PySem.F.slot_list_append PySem.F.type_list_append mt_append (pe_fld (pv 0) rfl) (pa_cons (pe_ix ix_tup (pv 2) pe_int (fun _ _ => rfl)) pa_nil)))
                      (pss_one (ps_fld (pv 0) (pe_ix ix_tup (pv 1) pe_int (fun _ _ => rfl)) rfl)))
                      (pss_one (ps_if (pt_cmpR op_eq (pv 3) pe_str (nomark _))
                        (pss_one (ps_expr (pe_meth (pv 0) T.Run.cl T.Run_ask.m G_Run_ask (hr.mono (by omega)) T.Run_ask.b .nil pass0 (pa_cons (pe_ix ix_tup (pv 1) pe_int (fun _ _ => rfl)) (pa_cons (pv 2) pa_nil)))))
                        (pss_one (ps_if (pt_cmpR op_eq (pv 3) pe_str (nomark _))
                          (pss_one (ps_fld (pv 0) (pe_call G_put_in (hr.mono (by omega)) rfl T.put_in.m T.put_in.F.kp T.put_in.b .nil pass0 (pa_cons (pe_ix ix_tup (pe_ix ix_tup (pv 1) pe_int (fun _ _ => rfl)) pe_int (fun _ _ => rfl)) (pa_cons (pe_ix ix_tup (pe_ix ix_tup (pv 1) pe_int (fun _ _ => rfl)) pe_int (fun _ _ => rfl)) (pa_cons (pe_call G_quoted (hr.mono (by omega)) rfl T.quoted.m T.quoted.F.kp T.quoted.b .nil pass0 (pa_cons (pv 2) pa_nil)) pa_nil)))) rfl))
                          pss_never)))))))))))))))))))))))), ?_⟩
    have npl := ne_il R.ob R.fr
    have hO := R.ob
    have cu := R.cu
    rw [hc] at cu
    obtain ⟨qc, rfl, hqc⟩ := id cu
    have fa := R.fa
    cases hfr : st.fr with
    | nil =>
      rw [hfr] at fa
      cases fa
      have est : some { st with en := some (.val i) } = some st' := by
        unfold goOnM at hb
        rw [hc, hfr] at hb
        rw [hc, hfr]
        exact hb
      walk_at "Run.frames"
      refine ⟨_, .inl ⟨_, SqL.of R.fr, rfl⟩, br_t rfl ?_⟩
      refine ⟨_, rfl, p, _, dx, _, _, rfl, hO, T.Run.cl, T.na_Run_current, lk_Run_current, qc, i, rfl, hqc, fun H1 u s1 hu => ⟨by show 2 ≤ sizeLine; decide, fun t nt => ?_⟩⟩
      have s2 := s1.trans (same_new nt (.tup [V.str "value", V.ref u]))
      have R1 := R.ext s2
      refine wr_Run_end T rfl R1.ob (R := fun H' => Q .non H') ?_
      cases est
      exact k _ ⟨dx, lf, lp, _, _, _, R1.set (c := st.cur) (l := st.left) (e := some (.val i)) (ve' := .ref t) R1.cu ⟨t, u, rfl, upd_same, by rw [upd_ne (ne_of_none hu nt)]; exact hu⟩⟩
    | cons f fr =>
      rw [hfr] at fa
      cases fa with
      | @cons _ vf _ fs2 rf rt =>
      have hf : H lf = some (.lst (fs2.reverse ++ [vf])) := by
        rw [← rev_cons]
        exact R.fr
      walk_at "Run.frames"
      refine ⟨_, .inl ⟨_, SqL.of hf, rfl⟩, br_f (by simp) ?_⟩
      walk_at "Run.frames"
      refine ⟨.inl ⟨rfl, _, SqL.of hf⟩, lf, _, _, rfl, rfl, hf, rev_last, ?_⟩
      rw [List.dropLast_concat]
      have R1 := R.frs (fr := fr) (fs' := fs2) rt
      have t1 : Tx H (upd H lf (.lst fs2.reverse)) := tx_lst R.fr
      generalize upd H lf (.lst fs2.reverse) = H1 at R1 t1
      have rf1 := rf.mono t1
      have rt1 := rt.mono fun a v z => PFAt.mono t1 z
      have cu1 := cu.mono t1
      have hqc1 := t1 _ _ hqc
      have hO := R1.ob
      walk_at "Run.current"
      cases f with
      | op2 sg j =>
        have hb2 : ∃ z, (sg = .mul → i = 2) ∧ z = opv sg j i ∧ st' = { st with cur := .num z, fr := fr } := by
          unfold goOnM at hb
          rw [hc, hfr] at hb
          cases sg with
          | add =>
            refine ⟨_, (fun z => nomatch z), rfl, ?_⟩
            exact (Option.some.inj (show some { st with cur := .num (opv .add j i), fr := fr } = some st' from hb)).symm
          | mul =>
            obtain ⟨z, e⟩ := gd2 (show (if i = 2 then some { st with cur := .num (opv .mul j i), fr := fr } else none) = some st' from hb)
            exact ⟨_, fun _ => z, rfl, (Option.some.inj e).symm⟩
        obtain ⟨z, h2, rfl, rfl⟩ := hb2
        obtain ⟨q, u, rfl, hq, hu⟩ := rf1
        refine ⟨_, rfl, q, _, _, _, rfl, rfl, SqT.of hq, rfl, ?_⟩
        walk_at "or2"
        walk_at "skip"
        walk_at "hit"
        refine ⟨_, rfl, q, _, _, _, rfl, rfl, SqT.of hq, rfl, _, rfl, q, _, _, _, rfl, rfl, SqT.of hq, rfl, u, _, _, _, rfl, rfl, SqT.of hu, rfl, _, rfl, qc, _, _, _, rfl, rfl, SqT.of hqc1, rfl, sg, j, i, rfl, h2, fun H2 t s2 ht => ?_⟩
        have R2 := R1.ext s2
        refine wr_Run_current T rfl R2.ob (R := fun H' => Q .non H') ?_
        exact k _ ⟨dx, lf, lp, _, _, _, R2.set (c := .num (opv sg j i)) (l := st.left) (e := st.en) ⟨t, rfl, ht⟩ R2.en⟩
      | op sg b =>
        have hb2 : pushM st b (.op2 sg i) fr = some st' := by
          unfold goOnM at hb
          rw [hc, hfr] at hb
          exact hb
        obtain ⟨q, vb, rfl, hq, hB⟩ := rf1
        refine ⟨_, rfl, q, _, _, _, rfl, rfl, SqT.of hq, rfl, ?_⟩
        walk_at "or2"
        walk_at "hit"
        walk_at "Run.frames"
        refine ⟨.inl ⟨rfl, _, SqL.of R1.fr⟩, _, rfl, q, _, _, _, rfl, rfl, SqT.of hq, rfl, _, rfl, by show 3 ≤ sizeLine; decide, fun t nt => ?_⟩
        have s2 := same_new nt (.tup [V.str "op2", V.str sg.s, V.ref qc])
        refine ⟨lf, _, _, rfl, rfl, s2 _ _ R1.fr, push_len (st := { st with fr := fr }) hb2 rt1, ?_⟩
        refine ⟨_, rfl, q, _, _, _, rfl, rfl, SqT.of (by rw [upd_ne (ne_tl hq R1.fr)]; exact s2 _ _ hq), rfl, wr_Run_current T rfl (by rw [upd_ne npl]; exact s2 _ _ R1.ob) (R := fun H' => Q .non H') ?_⟩
        exact k _ (R1.push (f := .op2 sg i) nt (fun H' e tx => ⟨t, qc, rfl, e, tx _ _ hqc1⟩) hB hb2)
      | lt x b =>
        obtain ⟨hok, est⟩ := gd2 (show (if okPut x b = true then some { st with cur := putIn x (.quoted (.num i)) b, fr := fr } else none) = some st' by
          unfold goOnM at hb
          rw [hc, hfr] at hb
          exact hb)
        cases est
        obtain ⟨q, vb, rfl, hq, hB⟩ := rf1
        refine ⟨_, rfl, q, _, _, _, rfl, rfl, SqT.of hq, rfl, ?_⟩
        walk_at "or2"
        walk_at "skip"
        walk_at "hit"
        refine ⟨_, rfl, q, _, _, _, rfl, rfl, SqT.of hq, rfl, _, rfl, q, _, _, _, rfl, rfl, SqT.of hq, rfl, _, rfl, _, rfl, fun H2 u s2 hu => ?_⟩
        refine put_q (v := vb) hok (hB.mono (.same s2)) (show At H2 (.quoted (.num i)) (.ref u) from ⟨u, _, rfl, hu, cu1.mono (.same s2)⟩) fun H3 b3 s3 h3 => ?_
        have R2 := R1.ext (s2.trans s3)
        refine wr_Run_current T rfl R2.ob (R := fun H' => Q .non H') ?_
        exact k _ ⟨dx, lf, lp, _, _, _, R2.set (l := st.left) (e := st.en) h3 R2.en⟩
      | print b =>
        cases hroom : st.room with
        | zero =>
          unfold goOnM at hb
          rw [hc, hfr, hroom] at hb
          cases hb
        | succ r =>
          have est : some { st with cur := b, fr := fr, out := st.out ++ [i], room := r } = some st' := by
            unfold goOnM at hb
            rw [hc, hfr, hroom] at hb
            exact hb
          cases est
          obtain ⟨q, vb, rfl, hq, hB⟩ := rf1
          refine ⟨_, rfl, q, _, _, _, rfl, rfl, SqT.of hq, rfl, ?_⟩
          walk_at "or2"
          walk_at "skip"
          walk_at "hit"
          have pl := R1.pl
          walk_at "Run.prints"
          refine ⟨.inl ⟨rfl, _, SqL.of R1.pr⟩, _, rfl, qc, _, _, _, rfl, rfl, SqT.of hqc1, rfl, lp, _, _, rfl, rfl, R1.pr, ?_, ?_⟩
          · rw [List.length_map]
            exact small1000 (Nat.le_trans (Nat.le_add_right _ _) pl)
          have R2 := R1.prs (i := i) (r := r) hroom
          have e1 : (st.out ++ [i]).map V.int = st.out.map V.int ++ [V.int i] := by rw [List.map_append]; rfl
          rw [show (({ st with fr := fr } : PS).out ++ [i]).map V.int = st.out.map V.int ++ [V.int i] from e1] at R2
          have t2 : Tx H1 (upd H1 lp (.lst (st.out.map V.int ++ [V.int i]))) := tx_lst R1.pr
          refine ⟨_, rfl, q, _, _, _, rfl, rfl, SqT.of (t2 _ _ hq), rfl, wr_Run_current T rfl R2.ob (R := fun H' => Q .non H') ?_⟩
          exact k _ ⟨dx, lf, lp, _, _, _, R2.set (l := st.left) (e := st.en) (hB.mono t2) R2.en⟩
      | ask o =>
        have hb2 : askM st o i fr = some st' := by
          unfold goOnM at hb
          rw [hc, hfr] at hb
          exact hb
        obtain ⟨q, rfl, hq⟩ := rf1
        refine ⟨_, rfl, q, _, _, _, rfl, rfl, SqT.of hq, rfl, ?_⟩
        walk_at "or2"
        walk_at "skip"
        walk_at "hit"
        refine ⟨_, rfl, p, dx, _, rfl, R1.ob, no_Run_ask, _, rfl, q, _, _, _, rfl, rfl, SqT.of hq, rfl, _, rfl, ?_⟩
        exact ⟨H0, p, .ref qc, { st with fr := fr }, st', o, i, rfl, ⟨dx, lf, lp, _, _, _, R1⟩, hc, cu1, hb2, k⟩
      | hd r g o x kk g2 =>
        obtain ⟨hok, est⟩ := gd2 (show (if okPut r g = true then some { st with cur := putIn r (.quoted (.num i)) g, fr := fr } else none) = some st' by
          unfold goOnM at hb
          rw [hc, hfr] at hb
          exact hb)
        cases est
        obtain ⟨q, vr, vc2, vf, vg, rfl, hq, ⟨qr, c, d, rfl, rfl, h1, h2, h3⟩, hF, hG⟩ := rf1
        refine ⟨_, rfl, q, _, _, _, rfl, rfl, SqT.of hq, rfl, ?_⟩
        walk_at "or2"
        walk_at "skip"
        walk_at "hit"
        refine ⟨_, rfl, q, _, _, _, rfl, rfl, SqT.of hq, rfl, qr, _, _, _, rfl, rfl, SqT.of h1, rfl, _, rfl, q, _, _, _, rfl, rfl, SqT.of hq, rfl, qr, _, _, _, rfl, rfl, SqT.of h1, rfl, _, rfl, _, rfl, fun H2 u s2 hu => ?_⟩
        refine put_q (v := vf) hok (hF.mono (.same s2)) (show At H2 (.quoted (.num i)) (.ref u) from ⟨u, _, rfl, hu, cu1.mono (.same s2)⟩) fun H3 b3 s3 h3 => ?_
        have R2 := R1.ext (s2.trans s3)
        refine wr_Run_current T rfl R2.ob (R := fun H' => Q .non H') ?_
        exact k _ ⟨dx, lf, lp, _, _, _, R2.set (l := st.left) (e := st.en) h3 R2.en⟩
/-! ### Run(..), run_plain -/
def spRunInit (K : PySem.W.Frag) : Sp := fun vs H Q _ => ∃ (H0 : Hp) (p dx : Addr) (ve : V) (e : Tr) (n room : Nat), vs = [.ref p, ve, .int (n : Nat)] ∧ Same H0 H ∧ H0 p = none ∧ H p = some (.ins (He.ga K "Run") dx []) ∧ At H e ve ∧ room ≤ 1000 ∧ ∀ H', RunO (He.ga K "Run") H0 H' p (initM e n room) → Q .non H'
theorem ok_Run_init (T : Fx K w mg) : FnOk P w K mg base CX0 1 (He.ma K (He.ga K "Run") "__init__") (fdOf K ("Run", some "__init__")) ["self", "expression", "steps"] (spRunInit K) := by
  refine T.Run__init__.F.ok sc_Run__init__ (fun vs H Q E h => ?_) (fun cdv A outer s H vs Q E hr h => ?_)
  · obtain ⟨_, _, _, _, _, _, _, rfl, _⟩ := h
    rfl
  · obtain ⟨H0, p, dx, ve, e, n, room, rfl, s0, np, hp, he, hr1, k⟩ := h
    refine ⟨_, (pss_cons (ps_fld (pv 0) (pv 1) rfl)
      (pss_cons (ps_fld (pv 0) (pe_lst pa_nil) rfl)
      (pss_cons (ps_fld (pv 0) (pv 2) rfl)
      (pss_cons (ps_fld (pv 0) (pe_lst pa_nil) rfl)
      (pss_one (ps_fld (pv 0) pe_non rfl)))))), ?_⟩
    -- self.current = expression
    refine ⟨_, rfl, _, rfl, p, _, dx, _, rfl, hp, T.Run.cl, T.na_Run_current, li_Run_0, ?_⟩
    rw [show putF "current" ve [] = inRun1 ve from pi_Run_0]
    have s1 : Same H0 (upd H p (.ins (He.ga K "Run") dx (inRun1 ve))) := same_upd s0 np
    have t1 : Tx H (upd H p (.ins (He.ga K "Run") dx (inRun1 ve))) := tx_ins hp
    -- self.frames = []
    refine ⟨Nat.zero_le _, fun lf nf => ?_⟩
    have n1 : p ≠ lf := ne_of_none upd_same nf
    have s2 := same_new nf (.lst [])
    refine ⟨_, rfl, p, _, dx, _, rfl, s2 _ _ upd_same, T.Run.cl, T.na_Run_frames, li_Run_1, ?_⟩
    rw [show putF "frames" (V.ref lf) (inRun1 ve) = inRun2 ve (.ref lf) from pi_Run_1]
    -- self.left = steps
    refine ⟨_, rfl, _, rfl, p, _, dx, _, rfl, upd_same, T.Run.cl, T.na_Run_left, li_Run_2, ?_⟩
    rw [upd_upd, show putF "left" (V.int (n : Nat)) (inRun2 ve (.ref lf)) = inRun3 ve (.ref lf) (.int (n : Nat)) from pi_Run_2]
    have hO3 : (upd (upd (upd H p (.ins (He.ga K "Run") dx (inRun1 ve))) lf (.lst [])) p (.ins (He.ga K "Run") dx (inRun3 ve (.ref lf) (.int (n : Nat))))) p = some (.ins (He.ga K "Run") dx (inRun3 ve (.ref lf) (.int (n : Nat)))) := upd_same
    have hL3 : (upd (upd (upd H p (.ins (He.ga K "Run") dx (inRun1 ve))) lf (.lst [])) p (.ins (He.ga K "Run") dx (inRun3 ve (.ref lf) (.int (n : Nat))))) lf = some (.lst []) := by rw [upd_ne n1.symm, upd_same]
    have s3 : Same H0 (upd (upd (upd H p (.ins (He.ga K "Run") dx (inRun1 ve))) lf (.lst [])) p (.ins (He.ga K "Run") dx (inRun3 ve (.ref lf) (.int (n : Nat))))) := same_upd (s1.trans s2) np
    have t3 : Tx H (upd (upd (upd H p (.ins (He.ga K "Run") dx (inRun1 ve))) lf (.lst [])) p (.ins (He.ga K "Run") dx (inRun3 ve (.ref lf) (.int (n : Nat))))) := t1.trans ((Tx.same s2).trans (tx_ins (s2 _ _ upd_same)))
    have nf0 : H0 lf = none := s1.free nf
    generalize upd (upd (upd H p (.ins (He.ga K "Run") dx (inRun1 ve))) lf (.lst [])) p (.ins (He.ga K "Run") dx (inRun3 ve (.ref lf) (.int (n : Nat)))) = H3 at hO3 hL3 s3 t3
    -- self.prints = []
    refine ⟨Nat.zero_le _, fun lp nq => ?_⟩
    have n2 : p ≠ lp := ne_of_none hO3 nq
    have n3 : lf ≠ lp := ne_of_none hL3 nq
    have s4 := same_new nq (.lst [])
    refine ⟨_, rfl, p, _, dx, _, rfl, s4 _ _ hO3, T.Run.cl, T.na_Run_prints, li_Run_3, ?_⟩
    rw [show putF "prints" (V.ref lp) (inRun3 ve (.ref lf) (.int (n : Nat))) = inRun4 ve (.ref lf) (.int (n : Nat)) (.ref lp) from pi_Run_3]
    -- self.end = None
    refine ⟨_, rfl, p, _, dx, _, rfl, upd_same, T.Run.cl, T.na_Run_end, li_Run_4, ?_⟩
    rw [upd_upd, show putF "end" V.non (inRun4 ve (.ref lf) (.int (n : Nat)) (.ref lp)) = inRun5 ve (.ref lf) (.int (n : Nat)) (.ref lp) .non from pi_Run_4]
    have t5 : Tx H (upd (upd H3 lp (.lst [])) p (.ins (He.ga K "Run") dx (flRun ve (.ref lf) (.int (n : Nat)) (.ref lp) .non))) := t3.trans ((Tx.same s4).trans (tx_ins (s4 _ _ hO3)))
    refine k _ ⟨dx, lf, lp, ve, .non, [], same_upd (s3.trans s4) np, np, nf0, s3.free nq, n3, upd_same, ?_, .nil, ?_, ?_, he.mono t5, rfl⟩
    · rw [upd_ne n1.symm]
      exact s4 _ _ hL3
    · rw [upd_ne n2.symm]
      exact upd_same
    · show 0 + room ≤ 1000
      omega
def OutAt (H : Hp) (out : List Int) (e : En) (v : V) : Prop := ∃ p q ve, v = .ref p ∧ H p = some (.tup [.ref q, ve]) ∧ H q = some (.tup (out.map V.int)) ∧ EnAt H e ve
def spRunPlain (K : PySem.W.Frag) : Sp := fun vs H Q _ => ∃ (ve : V) (e : Tr) (n room m : Nat) (f : PS) (en : En), vs = [ve, .int (n : Nat)] ∧ At H e ve ∧ room ≤ 1000 ∧ RunsM m (initM e n room) f ∧ f.en = some en ∧ ∀ H' v, Same H H' → OutAt H' f.out en v → Q v H'
theorem runs_head {m : Nat} {s f s' : PS} (h : RunsM (m + 1) s f) (e : stepM s = some s') : RunsM m s' f := by
  obtain ⟨_, s2, e2, r⟩ := h
  rw [e] at e2
  cases e2
  exact r
theorem begin_hk {s s' : PS} (h : beginM s = some s') : hk s.cur ≠ .name ∧ hk s.cur ≠ .kept := by
  unfold beginM at h
  cases hc : s.cur <;> rw [hc] at h <;> first | (cases h; done) | exact ⟨(fun z => nomatch z), (fun z => nomatch z)⟩
theorem ok_run_plain (T : Fx K w mg) : FnOk P w K mg base CX0 14 (He.ga K "run_plain") (fdOf K ("run_plain", none)) ["expression", "steps"] (spRunPlain K) := by
  have G_Run__init__ := ok_Run_init (P := P) (base := base) T
  have G_is_value := ok_isv (P := P) (base := base) T
  have G_Run_go_on := ok_Run_go_on (P := P) (base := base) T
  have G_Run_begin := ok_Run_begin (P := P) (base := base) T
  refine T.run_plain.F.ok sc_run_plain (fun vs H Q E h => ?_) (fun cdv A outer s H vs Q E hr h => ?_)
  · obtain ⟨_, _, _, _, _, _, _, rfl, _⟩ := h
    rfl
  · obtain ⟨ve, e, n, room, m, f, en, rfl, he, hroom, hrun, hen, k⟩ := h
    refine ⟨_, (pss_cons (ps_set (i := 2) sc_run_plain.nd rfl (Or.inl rfl) (pe_make T.Run.mkr G_Run__init__ (hr.mono (by omega)) rfl T.Run.mg T.Run__init__.b .nil pass0 (pa_cons (pv 0) (pa_cons (pv 1) pa_nil))))
      (pss_cons (ps_while PassesOwn.never (pt_cmpR op_isN (pe_fld (pv 2) rfl) pe_non (nomark _))
        (pss_one (ps_if (pt_val (pe_call G_is_value (hr.mono (by omega)) rfl T.is_value.m T.is_value.F.kp T.is_value.b .nil pass0 (pa_cons (pe_fld (pv 2) rfl) pa_nil)))
          (pss_one (ps_expr (pe_meth0 (pv 2) T.Run.cl T.Run_go_on.m G_Run_go_on (hr.mono (by omega)) T.Run_go_on.b .nil pass0)))
          (pss_one (ps_expr (pe_meth0 (pv 2) T.Run.cl T.Run_begin.m G_Run_begin (hr.mono (by omega)) T.Run_begin.b .nil pass0))))))
      (pss_one (ps_ret (pe_tup (pa_cons (pe_callTy call_tuple_of (by rfl) T.n_tuple (by decide +kernel) (pa_cons (pe_fld (pv 2) rfl) pa_nil)) (pa_cons (pe_fld (pv 2) rfl) pa_nil))))))), ?_⟩
    refine ⟨_, rfl, _, rfl, fun p dx np nd ned => ?_⟩
    have s0 : Same H (upd (upd H dx (.own p)) p (.ins (He.ga K "Run") dx [])) := (same_new nd (.own p)).trans (same_new (by rw [upd_ne ned.symm]; exact np) _)
    refine ⟨H, p, dx, ve, e, n, room, rfl, s0, np, upd_same, he.mono (.same s0), hroom, fun H1 R1 => ⟨rfl, ?_⟩⟩
    refine ⟨fun m σ H' => σ = [some ve, some (.int (n : Nat)), some (.ref p)] ∧ ∃ st, RunO (He.ga K "Run") H H' p st ∧ RunsM m st f, ⟨m, rfl, _, R1, hrun⟩, ?_⟩
    rintro m2 σ H2 ⟨rfl, st, ⟨dx2, lf, lp, vc, ve2, fs, R⟩, hr2⟩
    have hO := R.ob
    walk_at "Run.end"
    cases m2 with
    | zero =>
      obtain ⟨rfl, hs⟩ := hr2
      have ee := R.en
      rw [hen] at ee
      have nv : ve2 ≠ .non := by
        intro z
        subst z
        cases en with
        | val i => obtain ⟨_, _, e1, _⟩ := ee; cases e1
        | unh o => obtain ⟨_, e1, _⟩ := ee; cases e1
      refine ⟨rfl, _, rfl, br_f (decide_eq_false nv) ?_⟩
      refine ⟨_, rfl, p, _, dx2, _, _, rfl, hO, T.Run.cl, T.na_Run_prints, lk_Run_prints, lp, _, rfl, .inl ⟨SqL.of R.pr, fun q nq => ?_⟩⟩
      have s1 := same_new nq (.tup (st.out.map V.int))
      refine ⟨_, rfl, p, _, dx2, _, _, rfl, s1 _ _ hO, T.Run.cl, T.na_Run_end, lk_Run_end, by show 2 ≤ sizeLine; decide, fun t nt => ?_⟩
      have s2 := same_new nt (.tup [V.ref q, ve2])
      exact k _ _ (R.s0.trans (s1.trans s2)) ⟨t, q, ve2, rfl, upd_same, s2 _ _ upd_same, ee.mono (.same (s1.trans s2))⟩
    | succ m2 =>
      obtain ⟨hn, st', hst, hr3⟩ := id hr2
      have ee := R.en
      rw [hn] at ee
      have ev : ve2 = .non := ee
      subst ev
      refine ⟨rfl, _, rfl, br_t rfl ?_⟩
      refine ⟨fun σ' H' => σ' = [some ve, some (.int (n : Nat)), some (.ref p)] ∧ ∃ st, RunO (He.ga K "Run") H H' p st ∧ RunsM m2 st f, fun σ' H' z => ⟨m2, Nat.lt_succ_self _, z⟩, ?_⟩
      unfold stepM at hst
      have hcu := R.cu
      have hhk : hk st.cur ≠ .name ∧ hk st.cur ≠ .kept := by
        by_cases hi : isNum st.cur = true
        · have q : hk st.cur = .num := by
            rw [isNum_hk] at hi
            exact of_decide_eq_true hi
          rw [q]
          exact ⟨(fun z => nomatch z), (fun z => nomatch z)⟩
        · rw [if_neg hi] at hst
          exact begin_hk hst
      walk_at "Run.current"
      refine ⟨st.cur, vc, rfl, hcu, hhk, fun H3 s3 => ⟨_, rfl, ?_⟩⟩
      have R3 := R.ext s3
      by_cases hi : isNum st.cur = true
      · rw [if_pos hi] at hst
        refine br_t hi ?_
        obtain ⟨i, hi2⟩ : ∃ i, st.cur = .num i := by
          cases hc : st.cur with
          | num i => exact ⟨i, rfl⟩
          | _ => rw [hc] at hi; cases hi
        exact ⟨_, rfl, p, dx2, _, rfl, R3.ob, no_Run_go_on, H, p, st, st', i, rfl, ⟨dx2, lf, lp, vc, _, fs, R3⟩, hi2, hst, fun H4 R4 => ⟨rfl, st', R4, hr3⟩⟩
      · rw [if_neg hi] at hst
        refine br_f (Bool.eq_false_iff.mpr hi) ?_
        exact ⟨_, rfl, p, dx2, _, rfl, R3.ob, no_Run_begin, H, p, st, st', rfl, ⟨dx2, lf, lp, vc, _, fs, R3⟩, hst, fun H4 R4 => ⟨rfl, st', R4, hr3⟩⟩
end
end AF

namespace AF
open PySem PySem.Spec PyProof.Rows L2
/-! ### the machine's mirror -/
def smallI (i : Int) : Prop := -(2 ^ 62) < i ∧ i < 2 ^ 62
theorem opv_small (s : Sg) (i j : Int) : smallI (opv s i j) := by
  cases s with
  | add =>
    show smallI ((i + j + 2147483648) % (2 * 2147483648) - 2147483648)
    unfold smallI
    omega
  | mul =>
    show smallI ((i * j + 2147483648) % (2 * 2147483648) - 2147483648)
    generalize i * j = z
    unfold smallI
    omega
/-- no quoted, nothing kept, small numbers -/
def bndT : Tr → Prop
  | .num i => smallI i
  | .name _ => True
  | .op _ a b => bndT a ∧ bndT b
  | .lt _ a b => bndT a ∧ bndT b
  | .ask _ a => bndT a
  | .print a b => bndT a ∧ bndT b
  | .handle a _ f _ _ _ g => bndT a ∧ bndT f ∧ bndT g
  | .quoted _ => False
  | .kept => False
def AtM (H : Hp) (e : Tr) (v : V) : Prop := At H e v ∧ bndT e
theorem AtM.mono {H H' : Hp} {e : Tr} {v : V} (h : AtM H e v) (t : Tx H H') : AtM H' e v := ⟨h.1.mono t, h.2⟩
theorem AtM.ref {H : Hp} {e : Tr} {v : V} (h : AtM H e v) : ∃ a rest, v = .ref a ∧ H a = some (.tup (.str (hdT e) :: rest)) := at_head h.1 (fun z => by have q := h.2; rw [z] at q; exact q)
inductive EV where
  | int (i : Int) | kept
inductive Env' where
  | nil | cons (x : Nm) (v : EV) (e : Env')
def IntAt (H : Hp) (i : Int) (v : V) : Prop := ∃ p, v = .ref p ∧ H p = some (.tup [.str "int", .int i]) ∧ smallI i
theorem IntAt.mono {H H' : Hp} {i : Int} {v : V} (h : IntAt H i v) (t : Tx H H') : IntAt H' i v := by
  obtain ⟨p, e, h, s⟩ := h
  exact ⟨p, e, t _ _ h, s⟩
def EVAt (H : Hp) : EV → V → Prop
  | .int i, v => IntAt H i v
  | .kept, _ => True
theorem EVAt.mono {H H' : Hp} (t : Tx H H') : ∀ {e : EV} {v : V}, EVAt H e v → EVAt H' e v
  | .int _, _, h => IntAt.mono h t
  | .kept, _, _ => trivial
def EnvAt (H : Hp) : Env' → V → Prop
  | .nil, v => v = .non
  | .cons x e r, v => ∃ p ve vr, v = .ref p ∧ H p = some (.tup [.str x.s, ve, vr]) ∧ EVAt H e ve ∧ EnvAt H r vr
theorem EnvAt.mono {H H' : Hp} (t : Tx H H') : ∀ {e : Env'} {v : V}, EnvAt H e v → EnvAt H' e v
  | .nil, _, h => h
  | .cons .., _, ⟨p, ve, vr, e, h, a, b⟩ => ⟨p, ve, vr, e, t _ _ h, a.mono t, b.mono t⟩
def look : Env' → Nm → Option EV
  | .nil, _ => none
  | .cons x v e, n => if x = n then some v else look e n
inductive MF where
  | node (e : Tr) (env : Env') | op2 (s : Sg) (j : Int)
def MFAt (H : Hp) : MF → V → Prop
  | .node e env, v => ∃ p ve vn, v = .ref p ∧ H p = some (.tup [.str (hdT e), ve, vn]) ∧ AtM H e ve ∧ EnvAt H env vn
  | .op2 s j, v => ∃ p u, v = .ref p ∧ H p = some (.tup [.str "op2", .str s.s, u]) ∧ IntAt H j u
theorem MFAt.mono {H H' : Hp} (t : Tx H H') : ∀ {e : MF} {v : V}, MFAt H e v → MFAt H' e v
  | .node .., _, ⟨p, ve, vn, e, h, a, b⟩ => ⟨p, ve, vn, e, t _ _ h, a.mono t, b.mono t⟩
  | .op2 .., _, ⟨p, u, e, h, a⟩ => ⟨p, u, e, t _ _ h, a.mono t⟩
structure MHd where
  r : Nm
  f : Tr
  o : Nm
  x : Nm
  k : Nm
  g : Tr
  env : Env'
def HdAt (H : Hp) (h : MHd) (v : V) : Prop := ∃ q vf vg c d ve, v = .ref q ∧ H q = some (.tup [.str h.r.s, vf, .ref c, ve]) ∧ H c = some (.tup [.ref d]) ∧ H d = some (.tup [.str h.o.s, .str h.x.s, .str h.k.s, vg]) ∧ AtM H h.f vf ∧ AtM H h.g vg ∧ EnvAt H h.env ve
theorem HdAt.mono {H H' : Hp} {h : MHd} {v : V} (z : HdAt H h v) (t : Tx H H') : HdAt H' h v := by
  obtain ⟨q, vf, vg, c, d, ve, e, h1, h2, h3, f, g, n⟩ := z
  exact ⟨q, vf, vg, c, d, ve, e, t _ _ h1, t _ _ h2, t _ _ h3, f.mono t, g.mono t, n.mono t⟩
def HdO (H : Hp) : Option MHd → V → Prop
  | none, v => v = .non
  | some h, v => HdAt H h v
theorem HdO.mono {H H' : Hp} (t : Tx H H') : ∀ {h : Option MHd} {v : V}, HdO H h v → HdO H' h v
  | none, _, h => h
  | some _, _, h => HdAt.mono h t
abbrev MP : Type := Option MHd × List MF
def Pcs (H : Hp) : List MP → List V → List Addr → Prop
  | [], vs, fls => vs = [] ∧ fls = []
  | (h, fr) :: rest, vs, fls => ∃ q fl vs' fls' vh fs, vs = .ref q :: vs' ∧ fls = fl :: fls' ∧ H q = some (.tup [vh, .ref fl]) ∧ HdO H h vh ∧ H fl = some (.lst fs.reverse) ∧ Rel2 (MFAt H) fr fs ∧ Pcs H rest vs' fls'
theorem Pcs.mono {H H' : Hp} (t : Tx H H') : ∀ {ps : List MP} {vs : List V} {fls : List Addr}, Pcs H ps vs fls → (∀ fl ∈ fls, ∀ xs, H fl = some (.lst xs) → H' fl = some (.lst xs)) → Pcs H' ps vs fls
  | [], _, _, h, _ => h
  | (h, fr) :: rest, _, _, ⟨q, fl, vs', fls', vh, fs, e1, e2, a, b, c, d, r⟩, k => ⟨q, fl, vs', fls', vh, fs, e1, e2, t _ _ a, b.mono t, k fl (by rw [e2]; exact List.mem_cons_self) _ c, d.mono fun _ _ z => z.mono t, r.mono t fun x hx => k x (by rw [e2]; exact List.mem_cons_of_mem _ hx)⟩
theorem Pcs.len {H : Hp} : ∀ {ps : List MP} {vs : List V} {fls : List Addr}, Pcs H ps vs fls → ps.length = vs.length
  | [], _, _, ⟨e, _⟩ => by rw [e]; rfl
  | (h, fr) :: rest, _, _, ⟨q, fl, vs', fls', vh, fs, e1, e2, a, b, c, d, r⟩ => by rw [e1, List.length_cons, List.length_cons, r.len]
theorem Pcs.lst {H : Hp} : ∀ {ps : List MP} {vs : List V} {fls : List Addr}, Pcs H ps vs fls → ∀ fl ∈ fls, ∃ xs, H fl = some (.lst xs)
  | [], _, _, ⟨_, e⟩, fl, h => by rw [e] at h; cases h
  | (_, fr) :: rest, _, _, ⟨q, fl, vs', fls', vh, fs, e1, e2, a, b, c, d, r⟩, x, hx => by
    rw [e2] at hx
    rcases List.mem_cons.mp hx with rfl | hx
    · exact ⟨_, c⟩
    · exact r.lst x hx
structure MS where
  pcs : List MP
  left : Nat
  out : List Int
  room : Nat
inductive Ctl where
  | go (c : Tr) (env : Env') | val (i : Int)
def CtlAt (H : Hp) : Ctl → V → V → V → Prop
  | .go c env, vc, ve, _ => AtM H c vc ∧ EnvAt H env ve
  | .val i, vc, _, vv => vc = .non ∧ IntAt H i vv
theorem CtlAt.mono {H H' : Hp} (t : Tx H H') : ∀ {c : Ctl} {a b d : V}, CtlAt H c a b d → CtlAt H' c a b d
  | .go .., _, _, _, ⟨h1, h2⟩ => ⟨h1.mono t, h2.mono t⟩
  | .val _, _, _, _, ⟨h1, h2⟩ => ⟨h1, h2.mono t⟩
def TriAt (H : Hp) (c : Ctl) (v : V) : Prop := ∃ t a b d, v = .ref t ∧ H t = some (.tup [a, b, d]) ∧ CtlAt H c a b d
/-- a frame on the uppermost piece -/
def waitM (s : MS) (f : MF) : Option MS := match s.pcs with
  | [] => none
  | (h, fr) :: rest => if 900 < fr.length then none else some { s with pcs := (h, f :: fr) :: rest }
def mBegin (c : Tr) (env : Env') (s : MS) : Option (Ctl × MS) := match c with
  | .num i => some (.val i, s)
  | .name x => match look env x with
    | some (.int i) => some (.val i, s)
    | _ => none
  | .handle a r f o x k g => if 900 < s.pcs.length then none else some (.go a env, { s with pcs := (some ⟨r, f, o, x, k, g, env⟩, []) :: s.pcs })
  | .lt _ a _ => match waitM s (.node c env) with
    | some s' => some (.go a env, s')
    | none => none
  | .op _ a _ => match waitM s (.node c env) with
    | some s' => some (.go a env, s')
    | none => none
  | .ask _ a => match waitM s (.node c env) with
    | some s' => some (.go a env, s')
    | none => none
  | .print a _ => match waitM s (.node c env) with
    | some s' => some (.go a env, s')
    | none => none
  | _ => none
inductive MR where
  | tri (c : Ctl) (s : MS) | stop (o : Nm) (s : MS)
def mAsk (o : Nm) (i : Int) (s : MS) : Option MR := match s.left with
  | 0 => none
  | l + 1 => match s.pcs with
    | [(none, _)] => some (.stop o { s with left := l })
    | (some h, _) :: p :: rest => if 900 < rest.length then none else if h.o = o then some (.tri (.go h.g (.cons h.k .kept (.cons h.x (.int i) h.env))) { s with left := l, pcs := p :: rest }) else none
    | _ => none
def mResume (f : MF) (i : Int) (s : MS) : Option MR := match f with
  | .node (.op sg _ b) env => match waitM s (.op2 sg i) with
    | some s' => some (.tri (.go b env) s')
    | none => none
  | .op2 sg j => some (.tri (.val (opv sg j i)) s)
  | .node (.lt x _ b) env => some (.tri (.go b (.cons x (.int i) env)) s)
  | .node (.print _ b) env => match s.room with
    | 0 => none
    | r + 1 => some (.tri (.go b env) { s with out := s.out ++ [i], room := r })
  | .node (.ask o _) _ => mAsk o i s
  | _ => none
/-- one turn of the run's loop -/
inductive MT where
  | on (c : Ctl) (s : MS) | ret (i : Int) (s : MS) | stop (o : Nm) (s : MS)
def ofMR : Option MR → Option MT
  | some (.tri c s) => some (.on c s)
  | some (.stop o s) => some (.stop o s)
  | none => none
def mTurn (c : Ctl) (s : MS) : Option MT := match c with
  | .go c env => match mBegin c env s with
    | some (c', s') => some (.on c' s')
    | none => none
  | .val i => match s.pcs with
    | (h, f :: fr) :: rest => ofMR (mResume f i { s with pcs := (h, fr) :: rest })
    | [(none, [])] => some (.ret i s)
    | (some h, []) :: p :: rest => if 900 < rest.length then none else some (.on (.go h.f (.cons h.r (.int i) h.env)) { s with pcs := p :: rest })
    | _ => none
inductive MFin where
  | ret (i : Int) | stop (o : Nm)
def RunsK : Nat → Ctl → MS → MFin → MS → Prop
  | 0, _, _, _, _ => False
  | m + 1, c, s, f, e => match mTurn c s with
    | some (.on c' s') => RunsK m c' s' f e
    | some (.ret i s') => f = .ret i ∧ e = s'
    | some (.stop o s') => f = .stop o ∧ e = s'
    | none => False
structure MAt (C : Addr) (H0 H : Hp) (p : Addr) (st : MS) (dx lp pl : Addr) (vs : List V) (fls : List Addr) (kept most : Int) : Prop where
  s0 : Same H0 H
  np : H0 p = none
  nl : H0 lp = none
  nq : H0 pl = none
  nf : ∀ fl ∈ fls, H0 fl = none
  nd : (lp :: pl :: fls).Nodup
  ob : H p = some (.ins C dx (flMachine (.int (st.left : Nat)) (.ref lp) (.ref pl) (.int kept) (.int most)))
  pr : H lp = some (.lst (st.out.map V.int))
  pi : H pl = some (.lst vs.reverse)
  pc : Pcs H st.pcs vs fls
  pb : st.out.length + st.room ≤ 1000
def MO (C : Addr) (H0 H : Hp) (p : Addr) (st : MS) : Prop := ∃ dx lp pl vs fls kept most, MAt C H0 H p st dx lp pl vs fls kept most
section
variable {C p dx lp pl : Addr} {H0 H : Hp} {st : MS} {vs : List V} {fls : List Addr} {kept most : Int}
theorem MAt.ext {H' : Hp} (R : MAt C H0 H p st dx lp pl vs fls kept most) (s : Same H H') : MAt C H0 H' p st dx lp pl vs fls kept most :=
  ⟨R.s0.trans s, R.np, R.nl, R.nq, R.nf, R.nd, s _ _ R.ob, s _ _ R.pr, s _ _ R.pi, R.pc.mono (.same s) fun _ _ _ z => s _ _ z, R.pb⟩
theorem MAt.nep (R : MAt C H0 H p st dx lp pl vs fls kept most) : ∀ fl ∈ fls, fl ≠ p := fun fl h z => by
  obtain ⟨xs, e⟩ := R.pc.lst fl h
  rw [z, R.ob] at e
  cases e
theorem MAt.set {l : Nat} {k m : Int} (R : MAt C H0 H p st dx lp pl vs fls kept most) :
    MAt C H0 (upd H p (.ins C dx (flMachine (.int (l : Nat)) (.ref lp) (.ref pl) (.int k) (.int m)))) p { st with left := l } dx lp pl vs fls k m := by
  have n1 := ne_il R.ob R.pr
  have n2 := ne_il R.ob R.pi
  exact ⟨same_upd R.s0 R.np, R.np, R.nl, R.nq, R.nf, R.nd, upd_same, by rw [upd_ne n1.symm]; exact R.pr, by rw [upd_ne n2.symm]; exact R.pi, R.pc.mono (tx_ins R.ob) fun fl h xs e => by rw [upd_ne (R.nep fl h)]; exact e, R.pb⟩
theorem MAt.prs {i : Int} {r : Nat} (R : MAt C H0 H p st dx lp pl vs fls kept most) (hr : st.room = r + 1) :
    MAt C H0 (upd H lp (.lst (st.out.map V.int ++ [V.int i]))) p { st with out := st.out ++ [i], room := r } dx lp pl vs fls kept most := by
  have n1 := ne_il R.ob R.pr
  have nd := List.nodup_cons.mp R.nd
  have n2 : lp ≠ pl := fun z => nd.1 (by rw [z]; exact List.mem_cons_self)
  have pb := R.pb
  exact ⟨same_upd R.s0 R.nl, R.np, R.nl, R.nq, R.nf, R.nd, by rw [upd_ne n1]; exact R.ob, by rw [upd_same, List.map_append]; rfl, by rw [upd_ne n2.symm]; exact R.pi,
    R.pc.mono (tx_lst R.pr) fun fl h xs e => by rw [upd_ne (fun z => nd.1 (by rw [← z]; exact List.mem_cons_of_mem _ h))]; exact e, by
    show (st.out ++ [i]).length + r ≤ 1000
    rw [List.length_append, List.length_singleton]
    omega⟩
end
end AF

namespace AF
open PySem PySem.Spec PyProof.Rows L2
local macro_rules | `(tactic| walk_at "skip") => `(tactic| repeat (refine ⟨_, rfl, rfl, _, rfl, br_f (by decide +kernel) ?_⟩))
local macro_rules | `(tactic| walk_at "hit") => `(tactic| refine ⟨_, rfl, rfl, _, rfl, br_t (by decide +kernel) ?_⟩)
local macro_rules | `(tactic| walk_at "or2") => `(tactic| refine ⟨_, rfl, rfl, _, rfl, br_f (by decide +kernel) ⟨_, rfl, rfl, _, rfl, br_f (by decide +kernel) ?_⟩⟩)
set_option hygiene false in
local macro_rules | `(tactic| walk_at "Run.current") => `(tactic| refine ⟨_, rfl, _, _, _, _, _, rfl, hO, T.Run.cl, T.na_Run_current, lk_Run_current, ?_⟩)
set_option hygiene false in
local macro_rules | `(tactic| walk_at "Run.frames") => `(tactic| refine ⟨_, rfl, _, _, _, _, _, rfl, hO, T.Run.cl, T.na_Run_frames, lk_Run_frames, ?_⟩)
set_option hygiene false in
local macro_rules | `(tactic| walk_at "Run.left") => `(tactic| refine ⟨_, rfl, _, _, _, _, _, rfl, hO, T.Run.cl, T.na_Run_left, lk_Run_left, ?_⟩)
set_option hygiene false in
local macro_rules | `(tactic| walk_at "Run.prints") => `(tactic| refine ⟨_, rfl, _, _, _, _, _, rfl, hO, T.Run.cl, T.na_Run_prints, lk_Run_prints, ?_⟩)
set_option hygiene false in
local macro_rules | `(tactic| walk_at "Run.end") => `(tactic| refine ⟨_, rfl, _, _, _, _, _, rfl, hO, T.Run.cl, T.na_Run_end, lk_Run_end, ?_⟩)
set_option hygiene false in
local macro_rules | `(tactic| walk_at "Machine.left") => `(tactic| refine ⟨_, rfl, _, _, _, _, _, rfl, hO, T.Machine.cl, T.na_Machine_left, lk_Machine_left, ?_⟩)
set_option hygiene false in
local macro_rules | `(tactic| walk_at "Machine.prints") => `(tactic| refine ⟨_, rfl, _, _, _, _, _, rfl, hO, T.Machine.cl, T.na_Machine_prints, lk_Machine_prints, ?_⟩)
set_option hygiene false in
local macro_rules | `(tactic| walk_at "Machine.pieces") => `(tactic| refine ⟨_, rfl, _, _, _, _, _, rfl, hO, T.Machine.cl, T.na_Machine_pieces, lk_Machine_pieces, ?_⟩)
set_option hygiene false in
local macro_rules | `(tactic| walk_at "Machine.kept") => `(tactic| refine ⟨_, rfl, _, _, _, _, _, rfl, hO, T.Machine.cl, T.na_Machine_kept, lk_Machine_kept, ?_⟩)
set_option hygiene false in
local macro_rules | `(tactic| walk_at "Machine.most") => `(tactic| refine ⟨_, rfl, _, _, _, _, _, rfl, hO, T.Machine.cl, T.na_Machine_most, lk_Machine_most, ?_⟩)
set_option hygiene false in
local macro_rules | `(tactic| walk_at "Piece.kind") => `(tactic| refine ⟨_, rfl, _, _, _, _, _, rfl, hO, T.Piece.cl, T.na_Piece_kind, lk_Piece_kind, ?_⟩)
set_option hygiene false in
local macro_rules | `(tactic| walk_at "Piece.handler") => `(tactic| refine ⟨_, rfl, _, _, _, _, _, rfl, hO, T.Piece.cl, T.na_Piece_handler, lk_Piece_handler, ?_⟩)
set_option hygiene false in
local macro_rules | `(tactic| walk_at "Piece.frames") => `(tactic| refine ⟨_, rfl, _, _, _, _, _, rfl, hO, T.Piece.cl, T.na_Piece_frames, lk_Piece_frames, ?_⟩)
set_option hygiene false in
local macro_rules | `(tactic| walk_at "Piece.distance") => `(tactic| refine ⟨_, rfl, _, _, _, _, _, rfl, hO, T.Piece.cl, T.na_Piece_distance, lk_Piece_distance, ?_⟩)
set_option hygiene false in
local macro_rules | `(tactic| walk_at "Piece.table") => `(tactic| refine ⟨_, rfl, _, _, _, _, _, rfl, hO, T.Piece.cl, T.na_Piece_table, lk_Piece_table, ?_⟩)
set_option hygiene false in
local macro_rules | `(tactic| walk_at "Runner.blocks") => `(tactic| refine ⟨_, rfl, _, _, _, _, _, rfl, hO, T.Runner.cl, T.na_Runner_blocks, lk_Runner_blocks, ?_⟩)
set_option hygiene false in
local macro_rules | `(tactic| walk_at "Runner.left") => `(tactic| refine ⟨_, rfl, _, _, _, _, _, rfl, hO, T.Runner.cl, T.na_Runner_left, lk_Runner_left, ?_⟩)
set_option hygiene false in
local macro_rules | `(tactic| walk_at "Runner.prints") => `(tactic| refine ⟨_, rfl, _, _, _, _, _, rfl, hO, T.Runner.cl, T.na_Runner_prints, lk_Runner_prints, ?_⟩)
set_option hygiene false in
local macro_rules | `(tactic| walk_at "Runner.kept") => `(tactic| refine ⟨_, rfl, _, _, _, _, _, rfl, hO, T.Runner.cl, T.na_Runner_kept, lk_Runner_kept, ?_⟩)
set_option hygiene false in
local macro_rules | `(tactic| walk_at "Runner.end") => `(tactic| refine ⟨_, rfl, _, _, _, _, _, rfl, hO, T.Runner.cl, T.na_Runner_end, lk_Runner_end, ?_⟩)
set_option hygiene false in
local macro_rules | `(tactic| walk_at "Runner.pieces") => `(tactic| refine ⟨_, rfl, _, _, _, _, _, rfl, hO, T.Runner.cl, T.na_Runner_pieces, lk_Runner_pieces, ?_⟩)
set_option hygiene false in
local macro_rules | `(tactic| walk_at "Runner.rows") => `(tactic| refine ⟨_, rfl, _, _, _, _, _, rfl, hO, T.Runner.cl, T.na_Runner_rows, lk_Runner_rows, ?_⟩)
set_option hygiene false in
local macro_rules | `(tactic| walk_at "Runner.at") => `(tactic| refine ⟨_, rfl, _, _, _, _, _, rfl, hO, T.Runner.cl, T.na_Runner_at, lk_Runner_at, ?_⟩)
set_option hygiene false in
local macro_rules | `(tactic| walk_at "Runner.bindings") => `(tactic| refine ⟨_, rfl, _, _, _, _, _, rfl, hO, T.Runner.cl, T.na_Runner_bindings, lk_Runner_bindings, ?_⟩)
set_option hygiene false in
local macro_rules | `(tactic| walk_at "Runner.operands") => `(tactic| refine ⟨_, rfl, _, _, _, _, _, rfl, hO, T.Runner.cl, T.na_Runner_operands, lk_Runner_operands, ?_⟩)
set_option hygiene false in
local macro_rules | `(tactic| walk_at "Code.blocks") => `(tactic| refine ⟨_, rfl, _, _, _, _, _, rfl, hO, T.Code.cl, T.na_Code_blocks, lk_Code_blocks, ?_⟩)
set_option hygiene false in
local macro_rules | `(tactic| walk_at "Compiler.blocks") => `(tactic| refine ⟨_, rfl, _, _, _, _, _, rfl, hO, T.Compiler.cl, T.na_Compiler_blocks, lk_Compiler_blocks, ?_⟩)
set_option hygiene false in
local macro_rules | `(tactic| walk_at "Compiler.queue") => `(tactic| refine ⟨_, rfl, _, _, _, _, _, rfl, hO, T.Compiler.cl, T.na_Compiler_queue, lk_Compiler_queue, ?_⟩)
section
variable {P : Program} {w : World} {K : PySem.W.Frag} {mg : Str → Option Value} {base : Heap}
def spCalc : Sp := fun vs H Q _ => ∃ s i j, vs = [.str (Sg.s s), .int i, .int j] ∧ smallI i ∧ smallI j ∧ ∀ H' p, Same H H' → H' p = some (.tup [.str "int", .int (opv s i j)]) → Q (.ref p) H'
theorem mul_ok {i j : Int} (h : smallI i) : CMul i j := by
  have h1 := h.1
  have h2 := h.2
  exact .inl ⟨by omega, by omega⟩
theorem ok_calc (T : Fx K w mg) : FnOk P w K mg base CX0 1 (He.ga K "calculated") (fdOf K ("calculated", none)) ["sign", "one", "two"] spCalc := by
  refine T.calculated.F.ok sc_calculated (fun vs H Q E h => ?_) (fun cdv A outer s H vs Q E hr h => ?_)
  · obtain ⟨s, i, j, rfl, _⟩ := h
    rfl
  · obtain ⟨s, i, j, rfl, hi, hj, k⟩ := h
    have hu := hu_of hr
    refine ⟨_, (pss_cons (ps_if (pt_cmpR op_eq (pv 0) pe_str (nomark _))
        pss_never
        pss_nil)
      (pss_cons (ps_if (pt_cmpR op_eq (pv 0) pe_str (nomark _))
        pss_never
        pss_nil)
      (pss_cons (ps_set (i := 3) sc_calculated.nd rfl (Or.inl rfl) (pe_disp (pps_cons pe_str (pe_op op_add (pv 1) (pv 2)) (pps_cons pe_str (pe_op op_sub (pv 1) (pv 2)) (pps_cons pe_str (pe_op op_mul (pv 1) (pv 2)) pps_nil))) (by rfl) (by rfl) (fun z => by cases z) (by decide)))
      (pss_one (ps_ret (pe_tup (pa_cons pe_str (pa_cons (pe_op op_sub (pe_op op_mod (pe_callTy call_int1 (by rfl) T.n_int (by decide +kernel) (pa_cons (pe_op op_add (pe_dget hu (pv 3) (pv 0) (fun _ _ => rfl)) (C8.pe_gc rfl T.g_HALF)) pa_nil)) (pe_op op_mul pe_int (C8.pe_gc rfl T.g_HALF))) (C8.pe_gc rfl T.g_HALF)) pa_nil)))))))), ?_⟩
    have ne1 : decide (V.str s.s = V.str "<") = false := by cases s <;> decide +kernel
    have ne2 : decide (V.str s.s = V.str "==") = false := by cases s <;> decide +kernel
    refine ⟨_, rfl, rfl, _, rfl, br_f ne1 ?_⟩
    refine ⟨_, rfl, rfl, _, rfl, br_f ne2 ?_⟩
    intro p np
    refine ⟨_, rfl, _, rfl, _, _, rfl, rfl, _, rfl, _, rfl, _, _, rfl, rfl, _, rfl, _, rfl, _, _, rfl, rfl, mul_ok hi, upd_same, [(.inr "+", .int (i + j)), (.inr "-", .int (i - j)), (.inr "*", .int (i * j))], rfl, by show 3 ≤ 15; decide, ?_⟩
    rw [upd_upd]
    have s1 := same_new np (.dK (mergeK [] [(.inr "+", .int (i + j)), (.inr "-", .int (i - j)), (.inr "*", .int (i * j))]))
    have hm : ∀ r : List (L2.Key × V), r = mergeK [] [(.inr "+", .int (i + j)), (.inr "-", .int (i - j)), (.inr "*", .int (i * j))] → valV r (.inr s.s) = some (match s with | .add => .int (i + j) | .mul => .int (i * j)) := by
      intro r e
      have e1 : ¬ (Sum.inr ("+" : Str) : L2.Key) = Sum.inr ("-" : Str) := by decide +kernel
      have e2 : ¬ (Sum.inr ("+" : Str) : L2.Key) = Sum.inr ("*" : Str) := by decide +kernel
      have e3 : ¬ (Sum.inr ("-" : Str) : L2.Key) = Sum.inr ("*" : Str) := by decide +kernel
      rw [e]
      show valV (putK (putK (putK ([] : List (L2.Key × V)) (.inr "+") (.int (i + j))) (.inr "-") (.int (i - j))) (.inr "*") (.int (i * j))) (.inr s.s) = _
      rw [valV_put, valV_put, valV_put]
      cases s with
      | add => exact (if_neg e2).trans ((if_neg e1).trans (if_pos rfl))
      | mul => exact if_pos rfl
    refine ⟨_, rfl, _, rfl, p, _, rfl, by rw [← hm _ rfl]; exact DGet.k (k := .inr s.s) upd_same, ?_⟩
    cases s with
    | add =>
      refine ⟨_, _, rfl, rfl, .inl ⟨_, rfl, _, _, rfl, rfl, .inr ⟨by decide, by decide⟩, _, _, rfl, rfl, by show (0 : Int) < 2 * 2147483648; decide, _, _, rfl, rfl, by show 2 ≤ sizeLine; decide, fun q nq => ?_⟩⟩
      exact k _ _ (s1.trans (same_new nq _)) upd_same
    | mul =>
      refine ⟨_, _, rfl, rfl, .inl ⟨_, rfl, _, _, rfl, rfl, .inr ⟨by decide, by decide⟩, _, _, rfl, rfl, by show (0 : Int) < 2 * 2147483648; decide, _, _, rfl, rfl, by show 2 ≤ sizeLine; decide, fun q nq => ?_⟩⟩
      exact k _ _ (s1.trans (same_new nq _)) upd_same
def spLook : Sp := fun vs H Q _ => ∃ env ve x ev, vs = [ve, .str (Nm.s x)] ∧ EnvAt H env ve ∧ look env x = some ev ∧ ∀ v, EVAt H ev v → Q v H
def edep : Env' → Nat
  | .nil => 0
  | .cons _ _ r => edep r + 1
theorem ok_look (T : Fx K w mg) : FnOk P w K mg base CX0 1 (He.ga K "looked_up") (fdOf K ("looked_up", none)) ["env", "name"] spLook := by
  refine T.looked_up.F.ok sc_looked_up (fun vs H Q E h => ?_) (fun cdv A outer s H vs Q E hr h => ?_)
  · obtain ⟨env, ve, x, ev, rfl, _⟩ := h
    rfl
  · obtain ⟨env, ve, x, ev, rfl, he, hl, k⟩ := h
    refine ⟨_, (pss_cons (ps_while PassesOwn.never (pt_cmpR op_ne (pe_ix ix_tup (pv 0) pe_int (fun _ _ => rfl)) (pv 1) (nomark _))
        (pss_one (ps_set (i := 0) sc_looked_up.nd rfl (Or.inl rfl) (pe_ix ix_tup (pv 0) pe_int (fun _ _ => rfl)))))
      (pss_one (ps_ret (pe_ix ix_tup (pv 0) pe_int (fun _ _ => rfl))))), ?_⟩
    refine ⟨fun m σ H' => H = H' ∧ ∃ env ve, σ = [some ve, some (.str x.s)] ∧ EnvAt H env ve ∧ look env x = some ev ∧ m = edep env, ⟨_, rfl, env, ve, rfl, he, hl, rfl⟩, ?_⟩
    rintro m σ H' ⟨rfl, env, ve, rfl, he, hl, rfl⟩
    cases env with
    | nil => cases hl
    | cons y v r =>
      obtain ⟨p, vv, vr, rfl, hp, hv, hr2⟩ := he
      refine ⟨_, rfl, p, _, _, _, rfl, rfl, SqT.of hp, rfl, _, rfl, rfl, _, rfl, ?_⟩
      rw [Nm.dec]
      by_cases q : y = x
      · rw [show look (.cons y v r) x = some v from if_pos q] at hl
        cases hl
        refine br_f (by rw [decide_eq_true q]; rfl) ?_
        exact ⟨_, rfl, p, _, _, _, rfl, rfl, SqT.of hp, rfl, k _ hv⟩
      · rw [show look (.cons y v r) x = look r x from if_neg q] at hl
        refine br_t (by rw [decide_eq_false q]; rfl) ?_
        exact ⟨_, fun σ' H' z => ⟨_, Nat.lt_succ_self _, z⟩, _, rfl, p, _, _, _, rfl, rfl, SqT.of hp, rfl, rfl, r, vr, rfl, hr2, hl, rfl⟩
def spVShape : Sp := fun vs H Q _ => ∃ p i, vs = [.ref p] ∧ H p = some (.tup [.str "int", .int i]) ∧ ∀ H', Same H H' → Q (.ref p) H'
theorem ok_vshape (T : Fx K w mg) : FnOk P w K mg base CX0 1 (He.ga K "value_shape") (fdOf K ("value_shape", none)) ["value"] spVShape := by
  refine T.value_shape.F.ok sc_value_shape (fun vs H Q E h => ?_) (fun cdv A outer s H vs Q E hr h => ?_)
  · obtain ⟨p, i, rfl, _⟩ := h
    rfl
  · obtain ⟨p, i, rfl, hp, k⟩ := h
    refine ⟨_, (pss_cons (ps_if (pt_cmpR op_eq (pe_ix ix_tup (pv 0) pe_int (fun _ _ => rfl)) pe_str (nomark _))
        pss_never
        pss_nil)
      (pss_cons (ps_if (pt_cmpR op_in_seq (pe_ix ix_tup (pv 0) pe_int (fun _ _ => rfl)) (pe_tup (pa_cons pe_str (pa_cons pe_str (pa_cons pe_str pa_nil)))) rfl)
        (pss_one (ps_ret (pv 0)))
        pss_nil)
      pss_never)), ?_⟩
    refine ⟨_, rfl, p, _, _, _, rfl, rfl, SqT.of hp, rfl, rfl, _, rfl, br_f (by decide +kernel) ?_⟩
    refine ⟨_, rfl, p, _, _, _, rfl, rfl, SqT.of hp, rfl, by show 3 ≤ sizeLine; decide, fun q nq => ⟨q, _, rfl, .inr (SqT.of upd_same), rfl, rfl, _, rfl, br_t (by decide +kernel) ?_⟩⟩
    exact ⟨_, rfl, k _ (same_new nq _)⟩
def spMStep (K : PySem.W.Frag) : Sp := fun vs H Q _ => ∃ (p dx : Addr) (l : Nat) (a b c d : V), vs = [.ref p] ∧ H p = some (.ins (He.ga K "Machine") dx (flMachine (.int ((l + 1 : Nat) : Int)) a b c d)) ∧ Q .non (upd H p (.ins (He.ga K "Machine") dx (flMachine (.int (l : Nat)) a b c d)))
theorem ok_Machine_step (T : Fx K w mg) : FnOk P w K mg base CX0 1 (He.ma K (He.ga K "Machine") "step") (fdOf K ("Machine", some "step")) ["self"] (spMStep K) := by
  refine T.Machine_step.F.ok sc_Machine_step (fun vs H Q E h => ?_) (fun cdv A outer s H vs Q E hr h => ?_)
  · obtain ⟨_, _, _, _, _, _, _, rfl, _⟩ := h
    rfl
  · obtain ⟨p, dx, l, a, b, c, d, rfl, hO, k⟩ := h
    refine ⟨_, (pss_cons (ps_if (pt_cmpR op_eq (pe_fld (pv 0) rfl) pe_int (nomark _))
        pss_never
        pss_nil)
      (pss_one (ps_fldaug (pv 0) pe_int in_sub))), ?_⟩
    walk_at "Machine.left"
    refine ⟨rfl, _, rfl, br_f (decide_eq_false (fun z => by have q := V.int.inj z; omega)) ?_⟩
    refine ⟨_, rfl, p, _, dx, _, _, rfl, hO, T.Machine.cl, T.na_Machine_left, lk_Machine_left, _, _, rfl, rfl, dx, _, hO, ln_Machine, ?_⟩
    rw [pf_Machine_left, show ((l + 1 : Nat) : Int) - 1 = (l : Int) by omega]
    exact k
/-! ### the pieces -/
theorem last_rev {x : V} {xs : List V} : atI (x :: xs).reverse (-1) = some x := by
  rw [List.reverse_cons]
  unfold atI ixN
  rw [if_neg (by omega), if_pos (by rw [List.length_append, List.length_singleton]; omega)]
  show (xs.reverse ++ [x])[((-1 : Int) + ((xs.reverse ++ [x]).length : Nat)).toNat]? = some x
  rw [List.length_append, List.length_singleton, show ((-1 : Int) + ((xs.reverse.length + 1 : Nat) : Int)).toNat = xs.reverse.length by omega]
  simp
theorem Pcs.cons {H : Hp} {h : Option MHd} {fr : List MF} {rest : List MP} {vs : List V} {fls : List Addr} (z : Pcs H ((h, fr) :: rest) vs fls) :
    ∃ q fl vs' fls' vh fs, vs = .ref q :: vs' ∧ fls = fl :: fls' ∧ H q = some (.tup [vh, .ref fl]) ∧ HdO H h vh ∧ H fl = some (.lst fs.reverse) ∧ Rel2 (MFAt H) fr fs ∧ Pcs H rest vs' fls' := z
section
variable {C p dx lp pl : Addr} {H0 H : Hp} {st : MS} {vs : List V} {fls : List Addr} {kept most : Int}
/-- the uppermost piece's frames are changed -/
theorem MAt.top {h : Option MHd} {fr fr' : List MF} {rest : List MP} {q fl : Addr} {vs' : List V} {fls' : List Addr} {vh : V} {fs fs' : List V} (R : MAt C H0 H p st dx lp pl (.ref q :: vs') (fl :: fls') kept most) (hp : st.pcs = (h, fr) :: rest)
    (hq : H q = some (.tup [vh, .ref fl])) (hh : HdO H h vh) (hf : H fl = some (.lst fs.reverse)) (hr : Pcs H rest vs' fls') (hr' : Rel2 (MFAt H) fr' fs') :
    MAt C H0 (upd H fl (.lst fs'.reverse)) p { st with pcs := (h, fr') :: rest } dx lp pl (.ref q :: vs') (fl :: fls') kept most := by
  have nd := R.nd
  have n1 : lp ≠ fl := fun z => (List.nodup_cons.mp nd).1 (by rw [z]; exact List.mem_cons_of_mem _ List.mem_cons_self)
  have nd2 := (List.nodup_cons.mp nd).2
  have n2 : pl ≠ fl := fun z => (List.nodup_cons.mp nd2).1 (by rw [z]; exact List.mem_cons_self)
  have nd3 := (List.nodup_cons.mp nd2).2
  have n3 : fl ∉ fls' := (List.nodup_cons.mp nd3).1
  have n4 : fl ≠ p := R.nep fl List.mem_cons_self
  have t : Tx H (upd H fl (.lst fs'.reverse)) := tx_lst hf
  refine ⟨same_upd R.s0 (R.nf fl List.mem_cons_self), R.np, R.nl, R.nq, R.nf, R.nd, by rw [upd_ne n4.symm]; exact R.ob, by rw [upd_ne n1]; exact R.pr, by rw [upd_ne n2]; exact R.pi, ?_, R.pb⟩
  exact ⟨q, fl, vs', fls', vh, fs', rfl, rfl, t _ _ hq, hh.mono t, upd_same, hr'.mono fun _ _ z => z.mono t, hr.mono t fun x hx xs e => by rw [upd_ne (fun z => n3 (by rw [← z]; exact hx))]; exact e⟩
/-- a new piece -/
theorem MAt.push {h : Option MHd} {fr : List MF} {q fl : Addr} {vh : V} {fs : List V} (R : MAt C H0 H p st dx lp pl vs fls kept most) (hq : H q = some (.tup [vh, .ref fl])) (hh : HdO H h vh) (hf : H fl = some (.lst fs.reverse)) (hr : Rel2 (MFAt H) fr fs)
    (n0 : H0 fl = none) (n1 : fl ∉ lp :: pl :: fls) : MAt C H0 (upd H pl (.lst (vs.reverse ++ [.ref q]))) p { st with pcs := (h, fr) :: st.pcs } dx lp pl (.ref q :: vs) (fl :: fls) kept most := by
  have nd := R.nd
  have t : Tx H (upd H pl (.lst (vs.reverse ++ [.ref q]))) := tx_lst R.pi
  have np := ne_il R.ob R.pi
  have a1 : lp ≠ pl := fun z => (List.nodup_cons.mp nd).1 (by rw [z]; exact List.mem_cons_self)
  have a2 : ∀ x ∈ fls, x ≠ pl := fun x hx z => (List.nodup_cons.mp (List.nodup_cons.mp nd).2).1 (by rw [← z]; exact hx)
  have a3 : fl ≠ pl := fun z => n1 (by rw [z]; exact List.mem_cons_of_mem _ List.mem_cons_self)
  have a4 : fl ≠ lp := fun z => n1 (by rw [z]; exact List.mem_cons_self)
  refine ⟨same_upd R.s0 R.nq, R.np, R.nl, R.nq, fun x hx => ?_, ?_, by rw [upd_ne np]; exact R.ob, by rw [upd_ne a1]; exact R.pr, by rw [upd_same, List.reverse_cons], ?_, R.pb⟩
  · rcases List.mem_cons.mp hx with rfl | hx
    · exact n0
    · exact R.nf x hx
  · have nd2 := List.nodup_cons.mp nd
    have nd3 := List.nodup_cons.mp nd2.2
    refine List.nodup_cons.mpr ⟨fun z => ?_, List.nodup_cons.mpr ⟨fun z => ?_, List.nodup_cons.mpr ⟨fun z => n1 (List.mem_cons_of_mem _ (List.mem_cons_of_mem _ z)), nd3.2⟩⟩⟩
    · rcases List.mem_cons.mp z with z | z
      · exact a1 z
      · rcases List.mem_cons.mp z with z | z
        · exact a4 z.symm
        · exact nd2.1 (List.mem_cons_of_mem _ z)
    · rcases List.mem_cons.mp z with z | z
      · exact a3 z.symm
      · exact nd3.1 z
  · exact ⟨q, fl, vs, fls, vh, fs, rfl, rfl, t _ _ hq, hh.mono t, by rw [upd_ne a3]; exact hf, hr.mono fun _ _ z => z.mono t, R.pc.mono t fun x hx xs e => by rw [upd_ne (a2 x hx)]; exact e⟩
/-- the uppermost piece is taken away -/
theorem MAt.pop {m : MP} {rest : List MP} {q fl : Addr} {vs' : List V} {fls' : List Addr} (R : MAt C H0 H p st dx lp pl (.ref q :: vs') (fl :: fls') kept most) (hp : st.pcs = m :: rest) (hr : Pcs H rest vs' fls') :
    MAt C H0 (upd H pl (.lst vs'.reverse)) p { st with pcs := rest } dx lp pl vs' fls' kept most := by
  have nd := R.nd
  have t : Tx H (upd H pl (.lst vs'.reverse)) := tx_lst R.pi
  have np := ne_il R.ob R.pi
  have nd2 := List.nodup_cons.mp nd
  have nd3 := List.nodup_cons.mp nd2.2
  have a1 : lp ≠ pl := fun z => nd2.1 (by rw [z]; exact List.mem_cons_self)
  have a2 : ∀ x ∈ fls', x ≠ pl := fun x hx z => nd3.1 (by rw [← z]; exact List.mem_cons_of_mem _ hx)
  refine ⟨same_upd R.s0 R.nq, R.np, R.nl, R.nq, fun x hx => R.nf x (List.mem_cons_of_mem _ hx), ?_, by rw [upd_ne np]; exact R.ob, by rw [upd_ne a1]; exact R.pr, upd_same, ?_, R.pb⟩
  · refine List.nodup_cons.mpr ⟨fun z => nd2.1 ?_, List.nodup_cons.mpr ⟨fun z => nd3.1 (List.mem_cons_of_mem _ z), (List.nodup_cons.mp nd3.2).2⟩⟩
    rcases List.mem_cons.mp z with z | z
    · rw [z]; exact List.mem_cons_self
    · exact List.mem_cons_of_mem _ (List.mem_cons_of_mem _ z)
  · exact hr.mono t fun x hx xs e => by rw [upd_ne (a2 x hx)]; exact e
end
/-- self.pieces[-1][1] -/
theorem topIx {σ : L2.St} {H : Hp} {i : Nat} {p q dx fl pl : Addr} {a0 a1 a3 a4 vh : V} {vs : List V} {Q : VK} (T : Fx K w mg) (h0 : σ[i]? = some (some (.ref p))) (hO : H p = some (.ins (He.ga K "Machine") dx (flMachine a0 a1 (.ref pl) a3 a4))) (hp : H pl = some (.lst (V.ref q :: vs).reverse)) (hq : H q = some (.tup [vh, .ref fl]))
    (k : Q (.ref fl) H) : tOp (rIxT K) (tOp (rIxL K) (tFld K (tVar i) "pieces") (tUn (rU fun i => .int (-i)) (tC (.int 1)))) (tC (.int 1)) σ H Q :=
  ⟨_, h0, p, _, dx, _, _, rfl, hO, T.Machine.cl, T.na_Machine_pieces, lk_Machine_pieces, _, rfl, pl, _, _, _, rfl, rfl, SqL.of hp, last_rev, q, _, _, _, rfl, rfl, SqT.of hq, rfl, k⟩
def spWait (K : PySem.W.Frag) : Sp := fun vs H Q _ => ∃ (p t dx fl pl q : Addr) (a0 a1 a3 a4 vh : V) (vs' xs : List V), vs = [.ref p, .ref t] ∧ H p = some (.ins (He.ga K "Machine") dx (flMachine a0 a1 (.ref pl) a3 a4)) ∧ H pl = some (.lst (V.ref q :: vs').reverse) ∧ H q = some (.tup [vh, .ref fl]) ∧ H fl = some (.lst xs) ∧
  xs.length < sizeLine ∧ Q .non (upd H fl (.lst (xs ++ [.ref t])))
theorem ok_Machine_wait (T : Fx K w mg) : FnR P w K mg base CX0 1 (He.ma K (He.ga K "Machine") "wait") (fun vs H Q E => ∃ ws rest, vs = ws ++ rest ∧ ws.length = ["self"].length ∧ rest.length ≤ sizeLine ∧ ∀ p, H p = Option.none → spWait K (ws ++ [V.ref p]) (upd H p (.tup rest)) Q E) := by
  obtain ⟨oc, od, kV, doc, pm, an, cdv, ct, osl, e, lk, hcd⟩ := T.Machine_wait.F.ex
  rw [e] at lk
  refine StX.fn_star (ps := ["self"]) (pv := "frame") lk hcd sc_Machine_wait StX.cxUp_none (fun us rest hl => StX.bind_star1 (B := fun l => bindArgs (PySem.W.fnOf "wait" "Machine.wait" (defArgs s_Machine_wait) (defBody s_Machine_wait) (defScope s_Machine_wait) .none kV doc pm an cdv ct) ⟨l, []⟩) (fun a => rfl) (fun a r rs => rfl) us rest hl) fun A outer s H vs Q E hr h => ?_
  obtain ⟨p, t, dx, fl, pl, q, a0, a1, a3, a4, vh, vs', xs, rfl, hO, hp, hq, hf, hl, k⟩ := h
  refine ⟨_, (pss_one (ps_expr (pe_bm PySem.F.plainAttrs_list PySem.F.slot_list_append PySem.F.type_list_append mt_append (pe_ix ix_tup (pe_ix ix_list (pe_fld (pv 0) rfl) (pe_un un_neg pe_int) (fun _ _ => rfl)) pe_int (fun _ _ => rfl)) (pa_cons (pv 1) pa_nil)))), ?_⟩
  refine topIx T rfl hO hp hq ?_
  exact ⟨.inl ⟨rfl, _, SqL.of hf⟩, _, rfl, fl, _, _, rfl, rfl, hf, hl, k⟩
end
end AF

namespace AF
open PySem PySem.Spec PyProof.Rows L2
local macro_rules | `(tactic| walk_at "skip") => `(tactic| repeat (refine ⟨_, rfl, rfl, _, rfl, br_f (by decide +kernel) ?_⟩))
local macro_rules | `(tactic| walk_at "hit") => `(tactic| refine ⟨_, rfl, rfl, _, rfl, br_t (by decide +kernel) ?_⟩)
local macro_rules | `(tactic| walk_at "or2") => `(tactic| refine ⟨_, rfl, rfl, _, rfl, br_f (by decide +kernel) ⟨_, rfl, rfl, _, rfl, br_f (by decide +kernel) ?_⟩⟩)
set_option hygiene false in
local macro_rules | `(tactic| walk_at "Run.current") => `(tactic| refine ⟨_, rfl, _, _, _, _, _, rfl, hO, T.Run.cl, T.na_Run_current, lk_Run_current, ?_⟩)
set_option hygiene false in
local macro_rules | `(tactic| walk_at "Run.frames") => `(tactic| refine ⟨_, rfl, _, _, _, _, _, rfl, hO, T.Run.cl, T.na_Run_frames, lk_Run_frames, ?_⟩)
set_option hygiene false in
local macro_rules | `(tactic| walk_at "Run.left") => `(tactic| refine ⟨_, rfl, _, _, _, _, _, rfl, hO, T.Run.cl, T.na_Run_left, lk_Run_left, ?_⟩)
set_option hygiene false in
local macro_rules | `(tactic| walk_at "Run.prints") => `(tactic| refine ⟨_, rfl, _, _, _, _, _, rfl, hO, T.Run.cl, T.na_Run_prints, lk_Run_prints, ?_⟩)
set_option hygiene false in
local macro_rules | `(tactic| walk_at "Run.end") => `(tactic| refine ⟨_, rfl, _, _, _, _, _, rfl, hO, T.Run.cl, T.na_Run_end, lk_Run_end, ?_⟩)
set_option hygiene false in
local macro_rules | `(tactic| walk_at "Machine.left") => `(tactic| refine ⟨_, rfl, _, _, _, _, _, rfl, hO, T.Machine.cl, T.na_Machine_left, lk_Machine_left, ?_⟩)
set_option hygiene false in
local macro_rules | `(tactic| walk_at "Machine.prints") => `(tactic| refine ⟨_, rfl, _, _, _, _, _, rfl, hO, T.Machine.cl, T.na_Machine_prints, lk_Machine_prints, ?_⟩)
set_option hygiene false in
local macro_rules | `(tactic| walk_at "Machine.pieces") => `(tactic| refine ⟨_, rfl, _, _, _, _, _, rfl, hO, T.Machine.cl, T.na_Machine_pieces, lk_Machine_pieces, ?_⟩)
set_option hygiene false in
local macro_rules | `(tactic| walk_at "Machine.kept") => `(tactic| refine ⟨_, rfl, _, _, _, _, _, rfl, hO, T.Machine.cl, T.na_Machine_kept, lk_Machine_kept, ?_⟩)
set_option hygiene false in
local macro_rules | `(tactic| walk_at "Machine.most") => `(tactic| refine ⟨_, rfl, _, _, _, _, _, rfl, hO, T.Machine.cl, T.na_Machine_most, lk_Machine_most, ?_⟩)
set_option hygiene false in
local macro_rules | `(tactic| walk_at "Piece.kind") => `(tactic| refine ⟨_, rfl, _, _, _, _, _, rfl, hO, T.Piece.cl, T.na_Piece_kind, lk_Piece_kind, ?_⟩)
set_option hygiene false in
local macro_rules | `(tactic| walk_at "Piece.handler") => `(tactic| refine ⟨_, rfl, _, _, _, _, _, rfl, hO, T.Piece.cl, T.na_Piece_handler, lk_Piece_handler, ?_⟩)
set_option hygiene false in
local macro_rules | `(tactic| walk_at "Piece.frames") => `(tactic| refine ⟨_, rfl, _, _, _, _, _, rfl, hO, T.Piece.cl, T.na_Piece_frames, lk_Piece_frames, ?_⟩)
set_option hygiene false in
local macro_rules | `(tactic| walk_at "Piece.distance") => `(tactic| refine ⟨_, rfl, _, _, _, _, _, rfl, hO, T.Piece.cl, T.na_Piece_distance, lk_Piece_distance, ?_⟩)
set_option hygiene false in
local macro_rules | `(tactic| walk_at "Piece.table") => `(tactic| refine ⟨_, rfl, _, _, _, _, _, rfl, hO, T.Piece.cl, T.na_Piece_table, lk_Piece_table, ?_⟩)
set_option hygiene false in
local macro_rules | `(tactic| walk_at "Runner.blocks") => `(tactic| refine ⟨_, rfl, _, _, _, _, _, rfl, hO, T.Runner.cl, T.na_Runner_blocks, lk_Runner_blocks, ?_⟩)
set_option hygiene false in
local macro_rules | `(tactic| walk_at "Runner.left") => `(tactic| refine ⟨_, rfl, _, _, _, _, _, rfl, hO, T.Runner.cl, T.na_Runner_left, lk_Runner_left, ?_⟩)
set_option hygiene false in
local macro_rules | `(tactic| walk_at "Runner.prints") => `(tactic| refine ⟨_, rfl, _, _, _, _, _, rfl, hO, T.Runner.cl, T.na_Runner_prints, lk_Runner_prints, ?_⟩)
set_option hygiene false in
local macro_rules | `(tactic| walk_at "Runner.kept") => `(tactic| refine ⟨_, rfl, _, _, _, _, _, rfl, hO, T.Runner.cl, T.na_Runner_kept, lk_Runner_kept, ?_⟩)
set_option hygiene false in
local macro_rules | `(tactic| walk_at "Runner.end") => `(tactic| refine ⟨_, rfl, _, _, _, _, _, rfl, hO, T.Runner.cl, T.na_Runner_end, lk_Runner_end, ?_⟩)
set_option hygiene false in
local macro_rules | `(tactic| walk_at "Runner.pieces") => `(tactic| refine ⟨_, rfl, _, _, _, _, _, rfl, hO, T.Runner.cl, T.na_Runner_pieces, lk_Runner_pieces, ?_⟩)
set_option hygiene false in
local macro_rules | `(tactic| walk_at "Runner.rows") => `(tactic| refine ⟨_, rfl, _, _, _, _, _, rfl, hO, T.Runner.cl, T.na_Runner_rows, lk_Runner_rows, ?_⟩)
set_option hygiene false in
local macro_rules | `(tactic| walk_at "Runner.at") => `(tactic| refine ⟨_, rfl, _, _, _, _, _, rfl, hO, T.Runner.cl, T.na_Runner_at, lk_Runner_at, ?_⟩)
set_option hygiene false in
local macro_rules | `(tactic| walk_at "Runner.bindings") => `(tactic| refine ⟨_, rfl, _, _, _, _, _, rfl, hO, T.Runner.cl, T.na_Runner_bindings, lk_Runner_bindings, ?_⟩)
set_option hygiene false in
local macro_rules | `(tactic| walk_at "Runner.operands") => `(tactic| refine ⟨_, rfl, _, _, _, _, _, rfl, hO, T.Runner.cl, T.na_Runner_operands, lk_Runner_operands, ?_⟩)
set_option hygiene false in
local macro_rules | `(tactic| walk_at "Code.blocks") => `(tactic| refine ⟨_, rfl, _, _, _, _, _, rfl, hO, T.Code.cl, T.na_Code_blocks, lk_Code_blocks, ?_⟩)
set_option hygiene false in
local macro_rules | `(tactic| walk_at "Compiler.blocks") => `(tactic| refine ⟨_, rfl, _, _, _, _, _, rfl, hO, T.Compiler.cl, T.na_Compiler_blocks, lk_Compiler_blocks, ?_⟩)
set_option hygiene false in
local macro_rules | `(tactic| walk_at "Compiler.queue") => `(tactic| refine ⟨_, rfl, _, _, _, _, _, rfl, hO, T.Compiler.cl, T.na_Compiler_queue, lk_Compiler_queue, ?_⟩)
section
variable {P : Program} {w : World} {K : PySem.W.Frag} {mg : Str → Option Value} {base : Heap}
abbrev spWaitR (K : PySem.W.Frag) : Sp := fun vs H Q E => ∃ ws rest, vs = ws ++ rest ∧ ws.length = ["self"].length ∧ rest.length ≤ sizeLine ∧ ∀ p, H p = Option.none → spWait K (ws ++ [V.ref p]) (upd H p (.tup rest)) Q E
theorem wait_sp {p dx lp pl : Addr} {H0 H : Hp} {st st' : MS} {vs xs : List V} {fls : List Addr} {kept most : Int} {f : MF} {Q : VK} {E : XK} (R : MAt (He.ga K "Machine") H0 H p st dx lp pl vs fls kept most) (hw : waitM st f = some st') (hxs : xs.length ≤ 10)
    (hf : ∀ H' t, H' t = some (.tup xs) → Tx H H' → MFAt H' f (.ref t)) (k : ∀ H', Tx H H' → MO (He.ga K "Machine") H0 H' p st' → Q .non H') : spWaitR K (.ref p :: xs) H Q E := by
  refine ⟨[.ref p], xs, rfl, rfl, small (by omega), fun t nt => ?_⟩
  unfold waitM at hw
  cases hp : st.pcs with
  | nil => rw [hp] at hw; cases hw
  | cons m rest =>
    obtain ⟨h, fr⟩ := m
    rw [hp] at hw
    obtain ⟨hl, e⟩ := gd hw
    cases e
    have s1 := same_new nt (.tup xs)
    have R1 := R.ext s1
    have pc := R1.pc
    rw [hp] at pc
    obtain ⟨q, fl, vs', fls', vh, fs, rfl, rfl, hq, hh, hfl, hr, hrest⟩ := pc
    refine ⟨p, t, dx, fl, pl, q, _, _, _, _, vh, vs', fs.reverse, rfl, R1.ob, R1.pi, hq, hfl, ?_, ?_⟩
    · rw [List.length_reverse, ← hr.len]
      exact small1000 (by omega)
    · have R2 := R1.top (fr' := f :: fr) (fs' := .ref t :: fs) hp hq hh hfl hrest (.cons (hf _ _ upd_same (.same s1)) hr)
      rw [List.reverse_cons] at R2
      exact k _ ((Tx.same s1).trans (tx_lst hfl)) ⟨dx, lp, pl, _, _, kept, most, R2⟩
def spAddP (K : PySem.W.Frag) : Sp := fun vs H Q _ => ∃ (H0 : Hp) (p l : Addr) (vh : V) (st : MS) (h : MHd), vs = [.ref p, vh, .ref l] ∧ MO (He.ga K "Machine") H0 H p st ∧ HdAt H h vh ∧ H l = some (.lst []) ∧ st.pcs.length ≤ 900 ∧
  ∀ H', Tx H H' → MO (He.ga K "Machine") H0 H' p { st with pcs := (some h, []) :: st.pcs } → Q .non H'
theorem ok_Machine_add_piece (T : Fx K w mg) : FnOk P w K mg base CX0 1 (He.ma K (He.ga K "Machine") "add_piece") (fdOf K ("Machine", some "add_piece")) ["self", "handler", "frames"] (spAddP K) := by
  refine T.Machine_add_piece.F.ok sc_Machine_add_piece (fun vs H Q E h => ?_) (fun cdv A outer s H vs Q E hr h => ?_)
  · obtain ⟨_, _, _, _, _, _, rfl, _⟩ := h
    rfl
  · obtain ⟨H0, p, l, vh, st, h, rfl, ⟨dx, lp, pl, vs, fls, kept, most, R⟩, hh, hl, hlen, k⟩ := h
    refine ⟨_, (pss_cons (ps_expr (pe_bm PySem.F.plainAttrs_list PySem.F.slot_list_append PySem.F.type_list_append mt_append (pe_fld (pv 0) rfl) (pa_cons (pe_tup (pa_cons (pv 1) (pa_cons (pe_callTy call_list_of (by rfl) T.n_list (by decide +kernel) (pa_cons (pv 2) pa_nil)) pa_nil))) pa_nil)))
      (pss_one (ps_fld (pv 0) (pe_callB (call_max2 rfl) (by rfl) T.n_max (by decide +kernel) (pa_cons (pe_fld (pv 0) rfl) (pa_cons (pe_callB call_len_seq (by rfl) T.n_len (by decide +kernel) (pa_cons (pe_fld (pv 0) rfl) pa_nil)) pa_nil))) rfl))), ?_⟩
    have hO := R.ob
    walk_at "Machine.pieces"
    refine ⟨.inl ⟨rfl, _, SqL.of R.pi⟩, _, rfl, _, rfl, l, _, rfl, .inl (SqL.of hl), fun fl nfl => ⟨by show 2 ≤ sizeLine; decide, fun q nq => ?_⟩⟩
    have s1 := same_new nfl (.lst [])
    have s2 := same_new nq (.tup [vh, .ref fl])
    have R1 := R.ext (s1.trans s2)
    have hfl : (upd (upd H fl (.lst [])) q (.tup [vh, .ref fl])) fl = some (.lst []) := s2 _ _ upd_same
    have hvl : vs.length ≤ 900 := by rw [← R.pc.len]; exact hlen
    refine ⟨pl, _, _, rfl, rfl, R1.pi, by rw [List.length_reverse]; exact small1000 (by omega), ?_⟩
    have nm : fl ∉ lp :: pl :: fls := fun z => by
      rcases List.mem_cons.mp z with z | z
      · rw [z] at nfl; rw [R.pr] at nfl; cases nfl
      · rcases List.mem_cons.mp z with z | z
        · rw [z] at nfl; rw [R.pi] at nfl; cases nfl
        · obtain ⟨xs, e⟩ := R.pc.lst fl z
          rw [nfl] at e; cases e
    have R2 := R1.push (h := some h) (fr := []) (q := q) (fl := fl) (vh := vh) (fs := []) upd_same (hh.mono (.same (s1.trans s2))) hfl .nil (R.s0.free nfl) nm
    have hO := R2.ob
    walk_at "Machine.most"
    walk_at "Machine.pieces"
    refine ⟨pl, _, rfl, .inl (SqL.of R2.pi), _, _, rfl, ?_⟩
    refine wr_Machine_most T rfl R2.ob (R := fun H' => Q .non H') ?_
    have t1 : Tx H (upd (upd (upd H fl (.lst [])) q (.tup [vh, .ref fl])) pl (.lst (vs.reverse ++ [.ref q]))) := (Tx.same (s1.trans s2)).trans (tx_lst R1.pi)
    exact k _ (t1.trans (tx_ins R2.ob)) ⟨dx, lp, pl, _, _, kept, _, R2.set (l := st.left)⟩
def spMInit (K : PySem.W.Frag) : Sp := fun vs H Q _ => ∃ (H0 : Hp) (p dx : Addr) (n room : Nat), vs = [.ref p, .int (n : Nat)] ∧ Same H0 H ∧ H0 p = none ∧ H p = some (.ins (He.ga K "Machine") dx []) ∧ room ≤ 1000 ∧ ∀ H', Tx H H' → MO (He.ga K "Machine") H0 H' p ⟨[(none, [])], n, [], room⟩ → Q .non H'
theorem ok_Machine_init (T : Fx K w mg) : FnOk P w K mg base CX0 1 (He.ma K (He.ga K "Machine") "__init__") (fdOf K ("Machine", some "__init__")) ["self", "steps"] (spMInit K) := by
  refine T.Machine__init__.F.ok sc_Machine__init__ (fun vs H Q E h => ?_) (fun cdv A outer s H vs Q E hr h => ?_)
  · obtain ⟨_, _, _, _, _, rfl, _⟩ := h
    rfl
  · obtain ⟨H0, p, dx, n, room, rfl, s0, np, hp, hroom, k⟩ := h
    refine ⟨_, (pss_cons (ps_fld (pv 0) (pv 1) rfl)
      (pss_cons (ps_fld (pv 0) (pe_lst pa_nil) rfl)
      (pss_cons (ps_fld (pv 0) (pe_lst (pa_cons (pe_tup (pa_cons pe_non (pa_cons (pe_lst pa_nil) pa_nil))) pa_nil)) rfl)
      (pss_cons (ps_fld (pv 0) pe_int rfl)
      (pss_one (ps_fld (pv 0) pe_int rfl)))))), ?_⟩
    refine ⟨_, rfl, _, rfl, p, _, dx, _, rfl, hp, T.Machine.cl, T.na_Machine_left, li_Machine_0, ?_⟩
    rw [show putF "left" (V.int (n : Nat)) [] = inMachine1 (.int (n : Nat)) from pi_Machine_0]
    have s1 : Same H0 (upd H p (.ins (He.ga K "Machine") dx (inMachine1 (.int (n : Nat))))) := same_upd s0 np
    have t1 : Tx H (upd H p (.ins (He.ga K "Machine") dx (inMachine1 (.int (n : Nat))))) := tx_ins hp
    have h1 : (upd H p (.ins (He.ga K "Machine") dx (inMachine1 (.int (n : Nat))))) p = some (.ins (He.ga K "Machine") dx (inMachine1 (.int (n : Nat)))) := upd_same
    generalize upd H p (.ins (He.ga K "Machine") dx (inMachine1 (.int (n : Nat)))) = H1 at s1 t1 h1
    refine ⟨Nat.zero_le _, fun lp nlp => ?_⟩
    have s2 := same_new nlp (.lst [])
    have n1 : p ≠ lp := ne_of_none h1 nlp
    refine ⟨_, rfl, p, _, dx, _, rfl, s2 _ _ h1, T.Machine.cl, T.na_Machine_prints, li_Machine_1, ?_⟩
    rw [show putF "prints" (V.ref lp) (inMachine1 (.int (n : Nat))) = inMachine2 (.int (n : Nat)) (.ref lp) from pi_Machine_1]
    have s3 : Same H0 (upd (upd H1 lp (.lst [])) p (.ins (He.ga K "Machine") dx (inMachine2 (.int (n : Nat)) (.ref lp)))) := same_upd (s1.trans s2) np
    have t3 : Tx H (upd (upd H1 lp (.lst [])) p (.ins (He.ga K "Machine") dx (inMachine2 (.int (n : Nat)) (.ref lp)))) := t1.trans ((Tx.same s2).trans (tx_ins (s2 _ _ h1)))
    have h3 : (upd (upd H1 lp (.lst [])) p (.ins (He.ga K "Machine") dx (inMachine2 (.int (n : Nat)) (.ref lp)))) p = some (.ins (He.ga K "Machine") dx (inMachine2 (.int (n : Nat)) (.ref lp))) := upd_same
    have l3 : (upd (upd H1 lp (.lst [])) p (.ins (He.ga K "Machine") dx (inMachine2 (.int (n : Nat)) (.ref lp)))) lp = some (.lst []) := by rw [upd_ne n1.symm, upd_same]
    have nl0 : H0 lp = none := s1.free nlp
    generalize upd (upd H1 lp (.lst [])) p (.ins (He.ga K "Machine") dx (inMachine2 (.int (n : Nat)) (.ref lp))) = H3 at s3 t3 h3 l3
    -- self.pieces = [(None, [])]
    refine ⟨Nat.zero_le _, fun fl nfl => ⟨by show 2 ≤ sizeLine; decide, fun q nq => ⟨by show 1 ≤ sizeLine; decide, fun pl npl => ?_⟩⟩⟩
    have s4 := same_new nfl (.lst [])
    have s5 := same_new nq (.tup [V.non, .ref fl])
    have s6 := same_new npl (.lst [V.ref q])
    have s46 := s4.trans (s5.trans s6)
    have h4 := s46 _ _ h3
    refine ⟨_, rfl, p, _, dx, _, rfl, h4, T.Machine.cl, T.na_Machine_pieces, li_Machine_2, ?_⟩
    rw [show putF "pieces" (V.ref pl) (inMachine2 (.int (n : Nat)) (.ref lp)) = inMachine3 (.int (n : Nat)) (.ref lp) (.ref pl) from pi_Machine_2]
    refine ⟨_, rfl, p, _, dx, _, rfl, upd_same, T.Machine.cl, T.na_Machine_kept, li_Machine_3, ?_⟩
    rw [upd_upd, show putF "kept" (V.int 0) (inMachine3 (.int (n : Nat)) (.ref lp) (.ref pl)) = inMachine4 (.int (n : Nat)) (.ref lp) (.ref pl) (.int 0) from pi_Machine_3]
    refine ⟨_, rfl, p, _, dx, _, rfl, upd_same, T.Machine.cl, T.na_Machine_most, li_Machine_4, ?_⟩
    rw [upd_upd, show putF "most" (V.int 1) (inMachine4 (.int (n : Nat)) (.ref lp) (.ref pl) (.int 0)) = inMachine5 (.int (n : Nat)) (.ref lp) (.ref pl) (.int 0) (.int 1) from pi_Machine_4]
    have hfl := (s5.trans s6) _ _ (upd_same (H := H3) (a := fl) (o := .lst []))
    have hq := s6 _ _ (upd_same (H := upd H3 fl (.lst [])) (a := q) (o := .tup [V.non, .ref fl]))
    have hl4 := s46 _ _ l3
    have a1 := ne_il h4 hfl
    have a2 := ne_il h4 hl4
    have a3 : p ≠ pl := ne_of_none ((s4.trans s5) _ _ h3) npl
    have a4 : lp ≠ fl := ne_of_none l3 nfl
    have a5 : lp ≠ pl := ne_of_none ((s4.trans s5) _ _ l3) npl
    have a6 : fl ≠ pl := ne_of_none (s5 _ _ upd_same) npl
    have t7 := (Tx.same s46).trans (tx_ins (o := .ins (He.ga K "Machine") dx (inMachine5 (.int (n : Nat)) (.ref lp) (.ref pl) (.int 0) (.int 1))) h4)
    refine k _ (t3.trans t7) ⟨dx, lp, pl, [.ref q], [fl], 0, 1, same_upd (s3.trans s46) np, np, nl0, (s3.trans (s4.trans s5)).free npl, fun x hx => ?_, ?_, upd_same, ?_, ?_, ?_, ?_⟩
    · rw [List.mem_singleton] at hx
      subst hx
      exact s3.free nfl
    · simp [a4, a5, a6, Ne.symm a6]
    · rw [upd_ne a2.symm]
      exact hl4
    · rw [upd_ne a3.symm]
      exact upd_same
    · exact ⟨q, fl, [], [], .non, [], rfl, rfl, (tx_ins (o := .ins (He.ga K "Machine") dx (inMachine5 (.int (n : Nat)) (.ref lp) (.ref pl) (.int 0) (.int 1))) h4) _ _ hq, rfl, by rw [upd_ne a1.symm]; exact hfl, .nil, rfl, rfl⟩
    · show 0 + room ≤ 1000
      omega
def spMHandled (K : PySem.W.Frag) : Sp := fun vs H Q _ => ∃ (H0 : Hp) (p : Addr) (vv : V) (st : MS) (h : MHd) (fr : List MF) (rest : List MP) (i : Int), vs = [.ref p, vv] ∧ MO (He.ga K "Machine") H0 H p st ∧ IntAt H i vv ∧ st.pcs = (some h, fr) :: rest ∧
  ∀ H' t, Tx H H' → MO (He.ga K "Machine") H0 H' p { st with pcs := rest } → TriAt H' (.go h.f (.cons h.r (.int i) h.env)) (.ref t) → Q (.ref t) H'
theorem ok_Machine_handled (T : Fx K w mg) : FnOk P w K mg base CX0 1 (He.ma K (He.ga K "Machine") "handled") (fdOf K ("Machine", some "handled")) ["self", "value"] (spMHandled K) := by
  refine T.Machine_handled.F.ok sc_Machine_handled (fun vs H Q E h => ?_) (fun cdv A outer s H vs Q E hr h => ?_)
  · obtain ⟨_, _, _, _, _, _, _, _, rfl, _⟩ := h
    rfl
  · obtain ⟨H0, p, vv, st, h, fr, rest, i, rfl, ⟨dx, lp, pl, vs, fls, kept, most, R⟩, hv, hp, k⟩ := h
    refine ⟨_, (pss_cons (ps_asg (pe_ix ix_tup (pe_bm0 PySem.F.plainAttrs_list PySem.F.slot_list_pop PySem.F.type_list_pop mt_pop (pe_fld (pv 0) rfl)) pe_int (fun _ _ => rfl)) (pg_tup rfl (pgs_cons (pg_name (i := 2) sc_Machine_handled.nd rfl (Or.inl rfl)) (pgs_cons (pg_name (i := 3) sc_Machine_handled.nd rfl (Or.inl rfl)) (pgs_cons (pg_name (i := 4) sc_Machine_handled.nd rfl (Or.inl rfl)) (pgs_cons (pg_name (i := 5) sc_Machine_handled.nd rfl (Or.inl rfl)) pgs_nil))))))
      (pss_one (ps_ret (pe_tup (pa_cons (pv 3) (pa_cons (pe_tup (pa_cons (pv 2) (pa_cons (pv 1) (pa_cons (pv 5) pa_nil)))) (pa_cons pe_non pa_nil))))))), ?_⟩
    have pc := R.pc
    rw [hp] at pc
    obtain ⟨q, fl, vs', fls', vh, fs, rfl, rfl, hq, hh, hfl, hrr, hrest⟩ := pc
    have hO := R.ob
    have hpi := R.pi
    rw [List.reverse_cons] at hpi
    walk_at "Machine.pieces"
    refine ⟨.inl ⟨rfl, _, SqL.of hpi⟩, pl, _, _, rfl, rfl, hpi, rev_last, ?_⟩
    rw [List.dropLast_concat]
    have R1 := R.pop hp hrest
    have t1 : Tx H (upd H pl (.lst vs'.reverse)) := tx_lst R.pi
    obtain ⟨qh, vf, vg, c, d, ve, rfl, h1, h2, h3, hF, hG, hE⟩ := hh
    refine ⟨q, _, _, _, rfl, rfl, SqT.of (t1 _ _ hq), rfl, qh, _, rfl, SqT.of (t1 _ _ h1), rfl, _, _, rfl, _, _, rfl, _, _, rfl, _, _, rfl, rfl, ?_⟩
    refine ⟨_, rfl, _, rfl, _, rfl, _, rfl, by show 3 ≤ sizeLine; decide, fun t nt => ⟨by show 3 ≤ sizeLine; decide, fun t2 nt2 => ?_⟩⟩
    have s2 := same_new nt (.tup [V.str h.r.s, vv, ve])
    have s3 := same_new nt2 (.tup [vf, V.ref t, V.non])
    have t4 := t1.trans (Tx.same (s2.trans s3))
    exact k _ _ t4 ⟨dx, lp, pl, _, _, _, _, R1.ext (s2.trans s3)⟩ ⟨t2, vf, .ref t, .non, rfl, upd_same, hF.mono t4, t, vv, ve, rfl, s3 _ _ upd_same, hv.mono t4, hE.mono t4⟩
def spMAnswer (K : PySem.W.Frag) : Sp := fun vs H Q _ => ∃ (H0 : Hp) (p d : Addr) (pl : Int) (vv ve vg : V) (st : MS) (h : MHd) (fr : List MF) (p1 : MP) (rest : List MP) (i : Int), vs = [.ref p, .int pl, .ref d, vv, ve] ∧ MO (He.ga K "Machine") H0 H p st ∧ IntAt H i vv ∧ st.pcs = (some h, fr) :: p1 :: rest ∧ pl = (rest.length : Int) + 1 ∧
  H d = some (.tup [.str h.o.s, .str h.x.s, .str h.k.s, vg]) ∧ AtM H h.g vg ∧ EnvAt H h.env ve ∧
  ∀ H' t, Tx H H' → MO (He.ga K "Machine") H0 H' p { st with pcs := p1 :: rest } → TriAt H' (.go h.g (.cons h.k .kept (.cons h.x (.int i) h.env))) (.ref t) → Q (.ref t) H'
/-- tuple(e) -/
def rTupOf (K : PySem.W.Frag) : List V → Hp → VK → Prop := fun xs H Q => ∃ p ys, xs = [.ref p] ∧ ((SqL K H p ys ∧ ∀ l, H l = none → Q (.ref l) (upd H l (.tup ys))) ∨ (SqT K H p ys ∧ Q (.ref p) H))
theorem cut_take {x : V} {xs : List V} : cutV (x :: xs).reverse none (some ((xs.length : Nat) : Int)) = xs.reverse := by
  have := cut_tail (us := []) (x := x) (ws := xs)
  exact this
theorem cut_drop {x : V} {xs : List V} : cutV (x :: xs).reverse (some ((xs.length : Nat) : Int)) none = [x] := by
  unfold cutV
  rw [HT.sIx_none, HT.sIx_nat, List.reverse_cons]
  simp
theorem ok_Machine_answer (T : Fx K w mg) : FnOk P w K mg base CX0 1 (He.ma K (He.ga K "Machine") "answer") (fdOf K ("Machine", some "answer")) ["self", "place", "clause", "value", "env"] (spMAnswer K) := by
  refine T.Machine_answer.F.ok sc_Machine_answer (fun vs H Q E h => ?_) (fun cdv A outer s H vs Q E hr h => ?_)
  · obtain ⟨_, _, _, _, _, _, _, _, _, _, _, _, _, rfl, _⟩ := h
    rfl
  · obtain ⟨H0, p, d, plc, vv, ve, vg, st, h, fr, p1, rest, i, rfl, ⟨dx, lp, pl, vs, fls, kept, most, R⟩, hv, hp, rfl, hd, hg, he, k⟩ := h
    refine ⟨_, (pss_cons (ps_set (i := 5) sc_Machine_answer.nd rfl (Or.inl rfl) (pe_slice sl_list (pe_fld (pv 0) rfl) (po_some (pv 1)) po_none))
      (pss_cons (ps_fld (pv 0) (pe_slice sl_list (pe_fld (pv 0) rfl) po_none (po_some (pv 1))) rfl)
      (pss_cons (ps_fldaug (pv 0) (pe_callB call_len_seq (by rfl) T.n_len (by decide +kernel) (pa_cons (pv 5) pa_nil)) in_add)
      (pss_cons (ps_set (i := 6) sc_Machine_answer.nd rfl (Or.inl rfl) (pe_callTy call_tuple_of (by rfl) T.n_tuple (by decide +kernel) (pa_cons (pe_lc (own := [("handler", 8), ("frames", 9)]) (g := gTup K 2 (gCons (gName 8) (gCons (gName 9) gNil))) (te := tTup (tCons (tVar 8) (tCons (tCB (rTupOf K) (tCons (tVar 9) tNil)) tNil))) rfl sc_Machine_answer.nd (pi_list (pv 5)) (blkOk_by (sc := defScope s_Machine_answer) (own := [("handler", 8), ("frames", 9)]) (N := ["self", "place", "clause", "value", "env", "taken", "pieces", "inner", "handler", "frames"]) (by decide +kernel)) (fun _ _ _ _ _ => pg_tup rfl (pgs_cons (pg_name (i := 8) sc_Machine_answer.nd rfl (Or.inl rfl)) (pgs_cons (pg_name (i := 9) sc_Machine_answer.nd rfl (Or.inl rfl)) pgs_nil))) (fun _ _ _ _ _ => pts_nil) (fun _ _ _ _ _ => (pe_tup (pa_cons (pv 8) (pa_cons (pe_callTy call_tuple_of (by rfl) T.n_tuple (by decide +kernel) (pa_cons (pv 9) pa_nil)) pa_nil))))) pa_nil)))
      (pss_cons (ps_set (i := 7) sc_Machine_answer.nd rfl (Or.inl rfl) (pe_tup (pa_cons (pe_ix ix_tup (pv 2) pe_int (fun _ _ => rfl)) (pa_cons (pe_tup (pa_cons pe_str (pa_cons (pv 6) pa_nil))) (pa_cons (pe_tup (pa_cons (pe_ix ix_tup (pv 2) pe_int (fun _ _ => rfl)) (pa_cons (pv 3) (pa_cons (pv 4) pa_nil)))) pa_nil)))))
      (pss_one (ps_ret (pe_tup (pa_cons (pe_ix ix_tup (pv 2) pe_int (fun _ _ => rfl)) (pa_cons (pv 7) (pa_cons pe_non pa_nil))))))))))), ?_⟩
    have pc := R.pc
    rw [hp] at pc
    obtain ⟨q, fl, vs', fls', vh, fs, rfl, rfl, hq, hh, hfl, hrr, hrest⟩ := pc
    have hlen : (rest.length : Int) + 1 = ((vs'.length : Nat) : Int) := by
      have := hrest.len
      rw [List.length_cons] at this
      omega
    rw [hlen]
    have hO := R.ob
    have nd := R.nd
    have nd2 := List.nodup_cons.mp nd
    have nd3 := List.nodup_cons.mp nd2.2
    walk_at "Machine.pieces"
    refine ⟨_, rfl, _, rfl, pl, _, rfl, SqL.of R.pi, fun tk ntk => ?_⟩
    rw [cut_drop]
    have s1 := same_new ntk (.lst [V.ref q])
    have R1 := R.ext s1
    have hO := R1.ob
    walk_at "Machine.pieces"
    refine ⟨_, rfl, _, rfl, pl, _, rfl, SqL.of R1.pi, fun pl2 npl2 => ?_⟩
    rw [cut_take]
    have s2 := same_new npl2 (.lst vs'.reverse)
    have R2 := R1.ext s2
    refine wr_Machine_pieces (K := K) T rfl R2.ob ?_
    have n0 : H0 pl2 = none := R1.s0.free npl2
    have a1 : p ≠ pl2 := ne_of_none R1.ob npl2
    have a2 : lp ≠ pl2 := ne_of_none R1.pr npl2
    have a3 : ∀ x ∈ fls', x ≠ pl2 := fun x hx z => by
      obtain ⟨xs, e⟩ := hrest.lst x hx
      rw [← z] at npl2
      rw [s1 _ _ e] at npl2
      cases npl2
    have b1 := ne_il R2.ob R2.pr
    have t3 := (Tx.same (s1.trans s2)).trans (tx_ins (o := .ins (He.ga K "Machine") dx (flMachine (.int (st.left : Nat)) (.ref lp) (.ref pl2) (.int kept) (.int most))) R2.ob)
    have R3 : MAt (He.ga K "Machine") H0 (upd (upd (upd H tk (.lst [V.ref q])) pl2 (.lst vs'.reverse)) p (.ins (He.ga K "Machine") dx (flMachine (.int (st.left : Nat)) (.ref lp) (.ref pl2) (.int kept) (.int most)))) p { st with pcs := p1 :: rest } dx lp pl2 vs' fls' kept most := by
      refine ⟨same_upd R2.s0 R.np, R.np, R.nl, n0, fun x hx => R.nf x (List.mem_cons_of_mem _ hx), ?_, upd_same, by rw [upd_ne b1.symm]; exact R2.pr, by rw [upd_ne a1.symm]; exact upd_same, ?_, R.pb⟩
      · refine List.nodup_cons.mpr ⟨fun z => ?_, List.nodup_cons.mpr ⟨fun z => a3 _ z rfl, (List.nodup_cons.mp nd3.2).2⟩⟩
        rcases List.mem_cons.mp z with z | z
        · exact a2 z
        · exact nd2.1 (List.mem_cons_of_mem _ (List.mem_cons_of_mem _ z))
      · exact hrest.mono t3 fun x hx xs e => by rw [upd_ne (R.nep x (List.mem_cons_of_mem _ hx))]; exact (s1.trans s2) _ _ e
    have htk : (upd (upd (upd H tk (.lst [V.ref q])) pl2 (.lst vs'.reverse)) p (.ins (He.ga K "Machine") dx (flMachine (.int (st.left : Nat)) (.ref lp) (.ref pl2) (.int kept) (.int most)))) tk = some (.lst [V.ref q]) := by
      rw [upd_ne (ne_of_none R.ob ntk).symm]
      exact s2 _ _ upd_same
    have hfl3 : (upd (upd (upd H tk (.lst [V.ref q])) pl2 (.lst vs'.reverse)) p (.ins (He.ga K "Machine") dx (flMachine (.int (st.left : Nat)) (.ref lp) (.ref pl2) (.int kept) (.int most)))) fl = some (.lst fs.reverse) := by
      rw [upd_ne (R.nep fl List.mem_cons_self)]
      exact (s1.trans s2) _ _ hfl
    generalize upd (upd (upd H tk (.lst [V.ref q])) pl2 (.lst vs'.reverse)) p (.ins (He.ga K "Machine") dx (flMachine (.int (st.left : Nat)) (.ref lp) (.ref pl2) (.int kept) (.int most))) = H3 at R3 t3 htk hfl3
    -- self.kept += len(taken)
    have hO := R3.ob
    refine ⟨_, rfl, p, _, dx, _, _, rfl, hO, T.Machine.cl, T.na_Machine_kept, lk_Machine_kept, _, rfl, tk, _, rfl, .inl (SqL.of htk), _, _, rfl, rfl, dx, _, hO, ln_Machine, ?_⟩
    rw [pf_Machine_kept]
    have R4 := R3.set (l := st.left) (k := kept + (([V.ref q] : List V).length : Nat)) (m := most)
    have t4 := t3.trans (tx_ins (o := .ins (He.ga K "Machine") dx (flMachine (.int (st.left : Nat)) (.ref lp) (.ref pl2) (.int (kept + (([V.ref q] : List V).length : Nat))) (.int most))) R3.ob)
    have htk4 : (upd H3 p (.ins (He.ga K "Machine") dx (flMachine (.int (st.left : Nat)) (.ref lp) (.ref pl2) (.int (kept + (([V.ref q] : List V).length : Nat))) (.int most)))) tk = some (.lst [V.ref q]) := by
      rw [upd_ne (ne_il R3.ob htk).symm]
      exact htk
    have hfl4 : (upd H3 p (.ins (He.ga K "Machine") dx (flMachine (.int (st.left : Nat)) (.ref lp) (.ref pl2) (.int (kept + (([V.ref q] : List V).length : Nat))) (.int most)))) fl = some (.lst fs.reverse) := by
      rw [upd_ne (ne_il R3.ob hfl3).symm]
      exact hfl3
    generalize upd H3 p (.ins (He.ga K "Machine") dx (flMachine (.int (st.left : Nat)) (.ref lp) (.ref pl2) (.int (kept + (([V.ref q] : List V).length : Nat))) (.int most))) = H4 at R4 t4 htk4 hfl4
    -- pieces = tuple([(handler, tuple(frames)) for handler, frames in taken])
    refine ⟨_, rfl, tk, rfl, ⟨_, SqL.of htk4⟩, fun D nD => ?_⟩
    refine lc_list (K := K) (a := tk) (xs := [.ref q]) (fun j H' => Same H4 H' ∧ ∃ acc, H' D = some (.lst acc) ∧ acc.length = j) ⟨same_new nD _, [], upd_same, rfl⟩ (fun j H' _ ⟨s, _⟩ => SqL.of (s _ _ htk4)) ?_ ?_
    · rintro j y H' hy ⟨s5, acc, hD, ha⟩
      have hj : j < 1 := (List.getElem?_eq_some_iff.mp hy).1
      have ej : j = 0 := by omega
      subst ej
      have ey : y = .ref q := by simpa using hy.symm
      subst ey
      refine ⟨q, _, rfl, SqT.of (s5 _ _ (t4 _ _ hq)), rfl, _, _, rfl, _, _, rfl, rfl, rfl, ?_⟩
      refine ⟨_, rfl, _, rfl, fl, _, rfl, .inl ⟨SqL.of (s5 _ _ hfl4), fun x1 nx1 => ⟨by show 2 ≤ sizeLine; decide, fun x2 nx2 => ?_⟩⟩⟩
      have s6 := same_new nx1 (.tup fs.reverse)
      have s7 := same_new nx2 (.tup [vh, V.ref x1])
      exact ⟨acc, (s6.trans s7) _ _ hD, small1000 (by omega), same_upd (s5.trans (s6.trans s7)) nD, _, upd_same, by rw [List.length_append, List.length_singleton, ha]⟩
    · rintro H' ⟨s5, acc, hD, ha⟩
      refine ⟨D, _, rfl, .inl ⟨SqL.of hD, fun tp ntp => ?_⟩⟩
      have s6 := same_new ntp (.tup acc)
      have t6 := t4.trans (Tx.same (s5.trans s6))
      have hd6 := t6 _ _ hd
      -- inner = (clause[2], ("kept", pieces), (clause[1], value, env))
      refine ⟨_, rfl, d, _, _, _, rfl, rfl, SqT.of hd6, rfl, _, rfl, by show 2 ≤ sizeLine; decide, fun x1 nx1 => ?_⟩
      have s7 := same_new nx1 (.tup [V.str "kept", V.ref tp])
      refine ⟨_, rfl, d, _, _, _, rfl, rfl, SqT.of (s7 _ _ hd6), rfl, _, rfl, _, rfl, by show 3 ≤ sizeLine; decide, fun x2 nx2 => ⟨by show 3 ≤ sizeLine; decide, fun x3 nx3 => ?_⟩⟩
      have s8 := same_new nx2 (.tup [V.str h.x.s, vv, ve])
      have s9 := same_new nx3 (.tup [V.str h.k.s, V.ref x1, V.ref x2])
      refine ⟨_, rfl, d, _, _, _, rfl, rfl, SqT.of ((s7.trans (s8.trans s9)) _ _ hd6), rfl, _, rfl, by show 3 ≤ sizeLine; decide, fun x4 nx4 => ?_⟩
      have s10 := same_new nx4 (.tup [vg, V.ref x3, V.non])
      have sall := s5.trans (s6.trans (s7.trans (s8.trans (s9.trans s10))))
      have tall := t4.trans (Tx.same sall)
      exact k _ _ tall ⟨dx, lp, pl2, _, _, _, _, R4.ext sall⟩ ⟨x4, vg, .ref x3, .non, rfl, upd_same, hg.mono tall, x3, .ref x1, .ref x2, rfl, s10 _ _ upd_same, trivial, x2, vv, ve, rfl, (s9.trans s10) _ _ upd_same, hv.mono tall, he.mono tall⟩
end
end AF

namespace AF
open PySem PySem.Spec PyProof.Rows L2
def spSI (K : PySem.W.Frag) : Sp := fun vs H Q _ => ∃ e v, vs = [.ref e, v] ∧ H e = some (exo e (stC K) none) ∧ ∀ dx, H dx = none → dx ≠ e → Q .non (upd (upd H dx (exd dx [("end", v)])) e (exo e (stC K) (some dx)))
structure StopP (P : Program) : Prop where
  file : P.main.file = "/claim/cut.py"
  top : (P.main.scope.names.lookup ("super" : Str)).isSome = false
section
variable {P : Program} {w : World} {K : PySem.W.Frag} {mg : Str → Option Value} {base : Heap}
theorem ok_Stop_init (S : StopK K) (SP : StopP P) (ns : mg "super" = none) : FnOk P w K mg base CX0 1 (stI K) (fdOf K ("Stop", some "__init__")) ["self", "end"] (spSI K) := by
  obtain ⟨oc, od, osl, nm, q, y1, y2, z1, z2, j, mo, cc, cda, kv, doc, pm, an, ct, lk, hcd, ⟨ca, cb, vs, cd, t, hco, hvs⟩, xa, xb, xd, hcell⟩ := S.fn
  obtain ⟨cn, cq, N, bs, sn, sub, ab, col, dd, k0, k1, k2, k3, k5, hC⟩ := S.cls
  have efd : fdOf K ("Stop", some "__init__") = sFd nm q y1 y2 z1 z2 j mo cc cda kv doc pm an ct := by
    unfold fdOf
    rw [show He.fAd K ("Stop", some "__init__") = stI K from rfl, lk]
  rw [efd]
  refine ⟨fun vs H Q E h => ?_, fun A outer s H args us vs Q E hr e0 hb r hsp => ?_⟩
  · obtain ⟨e, v, rfl, _⟩ := h
    rfl
  obtain ⟨e, v, rfl, he, k⟩ := hsp
  cases r with
  | @cons _ ue _ us' re r' =>
  obtain rfl : ue = Value.ref e := re
  cases r' with
  | @cons _ u _ us2 ru r2 =>
  cases r2
  have kb : ∀ b o, base.get? b = some o → s.heap.get? b = some o := fun b o z => (e0.bs b o z).1
  have KX : K.In s.heap := e0.mod.kin.keeps kb
  have lim : s.heap.NoLimit := e0.mod.nolimit.keeps kb
  obtain ⟨t1, ho⟩ := exo_at e0.hok he
  obtain ⟨mb, hmb, hbl⟩ := e0.mod.blt
  have hok := e0.hok
  have hbare := e0.bare
  obtain ⟨hp, g, d, tk, os⟩ := s
  refine ks_codeAny_call_defAt (body := [.Expr (.Call (.Attribute (.Call (.Name "super" ⟨213, 8, 213, 13⟩) [] [] ⟨213, 8, 213, 15⟩) "__init__" ⟨213, 8, 213, 24⟩) [.Constant (.str "stopped") j ⟨213, 25, 213, 34⟩] [] ⟨213, 8, 213, 35⟩) ⟨213, 8, 213, 35⟩, .Assign [.Attribute (.Name "self" ⟨214, 8, 214, 12⟩) "end" ⟨214, 8, 214, 16⟩] (.Name "end" ⟨214, 19, 214, 22⟩) ⟨214, 8, 214, 22⟩])
    hr.depth (KX _ _ lk) rfl lim (PySem.W.codeRec_of KX hcd) rfl hb (by show ∀ x ∈ sNs, x.2 ≠ .cell; decide +kernel) (fun x hx => ?_) fun h1 hns hk1 => ?_
  · have hx2 : x ∈ [(("self" : Str), Value.ref e), (("end" : Str), u)] := hx
    rcases List.mem_cons.mp hx2 with rfl | hx2
    · exact (show sNs.lookup ("self" : Str) = some NameKind.local by decide +kernel)
    · rw [List.mem_singleton] at hx2
      subst hx2
      exact (show sNs.lookup ("end" : Str) = some NameKind.local by decide +kernel)
  have K1 := KX.keeps hk1
  have G1 : h1.Ns mainGlobals mg := e0.mod.glob.keeps fun b o z => hk1 b o (kb b o z)
  have B1 : h1.Ns builtinsNs mb := hmb.keeps fun b o z => hk1 b o (kb b o z)
  refine ks_wpAt_execs_cons (ks_wpAt_Expr_any (ks_wpAt_MethodCall (ks_wpAt_super_base (attr := "__init__") (cc := cda) rfl rfl (by decide) rfl (K1 _ _ lk) rfl rfl rfl (K1 _ _ hco) rfl (by rw [← Array.getElem?_toList]; exact hvs) (by rw [SP.file]; decide +kernel) SP.top ?_)))
  refine PySem.W.ks_loadName_global rfl rfl (Calls.loadGlobal_builtin G1 ns B1 ((hbl "super" (by decide)).trans (by kernel_rfl)) ⟨rfl, ?_⟩)
  refine wpAny_loadName_free rfl rfl rfl ⟨_, K1 _ _ hcell, rfl⟩ ?_
  refine wpAny_loadName_local rfl rfl hns rfl ?_
  refine ks_wpAny_isType_cls (K1 _ _ hC) rfl ⟨rfl, ?_⟩
  have ho1 := hk1 _ _ ho
  have hcl : PySem.W.clsIn K (stC K) = some { name := cn, bases := bs, mro := .ref (stC K) :: ESX.exTail, ns := N, qualname := cq, hasDict := true, slotNames := sn, subclasses := sub, abstract := ab, collection := col, hasDel := false } := by unfold PySem.W.clsIn; rw [hC] <;> rfl
  refine ks_wpAny_call_super (K1 _ _ hC) rfl ho1 rfl (fun c z => nomatch z) (PySem.W.looks_mroIn K1 (ESX.mro_has hcl rfl (by rw [List.contains_cons, beq_self_eq_true, Bool.true_or]))) (fun h2 e2 k2 => ?_)
  have K2 := K1.keeps k2
  have ho2 := k2 _ _ ho1
  have neC : e ≠ stC K := fun z => by
    rw [z] at ho
    rw [KX _ _ hC] at ho
    cases ho
  have hIn : PySem.W.Looks (model P w) h2 (isInstance (.ref e) (.type "Exception")) true := PySem.W.Looks.andThen (fun A Q E s k q => wpAny_typeOf_ref (k _ _ ho2) q) (PySem.W.looks_subIn K2 S.se)
  refine ESX.getMethod_super e2 (PySem.W.looks_opaque K2 S.op) (l₀ := .ref (stC K) :: ESX.exTail) (fun A Q E s k q => wpAny_bind ((PySem.W.looks_clsIn K2 hcl) A _ E s k (wpAny_pure q))) (ESX.drop_own _ _) K2 (ESX.along_init K) neC (by decide) hIn ?_
  refine ESX.callWith_bound (x := e) ?_
  refine Calls.spliced_cons ?_
  refine Calls.Constant_str (pos := ⟨213, 25, 213, 34⟩) (k := j) ?_
  refine Calls.spliced_nil ⟨Heap.get?_push_size _ rfl, ?_⟩
  have k3 : ∀ b o, h2.get? b = some o → (h2.push (ESX.bw e)).get? b = some o := fun b o z => Heap.get?_push_of_some _ z
  refine ESX.call_bw (K2.keeps k3 _ _ hC) (t0 := t1) (k3 _ _ ho2) (Heap.get?_push_size _ rfl) (by show 1 ≤ sizeLine; decide) (fun h4 t4 k4 ho4 => ?_)
  -- self.end = end
  have kk : ∀ b o, b ≠ e → hp.get? b = some o → h4.get? b = some o := fun b o n z => k4 b o n (k3 b o (k2 b o (hk1 b o z)))
  have K4 : K.In h4 := fun a o z => kk a o (fun q => by
    rw [← q] at he
    have y := KX _ _ z
    have y2 := e0.mod.kin _ _ z
    rw [(e0.bs _ _ y2).2] at he
    cases he) (KX _ _ z)
  have nL : hp.objs.size ≠ e := Nat.ne_of_gt (Heap.lt_size ho)
  have hns4 : h4.Ns hp.objs.size (fun y => ([(("self" : Str), Value.ref e), (("end" : Str), u)].reverse).lookup y) := by
    obtain ⟨oL, es, ep, hL, rr⟩ := hns
    exact ⟨oL, es, ep, k4 _ _ nL (k3 _ _ (k2 _ _ hL)), rr⟩
  refine ks_wpAt_execs_cons (wpAt_of_wpAny (plainObj_wpAny_Assign_Attribute ?_))
  refine ESX.ldL (v := u) hns4 rfl ?_
  refine ESX.ldL (v := .ref e) hns4 rfl ?_
  refine PySem.W.set_plain K4 (ox := { cls := .ref (stC K), dict := none, data := .fields #[.ref t4, .none, .none, .none, .bool false, .none] }) (od := none) ⟨ho4, rfl, rfl, trivial⟩ S.sa ?_
  refine ESX.osa_new K4 ho4 hcl rfl rfl S.ed (fun h5 tk5 dx k5 dn dne hx hn => ?_)
  refine wpAt_of_wpAny (wpAny_execs_nil ?_)
  have ka : ∀ b o, b ≠ e → hp.get? b = some o → h5.get? b = some o := fun b o n z => k5 b o n (kk b o n z)
  have nd : ∀ {b : Addr} {o : Obj}, hp.get? b = some o → b ≠ dx := fun {b o} z => by
    by_cases q : b = e
    · rw [q]; exact dne.symm
    · exact Nat.ne_of_lt (Nat.lt_of_lt_of_le (Heap.lt_size (kk b o q z)) dn)
  have hnd : H dx = none := hok.gone (by
    cases z : hp.get? dx with
    | none => rfl
    | some o => exact absurd rfl (nd z))
  have na : ∀ {b : Addr}, H b = none → b ≠ e := fun {b} n z => by
    rw [z, he] at n
    cases n
  refine ⟨.non, _, rfl, hbare, ?_, ?_, rfl, k dx hnd dne⟩
  · exact {
      keep := fun b o q n _ _ => ka b o (na n) q
      slot := fun b o q n _ _ => ⟨o.slots, ka b o (na n) q⟩
      free := fun b o q n _ => by rw [upd_ne (na n), upd_ne (nd q)]; exact n
      there := fun b o q _ => by
        by_cases hb : b = e
        · exact ⟨_, by rw [hb]; exact hx⟩
        · exact ⟨o, ka b o hb q⟩
      tups := fun b xs q => by rw [upd_ne (at_ne he q exo_tup), upd_ne (ne_of_none q hnd)]; exact q
      frzs := fun b o v q => by rw [upd_ne (at_ne he q exo_frz), upd_ne (ne_of_none q hnd)]; exact q
      tbls := fun b ps q => ⟨#[], by rw [upd_ne (at_ne he q exo_tbl), upd_ne (ne_of_none q hnd), q]; simp⟩ }
  · intro b o q
    by_cases hb : b = e
    · subst hb
      rw [upd_same] at q
      cases q
      exact exo_ok hx
    · rw [upd_ne hb] at q
      by_cases hd : b = dx
      · subst hd
        rw [upd_same] at q
        cases q
        exact exd_ok hn (relO_put (fs := []) ru fun g => True.intro)
      · rw [upd_ne hd] at q
        exact (hok b o q).stay (fun c v hc z => ka c v (by
            rcases hc with hc | hc
            · rw [hc]
              exact hb
            · exact at_ne he hc exo_own) z)
          (fun c hc => by rw [upd_ne (at_ne he hc exo_own), upd_ne (ne_of_none hc hnd)]; exact hc) (fun c xs hc => by rw [upd_ne (at_ne he hc exo_tup), upd_ne (ne_of_none hc hnd)]; exact hc)
end
end AF

namespace AF
open PySem PySem.Spec PyProof.Rows L2
/-- Stop(e) -/
def tStop (K : PySem.W.Frag) (ta : TA) : L2.St → Hp → XK → Prop := fun σ H Q => ta σ H fun vs H1 => ∃ v, vs = [v] ∧ ∀ d, H1 d = none → Q (.ref (stC K)) (some d) (L2.upd H1 d (.xd [("end", v)]))
section
variable {X : Cx} {e : Expr} {ta : TA} {p pos : Pos}
theorem pmk_stop (S : StopK X.K) (SP : StopP X.prog) (ns : X.mg "super" = none) (hm : X.mg "Stop" = some (.ref (stC X.K))) (hb : Binds X.K (fdOf X.K ("Stop", some "__init__")) ["self", "end"] []) (hr : Room 2 X.A) (hg : Gl X "Stop") (ha : PA X [e] ta)
    (he : starEach [e] X.env = (false, eval e X.env) :: starEach [] X.env := by rfl) (hpl : (backTo pos (starEach [] X.env)).any (·.1) = false := by rfl) : PMk X (.Call (.Name "Stop" p) [e] [] pos) (tStop X.K ta) := by
  intro pins s σ H Q I h
  obtain ⟨nm, q, N, bs, sn, sub, ab, col, dd, k0, k1, k2, k3, k5, hC⟩ := S.cls
  have F1 := ok_Stop_init (P := X.prog) (w := X.w) (base := X.base) S SP ns
  have hT : ∀ Y : String, ESX.exTail.contains (.type Y) = ESX.exTail.contains (.type Y) := fun _ => rfl
  refine wpAny_Call_Name_kw (ld_glob I hg hm ?_ (by decide))
  refine PySem.W.callWith_K (h₀ := X.base) I.ok.mod.kin S.kp (thn (ha.run pos pins s σ H _ I h) fun us s1 ⟨vs, H1, I1, r1, q1⟩ => ⟨I1.kIn, ?_⟩) he hpl
  obtain ⟨v, rfl, q1⟩ := q1
  show wpAny _ _ (call (.ref (stC X.K)) us) _ _ _
  obtain ⟨hp, g, dr, tk, os⟩ := s1
  have hsz : hp.objs.size ≤ hp.objs.size + 1 := Nat.le_succ _
  have hn : H1 (hp.objs.size + 1) = none := I1.hok.fresh hsz
  have kk : ∀ b o, hp.get? b = some o → ((hp.push (PySem.W.kdv_tup us)).push (PySem.HandSPX.excO (stC X.K) hp.objs.size)).get? b = some o := fun b o e => Heap.get?_push_of_some _ (Heap.get?_push_of_some _ e)
  have hget : ((hp.push (PySem.W.kdv_tup us)).push (PySem.HandSPX.excO (stC X.K) hp.objs.size)).get? (hp.objs.size + 1) = some (PySem.HandSPX.excO (stC X.K) hp.objs.size) := by heap_get
  have I2 : Inv X pins σ (L2.upd H1 (hp.objs.size + 1) (exo (hp.objs.size + 1) (stC X.K) none)) ⟨(hp.push (PySem.W.kdv_tup us)).push (PySem.HandSPX.excO (stC X.K) hp.objs.size), g, dr, tk, os⟩ :=
    I1.laid (t' := tk) (a := hp.objs.size + 1) (o := exo (hp.objs.size + 1) (stC X.K) none) (h' := (hp.push (PySem.W.kdv_tup us)).push (PySem.HandSPX.excO (stC X.K) hp.objs.size)) kk hsz (exo_ok hget)
  have r2 : Vals (V.ref (hp.objs.size + 1) :: [v]) (Value.ref (hp.objs.size + 1) :: us) := .cons rfl r1
  have hl : (Value.ref (hp.objs.size + 1) :: us).length = ["self", "end"].length := by
    have e := r2.length
    exact e.symm
  have hus : us.length ≤ sizeLine := by
    have e : us.length = 1 := by simpa using hl
    rw [e]
    decide
  have hb2 := hb ⟨(hp.push (PySem.W.kdv_tup us)).push (PySem.HandSPX.excO (stC X.K) hp.objs.size), g, dr, tk, os⟩ (Value.ref (hp.objs.size + 1) :: us) I2.kIn (by rw [List.append_nil]; exact hl)
  rw [List.append_nil] at hb2
  refine wpAny_call (PySem.HandSPX.call_own F.excBase_Exception hT (I1.kIn _ _ hC) (PySem.W.looks_findIn I1.kIn S.ini) (fun self => PySem.W.bind_fn I1.kIn self S.tI) hus
    (codeAny_mono (F1.run _ X.stack _ _ ⟨Value.ref (hp.objs.size + 1) :: us, []⟩ (Value.ref (hp.objs.size + 1) :: us) _ (fun u H2 => u = .non ∧ ∃ dx, H1 dx = none ∧ dx ≠ hp.objs.size + 1 ∧ H2 = upd (upd (L2.upd H1 (hp.objs.size + 1) (exo (hp.objs.size + 1) (stC X.K) none)) dx (exd dx [("end", v)])) (hp.objs.size + 1) (exo (hp.objs.size + 1) (stC X.K) (some dx))) (fun _ _ _ => False) (hr.make (stC X.K) us []) (I2.env0.make (stC X.K) us []) hb2 r2 ?_) fun r s' hq' => ?_))
  · refine ⟨_, v, rfl, upd_same, fun dx n ne => ⟨rfl, dx, ?_, ne, rfl⟩⟩
    rw [upd_ne ne] at n
    exact n
  cases r with
  | error er => exact hq'.elim
  | ok fl =>
    cases fl with
    | ret u =>
      obtain ⟨v2, H2, os2, bare2, un2, hok2, rv, ev, dx, n1, ne, eH⟩ := hq'
      subst ev
      obtain ⟨h2, g2, d2, t2, os'⟩ := s'
      have ea : H2 (hp.objs.size + 1) = some (exo (hp.objs.size + 1) (stC X.K) (some dx)) := by rw [eH, upd_same]
      have ed : H2 dx = some (exd dx [("end", v)]) := by rw [eH, upd_ne ne, upd_same]
      have ef : upd (del H2 (hp.objs.size + 1)) dx (.xd [("end", v)]) = L2.upd H1 dx (.xd [("end", v)]) := by
        funext b
        by_cases q1 : b = dx
        · subst q1
          rw [upd_same, upd_same]
        · rw [upd_ne q1, upd_ne q1]
          by_cases q2 : b = hp.objs.size + 1
          · subst q2
            rw [del_same, hn]
          · rw [del_ne q2, eH, upd_ne q2, upd_ne q1, upd_ne q2]
      exact ⟨rv, mk_end (raises_own S.sb S.ty) I1 hsz kk un2 hok2 os2 bare2 ea ed n1 (by rw [ef]; exact q1 dx n1)⟩
    | next => exact False.elim hq'
    | brk => exact False.elim hq'
    | cont => exact False.elim hq'
end
theorem stop_binds {K : PySem.W.Frag} (S : StopK K) : Binds K (fdOf K ("Stop", some "__init__")) ["self", "end"] [] := by
  obtain ⟨oc, od, osl, nm, q, y1, y2, z1, z2, j, mo, cc, cda, kv, doc, pm, an, ct, lk, _⟩ := S.fn
  have efd : fdOf K ("Stop", some "__init__") = sFd nm q y1 y2 z1 z2 j mo cc cda kv doc pm an ct := by
    unfold fdOf
    rw [show He.fAd K ("Stop", some "__init__") = stI K from rfl, lk]
  rw [efd]
  exact .all fun us hl => match us, hl with | [_, _], _ => rfl
structure SX (P : Program) (K : PySem.W.Frag) (mg : Str → Option Value) : Prop where
  k : StopK K
  p : StopP P
  m : mg "Stop" = some (.ref (stC K))
end AF

namespace AF
open PySem PySem.Spec PyProof.Rows L2
local macro_rules | `(tactic| walk_at "skip") => `(tactic| repeat (refine ⟨_, rfl, rfl, _, rfl, br_f (by decide +kernel) ?_⟩))
local macro_rules | `(tactic| walk_at "hit") => `(tactic| refine ⟨_, rfl, rfl, _, rfl, br_t (by decide +kernel) ?_⟩)
local macro_rules | `(tactic| walk_at "or2") => `(tactic| refine ⟨_, rfl, rfl, _, rfl, br_f (by decide +kernel) ⟨_, rfl, rfl, _, rfl, br_f (by decide +kernel) ?_⟩⟩)
set_option hygiene false in
local macro_rules | `(tactic| walk_at "Run.current") => `(tactic| refine ⟨_, rfl, _, _, _, _, _, rfl, hO, T.Run.cl, T.na_Run_current, lk_Run_current, ?_⟩)
set_option hygiene false in
local macro_rules | `(tactic| walk_at "Run.frames") => `(tactic| refine ⟨_, rfl, _, _, _, _, _, rfl, hO, T.Run.cl, T.na_Run_frames, lk_Run_frames, ?_⟩)
set_option hygiene false in
local macro_rules | `(tactic| walk_at "Run.left") => `(tactic| refine ⟨_, rfl, _, _, _, _, _, rfl, hO, T.Run.cl, T.na_Run_left, lk_Run_left, ?_⟩)
set_option hygiene false in
local macro_rules | `(tactic| walk_at "Run.prints") => `(tactic| refine ⟨_, rfl, _, _, _, _, _, rfl, hO, T.Run.cl, T.na_Run_prints, lk_Run_prints, ?_⟩)
set_option hygiene false in
local macro_rules | `(tactic| walk_at "Run.end") => `(tactic| refine ⟨_, rfl, _, _, _, _, _, rfl, hO, T.Run.cl, T.na_Run_end, lk_Run_end, ?_⟩)
set_option hygiene false in
local macro_rules | `(tactic| walk_at "Machine.left") => `(tactic| refine ⟨_, rfl, _, _, _, _, _, rfl, hO, T.Machine.cl, T.na_Machine_left, lk_Machine_left, ?_⟩)
set_option hygiene false in
local macro_rules | `(tactic| walk_at "Machine.prints") => `(tactic| refine ⟨_, rfl, _, _, _, _, _, rfl, hO, T.Machine.cl, T.na_Machine_prints, lk_Machine_prints, ?_⟩)
set_option hygiene false in
local macro_rules | `(tactic| walk_at "Machine.pieces") => `(tactic| refine ⟨_, rfl, _, _, _, _, _, rfl, hO, T.Machine.cl, T.na_Machine_pieces, lk_Machine_pieces, ?_⟩)
set_option hygiene false in
local macro_rules | `(tactic| walk_at "Machine.kept") => `(tactic| refine ⟨_, rfl, _, _, _, _, _, rfl, hO, T.Machine.cl, T.na_Machine_kept, lk_Machine_kept, ?_⟩)
set_option hygiene false in
local macro_rules | `(tactic| walk_at "Machine.most") => `(tactic| refine ⟨_, rfl, _, _, _, _, _, rfl, hO, T.Machine.cl, T.na_Machine_most, lk_Machine_most, ?_⟩)
set_option hygiene false in
local macro_rules | `(tactic| walk_at "Piece.kind") => `(tactic| refine ⟨_, rfl, _, _, _, _, _, rfl, hO, T.Piece.cl, T.na_Piece_kind, lk_Piece_kind, ?_⟩)
set_option hygiene false in
local macro_rules | `(tactic| walk_at "Piece.handler") => `(tactic| refine ⟨_, rfl, _, _, _, _, _, rfl, hO, T.Piece.cl, T.na_Piece_handler, lk_Piece_handler, ?_⟩)
set_option hygiene false in
local macro_rules | `(tactic| walk_at "Piece.frames") => `(tactic| refine ⟨_, rfl, _, _, _, _, _, rfl, hO, T.Piece.cl, T.na_Piece_frames, lk_Piece_frames, ?_⟩)
set_option hygiene false in
local macro_rules | `(tactic| walk_at "Piece.distance") => `(tactic| refine ⟨_, rfl, _, _, _, _, _, rfl, hO, T.Piece.cl, T.na_Piece_distance, lk_Piece_distance, ?_⟩)
set_option hygiene false in
local macro_rules | `(tactic| walk_at "Piece.table") => `(tactic| refine ⟨_, rfl, _, _, _, _, _, rfl, hO, T.Piece.cl, T.na_Piece_table, lk_Piece_table, ?_⟩)
set_option hygiene false in
local macro_rules | `(tactic| walk_at "Runner.blocks") => `(tactic| refine ⟨_, rfl, _, _, _, _, _, rfl, hO, T.Runner.cl, T.na_Runner_blocks, lk_Runner_blocks, ?_⟩)
set_option hygiene false in
local macro_rules | `(tactic| walk_at "Runner.left") => `(tactic| refine ⟨_, rfl, _, _, _, _, _, rfl, hO, T.Runner.cl, T.na_Runner_left, lk_Runner_left, ?_⟩)
set_option hygiene false in
local macro_rules | `(tactic| walk_at "Runner.prints") => `(tactic| refine ⟨_, rfl, _, _, _, _, _, rfl, hO, T.Runner.cl, T.na_Runner_prints, lk_Runner_prints, ?_⟩)
set_option hygiene false in
local macro_rules | `(tactic| walk_at "Runner.kept") => `(tactic| refine ⟨_, rfl, _, _, _, _, _, rfl, hO, T.Runner.cl, T.na_Runner_kept, lk_Runner_kept, ?_⟩)
set_option hygiene false in
local macro_rules | `(tactic| walk_at "Runner.end") => `(tactic| refine ⟨_, rfl, _, _, _, _, _, rfl, hO, T.Runner.cl, T.na_Runner_end, lk_Runner_end, ?_⟩)
set_option hygiene false in
local macro_rules | `(tactic| walk_at "Runner.pieces") => `(tactic| refine ⟨_, rfl, _, _, _, _, _, rfl, hO, T.Runner.cl, T.na_Runner_pieces, lk_Runner_pieces, ?_⟩)
set_option hygiene false in
local macro_rules | `(tactic| walk_at "Runner.rows") => `(tactic| refine ⟨_, rfl, _, _, _, _, _, rfl, hO, T.Runner.cl, T.na_Runner_rows, lk_Runner_rows, ?_⟩)
set_option hygiene false in
local macro_rules | `(tactic| walk_at "Runner.at") => `(tactic| refine ⟨_, rfl, _, _, _, _, _, rfl, hO, T.Runner.cl, T.na_Runner_at, lk_Runner_at, ?_⟩)
set_option hygiene false in
local macro_rules | `(tactic| walk_at "Runner.bindings") => `(tactic| refine ⟨_, rfl, _, _, _, _, _, rfl, hO, T.Runner.cl, T.na_Runner_bindings, lk_Runner_bindings, ?_⟩)
set_option hygiene false in
local macro_rules | `(tactic| walk_at "Runner.operands") => `(tactic| refine ⟨_, rfl, _, _, _, _, _, rfl, hO, T.Runner.cl, T.na_Runner_operands, lk_Runner_operands, ?_⟩)
set_option hygiene false in
local macro_rules | `(tactic| walk_at "Code.blocks") => `(tactic| refine ⟨_, rfl, _, _, _, _, _, rfl, hO, T.Code.cl, T.na_Code_blocks, lk_Code_blocks, ?_⟩)
set_option hygiene false in
local macro_rules | `(tactic| walk_at "Compiler.blocks") => `(tactic| refine ⟨_, rfl, _, _, _, _, _, rfl, hO, T.Compiler.cl, T.na_Compiler_blocks, lk_Compiler_blocks, ?_⟩)
set_option hygiene false in
local macro_rules | `(tactic| walk_at "Compiler.queue") => `(tactic| refine ⟨_, rfl, _, _, _, _, _, rfl, hO, T.Compiler.cl, T.na_Compiler_queue, lk_Compiler_queue, ?_⟩)
section
variable {P : Program} {w : World} {K : PySem.W.Frag} {mg : Str → Option Value} {base : Heap}
def spMBegin (K : PySem.W.Frag) : Sp := fun vs H Q _ => ∃ (H0 : Hp) (p : Addr) (st : MS) (c : Tr) (env : Env') (vc ve : V) (r : Ctl × MS), vs = [.ref p, vc, ve] ∧ MO (He.ga K "Machine") H0 H p st ∧ AtM H c vc ∧ EnvAt H env ve ∧ mBegin c env st = some r ∧
  ∀ H' t, Tx H H' → MO (He.ga K "Machine") H0 H' p r.2 → TriAt H' r.1 (.ref t) → Q (.ref t) H'
theorem ok_Machine_begin (T : Fx K w mg) : FnOk P w K mg base CX0 2 (He.ma K (He.ga K "Machine") "begin") (fdOf K ("Machine", some "begin")) ["self", "current", "env"] (spMBegin K) := by
  have G_looked_up := ok_look (P := P) (base := base) T
  have G_Machine_add_piece := ok_Machine_add_piece (P := P) (base := base) T
  have G_Machine_wait := ok_Machine_wait (P := P) (base := base) T
  refine T.Machine_begin.F.ok sc_Machine_begin (fun vs H Q E h => ?_) (fun cdv A outer s H vs Q E hr h => ?_)
  · obtain ⟨_, _, _, _, _, _, _, _, rfl, _⟩ := h
    rfl
  · obtain ⟨H0, p, st, c, env, vc, ve, r, rfl, ⟨dx, lp, pl, vs, fls, kept, most, R⟩, hc, he, hb, k⟩ := h
    refine ⟨_, (pss_cons (ps_set (i := 3) sc_Machine_begin.nd rfl (Or.inl rfl) (pe_ix ix_tup (pv 1) pe_int (fun _ _ => rfl)))
      (pss_cons (ps_if (pt_cmpR op_eq (pv 3) pe_str (nomark _))
        (pss_one (ps_ret (pe_tup (pa_cons pe_non (pa_cons pe_non (pa_cons (pe_tup (pa_cons pe_str (pa_cons (pe_ix ix_tup (pv 1) pe_int (fun _ _ => rfl)) pa_nil))) pa_nil))))))
        pss_nil)
      (pss_cons (ps_if (pt_cmpR op_eq (pv 3) pe_str (nomark _))
        pss_never
        pss_nil)
      (pss_cons (ps_if (pt_cmpR op_eq (pv 3) pe_str (nomark _))
        pss_never
        pss_nil)
      (pss_cons (ps_if (pt_cmpR op_eq (pv 3) pe_str (nomark _))
        (pss_one (ps_ret (pe_tup (pa_cons pe_non (pa_cons pe_non (pa_cons (pe_call G_looked_up (hr.mono (by omega)) rfl T.looked_up.m T.looked_up.F.kp T.looked_up.b .nil pass0 (pa_cons (pv 2) (pa_cons (pe_ix ix_tup (pv 1) pe_int (fun _ _ => rfl)) pa_nil))) pa_nil))))))
        pss_nil)
      (pss_cons (ps_if (pt_cmpR op_eq (pv 3) pe_str (nomark _))
        pss_never
        pss_nil)
      (pss_cons (ps_if (pt_cmpR op_eq (pv 3) pe_str (nomark _))
        pss_never
        pss_nil)
      (pss_cons (ps_if (pt_cmpR op_eq (pv 3) pe_str (nomark _))
        (pss_cons (ps_expr (pe_meth (pv 0) T.Machine.cl T.Machine_add_piece.m G_Machine_add_piece (hr.mono (by omega)) T.Machine_add_piece.b .nil pass0 (pa_cons (pe_tup (pa_cons (pe_ix ix_tup (pe_ix ix_tup (pv 1) pe_int (fun _ _ => rfl)) pe_int (fun _ _ => rfl)) (pa_cons (pe_ix ix_tup (pe_ix ix_tup (pv 1) pe_int (fun _ _ => rfl)) pe_int (fun _ _ => rfl)) (pa_cons (pe_ix ix_tup (pv 1) pe_int (fun _ _ => rfl)) (pa_cons (pv 2) pa_nil))))) (pa_cons (pe_lst pa_nil) pa_nil))))
        (pss_one (ps_ret (pe_tup (pa_cons (pe_ix ix_tup (pv 1) pe_int (fun _ _ => rfl)) (pa_cons (pv 2) (pa_cons pe_non pa_nil)))))))
        pss_nil)
      (pss_cons (ps_expr (pe_methR (pv 0) T.Machine.cl T.Machine_wait.m G_Machine_wait (hr.mono (by omega)) pass0 (pa_cons (pv 3) (pa_cons (pv 1) (pa_cons (pv 2) pa_nil)))))
      (pss_cons (ps_if (pt_cmpR op_in_seq (pv 3) (pe_tup (pa_cons pe_str (pa_cons pe_str (pa_cons pe_str pa_nil)))) rfl)
        (pss_one (ps_ret (pe_tup (pa_cons (pe_ix ix_tup (pv 1) pe_int (fun _ _ => rfl)) (pa_cons (pv 2) (pa_cons pe_non pa_nil))))))
        pss_nil)
      (pss_one (ps_ret (pe_tup (pa_cons (pe_ix ix_tup (pv 1) pe_int (fun _ _ => rfl)) (pa_cons (pv 2) (pa_cons pe_non pa_nil)))))))))))))))), ?_⟩
    have hO := R.ob
    cases c with
    | num i =>
      cases hb
      obtain ⟨⟨a, rfl, ha⟩, hsm⟩ := hc
      refine ⟨_, rfl, a, _, _, _, rfl, rfl, SqT.of ha, rfl, ?_⟩
      walk_at "hit"
      refine ⟨_, rfl, a, _, _, _, rfl, rfl, SqT.of ha, rfl, by show 2 ≤ sizeLine; decide, fun t nt => ⟨by show 3 ≤ sizeLine; decide, fun t2 nt2 => ?_⟩⟩
      have s1 := same_new nt (.tup [V.str "int", V.int i])
      have s2 := same_new nt2 (.tup [V.non, V.non, V.ref t])
      exact k _ _ (.same (s1.trans s2)) ⟨dx, lp, pl, _, _, _, _, R.ext (s1.trans s2)⟩ ⟨t2, _, _, _, rfl, upd_same, rfl, t, rfl, s2 _ _ upd_same, hsm⟩
    | name x =>
      obtain ⟨⟨a, rfl, ha⟩, hsm⟩ := hc
      unfold mBegin at hb
      cases hl : look env x with
      | none => simp only [hl] at hb; cases hb
      | some ev =>
        cases ev with
        | kept => simp only [hl] at hb; cases hb
        | int i =>
          simp only [hl] at hb
          cases hb
          refine ⟨_, rfl, a, _, _, _, rfl, rfl, SqT.of ha, rfl, ?_⟩
          walk_at "skip"
          walk_at "hit"
          refine ⟨_, rfl, _, rfl, a, _, _, _, rfl, rfl, SqT.of ha, rfl, env, ve, x, _, rfl, he, hl, fun v hv => ⟨by show 3 ≤ sizeLine; decide, fun t2 nt2 => ?_⟩⟩
          have s2 := same_new nt2 (.tup [V.non, V.non, v])
          exact k _ _ (.same s2) ⟨dx, lp, pl, _, _, _, _, R.ext s2⟩ ⟨t2, _, _, _, rfl, upd_same, rfl, IntAt.mono hv (.same s2)⟩
    | handle a r f o x kk g =>
      obtain ⟨⟨a0, va, vr, vcl, vf, vg, rfl, ha, hd, hA, hF, hG⟩, hb1, hb2, hb3⟩ := hc
      obtain ⟨q, c, d, rfl, rfl, h1, h2, h3⟩ := hd
      obtain ⟨hl, e⟩ := gd hb
      cases e
      refine ⟨_, rfl, a0, _, _, _, rfl, rfl, SqT.of ha, rfl, ?_⟩
      walk_at "skip"
      walk_at "hit"
      refine ⟨_, rfl, p, dx, _, rfl, hO, no_Machine_add_piece, _, rfl, a0, _, _, _, rfl, rfl, SqT.of ha, rfl, q, _, _, _, rfl, rfl, SqT.of h1, rfl, _, rfl, a0, _, _, _, rfl, rfl, SqT.of ha, rfl, q, _, _, _, rfl, rfl, SqT.of h1, rfl, _, rfl, a0, _, _, _, rfl, rfl, SqT.of ha, rfl, _, rfl, by show 4 ≤ sizeLine; decide, fun t nt => ⟨Nat.zero_le _, fun l nl => ?_⟩⟩
      have s1 := same_new nt (.tup [V.str r.s, vf, V.ref c, ve])
      have s2 := same_new nl (.lst [])
      have s12 := s1.trans s2
      refine ⟨H0, p, l, .ref t, st, ⟨r, f, o, x, kk, g, env⟩, rfl, ⟨dx, lp, pl, _, _, _, _, R.ext s12⟩, ⟨t, vf, vg, c, d, ve, rfl, s2 _ _ upd_same, s12 _ _ h2, s12 _ _ h3, AtM.mono ⟨hF, hb2⟩ (.same s12), AtM.mono ⟨hG, hb3⟩ (.same s12), he.mono (.same s12)⟩, upd_same, by omega, fun H' tx R' => ?_⟩
      have t1 := (Tx.same s12).trans tx
      refine ⟨_, rfl, a0, _, _, _, rfl, rfl, SqT.of (t1 _ _ ha), rfl, _, rfl, by show 3 ≤ sizeLine; decide, fun t2 nt2 => ?_⟩
      have s3 := same_new nt2 (.tup [va, ve, V.non])
      obtain ⟨dx', lp', pl', vs', fls', kept', most', R'⟩ := R'
      exact k _ _ (t1.trans (.same s3)) ⟨dx', lp', pl', _, _, _, _, R'.ext s3⟩ ⟨t2, _, _, _, rfl, upd_same, AtM.mono ⟨hA, hb1⟩ (t1.trans (.same s3)), he.mono (t1.trans (.same s3))⟩
    | lt x a b =>
      obtain ⟨hat, hbd⟩ := id hc
      obtain ⟨a0, va, vb, rfl, ha, hA, hB⟩ := hat
      unfold mBegin at hb
      cases hw : waitM st (.node (.lt x a b) env) with
      | none => simp only [hw] at hb; cases hb
      | some st' =>
        simp only [hw] at hb
        cases hb
        refine ⟨_, rfl, a0, _, _, _, rfl, rfl, SqT.of ha, rfl, ?_⟩
        walk_at "skip"
        refine ⟨_, rfl, p, dx, _, rfl, hO, no_Machine_wait, _, rfl, _, rfl, _, rfl, ?_⟩
        refine wait_sp R hw (by show 3 ≤ 10; decide) (fun H' t ht tx => ⟨t, _, _, rfl, ht, hc.mono tx, he.mono tx⟩) (fun H' tx R' => ?_)
        refine ⟨_, rfl, by show 3 ≤ sizeLine; decide, fun q nq => ⟨q, _, rfl, .inr (SqT.of upd_same), rfl, rfl, _, rfl, br_t (by decide +kernel) ?_⟩⟩
        have s1 := same_new nq (.tup [V.str "let", V.str "op", V.str "ask"])
        have t1 := tx.trans (.same s1)
        refine ⟨_, rfl, a0, _, _, _, rfl, rfl, SqT.of (t1 _ _ ha), rfl, _, rfl, by show 3 ≤ sizeLine; decide, fun t2 nt2 => ?_⟩
        have s2 := same_new nt2 (.tup [va, ve, V.non])
        obtain ⟨dx', lp', pl', vs', fls', kept', most', R'⟩ := R'
        exact k _ _ (t1.trans (.same s2)) ⟨dx', lp', pl', _, _, _, _, R'.ext (s1.trans s2)⟩ ⟨t2, _, _, _, rfl, upd_same, AtM.mono ⟨hA, hbd.1⟩ (t1.trans (.same s2)), he.mono (t1.trans (.same s2))⟩
    | op s a b =>
      obtain ⟨hat, hbd⟩ := id hc
      obtain ⟨a0, va, vb, rfl, ha, hA, hB⟩ := hat
      unfold mBegin at hb
      cases hw : waitM st (.node (.op s a b) env) with
      | none => simp only [hw] at hb; cases hb
      | some st' =>
        simp only [hw] at hb
        cases hb
        refine ⟨_, rfl, a0, _, _, _, rfl, rfl, SqT.of ha, rfl, ?_⟩
        walk_at "skip"
        refine ⟨_, rfl, p, dx, _, rfl, hO, no_Machine_wait, _, rfl, _, rfl, _, rfl, ?_⟩
        refine wait_sp R hw (by show 3 ≤ 10; decide) (fun H' t ht tx => ⟨t, _, _, rfl, ht, hc.mono tx, he.mono tx⟩) (fun H' tx R' => ?_)
        refine ⟨_, rfl, by show 3 ≤ sizeLine; decide, fun q nq => ⟨q, _, rfl, .inr (SqT.of upd_same), rfl, rfl, _, rfl, br_t (by decide +kernel) ?_⟩⟩
        have s1 := same_new nq (.tup [V.str "let", V.str "op", V.str "ask"])
        have t1 := tx.trans (.same s1)
        refine ⟨_, rfl, a0, _, _, _, rfl, rfl, SqT.of (t1 _ _ ha), rfl, _, rfl, by show 3 ≤ sizeLine; decide, fun t2 nt2 => ?_⟩
        have s2 := same_new nt2 (.tup [va, ve, V.non])
        obtain ⟨dx', lp', pl', vs', fls', kept', most', R'⟩ := R'
        exact k _ _ (t1.trans (.same s2)) ⟨dx', lp', pl', _, _, _, _, R'.ext (s1.trans s2)⟩ ⟨t2, _, _, _, rfl, upd_same, AtM.mono ⟨hA, hbd.1⟩ (t1.trans (.same s2)), he.mono (t1.trans (.same s2))⟩
    | ask o a =>
      obtain ⟨hat, hbd⟩ := id hc
      obtain ⟨a0, va, rfl, ha, hA⟩ := hat
      unfold mBegin at hb
      cases hw : waitM st (.node (.ask o a) env) with
      | none => simp only [hw] at hb; cases hb
      | some st' =>
        simp only [hw] at hb
        cases hb
        refine ⟨_, rfl, a0, _, _, _, rfl, rfl, SqT.of ha, rfl, ?_⟩
        walk_at "skip"
        refine ⟨_, rfl, p, dx, _, rfl, hO, no_Machine_wait, _, rfl, _, rfl, _, rfl, ?_⟩
        refine wait_sp R hw (by show 3 ≤ 10; decide) (fun H' t ht tx => ⟨t, _, _, rfl, ht, hc.mono tx, he.mono tx⟩) (fun H' tx R' => ?_)
        refine ⟨_, rfl, by show 3 ≤ sizeLine; decide, fun q nq => ⟨q, _, rfl, .inr (SqT.of upd_same), rfl, rfl, _, rfl, br_t (by decide +kernel) ?_⟩⟩
        have s1 := same_new nq (.tup [V.str "let", V.str "op", V.str "ask"])
        have t1 := tx.trans (.same s1)
        refine ⟨_, rfl, a0, _, _, _, rfl, rfl, SqT.of (t1 _ _ ha), rfl, _, rfl, by show 3 ≤ sizeLine; decide, fun t2 nt2 => ?_⟩
        have s2 := same_new nt2 (.tup [va, ve, V.non])
        obtain ⟨dx', lp', pl', vs', fls', kept', most', R'⟩ := R'
        exact k _ _ (t1.trans (.same s2)) ⟨dx', lp', pl', _, _, _, _, R'.ext (s1.trans s2)⟩ ⟨t2, _, _, _, rfl, upd_same, AtM.mono ⟨hA, hbd⟩ (t1.trans (.same s2)), he.mono (t1.trans (.same s2))⟩
    | print a b =>
      obtain ⟨hat, hbd⟩ := id hc
      obtain ⟨a0, va, vb, rfl, ha, hA, hB⟩ := hat
      unfold mBegin at hb
      cases hw : waitM st (.node (.print a b) env) with
      | none => simp only [hw] at hb; cases hb
      | some st' =>
        simp only [hw] at hb
        cases hb
        refine ⟨_, rfl, a0, _, _, _, rfl, rfl, SqT.of ha, rfl, ?_⟩
        walk_at "skip"
        refine ⟨_, rfl, p, dx, _, rfl, hO, no_Machine_wait, _, rfl, _, rfl, _, rfl, ?_⟩
        refine wait_sp R hw (by show 3 ≤ 10; decide) (fun H' t ht tx => ⟨t, _, _, rfl, ht, hc.mono tx, he.mono tx⟩) (fun H' tx R' => ?_)
        refine ⟨_, rfl, by show 3 ≤ sizeLine; decide, fun q nq => ⟨q, _, rfl, .inr (SqT.of upd_same), rfl, rfl, _, rfl, br_f (by decide +kernel) ?_⟩⟩
        have s1 := same_new nq (.tup [V.str "let", V.str "op", V.str "ask"])
        have t1 := tx.trans (.same s1)
        refine ⟨_, rfl, a0, _, _, _, rfl, rfl, SqT.of (t1 _ _ ha), rfl, _, rfl, by show 3 ≤ sizeLine; decide, fun t2 nt2 => ?_⟩
        have s2 := same_new nt2 (.tup [va, ve, V.non])
        obtain ⟨dx', lp', pl', vs', fls', kept', most', R'⟩ := R'
        exact k _ _ (t1.trans (.same s2)) ⟨dx', lp', pl', _, _, _, _, R'.ext (s1.trans s2)⟩ ⟨t2, _, _, _, rfl, upd_same, AtM.mono ⟨hA, hbd.1⟩ (t1.trans (.same s2)), he.mono (t1.trans (.same s2))⟩
    | quoted a => cases hb
    | kept => cases hb
end
end AF

namespace AF
open PySem PySem.Spec PyProof.Rows L2
local macro_rules | `(tactic| walk_at "skip") => `(tactic| repeat (refine ⟨_, rfl, rfl, _, rfl, br_f (by decide +kernel) ?_⟩))
local macro_rules | `(tactic| walk_at "hit") => `(tactic| refine ⟨_, rfl, rfl, _, rfl, br_t (by decide +kernel) ?_⟩)
local macro_rules | `(tactic| walk_at "or2") => `(tactic| refine ⟨_, rfl, rfl, _, rfl, br_f (by decide +kernel) ⟨_, rfl, rfl, _, rfl, br_f (by decide +kernel) ?_⟩⟩)
set_option hygiene false in
local macro_rules | `(tactic| walk_at "Run.current") => `(tactic| refine ⟨_, rfl, _, _, _, _, _, rfl, hO, T.Run.cl, T.na_Run_current, lk_Run_current, ?_⟩)
set_option hygiene false in
local macro_rules | `(tactic| walk_at "Run.frames") => `(tactic| refine ⟨_, rfl, _, _, _, _, _, rfl, hO, T.Run.cl, T.na_Run_frames, lk_Run_frames, ?_⟩)
set_option hygiene false in
local macro_rules | `(tactic| walk_at "Run.left") => `(tactic| refine ⟨_, rfl, _, _, _, _, _, rfl, hO, T.Run.cl, T.na_Run_left, lk_Run_left, ?_⟩)
set_option hygiene false in
local macro_rules | `(tactic| walk_at "Run.prints") => `(tactic| refine ⟨_, rfl, _, _, _, _, _, rfl, hO, T.Run.cl, T.na_Run_prints, lk_Run_prints, ?_⟩)
set_option hygiene false in
local macro_rules | `(tactic| walk_at "Run.end") => `(tactic| refine ⟨_, rfl, _, _, _, _, _, rfl, hO, T.Run.cl, T.na_Run_end, lk_Run_end, ?_⟩)
set_option hygiene false in
local macro_rules | `(tactic| walk_at "Machine.left") => `(tactic| refine ⟨_, rfl, _, _, _, _, _, rfl, hO, T.Machine.cl, T.na_Machine_left, lk_Machine_left, ?_⟩)
set_option hygiene false in
local macro_rules | `(tactic| walk_at "Machine.prints") => `(tactic| refine ⟨_, rfl, _, _, _, _, _, rfl, hO, T.Machine.cl, T.na_Machine_prints, lk_Machine_prints, ?_⟩)
set_option hygiene false in
local macro_rules | `(tactic| walk_at "Machine.pieces") => `(tactic| refine ⟨_, rfl, _, _, _, _, _, rfl, hO, T.Machine.cl, T.na_Machine_pieces, lk_Machine_pieces, ?_⟩)
set_option hygiene false in
local macro_rules | `(tactic| walk_at "Machine.kept") => `(tactic| refine ⟨_, rfl, _, _, _, _, _, rfl, hO, T.Machine.cl, T.na_Machine_kept, lk_Machine_kept, ?_⟩)
set_option hygiene false in
local macro_rules | `(tactic| walk_at "Machine.most") => `(tactic| refine ⟨_, rfl, _, _, _, _, _, rfl, hO, T.Machine.cl, T.na_Machine_most, lk_Machine_most, ?_⟩)
set_option hygiene false in
local macro_rules | `(tactic| walk_at "Piece.kind") => `(tactic| refine ⟨_, rfl, _, _, _, _, _, rfl, hO, T.Piece.cl, T.na_Piece_kind, lk_Piece_kind, ?_⟩)
set_option hygiene false in
local macro_rules | `(tactic| walk_at "Piece.handler") => `(tactic| refine ⟨_, rfl, _, _, _, _, _, rfl, hO, T.Piece.cl, T.na_Piece_handler, lk_Piece_handler, ?_⟩)
set_option hygiene false in
local macro_rules | `(tactic| walk_at "Piece.frames") => `(tactic| refine ⟨_, rfl, _, _, _, _, _, rfl, hO, T.Piece.cl, T.na_Piece_frames, lk_Piece_frames, ?_⟩)
set_option hygiene false in
local macro_rules | `(tactic| walk_at "Piece.distance") => `(tactic| refine ⟨_, rfl, _, _, _, _, _, rfl, hO, T.Piece.cl, T.na_Piece_distance, lk_Piece_distance, ?_⟩)
set_option hygiene false in
local macro_rules | `(tactic| walk_at "Piece.table") => `(tactic| refine ⟨_, rfl, _, _, _, _, _, rfl, hO, T.Piece.cl, T.na_Piece_table, lk_Piece_table, ?_⟩)
set_option hygiene false in
local macro_rules | `(tactic| walk_at "Runner.blocks") => `(tactic| refine ⟨_, rfl, _, _, _, _, _, rfl, hO, T.Runner.cl, T.na_Runner_blocks, lk_Runner_blocks, ?_⟩)
set_option hygiene false in
local macro_rules | `(tactic| walk_at "Runner.left") => `(tactic| refine ⟨_, rfl, _, _, _, _, _, rfl, hO, T.Runner.cl, T.na_Runner_left, lk_Runner_left, ?_⟩)
set_option hygiene false in
local macro_rules | `(tactic| walk_at "Runner.prints") => `(tactic| refine ⟨_, rfl, _, _, _, _, _, rfl, hO, T.Runner.cl, T.na_Runner_prints, lk_Runner_prints, ?_⟩)
set_option hygiene false in
local macro_rules | `(tactic| walk_at "Runner.kept") => `(tactic| refine ⟨_, rfl, _, _, _, _, _, rfl, hO, T.Runner.cl, T.na_Runner_kept, lk_Runner_kept, ?_⟩)
set_option hygiene false in
local macro_rules | `(tactic| walk_at "Runner.end") => `(tactic| refine ⟨_, rfl, _, _, _, _, _, rfl, hO, T.Runner.cl, T.na_Runner_end, lk_Runner_end, ?_⟩)
set_option hygiene false in
local macro_rules | `(tactic| walk_at "Runner.pieces") => `(tactic| refine ⟨_, rfl, _, _, _, _, _, rfl, hO, T.Runner.cl, T.na_Runner_pieces, lk_Runner_pieces, ?_⟩)
set_option hygiene false in
local macro_rules | `(tactic| walk_at "Runner.rows") => `(tactic| refine ⟨_, rfl, _, _, _, _, _, rfl, hO, T.Runner.cl, T.na_Runner_rows, lk_Runner_rows, ?_⟩)
set_option hygiene false in
local macro_rules | `(tactic| walk_at "Runner.at") => `(tactic| refine ⟨_, rfl, _, _, _, _, _, rfl, hO, T.Runner.cl, T.na_Runner_at, lk_Runner_at, ?_⟩)
set_option hygiene false in
local macro_rules | `(tactic| walk_at "Runner.bindings") => `(tactic| refine ⟨_, rfl, _, _, _, _, _, rfl, hO, T.Runner.cl, T.na_Runner_bindings, lk_Runner_bindings, ?_⟩)
set_option hygiene false in
local macro_rules | `(tactic| walk_at "Runner.operands") => `(tactic| refine ⟨_, rfl, _, _, _, _, _, rfl, hO, T.Runner.cl, T.na_Runner_operands, lk_Runner_operands, ?_⟩)
set_option hygiene false in
local macro_rules | `(tactic| walk_at "Code.blocks") => `(tactic| refine ⟨_, rfl, _, _, _, _, _, rfl, hO, T.Code.cl, T.na_Code_blocks, lk_Code_blocks, ?_⟩)
set_option hygiene false in
local macro_rules | `(tactic| walk_at "Compiler.blocks") => `(tactic| refine ⟨_, rfl, _, _, _, _, _, rfl, hO, T.Compiler.cl, T.na_Compiler_blocks, lk_Compiler_blocks, ?_⟩)
set_option hygiene false in
local macro_rules | `(tactic| walk_at "Compiler.queue") => `(tactic| refine ⟨_, rfl, _, _, _, _, _, rfl, hO, T.Compiler.cl, T.na_Compiler_queue, lk_Compiler_queue, ?_⟩)
section
variable {P : Program} {w : World} {K : PySem.W.Frag} {mg : Str → Option Value} {base : Heap}
def MREnd (K : PySem.W.Frag) (H0 H : Hp) (p : Addr) (r : MR) (Q : VK) (E : XK) : Prop := match r with
  | .tri c s => ∀ H' t, Tx H H' → MO (He.ga K "Machine") H0 H' p s → TriAt H' c (.ref t) → Q (.ref t) H'
  | .stop o s => ∀ H' d u, Tx H H' → MO (He.ga K "Machine") H0 H' p s → H' d = some (.xd [("end", .ref u)]) → H' u = some (.tup [.str "unhandled", .str o.s]) → E (.ref (stC K)) (some d) H'
def spMAsk (K : PySem.W.Frag) : Sp := fun vs H Q E => ∃ (H0 : Hp) (p : Addr) (st : MS) (o : Nm) (i : Int) (vv : V) (r : MR), vs = [.ref p, .str o.s, vv] ∧ MO (He.ga K "Machine") H0 H p st ∧ IntAt H i vv ∧ mAsk o i st = some r ∧ MREnd K H0 H p r Q E
theorem ok_Machine_ask (T : Fx K w mg) (S : SX P K mg) : FnOk P w K mg base (L2.CX P w) 3 (He.ma K (He.ga K "Machine") "ask") (fdOf K ("Machine", some "ask")) ["self", "name", "value"] (spMAsk K) := by
  have G_Machine_step := ok_Machine_step (P := P) (base := base) T
  have G_Machine_answer := ok_Machine_answer (P := P) (base := base) T
  refine T.Machine_ask.F.okX sc_Machine_ask (fun vs H Q E h => ?_) (fun cdv A outer s H vs Q E hr h => ?_)
  · obtain ⟨_, _, _, _, _, _, _, rfl, _⟩ := h
    rfl
  · obtain ⟨H0, p, st, o, i, vv, r, rfl, ⟨dx, lp, pl, vs, fls, kept, most, R⟩, hv, ha, k⟩ := h
    refine ⟨_, (pss_cons (ps_expr (pe_meth0 (pv 0) T.Machine.cl T.Machine_step.m G_Machine_step (hr.mono (by omega)) T.Machine_step.b .nil pass0))
      (pss_cons (ps_for (passes_of rfl) rfl (pi_revR (by rfl) T.n_reversed (prg_2 (by rfl) T.n_range pe_int (pe_callB call_len_seq (by rfl) T.n_len (by decide +kernel) (pa_cons (pe_fld (pv 0) rfl) pa_nil)))) (pg_name (i := 3) sc_Machine_ask.nd rfl (Or.inl rfl))
        (pss_cons (ps_asg (pe_ix ix_tup (pe_ix ix_list (pe_fld (pv 0) rfl) (pv 3) (fun _ _ => rfl)) pe_int (fun _ _ => rfl)) (pg_tup rfl (pgs_cons (pg_name (i := 4) sc_Machine_ask.nd rfl (Or.inl rfl)) (pgs_cons (pg_name (i := 5) sc_Machine_ask.nd rfl (Or.inl rfl)) (pgs_cons (pg_name (i := 6) sc_Machine_ask.nd rfl (Or.inl rfl)) (pgs_cons (pg_name (i := 7) sc_Machine_ask.nd rfl (Or.inl rfl)) pgs_nil))))))
        (pss_one (ps_for (passes_of rfl) rfl (pi_tup (pv 6)) (pg_name (i := 8) sc_Machine_ask.nd rfl (Or.inl rfl))
          (pss_one (ps_if (pt_cmpR op_eq (pe_ix ix_tup (pv 8) pe_int (fun _ _ => rfl)) (pv 1) (nomark _))
            (pss_one (ps_ret (pe_meth (pv 0) T.Machine.cl T.Machine_answer.m G_Machine_answer (hr.mono (by omega)) T.Machine_answer.b .nil pass0 (pa_cons (pv 3) (pa_cons (pv 8) (pa_cons (pv 2) (pa_cons (pv 7) pa_nil)))))))
            pss_nil))))))
      (pss_one (ps_raise rfl (takes_of rfl rfl rfl rfl) (pmk_stop S.k S.p T.n_super S.m (stop_binds S.k) (hr.mono (by omega)) rfl (pa_cons (pe_tup (pa_cons pe_str (pa_cons (pv 1) pa_nil))) pa_nil)))))), ?_⟩
    unfold mAsk at ha
    cases hl : st.left with
    | zero => rw [hl] at ha; cases ha
    | succ l =>
      rw [hl] at ha
      have hO := R.ob
      rw [hl] at hO
      refine ⟨_, rfl, p, dx, _, rfl, hO, no_Machine_step, p, dx, l, _, _, _, _, rfl, hO, ?_⟩
      have R1 := R.set (l := l) (k := kept) (m := most)
      generalize hH1 : upd H p (.ins (He.ga K "Machine") dx (flMachine (.int (l : Nat)) (.ref lp) (.ref pl) (.int kept) (.int most))) = H1 at R1
      have t1 : Tx H H1 := by rw [← hH1]; exact tx_ins R.ob
      have hO := R1.ob
      have hv1 := hv.mono t1
      have pc := R1.pc
      have pc : Pcs H1 st.pcs vs fls := pc
      cases hp : st.pcs with
      | nil => rw [hp] at ha; cases ha
      | cons m rest =>
        obtain ⟨h, fr⟩ := m
        rw [hp] at ha pc
        cases h with
        | none =>
          cases rest with
          | cons _ _ => cases ha
          | nil =>
            cases ha
            obtain ⟨q, fl, vs', fls', vh, fs, rfl, rfl, hq, hh, hfl, hrr, rfl, rfl⟩ := pc
            walk_at "Machine.pieces"
            refine ⟨pl, _, rfl, .inl (SqL.of R1.pi), _, _, rfl, rfl, by decide, by decide, by rw [List.length_reverse, List.length_singleton]; decide, by rw [List.length_reverse, List.length_singleton]; decide, ?_⟩
            refine for_rangeC (fun i' σ H' => H1 = H' ∧ σ = [some (.ref p), some (.str o.s), some vv, none, none, none, none, none, none]) ⟨rfl, rfl⟩ (fun j σ H' hj _ => absurd hj (by show ¬ (j < 0); omega)) ?_
            rintro σ H' ⟨rfl, rfl⟩
            refine ⟨_, rfl, by show 2 ≤ sizeLine; decide, fun u nu => ⟨_, rfl, fun d nd => ?_⟩⟩
            have s1 := same_new nu (.tup [V.str "unhandled", V.str o.s])
            have s2 := same_new nd (.xd [("end", V.ref u)])
            exact k _ d u (t1.trans (.same (s1.trans s2))) ⟨dx, lp, pl, _, _, _, _, by have R2 := R1.ext (s1.trans s2); rw [← hp]; exact R2⟩ upd_same (s2 _ _ upd_same)
        | some h =>
          cases rest with
          | nil => cases ha
          | cons p1 rest =>
            obtain ⟨hlen, ha⟩ := gd (show (if 900 < rest.length then none else if h.o = o then some (MR.tri (.go h.g (.cons h.k .kept (.cons h.x (.int i) h.env))) { st with left := l, pcs := p1 :: rest }) else none) = some r from ha)
            obtain ⟨ho, ha⟩ := gd2 ha
            cases ha
            subst ho
            obtain ⟨q, fl, vs', fls', vh, fs, rfl, rfl, hq, hh, hfl, hrr, hrest⟩ := pc
            have hlv : vs'.length = rest.length + 1 := by rw [← hrest.len]; rfl
            walk_at "Machine.pieces"
            refine ⟨pl, _, rfl, .inl (SqL.of R1.pi), _, _, rfl, rfl, by decide, by decide, by rw [List.length_reverse, List.length_cons]; omega, by rw [List.length_reverse, List.length_cons]; omega, ?_⟩
            refine for_rangeC (fun i' σ H' => i' = 0 ∧ H1 = H' ∧ σ = [some (.ref p), some (.str h.o.s), some vv, none, none, none, none, none, none]) ⟨rfl, rfl, rfl⟩ ?_ ?_
            · rintro j σ H' hj ⟨rfl, rfl, rfl⟩
              obtain ⟨qh, vf, vg, c, d, ve, rfl, h1, h2, h3, hF, hG, hE⟩ := hh
              have hat : atI (V.ref q :: vs').reverse (1 + (((((V.ref q :: vs').reverse.length : Nat) : Int) - 1).toNat : Nat) - 1 + ((0 : Nat) : Int) * (-1)) = some (.ref q) := by
                have e : (1 + (((((V.ref q :: vs').reverse.length : Nat) : Int) - 1).toNat : Nat) - 1 + ((0 : Nat) : Int) * (-1) : Int) = ((vs'.length : Nat) : Int) := by
                  rw [List.length_reverse, List.length_cons]
                  omega
                rw [e]
                exact atI_nat (by rw [List.reverse_cons, List.getElem?_append_right (by rw [List.length_reverse]; omega)]; simp)
              walk_at "Machine.pieces"
              refine ⟨_, rfl, pl, _, _, _, rfl, rfl, SqL.of R1.pi, hat, q, _, _, _, rfl, rfl, SqT.of hq, rfl, qh, _, rfl, SqT.of h1, rfl, _, _, rfl, _, _, rfl, _, _, rfl, _, _, rfl, rfl, ?_⟩
              refine ⟨_, rfl, c, rfl, ⟨_, SqT.of h2⟩, ?_⟩
              refine for_tup (K := K) (a := c) (xs := [.ref d]) (fun i' σ H' => i' = 0 ∧ H1 = H' ∧ ∃ o1, σ = [some (.ref p), some (.str h.o.s), some vv, some (.int (1 + (((((V.ref q :: vs').reverse.length : Nat) : Int) - 1).toNat : Nat) - 1 + ((0 : Nat) : Int) * (-1))), some (.str h.r.s), some vf, some (.ref c), some ve, o1])
                ⟨rfl, rfl, _, rfl⟩ (fun i' σ H' _ ⟨_, e, _⟩ => by rw [← e]; exact SqT.of h2) ?_ (fun σ H' ⟨e, _⟩ => absurd e (by show ¬ (1 = 0); decide))
              rintro i' y σ H' hy ⟨rfl, rfl, o4, rfl⟩
              have ey : y = .ref d := by simpa using hy.symm
              subst ey
              refine ⟨_, rfl, d, _, _, _, rfl, rfl, SqT.of h3, rfl, _, rfl, rfl, _, rfl, br_t (decide_eq_true rfl) ?_⟩
              refine ⟨_, rfl, p, dx, _, rfl, R1.ob, no_Machine_answer, _, rfl, _, rfl, _, rfl, _, rfl, ?_⟩
              refine ⟨H0, p, d, _, vv, ve, vg, ⟨st.pcs, l, st.out, st.room⟩, h, fr, p1, rest, i, rfl, ⟨dx, lp, pl, _, _, _, _, R1⟩, hv1, hp, ?_, h3, hG, hE, fun H2 t tx R2 tri => k H2 t (t1.trans tx) R2 tri⟩
              rw [List.length_reverse, List.length_cons]
              omega
            · rintro σ H' ⟨e, _⟩
              rw [List.length_reverse, List.length_cons] at e
              omega
end
end AF

namespace AF
open PySem PySem.Spec PyProof.Rows L2
local macro_rules | `(tactic| walk_at "skip") => `(tactic| repeat (refine ⟨_, rfl, rfl, _, rfl, br_f (by decide +kernel) ?_⟩))
local macro_rules | `(tactic| walk_at "hit") => `(tactic| refine ⟨_, rfl, rfl, _, rfl, br_t (by decide +kernel) ?_⟩)
local macro_rules | `(tactic| walk_at "or2") => `(tactic| refine ⟨_, rfl, rfl, _, rfl, br_f (by decide +kernel) ⟨_, rfl, rfl, _, rfl, br_f (by decide +kernel) ?_⟩⟩)
set_option hygiene false in
local macro_rules | `(tactic| walk_at "Run.current") => `(tactic| refine ⟨_, rfl, _, _, _, _, _, rfl, hO, T.Run.cl, T.na_Run_current, lk_Run_current, ?_⟩)
set_option hygiene false in
local macro_rules | `(tactic| walk_at "Run.frames") => `(tactic| refine ⟨_, rfl, _, _, _, _, _, rfl, hO, T.Run.cl, T.na_Run_frames, lk_Run_frames, ?_⟩)
set_option hygiene false in
local macro_rules | `(tactic| walk_at "Run.left") => `(tactic| refine ⟨_, rfl, _, _, _, _, _, rfl, hO, T.Run.cl, T.na_Run_left, lk_Run_left, ?_⟩)
set_option hygiene false in
local macro_rules | `(tactic| walk_at "Run.prints") => `(tactic| refine ⟨_, rfl, _, _, _, _, _, rfl, hO, T.Run.cl, T.na_Run_prints, lk_Run_prints, ?_⟩)
set_option hygiene false in
local macro_rules | `(tactic| walk_at "Run.end") => `(tactic| refine ⟨_, rfl, _, _, _, _, _, rfl, hO, T.Run.cl, T.na_Run_end, lk_Run_end, ?_⟩)
set_option hygiene false in
local macro_rules | `(tactic| walk_at "Machine.left") => `(tactic| refine ⟨_, rfl, _, _, _, _, _, rfl, hO, T.Machine.cl, T.na_Machine_left, lk_Machine_left, ?_⟩)
set_option hygiene false in
local macro_rules | `(tactic| walk_at "Machine.prints") => `(tactic| refine ⟨_, rfl, _, _, _, _, _, rfl, hO, T.Machine.cl, T.na_Machine_prints, lk_Machine_prints, ?_⟩)
set_option hygiene false in
local macro_rules | `(tactic| walk_at "Machine.pieces") => `(tactic| refine ⟨_, rfl, _, _, _, _, _, rfl, hO, T.Machine.cl, T.na_Machine_pieces, lk_Machine_pieces, ?_⟩)
set_option hygiene false in
local macro_rules | `(tactic| walk_at "Machine.kept") => `(tactic| refine ⟨_, rfl, _, _, _, _, _, rfl, hO, T.Machine.cl, T.na_Machine_kept, lk_Machine_kept, ?_⟩)
set_option hygiene false in
local macro_rules | `(tactic| walk_at "Machine.most") => `(tactic| refine ⟨_, rfl, _, _, _, _, _, rfl, hO, T.Machine.cl, T.na_Machine_most, lk_Machine_most, ?_⟩)
set_option hygiene false in
local macro_rules | `(tactic| walk_at "Piece.kind") => `(tactic| refine ⟨_, rfl, _, _, _, _, _, rfl, hO, T.Piece.cl, T.na_Piece_kind, lk_Piece_kind, ?_⟩)
set_option hygiene false in
local macro_rules | `(tactic| walk_at "Piece.handler") => `(tactic| refine ⟨_, rfl, _, _, _, _, _, rfl, hO, T.Piece.cl, T.na_Piece_handler, lk_Piece_handler, ?_⟩)
set_option hygiene false in
local macro_rules | `(tactic| walk_at "Piece.frames") => `(tactic| refine ⟨_, rfl, _, _, _, _, _, rfl, hO, T.Piece.cl, T.na_Piece_frames, lk_Piece_frames, ?_⟩)
set_option hygiene false in
local macro_rules | `(tactic| walk_at "Piece.distance") => `(tactic| refine ⟨_, rfl, _, _, _, _, _, rfl, hO, T.Piece.cl, T.na_Piece_distance, lk_Piece_distance, ?_⟩)
set_option hygiene false in
local macro_rules | `(tactic| walk_at "Piece.table") => `(tactic| refine ⟨_, rfl, _, _, _, _, _, rfl, hO, T.Piece.cl, T.na_Piece_table, lk_Piece_table, ?_⟩)
set_option hygiene false in
local macro_rules | `(tactic| walk_at "Runner.blocks") => `(tactic| refine ⟨_, rfl, _, _, _, _, _, rfl, hO, T.Runner.cl, T.na_Runner_blocks, lk_Runner_blocks, ?_⟩)
set_option hygiene false in
local macro_rules | `(tactic| walk_at "Runner.left") => `(tactic| refine ⟨_, rfl, _, _, _, _, _, rfl, hO, T.Runner.cl, T.na_Runner_left, lk_Runner_left, ?_⟩)
set_option hygiene false in
local macro_rules | `(tactic| walk_at "Runner.prints") => `(tactic| refine ⟨_, rfl, _, _, _, _, _, rfl, hO, T.Runner.cl, T.na_Runner_prints, lk_Runner_prints, ?_⟩)
set_option hygiene false in
local macro_rules | `(tactic| walk_at "Runner.kept") => `(tactic| refine ⟨_, rfl, _, _, _, _, _, rfl, hO, T.Runner.cl, T.na_Runner_kept, lk_Runner_kept, ?_⟩)
set_option hygiene false in
local macro_rules | `(tactic| walk_at "Runner.end") => `(tactic| refine ⟨_, rfl, _, _, _, _, _, rfl, hO, T.Runner.cl, T.na_Runner_end, lk_Runner_end, ?_⟩)
set_option hygiene false in
local macro_rules | `(tactic| walk_at "Runner.pieces") => `(tactic| refine ⟨_, rfl, _, _, _, _, _, rfl, hO, T.Runner.cl, T.na_Runner_pieces, lk_Runner_pieces, ?_⟩)
set_option hygiene false in
local macro_rules | `(tactic| walk_at "Runner.rows") => `(tactic| refine ⟨_, rfl, _, _, _, _, _, rfl, hO, T.Runner.cl, T.na_Runner_rows, lk_Runner_rows, ?_⟩)
set_option hygiene false in
local macro_rules | `(tactic| walk_at "Runner.at") => `(tactic| refine ⟨_, rfl, _, _, _, _, _, rfl, hO, T.Runner.cl, T.na_Runner_at, lk_Runner_at, ?_⟩)
set_option hygiene false in
local macro_rules | `(tactic| walk_at "Runner.bindings") => `(tactic| refine ⟨_, rfl, _, _, _, _, _, rfl, hO, T.Runner.cl, T.na_Runner_bindings, lk_Runner_bindings, ?_⟩)
set_option hygiene false in
local macro_rules | `(tactic| walk_at "Runner.operands") => `(tactic| refine ⟨_, rfl, _, _, _, _, _, rfl, hO, T.Runner.cl, T.na_Runner_operands, lk_Runner_operands, ?_⟩)
set_option hygiene false in
local macro_rules | `(tactic| walk_at "Code.blocks") => `(tactic| refine ⟨_, rfl, _, _, _, _, _, rfl, hO, T.Code.cl, T.na_Code_blocks, lk_Code_blocks, ?_⟩)
set_option hygiene false in
local macro_rules | `(tactic| walk_at "Compiler.blocks") => `(tactic| refine ⟨_, rfl, _, _, _, _, _, rfl, hO, T.Compiler.cl, T.na_Compiler_blocks, lk_Compiler_blocks, ?_⟩)
set_option hygiene false in
local macro_rules | `(tactic| walk_at "Compiler.queue") => `(tactic| refine ⟨_, rfl, _, _, _, _, _, rfl, hO, T.Compiler.cl, T.na_Compiler_queue, lk_Compiler_queue, ?_⟩)
section
variable {P : Program} {w : World} {K : PySem.W.Frag} {mg : Str → Option Value} {base : Heap}
def spMResume (K : PySem.W.Frag) : Sp := fun vs H Q E => ∃ (H0 : Hp) (p : Addr) (st : MS) (f : MF) (i : Int) (vf vv : V) (r : MR), vs = [.ref p, vf, vv] ∧ MO (He.ga K "Machine") H0 H p st ∧ MFAt H f vf ∧ IntAt H i vv ∧ mResume f i st = some r ∧ MREnd K H0 H p r Q E
theorem ok_Machine_resume (T : Fx K w mg) (S : SX P K mg) : FnOk P w K mg base (L2.CX P w) 4 (He.ma K (He.ga K "Machine") "resume") (fdOf K ("Machine", some "resume")) ["self", "frame", "value"] (spMResume K) := by
  have G_Machine_wait := ok_Machine_wait (P := P) (base := base) T
  have G_Machine_ask := ok_Machine_ask (P := P) (base := base) T S
  have G_calculated := ok_calc (P := P) (base := base) T
  refine T.Machine_resume.F.okX sc_Machine_resume (fun vs H Q E h => ?_) (fun cdv A outer s H vs Q E hr h => ?_)
  · obtain ⟨_, _, _, _, _, _, _, _, rfl, _⟩ := h
    rfl
  · obtain ⟨H0, p, st, f, i, vf, vv, r, rfl, ⟨dx, lp, pl, vs, fls, kept, most, R⟩, hf, hv, hb, k⟩ := h
    refine ⟨_, (pss_cons (ps_set (i := 3) sc_Machine_resume.nd rfl (Or.inl rfl) (pe_ix ix_tup (pv 1) pe_int (fun _ _ => rfl)))
      (pss_cons (ps_if (PW.pt (pw_or (pt_cmpR op_eq (pv 3) pe_str (nomark _)) (pw_or1 (pt_cmpR op_eq (pv 3) pe_str (nomark _)))))
        pss_never
        pss_nil)
      (pss_cons (ps_if (pt_cmpR op_eq (pv 3) pe_str (nomark _))
        (pss_cons (ps_expr (pe_methR (pv 0) T.Machine.cl T.Machine_wait.m G_Machine_wait (hr.mono (by omega)) pass0 (pa_cons pe_str (pa_cons (pe_ix ix_tup (pe_ix ix_tup (pv 1) pe_int (fun _ _ => rfl)) pe_int (fun _ _ => rfl)) (pa_cons (pv 2) pa_nil)))))
        (pss_one (ps_ret (pe_tup (pa_cons (pe_ix ix_tup (pe_ix ix_tup (pv 1) pe_int (fun _ _ => rfl)) pe_int (fun _ _ => rfl)) (pa_cons (pe_ix ix_tup (pv 1) pe_int (fun _ _ => rfl)) (pa_cons pe_non pa_nil)))))))
        pss_nil)
      (pss_cons (ps_if (pt_cmpR op_eq (pv 3) pe_str (nomark _))
        pss_never
        pss_nil)
      (pss_cons (ps_if (pt_cmpR op_eq (pv 3) pe_str (nomark _))
        (pss_one (ps_ret (pe_tup (pa_cons pe_non (pa_cons pe_non (pa_cons (pe_call G_calculated (hr.mono (by omega)) rfl T.calculated.m T.calculated.F.kp T.calculated.b .nil pass0 (pa_cons (pe_ix ix_tup (pv 1) pe_int (fun _ _ => rfl)) (pa_cons (pe_ix ix_tup (pe_ix ix_tup (pv 1) pe_int (fun _ _ => rfl)) pe_int (fun _ _ => rfl)) (pa_cons (pe_ix ix_tup (pv 2) pe_int (fun _ _ => rfl)) pa_nil)))) pa_nil))))))
        pss_nil)
      (pss_cons (ps_if (pt_cmpR op_eq (pv 3) pe_str (nomark _))
        pss_never
        pss_nil)
      (pss_cons (ps_if (pt_cmpR op_eq (pv 3) pe_str (nomark _))
        (pss_one (ps_ret (pe_tup (pa_cons (pe_ix ix_tup (pe_ix ix_tup (pv 1) pe_int (fun _ _ => rfl)) pe_int (fun _ _ => rfl)) (pa_cons (pe_tup (pa_cons (pe_ix ix_tup (pe_ix ix_tup (pv 1) pe_int (fun _ _ => rfl)) pe_int (fun _ _ => rfl)) (pa_cons (pv 2) (pa_cons (pe_ix ix_tup (pv 1) pe_int (fun _ _ => rfl)) pa_nil)))) (pa_cons pe_non pa_nil))))))
        pss_nil)
      (pss_cons (ps_if (pt_cmpR op_eq (pv 3) pe_str (nomark _))
        pss_never
        pss_nil)
      (pss_cons (ps_if (pt_cmpR op_eq (pv 3) pe_str (nomark _))
        (pss_cons (ps_expr (pe_bm PySem.F.plainAttrs_list PySem.F.slot_list_append PySem.F.type_list_append mt_append (pe_fld (pv 0) rfl) (pa_cons (pe_ix ix_tup (pv 2) pe_int (fun _ _ => rfl)) pa_nil)))
        (pss_one (ps_ret (pe_tup (pa_cons (pe_ix ix_tup (pe_ix ix_tup (pv 1) pe_int (fun _ _ => rfl)) pe_int (fun _ _ => rfl)) (pa_cons (pe_ix ix_tup (pv 1) pe_int (fun _ _ => rfl)) (pa_cons pe_non pa_nil)))))))
        pss_nil)
      (pss_cons (ps_if (pt_cmpR op_eq (pv 3) pe_str (nomark _))
        (pss_one (ps_ret (pe_meth (pv 0) T.Machine.cl T.Machine_ask.m G_Machine_ask (hr.mono (by omega)) T.Machine_ask.b .nil (passes_call (takes_of rfl rfl rfl rfl) (fun _ _ _ _ h => h)) (pa_cons (pe_ix ix_tup (pe_ix ix_tup (pv 1) pe_int (fun _ _ => rfl)) pe_int (fun _ _ => rfl)) (pa_cons (pv 2) pa_nil)))))
        pss_nil)
      pss_never)))))))))), ?_⟩
    have hO := R.ob
    obtain ⟨pv', rfl, hpv, hsm⟩ := id hv
    cases f with
    | op2 sg j =>
      cases hb
      obtain ⟨pf, u, rfl, hpf, hu⟩ := hf
      obtain ⟨pu, rfl, hpu, hsu⟩ := hu
      refine ⟨_, rfl, pf, _, _, _, rfl, rfl, SqT.of hpf, rfl, ?_⟩
      walk_at "or2"
      walk_at "skip"
      walk_at "hit"
      refine ⟨_, rfl, pf, _, _, _, rfl, rfl, SqT.of hpf, rfl, _, rfl, pf, _, _, _, rfl, rfl, SqT.of hpf, rfl, pu, _, _, _, rfl, rfl, SqT.of hpu, rfl, _, rfl, pv', _, _, _, rfl, rfl, SqT.of hpv, rfl, sg, j, i, rfl, hsu, hsm, fun H' t s1 ht => ⟨by show 3 ≤ sizeLine; decide, fun t2 nt2 => ?_⟩⟩
      have s2 := same_new nt2 (.tup [V.non, V.non, V.ref t])
      exact k _ _ (.same (s1.trans s2)) ⟨dx, lp, pl, _, _, _, _, R.ext (s1.trans s2)⟩ ⟨t2, _, _, _, rfl, upd_same, rfl, t, rfl, s2 _ _ ht, opv_small _ _ _⟩
    | node e env =>
      obtain ⟨pf, ve, vn, rfl, hpf, hc, he⟩ := hf
      cases e with
      | op sg a b =>
        obtain ⟨⟨a0, va, vb, rfl, ha, hA, hB⟩, hbd⟩ := hc
        have hpf : H pf = some (.tup [.str "op", .ref a0, vn]) := hpf
        unfold mResume at hb
        cases hw : waitM st (.op2 sg i) with
        | none => simp only [hw] at hb; cases hb
        | some st' =>
          simp only [hw] at hb
          cases hb
          refine ⟨_, rfl, pf, _, _, _, rfl, rfl, SqT.of hpf, rfl, ?_⟩
          walk_at "or2"
          walk_at "skip"
          walk_at "hit"
          refine ⟨_, rfl, p, dx, _, rfl, hO, no_Machine_wait, _, rfl, pf, _, _, _, rfl, rfl, SqT.of hpf, rfl, a0, _, _, _, rfl, rfl, SqT.of ha, rfl, _, rfl, ?_⟩
          refine wait_sp R hw (by show 3 ≤ 10; decide) (fun H' t ht tx => ⟨t, _, rfl, ht, hv.mono tx⟩) (fun H' tx R' => ?_)
          refine ⟨_, rfl, pf, _, _, _, rfl, rfl, SqT.of (tx _ _ hpf), rfl, a0, _, _, _, rfl, rfl, SqT.of (tx _ _ ha), rfl, _, rfl, pf, _, _, _, rfl, rfl, SqT.of (tx _ _ hpf), rfl, by show 3 ≤ sizeLine; decide, fun t2 nt2 => ?_⟩
          have s2 := same_new nt2 (.tup [vb, vn, V.non])
          obtain ⟨dx', lp', pl', vs', fls', kept', most', R'⟩ := R'
          exact k _ _ (tx.trans (.same s2)) ⟨dx', lp', pl', _, _, _, _, R'.ext s2⟩ ⟨t2, _, _, _, rfl, upd_same, AtM.mono ⟨hB, hbd.2⟩ (tx.trans (.same s2)), he.mono (tx.trans (.same s2))⟩
      | lt x a b =>
        obtain ⟨⟨a0, va, vb, rfl, ha, hA, hB⟩, hbd⟩ := hc
        have hpf : H pf = some (.tup [.str "let", .ref a0, vn]) := hpf
        cases hb
        refine ⟨_, rfl, pf, _, _, _, rfl, rfl, SqT.of hpf, rfl, ?_⟩
        walk_at "or2"
        walk_at "skip"
        walk_at "hit"
        refine ⟨_, rfl, pf, _, _, _, rfl, rfl, SqT.of hpf, rfl, a0, _, _, _, rfl, rfl, SqT.of ha, rfl, _, rfl, pf, _, _, _, rfl, rfl, SqT.of hpf, rfl, a0, _, _, _, rfl, rfl, SqT.of ha, rfl, _, rfl, _, rfl, pf, _, _, _, rfl, rfl, SqT.of hpf, rfl, by show 3 ≤ sizeLine; decide, fun t nt => ⟨by show 3 ≤ sizeLine; decide, fun t2 nt2 => ?_⟩⟩
        have s1 := same_new nt (.tup [V.str x.s, V.ref pv', vn])
        have s2 := same_new nt2 (.tup [vb, V.ref t, V.non])
        have t1 := Tx.same (s1.trans s2)
        exact k _ _ t1 ⟨dx, lp, pl, _, _, _, _, R.ext (s1.trans s2)⟩ ⟨t2, _, _, _, rfl, upd_same, AtM.mono ⟨hB, hbd.2⟩ t1, t, _, _, rfl, s2 _ _ upd_same, hv.mono t1, he.mono t1⟩
      | print a b =>
        obtain ⟨⟨a0, va, vb, rfl, ha, hA, hB⟩, hbd⟩ := hc
        have hpf : H pf = some (.tup [.str "print", .ref a0, vn]) := hpf
        unfold mResume at hb
        cases hrm : st.room with
        | zero => simp only [hrm] at hb; cases hb
        | succ rm =>
          simp only [hrm] at hb
          cases hb
          refine ⟨_, rfl, pf, _, _, _, rfl, rfl, SqT.of hpf, rfl, ?_⟩
          walk_at "or2"
          walk_at "skip"
          walk_at "hit"
          walk_at "Machine.prints"
          refine ⟨.inl ⟨rfl, _, SqL.of R.pr⟩, _, rfl, pv', _, _, _, rfl, rfl, SqT.of hpv, rfl, lp, _, _, rfl, rfl, R.pr, ?_, ?_⟩
          · have pb := R.pb
            rw [List.length_map]
            exact small1000 (by omega)
          · have R1 := R.prs (i := i) hrm
            have tx := tx_lst (o := .lst (st.out.map V.int ++ [V.int i])) R.pr
            refine ⟨_, rfl, pf, _, _, _, rfl, rfl, SqT.of (tx _ _ hpf), rfl, a0, _, _, _, rfl, rfl, SqT.of (tx _ _ ha), rfl, _, rfl, pf, _, _, _, rfl, rfl, SqT.of (tx _ _ hpf), rfl, by show 3 ≤ sizeLine; decide, fun t2 nt2 => ?_⟩
            have s2 := same_new nt2 (.tup [vb, vn, V.non])
            exact k _ _ (tx.trans (.same s2)) ⟨dx, lp, pl, _, _, _, _, R1.ext s2⟩ ⟨t2, _, _, _, rfl, upd_same, AtM.mono ⟨hB, hbd.2⟩ (tx.trans (.same s2)), he.mono (tx.trans (.same s2))⟩
      | ask o a =>
        obtain ⟨⟨a0, va, rfl, ha, hA⟩, hbd⟩ := hc
        have hpf : H pf = some (.tup [.str "ask", .ref a0, vn]) := hpf
        refine ⟨_, rfl, pf, _, _, _, rfl, rfl, SqT.of hpf, rfl, ?_⟩
        walk_at "or2"
        walk_at "skip"
        walk_at "hit"
        refine ⟨_, rfl, p, dx, _, rfl, hO, no_Machine_ask, _, rfl, pf, _, _, _, rfl, rfl, SqT.of hpf, rfl, a0, _, _, _, rfl, rfl, SqT.of ha, rfl, _, rfl, ?_⟩
        exact ⟨H0, p, st, o, i, _, r, rfl, ⟨dx, lp, pl, _, _, _, _, R⟩, hv, hb, k⟩
      | _ => cases hb
end
end AF

namespace AF
open PySem PySem.Spec PyProof.Rows L2
local macro_rules | `(tactic| walk_at "skip") => `(tactic| repeat (refine ⟨_, rfl, rfl, _, rfl, br_f (by decide +kernel) ?_⟩))
local macro_rules | `(tactic| walk_at "hit") => `(tactic| refine ⟨_, rfl, rfl, _, rfl, br_t (by decide +kernel) ?_⟩)
set_option hygiene false in
local macro_rules | `(tactic| walk_at "Run.current") => `(tactic| refine ⟨_, rfl, _, _, _, _, _, rfl, hO, T.Run.cl, T.na_Run_current, lk_Run_current, ?_⟩)
set_option hygiene false in
local macro_rules | `(tactic| walk_at "Run.frames") => `(tactic| refine ⟨_, rfl, _, _, _, _, _, rfl, hO, T.Run.cl, T.na_Run_frames, lk_Run_frames, ?_⟩)
set_option hygiene false in
local macro_rules | `(tactic| walk_at "Run.left") => `(tactic| refine ⟨_, rfl, _, _, _, _, _, rfl, hO, T.Run.cl, T.na_Run_left, lk_Run_left, ?_⟩)
set_option hygiene false in
local macro_rules | `(tactic| walk_at "Run.prints") => `(tactic| refine ⟨_, rfl, _, _, _, _, _, rfl, hO, T.Run.cl, T.na_Run_prints, lk_Run_prints, ?_⟩)
set_option hygiene false in
local macro_rules | `(tactic| walk_at "Run.end") => `(tactic| refine ⟨_, rfl, _, _, _, _, _, rfl, hO, T.Run.cl, T.na_Run_end, lk_Run_end, ?_⟩)
set_option hygiene false in
local macro_rules | `(tactic| walk_at "Machine.left") => `(tactic| refine ⟨_, rfl, _, _, _, _, _, rfl, hO, T.Machine.cl, T.na_Machine_left, lk_Machine_left, ?_⟩)
set_option hygiene false in
local macro_rules | `(tactic| walk_at "Machine.prints") => `(tactic| refine ⟨_, rfl, _, _, _, _, _, rfl, hO, T.Machine.cl, T.na_Machine_prints, lk_Machine_prints, ?_⟩)
set_option hygiene false in
local macro_rules | `(tactic| walk_at "Machine.pieces") => `(tactic| refine ⟨_, rfl, _, _, _, _, _, rfl, hO, T.Machine.cl, T.na_Machine_pieces, lk_Machine_pieces, ?_⟩)
set_option hygiene false in
local macro_rules | `(tactic| walk_at "Machine.kept") => `(tactic| refine ⟨_, rfl, _, _, _, _, _, rfl, hO, T.Machine.cl, T.na_Machine_kept, lk_Machine_kept, ?_⟩)
set_option hygiene false in
local macro_rules | `(tactic| walk_at "Machine.most") => `(tactic| refine ⟨_, rfl, _, _, _, _, _, rfl, hO, T.Machine.cl, T.na_Machine_most, lk_Machine_most, ?_⟩)
set_option hygiene false in
local macro_rules | `(tactic| walk_at "Piece.kind") => `(tactic| refine ⟨_, rfl, _, _, _, _, _, rfl, hO, T.Piece.cl, T.na_Piece_kind, lk_Piece_kind, ?_⟩)
set_option hygiene false in
local macro_rules | `(tactic| walk_at "Piece.handler") => `(tactic| refine ⟨_, rfl, _, _, _, _, _, rfl, hO, T.Piece.cl, T.na_Piece_handler, lk_Piece_handler, ?_⟩)
set_option hygiene false in
local macro_rules | `(tactic| walk_at "Piece.frames") => `(tactic| refine ⟨_, rfl, _, _, _, _, _, rfl, hO, T.Piece.cl, T.na_Piece_frames, lk_Piece_frames, ?_⟩)
set_option hygiene false in
local macro_rules | `(tactic| walk_at "Piece.distance") => `(tactic| refine ⟨_, rfl, _, _, _, _, _, rfl, hO, T.Piece.cl, T.na_Piece_distance, lk_Piece_distance, ?_⟩)
set_option hygiene false in
local macro_rules | `(tactic| walk_at "Piece.table") => `(tactic| refine ⟨_, rfl, _, _, _, _, _, rfl, hO, T.Piece.cl, T.na_Piece_table, lk_Piece_table, ?_⟩)
set_option hygiene false in
local macro_rules | `(tactic| walk_at "Runner.blocks") => `(tactic| refine ⟨_, rfl, _, _, _, _, _, rfl, hO, T.Runner.cl, T.na_Runner_blocks, lk_Runner_blocks, ?_⟩)
set_option hygiene false in
local macro_rules | `(tactic| walk_at "Runner.left") => `(tactic| refine ⟨_, rfl, _, _, _, _, _, rfl, hO, T.Runner.cl, T.na_Runner_left, lk_Runner_left, ?_⟩)
set_option hygiene false in
local macro_rules | `(tactic| walk_at "Runner.prints") => `(tactic| refine ⟨_, rfl, _, _, _, _, _, rfl, hO, T.Runner.cl, T.na_Runner_prints, lk_Runner_prints, ?_⟩)
set_option hygiene false in
local macro_rules | `(tactic| walk_at "Runner.kept") => `(tactic| refine ⟨_, rfl, _, _, _, _, _, rfl, hO, T.Runner.cl, T.na_Runner_kept, lk_Runner_kept, ?_⟩)
set_option hygiene false in
local macro_rules | `(tactic| walk_at "Runner.end") => `(tactic| refine ⟨_, rfl, _, _, _, _, _, rfl, hO, T.Runner.cl, T.na_Runner_end, lk_Runner_end, ?_⟩)
set_option hygiene false in
local macro_rules | `(tactic| walk_at "Runner.pieces") => `(tactic| refine ⟨_, rfl, _, _, _, _, _, rfl, hO, T.Runner.cl, T.na_Runner_pieces, lk_Runner_pieces, ?_⟩)
set_option hygiene false in
local macro_rules | `(tactic| walk_at "Runner.rows") => `(tactic| refine ⟨_, rfl, _, _, _, _, _, rfl, hO, T.Runner.cl, T.na_Runner_rows, lk_Runner_rows, ?_⟩)
set_option hygiene false in
local macro_rules | `(tactic| walk_at "Runner.at") => `(tactic| refine ⟨_, rfl, _, _, _, _, _, rfl, hO, T.Runner.cl, T.na_Runner_at, lk_Runner_at, ?_⟩)
set_option hygiene false in
local macro_rules | `(tactic| walk_at "Runner.bindings") => `(tactic| refine ⟨_, rfl, _, _, _, _, _, rfl, hO, T.Runner.cl, T.na_Runner_bindings, lk_Runner_bindings, ?_⟩)
set_option hygiene false in
local macro_rules | `(tactic| walk_at "Runner.operands") => `(tactic| refine ⟨_, rfl, _, _, _, _, _, rfl, hO, T.Runner.cl, T.na_Runner_operands, lk_Runner_operands, ?_⟩)
set_option hygiene false in
local macro_rules | `(tactic| walk_at "Code.blocks") => `(tactic| refine ⟨_, rfl, _, _, _, _, _, rfl, hO, T.Code.cl, T.na_Code_blocks, lk_Code_blocks, ?_⟩)
set_option hygiene false in
local macro_rules | `(tactic| walk_at "Compiler.blocks") => `(tactic| refine ⟨_, rfl, _, _, _, _, _, rfl, hO, T.Compiler.cl, T.na_Compiler_blocks, lk_Compiler_blocks, ?_⟩)
set_option hygiene false in
local macro_rules | `(tactic| walk_at "Compiler.queue") => `(tactic| refine ⟨_, rfl, _, _, _, _, _, rfl, hO, T.Compiler.cl, T.na_Compiler_queue, lk_Compiler_queue, ?_⟩)
section
variable {P : Program} {w : World} {K : PySem.W.Frag} {mg : Str → Option Value} {base : Heap}
def MFEnd (K : PySem.W.Frag) (H0 H : Hp) (p : Addr) (f : MFin) (e : MS) (Q : VK) (E : XK) : Prop := match f with
  | .ret i => ∀ H' v, Tx H H' → MO (He.ga K "Machine") H0 H' p e → IntAt H' i v → Q v H'
  | .stop o => ∀ H' d u, Tx H H' → MO (He.ga K "Machine") H0 H' p e → H' d = some (.xd [("end", .ref u)]) → H' u = some (.tup [.str "unhandled", .str o.s]) → E (.ref (stC K)) (some d) H'
theorem MFEnd.tx {H0 H H1 : Hp} {p : Addr} {f : MFin} {e : MS} {Q : VK} {E : XK} (h : MFEnd K H0 H p f e Q E) (t : Tx H H1) : MFEnd K H0 H1 p f e Q E := by
  cases f with
  | ret i => exact fun H' v t2 => h H' v (t.trans t2)
  | stop o => exact fun H' d u t2 => h H' d u (t.trans t2)
def spMRun (K : PySem.W.Frag) : Sp := fun vs H Q E => ∃ (H0 : Hp) (p : Addr) (st e : MS) (c : Tr) (vc : V) (m : Nat) (f : MFin), vs = [.ref p, vc] ∧ MO (He.ga K "Machine") H0 H p st ∧ AtM H c vc ∧ RunsK m (.go c .nil) st f e ∧ MFEnd K H0 H p f e Q E
theorem ok_Machine_run (T : Fx K w mg) (S : SX P K mg) : FnOk P w K mg base (L2.CX P w) 5 (He.ma K (He.ga K "Machine") "run") (fdOf K ("Machine", some "run")) ["self", "expression"] (spMRun K) := by
  have G_Machine_begin := ok_Machine_begin (P := P) (base := base) T
  have G_Machine_resume := ok_Machine_resume (P := P) (base := base) T S
  have G_Machine_handled := ok_Machine_handled (P := P) (base := base) T
  refine T.Machine_run.F.okX sc_Machine_run (fun vs H Q E h => ?_) (fun cdv A outer s H vs Q E hr h => ?_)
  · obtain ⟨_, _, _, _, _, _, _, _, rfl, _⟩ := h
    rfl
  · obtain ⟨H0, p, st, e, c, vc, m, f, rfl, RO, hc, hrun, k⟩ := h
    refine ⟨_, (pss_cons (ps_par3 (i := 2) (j := 3) (l := 4) rfl sc_Machine_run.nd rfl rfl rfl (by decide) (by decide) (by decide) rfl rfl rfl (pa_cons (pv 1) (pa_cons pe_non (pa_cons pe_non pa_nil))) (by rfl))
      (pss_one (ps_while (passes_of rfl) (pt_val pe_bl)
        (pss_one (ps_if (pt_cmpR op_notN (pv 2) pe_non (nomark _))
          (pss_one (ps_asg (pe_meth (pv 0) T.Machine.cl T.Machine_begin.m G_Machine_begin (hr.mono (by omega)) T.Machine_begin.b .nil pass0 (pa_cons (pv 2) (pa_cons (pv 3) pa_nil))) (pg_tup rfl (pgs_cons (pg_name (i := 2) sc_Machine_run.nd rfl (Or.inl rfl)) (pgs_cons (pg_name (i := 3) sc_Machine_run.nd rfl (Or.inl rfl)) (pgs_cons (pg_name (i := 4) sc_Machine_run.nd rfl (Or.inl rfl)) pgs_nil))))))
          (pss_one (ps_if (pt_truth (pe_ix ix_tup (pe_ix ix_list (pe_fld (pv 0) rfl) (pe_un un_neg pe_int) (fun _ _ => rfl)) pe_int (fun _ _ => rfl)) (by intro _; rfl))
            (pss_cons (ps_set (i := 5) sc_Machine_run.nd rfl (Or.inl rfl) (pe_bm0 PySem.F.plainAttrs_list PySem.F.slot_list_pop PySem.F.type_list_pop mt_pop (pe_ix ix_tup (pe_ix ix_list (pe_fld (pv 0) rfl) (pe_un un_neg pe_int) (fun _ _ => rfl)) pe_int (fun _ _ => rfl))))
            (pss_one (ps_asg (pe_meth (pv 0) T.Machine.cl T.Machine_resume.m G_Machine_resume (hr.mono (by omega)) T.Machine_resume.b .nil (passes_call (takes_of rfl rfl rfl rfl) (fun _ _ _ _ h => h)) (pa_cons (pv 5) (pa_cons (pv 4) pa_nil))) (pg_tup rfl (pgs_cons (pg_name (i := 2) sc_Machine_run.nd rfl (Or.inl rfl)) (pgs_cons (pg_name (i := 3) sc_Machine_run.nd rfl (Or.inl rfl)) (pgs_cons (pg_name (i := 4) sc_Machine_run.nd rfl (Or.inl rfl)) pgs_nil)))))))
            (pss_one (ps_if (pt_cmpR op_eq (pe_callB call_len_seq (by rfl) T.n_len (by decide +kernel) (pa_cons (pe_fld (pv 0) rfl) pa_nil)) pe_int (nomark _))
              (pss_one (ps_ret (pv 4)))
              (pss_one (ps_asg (pe_meth (pv 0) T.Machine.cl T.Machine_handled.m G_Machine_handled (hr.mono (by omega)) T.Machine_handled.b .nil pass0 (pa_cons (pv 4) pa_nil)) (pg_tup rfl (pgs_cons (pg_name (i := 2) sc_Machine_run.nd rfl (Or.inl rfl)) (pgs_cons (pg_name (i := 3) sc_Machine_run.nd rfl (Or.inl rfl)) (pgs_cons (pg_name (i := 4) sc_Machine_run.nd rfl (Or.inl rfl)) pgs_nil))))))))))))))), ?_⟩
    refine ⟨_, rfl, _, _, _, rfl, ?_⟩
    refine ⟨fun m σ H' => Tx H H' ∧ ∃ c s va vb vv o5, σ = [some (.ref p), some vc, some va, some vb, some vv, o5] ∧ MO (He.ga K "Machine") H0 H' p s ∧ CtlAt H' c va vb vv ∧ RunsK m c s f e, ⟨m, .refl _, .go c .nil, st, _, _, _, _, rfl, RO, ⟨hc, rfl⟩, hrun⟩, ?_⟩
    rintro m2 σ H2 ⟨t2, c2, s2, va, vb, vv, o5, rfl, RO2, hct, hr2⟩
    cases m2 with
    | zero => exact hr2.elim
    | succ m2 =>
      refine ⟨_, rfl, br_t rfl ⟨fun σ' H' => Tx H H' ∧ ∃ c s va vb vv o5, σ' = [some (.ref p), some vc, some va, some vb, some vv, o5] ∧ MO (He.ga K "Machine") H0 H' p s ∧ CtlAt H' c va vb vv ∧ RunsK m2 c s f e, fun σ' H' z => ⟨m2, Nat.lt_succ_self _, z⟩, ?_⟩⟩
      unfold RunsK at hr2
      have fin : ∀ {H3 : Hp} {t : Addr} {c3 : Ctl} {s3 : MS} {o : Option V}, Tx H2 H3 → MO (He.ga K "Machine") H0 H3 p s3 → TriAt H3 c3 (.ref t) → RunsK m2 c3 s3 f e →
          gTup K 3 (gCons (gName 2) (gCons (gName 3) (gCons (gName 4) gNil))) (.ref t) [some (.ref p), some vc, some va, some vb, some vv, o] H3 fun σ' H' => Tx H H' ∧ ∃ c s va vb vv o5, σ' = [some (.ref p), some vc, some va, some vb, some vv, o5] ∧ MO (He.ga K "Machine") H0 H' p s ∧ CtlAt H' c va vb vv ∧ RunsK m2 c s f e := by
        intro H3 t c3 s3 o tx R3 tri hr3
        obtain ⟨t', a, b, d, e1, ht, hct3⟩ := tri
        cases e1
        exact ⟨t, _, rfl, SqT.of ht, rfl, _, _, rfl, _, _, rfl, _, _, rfl, rfl, t2.trans tx, c3, s3, a, b, d, o, rfl, R3, hct3, hr3⟩
      obtain ⟨dx, lp, pl, vs, fls, kept, most, R⟩ := RO2
      have hO := R.ob
      cases c2 with
      | go c3 env3 =>
        obtain ⟨hc3, he3⟩ := hct
        obtain ⟨a3, rest3, ea3, _⟩ := hc3.ref
        cases hb : mBegin c3 env3 s2 with
        | none => simp only [mTurn, hb] at hr2
        | some r =>
          obtain ⟨c4, s4⟩ := r
          simp only [mTurn, hb] at hr2
          refine ⟨_, rfl, rfl, _, rfl, br_t (by rw [ea3]; rfl) ?_⟩
          exact ⟨_, rfl, p, dx, _, rfl, hO, no_Machine_begin, _, rfl, _, rfl, H0, p, s2, c3, env3, va, vb, (c4, s4), rfl, ⟨dx, lp, pl, vs, fls, kept, most, R⟩, hc3, he3, hb, fun H3 t tx R3 tri => fin tx R3 tri hr2⟩
      | val i =>
        obtain ⟨rfl, hv⟩ := hct
        refine ⟨_, rfl, rfl, _, rfl, br_f rfl ?_⟩
        have pc := R.pc
        cases hp : s2.pcs with
        | nil => simp only [mTurn, hp] at hr2
        | cons m1 rest =>
          obtain ⟨h, fr⟩ := m1
          rw [hp] at pc
          obtain ⟨q, fl, vs', fls', vh, fs, rfl, rfl, hq, hh, hfl, hrr, hrest⟩ := pc
          cases fr with
          | cons f1 fr =>
            cases hrr with
            | @cons _ vf _ fs2 rf rt =>
            have hf : H2 fl = some (.lst (fs2.reverse ++ [vf])) := by
              rw [← rev_cons]
              exact hfl
            refine topIx T rfl hO R.pi hq ⟨_, .inl ⟨_, SqL.of hf, rfl⟩, br_t (by simp) ?_⟩
            refine topIx T rfl hO R.pi hq ⟨.inl ⟨rfl, _, SqL.of hf⟩, fl, _, _, rfl, rfl, hf, rev_last, ?_⟩
            rw [List.dropLast_concat]
            have R1 := R.top (fr' := fr) (fs' := fs2) hp hq hh hfl hrest rt
            have t1 : Tx H2 (upd H2 fl (.lst fs2.reverse)) := tx_lst hfl
            simp only [mTurn, hp] at hr2
            cases hb : mResume f1 i { s2 with pcs := (h, fr) :: rest } with
            | none => simp only [hb, ofMR] at hr2
            | some r =>
              simp only [hb] at hr2
              refine ⟨_, rfl, p, dx, _, rfl, R1.ob, no_Machine_resume, _, rfl, _, rfl, H0, p, { s2 with pcs := (h, fr) :: rest }, f1, i, vf, vv, r, rfl, ⟨dx, lp, pl, _, _, kept, most, R1⟩, rf.mono t1, hv.mono t1, hb, ?_⟩
              cases r with
              | tri c4 s4 => exact fun H3 t tx R3 tri => fin (t1.trans tx) R3 tri hr2
              | stop o s4 =>
                obtain ⟨ef, ee⟩ := hr2
                subst ef ee
                exact fun H3 d u tx R3 hd hu => k H3 d u (t2.trans (t1.trans tx)) R3 hd hu
          | nil =>
            cases hrr
            refine topIx T rfl hO R.pi hq ⟨_, .inl ⟨_, SqL.of hfl, rfl⟩, br_f rfl ?_⟩
            walk_at "Machine.pieces"
            refine ⟨pl, _, rfl, .inl (SqL.of R.pi), rfl, _, rfl, ?_⟩
            simp only [mTurn, hp] at hr2
            cases h with
            | none =>
              cases rest with
              | cons _ _ => cases hr2
              | nil =>
                obtain ⟨rfl, rfl⟩ := hrest
                refine br_t (decide_eq_true rfl) ?_
                obtain ⟨ef, ee⟩ := hr2
                subst ef ee
                exact ⟨_, rfl, k H2 vv t2 ⟨dx, lp, pl, _, _, kept, most, R⟩ hv⟩
            | some h =>
              cases rest with
              | nil => cases hr2
              | cons p1 rest =>
                obtain ⟨hlen, hr3⟩ : ¬ 900 < rest.length ∧ RunsK m2 (.go h.f (.cons h.r (.int i) h.env)) { s2 with pcs := p1 :: rest } f e := by
                  by_cases q : 900 < rest.length
                  · simp only [if_pos q] at hr2
                  · simp only [if_neg q] at hr2
                    exact ⟨q, hr2⟩
                have hlv : vs'.length = rest.length + 1 := by rw [← hrest.len]; rfl
                refine br_f (decide_eq_false (fun z => ?_)) ?_
                · have z2 := V.int.inj z
                  rw [List.length_reverse, List.length_cons] at z2
                  omega
                exact ⟨_, rfl, p, dx, _, rfl, hO, no_Machine_handled, _, rfl, H0, p, vv, s2, h, [], p1 :: rest, i, rfl, ⟨dx, lp, pl, _, _, kept, most, R⟩, hv, hp, fun H3 t tx R3 tri => fin tx R3 tri hr3⟩
end
end AF

namespace AF
open PySem PySem.Spec PyProof.Rows L2
set_option hygiene false in
local macro_rules | `(tactic| walk_at "Run.current") => `(tactic| refine ⟨_, rfl, _, _, _, _, _, rfl, hO, T.Run.cl, T.na_Run_current, lk_Run_current, ?_⟩)
set_option hygiene false in
local macro_rules | `(tactic| walk_at "Run.frames") => `(tactic| refine ⟨_, rfl, _, _, _, _, _, rfl, hO, T.Run.cl, T.na_Run_frames, lk_Run_frames, ?_⟩)
set_option hygiene false in
local macro_rules | `(tactic| walk_at "Run.left") => `(tactic| refine ⟨_, rfl, _, _, _, _, _, rfl, hO, T.Run.cl, T.na_Run_left, lk_Run_left, ?_⟩)
set_option hygiene false in
local macro_rules | `(tactic| walk_at "Run.prints") => `(tactic| refine ⟨_, rfl, _, _, _, _, _, rfl, hO, T.Run.cl, T.na_Run_prints, lk_Run_prints, ?_⟩)
set_option hygiene false in
local macro_rules | `(tactic| walk_at "Run.end") => `(tactic| refine ⟨_, rfl, _, _, _, _, _, rfl, hO, T.Run.cl, T.na_Run_end, lk_Run_end, ?_⟩)
set_option hygiene false in
local macro_rules | `(tactic| walk_at "Machine.left") => `(tactic| refine ⟨_, rfl, _, _, _, _, _, rfl, hO, T.Machine.cl, T.na_Machine_left, lk_Machine_left, ?_⟩)
set_option hygiene false in
local macro_rules | `(tactic| walk_at "Machine.prints") => `(tactic| refine ⟨_, rfl, _, _, _, _, _, rfl, hO, T.Machine.cl, T.na_Machine_prints, lk_Machine_prints, ?_⟩)
set_option hygiene false in
local macro_rules | `(tactic| walk_at "Machine.pieces") => `(tactic| refine ⟨_, rfl, _, _, _, _, _, rfl, hO, T.Machine.cl, T.na_Machine_pieces, lk_Machine_pieces, ?_⟩)
set_option hygiene false in
local macro_rules | `(tactic| walk_at "Machine.kept") => `(tactic| refine ⟨_, rfl, _, _, _, _, _, rfl, hO, T.Machine.cl, T.na_Machine_kept, lk_Machine_kept, ?_⟩)
set_option hygiene false in
local macro_rules | `(tactic| walk_at "Machine.most") => `(tactic| refine ⟨_, rfl, _, _, _, _, _, rfl, hO, T.Machine.cl, T.na_Machine_most, lk_Machine_most, ?_⟩)
set_option hygiene false in
local macro_rules | `(tactic| walk_at "Piece.kind") => `(tactic| refine ⟨_, rfl, _, _, _, _, _, rfl, hO, T.Piece.cl, T.na_Piece_kind, lk_Piece_kind, ?_⟩)
set_option hygiene false in
local macro_rules | `(tactic| walk_at "Piece.handler") => `(tactic| refine ⟨_, rfl, _, _, _, _, _, rfl, hO, T.Piece.cl, T.na_Piece_handler, lk_Piece_handler, ?_⟩)
set_option hygiene false in
local macro_rules | `(tactic| walk_at "Piece.frames") => `(tactic| refine ⟨_, rfl, _, _, _, _, _, rfl, hO, T.Piece.cl, T.na_Piece_frames, lk_Piece_frames, ?_⟩)
set_option hygiene false in
local macro_rules | `(tactic| walk_at "Piece.distance") => `(tactic| refine ⟨_, rfl, _, _, _, _, _, rfl, hO, T.Piece.cl, T.na_Piece_distance, lk_Piece_distance, ?_⟩)
set_option hygiene false in
local macro_rules | `(tactic| walk_at "Piece.table") => `(tactic| refine ⟨_, rfl, _, _, _, _, _, rfl, hO, T.Piece.cl, T.na_Piece_table, lk_Piece_table, ?_⟩)
set_option hygiene false in
local macro_rules | `(tactic| walk_at "Runner.blocks") => `(tactic| refine ⟨_, rfl, _, _, _, _, _, rfl, hO, T.Runner.cl, T.na_Runner_blocks, lk_Runner_blocks, ?_⟩)
set_option hygiene false in
local macro_rules | `(tactic| walk_at "Runner.left") => `(tactic| refine ⟨_, rfl, _, _, _, _, _, rfl, hO, T.Runner.cl, T.na_Runner_left, lk_Runner_left, ?_⟩)
set_option hygiene false in
local macro_rules | `(tactic| walk_at "Runner.prints") => `(tactic| refine ⟨_, rfl, _, _, _, _, _, rfl, hO, T.Runner.cl, T.na_Runner_prints, lk_Runner_prints, ?_⟩)
set_option hygiene false in
local macro_rules | `(tactic| walk_at "Runner.kept") => `(tactic| refine ⟨_, rfl, _, _, _, _, _, rfl, hO, T.Runner.cl, T.na_Runner_kept, lk_Runner_kept, ?_⟩)
set_option hygiene false in
local macro_rules | `(tactic| walk_at "Runner.end") => `(tactic| refine ⟨_, rfl, _, _, _, _, _, rfl, hO, T.Runner.cl, T.na_Runner_end, lk_Runner_end, ?_⟩)
set_option hygiene false in
local macro_rules | `(tactic| walk_at "Runner.pieces") => `(tactic| refine ⟨_, rfl, _, _, _, _, _, rfl, hO, T.Runner.cl, T.na_Runner_pieces, lk_Runner_pieces, ?_⟩)
set_option hygiene false in
local macro_rules | `(tactic| walk_at "Runner.rows") => `(tactic| refine ⟨_, rfl, _, _, _, _, _, rfl, hO, T.Runner.cl, T.na_Runner_rows, lk_Runner_rows, ?_⟩)
set_option hygiene false in
local macro_rules | `(tactic| walk_at "Runner.at") => `(tactic| refine ⟨_, rfl, _, _, _, _, _, rfl, hO, T.Runner.cl, T.na_Runner_at, lk_Runner_at, ?_⟩)
set_option hygiene false in
local macro_rules | `(tactic| walk_at "Runner.bindings") => `(tactic| refine ⟨_, rfl, _, _, _, _, _, rfl, hO, T.Runner.cl, T.na_Runner_bindings, lk_Runner_bindings, ?_⟩)
set_option hygiene false in
local macro_rules | `(tactic| walk_at "Runner.operands") => `(tactic| refine ⟨_, rfl, _, _, _, _, _, rfl, hO, T.Runner.cl, T.na_Runner_operands, lk_Runner_operands, ?_⟩)
set_option hygiene false in
local macro_rules | `(tactic| walk_at "Code.blocks") => `(tactic| refine ⟨_, rfl, _, _, _, _, _, rfl, hO, T.Code.cl, T.na_Code_blocks, lk_Code_blocks, ?_⟩)
set_option hygiene false in
local macro_rules | `(tactic| walk_at "Compiler.blocks") => `(tactic| refine ⟨_, rfl, _, _, _, _, _, rfl, hO, T.Compiler.cl, T.na_Compiler_blocks, lk_Compiler_blocks, ?_⟩)
set_option hygiene false in
local macro_rules | `(tactic| walk_at "Compiler.queue") => `(tactic| refine ⟨_, rfl, _, _, _, _, _, rfl, hO, T.Compiler.cl, T.na_Compiler_queue, lk_Compiler_queue, ?_⟩)
section
variable {X : Cx} {CX : CXT} {k : Nat} {f C : Addr} {fd : FuncData} {ps : List Str} {sp : Sp} {E : L2.St → XK} {m : Str} {pos apos : Pos} {e o : Expr} {es : List Expr} {ta : TE} {t : TA}
def tMethS (C : Addr) (m : Str) (sp : Sp) (E : L2.St → XK) (ta : TE) (t : TA) : TE := fun σ H Q => ta σ H fun x H1 => ∃ a dx fs, x = .ref a ∧ H1 a = some (.ins C dx fs) ∧ fs.lookup m = none ∧ t σ H1 fun vs H2 => sp (x :: vs) H2 Q (E σ)
/-- o.m(e, ..) within a try's body -/
theorem pe_methS {pl : Sem Bool} (he : PE X o ta) (c : Cls X.K C) (hm : Meth X.K C m f) (F : FnOk X.prog X.w X.K X.mg X.base CX k f fd ps sp) (hr : Room k X.A) (hb : Binds X.K fd ps []) (hx : ∀ σ, PassesAt CX X σ (E σ)) (ha : PA X (e :: es) t)
    (hst : starEach (e :: es) X.env = (false, eval e X.env) :: starEach es X.env := by rfl) (hpl : (backTo pos (starEach es X.env)).any (·.1) = false := by rfl)
    (ht : eval (.Call (.Attribute o m apos) (e :: es) [] pos) X.env = (do
      let ov ← eval o X.env
      standAt apos.atName
      let (f, first) ← holding [ov] (getMethod ov m pl)
      callWith pos f first (backTo pos (starEach (e :: es) X.env)) (backToKw pos (keywordEach [] X.env))) := by rfl) :
    PE X (.Call (.Attribute o m apos) (e :: es) [] pos) (tMethS C m sp E ta t) := by
  refine ⟨fun pins s σ H Q I h => ?_⟩
  refine PySem.W.methodCall_KW (pl := pl) (thn (he.run pins s σ H _ I h) fun u s1 ⟨x, H1, I1, rx, a, dx, fs, ex, ea, l, q⟩ => ?_) ht
  subst ex
  obtain rfl : u = Value.ref a := rx
  refine getmeth_ok I1 ea c hm l ?_
  refine PySem.W.callWith_K (first := [.ref a]) (h₀ := X.base) I.ok.mod.kin hm.kp (thn (ha.run pos pins s1 σ H1 _ I1 q) fun us s2 ⟨vs, H2, I2, r, q2⟩ => ⟨I2.kIn, ?_⟩) hst hpl
  exact run_fnS (us := .ref a :: us) (vs := .ref a :: vs) F hr hb (hx σ) I2 (.cons rfl r) q2
end
section
variable {P : Program} {w : World} {K : PySem.W.Frag} {mg : Str → Option Value} {base : Heap}
def enM : MFin → En
  | .ret i => .val i
  | .stop o => .unh o
def spRC : Sp := fun vs H Q _ => ∃ (vc : V) (c : Tr) (n room m : Nat) (f : MFin) (e : MS), vs = [vc, .int (n : Nat)] ∧ AtM H c vc ∧ room ≤ 1000 ∧ RunsK m (.go c .nil) ⟨[(none, [])], n, [], room⟩ f e ∧
  ∀ H' t q ve u, Same H H' → H' t = some (.tup [.ref q, ve, u]) → H' q = some (.tup (e.out.map V.int)) → EnAt H' (enM f) ve → Q (.ref t) H'
theorem ok_run_counted (T : Fx K w mg) (S : SX P K mg) : FnOk P w K mg base CX0 6 (He.ga K "run_counted") (fdOf K ("run_counted", none)) ["expression", "steps"] spRC := by
  have G_Machine__init__ := ok_Machine_init (P := P) (base := base) T
  have G_Machine_run := ok_Machine_run (P := P) (base := base) T S
  have G_value_shape := ok_vshape (P := P) (base := base) T
  refine T.run_counted.F.ok sc_run_counted (fun vs H Q E h => ?_) (fun cdv A outer s H vs Q E hr h => ?_)
  · obtain ⟨_, _, _, _, _, _, _, rfl, _⟩ := h
    rfl
  · obtain ⟨vc, c, n, room, m, f, e, rfl, hc, hroom, hrun, k⟩ := h
    refine ⟨_, (pss_cons (ps_set (i := 2) sc_run_counted.nd rfl (Or.inl rfl) (pe_make T.Machine.mkr G_Machine__init__ (hr.mono (by omega)) rfl T.Machine.mg T.Machine__init__.b .nil pass0 (pa_cons (pv 1) pa_nil)))
      (pss_cons (ps_try_as (i := 4) rfl rfl sc_run_counted.nd rfl rfl ⟨rfl, by decide, .inl S.m⟩ takes0
        (fun W pn xe tk po => pss_one (ps_set (i := 3) sc_run_counted.nd rfl (Or.inl rfl) (pe_tup (pa_cons pe_str (pa_cons (pe_call G_value_shape (hr.mono (by omega)) rfl T.value_shape.m T.value_shape.F.kp T.value_shape.b .nil pass0 (pa_cons (pe_methS (pv 2) T.Machine.cl T.Machine_run.m G_Machine_run (hr.mono (by omega)) T.Machine_run.b (fun σ => passAt tk σ) (pa_cons (pv 0) pa_nil)) pa_nil)) pa_nil)))))
        (fun a oe cls d pn hz hf => pss_one (ps_set (i := 3) sc_run_counted.nd rfl (Or.inl rfl) (pe_xf S.k.xf S.k.ed hz hf (pv 4)))))
      (pss_one (ps_ret (pe_tup (pa_cons (pe_callTy call_tuple_of (by rfl) T.n_tuple (by decide +kernel) (pa_cons (pe_fld (pv 2) rfl) pa_nil)) (pa_cons (pv 3) (pa_cons (pe_tup (pa_cons (pe_fld (pv 2) rfl) (pa_cons (pe_fld (pv 2) rfl) pa_nil))) pa_nil)))))))), ?_⟩
    refine ⟨_, rfl, fun p dx np nd ned => ?_⟩
    have s0 : Same H (upd (upd H dx (.own p)) p (.ins (He.ga K "Machine") dx [])) := (same_new nd (.own p)).trans (same_new (by rw [upd_ne ned.symm]; exact np) _)
    refine ⟨H, p, dx, n, room, rfl, s0, np, upd_same, hroom, fun H1 t1 R1 => ⟨rfl, ?_⟩⟩
    have t1 := (Tx.same s0).trans t1
    obtain ⟨dx1, lp1, pl1, vs1, fls1, kept1, most1, R1⟩ := R1
    refine ⟨_, rfl, p, dx1, _, rfl, R1.ob, no_Machine_run, _, rfl, H, p, _, e, c, vc, m, f, rfl, ⟨_, _, _, _, _, _, _, R1⟩, hc.mono t1, hrun, ?_⟩
    cases f with
    | ret i =>
      rintro H2 v t2 ⟨dx, lp, pl, vs, fls, kept, most, R2⟩ ⟨pv', rfl, hpv, hsm⟩
      refine ⟨pv', i, rfl, hpv, fun H3' s3 => ⟨by show 2 ≤ sizeLine; decide, fun pe npe => ?_⟩⟩
      have s4 := same_new npe (.tup [V.str "value", V.ref pv'])
      have R3 := R2.ext (s3.trans s4)
      have hen : EnAt (upd H3' pe (.tup [V.str "value", V.ref pv'])) (.val i) (.ref pe) := ⟨pe, pv', rfl, upd_same, (s3.trans s4) _ _ hpv⟩
      generalize V.ref pe = ve at hen ⊢
      generalize upd H3' pe (.tup [V.str "value", V.ref pv']) = H3 at R3 hen ⊢
      have hO := R3.ob
      walk_at "Machine.prints"
      refine ⟨lp, _, rfl, .inl ⟨SqL.of R3.pr, fun q nq => ?_⟩⟩
      have s5 := same_new nq (.tup (e.out.map V.int))
      have R4 := R3.ext s5
      have hO := R4.ob
      refine ⟨_, rfl, ?_⟩
      walk_at "Machine.kept"
      walk_at "Machine.most"
      refine ⟨by show 2 ≤ sizeLine; decide, fun u nu => ⟨by show 3 ≤ sizeLine; decide, fun t nt => ?_⟩⟩
      have s6 := same_new nu (.tup [V.int kept, V.int most])
      have s7 := same_new nt (.tup [V.ref q, ve, V.ref u])
      exact k _ t q ve _ (R4.s0.trans (s6.trans s7)) upd_same ((s6.trans s7) _ _ upd_same) (hen.mono (.same (s5.trans (s6.trans s7))))
    | stop o =>
      rintro H2 d u2 t2 ⟨dx, lp, pl, vs, fls, kept, most, R3⟩ hd hu
      refine ⟨true, S.k.exm, fun _ a na => ?_, fun z => nomatch z⟩
      have hO := R3.ob
      refine ⟨_, rfl, rfl, rfl, d, _, _, rfl, hd, rfl, ?_⟩
      have hen : EnAt H2 (.unh o) (.ref u2) := ⟨u2, rfl, hu⟩
      generalize V.ref u2 = ve at hen ⊢
      walk_at "Machine.prints"
      refine ⟨lp, _, rfl, .inl ⟨SqL.of R3.pr, fun q nq => ?_⟩⟩
      have s5 := same_new nq (.tup (e.out.map V.int))
      have R4 := R3.ext s5
      have hO := R4.ob
      refine ⟨_, rfl, ?_⟩
      walk_at "Machine.kept"
      walk_at "Machine.most"
      refine ⟨by show 2 ≤ sizeLine; decide, fun u nu => ⟨by show 3 ≤ sizeLine; decide, fun t nt => ?_⟩⟩
      have s6 := same_new nu (.tup [V.int kept, V.int most])
      have s7 := same_new nt (.tup [V.ref q, ve, V.ref u])
      exact k _ t q ve _ (R4.s0.trans (s6.trans s7)) upd_same ((s6.trans s7) _ _ upd_same) (hen.mono (.same (s5.trans (s6.trans s7))))
def spRM : Sp := fun vs H Q _ => ∃ (vc : V) (c : Tr) (n room m : Nat) (f : MFin) (e : MS), vs = [vc, .int (n : Nat)] ∧ AtM H c vc ∧ room ≤ 1000 ∧ RunsK m (.go c .nil) ⟨[(none, [])], n, [], room⟩ f e ∧
  ∀ H' v, Same H H' → OutAt H' e.out (enM f) v → Q v H'
theorem ok_run_machine (T : Fx K w mg) (S : SX P K mg) : FnOk P w K mg base CX0 7 (He.ga K "run_machine") (fdOf K ("run_machine", none)) ["expression", "steps"] spRM := by
  have G_run_counted := ok_run_counted (P := P) (base := base) T S
  refine T.run_machine.F.ok sc_run_machine (fun vs H Q E h => ?_) (fun cdv A outer s H vs Q E hr h => ?_)
  · obtain ⟨_, _, _, _, _, _, _, rfl, _⟩ := h
    rfl
  · obtain ⟨vc, c, n, room, m, f, e, rfl, hc, hroom, hrun, k⟩ := h
    refine ⟨_, (pss_cons (ps_asg (pe_call G_run_counted (hr.mono (by omega)) rfl T.run_counted.m T.run_counted.F.kp T.run_counted.b .nil pass0 (pa_cons (pv 0) (pa_cons (pv 1) pa_nil))) (pg_tup rfl (pgs_cons (pg_name (i := 2) sc_run_machine.nd rfl (Or.inl rfl)) (pgs_cons (pg_name (i := 3) sc_run_machine.nd rfl (Or.inl rfl)) (pgs_cons (pg_name (i := 4) sc_run_machine.nd rfl (Or.inl rfl)) pgs_nil)))))
      (pss_one (ps_ret (pe_tup (pa_cons (pv 2) (pa_cons (pv 3) pa_nil)))))), ?_⟩
    refine ⟨_, rfl, _, rfl, vc, c, n, room, m, f, e, rfl, hc, hroom, hrun, fun H1 t q ve u s1 ht hq hen => ?_⟩
    refine ⟨t, _, rfl, SqT.of ht, rfl, _, _, rfl, _, _, rfl, _, _, rfl, rfl, ?_⟩
    refine ⟨_, rfl, _, rfl, by show 2 ≤ sizeLine; decide, fun t2 nt2 => ?_⟩
    have s2 := same_new nt2 (.tup [V.ref q, ve])
    exact k _ _ (s1.trans s2) ⟨t2, q, ve, rfl, upd_same, s2 _ _ hq, hen.mono (.same s2)⟩
end
end AF

namespace AF
open PySem PySem.Spec PyProof.Rows L2
/-! ### rows -/
inductive Rw where
  | int (i : Int) | load (n : Nat) | bind | print | op (s : Sg) | ask (o : Nm) | handle (a b c : Nat) (o : Nm) | ret
def RwAt (H : Hp) : Rw → V → Prop
  | .int i, v => ∃ p, v = .ref p ∧ H p = some (.tup [.str "int", .int i]) ∧ smallI i
  | .load n, v => ∃ p, v = .ref p ∧ H p = some (.tup [.str "load", .int (n : Nat)])
  | .bind, v => ∃ p, v = .ref p ∧ H p = some (.tup [.str "bind"])
  | .print, v => ∃ p, v = .ref p ∧ H p = some (.tup [.str "print"])
  | .op s, v => ∃ p, v = .ref p ∧ H p = some (.tup [.str "op", .str s.s])
  | .ask o, v => ∃ p, v = .ref p ∧ H p = some (.tup [.str "ask", .str o.s])
  | .handle a b c o, v => ∃ p d t, v = .ref p ∧ H p = some (.tup [.str "handle", .int (a : Nat), .int (b : Nat), .ref d]) ∧ H d = some (.dK [(.inr o.s, .ref t)]) ∧ H t = some (.tup [.int (c : Nat), .bl false])
  | .ret, v => ∃ p, v = .ref p ∧ H p = some (.tup ["return" |> V.str])
/-- what is no list stays -/
def Kx (H H' : Hp) : Prop := ∀ b o, (∀ xs, o ≠ .lst xs) → H b = some o → H' b = some o
theorem Kx.refl (H : Hp) : Kx H H := fun _ _ _ h => h
theorem Kx.trans {H H1 H2 : Hp} (a : Kx H H1) (b : Kx H1 H2) : Kx H H2 := fun c o n h => b c o n (a c o n h)
theorem Kx.same {H H' : Hp} (s : Same H H') : Kx H H' := fun b o _ h => s b o h
theorem Kx.tx {H H' : Hp} (k : Kx H H') : Tx H H' := fun b xs h => k b _ (fun _ z => nomatch z) h
theorem Kx.lst {H : Hp} {a : Addr} {xs : List V} {o : HO} (h : H a = some (.lst xs)) : Kx H (upd H a o) := fun b u n e => by
  have ne : b ≠ a := fun z => by rw [z, h] at e; cases e; exact n _ rfl
  rw [upd_ne ne]; exact e
theorem RwAt.mono {H H' : Hp} (k : Kx H H') : ∀ {r : Rw} {v : V}, RwAt H r v → RwAt H' r v
  | .int _, _, ⟨p, e, h, s⟩ => ⟨p, e, k.tx _ _ h, s⟩
  | .load _, _, ⟨p, e, h⟩ => ⟨p, e, k.tx _ _ h⟩
  | .bind, _, ⟨p, e, h⟩ => ⟨p, e, k.tx _ _ h⟩
  | .print, _, ⟨p, e, h⟩ => ⟨p, e, k.tx _ _ h⟩
  | .op _, _, ⟨p, e, h⟩ => ⟨p, e, k.tx _ _ h⟩
  | .ask _, _, ⟨p, e, h⟩ => ⟨p, e, k.tx _ _ h⟩
  | .handle .., _, ⟨p, d, t, e, h1, h2, h3⟩ => ⟨p, d, t, e, k.tx _ _ h1, k _ _ (fun _ z => nomatch z) h2, k.tx _ _ h3⟩
  | .ret, _, ⟨p, e, h⟩ => ⟨p, e, k.tx _ _ h⟩
/-! ### the compiler's mirror -/
def ixOf (x : Nm) : List Nm → Option Nat
  | [] => none
  | y :: r => if y = x then some 0 else (ixOf x r).map (· + 1)
/-- what `value` covers, its names known -/
def okV (ns : List Nm) : Tr → Bool
  | .num i => decide (-(2 ^ 62) < i ∧ i < 2 ^ 62)
  | .name x => (ixOf x ns.reverse).isSome
  | .op _ a b => okV ns a && okV ns b
  | .ask _ a => okV ns a
  | .print a b => okV ns a && okV ns b
  | _ => false
def vdep : Tr → Nat
  | .op _ a b => max (vdep a) (vdep b) + 1
  | .ask _ a => vdep a + 1
  | .print a b => max (vdep a) (vdep b) + 1
  | _ => 0
def compV (ns : List Nm) : Tr → List Rw
  | .num i => [.int i]
  | .name x => [.load ((ixOf x ns.reverse).getD 0)]
  | .op s a b => compV ns a ++ compV ns b ++ [.op s]
  | .ask o a => compV ns a ++ [.ask o]
  | .print a b => compV ns a ++ [.print] ++ compV ns b
  | _ => []
def okL (ns : List Nm) : Tr → Bool
  | .lt x a b => okV ns a && okL (ns ++ [x]) b
  | .print .. => false
  | e => okV ns e
def compL (ns : List Nm) : Tr → List Rw
  | .lt x a b => compV ns a ++ [.bind] ++ compL (ns ++ [x]) b
  | e => compV ns e ++ [.ret]
def ldep : Tr → Nat
  | .lt _ _ b => ldep b + 1
  | _ => 0
def clauseOk : Tr → Bool
  | .op .. => true
  | .ask .. => true
  | _ => false
/-- one block: its rows, what is queued -/
def compB (q : Nat) (ns : List Nm) : Tr → List Rw × List (Tr × List Nm)
  | .handle a r f o x k g => ([.handle q (q + 1) (q + 2) o, .ret], [(a, ns), (f, ns ++ [r]), (g, ns ++ [x, k])])
  | e => (compL ns e, [])
/-- the value's depth in the lets -/
def lvd : Tr → Nat
  | .lt _ a b => max (vdep a) (lvd b)
  | e => vdep e
def okB (ns : List Nm) (e : Tr) : Bool := ns.length ≤ 100 && (match e with
  | .handle _ _ _ _ _ _ g => clauseOk g
  | e => okL ns e && (decide ((compL ns e).length ≤ 900) && (decide (lvd e ≤ 10) && decide (ldep e ≤ 20))))
def CRuns : Nat → List (List Rw) → List (Tr × List Nm) → List (List Rw) → Prop
  | 0, _, _, _ => False
  | m + 1, bs, qs, out => match qs[bs.length]? with
    | none => bs.length = qs.length ∧ out = bs
    | some (e, ns) => qs.length ≤ 800 ∧ bs.length ≤ 800 ∧ okB ns e = true ∧ CRuns m (bs ++ [(compB qs.length ns e).1]) (qs ++ (compB qs.length ns e).2) out
def nmV (ns : List Nm) : List V := ns.map fun n => V.str n.s
end AF

namespace AF
open PySem PySem.Spec PyProof.Rows L2
local macro_rules | `(tactic| walk_at "skip") => `(tactic| repeat (refine ⟨_, rfl, rfl, _, rfl, br_f (by decide +kernel) ?_⟩))
local macro_rules | `(tactic| walk_at "hit") => `(tactic| refine ⟨_, rfl, rfl, _, rfl, br_t (by decide +kernel) ?_⟩)
set_option hygiene false in
local macro_rules | `(tactic| walk_at "Run.current") => `(tactic| refine ⟨_, rfl, _, _, _, _, _, rfl, hO, T.Run.cl, T.na_Run_current, lk_Run_current, ?_⟩)
set_option hygiene false in
local macro_rules | `(tactic| walk_at "Run.frames") => `(tactic| refine ⟨_, rfl, _, _, _, _, _, rfl, hO, T.Run.cl, T.na_Run_frames, lk_Run_frames, ?_⟩)
set_option hygiene false in
local macro_rules | `(tactic| walk_at "Run.left") => `(tactic| refine ⟨_, rfl, _, _, _, _, _, rfl, hO, T.Run.cl, T.na_Run_left, lk_Run_left, ?_⟩)
set_option hygiene false in
local macro_rules | `(tactic| walk_at "Run.prints") => `(tactic| refine ⟨_, rfl, _, _, _, _, _, rfl, hO, T.Run.cl, T.na_Run_prints, lk_Run_prints, ?_⟩)
set_option hygiene false in
local macro_rules | `(tactic| walk_at "Run.end") => `(tactic| refine ⟨_, rfl, _, _, _, _, _, rfl, hO, T.Run.cl, T.na_Run_end, lk_Run_end, ?_⟩)
set_option hygiene false in
local macro_rules | `(tactic| walk_at "Machine.left") => `(tactic| refine ⟨_, rfl, _, _, _, _, _, rfl, hO, T.Machine.cl, T.na_Machine_left, lk_Machine_left, ?_⟩)
set_option hygiene false in
local macro_rules | `(tactic| walk_at "Machine.prints") => `(tactic| refine ⟨_, rfl, _, _, _, _, _, rfl, hO, T.Machine.cl, T.na_Machine_prints, lk_Machine_prints, ?_⟩)
set_option hygiene false in
local macro_rules | `(tactic| walk_at "Machine.pieces") => `(tactic| refine ⟨_, rfl, _, _, _, _, _, rfl, hO, T.Machine.cl, T.na_Machine_pieces, lk_Machine_pieces, ?_⟩)
set_option hygiene false in
local macro_rules | `(tactic| walk_at "Machine.kept") => `(tactic| refine ⟨_, rfl, _, _, _, _, _, rfl, hO, T.Machine.cl, T.na_Machine_kept, lk_Machine_kept, ?_⟩)
set_option hygiene false in
local macro_rules | `(tactic| walk_at "Machine.most") => `(tactic| refine ⟨_, rfl, _, _, _, _, _, rfl, hO, T.Machine.cl, T.na_Machine_most, lk_Machine_most, ?_⟩)
set_option hygiene false in
local macro_rules | `(tactic| walk_at "Piece.kind") => `(tactic| refine ⟨_, rfl, _, _, _, _, _, rfl, hO, T.Piece.cl, T.na_Piece_kind, lk_Piece_kind, ?_⟩)
set_option hygiene false in
local macro_rules | `(tactic| walk_at "Piece.handler") => `(tactic| refine ⟨_, rfl, _, _, _, _, _, rfl, hO, T.Piece.cl, T.na_Piece_handler, lk_Piece_handler, ?_⟩)
set_option hygiene false in
local macro_rules | `(tactic| walk_at "Piece.frames") => `(tactic| refine ⟨_, rfl, _, _, _, _, _, rfl, hO, T.Piece.cl, T.na_Piece_frames, lk_Piece_frames, ?_⟩)
set_option hygiene false in
local macro_rules | `(tactic| walk_at "Piece.distance") => `(tactic| refine ⟨_, rfl, _, _, _, _, _, rfl, hO, T.Piece.cl, T.na_Piece_distance, lk_Piece_distance, ?_⟩)
set_option hygiene false in
local macro_rules | `(tactic| walk_at "Piece.table") => `(tactic| refine ⟨_, rfl, _, _, _, _, _, rfl, hO, T.Piece.cl, T.na_Piece_table, lk_Piece_table, ?_⟩)
set_option hygiene false in
local macro_rules | `(tactic| walk_at "Runner.blocks") => `(tactic| refine ⟨_, rfl, _, _, _, _, _, rfl, hO, T.Runner.cl, T.na_Runner_blocks, lk_Runner_blocks, ?_⟩)
set_option hygiene false in
local macro_rules | `(tactic| walk_at "Runner.left") => `(tactic| refine ⟨_, rfl, _, _, _, _, _, rfl, hO, T.Runner.cl, T.na_Runner_left, lk_Runner_left, ?_⟩)
set_option hygiene false in
local macro_rules | `(tactic| walk_at "Runner.prints") => `(tactic| refine ⟨_, rfl, _, _, _, _, _, rfl, hO, T.Runner.cl, T.na_Runner_prints, lk_Runner_prints, ?_⟩)
set_option hygiene false in
local macro_rules | `(tactic| walk_at "Runner.kept") => `(tactic| refine ⟨_, rfl, _, _, _, _, _, rfl, hO, T.Runner.cl, T.na_Runner_kept, lk_Runner_kept, ?_⟩)
set_option hygiene false in
local macro_rules | `(tactic| walk_at "Runner.end") => `(tactic| refine ⟨_, rfl, _, _, _, _, _, rfl, hO, T.Runner.cl, T.na_Runner_end, lk_Runner_end, ?_⟩)
set_option hygiene false in
local macro_rules | `(tactic| walk_at "Runner.pieces") => `(tactic| refine ⟨_, rfl, _, _, _, _, _, rfl, hO, T.Runner.cl, T.na_Runner_pieces, lk_Runner_pieces, ?_⟩)
set_option hygiene false in
local macro_rules | `(tactic| walk_at "Runner.rows") => `(tactic| refine ⟨_, rfl, _, _, _, _, _, rfl, hO, T.Runner.cl, T.na_Runner_rows, lk_Runner_rows, ?_⟩)
set_option hygiene false in
local macro_rules | `(tactic| walk_at "Runner.at") => `(tactic| refine ⟨_, rfl, _, _, _, _, _, rfl, hO, T.Runner.cl, T.na_Runner_at, lk_Runner_at, ?_⟩)
set_option hygiene false in
local macro_rules | `(tactic| walk_at "Runner.bindings") => `(tactic| refine ⟨_, rfl, _, _, _, _, _, rfl, hO, T.Runner.cl, T.na_Runner_bindings, lk_Runner_bindings, ?_⟩)
set_option hygiene false in
local macro_rules | `(tactic| walk_at "Runner.operands") => `(tactic| refine ⟨_, rfl, _, _, _, _, _, rfl, hO, T.Runner.cl, T.na_Runner_operands, lk_Runner_operands, ?_⟩)
set_option hygiene false in
local macro_rules | `(tactic| walk_at "Code.blocks") => `(tactic| refine ⟨_, rfl, _, _, _, _, _, rfl, hO, T.Code.cl, T.na_Code_blocks, lk_Code_blocks, ?_⟩)
set_option hygiene false in
local macro_rules | `(tactic| walk_at "Compiler.blocks") => `(tactic| refine ⟨_, rfl, _, _, _, _, _, rfl, hO, T.Compiler.cl, T.na_Compiler_blocks, lk_Compiler_blocks, ?_⟩)
set_option hygiene false in
local macro_rules | `(tactic| walk_at "Compiler.queue") => `(tactic| refine ⟨_, rfl, _, _, _, _, _, rfl, hO, T.Compiler.cl, T.na_Compiler_queue, lk_Compiler_queue, ?_⟩)
/-- all but l stays -/
def Lk (l : List Addr) (H H' : Hp) : Prop := ∀ b o, b ∉ l → H b = some o → H' b = some o
theorem Lk.refl (l : List Addr) (H : Hp) : Lk l H H := fun _ _ _ h => h
theorem Lk.trans {l : List Addr} {H H1 H2 : Hp} (a : Lk l H H1) (b : Lk l H1 H2) : Lk l H H2 := fun c o n h => b c o n (a c o n h)
theorem Lk.same {l : List Addr} {H H' : Hp} (s : Same H H') : Lk l H H' := fun b o _ h => s b o h
theorem Lk.upd {l : List Addr} {H : Hp} {a : Addr} {o : HO} (h : a ∈ l) : Lk l H (upd H a o) := fun b u n e => by
  rw [upd_ne (fun z => n (by rw [z]; exact h))]; exact e
theorem Lk.sub {l l' : List Addr} {H H' : Hp} (k : Lk l H H') (h : ∀ a ∈ l, a ∈ l') : Lk l' H H' := fun b o n e => k b o (fun z => n (h b z)) e
theorem Lk.kx {l : List Addr} {H H' : Hp} (k : Lk l H H') (h : ∀ a ∈ l, ∃ xs, H a = some (.lst xs)) : Kx H H' := fun b o n e => k b o (fun z => by
  obtain ⟨xs, q⟩ := h b z
  rw [e] at q; cases q; exact n _ rfl) e
def QAt (l : List Addr) (H : Hp) (e : Tr × List Nm) (v : V) : Prop := ∃ t ve ln, v = .ref t ∧ H t = some (.tup [ve, .ref ln]) ∧ At H e.1 ve ∧ H ln = some (.lst (nmV e.2)) ∧ ln ∉ l
theorem QAt.mono {l l' : List Addr} {H H' : Hp} {e : Tr × List Nm} {v : V} (h : QAt l H e v) (k : Kx H H') (hl : ∀ ln xs, ln ∉ l → H ln = some (.lst xs) → H' ln = some (.lst xs) ∧ ln ∉ l') : QAt l' H' e v := by
  obtain ⟨t, ve, ln, e1, h1, h2, h3, n1⟩ := h
  exact ⟨t, ve, ln, e1, k.tx _ _ h1, h2.mono k.tx, (hl _ _ n1 h3).1, (hl _ _ n1 h3).2⟩
section
variable {P : Program} {w : World} {K : PySem.W.Frag} {mg : Str → Option Value} {base : Heap}
def spBlock (K : PySem.W.Frag) : Sp := fun vs H Q _ => ∃ (p dx lb lq : Addr) (ve vn : V) (qs : List V), vs = [.ref p, ve, vn] ∧ H p = some (.ins (He.ga K "Compiler") dx (flCompiler (.ref lb) (.ref lq))) ∧ H lq = some (.lst qs) ∧ qs.length ≤ 950 ∧
  ∀ t, H t = none → Q (.int (qs.length : Nat)) (upd (upd H t (.tup [ve, vn])) lq (.lst (qs ++ [.ref t])))
theorem ok_block (T : Fx K w mg) : FnOk P w K mg base CX0 1 (He.ma K (He.ga K "Compiler") "block") (fdOf K ("Compiler", some "block")) ["self", "expression", "names"] (spBlock K) := by
  refine T.Compiler_block.F.ok sc_Compiler_block (fun vs H Q E h => ?_) (fun cdv A outer s H vs Q E hr h => ?_)
  · obtain ⟨_, _, _, _, _, _, _, rfl, _⟩ := h
    rfl
  · obtain ⟨p, dx, lb, lq, ve, vn, qs, rfl, hO, hq, hl, k⟩ := h
    refine ⟨_, (pss_cons (ps_expr (pe_bm PySem.F.plainAttrs_list PySem.F.slot_list_append PySem.F.type_list_append mt_append (pe_fld (pv 0) rfl) (pa_cons (pe_tup (pa_cons (pv 1) (pa_cons (pv 2) pa_nil))) pa_nil)))
      (pss_one (ps_ret (pe_op op_sub (pe_callB call_len_seq (by rfl) T.n_len (by decide +kernel) (pa_cons (pe_fld (pv 0) rfl) pa_nil)) pe_int)))), ?_⟩
    walk_at "Compiler.queue"
    refine ⟨.inl ⟨rfl, _, SqL.of hq⟩, _, rfl, _, rfl, by show 2 ≤ sizeLine; decide, fun t nt => ?_⟩
    have n1 : lq ≠ t := ne_of_none hq nt
    have s1 := same_new nt (.tup [ve, vn])
    refine ⟨lq, _, _, rfl, rfl, s1 _ _ hq, small1000 (by omega), ?_⟩
    have n2 : p ≠ lq := ne_il hO hq
    have hO : (upd (upd H t (.tup [ve, vn])) lq (.lst (qs ++ [V.ref t]))) p = some (.ins (He.ga K "Compiler") dx (flCompiler (.ref lb) (.ref lq))) := by rw [upd_ne n2]; exact s1 _ _ hO
    walk_at "Compiler.queue"
    refine ⟨lq, _, rfl, .inl (SqL.of upd_same), _, _, rfl, rfl, ?_⟩
    have e : (((qs ++ [V.ref t]).length : Nat) : Int) - 1 = ((qs.length : Nat) : Int) := by rw [List.length_append, List.length_singleton]; omega
    show Q (.int ((((qs ++ [V.ref t]).length : Nat) : Int) - 1)) _
    rw [e]
    exact k t nt
def spAns : Sp := fun vs H Q _ => ∃ (b : Addr) (g : Tr) (vk vg : V), vs = [vg, vk] ∧ At H g vg ∧ clauseOk g = true ∧ ∀ H', Same H H' → Q (.bl false) H'
theorem clause_head {H : Hp} {g : Tr} {v : V} (h : At H g v) (c : clauseOk g = true) : ∃ a rest s, v = .ref a ∧ H a = some (.tup (.str s :: rest)) ∧ (s = "op" ∨ s = "ask") := by
  cases g with
  | op s a b => obtain ⟨p, va, vb, e, h, _⟩ := h; exact ⟨p, _, _, e, h, .inl rfl⟩
  | ask o a => obtain ⟨p, va, e, h, _⟩ := h; exact ⟨p, _, _, e, h, .inr rfl⟩
  | _ => cases c
theorem ok_answers (T : Fx K w mg) : FnOk P w K mg base CX0 1 (He.ga K "answers") (fdOf K ("answers", none)) ["body", "kept"] spAns := by
  refine T.answers.F.ok sc_answers (fun vs H Q E h => ?_) (fun cdv A outer s H vs Q E hr h => ?_)
  · obtain ⟨_, _, _, _, rfl, _⟩ := h
    rfl
  · obtain ⟨b, g, vk, vg, rfl, hg, hc, k⟩ := h
    refine ⟨_, (pss_cons (ps_set (i := 2) sc_answers.nd rfl (Or.inl rfl) (pe_ix ix_tup (pv 0) pe_int (fun _ _ => rfl)))
      (pss_cons (ps_if (pt_cmpR op_eq (pv 2) pe_str (nomark _))
        pss_never
        pss_nil)
      (pss_cons (ps_if (pt_cmpR op_notIn_seq (pv 2) (pe_tup (pa_cons pe_str (pa_cons pe_str (pa_cons pe_str pa_nil)))) rfl)
        (pss_one (ps_ret pe_bl))
        pss_nil)
      pss_never))), ?_⟩
    obtain ⟨a, rest, s, rfl, ha, hs⟩ := clause_head hg hc
    refine ⟨_, rfl, a, _, _, _, rfl, rfl, SqT.of ha, atI_nat (j := 0) rfl, ?_⟩
    rcases hs with rfl | rfl
    · walk_at "skip"
      exact ⟨_, rfl, by show 3 ≤ sizeLine; decide, fun q nq => ⟨q, _, rfl, .inr (SqT.of upd_same), rfl, rfl, _, rfl, br_t (by decide +kernel) (k _ (same_new nq _))⟩⟩
    · walk_at "skip"
      exact ⟨_, rfl, by show 3 ≤ sizeLine; decide, fun q nq => ⟨q, _, rfl, .inr (SqT.of upd_same), rfl, rfl, _, rfl, br_t (by decide +kernel) (k _ (same_new nq _))⟩⟩
def spAtOnce : Sp := fun vs H Q _ => ∃ (d : Addr) (g : Tr) (a b c vg : V), vs = [.ref d] ∧ H d = some (.tup [a, b, c, vg]) ∧ At H g vg ∧ clauseOk g = true ∧ ∀ H', Same H H' → Q (.bl false) H'
theorem ok_atonce (T : Fx K w mg) : FnOk P w K mg base CX0 2 (He.ga K "answers_at_once") (fdOf K ("answers_at_once", none)) ["clause"] spAtOnce := by
  have G_answers := ok_answers (P := P) (base := base) T
  refine T.answers_at_once.F.ok sc_answers_at_once (fun vs H Q E h => ?_) (fun cdv A outer s H vs Q E hr h => ?_)
  · obtain ⟨_, _, _, _, _, _, rfl, _⟩ := h
    rfl
  · obtain ⟨d, g, a, b, c, vg, rfl, hd, hg, hc, k⟩ := h
    refine ⟨_, (pss_one (ps_ret (pe_call G_answers (hr.mono (by omega)) rfl T.answers.m T.answers.F.kp T.answers.b .nil pass0 (pa_cons (pe_ix ix_tup (pv 0) pe_int (fun _ _ => rfl)) (pa_cons (pe_ix ix_tup (pv 0) pe_int (fun _ _ => rfl)) pa_nil))))), ?_⟩
    exact ⟨_, rfl, d, _, _, _, rfl, rfl, SqT.of hd, rfl, _, rfl, d, _, _, _, rfl, rfl, SqT.of hd, rfl, d, g, c, vg, rfl, hg, hc, k⟩
end
end AF

namespace AF
open PySem PySem.Spec PyProof.Rows L2
local macro_rules | `(tactic| walk_at "skip") => `(tactic| repeat (refine ⟨_, rfl, rfl, _, rfl, br_f (by decide +kernel) ?_⟩))
local macro_rules | `(tactic| walk_at "hit") => `(tactic| refine ⟨_, rfl, rfl, _, rfl, br_t (by decide +kernel) ?_⟩)
set_option hygiene false in
local macro_rules | `(tactic| walk_at "Run.current") => `(tactic| refine ⟨_, rfl, _, _, _, _, _, rfl, hO, T.Run.cl, T.na_Run_current, lk_Run_current, ?_⟩)
set_option hygiene false in
local macro_rules | `(tactic| walk_at "Run.frames") => `(tactic| refine ⟨_, rfl, _, _, _, _, _, rfl, hO, T.Run.cl, T.na_Run_frames, lk_Run_frames, ?_⟩)
set_option hygiene false in
local macro_rules | `(tactic| walk_at "Run.left") => `(tactic| refine ⟨_, rfl, _, _, _, _, _, rfl, hO, T.Run.cl, T.na_Run_left, lk_Run_left, ?_⟩)
set_option hygiene false in
local macro_rules | `(tactic| walk_at "Run.prints") => `(tactic| refine ⟨_, rfl, _, _, _, _, _, rfl, hO, T.Run.cl, T.na_Run_prints, lk_Run_prints, ?_⟩)
set_option hygiene false in
local macro_rules | `(tactic| walk_at "Run.end") => `(tactic| refine ⟨_, rfl, _, _, _, _, _, rfl, hO, T.Run.cl, T.na_Run_end, lk_Run_end, ?_⟩)
set_option hygiene false in
local macro_rules | `(tactic| walk_at "Machine.left") => `(tactic| refine ⟨_, rfl, _, _, _, _, _, rfl, hO, T.Machine.cl, T.na_Machine_left, lk_Machine_left, ?_⟩)
set_option hygiene false in
local macro_rules | `(tactic| walk_at "Machine.prints") => `(tactic| refine ⟨_, rfl, _, _, _, _, _, rfl, hO, T.Machine.cl, T.na_Machine_prints, lk_Machine_prints, ?_⟩)
set_option hygiene false in
local macro_rules | `(tactic| walk_at "Machine.pieces") => `(tactic| refine ⟨_, rfl, _, _, _, _, _, rfl, hO, T.Machine.cl, T.na_Machine_pieces, lk_Machine_pieces, ?_⟩)
set_option hygiene false in
local macro_rules | `(tactic| walk_at "Machine.kept") => `(tactic| refine ⟨_, rfl, _, _, _, _, _, rfl, hO, T.Machine.cl, T.na_Machine_kept, lk_Machine_kept, ?_⟩)
set_option hygiene false in
local macro_rules | `(tactic| walk_at "Machine.most") => `(tactic| refine ⟨_, rfl, _, _, _, _, _, rfl, hO, T.Machine.cl, T.na_Machine_most, lk_Machine_most, ?_⟩)
set_option hygiene false in
local macro_rules | `(tactic| walk_at "Piece.kind") => `(tactic| refine ⟨_, rfl, _, _, _, _, _, rfl, hO, T.Piece.cl, T.na_Piece_kind, lk_Piece_kind, ?_⟩)
set_option hygiene false in
local macro_rules | `(tactic| walk_at "Piece.handler") => `(tactic| refine ⟨_, rfl, _, _, _, _, _, rfl, hO, T.Piece.cl, T.na_Piece_handler, lk_Piece_handler, ?_⟩)
set_option hygiene false in
local macro_rules | `(tactic| walk_at "Piece.frames") => `(tactic| refine ⟨_, rfl, _, _, _, _, _, rfl, hO, T.Piece.cl, T.na_Piece_frames, lk_Piece_frames, ?_⟩)
set_option hygiene false in
local macro_rules | `(tactic| walk_at "Piece.distance") => `(tactic| refine ⟨_, rfl, _, _, _, _, _, rfl, hO, T.Piece.cl, T.na_Piece_distance, lk_Piece_distance, ?_⟩)
set_option hygiene false in
local macro_rules | `(tactic| walk_at "Piece.table") => `(tactic| refine ⟨_, rfl, _, _, _, _, _, rfl, hO, T.Piece.cl, T.na_Piece_table, lk_Piece_table, ?_⟩)
set_option hygiene false in
local macro_rules | `(tactic| walk_at "Runner.blocks") => `(tactic| refine ⟨_, rfl, _, _, _, _, _, rfl, hO, T.Runner.cl, T.na_Runner_blocks, lk_Runner_blocks, ?_⟩)
set_option hygiene false in
local macro_rules | `(tactic| walk_at "Runner.left") => `(tactic| refine ⟨_, rfl, _, _, _, _, _, rfl, hO, T.Runner.cl, T.na_Runner_left, lk_Runner_left, ?_⟩)
set_option hygiene false in
local macro_rules | `(tactic| walk_at "Runner.prints") => `(tactic| refine ⟨_, rfl, _, _, _, _, _, rfl, hO, T.Runner.cl, T.na_Runner_prints, lk_Runner_prints, ?_⟩)
set_option hygiene false in
local macro_rules | `(tactic| walk_at "Runner.kept") => `(tactic| refine ⟨_, rfl, _, _, _, _, _, rfl, hO, T.Runner.cl, T.na_Runner_kept, lk_Runner_kept, ?_⟩)
set_option hygiene false in
local macro_rules | `(tactic| walk_at "Runner.end") => `(tactic| refine ⟨_, rfl, _, _, _, _, _, rfl, hO, T.Runner.cl, T.na_Runner_end, lk_Runner_end, ?_⟩)
set_option hygiene false in
local macro_rules | `(tactic| walk_at "Runner.pieces") => `(tactic| refine ⟨_, rfl, _, _, _, _, _, rfl, hO, T.Runner.cl, T.na_Runner_pieces, lk_Runner_pieces, ?_⟩)
set_option hygiene false in
local macro_rules | `(tactic| walk_at "Runner.rows") => `(tactic| refine ⟨_, rfl, _, _, _, _, _, rfl, hO, T.Runner.cl, T.na_Runner_rows, lk_Runner_rows, ?_⟩)
set_option hygiene false in
local macro_rules | `(tactic| walk_at "Runner.at") => `(tactic| refine ⟨_, rfl, _, _, _, _, _, rfl, hO, T.Runner.cl, T.na_Runner_at, lk_Runner_at, ?_⟩)
set_option hygiene false in
local macro_rules | `(tactic| walk_at "Runner.bindings") => `(tactic| refine ⟨_, rfl, _, _, _, _, _, rfl, hO, T.Runner.cl, T.na_Runner_bindings, lk_Runner_bindings, ?_⟩)
set_option hygiene false in
local macro_rules | `(tactic| walk_at "Runner.operands") => `(tactic| refine ⟨_, rfl, _, _, _, _, _, rfl, hO, T.Runner.cl, T.na_Runner_operands, lk_Runner_operands, ?_⟩)
set_option hygiene false in
local macro_rules | `(tactic| walk_at "Code.blocks") => `(tactic| refine ⟨_, rfl, _, _, _, _, _, rfl, hO, T.Code.cl, T.na_Code_blocks, lk_Code_blocks, ?_⟩)
set_option hygiene false in
local macro_rules | `(tactic| walk_at "Compiler.blocks") => `(tactic| refine ⟨_, rfl, _, _, _, _, _, rfl, hO, T.Compiler.cl, T.na_Compiler_blocks, lk_Compiler_blocks, ?_⟩)
set_option hygiene false in
local macro_rules | `(tactic| walk_at "Compiler.queue") => `(tactic| refine ⟨_, rfl, _, _, _, _, _, rfl, hO, T.Compiler.cl, T.na_Compiler_queue, lk_Compiler_queue, ?_⟩)
section
variable {P : Program} {w : World} {K : PySem.W.Frag} {mg : Str → Option Value} {base : Heap}
theorem nmV_add (ns : List Nm) (x : Nm) : nmV ns ++ [V.str x.s] = nmV (ns ++ [x]) := by unfold nmV; rw [List.map_append]; rfl
theorem nmV_add2 (ns : List Nm) (x k : Nm) : nmV ns ++ [V.str x.s, V.str k.s] = nmV (ns ++ [x, k]) := by unfold nmV; rw [List.map_append]; rfl
theorem blk {H : Hp} {lq lr t : Addr} {qs rs : List V} {v l : V} (hq : H lq = some (.lst qs)) (nt : H t = none) (hr : H lr = some (.lst rs)) (n : lq ≠ lr) :
    Lk [lr, lq] H (upd (upd H t (.tup [v, l])) lq (.lst (qs ++ [.ref t]))) ∧ Kx H (upd (upd H t (.tup [v, l])) lq (.lst (qs ++ [.ref t]))) ∧ (upd (upd H t (.tup [v, l])) lq (.lst (qs ++ [.ref t]))) t = some (.tup [v, l]) ∧
      (upd (upd H t (.tup [v, l])) lq (.lst (qs ++ [.ref t]))) lq = some (.lst (qs ++ [.ref t])) ∧ (upd (upd H t (.tup [v, l])) lq (.lst (qs ++ [.ref t]))) lr = some (.lst rs) := by
  have s1 := same_new nt (.tup [v, l])
  exact ⟨(Lk.same s1).trans (.upd (by simp)), (Kx.same s1).trans (.lst (s1 _ _ hq)), by rw [upd_ne (ne_of_none hq nt).symm]; exact upd_same, upd_same, by rw [upd_ne n.symm]; exact s1 _ _ hr⟩
theorem ne_td {H : Hp} {a b : Addr} {xs : List V} {ys : List (L2.Key × V)} (h1 : H a = some (.tup xs)) (h2 : H b = some (.dK ys)) : a ≠ b := fun z => by rw [z, h2] at h1; cases h1
theorem ne_ld {H : Hp} {a b : Addr} {xs : List V} {ys : List (L2.Key × V)} (h1 : H a = some (.lst xs)) (h2 : H b = some (.dK ys)) : a ≠ b := fun z => by rw [z, h2] at h1; cases h1
def hRows (q : Nat) (o : Nm) : Rw := .handle q (q + 1) (q + 2) o
def hQs (ns : List Nm) (a : Tr) (r : Nm) (f : Tr) (x k : Nm) (g : Tr) : List (Tr × List Nm) := [(a, ns), (f, ns ++ [r]), (g, ns ++ [x, k])]
def HPost (lb lq lr : Addr) (H : Hp) (ns : List Nm) (a : Tr) (r : Nm) (f : Tr) (o x k : Nm) (g : Tr) (rs qs : List V) (H' : Hp) : Prop := ∃ v1 qa, Lk [lr, lq] H H' ∧ H' lr = some (.lst (rs ++ [v1])) ∧ H' lq = some (.lst (qs ++ qa)) ∧ RwAt H' (hRows qs.length o) v1 ∧ Rel2 (QAt [lb, lq, lr] H') (hQs ns a r f x k g) qa
def spHandler (K : PySem.W.Frag) : Sp := fun vs H Q _ => ∃ (p dx lb lq lr ln : Addr) (ve : V) (a : Tr) (r : Nm) (f : Tr) (o x k : Nm) (g : Tr) (ns : List Nm) (rs qs : List V), vs = [.ref p, .ref lr, ve, .ref ln] ∧ H p = some (.ins (He.ga K "Compiler") dx (flCompiler (.ref lb) (.ref lq))) ∧
  At H (.handle a r f o x k g) ve ∧ clauseOk g = true ∧ H lr = some (.lst rs) ∧ H lq = some (.lst qs) ∧ H ln = some (.lst (nmV ns)) ∧ lq ≠ lr ∧ ln ≠ lq ∧ ln ≠ lb ∧ ln ≠ lr ∧ lb ∉ [lr, lq] ∧ (∃ bs, H lb = some (.lst bs)) ∧ ns.length ≤ 150 ∧ qs.length ≤ 900 ∧ rs.length ≤ 950 ∧ ∀ H', HPost lb lq lr H ns a r f o x k g rs qs H' → Q .non H'
theorem ok_handler (T : Fx K w mg) : FnOk P w K mg base CX0 3 (He.ma K (He.ga K "Compiler") "handler") (fdOf K ("Compiler", some "handler")) ["self", "rows", "expression", "names"] (spHandler K) := by
  have G_Compiler_block := ok_block (P := P) (base := base) T
  have G_answers_at_once := ok_atonce (P := P) (base := base) T
  refine T.Compiler_handler.F.ok sc_Compiler_handler (fun vs H Q E h => ?_) (fun cdv A outer s H vs Q E hr h => ?_)
  · obtain ⟨_, _, _, _, _, _, _, _, _, _, _, _, _, _, _, _, _, rfl, _⟩ := h
    rfl
  · obtain ⟨p, dx, lb, lq, lr, ln, ve, a, r, f, o, x, kk, g, ns, rs, qs, rfl, hO, hat, hcl, hlr, hlq, hln, n1, n2, n3, n4, nb, ⟨bs, hlb⟩, hns, hq9, hr9, k⟩ := h
    have hu := hu_of hr
    refine ⟨_, (pss_cons (ps_set (i := 4) sc_Compiler_handler.nd rfl (Or.inl rfl) (pe_meth (pv 0) T.Compiler.cl T.Compiler_block.m G_Compiler_block (hr.mono (by omega)) T.Compiler_block.b .nil pass0 (pa_cons (pe_ix ix_tup (pv 2) pe_int (fun _ _ => rfl)) (pa_cons (pv 3) pa_nil))))
      (pss_cons (ps_asg (pe_ix ix_tup (pv 2) pe_int (fun _ _ => rfl)) (pg_tup rfl (pgs_cons (pg_name (i := 5) sc_Compiler_handler.nd rfl (Or.inl rfl)) (pgs_cons (pg_name (i := 6) sc_Compiler_handler.nd rfl (Or.inl rfl)) pgs_nil))))
      (pss_cons (ps_set (i := 7) sc_Compiler_handler.nd rfl (Or.inl rfl) (pe_meth (pv 0) T.Compiler.cl T.Compiler_block.m G_Compiler_block (hr.mono (by omega)) T.Compiler_block.b .nil pass0 (pa_cons (pv 6) (pa_cons (pe_op op_cat (pv 3) (pe_lst (pa_cons (pv 5) pa_nil))) pa_nil))))
      (pss_cons (ps_set (i := 8) sc_Compiler_handler.nd rfl (Or.inl rfl) pe_dnewK)
      (pss_cons (ps_for PassesOwn.never rfl (pi_tup (pe_ix ix_tup (pv 2) pe_int (fun _ _ => rfl))) (pg_name (i := 9) sc_Compiler_handler.nd rfl (Or.inl rfl))
        (pss_cons (ps_set (i := 10) sc_Compiler_handler.nd rfl (Or.inl rfl) (pe_ix ix_tup (pv 9) pe_int (fun _ _ => rfl)))
        (pss_cons (ps_set (i := 11) sc_Compiler_handler.nd rfl (Or.inl rfl) (pe_call G_answers_at_once (hr.mono (by omega)) rfl T.answers_at_once.m T.answers_at_once.F.kp T.answers_at_once.b .nil pass0 (pa_cons (pv 9) pa_nil)))
        (pss_cons (ps_if (pt_truth (pv 11) (by intro _; rfl))
          pss_never
          pss_nil)
        (pss_one (ps_dput hu (pv 8) (pe_ix ix_tup (pv 9) pe_int (fun _ _ => rfl)) (pe_tup (pa_cons (pe_meth (pv 0) T.Compiler.cl T.Compiler_block.m G_Compiler_block (hr.mono (by omega)) T.Compiler_block.b .nil pass0 (pa_cons (pv 10) (pa_cons (pe_op op_cat (pv 3) (pe_lst (pa_cons (pe_ix ix_tup (pv 9) pe_int (fun _ _ => rfl)) (pa_cons (pe_ix ix_tup (pv 9) pe_int (fun _ _ => rfl)) pa_nil)))) pa_nil))) (pa_cons (pv 11) pa_nil))) rfl))))))
      (pss_one (ps_expr (pe_bm PySem.F.plainAttrs_list PySem.F.slot_list_append PySem.F.type_list_append mt_append (pv 1) (pa_cons (pe_tup (pa_cons pe_str (pa_cons (pv 4) (pa_cons (pv 7) (pa_cons (pv 8) pa_nil))))) pa_nil))))))))), ?_⟩
    obtain ⟨a0, va, vr, vcl, vf, vg, rfl, ha, hd, hA, hF, hG⟩ := hat
    obtain ⟨q, c, d, rfl, rfl, h1, h2, h3⟩ := hd
    refine ⟨_, rfl, p, dx, _, rfl, hO, no_Compiler_block, _, rfl, a0, _, _, _, rfl, rfl, SqT.of ha, rfl, _, rfl, p, dx, lb, lq, va, .ref ln, qs, rfl, hO, hlq, by omega, fun t1 nt1 => ?_⟩
    have s1 := same_new nt1 (.tup [va, V.ref ln])
    have k1 : Lk [lr, lq] H (upd (upd H t1 (.tup [va, V.ref ln])) lq (.lst (qs ++ [.ref t1]))) := (Lk.same s1).trans (.upd (by simp))
    have x1 : Kx H (upd (upd H t1 (.tup [va, V.ref ln])) lq (.lst (qs ++ [.ref t1]))) := (Kx.same s1).trans (.lst (s1 _ _ hlq))
    have ht1 : (upd (upd H t1 (.tup [va, V.ref ln])) lq (.lst (qs ++ [.ref t1]))) t1 = some (.tup [va, V.ref ln]) := by rw [upd_ne (ne_of_none hlq nt1).symm]; exact upd_same
    have hlq1 : (upd (upd H t1 (.tup [va, V.ref ln])) lq (.lst (qs ++ [.ref t1]))) lq = some (.lst (qs ++ [.ref t1])) := upd_same
    have hlr1 : (upd (upd H t1 (.tup [va, V.ref ln])) lq (.lst (qs ++ [.ref t1]))) lr = some (.lst rs) := by rw [upd_ne n1.symm]; exact s1 _ _ hlr
    generalize upd (upd H t1 (.tup [va, V.ref ln])) lq (.lst (qs ++ [.ref t1])) = H1 at k1 x1 ht1 hlq1 hlr1
    have nnl : ln ∉ [lr, lq] := by simp [n2, n4]
    have hln1 := k1 _ _ nnl hln
    have np : p ∉ [lr, lq] := by simp [ne_il hO hlr, ne_il hO hlq]
    have hO1 := k1 _ _ np hO
    have ha1 := x1.tx _ _ ha
    have h11 := x1.tx _ _ h1
    refine ⟨_, rfl, a0, _, _, _, rfl, rfl, SqT.of ha1, rfl, q, _, rfl, SqT.of h11, rfl, _, _, rfl, _, _, rfl, rfl, ?_⟩
    -- after = self.block(last, names + [name])
    refine ⟨_, rfl, p, dx, _, rfl, hO1, no_Compiler_block, _, rfl, _, rfl, _, rfl, by show 1 ≤ sizeLine; decide, fun l1 nl1 => ?_⟩
    have s2 := same_new nl1 (.lst [V.str r.s])
    refine ⟨ln, l1, _, _, rfl, rfl, s2 _ _ hln1, upd_same, ?_, fun l2 nl2 => ?_⟩
    · show (nmV ns).length + 1 ≤ sizeLine
      exact small (by unfold nmV; rw [List.length_map]; omega)
    rw [nmV_add]
    have s3 := s2.trans (same_new nl2 (.lst (nmV (ns ++ [r]))))
    have hl2 : (upd (upd H1 l1 (.lst [V.str r.s])) l2 (.lst (nmV (ns ++ [r])))) l2 = some (.lst (nmV (ns ++ [r]))) := upd_same
    have nl2b : l2 ≠ lb := (ne_of_none (s2 _ _ (show H1 lb = some (.lst bs) from ?_)) nl2).symm
    rotate_left
    · exact k1 _ _ nb hlb
    have nl2q : l2 ≠ lq := (ne_of_none (s2 _ _ hlq1) nl2).symm
    have nl2r : l2 ≠ lr := (ne_of_none (s2 _ _ hlr1) nl2).symm
    generalize upd (upd H1 l1 (.lst [V.str r.s])) l2 (.lst (nmV (ns ++ [r]))) = H2 at s3 hl2
    have kx3 : Lk [lr, lq] H H2 := k1.trans (.same s3)
    have x3 : Kx H H2 := x1.trans (.same s3)
    refine ⟨p, dx, lb, lq, vf, .ref l2, qs ++ [.ref t1], rfl, s3 _ _ hO1, s3 _ _ hlq1, by rw [List.length_append, List.length_singleton]; omega, fun t2 nt2 => ?_⟩
    obtain ⟨k4, x4, ht2, hlq4, hlr4⟩ := blk (v := vf) (l := .ref l2) (s3 _ _ hlq1) nt2 (s3 _ _ hlr1) n1.symm.symm
    generalize upd (upd H2 t2 (.tup [vf, V.ref l2])) lq (.lst (qs ++ [V.ref t1] ++ [.ref t2])) = H3 at k4 x4 ht2 hlq4 hlr4
    have k5 := kx3.trans k4
    have x5 := x3.trans x4
    have hl2' := k4 _ _ (show l2 ∉ [lr, lq] by simp [nl2q, nl2r]) hl2
    -- clauses = {}
    intro D nD
    have s6 := same_new nD (.dK [])
    have hD : (upd H3 D (.dK [])) D = some (.dK []) := upd_same
    have nDlr : D ≠ lr := (ne_of_none hlr4 nD).symm
    have nDlq : D ≠ lq := (ne_of_none hlq4 nD).symm
    have nD0 : H D = none := by
      cases z : H D with
      | none => rfl
      | some u =>
        have y := k5 _ _ (show D ∉ [lr, lq] by simp [nDlr, nDlq]) z
        rw [nD] at y; cases y
    have ka : Lk [lr, lq] H (upd H3 D (.dK [])) := k5.trans (.same s6)
    have xa : Kx H (upd H3 D (.dK [])) := x5.trans (.same s6)
    have ht1a := s6 _ _ (x4.tx _ _ (s3 _ _ ht1))
    have ht2a := s6 _ _ ht2
    have hl2a := s6 _ _ hl2'
    have hlqa := s6 _ _ hlq4
    have hlra := s6 _ _ hlr4
    generalize upd H3 D (.dK []) = H4 at hD ka xa ht1a ht2a hl2a hlqa hlra
    refine ⟨_, rfl, a0, _, _, _, rfl, rfl, SqT.of (xa.tx _ _ ha), rfl, c, rfl, ⟨_, SqT.of (xa.tx _ _ h2)⟩, ?_⟩
    refine for_tup (K := K) (a := c) (xs := [.ref d]) (fun i' σ H' => H' c = some (.tup [.ref d]) ∧ (i' = 0 → H4 = H' ∧ ∃ o9 o10 o11, σ = [some (.ref p), some (.ref lr), some (.ref a0), some (.ref ln), some (.int (qs.length : Nat)), some (.str r.s), some vf, some (.int ((qs ++ [V.ref t1]).length : Nat)), some (.ref D), o9, o10, o11]) ∧
      (i' = 1 → ∃ o9 o10 o11 t3 t4 l4, σ = [some (.ref p), some (.ref lr), some (.ref a0), some (.ref ln), some (.int (qs.length : Nat)), some (.str r.s), some vf, some (.int ((qs ++ [V.ref t1]).length : Nat)), some (.ref D), o9, o10, o11] ∧ Lk [lr, lq, D] H4 H' ∧ H' lr = some (.lst rs) ∧ H' lq = some (.lst (qs ++ [.ref t1, .ref t2, .ref t3])) ∧ H' t3 = some (.tup [vg, .ref l4]) ∧ H' l4 = some (.lst (nmV (ns ++ [x, kk]))) ∧ l4 ≠ lb ∧ l4 ≠ lq ∧ l4 ≠ lr ∧ H' D = some (.dK [(.inr o.s, .ref t4)]) ∧ H' t4 = some (.tup [.int ((qs.length + 2 : Nat) : Int), .bl false])))
      ⟨xa.tx _ _ h2, fun _ => ⟨rfl, _, _, _, rfl⟩, fun z => absurd z (by decide)⟩ (fun i' σ H' _ z => SqT.of z.1) ?_ ?_
    · rintro i' y σ H' hy ⟨hc', hz, _⟩
      have hi : i' < 1 := (List.getElem?_eq_some_iff.mp hy).1
      have hi0 : i' = 0 := by omega
      subst hi0
      obtain ⟨rfl, o9, o10, o11, rfl⟩ := hz rfl
      have ey : y = .ref d := by simpa using hy.symm
      subst ey
      have h3a := xa.tx _ _ h3
      refine ⟨_, rfl, d, _, _, _, rfl, rfl, SqT.of h3a, rfl, ?_⟩
      refine ⟨_, rfl, d, g, _, _, _, vg, rfl, h3a, hG.mono xa.tx, hcl, fun H5 s5 => ?_⟩
      refine ⟨_, rfl, _, rfl, br_f rfl ?_⟩
      have kk5 : Lk [lr, lq] H H5 := ka.trans (.same s5)
      have hO5 := kk5 _ _ np hO
      have hln5 := kk5 _ _ nnl hln
      refine ⟨_, rfl, p, dx, _, rfl, hO5, no_Compiler_block, _, rfl, _, rfl, _, rfl, d, _, _, _, rfl, rfl, SqT.of (s5 _ _ h3a), rfl, _, rfl, d, _, _, _, rfl, rfl, SqT.of (s5 _ _ h3a), rfl, by show 2 ≤ sizeLine; decide, fun l3 nl3 => ?_⟩
      have s7 := same_new nl3 (.lst [V.str x.s, V.str kk.s])
      refine ⟨ln, l3, _, _, rfl, rfl, s7 _ _ hln5, upd_same, ?_, fun l4 nl4 => ?_⟩
      · show (nmV ns).length + 2 ≤ sizeLine
        exact small (by unfold nmV; rw [List.length_map]; omega)
      rw [nmV_add2]
      have s8 := s5.trans (s7.trans (same_new nl4 (.lst (nmV (ns ++ [x, kk])))))
      have hl4 : (upd (upd H5 l3 (.lst [V.str x.s, V.str kk.s])) l4 (.lst (nmV (ns ++ [x, kk])))) l4 = some (.lst (nmV (ns ++ [x, kk]))) := upd_same
      have nl4b : l4 ≠ lb := (ne_of_none ((s7 _ _ (kk5 _ _ nb hlb))) nl4).symm
      have nl4q : l4 ≠ lq := (ne_of_none (s7 _ _ (s5 _ _ hlqa)) nl4).symm
      have nl4r : l4 ≠ lr := (ne_of_none (s7 _ _ (s5 _ _ hlra)) nl4).symm
      generalize upd (upd H5 l3 (.lst [V.str x.s, V.str kk.s])) l4 (.lst (nmV (ns ++ [x, kk]))) = H6 at s8 hl4
      refine ⟨p, dx, lb, lq, vg, .ref l4, qs ++ [.ref t1] ++ [.ref t2], rfl, s8 _ _ (ka _ _ np hO), s8 _ _ hlqa, by simp only [List.length_append, List.length_singleton]; omega, fun t3 nt3 => ?_⟩
      obtain ⟨k9, x9, ht3, hlq9, hlr9⟩ := blk (v := vg) (l := .ref l4) (s8 _ _ hlqa) nt3 (s8 _ _ hlra) n1
      have hD9 := x9 D (.dK []) (fun _ z => nomatch z) (s8 _ _ hD)
      have hl49 := k9 _ _ (show l4 ∉ [lr, lq] by simp [nl4q, nl4r]) hl4
      have hc9 := x9.tx _ _ (s8 _ _ hc')
      have h39 := x9.tx _ _ (s8 _ _ h3a)
      generalize upd (upd H6 t3 (.tup [vg, V.ref l4])) lq (.lst (qs ++ [V.ref t1] ++ [.ref t2] ++ [.ref t3])) = H7 at k9 ht3 hlq9 hlr9 hD9 hl49 hc9 h39
      refine ⟨_, rfl, by show 2 ≤ sizeLine; decide, fun t4 nt4 => ?_⟩
      have s10 := same_new nt4 (.tup [V.int (((qs ++ [V.ref t1] ++ [V.ref t2]).length : Nat) : Int), V.bl false])
      refine ⟨_, rfl, _, rfl, d, _, _, _, rfl, rfl, SqT.of (s10 _ _ h39), rfl, D, _, rfl, DPut.k (k := .inr o.s) (s10 _ _ hD9) (by show 0 < sizeLine; decide), ?_⟩
      have eD : putK ([] : List (L2.Key × V)) (.inr o.s) (V.ref t4) = [(.inr o.s, .ref t4)] := rfl
      rw [eD]
      have nDc : D ≠ c := fun z => by rw [z, hc9] at hD9; cases hD9
      have nD3 : D ≠ t3 := fun z => by rw [z, ht3] at hD9; cases hD9
      have nDl : D ≠ l4 := fun z => by rw [z, hl49] at hD9; cases hD9
      have nD4 : D ≠ t4 := ne_of_none hD9 nt4
      refine ⟨by rw [upd_ne nDc.symm]; exact s10 _ _ hc9, fun z => absurd z (by decide), fun _ => ⟨_, _, _, t3, t4, l4, rfl, ?_, ?_, ?_, ?_, ?_, nl4b, nl4q, nl4r, upd_same, ?_⟩⟩
      · exact ((Lk.same s8).trans ((k9.sub (by simp)).trans (.same s10))).trans (.upd (by simp))
      · rw [upd_ne nDlr.symm]; exact s10 _ _ hlr9
      · rw [upd_ne nDlq.symm, s10 _ _ hlq9]; simp
      · rw [upd_ne nD3.symm]; exact s10 _ _ ht3
      · rw [upd_ne nDl.symm]; exact s10 _ _ hl49
      · rw [upd_ne nD4.symm, upd_same]; simp
    · rintro σ H' ⟨_, _, hz⟩
      obtain ⟨o9, o10, o11, t3, t4, l4, rfl, k6, hlr6, hlq6, ht3, hl4, n4b, n4q, n4r, hD6, ht4⟩ := hz rfl
      refine ⟨_, rfl, .inl ⟨rfl, _, SqL.of hlr6⟩, _, rfl, _, rfl, _, rfl, by show 4 ≤ sizeLine; decide, fun t5 nt5 => ?_⟩
      have s7 := same_new nt5 (.tup [V.str "handle", V.int (qs.length : Nat), V.int (((qs ++ [V.ref t1]).length : Nat) : Int), V.ref D])
      refine ⟨lr, _, _, rfl, rfl, s7 _ _ hlr6, small1000 (by omega), ?_⟩
      have nt5r : t5 ≠ lr := (ne_of_none hlr6 nt5).symm
      have kl : Lk [lr, lq, D] H4 (upd (upd H' t5 (.tup [V.str "handle", V.int (qs.length : Nat), V.int (((qs ++ [V.ref t1]).length : Nat) : Int), V.ref D])) lr (.lst (rs ++ [V.ref t5]))) := (k6.trans (.same s7)).trans (.upd (by simp))
      have hlrF : (upd (upd H' t5 (.tup [V.str "handle", V.int (qs.length : Nat), V.int (((qs ++ [V.ref t1]).length : Nat) : Int), V.ref D])) lr (.lst (rs ++ [V.ref t5]))) lr = some (.lst (rs ++ [V.ref t5])) := upd_same
      have hlqF : (upd (upd H' t5 (.tup [V.str "handle", V.int (qs.length : Nat), V.int (((qs ++ [V.ref t1]).length : Nat) : Int), V.ref D])) lr (.lst (rs ++ [V.ref t5]))) lq = some (.lst (qs ++ [.ref t1, .ref t2, .ref t3])) := by rw [upd_ne n1]; exact s7 _ _ hlq6
      have ht5F : (upd (upd H' t5 (.tup [V.str "handle", V.int (qs.length : Nat), V.int (((qs ++ [V.ref t1]).length : Nat) : Int), V.ref D])) lr (.lst (rs ++ [V.ref t5]))) t5 = some (.tup [V.str "handle", V.int (qs.length : Nat), V.int (((qs ++ [V.ref t1]).length : Nat) : Int), V.ref D]) := by rw [upd_ne nt5r]; exact upd_same
      have hDF : (upd (upd H' t5 (.tup [V.str "handle", V.int (qs.length : Nat), V.int (((qs ++ [V.ref t1]).length : Nat) : Int), V.ref D])) lr (.lst (rs ++ [V.ref t5]))) D = some (.dK [(.inr o.s, .ref t4)]) := by rw [upd_ne nDlr]; exact s7 _ _ hD6
      have ht4F : (upd (upd H' t5 (.tup [V.str "handle", V.int (qs.length : Nat), V.int (((qs ++ [V.ref t1]).length : Nat) : Int), V.ref D])) lr (.lst (rs ++ [V.ref t5]))) t4 = some (.tup [.int ((qs.length + 2 : Nat) : Int), .bl false]) := by rw [upd_ne (ne_tl ht4 hlr6)]; exact s7 _ _ ht4
      have ht3F : (upd (upd H' t5 (.tup [V.str "handle", V.int (qs.length : Nat), V.int (((qs ++ [V.ref t1]).length : Nat) : Int), V.ref D])) lr (.lst (rs ++ [V.ref t5]))) t3 = some (.tup [vg, .ref l4]) := by rw [upd_ne (ne_tl ht3 hlr6)]; exact s7 _ _ ht3
      have hl4F : (upd (upd H' t5 (.tup [V.str "handle", V.int (qs.length : Nat), V.int (((qs ++ [V.ref t1]).length : Nat) : Int), V.ref D])) lr (.lst (rs ++ [V.ref t5]))) l4 = some (.lst (nmV (ns ++ [x, kk]))) := by rw [upd_ne n4r]; exact s7 _ _ hl4
      generalize upd (upd H' t5 (.tup [V.str "handle", V.int (qs.length : Nat), V.int (((qs ++ [V.ref t1]).length : Nat) : Int), V.ref D])) lr (.lst (rs ++ [V.ref t5])) = HF at kl hlrF hlqF ht5F hDF ht4F ht3F hl4F ⊢
      have kF : Lk [lr, lq] H HF := fun b u n e => kl b u (fun z => by
        rcases List.mem_cons.mp z with z | z
        · exact n (by rw [z]; simp)
        · rcases List.mem_cons.mp z with z | z
          · exact n (by rw [z]; simp)
          · rw [List.mem_singleton] at z
            rw [z, nD0] at e; cases e) (ka b u n e)
      have xF : Kx H HF := kF.kx (fun b hb => by
        rcases List.mem_cons.mp hb with z | z
        · exact ⟨_, by rw [z]; exact hlr⟩
        · rw [List.mem_singleton] at z
          exact ⟨_, by rw [z]; exact hlq⟩)
      have ht1F := kl _ _ (by simp [ne_tl ht1a hlra, ne_tl ht1a hlqa, ne_td ht1a hD]) ht1a
      have ht2F := kl _ _ (by simp [ne_tl ht2a hlra, ne_tl ht2a hlqa, ne_td ht2a hD]) ht2a
      have hl2F := kl _ _ (by simp [nl2r, nl2q, ne_ld hl2a hD]) hl2a
      refine k _ ⟨.ref t5, [.ref t1, .ref t2, .ref t3], kF, hlrF, hlqF, ⟨t5, D, t4, rfl, ?_, hDF, ht4F⟩, .cons ⟨t1, _, ln, rfl, ht1F, hA.mono xF.tx, kF _ _ nnl hln, by simp [n3, n2, n4]⟩ (.cons ⟨t2, _, l2, rfl, ht2F, hF.mono xF.tx, hl2F, by simp [nl2b, nl2q, nl2r]⟩ (.cons ⟨t3, _, l4, rfl, ht3F, hG.mono xF.tx, hl4F, by simp [n4b, n4q, n4r]⟩ .nil))⟩
      rw [ht5F, List.length_append, List.length_singleton]
end
end AF

namespace AF
open PySem PySem.Spec PyProof.Rows L2
local macro_rules | `(tactic| walk_at "skip") => `(tactic| repeat (refine ⟨_, rfl, rfl, _, rfl, br_f (by decide +kernel) ?_⟩))
local macro_rules | `(tactic| walk_at "hit") => `(tactic| refine ⟨_, rfl, rfl, _, rfl, br_t (by decide +kernel) ?_⟩)
set_option hygiene false in
local macro_rules | `(tactic| walk_at "Run.current") => `(tactic| refine ⟨_, rfl, _, _, _, _, _, rfl, hO, T.Run.cl, T.na_Run_current, lk_Run_current, ?_⟩)
set_option hygiene false in
local macro_rules | `(tactic| walk_at "Run.frames") => `(tactic| refine ⟨_, rfl, _, _, _, _, _, rfl, hO, T.Run.cl, T.na_Run_frames, lk_Run_frames, ?_⟩)
set_option hygiene false in
local macro_rules | `(tactic| walk_at "Run.left") => `(tactic| refine ⟨_, rfl, _, _, _, _, _, rfl, hO, T.Run.cl, T.na_Run_left, lk_Run_left, ?_⟩)
set_option hygiene false in
local macro_rules | `(tactic| walk_at "Run.prints") => `(tactic| refine ⟨_, rfl, _, _, _, _, _, rfl, hO, T.Run.cl, T.na_Run_prints, lk_Run_prints, ?_⟩)
set_option hygiene false in
local macro_rules | `(tactic| walk_at "Run.end") => `(tactic| refine ⟨_, rfl, _, _, _, _, _, rfl, hO, T.Run.cl, T.na_Run_end, lk_Run_end, ?_⟩)
set_option hygiene false in
local macro_rules | `(tactic| walk_at "Machine.left") => `(tactic| refine ⟨_, rfl, _, _, _, _, _, rfl, hO, T.Machine.cl, T.na_Machine_left, lk_Machine_left, ?_⟩)
set_option hygiene false in
local macro_rules | `(tactic| walk_at "Machine.prints") => `(tactic| refine ⟨_, rfl, _, _, _, _, _, rfl, hO, T.Machine.cl, T.na_Machine_prints, lk_Machine_prints, ?_⟩)
set_option hygiene false in
local macro_rules | `(tactic| walk_at "Machine.pieces") => `(tactic| refine ⟨_, rfl, _, _, _, _, _, rfl, hO, T.Machine.cl, T.na_Machine_pieces, lk_Machine_pieces, ?_⟩)
set_option hygiene false in
local macro_rules | `(tactic| walk_at "Machine.kept") => `(tactic| refine ⟨_, rfl, _, _, _, _, _, rfl, hO, T.Machine.cl, T.na_Machine_kept, lk_Machine_kept, ?_⟩)
set_option hygiene false in
local macro_rules | `(tactic| walk_at "Machine.most") => `(tactic| refine ⟨_, rfl, _, _, _, _, _, rfl, hO, T.Machine.cl, T.na_Machine_most, lk_Machine_most, ?_⟩)
set_option hygiene false in
local macro_rules | `(tactic| walk_at "Piece.kind") => `(tactic| refine ⟨_, rfl, _, _, _, _, _, rfl, hO, T.Piece.cl, T.na_Piece_kind, lk_Piece_kind, ?_⟩)
set_option hygiene false in
local macro_rules | `(tactic| walk_at "Piece.handler") => `(tactic| refine ⟨_, rfl, _, _, _, _, _, rfl, hO, T.Piece.cl, T.na_Piece_handler, lk_Piece_handler, ?_⟩)
set_option hygiene false in
local macro_rules | `(tactic| walk_at "Piece.frames") => `(tactic| refine ⟨_, rfl, _, _, _, _, _, rfl, hO, T.Piece.cl, T.na_Piece_frames, lk_Piece_frames, ?_⟩)
set_option hygiene false in
local macro_rules | `(tactic| walk_at "Piece.distance") => `(tactic| refine ⟨_, rfl, _, _, _, _, _, rfl, hO, T.Piece.cl, T.na_Piece_distance, lk_Piece_distance, ?_⟩)
set_option hygiene false in
local macro_rules | `(tactic| walk_at "Piece.table") => `(tactic| refine ⟨_, rfl, _, _, _, _, _, rfl, hO, T.Piece.cl, T.na_Piece_table, lk_Piece_table, ?_⟩)
set_option hygiene false in
local macro_rules | `(tactic| walk_at "Runner.blocks") => `(tactic| refine ⟨_, rfl, _, _, _, _, _, rfl, hO, T.Runner.cl, T.na_Runner_blocks, lk_Runner_blocks, ?_⟩)
set_option hygiene false in
local macro_rules | `(tactic| walk_at "Runner.left") => `(tactic| refine ⟨_, rfl, _, _, _, _, _, rfl, hO, T.Runner.cl, T.na_Runner_left, lk_Runner_left, ?_⟩)
set_option hygiene false in
local macro_rules | `(tactic| walk_at "Runner.prints") => `(tactic| refine ⟨_, rfl, _, _, _, _, _, rfl, hO, T.Runner.cl, T.na_Runner_prints, lk_Runner_prints, ?_⟩)
set_option hygiene false in
local macro_rules | `(tactic| walk_at "Runner.kept") => `(tactic| refine ⟨_, rfl, _, _, _, _, _, rfl, hO, T.Runner.cl, T.na_Runner_kept, lk_Runner_kept, ?_⟩)
set_option hygiene false in
local macro_rules | `(tactic| walk_at "Runner.end") => `(tactic| refine ⟨_, rfl, _, _, _, _, _, rfl, hO, T.Runner.cl, T.na_Runner_end, lk_Runner_end, ?_⟩)
set_option hygiene false in
local macro_rules | `(tactic| walk_at "Runner.pieces") => `(tactic| refine ⟨_, rfl, _, _, _, _, _, rfl, hO, T.Runner.cl, T.na_Runner_pieces, lk_Runner_pieces, ?_⟩)
set_option hygiene false in
local macro_rules | `(tactic| walk_at "Runner.rows") => `(tactic| refine ⟨_, rfl, _, _, _, _, _, rfl, hO, T.Runner.cl, T.na_Runner_rows, lk_Runner_rows, ?_⟩)
set_option hygiene false in
local macro_rules | `(tactic| walk_at "Runner.at") => `(tactic| refine ⟨_, rfl, _, _, _, _, _, rfl, hO, T.Runner.cl, T.na_Runner_at, lk_Runner_at, ?_⟩)
set_option hygiene false in
local macro_rules | `(tactic| walk_at "Runner.bindings") => `(tactic| refine ⟨_, rfl, _, _, _, _, _, rfl, hO, T.Runner.cl, T.na_Runner_bindings, lk_Runner_bindings, ?_⟩)
set_option hygiene false in
local macro_rules | `(tactic| walk_at "Runner.operands") => `(tactic| refine ⟨_, rfl, _, _, _, _, _, rfl, hO, T.Runner.cl, T.na_Runner_operands, lk_Runner_operands, ?_⟩)
set_option hygiene false in
local macro_rules | `(tactic| walk_at "Code.blocks") => `(tactic| refine ⟨_, rfl, _, _, _, _, _, rfl, hO, T.Code.cl, T.na_Code_blocks, lk_Code_blocks, ?_⟩)
set_option hygiene false in
local macro_rules | `(tactic| walk_at "Compiler.blocks") => `(tactic| refine ⟨_, rfl, _, _, _, _, _, rfl, hO, T.Compiler.cl, T.na_Compiler_blocks, lk_Compiler_blocks, ?_⟩)
set_option hygiene false in
local macro_rules | `(tactic| walk_at "Compiler.queue") => `(tactic| refine ⟨_, rfl, _, _, _, _, _, rfl, hO, T.Compiler.cl, T.na_Compiler_queue, lk_Compiler_queue, ?_⟩)
section
variable {P : Program} {w : World} {K : PySem.W.Frag} {mg : Str → Option Value} {base : Heap}
def spCV (K : PySem.W.Frag) (d : Nat) : Sp := fun vs H Q _ => ∃ (p dx lb lq lr ln : Addr) (ve : V) (e : Tr) (ns : List Nm) (rs : List V), vs = [.ref p, .ref lr, ve, .ref ln] ∧ H p = some (.ins (He.ga K "Compiler") dx (flCompiler (.ref lb) (.ref lq))) ∧
  At H e ve ∧ vdep e < d ∧ okV ns e = true ∧ H lr = some (.lst rs) ∧ H ln = some (.lst (nmV ns)) ∧ ln ≠ lr ∧ ns.length ≤ 150 ∧ rs.length + (compV ns e).length ≤ 1000 ∧ ∀ H' rv, Lk [lr] H H' → H' lr = some (.lst (rs ++ rv)) → Rel2 (RwAt H') (compV ns e) rv → Q .non H'
def spCVal (K : PySem.W.Frag) (d : Nat) : Sp := fun vs H Q E => spCV K d vs H Q E ∨ spHandler K vs H Q E
def spCS (K : PySem.W.Frag) (d : Nat) : Sp := fun vs H Q _ => ∃ (p dx lb lq lr ln : Addr) (ve : V) (e : Tr) (ns : List Nm) (rs : List V), clauseOk e = true ∧ vs = [.ref p, .ref lr, ve, .ref ln] ∧ H p = some (.ins (He.ga K "Compiler") dx (flCompiler (.ref lb) (.ref lq))) ∧
  At H e ve ∧ vdep e < d ∧ okV ns e = true ∧ H lr = some (.lst rs) ∧ H ln = some (.lst (nmV ns)) ∧ ln ≠ lr ∧ ns.length ≤ 150 ∧ rs.length + (compV ns e).length ≤ 1000 ∧ ∀ H' rv, Lk [lr] H H' → H' lr = some (.lst (rs ++ rv)) → Rel2 (RwAt H') (compV ns e) rv → Q .non H'
theorem oa_shape {H : Hp} {e : Tr} {v : V} (ns : List Nm) (h : At H e v) (c : clauseOk e = true) (ok : okV ns e = true) : ∃ a s w parts pvs last, v = .ref a ∧ H a = some (.tup (.str s :: .str w :: pvs)) ∧ Rel2 (At H) parts pvs ∧ (s = "op" ∨ s = "ask") ∧ compV ns e = parts.flatMap (compV ns) ++ [last] ∧
    (∀ x ∈ parts, vdep x < vdep e ∧ okV ns x = true) ∧ (∀ (H' : Hp) (t : Addr), H' t = some (.tup [.str s, .str w]) → RwAt H' last (.ref t)) ∧ pvs ≠ [] := by
  cases e with
  | op s a b =>
    obtain ⟨p, va, vb, e, h, ha, hb⟩ := h
    obtain ⟨o1, o2⟩ := Bool.and_eq_true_iff.mp ok
    refine ⟨p, "op", s.s, [a, b], [va, vb], .op s, e, h, .cons ha (.cons hb .nil), .inl rfl, by simp [compV], fun x hx => ?_, fun H' t ht => ⟨t, rfl, ht⟩, by simp⟩
    rcases List.mem_cons.mp hx with rfl | hx
    · exact ⟨by show vdep x < max (vdep x) (vdep b) + 1; omega, o1⟩
    · rw [List.mem_singleton] at hx
      subst hx
      exact ⟨by show vdep x < max (vdep a) (vdep x) + 1; omega, o2⟩
  | ask o a =>
    obtain ⟨p, va, e, h, ha⟩ := h
    refine ⟨p, "ask", o.s, [a], [va], .ask o, e, h, .cons ha .nil, .inr rfl, by simp [compV], fun x hx => ?_, fun H' t ht => ⟨t, rfl, ht⟩, by simp⟩
    rw [List.mem_singleton] at hx
    subst hx
    exact ⟨by show vdep x < vdep x + 1; omega, ok⟩
  | _ => cases c
theorem Rel2.append {α : Type} {R : α → V → Prop} : ∀ {as bs : List α} {vs us : List V}, Rel2 R as vs → Rel2 R bs us → Rel2 R (as ++ bs) (vs ++ us)
  | _, _, _, _, .nil, h => h
  | _, _, _, _, .cons r t, h => .cons r (t.append h)
theorem ok_simple (T : Fx K w mg) {d : Nat} (G_Compiler_value : FnOk P w K mg base CX0 (2 * d + 6) (He.ma K (He.ga K "Compiler") "value") (fdOf K ("Compiler", some "value")) ["self", "rows", "expression", "names"] (spCVal K d)) :
    FnOk P w K mg base CX0 (2 * d + 7) (He.ma K (He.ga K "Compiler") "simple") (fdOf K ("Compiler", some "simple")) ["self", "rows", "expression", "names"] (spCS K (d + 1)) := by
  refine T.Compiler_simple.F.ok sc_Compiler_simple (fun vs H Q E h => ?_) (fun cdv A outer s H vs Q E hr h => ?_)
  · obtain ⟨_, _, _, _, _, _, _, _, _, _, _, rfl, _⟩ := h
    rfl
  · obtain ⟨p, dx, lb, lq, lr, ln, ve, e, ns, rs, hc, rfl, hO, hat, hdp, hok, hlr, hln, n1, hns, hsz, k⟩ := h
    refine ⟨_, (pss_cons (ps_set (i := 4) sc_Compiler_simple.nd rfl (Or.inl rfl) (pe_ix ix_tup (pv 2) pe_int (fun _ _ => rfl)))
      (pss_cons (ps_set (i := 5) sc_Compiler_simple.nd rfl (Or.inl rfl) (pe_cmpR op_in_seq (pv 4) (pe_tup (pa_cons pe_str (pa_cons pe_str pa_nil))) rfl))
      (pss_cons (ps_for PassesOwn.never rfl (pi_tup (pe_slice sl_tupA (pv 2) (po_some (pe_op op_add pe_int (pe_callTy call_int1 (by rfl) T.n_int (by decide +kernel) (pa_cons (pv 5) pa_nil)))) po_none)) (pg_name (i := 6) sc_Compiler_simple.nd rfl (Or.inl rfl))
        (pss_one (ps_expr (pe_meth (pv 0) T.Compiler.cl T.Compiler_value.m G_Compiler_value (hr.mono (by omega)) T.Compiler_value.b .nil pass0 (pa_cons (pv 1) (pa_cons (pv 6) (pa_cons (pv 3) pa_nil)))))))
      (pss_one (ps_if (pt_truth (pv 5) (by intro _; rfl))
        (pss_one (ps_expr (pe_bm PySem.F.plainAttrs_list PySem.F.slot_list_append PySem.F.type_list_append mt_append (pv 1) (pa_cons (pe_tup (pa_cons (pv 4) (pa_cons (pe_ix ix_tup (pv 2) pe_int (fun _ _ => rfl)) pa_nil))) pa_nil))))
        pss_never))))), ?_⟩
    obtain ⟨a0, sh, wd, parts, pvs, last, rfl, ha, hps, hs, ec, hpk, hlast, hne⟩ := oa_shape ns hat hc hok
    refine ⟨_, rfl, a0, _, _, _, rfl, rfl, SqT.of ha, atI_nat (j := 0) rfl, ?_⟩
    refine ⟨_, rfl, by show 2 ≤ sizeLine; decide, fun q nq => ⟨q, _, rfl, .inr (SqT.of upd_same), rfl, rfl, ?_⟩⟩
    have s1 := same_new nq (.tup [V.str "op", V.str "ask"])
    have hin : inV (V.str sh) [V.str "op", V.str "ask"] = true := by rcases hs with rfl | rfl <;> decide +kernel
    generalize hB : (if false = true then !inV (V.str sh) [V.str "op", V.str "ask"] else inV (V.str sh) [V.str "op", V.str "ask"]) = bb
    have ebb : bb = true := by rw [← hB, hin]; rfl
    subst ebb
    -- the parts
    have e2 : ∀ l : List V, HT.sIx (V.str sh :: V.str wd :: l).length 0 (some ((1 : Int) + (if true = true then 1 else 0))) = 2 := fun l => by
      rw [if_pos rfl, show (1 : Int) + 1 = ((2 : Nat) : Int) from rfl, HT.sIx_nat, List.length_cons, List.length_cons]
      omega
    have ecut : cutV (V.str sh :: V.str wd :: pvs) (some ((1 : Int) + (if true = true then 1 else 0))) none = pvs := by
      unfold cutV
      rw [e2, HT.sIx_none]
      simp
    refine ⟨_, rfl, _, rfl, .inr ⟨_, rfl, _, _, rfl, rfl, _, rfl, a0, _, rfl, SqT.of (s1 _ _ ha), (fun z => ?_), fun _ t nt => ?_⟩⟩
    · rw [e2] at z
      exact absurd z.1 (by decide)
    rw [ecut]
    have s2 := s1.trans (same_new nt (.tup pvs))
    have ht : (upd (upd H q (.tup [V.str "op", V.str "ask"])) t (.tup pvs)) t = some (.tup pvs) := upd_same
    generalize upd (upd H q (.tup [V.str "op", V.str "ask"])) t (.tup pvs) = H1 at s2 ht
    refine ⟨t, rfl, ⟨_, SqT.of ht⟩, ?_⟩
    have kxo : ∀ {H' : Hp}, Lk [lr] H1 H' → Kx H1 H' := fun kl => kl.kx (fun x hx => by rw [List.mem_singleton] at hx; exact ⟨_, by rw [hx]; exact s2 _ _ hlr⟩)
    refine for_tup (K := K) (a := t) (xs := pvs) (fun i σ H' => ∃ o6 rv, σ = [some (.ref p), some (.ref lr), some (.ref a0), some (.ref ln), some (.str sh), some (.bl true), o6] ∧ Lk [lr] H1 H' ∧ H' lr = some (.lst (rs ++ rv)) ∧ Rel2 (RwAt H') ((parts.take i).flatMap (compV ns)) rv)
      ⟨none, [], rfl, .refl _ _, by rw [List.append_nil]; exact s2 _ _ hlr, .nil⟩ (fun i σ H' _ ⟨_, _, _, kl, _⟩ => SqT.of ((kxo kl).tx _ _ ht)) ?_ ?_
    · rintro i y σ H' hy ⟨o6, rv, rfl, kl, hlr', hrv⟩
      have hx1 := kxo kl
      obtain ⟨part, hpart, hpv⟩ : ∃ part, parts[i]? = some part ∧ At H part y := hps.get hy
      obtain ⟨pd, pok⟩ := hpk _ (List.mem_of_getElem? hpart)
      have tx1 : Tx H H' := (Tx.same s2).trans hx1.tx
      have nlr1 : ∀ {b : Addr} {o : HO}, b ≠ lr → H b = some o → H' b = some o := fun n z => kl _ _ (by simp [n]) (s2 _ _ z)
      have hlen : rs.length + (parts.flatMap (compV ns)).length ≤ 1000 := by
        rw [ec, List.length_append] at hsz
        omega
      have hcut : ((parts.take i).flatMap (compV ns)).length + (compV ns part).length ≤ (parts.flatMap (compV ns)).length := by
        have e3 : parts = parts.take i ++ part :: parts.drop (i + 1) := by
          have := List.take_append_drop i parts
          rw [← this]
          congr 1
          · rw [List.take_append_drop]
          · rw [List.take_append_drop]
            exact List.drop_eq_getElem_cons (List.getElem?_eq_some_iff.mp hpart).1 |>.trans (by rw [(List.getElem?_eq_some_iff.mp hpart).2])
        conv => rhs; rw [e3]
        rw [List.flatMap_append, List.flatMap_cons, List.length_append, List.length_append]
        omega
      refine ⟨_, rfl, p, dx, _, rfl, nlr1 (ne_il hO hlr) hO, no_Compiler_value, _, rfl, _, rfl, _, rfl, .inl ⟨p, dx, lb, lq, lr, ln, y, part, ns, rs ++ rv, rfl, nlr1 (ne_il hO hlr) hO, hpv.mono tx1, by omega, pok, hlr', nlr1 n1 hln, n1, hns, ?_, fun H2 rv2 k2 hlr2 hr2 => ?_⟩⟩
      · rw [List.length_append, ← hrv.len]
        omega
      · refine ⟨_, rv ++ rv2, rfl, kl.trans k2, by rw [hlr2, List.append_assoc], ?_⟩
        have e4 : (parts.take (i + 1)).flatMap (compV ns) = (parts.take i).flatMap (compV ns) ++ compV ns part := by
          rw [List.take_add_one, hpart, List.flatMap_append]
          simp
        rw [e4]
        exact (hrv.mono fun _ _ z => z.mono (k2.kx (fun x hx => by rw [List.mem_singleton] at hx; exact ⟨_, by rw [hx]; exact hlr'⟩))).append hr2
    · rintro σ H' ⟨o6, rv, rfl, kl, hlr', hrv⟩
      have ha' := (kxo kl).tx _ _ (s2 _ _ ha)
      refine ⟨_, rfl, _, rfl, br_t rfl ?_⟩
      refine ⟨_, rfl, .inl ⟨rfl, _, SqL.of hlr'⟩, _, rfl, _, rfl, a0, _, _, _, rfl, rfl, SqT.of ha', atI_nat (j := 1) rfl, by show 2 ≤ sizeLine; decide, fun t2 nt2 => ?_⟩
      have s5 := same_new nt2 (.tup [V.str sh, V.str wd])
      have epl : (parts.take pvs.length).flatMap (compV ns) = parts.flatMap (compV ns) := by rw [← hps.len, List.take_length]
      rw [epl] at hrv
      refine ⟨lr, _, _, rfl, rfl, s5 _ _ hlr', small1000 (by rw [List.length_append, ← hrv.len]; rw [ec, List.length_append, List.length_singleton] at hsz; omega), ?_⟩
      have x6 : Kx H' (upd (upd H' t2 (.tup [V.str sh, V.str wd])) lr (.lst (rs ++ rv ++ [V.ref t2]))) := (Kx.same s5).trans (.lst (s5 _ _ hlr'))
      refine k _ (rv ++ [.ref t2]) (((Lk.same s2).trans kl).trans ((Lk.same s5).trans (.upd (by simp)))) (by rw [upd_same, List.append_assoc]) ?_
      rw [ec]
      exact (hrv.mono fun _ _ z => z.mono x6).append (.cons (hlast _ _ (by rw [upd_ne (ne_of_none hlr' nt2).symm]; exact upd_same)) .nil)
end
end AF

namespace AF
open PySem PySem.Spec PyProof.Rows L2
local macro_rules | `(tactic| walk_at "skip") => `(tactic| repeat (refine ⟨_, rfl, rfl, _, rfl, br_f (by decide +kernel) ?_⟩))
local macro_rules | `(tactic| walk_at "hit") => `(tactic| refine ⟨_, rfl, rfl, _, rfl, br_t (by decide +kernel) ?_⟩)
set_option hygiene false in
local macro_rules | `(tactic| walk_at "Run.current") => `(tactic| refine ⟨_, rfl, _, _, _, _, _, rfl, hO, T.Run.cl, T.na_Run_current, lk_Run_current, ?_⟩)
set_option hygiene false in
local macro_rules | `(tactic| walk_at "Run.frames") => `(tactic| refine ⟨_, rfl, _, _, _, _, _, rfl, hO, T.Run.cl, T.na_Run_frames, lk_Run_frames, ?_⟩)
set_option hygiene false in
local macro_rules | `(tactic| walk_at "Run.left") => `(tactic| refine ⟨_, rfl, _, _, _, _, _, rfl, hO, T.Run.cl, T.na_Run_left, lk_Run_left, ?_⟩)
set_option hygiene false in
local macro_rules | `(tactic| walk_at "Run.prints") => `(tactic| refine ⟨_, rfl, _, _, _, _, _, rfl, hO, T.Run.cl, T.na_Run_prints, lk_Run_prints, ?_⟩)
set_option hygiene false in
local macro_rules | `(tactic| walk_at "Run.end") => `(tactic| refine ⟨_, rfl, _, _, _, _, _, rfl, hO, T.Run.cl, T.na_Run_end, lk_Run_end, ?_⟩)
set_option hygiene false in
local macro_rules | `(tactic| walk_at "Machine.left") => `(tactic| refine ⟨_, rfl, _, _, _, _, _, rfl, hO, T.Machine.cl, T.na_Machine_left, lk_Machine_left, ?_⟩)
set_option hygiene false in
local macro_rules | `(tactic| walk_at "Machine.prints") => `(tactic| refine ⟨_, rfl, _, _, _, _, _, rfl, hO, T.Machine.cl, T.na_Machine_prints, lk_Machine_prints, ?_⟩)
set_option hygiene false in
local macro_rules | `(tactic| walk_at "Machine.pieces") => `(tactic| refine ⟨_, rfl, _, _, _, _, _, rfl, hO, T.Machine.cl, T.na_Machine_pieces, lk_Machine_pieces, ?_⟩)
set_option hygiene false in
local macro_rules | `(tactic| walk_at "Machine.kept") => `(tactic| refine ⟨_, rfl, _, _, _, _, _, rfl, hO, T.Machine.cl, T.na_Machine_kept, lk_Machine_kept, ?_⟩)
set_option hygiene false in
local macro_rules | `(tactic| walk_at "Machine.most") => `(tactic| refine ⟨_, rfl, _, _, _, _, _, rfl, hO, T.Machine.cl, T.na_Machine_most, lk_Machine_most, ?_⟩)
set_option hygiene false in
local macro_rules | `(tactic| walk_at "Piece.kind") => `(tactic| refine ⟨_, rfl, _, _, _, _, _, rfl, hO, T.Piece.cl, T.na_Piece_kind, lk_Piece_kind, ?_⟩)
set_option hygiene false in
local macro_rules | `(tactic| walk_at "Piece.handler") => `(tactic| refine ⟨_, rfl, _, _, _, _, _, rfl, hO, T.Piece.cl, T.na_Piece_handler, lk_Piece_handler, ?_⟩)
set_option hygiene false in
local macro_rules | `(tactic| walk_at "Piece.frames") => `(tactic| refine ⟨_, rfl, _, _, _, _, _, rfl, hO, T.Piece.cl, T.na_Piece_frames, lk_Piece_frames, ?_⟩)
set_option hygiene false in
local macro_rules | `(tactic| walk_at "Piece.distance") => `(tactic| refine ⟨_, rfl, _, _, _, _, _, rfl, hO, T.Piece.cl, T.na_Piece_distance, lk_Piece_distance, ?_⟩)
set_option hygiene false in
local macro_rules | `(tactic| walk_at "Piece.table") => `(tactic| refine ⟨_, rfl, _, _, _, _, _, rfl, hO, T.Piece.cl, T.na_Piece_table, lk_Piece_table, ?_⟩)
set_option hygiene false in
local macro_rules | `(tactic| walk_at "Runner.blocks") => `(tactic| refine ⟨_, rfl, _, _, _, _, _, rfl, hO, T.Runner.cl, T.na_Runner_blocks, lk_Runner_blocks, ?_⟩)
set_option hygiene false in
local macro_rules | `(tactic| walk_at "Runner.left") => `(tactic| refine ⟨_, rfl, _, _, _, _, _, rfl, hO, T.Runner.cl, T.na_Runner_left, lk_Runner_left, ?_⟩)
set_option hygiene false in
local macro_rules | `(tactic| walk_at "Runner.prints") => `(tactic| refine ⟨_, rfl, _, _, _, _, _, rfl, hO, T.Runner.cl, T.na_Runner_prints, lk_Runner_prints, ?_⟩)
set_option hygiene false in
local macro_rules | `(tactic| walk_at "Runner.kept") => `(tactic| refine ⟨_, rfl, _, _, _, _, _, rfl, hO, T.Runner.cl, T.na_Runner_kept, lk_Runner_kept, ?_⟩)
set_option hygiene false in
local macro_rules | `(tactic| walk_at "Runner.end") => `(tactic| refine ⟨_, rfl, _, _, _, _, _, rfl, hO, T.Runner.cl, T.na_Runner_end, lk_Runner_end, ?_⟩)
set_option hygiene false in
local macro_rules | `(tactic| walk_at "Runner.pieces") => `(tactic| refine ⟨_, rfl, _, _, _, _, _, rfl, hO, T.Runner.cl, T.na_Runner_pieces, lk_Runner_pieces, ?_⟩)
set_option hygiene false in
local macro_rules | `(tactic| walk_at "Runner.rows") => `(tactic| refine ⟨_, rfl, _, _, _, _, _, rfl, hO, T.Runner.cl, T.na_Runner_rows, lk_Runner_rows, ?_⟩)
set_option hygiene false in
local macro_rules | `(tactic| walk_at "Runner.at") => `(tactic| refine ⟨_, rfl, _, _, _, _, _, rfl, hO, T.Runner.cl, T.na_Runner_at, lk_Runner_at, ?_⟩)
set_option hygiene false in
local macro_rules | `(tactic| walk_at "Runner.bindings") => `(tactic| refine ⟨_, rfl, _, _, _, _, _, rfl, hO, T.Runner.cl, T.na_Runner_bindings, lk_Runner_bindings, ?_⟩)
set_option hygiene false in
local macro_rules | `(tactic| walk_at "Runner.operands") => `(tactic| refine ⟨_, rfl, _, _, _, _, _, rfl, hO, T.Runner.cl, T.na_Runner_operands, lk_Runner_operands, ?_⟩)
set_option hygiene false in
local macro_rules | `(tactic| walk_at "Code.blocks") => `(tactic| refine ⟨_, rfl, _, _, _, _, _, rfl, hO, T.Code.cl, T.na_Code_blocks, lk_Code_blocks, ?_⟩)
set_option hygiene false in
local macro_rules | `(tactic| walk_at "Compiler.blocks") => `(tactic| refine ⟨_, rfl, _, _, _, _, _, rfl, hO, T.Compiler.cl, T.na_Compiler_blocks, lk_Compiler_blocks, ?_⟩)
set_option hygiene false in
local macro_rules | `(tactic| walk_at "Compiler.queue") => `(tactic| refine ⟨_, rfl, _, _, _, _, _, rfl, hO, T.Compiler.cl, T.na_Compiler_queue, lk_Compiler_queue, ?_⟩)
section
variable {P : Program} {w : World} {K : PySem.W.Frag} {mg : Str → Option Value} {base : Heap}
theorem fnOk_no {CX : CXT} {k : Nat} {f : Addr} {fd : FuncData} {ps : List Str} : FnOk P w K mg base CX k f fd ps (fun _ _ _ _ => False) := ⟨fun _ _ _ _ h => h.elim, fun _ _ _ _ _ _ _ _ _ _ _ _ _ h => h.elim⟩
def sp0 (K : PySem.W.Frag) : Nat → Sp
  | 0 => fun _ _ _ _ => False
  | d + 1 => spCVal K d
def spS0 (K : PySem.W.Frag) : Nat → Sp
  | 0 => fun _ _ _ _ => False
  | d + 1 => spCS K (d + 1)
theorem ix_find {x : Nm} : ∀ {l : List Nm} {j : Nat}, ixOf x l = some j → (l[j]? = some x ∧ ∀ m, m < j → ∀ y, l[m]? = some y → y ≠ x)
  | [], _, h => by cases h
  | y :: r, j, h => by
    unfold ixOf at h
    by_cases q : y = x
    · rw [if_pos q] at h
      cases h
      exact ⟨by rw [q]; rfl, fun m hm => absurd hm (Nat.not_lt_zero _)⟩
    · rw [if_neg q] at h
      cases hr : ixOf x r with
      | none => rw [hr] at h; cases h
      | some i =>
        rw [hr] at h
        cases h
        obtain ⟨h1, h2⟩ := ix_find hr
        refine ⟨h1, fun m hm z hz => ?_⟩
        cases m with
        | zero =>
          cases hz
          exact q
        | succ m =>
          have hm : m + 1 < i + 1 := hm
          exact h2 m (by omega) z hz
theorem ok_value_of (T : Fx K w mg) (d : Nat) (G_Compiler_value : FnOk P w K mg base CX0 (2 * d + 4) (He.ma K (He.ga K "Compiler") "value") (fdOf K ("Compiler", some "value")) ["self", "rows", "expression", "names"] (sp0 K d))
    (G_Compiler_simple : FnOk P w K mg base CX0 (2 * d + 5) (He.ma K (He.ga K "Compiler") "simple") (fdOf K ("Compiler", some "simple")) ["self", "rows", "expression", "names"] (spS0 K d)) :
    FnOk P w K mg base CX0 (2 * d + 6) (He.ma K (He.ga K "Compiler") "value") (fdOf K ("Compiler", some "value")) ["self", "rows", "expression", "names"] (spCVal K d) := by
  have G_Compiler_handler := ok_handler (P := P) (base := base) T
  obtain ⟨kes, kn, kD⟩ := T.kd
  refine T.Compiler_value.F.ok sc_Compiler_value (fun vs H Q E h => ?_) (fun cdv A outer s H vs Q E hr h => ?_)
  · rcases h with ⟨_, _, _, _, _, _, _, _, _, _, rfl, _⟩ | ⟨_, _, _, _, _, _, _, _, _, _, _, _, _, _, _, _, _, rfl, _⟩
    · rfl
    · rfl
  · refine ⟨_, (pss_cons (ps_set (i := 4) sc_Compiler_value.nd rfl (Or.inl rfl) (pe_ix ix_tup (pv 2) pe_int (fun _ _ => rfl)))
      (pss_one (ps_if (pt_cmpR (op_in_kd kD) (pv 4) (C8.pe_gc rfl T.g_LEAVES_code) rfl)
        (pss_one (ps_expr (pe_bm PySem.F.plainAttrs_list PySem.F.slot_list_append PySem.F.type_list_append mt_append (pv 1) (pa_cons (pe_op op_catA (pe_tup (pa_cons (pe_ix ix_kdict (C8.pe_gc rfl T.g_LEAVES_code) (pv 4) (fun _ _ => rfl)) pa_nil)) (pe_slice sl_tupA (pv 2) (po_some pe_int) po_none)) pa_nil))))
        (pss_one (ps_if (pt_cmpR op_eq (pv 4) pe_str (nomark _))
          (pss_one (ps_expr (pe_bm PySem.F.plainAttrs_list PySem.F.slot_list_append PySem.F.type_list_append mt_append (pv 1) (pa_cons (pe_tup (pa_cons pe_str (pa_cons (pe_bm PySem.F.plainAttrs_list PySem.F.slot_list_index PySem.F.type_list_index mt_index (pe_revL (pv 3)) (pa_cons (pe_ix ix_tup (pv 2) pe_int (fun _ _ => rfl)) pa_nil)) pa_nil))) pa_nil))))
          (pss_one (ps_if (pt_cmpR op_eq (pv 4) pe_str (nomark _))
            pss_never
            (pss_one (ps_if (pt_cmpR op_eq (pv 4) pe_str (nomark _))
              pss_never
              (pss_one (ps_if (pt_cmpR op_eq (pv 4) pe_str (nomark _))
                pss_never
                (pss_one (ps_if (pt_cmpR op_eq (pv 4) pe_str (nomark _))
                  pss_never
                  (pss_one (ps_if (pt_cmpR op_eq (pv 4) pe_str (nomark _))
                    (pss_cons (ps_expr (pe_meth (pv 0) T.Compiler.cl T.Compiler_value.m G_Compiler_value (hr.mono (by omega)) T.Compiler_value.b .nil pass0 (pa_cons (pv 1) (pa_cons (pe_ix ix_tup (pv 2) pe_int (fun _ _ => rfl)) (pa_cons (pv 3) pa_nil)))))
                    (pss_cons (ps_expr (pe_bm PySem.F.plainAttrs_list PySem.F.slot_list_append PySem.F.type_list_append mt_append (pv 1) (pa_cons (pe_tup (pa_cons pe_str pa_nil)) pa_nil)))
                    (pss_one (ps_expr (pe_meth (pv 0) T.Compiler.cl T.Compiler_value.m G_Compiler_value (hr.mono (by omega)) T.Compiler_value.b .nil pass0 (pa_cons (pv 1) (pa_cons (pe_ix ix_tup (pv 2) pe_int (fun _ _ => rfl)) (pa_cons (pv 3) pa_nil))))))))
                    (pss_one (ps_if (pt_cmpR op_eq (pv 4) pe_str (nomark _))
                      (pss_one (ps_expr (pe_meth (pv 0) T.Compiler.cl T.Compiler_handler.m G_Compiler_handler (hr.mono (by omega)) T.Compiler_handler.b .nil pass0 (pa_cons (pv 1) (pa_cons (pv 2) (pa_cons (pv 3) pa_nil))))))
                      (pss_one (ps_expr (pe_meth (pv 0) T.Compiler.cl T.Compiler_simple.m G_Compiler_simple (hr.mono (by omega)) T.Compiler_simple.b .nil pass0 (pa_cons (pv 1) (pa_cons (pv 2) (pa_cons (pv 3) pa_nil))))))))))))))))))))))), ?_⟩
    rcases h with ⟨p, dx, lb, lq, lr, ln, ve, e, ns, rs, rfl, hO, hat, hdp, hok, hlr, hln, n1, hns, hsz, k⟩ | h
    · cases e with
      | num i =>
        obtain ⟨a0, rfl, ha⟩ := hat
        refine ⟨_, rfl, a0, _, _, _, rfl, rfl, SqT.of ha, rfl, ?_⟩
        obtain ⟨u, hu1, hu2⟩ := T.kv "num" (.str "int") (by simp)
        refine ⟨_, rfl, _, _, rfl, rfl, hu1, _, rfl, br_t rfl ?_⟩
        refine ⟨_, rfl, .inl ⟨rfl, _, SqL.of hlr⟩, _, rfl, _, _, _, rfl, rfl, ⟨kes, kn, u, kD.at_, kD.lit, hu1, hu2⟩, by show 1 ≤ sizeLine; decide, fun t1 nt1 => ?_⟩
        have s1 := same_new nt1 (.tup [V.str "int"])
        refine ⟨_, rfl, _, rfl, a0, _, rfl, SqT.of (s1 _ _ ha), (fun z => absurd z.1 (by show ¬ HT.sIx 2 0 (some 1) = 0; decide +kernel)), fun _ t2 nt2 => ?_⟩
        have ecut : cutV [V.str "num", V.int i] (some 1) none = [V.int i] := rfl
        rw [ecut]
        have s2 := s1.trans (same_new nt2 (.tup [V.int i]))
        refine ⟨t1, t2, _, _, rfl, rfl, SqT.of ((same_new nt2 (.tup [V.int i])) _ _ upd_same), SqT.of upd_same, by show 2 ≤ sizeLine; decide, (fun z => nomatch z), (fun _ z => nomatch z), fun _ _ t3 nt3 => ?_⟩
        have s3 := s2.trans (same_new nt3 (.tup ([V.str "int"] ++ [V.int i])))
        refine ⟨lr, _, _, rfl, rfl, s3 _ _ hlr, small1000 (by have : (compV ns (.num i)).length = 1 := rfl; omega), ?_⟩
        refine k _ [.ref t3] ((Lk.same s3).trans (.upd (by simp))) upd_same (.cons ⟨t3, rfl, by rw [upd_ne (ne_of_none (s2 _ _ hlr) nt3).symm]; exact upd_same, (of_decide_eq_true (p := -(2 ^ 62) < i ∧ i < 2 ^ 62) hok : -(2 ^ 62) < i ∧ i < 2 ^ 62)⟩ .nil)
      | name x =>
        obtain ⟨a0, rfl, ha⟩ := hat
        refine ⟨_, rfl, a0, _, _, _, rfl, rfl, SqT.of ha, rfl, ?_⟩
        refine ⟨_, rfl, _, _, rfl, rfl, T.kn "name" (by simp), _, rfl, br_f rfl ?_⟩
        walk_at "hit"
        obtain ⟨j, hj⟩ := Option.isSome_iff_exists.mp hok
        obtain ⟨hj1, hj2⟩ := ix_find hj
        refine ⟨_, rfl, .inl ⟨rfl, _, SqL.of hlr⟩, _, rfl, ln, _, rfl, SqL.of hln, fun l nl => ?_⟩
        have s1 := same_new nl (.lst (nmV ns).reverse)
        have erev : (nmV ns).reverse = nmV ns.reverse := by unfold nmV; rw [List.map_reverse]
        refine ⟨.inl ⟨rfl, _, SqL.of upd_same⟩, _, rfl, a0, _, _, _, rfl, rfl, SqT.of (s1 _ _ ha), rfl, l, _, _, j, .str x.s, rfl, rfl, SqL.of upd_same, rfl, ?_, ?_, ?_, ?_, ?_⟩
        · rw [erev]
          unfold nmV
          rw [List.all_map]
          exact List.all_eq_true.mpr fun _ _ => rfl
        · rw [erev]
          unfold nmV
          rw [List.getElem?_map, hj1]
          rfl
        · show (x.s == x.s) = true
          exact beq_self_eq_true _
        · rw [erev]
          intro m z' hm hz
          unfold nmV at hz
          rw [List.getElem?_map] at hz
          cases hy : ns.reverse[m]? with
          | none => rw [hy] at hz; cases hz
          | some y =>
            rw [hy] at hz
            cases hz
            show (y.s == x.s) = false
            exact beq_eq_false_iff_ne.mpr fun z => hj2 m hm y hy (Nm.inj z)
        · refine ⟨by show 2 ≤ sizeLine; decide, fun t nt => ?_⟩
          have s2 := s1.trans (same_new nt (.tup [V.str "load", V.int (j : Nat)]))
          refine ⟨lr, _, _, rfl, rfl, s2 _ _ hlr, small1000 (by have : (compV ns (.name x)).length = 1 := rfl; omega), ?_⟩
          refine k _ [.ref t] ((Lk.same s2).trans (.upd (by simp))) upd_same (.cons ⟨t, rfl, ?_⟩ .nil)
          rw [upd_ne (ne_of_none (s1 _ _ hlr) nt).symm, hj]
          exact upd_same
      | op s a b =>
        have hat' := hat
        obtain ⟨a0, va, vb, rfl, ha, hA, hB⟩ := hat
        refine ⟨_, rfl, a0, _, _, _, rfl, rfl, SqT.of ha, rfl, ?_⟩
        refine ⟨_, rfl, _, _, rfl, rfl, T.kn "op" (by simp), _, rfl, br_f rfl ?_⟩
        walk_at "skip"
        cases d with
        | zero => exact absurd hdp (Nat.not_lt_zero _)
        | succ d =>
          exact ⟨_, rfl, p, dx, _, rfl, hO, no_Compiler_simple, _, rfl, _, rfl, _, rfl, p, dx, lb, lq, lr, ln, _, _, ns, rs, rfl, rfl, hO, hat', hdp, hok, hlr, hln, n1, hns, hsz, k⟩
      | ask o a =>
        have hat' := hat
        obtain ⟨a0, va, rfl, ha, hA⟩ := hat
        refine ⟨_, rfl, a0, _, _, _, rfl, rfl, SqT.of ha, rfl, ?_⟩
        refine ⟨_, rfl, _, _, rfl, rfl, T.kn "ask" (by simp), _, rfl, br_f rfl ?_⟩
        walk_at "skip"
        cases d with
        | zero => exact absurd hdp (Nat.not_lt_zero _)
        | succ d =>
          exact ⟨_, rfl, p, dx, _, rfl, hO, no_Compiler_simple, _, rfl, _, rfl, _, rfl, p, dx, lb, lq, lr, ln, _, _, ns, rs, rfl, rfl, hO, hat', hdp, hok, hlr, hln, n1, hns, hsz, k⟩
      | print a b =>
        obtain ⟨a0, va, vb, rfl, ha, hA, hB⟩ := hat
        obtain ⟨o1, o2⟩ := Bool.and_eq_true_iff.mp hok
        refine ⟨_, rfl, a0, _, _, _, rfl, rfl, SqT.of ha, rfl, ?_⟩
        refine ⟨_, rfl, _, _, rfl, rfl, T.kn "print" (by simp), _, rfl, br_f rfl ?_⟩
        walk_at "skip"
        walk_at "hit"
        cases d with
        | zero => exact absurd hdp (Nat.not_lt_zero _)
        | succ d =>
          have hdp : max (vdep a) (vdep b) + 1 < d + 1 := hdp
          have ec : compV ns (.print a b) = compV ns a ++ [.print] ++ compV ns b := rfl
          rw [ec, List.length_append, List.length_append, List.length_singleton] at hsz
          have npl := ne_il hO hlr
          refine ⟨_, rfl, p, dx, _, rfl, hO, no_Compiler_value, _, rfl, _, rfl, a0, _, _, _, rfl, rfl, SqT.of ha, rfl, _, rfl, .inl ⟨p, dx, lb, lq, lr, ln, va, a, ns, rs, rfl, hO, hA, by omega, o1, hlr, hln, n1, hns, by omega, fun H1 rv1 k1 hlr1 hr1 => ?_⟩⟩
          have x1 : Kx H H1 := k1.kx (fun x hx => by rw [List.mem_singleton] at hx; exact ⟨_, by rw [hx]; exact hlr⟩)
          refine ⟨_, rfl, .inl ⟨rfl, _, SqL.of hlr1⟩, by show 1 ≤ sizeLine; decide, fun t nt => ?_⟩
          have s2 := same_new nt (.tup [V.str "print"])
          refine ⟨lr, _, _, rfl, rfl, s2 _ _ hlr1, small1000 (by rw [List.length_append, ← hr1.len]; omega), ?_⟩
          have ht : (upd (upd H1 t (.tup [V.str "print"])) lr (.lst (rs ++ rv1 ++ [V.ref t]))) t = some (.tup [V.str "print"]) := by rw [upd_ne (ne_of_none hlr1 nt).symm]; exact upd_same
          have hlr2 : (upd (upd H1 t (.tup [V.str "print"])) lr (.lst (rs ++ rv1 ++ [V.ref t]))) lr = some (.lst (rs ++ rv1 ++ [V.ref t])) := upd_same
          have k2 : Lk [lr] H (upd (upd H1 t (.tup [V.str "print"])) lr (.lst (rs ++ rv1 ++ [V.ref t]))) := k1.trans ((Lk.same s2).trans (.upd (by simp)))
          have x2 : Kx H1 (upd (upd H1 t (.tup [V.str "print"])) lr (.lst (rs ++ rv1 ++ [V.ref t]))) := (Kx.same s2).trans (.lst (s2 _ _ hlr1))
          generalize upd (upd H1 t (.tup [V.str "print"])) lr (.lst (rs ++ rv1 ++ [V.ref t])) = H2 at ht hlr2 k2 x2 ⊢
          have x12 := x1.trans x2
          refine ⟨_, rfl, p, dx, _, rfl, k2 _ _ (by simp [npl]) hO, no_Compiler_value, _, rfl, _, rfl, a0, _, _, _, rfl, rfl, SqT.of (x12.tx _ _ ha), rfl, _, rfl, .inl ⟨p, dx, lb, lq, lr, ln, vb, b, ns, rs ++ rv1 ++ [.ref t], rfl, k2 _ _ (by simp [npl]) hO, hB.mono x12.tx, by omega, o2, hlr2, k2 _ _ (by simp [n1]) hln, n1, hns, ?_, fun H3 rv3 k3 hlr3 hr3 => ?_⟩⟩
          · rw [List.length_append, List.length_append, ← hr1.len, List.length_singleton]
            omega
          · have x3 : Kx H2 H3 := k3.kx (fun x hx => by rw [List.mem_singleton] at hx; exact ⟨_, by rw [hx]; exact hlr2⟩)
            refine k _ (rv1 ++ [.ref t] ++ rv3) (k2.trans k3) (by rw [hlr3]; simp) ?_
            rw [ec]
            exact ((hr1.mono fun _ _ z => z.mono (x2.trans x3)).append (.cons ⟨t, rfl, x3.tx _ _ ht⟩ .nil)).append hr3
      | _ => cases hok
    · have h' := h
      obtain ⟨p, dx, lb, lq, lr, ln, ve, a, r, f, o, x, kk, g, ns, rs, qs, rfl, hO, hat, _⟩ := h
      obtain ⟨a0, va, vr, vcl, vf, vg, rfl, ha, _⟩ := hat
      refine ⟨_, rfl, a0, _, _, _, rfl, rfl, SqT.of ha, rfl, ?_⟩
      refine ⟨_, rfl, _, _, rfl, rfl, T.kn "handle" (by simp), _, rfl, br_f rfl ?_⟩
      walk_at "skip"
      walk_at "hit"
      exact ⟨_, rfl, p, dx, _, rfl, hO, no_Compiler_handler, _, rfl, _, rfl, _, rfl, h'⟩
theorem ok_value (T : Fx K w mg) : ∀ d, FnOk P w K mg base CX0 (2 * d + 6) (He.ma K (He.ga K "Compiler") "value") (fdOf K ("Compiler", some "value")) ["self", "rows", "expression", "names"] (spCVal K d)
  | 0 => ok_value_of T 0 fnOk_no fnOk_no
  | d + 1 => ok_value_of T (d + 1) (ok_value T d) (ok_simple T (ok_value T d))
end
end AF

namespace AF
open PySem PySem.Spec PyProof.Rows L2
local macro_rules | `(tactic| walk_at "skip") => `(tactic| repeat (refine ⟨_, rfl, rfl, _, rfl, br_f (by decide +kernel) ?_⟩))
local macro_rules | `(tactic| walk_at "hit") => `(tactic| refine ⟨_, rfl, rfl, _, rfl, br_t (by decide +kernel) ?_⟩)
set_option hygiene false in
local macro_rules | `(tactic| walk_at "Run.current") => `(tactic| refine ⟨_, rfl, _, _, _, _, _, rfl, hO, T.Run.cl, T.na_Run_current, lk_Run_current, ?_⟩)
set_option hygiene false in
local macro_rules | `(tactic| walk_at "Run.frames") => `(tactic| refine ⟨_, rfl, _, _, _, _, _, rfl, hO, T.Run.cl, T.na_Run_frames, lk_Run_frames, ?_⟩)
set_option hygiene false in
local macro_rules | `(tactic| walk_at "Run.left") => `(tactic| refine ⟨_, rfl, _, _, _, _, _, rfl, hO, T.Run.cl, T.na_Run_left, lk_Run_left, ?_⟩)
set_option hygiene false in
local macro_rules | `(tactic| walk_at "Run.prints") => `(tactic| refine ⟨_, rfl, _, _, _, _, _, rfl, hO, T.Run.cl, T.na_Run_prints, lk_Run_prints, ?_⟩)
set_option hygiene false in
local macro_rules | `(tactic| walk_at "Run.end") => `(tactic| refine ⟨_, rfl, _, _, _, _, _, rfl, hO, T.Run.cl, T.na_Run_end, lk_Run_end, ?_⟩)
set_option hygiene false in
local macro_rules | `(tactic| walk_at "Machine.left") => `(tactic| refine ⟨_, rfl, _, _, _, _, _, rfl, hO, T.Machine.cl, T.na_Machine_left, lk_Machine_left, ?_⟩)
set_option hygiene false in
local macro_rules | `(tactic| walk_at "Machine.prints") => `(tactic| refine ⟨_, rfl, _, _, _, _, _, rfl, hO, T.Machine.cl, T.na_Machine_prints, lk_Machine_prints, ?_⟩)
set_option hygiene false in
local macro_rules | `(tactic| walk_at "Machine.pieces") => `(tactic| refine ⟨_, rfl, _, _, _, _, _, rfl, hO, T.Machine.cl, T.na_Machine_pieces, lk_Machine_pieces, ?_⟩)
set_option hygiene false in
local macro_rules | `(tactic| walk_at "Machine.kept") => `(tactic| refine ⟨_, rfl, _, _, _, _, _, rfl, hO, T.Machine.cl, T.na_Machine_kept, lk_Machine_kept, ?_⟩)
set_option hygiene false in
local macro_rules | `(tactic| walk_at "Machine.most") => `(tactic| refine ⟨_, rfl, _, _, _, _, _, rfl, hO, T.Machine.cl, T.na_Machine_most, lk_Machine_most, ?_⟩)
set_option hygiene false in
local macro_rules | `(tactic| walk_at "Piece.kind") => `(tactic| refine ⟨_, rfl, _, _, _, _, _, rfl, hO, T.Piece.cl, T.na_Piece_kind, lk_Piece_kind, ?_⟩)
set_option hygiene false in
local macro_rules | `(tactic| walk_at "Piece.handler") => `(tactic| refine ⟨_, rfl, _, _, _, _, _, rfl, hO, T.Piece.cl, T.na_Piece_handler, lk_Piece_handler, ?_⟩)
set_option hygiene false in
local macro_rules | `(tactic| walk_at "Piece.frames") => `(tactic| refine ⟨_, rfl, _, _, _, _, _, rfl, hO, T.Piece.cl, T.na_Piece_frames, lk_Piece_frames, ?_⟩)
set_option hygiene false in
local macro_rules | `(tactic| walk_at "Piece.distance") => `(tactic| refine ⟨_, rfl, _, _, _, _, _, rfl, hO, T.Piece.cl, T.na_Piece_distance, lk_Piece_distance, ?_⟩)
set_option hygiene false in
local macro_rules | `(tactic| walk_at "Piece.table") => `(tactic| refine ⟨_, rfl, _, _, _, _, _, rfl, hO, T.Piece.cl, T.na_Piece_table, lk_Piece_table, ?_⟩)
set_option hygiene false in
local macro_rules | `(tactic| walk_at "Runner.blocks") => `(tactic| refine ⟨_, rfl, _, _, _, _, _, rfl, hO, T.Runner.cl, T.na_Runner_blocks, lk_Runner_blocks, ?_⟩)
set_option hygiene false in
local macro_rules | `(tactic| walk_at "Runner.left") => `(tactic| refine ⟨_, rfl, _, _, _, _, _, rfl, hO, T.Runner.cl, T.na_Runner_left, lk_Runner_left, ?_⟩)
set_option hygiene false in
local macro_rules | `(tactic| walk_at "Runner.prints") => `(tactic| refine ⟨_, rfl, _, _, _, _, _, rfl, hO, T.Runner.cl, T.na_Runner_prints, lk_Runner_prints, ?_⟩)
set_option hygiene false in
local macro_rules | `(tactic| walk_at "Runner.kept") => `(tactic| refine ⟨_, rfl, _, _, _, _, _, rfl, hO, T.Runner.cl, T.na_Runner_kept, lk_Runner_kept, ?_⟩)
set_option hygiene false in
local macro_rules | `(tactic| walk_at "Runner.end") => `(tactic| refine ⟨_, rfl, _, _, _, _, _, rfl, hO, T.Runner.cl, T.na_Runner_end, lk_Runner_end, ?_⟩)
set_option hygiene false in
local macro_rules | `(tactic| walk_at "Runner.pieces") => `(tactic| refine ⟨_, rfl, _, _, _, _, _, rfl, hO, T.Runner.cl, T.na_Runner_pieces, lk_Runner_pieces, ?_⟩)
set_option hygiene false in
local macro_rules | `(tactic| walk_at "Runner.rows") => `(tactic| refine ⟨_, rfl, _, _, _, _, _, rfl, hO, T.Runner.cl, T.na_Runner_rows, lk_Runner_rows, ?_⟩)
set_option hygiene false in
local macro_rules | `(tactic| walk_at "Runner.at") => `(tactic| refine ⟨_, rfl, _, _, _, _, _, rfl, hO, T.Runner.cl, T.na_Runner_at, lk_Runner_at, ?_⟩)
set_option hygiene false in
local macro_rules | `(tactic| walk_at "Runner.bindings") => `(tactic| refine ⟨_, rfl, _, _, _, _, _, rfl, hO, T.Runner.cl, T.na_Runner_bindings, lk_Runner_bindings, ?_⟩)
set_option hygiene false in
local macro_rules | `(tactic| walk_at "Runner.operands") => `(tactic| refine ⟨_, rfl, _, _, _, _, _, rfl, hO, T.Runner.cl, T.na_Runner_operands, lk_Runner_operands, ?_⟩)
set_option hygiene false in
local macro_rules | `(tactic| walk_at "Code.blocks") => `(tactic| refine ⟨_, rfl, _, _, _, _, _, rfl, hO, T.Code.cl, T.na_Code_blocks, lk_Code_blocks, ?_⟩)
set_option hygiene false in
local macro_rules | `(tactic| walk_at "Compiler.blocks") => `(tactic| refine ⟨_, rfl, _, _, _, _, _, rfl, hO, T.Compiler.cl, T.na_Compiler_blocks, lk_Compiler_blocks, ?_⟩)
set_option hygiene false in
local macro_rules | `(tactic| walk_at "Compiler.queue") => `(tactic| refine ⟨_, rfl, _, _, _, _, _, rfl, hO, T.Compiler.cl, T.na_Compiler_queue, lk_Compiler_queue, ?_⟩)
section
variable {P : Program} {w : World} {K : PySem.W.Frag} {mg : Str → Option Value} {base : Heap}
def LPost (lb lq lr : Addr) (H : Hp) (ns : List Nm) (a : Tr) (r : Nm) (f : Tr) (o x k : Nm) (g : Tr) (rs qs : List V) (H' : Hp) : Prop := ∃ v1 v2 qa, Lk [lr, lq] H H' ∧ H' lr = some (.lst (rs ++ [v1, v2])) ∧ H' lq = some (.lst (qs ++ qa)) ∧ RwAt H' (hRows qs.length o) v1 ∧ RwAt H' .ret v2 ∧ Rel2 (QAt [lb, lq, lr] H') (hQs ns a r f x k g) qa
def isPl : Tr → Bool
  | .num _ => true
  | .name _ => true
  | .op .. => true
  | .ask .. => true
  | _ => false
theorem pl_hd {e : Tr} (h : isPl e = true) : hdT e = "num" ∨ hdT e = "name" ∨ hdT e = "op" ∨ hdT e = "ask" := by
  cases e with
  | num i => exact .inl rfl
  | name x => exact .inr (.inl rfl)
  | op s a b => exact .inr (.inr (.inl rfl))
  | ask o a => exact .inr (.inr (.inr rfl))
  | _ => cases h
def spLP (K : PySem.W.Frag) (n : Nat) : Sp := fun vs H Q _ => ∃ (p dx lb lq lr ln : Addr) (ve : V) (e : Tr) (ns : List Nm) (rs : List V), vs = [.ref p, .ref lr, ve, .ref ln] ∧ H p = some (.ins (He.ga K "Compiler") dx (flCompiler (.ref lb) (.ref lq))) ∧
  At H e ve ∧ ldep e < n ∧ lvd e ≤ 10 ∧ okL ns e = true ∧ H lr = some (.lst rs) ∧ H ln = some (.lst (nmV ns)) ∧ ln ≠ lr ∧ ns.length + ldep e ≤ 150 ∧ rs.length + (compL ns e).length ≤ 1000 ∧ ∀ H' rv, Lk [lr] H H' → H' lr = some (.lst (rs ++ rv)) → Rel2 (RwAt H') (compL ns e) rv → Q .non H'
def spLH (K : PySem.W.Frag) : Sp := fun vs H Q _ => ∃ (p dx lb lq lr ln : Addr) (ve : V) (a : Tr) (r : Nm) (f : Tr) (o x k : Nm) (g : Tr) (ns : List Nm) (rs qs : List V), vs = [.ref p, .ref lr, ve, .ref ln] ∧ H p = some (.ins (He.ga K "Compiler") dx (flCompiler (.ref lb) (.ref lq))) ∧
  At H (.handle a r f o x k g) ve ∧ clauseOk g = true ∧ H lr = some (.lst rs) ∧ H lq = some (.lst qs) ∧ H ln = some (.lst (nmV ns)) ∧ lq ≠ lr ∧ ln ≠ lq ∧ ln ≠ lb ∧ ln ≠ lr ∧ lb ∉ [lr, lq] ∧ (∃ bs, H lb = some (.lst bs)) ∧ ns.length ≤ 150 ∧ qs.length ≤ 900 ∧ rs.length ≤ 900 ∧ ∀ H', LPost lb lq lr H ns a r f o x k g rs qs H' → Q .non H'
def spLast (K : PySem.W.Frag) (n : Nat) : Sp := fun vs H Q E => spLP K n vs H Q E ∨ spLH K vs H Q E
def spL0 (K : PySem.W.Frag) : Nat → Sp
  | 0 => fun _ _ _ _ => False
  | n + 1 => spLast K n
theorem ok_last_of (T : Fx K w mg) (n : Nat) (G_Compiler_last : FnOk P w K mg base CX0 (n + 28) (He.ma K (He.ga K "Compiler") "last") (fdOf K ("Compiler", some "last")) ["self", "rows", "expression", "names"] (spL0 K n)) :
    FnOk P w K mg base CX0 (n + 29) (He.ma K (He.ga K "Compiler") "last") (fdOf K ("Compiler", some "last")) ["self", "rows", "expression", "names"] (spLast K n) := by
  have G_Compiler_value := ok_value (P := P) (base := base) T 11
  refine T.Compiler_last.F.ok sc_Compiler_last (fun vs H Q E h => ?_) (fun cdv A outer s H vs Q E hr h => ?_)
  · rcases h with ⟨_, _, _, _, _, _, _, _, _, _, rfl, _⟩ | ⟨_, _, _, _, _, _, _, _, _, _, _, _, _, _, _, _, _, rfl, _⟩
    · rfl
    · rfl
  · refine ⟨_, (pss_cons (ps_set (i := 4) sc_Compiler_last.nd rfl (Or.inl rfl) (pe_ix ix_tup (pv 2) pe_int (fun _ _ => rfl)))
      (pss_one (ps_if (pt_cmpR op_eq (pv 4) pe_str (nomark _))
        pss_never
        (pss_one (ps_if (pt_cmpR op_eq (pv 4) pe_str (nomark _))
          (pss_cons (ps_expr (pe_meth (pv 0) T.Compiler.cl T.Compiler_value.m G_Compiler_value (hr.mono (by omega)) T.Compiler_value.b .nil pass0 (pa_cons (pv 1) (pa_cons (pe_ix ix_tup (pv 2) pe_int (fun _ _ => rfl)) (pa_cons (pv 3) pa_nil)))))
          (pss_cons (ps_expr (pe_bm PySem.F.plainAttrs_list PySem.F.slot_list_append PySem.F.type_list_append mt_append (pv 1) (pa_cons (pe_tup (pa_cons pe_str pa_nil)) pa_nil)))
          (pss_one (ps_expr (pe_meth (pv 0) T.Compiler.cl T.Compiler_last.m G_Compiler_last (hr.mono (by omega)) T.Compiler_last.b .nil pass0 (pa_cons (pv 1) (pa_cons (pe_ix ix_tup (pv 2) pe_int (fun _ _ => rfl)) (pa_cons (pe_op op_cat (pv 3) (pe_lst (pa_cons (pe_ix ix_tup (pv 2) pe_int (fun _ _ => rfl)) pa_nil))) pa_nil))))))))
          (pss_one (ps_if (pt_cmpR op_eq (pv 4) pe_str (nomark _))
            pss_never
            (pss_one (ps_if (pt_cmpR op_eq (pv 4) pe_str (nomark _))
              pss_never
              (pss_cons (ps_expr (pe_meth (pv 0) T.Compiler.cl T.Compiler_value.m G_Compiler_value (hr.mono (by omega)) T.Compiler_value.b .nil pass0 (pa_cons (pv 1) (pa_cons (pv 2) (pa_cons (pv 3) pa_nil)))))
              (pss_one (ps_expr (pe_bm PySem.F.plainAttrs_list PySem.F.slot_list_append PySem.F.type_list_append mt_append (pv 1) (pa_cons (pe_tup (pa_cons pe_str pa_nil)) pa_nil)))))))))))))), ?_⟩
    rcases h with ⟨p, dx, lb, lq, lr, ln, ve, e, ns, rs, rfl, hO, hat, hdp, hlv, hok, hlr, hln, n1, hns, hsz, k⟩ | h
    · have npl := ne_il hO hlr
      by_cases hp : isPl e = true
      · have ok1 : okV ns e = true := by cases e <;> first | exact hok | cases hp
        have hv : vdep e < 11 := by
          have : vdep e = lvd e := by cases e <;> first | rfl | cases hp
          omega
        have ec : compL ns e = compV ns e ++ [.ret] := by cases e <;> first | rfl | cases hp
        obtain ⟨a0, rest, rfl, ha⟩ := at_head hat (fun z => by rw [z] at hp; cases hp)
        refine ⟨_, rfl, a0, _, _, _, rfl, rfl, SqT.of ha, atI_nat (j := 0) rfl, ?_⟩
        refine ⟨_, rfl, rfl, _, rfl, br_f (by rcases pl_hd hp with q | q | q | q <;> rw [q] <;> decide +kernel) ?_⟩
        refine ⟨_, rfl, rfl, _, rfl, br_f (by rcases pl_hd hp with q | q | q | q <;> rw [q] <;> decide +kernel) ?_⟩
        refine ⟨_, rfl, rfl, _, rfl, br_f (by rcases pl_hd hp with q | q | q | q <;> rw [q] <;> decide +kernel) ?_⟩
        refine ⟨_, rfl, rfl, _, rfl, br_f (by rcases pl_hd hp with q | q | q | q <;> rw [q] <;> decide +kernel) ?_⟩
        rw [ec, List.length_append, List.length_singleton] at hsz
        refine ⟨_, rfl, p, dx, _, rfl, hO, no_Compiler_value, _, rfl, _, rfl, _, rfl, .inl ⟨p, dx, lb, lq, lr, ln, _, e, ns, rs, rfl, hO, hat, hv, ok1, hlr, hln, n1, by omega, by omega, fun H1 rv1 k1 hlr1 hr1 => ?_⟩⟩
        refine ⟨_, rfl, .inl ⟨rfl, _, SqL.of hlr1⟩, by show 1 ≤ sizeLine; decide, fun t nt => ?_⟩
        have s2 := same_new nt (.tup [V.str "return"])
        refine ⟨lr, _, _, rfl, rfl, s2 _ _ hlr1, small1000 (by rw [List.length_append, ← hr1.len]; omega), ?_⟩
        have x2 : Kx H1 (upd (upd H1 t (.tup [V.str "return"])) lr (.lst (rs ++ rv1 ++ [V.ref t]))) := (Kx.same s2).trans (.lst (s2 _ _ hlr1))
        refine k _ (rv1 ++ [.ref t]) (k1.trans ((Lk.same s2).trans (.upd (by simp)))) (by rw [upd_same, List.append_assoc]) ?_
        rw [ec]
        exact (hr1.mono fun _ _ z => z.mono x2).append (.cons ⟨t, rfl, by rw [upd_ne (ne_of_none hlr1 nt).symm]; exact upd_same⟩ .nil)
      · cases e with
        | lt x a b =>
          obtain ⟨a0, va, vb, rfl, ha, hA, hB⟩ := hat
          obtain ⟨o1, o2⟩ := Bool.and_eq_true_iff.mp (show (okV ns a && okL (ns ++ [x]) b) = true from hok)
          refine ⟨_, rfl, a0, _, _, _, rfl, rfl, SqT.of ha, rfl, ?_⟩
          walk_at "skip"
          walk_at "hit"
          cases n with
          | zero => exact absurd hdp (Nat.not_lt_zero _)
          | succ n =>
            have hdp : ldep b + 1 < n + 1 := hdp
            have hns : ns.length + (ldep b + 1) ≤ 150 := hns
            have hlv : max (vdep a) (lvd b) ≤ 10 := hlv
            have ec : compL ns (.lt x a b) = compV ns a ++ [.bind] ++ compL (ns ++ [x]) b := rfl
            rw [ec, List.length_append, List.length_append, List.length_singleton] at hsz
            refine ⟨_, rfl, p, dx, _, rfl, hO, no_Compiler_value, _, rfl, _, rfl, a0, _, _, _, rfl, rfl, SqT.of ha, rfl, _, rfl, .inl ⟨p, dx, lb, lq, lr, ln, va, a, ns, rs, rfl, hO, hA, by omega, o1, hlr, hln, n1, by omega, by omega, fun H1 rv1 k1 hlr1 hr1 => ?_⟩⟩
            have x1 : Kx H H1 := k1.kx (fun x hx => by rw [List.mem_singleton] at hx; exact ⟨_, by rw [hx]; exact hlr⟩)
            refine ⟨_, rfl, .inl ⟨rfl, _, SqL.of hlr1⟩, by show 1 ≤ sizeLine; decide, fun t nt => ?_⟩
            have s2 := same_new nt (.tup [V.str "bind"])
            refine ⟨lr, _, _, rfl, rfl, s2 _ _ hlr1, small1000 (by rw [List.length_append, ← hr1.len]; omega), ?_⟩
            have ht : (upd (upd H1 t (.tup [V.str "bind"])) lr (.lst (rs ++ rv1 ++ [V.ref t]))) t = some (.tup [V.str "bind"]) := by rw [upd_ne (ne_of_none hlr1 nt).symm]; exact upd_same
            have hlr2 : (upd (upd H1 t (.tup [V.str "bind"])) lr (.lst (rs ++ rv1 ++ [V.ref t]))) lr = some (.lst (rs ++ rv1 ++ [V.ref t])) := upd_same
            have k2 : Lk [lr] H (upd (upd H1 t (.tup [V.str "bind"])) lr (.lst (rs ++ rv1 ++ [V.ref t]))) := k1.trans ((Lk.same s2).trans (.upd (by simp)))
            have x2 : Kx H1 (upd (upd H1 t (.tup [V.str "bind"])) lr (.lst (rs ++ rv1 ++ [V.ref t]))) := (Kx.same s2).trans (.lst (s2 _ _ hlr1))
            generalize upd (upd H1 t (.tup [V.str "bind"])) lr (.lst (rs ++ rv1 ++ [V.ref t])) = H2 at ht hlr2 k2 x2 ⊢
            have x12 := x1.trans x2
            have hln2 := k2 _ _ (by simp [n1]) hln
            refine ⟨_, rfl, p, dx, _, rfl, k2 _ _ (by simp [npl]) hO, no_Compiler_last, _, rfl, _, rfl, a0, _, _, _, rfl, rfl, SqT.of (x12.tx _ _ ha), rfl, _, rfl, _, rfl, a0, _, _, _, rfl, rfl, SqT.of (x12.tx _ _ ha), rfl, by show 1 ≤ sizeLine; decide, fun l1 nl1 => ?_⟩
            have s3 := same_new nl1 (.lst [V.str x.s])
            refine ⟨ln, l1, _, _, rfl, rfl, s3 _ _ hln2, upd_same, ?_, fun l2 nl2 => ?_⟩
            · show (nmV ns).length + 1 ≤ sizeLine
              exact small (by unfold nmV; rw [List.length_map]; omega)
            rw [nmV_add]
            have s4 := s3.trans (same_new nl2 (.lst (nmV (ns ++ [x]))))
            have k4 := k2.trans (.same s4)
            have x4 := x12.trans (.same s4)
            have nl2r : l2 ≠ lr := (ne_of_none (s3 _ _ hlr2) nl2).symm
            have hl2 : (upd (upd H2 l1 (.lst [V.str x.s])) l2 (.lst (nmV (ns ++ [x])))) l2 = some (.lst (nmV (ns ++ [x]))) := upd_same
            generalize upd (upd H2 l1 (.lst [V.str x.s])) l2 (.lst (nmV (ns ++ [x]))) = H4 at s4 k4 x4 hl2
            refine .inl ⟨p, dx, lb, lq, lr, l2, vb, b, ns ++ [x], rs ++ rv1 ++ [.ref t], rfl, k4 _ _ (by simp [npl]) hO, hB.mono x4.tx, by omega, by omega, o2, s4 _ _ hlr2, hl2, nl2r, by rw [List.length_append, List.length_singleton]; omega, ?_, fun H5 rv5 k5 hlr5 hr5 => ?_⟩
            · rw [List.length_append, List.length_append, ← hr1.len, List.length_singleton]
              omega
            · have x5 : Kx H4 H5 := k5.kx (fun x hx => by rw [List.mem_singleton] at hx; exact ⟨_, by rw [hx]; exact s4 _ _ hlr2⟩)
              have x25 : Kx H2 H5 := (Kx.same s4).trans x5
              refine k _ (rv1 ++ [.ref t] ++ rv5) (k4.trans k5) (by rw [hlr5]; simp) ?_
              rw [ec]
              exact ((hr1.mono fun _ _ z => z.mono (x2.trans x25)).append (.cons ⟨t, rfl, x25.tx _ _ ht⟩ .nil)).append hr5
        | print a b => cases hok
        | quoted a => cases hok
        | kept => cases hok
        | handle a r f o x kk g => cases hok
        | _ => exact absurd rfl hp
    · obtain ⟨p, dx, lb, lq, lr, ln, ve, a, r, f, o, x, kk, g, ns, rs, qs, rfl, hO, hat, hcl, hlr, hlq, hln, n1, n2, n3, n4, nb, ⟨bs, hlb⟩, hns, hq9, hr9, k⟩ := h
      have hat' := hat
      obtain ⟨a0, va, vr, vcl, vf, vg, rfl, ha, _⟩ := hat
      refine ⟨_, rfl, a0, _, _, _, rfl, rfl, SqT.of ha, rfl, ?_⟩
      walk_at "skip"
      refine ⟨_, rfl, p, dx, _, rfl, hO, no_Compiler_value, _, rfl, _, rfl, _, rfl, .inr ⟨p, dx, lb, lq, lr, ln, _, a, r, f, o, x, kk, g, ns, rs, qs, rfl, hO, hat', hcl, hlr, hlq, hln, n1, n2, n3, n4, nb, ⟨bs, hlb⟩, hns, hq9, by omega, fun H1 hp1 => ?_⟩⟩
      obtain ⟨v1, qa, k1, hlr1, hlq1, hv1, hqa⟩ := hp1
      refine ⟨_, rfl, .inl ⟨rfl, _, SqL.of hlr1⟩, by show 1 ≤ sizeLine; decide, fun t nt => ?_⟩
      have s2 := same_new nt (.tup [V.str "return"])
      refine ⟨lr, _, _, rfl, rfl, s2 _ _ hlr1, small1000 (by rw [List.length_append, List.length_singleton]; omega), ?_⟩
      have x2 : Kx H1 (upd (upd H1 t (.tup [V.str "return"])) lr (.lst (rs ++ [v1] ++ [V.ref t]))) := (Kx.same s2).trans (.lst (s2 _ _ hlr1))
      have kF : Lk [lr, lq] H (upd (upd H1 t (.tup [V.str "return"])) lr (.lst (rs ++ [v1] ++ [V.ref t]))) := k1.trans ((Lk.same s2).trans (.upd (by simp)))
      refine k _ ⟨v1, .ref t, qa, kF, by rw [upd_same, List.append_assoc]; rfl, by rw [upd_ne n1]; exact s2 _ _ hlq1, hv1.mono x2, ⟨t, rfl, by rw [upd_ne (ne_of_none hlr1 nt).symm]; exact upd_same⟩, hqa.mono fun _ _ z => z.mono x2 fun ln' xs n z2 => ⟨?_, n⟩⟩
      rw [upd_ne (fun q => n (by rw [q]; simp))]
      exact s2 _ _ z2
theorem ok_last (T : Fx K w mg) : ∀ n, FnOk P w K mg base CX0 (n + 29) (He.ma K (He.ga K "Compiler") "last") (fdOf K ("Compiler", some "last")) ["self", "rows", "expression", "names"] (spLast K n)
  | 0 => ok_last_of T 0 fnOk_no
  | n + 1 => ok_last_of T (n + 1) (ok_last T n)
end
end AF

namespace AF
open PySem PySem.Spec PyProof.Rows L2
set_option hygiene false in
local macro_rules | `(tactic| walk_at "Run.current") => `(tactic| refine ⟨_, rfl, _, _, _, _, _, rfl, hO, T.Run.cl, T.na_Run_current, lk_Run_current, ?_⟩)
set_option hygiene false in
local macro_rules | `(tactic| walk_at "Run.frames") => `(tactic| refine ⟨_, rfl, _, _, _, _, _, rfl, hO, T.Run.cl, T.na_Run_frames, lk_Run_frames, ?_⟩)
set_option hygiene false in
local macro_rules | `(tactic| walk_at "Run.left") => `(tactic| refine ⟨_, rfl, _, _, _, _, _, rfl, hO, T.Run.cl, T.na_Run_left, lk_Run_left, ?_⟩)
set_option hygiene false in
local macro_rules | `(tactic| walk_at "Run.prints") => `(tactic| refine ⟨_, rfl, _, _, _, _, _, rfl, hO, T.Run.cl, T.na_Run_prints, lk_Run_prints, ?_⟩)
set_option hygiene false in
local macro_rules | `(tactic| walk_at "Run.end") => `(tactic| refine ⟨_, rfl, _, _, _, _, _, rfl, hO, T.Run.cl, T.na_Run_end, lk_Run_end, ?_⟩)
set_option hygiene false in
local macro_rules | `(tactic| walk_at "Machine.left") => `(tactic| refine ⟨_, rfl, _, _, _, _, _, rfl, hO, T.Machine.cl, T.na_Machine_left, lk_Machine_left, ?_⟩)
set_option hygiene false in
local macro_rules | `(tactic| walk_at "Machine.prints") => `(tactic| refine ⟨_, rfl, _, _, _, _, _, rfl, hO, T.Machine.cl, T.na_Machine_prints, lk_Machine_prints, ?_⟩)
set_option hygiene false in
local macro_rules | `(tactic| walk_at "Machine.pieces") => `(tactic| refine ⟨_, rfl, _, _, _, _, _, rfl, hO, T.Machine.cl, T.na_Machine_pieces, lk_Machine_pieces, ?_⟩)
set_option hygiene false in
local macro_rules | `(tactic| walk_at "Machine.kept") => `(tactic| refine ⟨_, rfl, _, _, _, _, _, rfl, hO, T.Machine.cl, T.na_Machine_kept, lk_Machine_kept, ?_⟩)
set_option hygiene false in
local macro_rules | `(tactic| walk_at "Machine.most") => `(tactic| refine ⟨_, rfl, _, _, _, _, _, rfl, hO, T.Machine.cl, T.na_Machine_most, lk_Machine_most, ?_⟩)
set_option hygiene false in
local macro_rules | `(tactic| walk_at "Piece.kind") => `(tactic| refine ⟨_, rfl, _, _, _, _, _, rfl, hO, T.Piece.cl, T.na_Piece_kind, lk_Piece_kind, ?_⟩)
set_option hygiene false in
local macro_rules | `(tactic| walk_at "Piece.handler") => `(tactic| refine ⟨_, rfl, _, _, _, _, _, rfl, hO, T.Piece.cl, T.na_Piece_handler, lk_Piece_handler, ?_⟩)
set_option hygiene false in
local macro_rules | `(tactic| walk_at "Piece.frames") => `(tactic| refine ⟨_, rfl, _, _, _, _, _, rfl, hO, T.Piece.cl, T.na_Piece_frames, lk_Piece_frames, ?_⟩)
set_option hygiene false in
local macro_rules | `(tactic| walk_at "Piece.distance") => `(tactic| refine ⟨_, rfl, _, _, _, _, _, rfl, hO, T.Piece.cl, T.na_Piece_distance, lk_Piece_distance, ?_⟩)
set_option hygiene false in
local macro_rules | `(tactic| walk_at "Piece.table") => `(tactic| refine ⟨_, rfl, _, _, _, _, _, rfl, hO, T.Piece.cl, T.na_Piece_table, lk_Piece_table, ?_⟩)
set_option hygiene false in
local macro_rules | `(tactic| walk_at "Runner.blocks") => `(tactic| refine ⟨_, rfl, _, _, _, _, _, rfl, hO, T.Runner.cl, T.na_Runner_blocks, lk_Runner_blocks, ?_⟩)
set_option hygiene false in
local macro_rules | `(tactic| walk_at "Runner.left") => `(tactic| refine ⟨_, rfl, _, _, _, _, _, rfl, hO, T.Runner.cl, T.na_Runner_left, lk_Runner_left, ?_⟩)
set_option hygiene false in
local macro_rules | `(tactic| walk_at "Runner.prints") => `(tactic| refine ⟨_, rfl, _, _, _, _, _, rfl, hO, T.Runner.cl, T.na_Runner_prints, lk_Runner_prints, ?_⟩)
set_option hygiene false in
local macro_rules | `(tactic| walk_at "Runner.kept") => `(tactic| refine ⟨_, rfl, _, _, _, _, _, rfl, hO, T.Runner.cl, T.na_Runner_kept, lk_Runner_kept, ?_⟩)
set_option hygiene false in
local macro_rules | `(tactic| walk_at "Runner.end") => `(tactic| refine ⟨_, rfl, _, _, _, _, _, rfl, hO, T.Runner.cl, T.na_Runner_end, lk_Runner_end, ?_⟩)
set_option hygiene false in
local macro_rules | `(tactic| walk_at "Runner.pieces") => `(tactic| refine ⟨_, rfl, _, _, _, _, _, rfl, hO, T.Runner.cl, T.na_Runner_pieces, lk_Runner_pieces, ?_⟩)
set_option hygiene false in
local macro_rules | `(tactic| walk_at "Runner.rows") => `(tactic| refine ⟨_, rfl, _, _, _, _, _, rfl, hO, T.Runner.cl, T.na_Runner_rows, lk_Runner_rows, ?_⟩)
set_option hygiene false in
local macro_rules | `(tactic| walk_at "Runner.at") => `(tactic| refine ⟨_, rfl, _, _, _, _, _, rfl, hO, T.Runner.cl, T.na_Runner_at, lk_Runner_at, ?_⟩)
set_option hygiene false in
local macro_rules | `(tactic| walk_at "Runner.bindings") => `(tactic| refine ⟨_, rfl, _, _, _, _, _, rfl, hO, T.Runner.cl, T.na_Runner_bindings, lk_Runner_bindings, ?_⟩)
set_option hygiene false in
local macro_rules | `(tactic| walk_at "Runner.operands") => `(tactic| refine ⟨_, rfl, _, _, _, _, _, rfl, hO, T.Runner.cl, T.na_Runner_operands, lk_Runner_operands, ?_⟩)
set_option hygiene false in
local macro_rules | `(tactic| walk_at "Code.blocks") => `(tactic| refine ⟨_, rfl, _, _, _, _, _, rfl, hO, T.Code.cl, T.na_Code_blocks, lk_Code_blocks, ?_⟩)
set_option hygiene false in
local macro_rules | `(tactic| walk_at "Compiler.blocks") => `(tactic| refine ⟨_, rfl, _, _, _, _, _, rfl, hO, T.Compiler.cl, T.na_Compiler_blocks, lk_Compiler_blocks, ?_⟩)
set_option hygiene false in
local macro_rules | `(tactic| walk_at "Compiler.queue") => `(tactic| refine ⟨_, rfl, _, _, _, _, _, rfl, hO, T.Compiler.cl, T.na_Compiler_queue, lk_Compiler_queue, ?_⟩)
def BlkAt (l : List Addr) (H : Hp) (rs : List Rw) (v : V) : Prop := ∃ a xs, v = .ref a ∧ H a = some (.lst xs) ∧ Rel2 (RwAt H) rs xs ∧ a ∉ l
theorem BlkAt.mono {l : List Addr} {H H' : Hp} {rs : List Rw} {v : V} (h : BlkAt l H rs v) (k : Kx H H') (hl : ∀ a xs, a ∉ l → H a = some (.lst xs) → H' a = some (.lst xs)) : BlkAt l H' rs v := by
  obtain ⟨a, xs, e, h1, h2, n⟩ := h
  exact ⟨a, xs, e, hl _ _ n h1, h2.mono fun _ _ z => z.mono k, n⟩
theorem Lk.same0 {l : List Addr} {H0 H H' : Hp} (s : Same H0 H) (k : Lk l H H') (n : ∀ a ∈ l, H0 a = none) : Same H0 H' := fun b o e => k b o (fun z => by rw [n b z] at e; cases e) (s b o e)
theorem Rel2.getL {α : Type} {R : α → V → Prop} : ∀ {as : List α} {vs : List V} {i : Nat} {a : α}, Rel2 R as vs → as[i]? = some a → ∃ v, vs[i]? = some v ∧ R a v
  | _, _, _, _, .nil, e => by simp at e
  | _, _, 0, _, .cons r _, e => by simp at e; subst e; exact ⟨_, rfl, r⟩
  | _, _, i + 1, _, .cons _ t, e => by
    obtain ⟨v, h1, h2⟩ := Rel2.getL (i := i) t (by simpa using e)
    exact ⟨v, by simpa using h1, h2⟩
theorem compB_cases (q : Nat) (ns : List Nm) (e : Tr) (h : okB ns e = true) : (∃ a r f o x k g, e = .handle a r f o x k g ∧ clauseOk g = true ∧ compB q ns e = ([hRows q o, .ret], hQs ns a r f x k g)) ∨
    (compB q ns e = (compL ns e, []) ∧ okL ns e = true ∧ (compL ns e).length ≤ 900 ∧ lvd e ≤ 10 ∧ ldep e ≤ 20) := by
  obtain ⟨_, h⟩ := Bool.and_eq_true_iff.mp h
  have gen : (okL ns e && (decide ((compL ns e).length ≤ 900) && (decide (lvd e ≤ 10) && decide (ldep e ≤ 20)))) = true → okL ns e = true ∧ (compL ns e).length ≤ 900 ∧ lvd e ≤ 10 ∧ ldep e ≤ 20 := fun z => by
    obtain ⟨z1, z⟩ := Bool.and_eq_true_iff.mp z
    obtain ⟨z2, z⟩ := Bool.and_eq_true_iff.mp z
    obtain ⟨z3, z4⟩ := Bool.and_eq_true_iff.mp z
    exact ⟨z1, of_decide_eq_true z2, of_decide_eq_true z3, of_decide_eq_true z4⟩
  cases e with
  | handle a r f o x k g => exact .inl ⟨a, r, f, o, x, k, g, rfl, h, rfl⟩
  | _ => exact .inr ⟨rfl, gen h⟩
theorem okB_len {ns : List Nm} {e : Tr} (h : okB ns e = true) : ns.length ≤ 100 := of_decide_eq_true (Bool.and_eq_true_iff.mp h).1
structure CSt (C : Addr) (H0 H : Hp) (p dx lb lq : Addr) (bs : List (List Rw)) (qs : List (Tr × List Nm)) (bvs qvs : List V) : Prop where
  s0 : Same H0 H
  nb : H0 lb = none
  nq : H0 lq = none
  ne : lb ≠ lq
  ob : H p = some (.ins C dx (flCompiler (.ref lb) (.ref lq)))
  hb : H lb = some (.lst bvs)
  hq : H lq = some (.lst qvs)
  rb : Rel2 (BlkAt [lb, lq] H) bs bvs
  rq : Rel2 (QAt [lb, lq] H) qs qvs
theorem same_lk4 {H0 H H' : Hp} {a b : Addr} (s : Same H0 H) (k : Lk [a, b] H H') (n1 : H0 a = none) (n2 : H0 b = none) : Same H0 H' := Lk.same0 s k fun x hx => by
  rcases List.mem_cons.mp hx with z | z
  · rw [z]; exact n1
  · rw [List.mem_singleton] at z
    rw [z]; exact n2
theorem same_upd0 {H0 H : Hp} {a : Addr} {o : HO} (s : Same H0 H) (n : H0 a = none) : Same H0 (upd H a o) := same_upd s n
theorem CSt.step {C p dx lb lq lr : Addr} {H0 H H4 : Hp} {bs : List (List Rw)} {qs add : List (Tr × List Nm)} {bvs qvs xs qa : List V} {rows : List Rw} (S : CSt C H0 H p dx lb lq bs qs bvs qvs) (nlr : H lr = none) (k4 : Lk [lr, lq] H H4)
    (hlr4 : H4 lr = some (.lst xs)) (hr : Rel2 (RwAt H4) rows xs) (hlq4 : H4 lq = some (.lst (qvs ++ qa))) (hqa : Rel2 (QAt [lb, lq, lr] H4) add qa) : CSt C H0 (upd H4 lb (.lst (bvs ++ [.ref lr]))) p dx lb lq (bs ++ [rows]) (qs ++ add) (bvs ++ [.ref lr]) (qvs ++ qa) := by
  have nbr : lb ≠ lr := ne_of_none S.hb nlr
  have nqr : lq ≠ lr := ne_of_none S.hq nlr
  have npb := ne_il S.ob S.hb
  have npq := ne_il S.ob S.hq
  have npr : p ≠ lr := ne_of_none S.ob nlr
  have n0r : H0 lr = none := S.s0.free nlr
  have hlb4 := k4 _ _ (by simp [nbr, S.ne]) S.hb
  have x4 : Kx H H4 := fun b o n e => k4 b o (fun z => by
    rcases List.mem_cons.mp z with z | z
    · rw [z, nlr] at e; cases e
    · rw [List.mem_singleton] at z
      rw [z, S.hq] at e; cases e; exact n _ rfl) e
  have x5 : Kx H4 (upd H4 lb (.lst (bvs ++ [.ref lr]))) := .lst hlb4
  have old : ∀ a xs, a ∉ [lb, lq] → H a = some (.lst xs) → (upd H4 lb (.lst (bvs ++ [.ref lr]))) a = some (.lst xs) := fun a xs n z => by
    obtain ⟨n1, n2⟩ : a ≠ lb ∧ a ≠ lq := by simpa using n
    rw [upd_ne n1]
    exact k4 _ _ (by simp [n2, ne_of_none z nlr]) z
  refine ⟨same_upd0 (same_lk4 S.s0 k4 n0r S.nq) S.nb, S.nb, S.nq, S.ne, by rw [upd_ne npb]; exact k4 _ _ (by simp [npr, npq]) S.ob, upd_same, by rw [upd_ne S.ne.symm]; exact hlq4, ?_, ?_⟩
  · refine (S.rb.mono fun _ _ z => z.mono (x4.trans x5) old).append (.cons ⟨lr, xs, rfl, by rw [upd_ne nbr.symm]; exact hlr4, hr.mono fun _ _ z => z.mono x5, by simp [nbr.symm, nqr.symm]⟩ .nil)
  · refine (S.rq.mono fun _ _ z => z.mono (x4.trans x5) fun ln ys n z => ⟨old _ _ n z, n⟩).append (hqa.mono fun _ _ z => z.mono x5 fun ln ys n z => ⟨?_, fun q => n (by simp at q ⊢; rcases q with q | q <;> simp [q])⟩)
    rw [upd_ne (fun q => n (by simp [q]))]
    exact z
section
variable {P : Program} {w : World} {K : PySem.W.Frag} {mg : Str → Option Value} {base : Heap}
def spCAll (K : PySem.W.Frag) : Sp := fun vs H Q _ => ∃ (H0 : Hp) (p dx lb lq : Addr) (bs out : List (List Rw)) (qs : List (Tr × List Nm)) (bvs qvs : List V) (m : Nat), vs = [.ref p] ∧ CSt (He.ga K "Compiler") H0 H p dx lb lq bs qs bvs qvs ∧ CRuns m bs qs out ∧
  ∀ H' qs' bvs' qvs', CSt (He.ga K "Compiler") H0 H' p dx lb lq out qs' bvs' qvs' → Q .non H'
theorem ok_compile_all (T : Fx K w mg) : FnOk P w K mg base CX0 51 (He.ma K (He.ga K "Compiler") "compile_all") (fdOf K ("Compiler", some "compile_all")) ["self"] (spCAll K) := by
  have G_Compiler_last := ok_last (P := P) (base := base) T 21
  refine T.Compiler_compile_all.F.ok sc_Compiler_compile_all (fun vs H Q E h => ?_) (fun cdv A outer s H vs Q E hr h => ?_)
  · obtain ⟨_, _, _, _, _, _, _, _, _, _, _, rfl, _⟩ := h
    rfl
  · obtain ⟨H0, p, dx, lb, lq, bs, out, qs, bvs, qvs, m, rfl, S, hrun, k⟩ := h
    refine ⟨_, (pss_one (ps_while PassesOwn.never (pt_cmpR op_lt (pe_callB call_len_seq (by rfl) T.n_len (by decide +kernel) (pa_cons (pe_fld (pv 0) rfl) pa_nil)) (pe_callB call_len_seq (by rfl) T.n_len (by decide +kernel) (pa_cons (pe_fld (pv 0) rfl) pa_nil)) (nomark _))
        (pss_cons (ps_asg (pe_ix ix_list (pe_fld (pv 0) rfl) (pe_callB call_len_seq (by rfl) T.n_len (by decide +kernel) (pa_cons (pe_fld (pv 0) rfl) pa_nil)) (fun _ _ => rfl)) (pg_tup rfl (pgs_cons (pg_name (i := 1) sc_Compiler_compile_all.nd rfl (Or.inl rfl)) (pgs_cons (pg_name (i := 2) sc_Compiler_compile_all.nd rfl (Or.inl rfl)) pgs_nil))))
        (pss_cons (ps_set (i := 3) sc_Compiler_compile_all.nd rfl (Or.inl rfl) (pe_lst pa_nil))
        (pss_cons (ps_expr (pe_meth (pv 0) T.Compiler.cl T.Compiler_last.m G_Compiler_last (hr.mono (by omega)) T.Compiler_last.b .nil pass0 (pa_cons (pv 3) (pa_cons (pv 1) (pa_cons (pv 2) pa_nil)))))
        (pss_one (ps_expr (pe_bm PySem.F.plainAttrs_list PySem.F.slot_list_append PySem.F.type_list_append mt_append (pe_fld (pv 0) rfl) (pa_cons (pv 3) pa_nil))))))))), ?_⟩
    refine ⟨fun m σ H' => ∃ bs qs bvs qvs o1 o2 o3, σ = [some (.ref p), o1, o2, o3] ∧ CSt (He.ga K "Compiler") H0 H' p dx lb lq bs qs bvs qvs ∧ CRuns m bs qs out, ⟨m, bs, qs, bvs, qvs, none, none, none, rfl, S, hrun⟩, ?_⟩
    rintro m2 σ H2 ⟨bs, qs, bvs, qvs, o1, o2, o3, rfl, S, hr2⟩
    cases m2 with
    | zero => exact hr2.elim
    | succ m2 =>
      have hO := S.ob
      walk_at "Compiler.blocks"
      refine ⟨lb, _, rfl, .inl (SqL.of S.hb), ?_⟩
      walk_at "Compiler.queue"
      refine ⟨lq, _, rfl, .inl (SqL.of S.hq), _, _, rfl, rfl, _, rfl, ?_⟩
      unfold CRuns at hr2
      cases hq : qs[bs.length]? with
      | none =>
        rw [hq] at hr2
        obtain ⟨he, ho⟩ := hr2
        subst ho
        refine br_f (decide_eq_false (by rw [← S.rb.len, ← S.rq.len]; omega)) ?_
        exact k _ _ _ _ S
      | some eq =>
        obtain ⟨e, ns⟩ := eq
        rw [hq] at hr2
        obtain ⟨hq8, hb8, hok, hr3⟩ := hr2
        have hlt := (List.getElem?_eq_some_iff.mp hq).1
        refine br_t (decide_eq_true (by rw [← S.rb.len, ← S.rq.len]; omega)) ⟨fun σ H' => ∃ bs qs bvs qvs o1 o2 o3, σ = [some (.ref p), o1, o2, o3] ∧ CSt (He.ga K "Compiler") H0 H' p dx lb lq bs qs bvs qvs ∧ CRuns m2 bs qs out, fun _ _ z => ⟨m2, Nat.lt_succ_self _, z⟩, ?_⟩
        obtain ⟨vq, hvq, t, ve, ln, rfl, ht, hat, hln, nln⟩ : ∃ vq, qvs[bvs.length]? = some vq ∧ QAt [lb, lq] H2 (e, ns) vq := by
          rw [← S.rb.len]
          exact S.rq.getL hq
        walk_at "Compiler.queue"
        walk_at "Compiler.blocks"
        refine ⟨lb, _, rfl, .inl (SqL.of S.hb), lq, _, _, _, rfl, rfl, SqL.of S.hq, atI_nat hvq, t, _, rfl, SqT.of ht, rfl, _, _, rfl, _, _, rfl, rfl, ?_⟩
        refine ⟨Nat.zero_le _, fun lr nlr => ?_⟩
        have s1 := same_new nlr (.lst [])
        have hlr1 : (upd H2 lr (.lst [])) lr = some (.lst []) := upd_same
        have n0r : H0 lr = none := S.s0.free nlr
        have nlnr : ln ≠ lr := ne_of_none hln nlr
        have nbr : lb ≠ lr := ne_of_none S.hb nlr
        have nqr : lq ≠ lr := ne_of_none S.hq nlr
        have npb := ne_il S.ob S.hb
        have npq := ne_il S.ob S.hq
        have npr : p ≠ lr := ne_of_none S.ob nlr
        obtain ⟨nlb, nlq⟩ : ln ≠ lb ∧ ln ≠ lq := by simpa using nln
        have olda : ∀ {a : Addr} {xs : List V}, H2 a = some (.lst xs) → a ≠ lr := fun z => ne_of_none z nlr
        generalize upd H2 lr (.lst []) = H3 at s1 hlr1
        have hO3 := s1 _ _ S.ob
        have hns := okB_len hok
        rcases compB_cases qs.length ns e hok with ⟨a, r, f, o, x, kk, g, rfl, hcl, ec⟩ | ⟨ec, hL, hl9, hv, hd⟩
        · rw [ec] at hr3
          refine ⟨_, rfl, p, dx, _, rfl, hO3, no_Compiler_last, _, rfl, _, rfl, _, rfl, .inr ⟨p, dx, lb, lq, lr, ln, ve, a, r, f, o, x, kk, g, ns, [], qvs, rfl, hO3, hat.mono (.same s1), hcl, hlr1, s1 _ _ S.hq, s1 _ _ hln, nqr, nlq, nlb, nlnr, by simp [nbr, S.ne], ⟨_, s1 _ _ S.hb⟩, by omega, by rw [← S.rq.len]; omega, by show 0 ≤ 900; omega, fun H4 hp => ?_⟩⟩
          obtain ⟨v1, v2, qa, k4, hlr4, hlq4, hv1, hv2, hqa⟩ := hp
          have hlb4 := k4 _ _ (by simp [nbr, S.ne]) (s1 _ _ S.hb)
          have hO4 := k4 _ _ (by simp [npr, npq]) hO3
          have x4 : Kx H2 H4 := (Kx.same s1).trans (k4.kx fun y hy => by
            rcases List.mem_cons.mp hy with z | z
            · exact ⟨_, by rw [z]; exact hlr1⟩
            · rw [List.mem_singleton] at z
              exact ⟨_, by rw [z]; exact s1 _ _ S.hq⟩)
          have hO := hO4
          walk_at "Compiler.blocks"
          refine ⟨.inl ⟨rfl, _, SqL.of hlb4⟩, _, rfl, lb, _, _, rfl, rfl, hlb4, small1000 (by rw [← S.rb.len]; omega), ?_⟩
          have kk : Lk [lr, lq] H2 H4 := (Lk.same s1).trans k4
          have S' := S.step (rows := [hRows qs.length o, .ret]) nlr kk hlr4 (by rw [S.rq.len]; exact .cons hv1 (.cons hv2 .nil)) hlq4 hqa
          exact ⟨_, _, _, _, _, _, _, rfl, S', hr3⟩
        · rw [ec] at hr3
          refine ⟨_, rfl, p, dx, _, rfl, hO3, no_Compiler_last, _, rfl, _, rfl, _, rfl, .inl ⟨p, dx, lb, lq, lr, ln, ve, e, ns, [], rfl, hO3, hat.mono (.same s1), by omega, hv, hL, hlr1, s1 _ _ hln, nlnr, by omega, by show 0 + _ ≤ 1000; omega, fun H4 rv k4 hlr4 hrv => ?_⟩⟩
          have kk : Lk [lr, lq] H2 H4 := (Lk.same s1).trans (k4.sub (by simp))
          have hlb4 := k4 _ _ (by simp [nbr]) (s1 _ _ S.hb)
          have hO := k4 _ _ (by simp [npr]) hO3
          walk_at "Compiler.blocks"
          refine ⟨.inl ⟨rfl, _, SqL.of hlb4⟩, _, rfl, lb, _, _, rfl, rfl, hlb4, small1000 (by rw [← S.rb.len]; omega), ?_⟩
          have S' := S.step (rows := compL ns e) (qa := []) (add := []) nlr kk hlr4 hrv (by rw [List.append_nil]; exact k4 _ _ (by simp [nqr]) (s1 _ _ S.hq)) .nil
          exact ⟨_, _, _, _, _, _, _, rfl, S', hr3⟩
end
end AF

namespace AF
open PySem PySem.Spec PyProof.Rows L2
set_option hygiene false in
local macro_rules | `(tactic| walk_at "Run.current") => `(tactic| refine ⟨_, rfl, _, _, _, _, _, rfl, hO, T.Run.cl, T.na_Run_current, lk_Run_current, ?_⟩)
set_option hygiene false in
local macro_rules | `(tactic| walk_at "Run.frames") => `(tactic| refine ⟨_, rfl, _, _, _, _, _, rfl, hO, T.Run.cl, T.na_Run_frames, lk_Run_frames, ?_⟩)
set_option hygiene false in
local macro_rules | `(tactic| walk_at "Run.left") => `(tactic| refine ⟨_, rfl, _, _, _, _, _, rfl, hO, T.Run.cl, T.na_Run_left, lk_Run_left, ?_⟩)
set_option hygiene false in
local macro_rules | `(tactic| walk_at "Run.prints") => `(tactic| refine ⟨_, rfl, _, _, _, _, _, rfl, hO, T.Run.cl, T.na_Run_prints, lk_Run_prints, ?_⟩)
set_option hygiene false in
local macro_rules | `(tactic| walk_at "Run.end") => `(tactic| refine ⟨_, rfl, _, _, _, _, _, rfl, hO, T.Run.cl, T.na_Run_end, lk_Run_end, ?_⟩)
set_option hygiene false in
local macro_rules | `(tactic| walk_at "Machine.left") => `(tactic| refine ⟨_, rfl, _, _, _, _, _, rfl, hO, T.Machine.cl, T.na_Machine_left, lk_Machine_left, ?_⟩)
set_option hygiene false in
local macro_rules | `(tactic| walk_at "Machine.prints") => `(tactic| refine ⟨_, rfl, _, _, _, _, _, rfl, hO, T.Machine.cl, T.na_Machine_prints, lk_Machine_prints, ?_⟩)
set_option hygiene false in
local macro_rules | `(tactic| walk_at "Machine.pieces") => `(tactic| refine ⟨_, rfl, _, _, _, _, _, rfl, hO, T.Machine.cl, T.na_Machine_pieces, lk_Machine_pieces, ?_⟩)
set_option hygiene false in
local macro_rules | `(tactic| walk_at "Machine.kept") => `(tactic| refine ⟨_, rfl, _, _, _, _, _, rfl, hO, T.Machine.cl, T.na_Machine_kept, lk_Machine_kept, ?_⟩)
set_option hygiene false in
local macro_rules | `(tactic| walk_at "Machine.most") => `(tactic| refine ⟨_, rfl, _, _, _, _, _, rfl, hO, T.Machine.cl, T.na_Machine_most, lk_Machine_most, ?_⟩)
set_option hygiene false in
local macro_rules | `(tactic| walk_at "Piece.kind") => `(tactic| refine ⟨_, rfl, _, _, _, _, _, rfl, hO, T.Piece.cl, T.na_Piece_kind, lk_Piece_kind, ?_⟩)
set_option hygiene false in
local macro_rules | `(tactic| walk_at "Piece.handler") => `(tactic| refine ⟨_, rfl, _, _, _, _, _, rfl, hO, T.Piece.cl, T.na_Piece_handler, lk_Piece_handler, ?_⟩)
set_option hygiene false in
local macro_rules | `(tactic| walk_at "Piece.frames") => `(tactic| refine ⟨_, rfl, _, _, _, _, _, rfl, hO, T.Piece.cl, T.na_Piece_frames, lk_Piece_frames, ?_⟩)
set_option hygiene false in
local macro_rules | `(tactic| walk_at "Piece.distance") => `(tactic| refine ⟨_, rfl, _, _, _, _, _, rfl, hO, T.Piece.cl, T.na_Piece_distance, lk_Piece_distance, ?_⟩)
set_option hygiene false in
local macro_rules | `(tactic| walk_at "Piece.table") => `(tactic| refine ⟨_, rfl, _, _, _, _, _, rfl, hO, T.Piece.cl, T.na_Piece_table, lk_Piece_table, ?_⟩)
set_option hygiene false in
local macro_rules | `(tactic| walk_at "Runner.blocks") => `(tactic| refine ⟨_, rfl, _, _, _, _, _, rfl, hO, T.Runner.cl, T.na_Runner_blocks, lk_Runner_blocks, ?_⟩)
set_option hygiene false in
local macro_rules | `(tactic| walk_at "Runner.left") => `(tactic| refine ⟨_, rfl, _, _, _, _, _, rfl, hO, T.Runner.cl, T.na_Runner_left, lk_Runner_left, ?_⟩)
set_option hygiene false in
local macro_rules | `(tactic| walk_at "Runner.prints") => `(tactic| refine ⟨_, rfl, _, _, _, _, _, rfl, hO, T.Runner.cl, T.na_Runner_prints, lk_Runner_prints, ?_⟩)
set_option hygiene false in
local macro_rules | `(tactic| walk_at "Runner.kept") => `(tactic| refine ⟨_, rfl, _, _, _, _, _, rfl, hO, T.Runner.cl, T.na_Runner_kept, lk_Runner_kept, ?_⟩)
set_option hygiene false in
local macro_rules | `(tactic| walk_at "Runner.end") => `(tactic| refine ⟨_, rfl, _, _, _, _, _, rfl, hO, T.Runner.cl, T.na_Runner_end, lk_Runner_end, ?_⟩)
set_option hygiene false in
local macro_rules | `(tactic| walk_at "Runner.pieces") => `(tactic| refine ⟨_, rfl, _, _, _, _, _, rfl, hO, T.Runner.cl, T.na_Runner_pieces, lk_Runner_pieces, ?_⟩)
set_option hygiene false in
local macro_rules | `(tactic| walk_at "Runner.rows") => `(tactic| refine ⟨_, rfl, _, _, _, _, _, rfl, hO, T.Runner.cl, T.na_Runner_rows, lk_Runner_rows, ?_⟩)
set_option hygiene false in
local macro_rules | `(tactic| walk_at "Runner.at") => `(tactic| refine ⟨_, rfl, _, _, _, _, _, rfl, hO, T.Runner.cl, T.na_Runner_at, lk_Runner_at, ?_⟩)
set_option hygiene false in
local macro_rules | `(tactic| walk_at "Runner.bindings") => `(tactic| refine ⟨_, rfl, _, _, _, _, _, rfl, hO, T.Runner.cl, T.na_Runner_bindings, lk_Runner_bindings, ?_⟩)
set_option hygiene false in
local macro_rules | `(tactic| walk_at "Runner.operands") => `(tactic| refine ⟨_, rfl, _, _, _, _, _, rfl, hO, T.Runner.cl, T.na_Runner_operands, lk_Runner_operands, ?_⟩)
set_option hygiene false in
local macro_rules | `(tactic| walk_at "Code.blocks") => `(tactic| refine ⟨_, rfl, _, _, _, _, _, rfl, hO, T.Code.cl, T.na_Code_blocks, lk_Code_blocks, ?_⟩)
set_option hygiene false in
local macro_rules | `(tactic| walk_at "Compiler.blocks") => `(tactic| refine ⟨_, rfl, _, _, _, _, _, rfl, hO, T.Compiler.cl, T.na_Compiler_blocks, lk_Compiler_blocks, ?_⟩)
set_option hygiene false in
local macro_rules | `(tactic| walk_at "Compiler.queue") => `(tactic| refine ⟨_, rfl, _, _, _, _, _, rfl, hO, T.Compiler.cl, T.na_Compiler_queue, lk_Compiler_queue, ?_⟩)
section
variable {P : Program} {w : World} {K : PySem.W.Frag} {mg : Str → Option Value} {base : Heap}
def spCInit (K : PySem.W.Frag) : Sp := fun vs H Q _ => ∃ (H0 : Hp) (p dx : Addr), vs = [.ref p] ∧ Same H0 H ∧ H0 p = none ∧ H p = some (.ins (He.ga K "Compiler") dx []) ∧ ∀ H' lb lq, Tx H H' → CSt (He.ga K "Compiler") H0 H' p dx lb lq [] [] [] [] → Q .non H'
theorem ok_CInit (T : Fx K w mg) : FnOk P w K mg base CX0 1 (He.ma K (He.ga K "Compiler") "__init__") (fdOf K ("Compiler", some "__init__")) ["self"] (spCInit K) := by
  refine T.Compiler__init__.F.ok sc_Compiler__init__ (fun vs H Q E h => ?_) (fun cdv A outer s H vs Q E hr h => ?_)
  · obtain ⟨_, _, _, rfl, _⟩ := h
    rfl
  · obtain ⟨H0, p, dx, rfl, s0, np, hp, k⟩ := h
    refine ⟨_, (pss_cons (ps_fld (pv 0) (pe_lst pa_nil) rfl)
      (pss_one (ps_fld (pv 0) (pe_lst pa_nil) rfl))), ?_⟩
    refine ⟨Nat.zero_le _, fun lb nlb => ?_⟩
    have s1 := same_new nlb (.lst [])
    have npb : p ≠ lb := ne_of_none hp nlb
    refine ⟨_, rfl, p, _, dx, _, rfl, s1 _ _ hp, T.Compiler.cl, T.na_Compiler_blocks, li_Compiler_0, ?_⟩
    rw [show putF "blocks" (V.ref lb) [] = inCompiler1 (.ref lb) from pi_Compiler_0]
    have s2 : Same H0 (upd (upd H lb (.lst [])) p (.ins (He.ga K "Compiler") dx (inCompiler1 (.ref lb)))) := same_upd (s0.trans s1) np
    have t2 : Tx H (upd (upd H lb (.lst [])) p (.ins (He.ga K "Compiler") dx (inCompiler1 (.ref lb)))) := (Tx.same s1).trans (tx_ins (s1 _ _ hp))
    have hp2 : (upd (upd H lb (.lst [])) p (.ins (He.ga K "Compiler") dx (inCompiler1 (.ref lb)))) p = some (.ins (He.ga K "Compiler") dx (inCompiler1 (.ref lb))) := upd_same
    have hb2 : (upd (upd H lb (.lst [])) p (.ins (He.ga K "Compiler") dx (inCompiler1 (.ref lb)))) lb = some (.lst []) := by rw [upd_ne npb.symm]; exact upd_same
    have nb0 : H0 lb = none := s0.free nlb
    generalize upd (upd H lb (.lst [])) p (.ins (He.ga K "Compiler") dx (inCompiler1 (.ref lb))) = H2 at s2 t2 hp2 hb2
    refine ⟨Nat.zero_le _, fun lq nlq => ?_⟩
    have s3 := same_new nlq (.lst [])
    have npq : p ≠ lq := ne_of_none hp2 nlq
    have nbq : lb ≠ lq := ne_of_none hb2 nlq
    refine ⟨_, rfl, p, _, dx, _, rfl, s3 _ _ hp2, T.Compiler.cl, T.na_Compiler_queue, li_Compiler_1, ?_⟩
    rw [show putF "queue" (V.ref lq) (inCompiler1 (.ref lb)) = inCompiler2 (.ref lb) (.ref lq) from pi_Compiler_1]
    refine k _ lb lq (t2.trans ((Tx.same s3).trans (tx_ins (s3 _ _ hp2)))) ⟨same_upd (s2.trans s3) np, nb0, s2.free nlq, nbq, upd_same, by rw [upd_ne npb.symm]; exact s3 _ _ hb2, by rw [upd_ne npq.symm]; exact upd_same, .nil, .nil⟩
def spCode (K : PySem.W.Frag) : Sp := fun vs H Q _ => ∃ (p dx : Addr) (v : V), vs = [.ref p, v] ∧ H p = some (.ins (He.ga K "Code") dx []) ∧ Q .non (upd H p (.ins (He.ga K "Code") dx (flCode v)))
theorem ok_Code (T : Fx K w mg) : FnOk P w K mg base CX0 1 (He.ma K (He.ga K "Code") "__init__") (fdOf K ("Code", some "__init__")) ["self", "blocks"] (spCode K) := by
  refine T.Code__init__.F.ok sc_Code__init__ (fun vs H Q E h => ?_) (fun cdv A outer s H vs Q E hr h => ?_)
  · obtain ⟨_, _, _, rfl, _⟩ := h
    rfl
  · obtain ⟨p, dx, v, rfl, hp, k⟩ := h
    refine ⟨_, (pss_one (ps_fld (pv 0) (pv 1) rfl)), ?_⟩
    refine ⟨_, rfl, _, rfl, p, _, dx, _, rfl, hp, T.Code.cl, T.na_Code_blocks, li_Code_0, ?_⟩
    rw [show putF "blocks" v [] = inCode1 v from pi_Code_0]
    exact k
def CodeAt (H : Hp) (out : List (List Rw)) (lb : Addr) : Prop := ∃ bvs, H lb = some (.lst bvs) ∧ Rel2 (BlkAt [] H) out bvs
def spCE (K : PySem.W.Frag) : Sp := fun vs H Q _ => ∃ (ve : V) (e : Tr) (m : Nat) (out : List (List Rw)), vs = [ve] ∧ At H e ve ∧ CRuns m [] [(e, [])] out ∧ ∀ H' c dxc lb, Same H H' → H' c = some (.ins (He.ga K "Code") dxc (flCode (.ref lb))) → CodeAt H' out lb → Q (.ref c) H'
theorem ok_compile_expression (T : Fx K w mg) : FnOk P w K mg base CX0 52 (He.ga K "compile_expression") (fdOf K ("compile_expression", none)) ["expression"] (spCE K) := by
  have G_Compiler__init__ := ok_CInit (P := P) (base := base) T
  have G_Compiler_block := ok_block (P := P) (base := base) T
  have G_Compiler_compile_all := ok_compile_all (P := P) (base := base) T
  have G_Code__init__ := ok_Code (P := P) (base := base) T
  refine T.compile_expression.F.ok sc_compile_expression (fun vs H Q E h => ?_) (fun cdv A outer s H vs Q E hr h => ?_)
  · obtain ⟨_, _, _, _, rfl, _⟩ := h
    rfl
  · obtain ⟨ve, e, m, out, rfl, hat, hrun, k⟩ := h
    refine ⟨_, (pss_cons (ps_set (i := 1) sc_compile_expression.nd rfl (Or.inl rfl) (pe_make0 T.Compiler.mkr G_Compiler__init__ (hr.mono (by omega)) rfl T.Compiler.mg T.Compiler__init__.b .nil pass0))
      (pss_cons (ps_expr (pe_meth (pv 1) T.Compiler.cl T.Compiler_block.m G_Compiler_block (hr.mono (by omega)) T.Compiler_block.b .nil pass0 (pa_cons (pv 0) (pa_cons (pe_lst pa_nil) pa_nil))))
      (pss_cons (ps_expr (pe_meth0 (pv 1) T.Compiler.cl T.Compiler_compile_all.m G_Compiler_compile_all (hr.mono (by omega)) T.Compiler_compile_all.b .nil pass0))
      (pss_one (ps_ret (pe_make T.Code.mkr G_Code__init__ (hr.mono (by omega)) rfl T.Code.mg T.Code__init__.b .nil pass0 (pa_cons (pe_fld (pv 1) rfl) pa_nil))))))), ?_⟩
    intro p dx np nd ned
    have s0 : Same H (upd (upd H dx (.own p)) p (.ins (He.ga K "Compiler") dx [])) := (same_new nd (.own p)).trans (same_new (by rw [upd_ne ned.symm]; exact np) _)
    refine ⟨H, p, dx, rfl, s0, np, upd_same, fun H1 lb lq t1 S1 => ⟨rfl, ?_⟩⟩
    refine ⟨_, rfl, p, dx, _, rfl, S1.ob, no_Compiler_block, _, rfl, Nat.zero_le _, fun ln nln => ?_⟩
    have s2 := same_new nln (.lst [])
    refine ⟨p, dx, lb, lq, ve, .ref ln, [], rfl, s2 _ _ S1.ob, s2 _ _ S1.hq, Nat.zero_le _, fun t nt => ?_⟩
    have s3 := s2.trans (same_new nt (.tup [ve, V.ref ln]))
    have S2 : CSt (He.ga K "Compiler") H (upd (upd (upd H1 ln (.lst [])) t (.tup [ve, V.ref ln])) lq (.lst ([] ++ [V.ref t]))) p dx lb lq [] [(e, [])] [] [.ref t] := by
      refine ⟨same_upd (S1.s0.trans s3) S1.nq, S1.nb, S1.nq, S1.ne, by rw [upd_ne (ne_il S1.ob S1.hq)]; exact s3 _ _ S1.ob, by rw [upd_ne S1.ne]; exact s3 _ _ S1.hb, upd_same, .nil, .cons ⟨t, ve, ln, rfl, ?_, ?_, ?_, ?_⟩ .nil⟩
      · rw [upd_ne (ne_of_none (s2 _ _ S1.hq) nt).symm]; exact upd_same
      · exact hat.mono ((Tx.same S1.s0).trans ((Tx.same s3).trans (tx_lst (s3 _ _ S1.hq))))
      · rw [upd_ne (ne_of_none S1.hq nln).symm]
        exact (same_new nt (.tup [ve, V.ref ln])) _ _ upd_same
      · simp [(ne_of_none S1.hq nln).symm, (ne_of_none S1.hb nln).symm]
    refine ⟨_, rfl, p, dx, _, rfl, S2.ob, no_Compiler_compile_all, H, p, dx, lb, lq, [], out, [(e, [])], [], [.ref t], m, rfl, S2, hrun, fun H3 qs' bvs' qvs' S3 => ?_⟩
    have hO := S3.ob
    walk_at "Compiler.blocks"
    intro c dxc nc ndc necd
    have s4 : Same H3 (upd (upd H3 dxc (.own c)) c (.ins (He.ga K "Code") dxc [])) := (same_new ndc (.own c)).trans (same_new (by rw [upd_ne necd.symm]; exact nc) _)
    refine ⟨c, dxc, .ref lb, rfl, upd_same, rfl, ?_⟩
    have s5 : Same H3 (upd (upd (upd H3 dxc (.own c)) c (.ins (He.ga K "Code") dxc [])) c (.ins (He.ga K "Code") dxc (flCode (.ref lb)))) := same_upd s4 nc
    exact k _ c dxc lb (S3.s0.trans s5) upd_same ⟨bvs', s5 _ _ S3.hb, S3.rb.mono fun _ _ z => by
      obtain ⟨a, xs, e1, h1, h2, _⟩ := z
      exact ⟨a, xs, e1, s5 _ _ h1, h2.mono fun _ _ y => y.mono (.same s5), by simp⟩⟩
end
end AF

namespace AF
open PySem PySem.Spec PyProof.Rows L2
/-- what stays in a run: all but lists and the runner itself -/
def Kr (p : Addr) (H H' : Hp) : Prop := ∀ b o, (∀ xs, o ≠ .lst xs) → (b = p → ∀ C dx fs, o ≠ .ins C dx fs) → H b = some o → H' b = some o
theorem Kr.refl (p : Addr) (H : Hp) : Kr p H H := fun _ _ _ _ h => h
theorem Kr.trans {p : Addr} {H H1 H2 : Hp} (a : Kr p H H1) (b : Kr p H1 H2) : Kr p H H2 := fun c o n m h => b c o n m (a c o n m h)
theorem Kr.same {p : Addr} {H H' : Hp} (s : Same H H') : Kr p H H' := fun b o _ _ h => s b o h
theorem Kr.tx {p : Addr} {H H' : Hp} (k : Kr p H H') : Tx H H' := fun b xs h => k b _ (fun _ z => nomatch z) (fun _ _ _ _ z => nomatch z) h
theorem Kr.dk {p : Addr} {H H' : Hp} (k : Kr p H H') {b : Addr} {kv : List (L2.Key × V)} (h : H b = some (.dK kv)) : H' b = some (.dK kv) := k b _ (fun _ z => nomatch z) (fun _ _ _ _ z => nomatch z) h
theorem Kr.ins {p : Addr} {H H' : Hp} (k : Kr p H H') {b C dx : Addr} {fs : List (Str × V)} (h : H b = some (.ins C dx fs)) (n : b ≠ p) : H' b = some (.ins C dx fs) := k b _ (fun _ z => nomatch z) (fun z => absurd z n) h
theorem Kr.lst {p : Addr} {H : Hp} {a : Addr} {xs : List V} {o : HO} (h : H a = some (.lst xs)) : Kr p H (upd H a o) := fun b u n _ e => by
  have ne : b ≠ a := fun z => by rw [z, h] at e; cases e; exact n _ rfl
  rw [upd_ne ne]; exact e
theorem Kr.self {p : Addr} {H : Hp} {C dx : Addr} {fs : List (Str × V)} {o : HO} (h : H p = some (.ins C dx fs)) : Kr p H (upd H p o) := fun b u n m e => by
  have ne : b ≠ p := fun z => by
    have e2 := e
    rw [z, h] at e2
    cases e2
    exact m z _ _ _ rfl
  rw [upd_ne ne]; exact e
inductive Bd where
  | nil | cons (v : EV) (e : Bd)
def BdAt (H : Hp) : Bd → V → Prop
  | .nil, v => v = .non
  | .cons e r, v => ∃ p ve vr, v = .ref p ∧ H p = some (.tup [ve, vr]) ∧ EVAt H e ve ∧ BdAt H r vr
theorem BdAt.mono {H H' : Hp} (t : Tx H H') : ∀ {e : Bd} {v : V}, BdAt H e v → BdAt H' e v
  | .nil, _, h => h
  | .cons .., _, ⟨p, ve, vr, e, h, a, b⟩ => ⟨p, ve, vr, e, t _ _ h, a.mono t, b.mono t⟩
def bdGet : Nat → Bd → Option EV
  | _, .nil => none
  | 0, .cons v _ => some v
  | n + 1, .cons _ r => bdGet n r
structure RF where
  rows : List Rw
  at_ : Nat
  bd : Bd
  ops : List Int
structure RHd where
  after : Nat
  cl : Nat
  bd : Bd
  o : Nm
def RowsAt (H0 : Hp) (rows : List Rw) (rl : Addr) : Prop := ∃ xs, H0 rl = some (.lst xs) ∧ Rel2 (RwAt H0) rows xs
def RFAt (H0 H : Hp) (f : RF) (v : V) : Prop := ∃ t rl vb to os, v = .ref t ∧ H t = some (.tup [.ref rl, .int (f.at_ : Nat), vb, .ref to]) ∧ RowsAt H0 f.rows rl ∧ BdAt H f.bd vb ∧ H to = some (.tup os.reverse) ∧ Rel2 (IntAt H) f.ops os
theorem RFAt.mono {H0 H H' : Hp} {f : RF} {v : V} (h : RFAt H0 H f v) (t : Tx H H') : RFAt H0 H' f v := by
  obtain ⟨tt, rl, vb, to, os, e, h1, h2, h3, h4, h5⟩ := h
  exact ⟨tt, rl, vb, to, os, e, t _ _ h1, h2, h3.mono t, t _ _ h4, h5.mono fun _ _ z => z.mono t⟩
def RHdAt (H0 H : Hp) (h : RHd) (v : V) : Prop := ∃ t d e vb, v = .ref t ∧ H t = some (.tup [.int (h.after : Nat), .ref d, vb]) ∧ H0 d = some (.dK [(.inr h.o.s, .ref e)]) ∧ H0 e = some (.tup [.int (h.cl : Nat), .bl false]) ∧ BdAt H h.bd vb
def RHdO (H0 H : Hp) : Option RHd → V → Prop
  | none, v => v = .non
  | some h, v => RHdAt H0 H h v
theorem RHdO.mono {H0 H H' : Hp} (t : Tx H H') : ∀ {h : Option RHd} {v : V}, RHdO H0 H h v → RHdO H0 H' h v
  | none, _, h => h
  | some _, _, ⟨q, d, e, vb, e1, h1, h2, h3, h4⟩ => ⟨q, d, e, vb, e1, t _ _ h1, h2, h3, h4.mono t⟩
def tblOf : Option RHd → List (L2.Key × V)
  | none => []
  | some h => [(.inr h.o.s, .int 0)]
def kindI : Option RHd → Int
  | none => 0
  | some _ => 1
abbrev RP : Type := Option RHd × List RF
def RPcs (PC p : Addr) (H0 H : Hp) : List RP → List V → List Addr → Prop
  | [], vs, fls => vs = [] ∧ fls = []
  | (h, fr) :: rest, vs, fls => ∃ q dq fl tb vs' fls' vh fs, vs = .ref q :: vs' ∧ fls = fl :: fls' ∧ q ≠ p ∧ H q = some (.ins PC dq (flPiece (.int (kindI h)) vh (.ref fl) (.int 0) (.ref tb))) ∧ RHdO H0 H h vh ∧ H fl = some (.lst fs.reverse) ∧ Rel2 (RFAt H0 H) fr fs ∧ H tb = some (.dK (tblOf h)) ∧ RPcs PC p H0 H rest vs' fls'
theorem RPcs.mono {PC p : Addr} {H0 H H' : Hp} (k : Kr p H H') : ∀ {ps : List RP} {vs : List V} {fls : List Addr}, RPcs PC p H0 H ps vs fls → (∀ fl ∈ fls, ∀ xs, H fl = some (.lst xs) → H' fl = some (.lst xs)) → RPcs PC p H0 H' ps vs fls
  | [], _, _, h, _ => h
  | (h, fr) :: rest, _, _, ⟨q, dq, fl, tb, vs', fls', vh, fs, e1, e2, n, a, b, c, d, e, r⟩, m => ⟨q, dq, fl, tb, vs', fls', vh, fs, e1, e2, n, k.ins a n, b.mono k.tx, m fl (by rw [e2]; exact List.mem_cons_self) _ c, d.mono fun _ _ z => z.mono k.tx, k.dk e, r.mono k fun x hx => m x (by rw [e2]; exact List.mem_cons_of_mem _ hx)⟩
theorem RPcs.len {PC p : Addr} {H0 H : Hp} : ∀ {ps : List RP} {vs : List V} {fls : List Addr}, RPcs PC p H0 H ps vs fls → ps.length = vs.length
  | [], _, _, ⟨e, _⟩ => by rw [e]; rfl
  | (h, fr) :: rest, _, _, ⟨q, dq, fl, tb, vs', fls', vh, fs, e1, e2, n, a, b, c, d, e, r⟩ => by rw [e1, List.length_cons, List.length_cons, r.len]
theorem RPcs.lst {PC p : Addr} {H0 H : Hp} : ∀ {ps : List RP} {vs : List V} {fls : List Addr}, RPcs PC p H0 H ps vs fls → ∀ fl ∈ fls, ∃ xs, H fl = some (.lst xs)
  | [], _, _, ⟨_, e⟩, fl, h => by rw [e] at h; cases h
  | (_, fr) :: rest, _, _, ⟨q, dq, fl, tb, vs', fls', vh, fs, e1, e2, n, a, b, c, d, e, r⟩, x, hx => by
    rw [e2] at hx
    rcases List.mem_cons.mp hx with rfl | hx
    · exact ⟨_, c⟩
    · exact r.lst x hx
structure RS where
  rows : List Rw
  at_ : Nat
  bd : Bd
  ops : List Int
  pcs : List RP
  left : Nat
  out : List Int
  room : Nat
  en : Option En
def rDeliver (code : List (List Rw)) (i : Int) (s : RS) : Option RS := match s.pcs with
  | (h, f :: fr) :: rest => if 900 < f.ops.length then none else some { s with rows := f.rows, at_ := f.at_, bd := f.bd, ops := i :: f.ops, pcs := (h, fr) :: rest }
  | (none, []) :: _ => some { s with en := some (.val i) }
  | (some h, []) :: rest => match code[h.after]? with
    | some rows => some { s with rows := rows, at_ := 0, bd := .cons (.int i) h.bd, ops := [], pcs := rest }
    | none => none
  | [] => none
def rAsk (code : List (List Rw)) (o : Nm) (s : RS) : Option RS := match s.ops with
  | [] => none
  | i :: ops => match s.left with
    | 0 => none
    | l + 1 => match s.pcs with
      | (none, _) :: _ => some { s with ops := ops, left := l, en := some (.unh o) }
      | (some h, fr) :: rest => if h.o = o then (if 900 < fr.length then none else match code[h.cl]? with
        | some rows => some { s with rows := rows, at_ := 0, bd := .cons .kept (.cons (.int i) h.bd), ops := [], left := l, pcs := rest }
        | none => none) else none
      | [] => none
def tblFits : Option RHd → Nm → Bool
  | none, _ => true
  | some h, o => decide (h.o = o)
def rHandle (code : List (List Rw)) (a b c : Nat) (o : Nm) (s : RS) : Option RS := match s.pcs with
  | (h, fr) :: rest => if 900 < fr.length then none else if 800 < rest.length then none else if tblFits h o = true then (match code[a]? with
    | some rows => some { s with rows := rows, at_ := 0, ops := [], pcs := (some ⟨b, c, s.bd, o⟩, []) :: (h, ⟨s.rows, s.at_, s.bd, s.ops⟩ :: fr) :: rest }
    | none => none) else none
  | [] => none
def rDo (code : List (List Rw)) (r : Rw) (s : RS) : Option RS := match r with
  | .int i => if 900 < s.ops.length then none else some { s with ops := i :: s.ops }
  | .load n => match bdGet n s.bd with
    | some (.int i) => if 900 < s.ops.length then none else if 900 < n then none else some { s with ops := i :: s.ops }
    | _ => none
  | .bind => match s.ops with
    | i :: r => some { s with ops := r, bd := .cons (.int i) s.bd }
    | [] => none
  | .print => match s.ops with
    | i :: r => (match s.room with
      | m + 1 => some { s with ops := r, out := s.out ++ [i], room := m }
      | 0 => none)
    | [] => none
  | .op g => match s.ops with
    | j :: i :: r => if 900 < r.length then none else some { s with ops := opv g i j :: r }
    | _ => none
  | .ask o => rAsk code o s
  | .handle a b c o => rHandle code a b c o s
  | .ret => match s.ops with
    | i :: r => rDeliver code i { s with ops := r }
    | [] => none
def rStep (code : List (List Rw)) (s : RS) : Option RS := match s.rows[s.at_]? with
  | some r => rDo code r { s with at_ := s.at_ + 1 }
  | none => none
def RunsR : Nat → List (List Rw) → RS → RS → Prop
  | 0, _, s, f => s.en.isSome = true ∧ f = s
  | m + 1, code, s, f => s.en = none ∧ ∃ s', rStep code s = some s' ∧ RunsR m code s' f
/-- all of the state but the runner's own fields -/
structure RPre (PC : Addr) (H0 H : Hp) (p : Addr) (code : List (List Rw)) (st : RS) (bl lp lo pl rl : Addr) (vb ve : V) (vs os : List V) (fls : List Addr) : Prop where
  s0 : Same H0 H
  np : H0 p = none
  nl : H0 lp = none
  no : H0 lo = none
  nq : H0 pl = none
  nf : ∀ fl ∈ fls, H0 fl = none
  nd : (lp :: lo :: pl :: fls).Nodup
  ip : ∃ C dx fs, H p = some (.ins C dx fs)
  pr : H lp = some (.lst (st.out.map V.int))
  op : H lo = some (.lst os.reverse)
  pi : H pl = some (.lst vs.reverse)
  cod : CodeAt H0 code bl
  row : RowsAt H0 st.rows rl
  bd : BdAt H st.bd vb
  opr : Rel2 (IntAt H) st.ops os
  en : EnO H st.en ve
  pc : RPcs PC p H0 H st.pcs vs fls
  pb : st.out.length + st.room ≤ 1000
structure RAt (RC PC : Addr) (H0 H : Hp) (p : Addr) (code : List (List Rw)) (st : RS) (dx bl lp lo pl rl : Addr) (vb ve : V) (vs os : List V) (fls : List Addr) (kept : Int) : Prop where
  pre : RPre PC H0 H p code st bl lp lo pl rl vb ve vs os fls
  ob : H p = some (.ins RC dx (flRunner (.ref bl) (.int (st.left : Nat)) (.ref lp) (.int kept) ve (.ref pl) (.ref rl) (.int (st.at_ : Nat)) vb (.ref lo)))
def RO (RC PC : Addr) (H0 H : Hp) (p : Addr) (code : List (List Rw)) (st : RS) : Prop := ∃ dx bl lp lo pl rl vb ve vs os fls kept, RAt RC PC H0 H p code st dx bl lp lo pl rl vb ve vs os fls kept
section
variable {PC RC p dx bl lp lo pl rl : Addr} {H0 H : Hp} {code : List (List Rw)} {st : RS} {vb ve : V} {vs os : List V} {fls : List Addr} {kept : Int}
theorem RPre.nep (R : RPre PC H0 H p code st bl lp lo pl rl vb ve vs os fls) : ∀ fl ∈ fls, fl ≠ p := fun fl h z => by
  obtain ⟨xs, e⟩ := R.pc.lst fl h
  obtain ⟨C, dx, fs, e2⟩ := R.ip
  rw [z, e2] at e
  cases e
theorem RPre.ext {H' : Hp} (R : RPre PC H0 H p code st bl lp lo pl rl vb ve vs os fls) (s : Same H H') : RPre PC H0 H' p code st bl lp lo pl rl vb ve vs os fls :=
  ⟨R.s0.trans s, R.np, R.nl, R.no, R.nq, R.nf, R.nd, by obtain ⟨C, d, f, e⟩ := R.ip; exact ⟨C, d, f, s _ _ e⟩, s _ _ R.pr, s _ _ R.op, s _ _ R.pi, R.cod, R.row, R.bd.mono (.same s), R.opr.mono fun _ _ z => z.mono (.same s), R.en.mono (.same s), R.pc.mono (.same s) fun _ _ _ z => s _ _ z, R.pb⟩
theorem RAt.ext {H' : Hp} (R : RAt RC PC H0 H p code st dx bl lp lo pl rl vb ve vs os fls kept) (s : Same H H') : RAt RC PC H0 H' p code st dx bl lp lo pl rl vb ve vs os fls kept := ⟨R.pre.ext s, s _ _ R.ob⟩
theorem RPre.put {a : HO} (R : RPre PC H0 H p code st bl lp lo pl rl vb ve vs os fls) (h : a = .ins RC dx (flRunner (.ref bl) (.int (st.left : Nat)) (.ref lp) (.int kept) ve (.ref pl) (.ref rl) (.int (st.at_ : Nat)) vb (.ref lo))) :
    RAt RC PC H0 (upd H p a) p code st dx bl lp lo pl rl vb ve vs os fls kept := by
  obtain ⟨C, d, f, e⟩ := R.ip
  have k : Kr p H (upd H p a) := .self e
  have n1 : lp ≠ p := (ne_il e R.pr).symm
  have n2 : lo ≠ p := (ne_il e R.op).symm
  have n3 : pl ≠ p := (ne_il e R.pi).symm
  subst h
  exact ⟨⟨same_upd R.s0 R.np, R.np, R.nl, R.no, R.nq, R.nf, R.nd, ⟨_, _, _, upd_same⟩, by rw [upd_ne n1]; exact R.pr, by rw [upd_ne n2]; exact R.op, by rw [upd_ne n3]; exact R.pi, R.cod, R.row, R.bd.mono k.tx, R.opr.mono fun _ _ z => z.mono k.tx, R.en.mono k.tx, R.pc.mono k fun fl h xs z => by rw [upd_ne (R.nep fl h)]; exact z, R.pb⟩, upd_same⟩
/-- the operands are changed -/
theorem RAt.opsTo {is : List Int} {us : List V} (R : RAt RC PC H0 H p code st dx bl lp lo pl rl vb ve vs os fls kept) (h : Rel2 (IntAt H) is us) :
    RAt RC PC H0 (upd H lo (.lst us.reverse)) p code { st with ops := is } dx bl lp lo pl rl vb ve vs us fls kept := by
  have k : Kr p H (upd H lo (.lst us.reverse)) := .lst R.pre.op
  have nd := List.nodup_cons.mp R.pre.nd
  have nd2 := List.nodup_cons.mp nd.2
  have n0 := ne_il R.ob R.pre.op
  have n1 : lp ≠ lo := fun z => nd.1 (by rw [z]; exact List.mem_cons_self)
  have n2 : pl ≠ lo := fun z => nd2.1 (by rw [z]; exact List.mem_cons_self)
  have P := R.pre
  exact ⟨⟨same_upd P.s0 P.no, P.np, P.nl, P.no, P.nq, P.nf, P.nd, ⟨_, _, _, by rw [upd_ne n0]; exact R.ob⟩, by rw [upd_ne n1]; exact P.pr, upd_same, by rw [upd_ne n2]; exact P.pi, P.cod, P.row, P.bd.mono k.tx, h.mono fun _ _ z => z.mono k.tx, P.en.mono k.tx, P.pc.mono k fun fl h xs z => by rw [upd_ne (fun y => nd2.1 (by rw [← y]; exact List.mem_cons_of_mem _ h))]; exact z, P.pb⟩, by rw [upd_ne n0]; exact R.ob⟩
end
end AF

namespace AF
open PySem PySem.Spec PyProof.Rows L2
local macro_rules | `(tactic| walk_at "skip") => `(tactic| repeat (refine ⟨_, rfl, rfl, _, rfl, br_f (by decide +kernel) ?_⟩))
local macro_rules | `(tactic| walk_at "hit") => `(tactic| refine ⟨_, rfl, rfl, _, rfl, br_t (by decide +kernel) ?_⟩)
set_option hygiene false in
local macro_rules | `(tactic| walk_at "Run.current") => `(tactic| refine ⟨_, rfl, _, _, _, _, _, rfl, hO, T.Run.cl, T.na_Run_current, lk_Run_current, ?_⟩)
set_option hygiene false in
local macro_rules | `(tactic| walk_at "Run.frames") => `(tactic| refine ⟨_, rfl, _, _, _, _, _, rfl, hO, T.Run.cl, T.na_Run_frames, lk_Run_frames, ?_⟩)
set_option hygiene false in
local macro_rules | `(tactic| walk_at "Run.left") => `(tactic| refine ⟨_, rfl, _, _, _, _, _, rfl, hO, T.Run.cl, T.na_Run_left, lk_Run_left, ?_⟩)
set_option hygiene false in
local macro_rules | `(tactic| walk_at "Run.prints") => `(tactic| refine ⟨_, rfl, _, _, _, _, _, rfl, hO, T.Run.cl, T.na_Run_prints, lk_Run_prints, ?_⟩)
set_option hygiene false in
local macro_rules | `(tactic| walk_at "Run.end") => `(tactic| refine ⟨_, rfl, _, _, _, _, _, rfl, hO, T.Run.cl, T.na_Run_end, lk_Run_end, ?_⟩)
set_option hygiene false in
local macro_rules | `(tactic| walk_at "Machine.left") => `(tactic| refine ⟨_, rfl, _, _, _, _, _, rfl, hO, T.Machine.cl, T.na_Machine_left, lk_Machine_left, ?_⟩)
set_option hygiene false in
local macro_rules | `(tactic| walk_at "Machine.prints") => `(tactic| refine ⟨_, rfl, _, _, _, _, _, rfl, hO, T.Machine.cl, T.na_Machine_prints, lk_Machine_prints, ?_⟩)
set_option hygiene false in
local macro_rules | `(tactic| walk_at "Machine.pieces") => `(tactic| refine ⟨_, rfl, _, _, _, _, _, rfl, hO, T.Machine.cl, T.na_Machine_pieces, lk_Machine_pieces, ?_⟩)
set_option hygiene false in
local macro_rules | `(tactic| walk_at "Machine.kept") => `(tactic| refine ⟨_, rfl, _, _, _, _, _, rfl, hO, T.Machine.cl, T.na_Machine_kept, lk_Machine_kept, ?_⟩)
set_option hygiene false in
local macro_rules | `(tactic| walk_at "Machine.most") => `(tactic| refine ⟨_, rfl, _, _, _, _, _, rfl, hO, T.Machine.cl, T.na_Machine_most, lk_Machine_most, ?_⟩)
set_option hygiene false in
local macro_rules | `(tactic| walk_at "Piece.kind") => `(tactic| refine ⟨_, rfl, _, _, _, _, _, rfl, hO, T.Piece.cl, T.na_Piece_kind, lk_Piece_kind, ?_⟩)
set_option hygiene false in
local macro_rules | `(tactic| walk_at "Piece.handler") => `(tactic| refine ⟨_, rfl, _, _, _, _, _, rfl, hO, T.Piece.cl, T.na_Piece_handler, lk_Piece_handler, ?_⟩)
set_option hygiene false in
local macro_rules | `(tactic| walk_at "Piece.frames") => `(tactic| refine ⟨_, rfl, _, _, _, _, _, rfl, hO, T.Piece.cl, T.na_Piece_frames, lk_Piece_frames, ?_⟩)
set_option hygiene false in
local macro_rules | `(tactic| walk_at "Piece.distance") => `(tactic| refine ⟨_, rfl, _, _, _, _, _, rfl, hO, T.Piece.cl, T.na_Piece_distance, lk_Piece_distance, ?_⟩)
set_option hygiene false in
local macro_rules | `(tactic| walk_at "Piece.table") => `(tactic| refine ⟨_, rfl, _, _, _, _, _, rfl, hO, T.Piece.cl, T.na_Piece_table, lk_Piece_table, ?_⟩)
set_option hygiene false in
local macro_rules | `(tactic| walk_at "Runner.blocks") => `(tactic| refine ⟨_, rfl, _, _, _, _, _, rfl, hO, T.Runner.cl, T.na_Runner_blocks, lk_Runner_blocks, ?_⟩)
set_option hygiene false in
local macro_rules | `(tactic| walk_at "Runner.left") => `(tactic| refine ⟨_, rfl, _, _, _, _, _, rfl, hO, T.Runner.cl, T.na_Runner_left, lk_Runner_left, ?_⟩)
set_option hygiene false in
local macro_rules | `(tactic| walk_at "Runner.prints") => `(tactic| refine ⟨_, rfl, _, _, _, _, _, rfl, hO, T.Runner.cl, T.na_Runner_prints, lk_Runner_prints, ?_⟩)
set_option hygiene false in
local macro_rules | `(tactic| walk_at "Runner.kept") => `(tactic| refine ⟨_, rfl, _, _, _, _, _, rfl, hO, T.Runner.cl, T.na_Runner_kept, lk_Runner_kept, ?_⟩)
set_option hygiene false in
local macro_rules | `(tactic| walk_at "Runner.end") => `(tactic| refine ⟨_, rfl, _, _, _, _, _, rfl, hO, T.Runner.cl, T.na_Runner_end, lk_Runner_end, ?_⟩)
set_option hygiene false in
local macro_rules | `(tactic| walk_at "Runner.pieces") => `(tactic| refine ⟨_, rfl, _, _, _, _, _, rfl, hO, T.Runner.cl, T.na_Runner_pieces, lk_Runner_pieces, ?_⟩)
set_option hygiene false in
local macro_rules | `(tactic| walk_at "Runner.rows") => `(tactic| refine ⟨_, rfl, _, _, _, _, _, rfl, hO, T.Runner.cl, T.na_Runner_rows, lk_Runner_rows, ?_⟩)
set_option hygiene false in
local macro_rules | `(tactic| walk_at "Runner.at") => `(tactic| refine ⟨_, rfl, _, _, _, _, _, rfl, hO, T.Runner.cl, T.na_Runner_at, lk_Runner_at, ?_⟩)
set_option hygiene false in
local macro_rules | `(tactic| walk_at "Runner.bindings") => `(tactic| refine ⟨_, rfl, _, _, _, _, _, rfl, hO, T.Runner.cl, T.na_Runner_bindings, lk_Runner_bindings, ?_⟩)
set_option hygiene false in
local macro_rules | `(tactic| walk_at "Runner.operands") => `(tactic| refine ⟨_, rfl, _, _, _, _, _, rfl, hO, T.Runner.cl, T.na_Runner_operands, lk_Runner_operands, ?_⟩)
set_option hygiene false in
local macro_rules | `(tactic| walk_at "Code.blocks") => `(tactic| refine ⟨_, rfl, _, _, _, _, _, rfl, hO, T.Code.cl, T.na_Code_blocks, lk_Code_blocks, ?_⟩)
set_option hygiene false in
local macro_rules | `(tactic| walk_at "Compiler.blocks") => `(tactic| refine ⟨_, rfl, _, _, _, _, _, rfl, hO, T.Compiler.cl, T.na_Compiler_blocks, lk_Compiler_blocks, ?_⟩)
set_option hygiene false in
local macro_rules | `(tactic| walk_at "Compiler.queue") => `(tactic| refine ⟨_, rfl, _, _, _, _, _, rfl, hO, T.Compiler.cl, T.na_Compiler_queue, lk_Compiler_queue, ?_⟩)
theorem upd_sh {H : Hp} {p a : Addr} {x y z : HO} (n : a ≠ p) : upd (upd (upd H p x) a y) p z = upd (upd H a y) p z := by
  funext b
  by_cases h1 : b = p
  · subst h1
    rw [upd_same, upd_same]
  · rw [upd_ne h1, upd_ne h1]
    by_cases h2 : b = a
    · subst h2
      rw [upd_same, upd_same]
    · rw [upd_ne h2, upd_ne h2, upd_ne h1]
section
variable {P : Program} {w : World} {K : PySem.W.Frag} {mg : Str → Option Value} {base : Heap}
abbrev eFs (rl lo : Addr) (vb : V) (fs : List (Str × V)) : List (Str × V) := putF "operands" (.ref lo) (putF "bindings" vb (putF "at" (.int 0) (putF "rows" (.ref rl) fs)))
theorem putF_len {f : Str} {y : V} : ∀ {fs : List (Str × V)}, (putF f y fs).length ≤ fs.length + 1
  | [] => Nat.le_refl _
  | (g, z) :: r => by
    unfold putF
    split
    · simp
    · have := putF_len (f := f) (y := y) (fs := r)
      simp only [List.length_cons]
      omega
def spEnter (K : PySem.W.Frag) : Sp := fun vs H Q _ => ∃ (p dx bl rl : Addr) (fs : List (Str × V)) (rvs : List V) (b : Nat) (vb : V), vs = [.ref p, .int (b : Nat), vb] ∧ H p = some (.ins (He.ga K "Runner") dx fs) ∧ fs.lookup ("blocks" : Str) = some (.ref bl) ∧ H bl = some (.lst rvs) ∧ rvs[b]? = some (.ref rl) ∧ fs.length ≤ 900 ∧
  ∀ lo, H lo = none → Q .non (upd (upd H lo (.lst [])) p (.ins (He.ga K "Runner") dx (eFs rl lo vb fs)))
theorem ok_enter (T : Fx K w mg) : FnOk P w K mg base CX0 1 (He.ma K (He.ga K "Runner") "enter") (fdOf K ("Runner", some "enter")) ["self", "block", "bindings"] (spEnter K) := by
  refine T.Runner_enter.F.ok sc_Runner_enter (fun vs H Q E h => ?_) (fun cdv A outer s H vs Q E hr h => ?_)
  · obtain ⟨_, _, _, _, _, _, _, _, rfl, _⟩ := h
    rfl
  · obtain ⟨p, dx, bl, rl, fs, rvs, b, vb, rfl, hp, hbl, hb, hrb, hl, k⟩ := h
    refine ⟨_, (pss_cons (ps_fld (pv 0) (pe_ix ix_list (pe_fld (pv 0) rfl) (pv 1) (fun _ _ => rfl)) rfl)
      (pss_cons (ps_fld (pv 0) pe_int rfl)
      (pss_cons (ps_fld (pv 0) (pv 2) rfl)
      (pss_one (ps_fld (pv 0) (pe_lst pa_nil) rfl))))), ?_⟩
    have l1 := putF_len (f := "rows") (y := .ref rl) (fs := fs)
    have l2 := putF_len (f := "at") (y := .int 0) (fs := putF "rows" (.ref rl) fs)
    have l3 := putF_len (f := "bindings") (y := vb) (fs := putF "at" (.int 0) (putF "rows" (.ref rl) fs))
    refine ⟨_, rfl, p, _, dx, _, _, rfl, hp, T.Runner.cl, T.na_Runner_blocks, hbl, _, rfl, bl, _, _, _, rfl, rfl, SqL.of hb, atI_nat hrb, ?_⟩
    refine ⟨_, rfl, p, _, dx, _, rfl, hp, T.Runner.cl, T.na_Runner_rows, by omega, ?_⟩
    refine ⟨_, rfl, p, _, dx, _, rfl, upd_same, T.Runner.cl, T.na_Runner_at, by omega, ?_⟩
    rw [upd_upd]
    refine ⟨_, rfl, _, rfl, p, _, dx, _, rfl, upd_same, T.Runner.cl, T.na_Runner_bindings, by omega, ?_⟩
    rw [upd_upd]
    refine ⟨Nat.zero_le _, fun lo nlo => ?_⟩
    have ne : lo ≠ p := fun z => by rw [z, upd_same] at nlo; cases nlo
    rw [upd_ne ne] at nlo
    refine ⟨_, rfl, p, _, dx, _, rfl, by rw [upd_ne ne.symm]; exact upd_same, T.Runner.cl, T.na_Runner_operands, by omega, ?_⟩
    rw [upd_sh ne]
    exact k lo nlo
def spPInit (K : PySem.W.Frag) : Sp := fun vs H Q _ => ∃ (p dx l : Addr) (vk vh vd : V), vs = [.ref p, vk, vh, .ref l, vd] ∧ H p = some (.ins (He.ga K "Piece") dx []) ∧ H l = some (.lst []) ∧
  ∀ fl tb, H fl = none → H tb = none → fl ≠ tb → Q .non (upd (upd (upd H fl (.lst [])) tb (.dK [])) p (.ins (He.ga K "Piece") dx (flPiece vk vh (.ref fl) vd (.ref tb))))
theorem ok_PInit (T : Fx K w mg) : FnOk P w K mg base CX0 1 (He.ma K (He.ga K "Piece") "__init__") (fdOf K ("Piece", some "__init__")) ["self", "kind", "handler", "frames", "distance"] (spPInit K) := by
  refine T.Piece__init__.F.ok sc_Piece__init__ (fun vs H Q E h => ?_) (fun cdv A outer s H vs Q E hr h => ?_)
  · obtain ⟨_, _, _, _, _, _, rfl, _⟩ := h
    rfl
  · obtain ⟨p, dx, l, vk, vh, vd, rfl, hp, hl, k⟩ := h
    refine ⟨_, (pss_cons (ps_fld (pv 0) (pv 1) rfl)
      (pss_cons (ps_fld (pv 0) (pv 2) rfl)
      (pss_cons (ps_fld (pv 0) (pe_callTy call_list_of (by rfl) T.n_list (by decide +kernel) (pa_cons (pv 3) pa_nil)) rfl)
      (pss_cons (ps_fld (pv 0) (pv 4) rfl)
      (pss_one (ps_fld (pv 0) pe_dnewK rfl)))))), ?_⟩
    refine ⟨_, rfl, _, rfl, p, _, dx, _, rfl, hp, T.Piece.cl, T.na_Piece_kind, li_Piece_0, ?_⟩
    rw [show putF "kind" vk [] = inPiece1 vk from pi_Piece_0]
    refine ⟨_, rfl, _, rfl, p, _, dx, _, rfl, upd_same, T.Piece.cl, T.na_Piece_handler, li_Piece_1, ?_⟩
    rw [upd_upd, show putF "handler" vh (inPiece1 vk) = inPiece2 vk vh from pi_Piece_1]
    have npl : l ≠ p := (ne_il hp hl).symm
    refine ⟨_, rfl, l, _, rfl, .inl (SqL.of (by rw [upd_ne npl]; exact hl)), fun fl nfl => ?_⟩
    have ne1 : fl ≠ p := fun z => by rw [z, upd_same] at nfl; cases nfl
    rw [upd_ne ne1] at nfl
    refine ⟨_, rfl, p, _, dx, _, rfl, by rw [upd_ne ne1.symm]; exact upd_same, T.Piece.cl, T.na_Piece_frames, li_Piece_2, ?_⟩
    rw [upd_sh ne1, show putF "frames" (V.ref fl) (inPiece2 vk vh) = inPiece3 vk vh (.ref fl) from pi_Piece_2]
    refine ⟨_, rfl, _, rfl, p, _, dx, _, rfl, upd_same, T.Piece.cl, T.na_Piece_distance, li_Piece_3, ?_⟩
    rw [upd_upd, show putF "distance" vd (inPiece3 vk vh (.ref fl)) = inPiece4 vk vh (.ref fl) vd from pi_Piece_3]
    intro tb ntb
    have ne2 : tb ≠ p := fun z => by rw [z, upd_same] at ntb; cases ntb
    rw [upd_ne ne2] at ntb
    have ne3 : tb ≠ fl := fun z => by rw [z, upd_same] at ntb; cases ntb
    rw [upd_ne ne3] at ntb
    refine ⟨_, rfl, p, _, dx, _, rfl, by rw [upd_ne ne2.symm]; exact upd_same, T.Piece.cl, T.na_Piece_table, li_Piece_4, ?_⟩
    rw [upd_sh ne2, show putF "table" (V.ref tb) (inPiece4 vk vh (.ref fl) vd) = inPiece5 vk vh (.ref fl) vd (.ref tb) from pi_Piece_4]
    exact k fl tb nfl ntb ne3.symm
end
end AF

namespace AF
open PySem PySem.Spec PyProof.Rows L2
local macro_rules | `(tactic| walk_at "skip") => `(tactic| repeat (refine ⟨_, rfl, rfl, _, rfl, br_f (by decide +kernel) ?_⟩))
local macro_rules | `(tactic| walk_at "hit") => `(tactic| refine ⟨_, rfl, rfl, _, rfl, br_t (by decide +kernel) ?_⟩)
set_option hygiene false in
local macro_rules | `(tactic| walk_at "Run.current") => `(tactic| refine ⟨_, rfl, _, _, _, _, _, rfl, hO, T.Run.cl, T.na_Run_current, lk_Run_current, ?_⟩)
set_option hygiene false in
local macro_rules | `(tactic| walk_at "Run.frames") => `(tactic| refine ⟨_, rfl, _, _, _, _, _, rfl, hO, T.Run.cl, T.na_Run_frames, lk_Run_frames, ?_⟩)
set_option hygiene false in
local macro_rules | `(tactic| walk_at "Run.left") => `(tactic| refine ⟨_, rfl, _, _, _, _, _, rfl, hO, T.Run.cl, T.na_Run_left, lk_Run_left, ?_⟩)
set_option hygiene false in
local macro_rules | `(tactic| walk_at "Run.prints") => `(tactic| refine ⟨_, rfl, _, _, _, _, _, rfl, hO, T.Run.cl, T.na_Run_prints, lk_Run_prints, ?_⟩)
set_option hygiene false in
local macro_rules | `(tactic| walk_at "Run.end") => `(tactic| refine ⟨_, rfl, _, _, _, _, _, rfl, hO, T.Run.cl, T.na_Run_end, lk_Run_end, ?_⟩)
set_option hygiene false in
local macro_rules | `(tactic| walk_at "Machine.left") => `(tactic| refine ⟨_, rfl, _, _, _, _, _, rfl, hO, T.Machine.cl, T.na_Machine_left, lk_Machine_left, ?_⟩)
set_option hygiene false in
local macro_rules | `(tactic| walk_at "Machine.prints") => `(tactic| refine ⟨_, rfl, _, _, _, _, _, rfl, hO, T.Machine.cl, T.na_Machine_prints, lk_Machine_prints, ?_⟩)
set_option hygiene false in
local macro_rules | `(tactic| walk_at "Machine.pieces") => `(tactic| refine ⟨_, rfl, _, _, _, _, _, rfl, hO, T.Machine.cl, T.na_Machine_pieces, lk_Machine_pieces, ?_⟩)
set_option hygiene false in
local macro_rules | `(tactic| walk_at "Machine.kept") => `(tactic| refine ⟨_, rfl, _, _, _, _, _, rfl, hO, T.Machine.cl, T.na_Machine_kept, lk_Machine_kept, ?_⟩)
set_option hygiene false in
local macro_rules | `(tactic| walk_at "Machine.most") => `(tactic| refine ⟨_, rfl, _, _, _, _, _, rfl, hO, T.Machine.cl, T.na_Machine_most, lk_Machine_most, ?_⟩)
set_option hygiene false in
local macro_rules | `(tactic| walk_at "Piece.kind") => `(tactic| refine ⟨_, rfl, _, _, _, _, _, rfl, hO, T.Piece.cl, T.na_Piece_kind, lk_Piece_kind, ?_⟩)
set_option hygiene false in
local macro_rules | `(tactic| walk_at "Piece.handler") => `(tactic| refine ⟨_, rfl, _, _, _, _, _, rfl, hO, T.Piece.cl, T.na_Piece_handler, lk_Piece_handler, ?_⟩)
set_option hygiene false in
local macro_rules | `(tactic| walk_at "Piece.frames") => `(tactic| refine ⟨_, rfl, _, _, _, _, _, rfl, hO, T.Piece.cl, T.na_Piece_frames, lk_Piece_frames, ?_⟩)
set_option hygiene false in
local macro_rules | `(tactic| walk_at "Piece.distance") => `(tactic| refine ⟨_, rfl, _, _, _, _, _, rfl, hO, T.Piece.cl, T.na_Piece_distance, lk_Piece_distance, ?_⟩)
set_option hygiene false in
local macro_rules | `(tactic| walk_at "Piece.table") => `(tactic| refine ⟨_, rfl, _, _, _, _, _, rfl, hO, T.Piece.cl, T.na_Piece_table, lk_Piece_table, ?_⟩)
set_option hygiene false in
local macro_rules | `(tactic| walk_at "Runner.blocks") => `(tactic| refine ⟨_, rfl, _, _, _, _, _, rfl, hO, T.Runner.cl, T.na_Runner_blocks, lk_Runner_blocks, ?_⟩)
set_option hygiene false in
local macro_rules | `(tactic| walk_at "Runner.left") => `(tactic| refine ⟨_, rfl, _, _, _, _, _, rfl, hO, T.Runner.cl, T.na_Runner_left, lk_Runner_left, ?_⟩)
set_option hygiene false in
local macro_rules | `(tactic| walk_at "Runner.prints") => `(tactic| refine ⟨_, rfl, _, _, _, _, _, rfl, hO, T.Runner.cl, T.na_Runner_prints, lk_Runner_prints, ?_⟩)
set_option hygiene false in
local macro_rules | `(tactic| walk_at "Runner.kept") => `(tactic| refine ⟨_, rfl, _, _, _, _, _, rfl, hO, T.Runner.cl, T.na_Runner_kept, lk_Runner_kept, ?_⟩)
set_option hygiene false in
local macro_rules | `(tactic| walk_at "Runner.end") => `(tactic| refine ⟨_, rfl, _, _, _, _, _, rfl, hO, T.Runner.cl, T.na_Runner_end, lk_Runner_end, ?_⟩)
set_option hygiene false in
local macro_rules | `(tactic| walk_at "Runner.pieces") => `(tactic| refine ⟨_, rfl, _, _, _, _, _, rfl, hO, T.Runner.cl, T.na_Runner_pieces, lk_Runner_pieces, ?_⟩)
set_option hygiene false in
local macro_rules | `(tactic| walk_at "Runner.rows") => `(tactic| refine ⟨_, rfl, _, _, _, _, _, rfl, hO, T.Runner.cl, T.na_Runner_rows, lk_Runner_rows, ?_⟩)
set_option hygiene false in
local macro_rules | `(tactic| walk_at "Runner.at") => `(tactic| refine ⟨_, rfl, _, _, _, _, _, rfl, hO, T.Runner.cl, T.na_Runner_at, lk_Runner_at, ?_⟩)
set_option hygiene false in
local macro_rules | `(tactic| walk_at "Runner.bindings") => `(tactic| refine ⟨_, rfl, _, _, _, _, _, rfl, hO, T.Runner.cl, T.na_Runner_bindings, lk_Runner_bindings, ?_⟩)
set_option hygiene false in
local macro_rules | `(tactic| walk_at "Runner.operands") => `(tactic| refine ⟨_, rfl, _, _, _, _, _, rfl, hO, T.Runner.cl, T.na_Runner_operands, lk_Runner_operands, ?_⟩)
set_option hygiene false in
local macro_rules | `(tactic| walk_at "Code.blocks") => `(tactic| refine ⟨_, rfl, _, _, _, _, _, rfl, hO, T.Code.cl, T.na_Code_blocks, lk_Code_blocks, ?_⟩)
set_option hygiene false in
local macro_rules | `(tactic| walk_at "Compiler.blocks") => `(tactic| refine ⟨_, rfl, _, _, _, _, _, rfl, hO, T.Compiler.cl, T.na_Compiler_blocks, lk_Compiler_blocks, ?_⟩)
set_option hygiene false in
local macro_rules | `(tactic| walk_at "Compiler.queue") => `(tactic| refine ⟨_, rfl, _, _, _, _, _, rfl, hO, T.Compiler.cl, T.na_Compiler_queue, lk_Compiler_queue, ?_⟩)
theorem eFs_run {a0 a1 a2 a3 a4 a5 a6 a7 a8 a9 : V} {rl lo : Addr} {vb : V} : eFs rl lo vb (flRunner a0 a1 a2 a3 a4 a5 a6 a7 a8 a9) = flRunner a0 a1 a2 a3 a4 a5 (.ref rl) (.int 0) vb (.ref lo) := by
  unfold eFs
  rw [pf_Runner_rows, pf_Runner_at, pf_Runner_bindings, pf_Runner_operands]
theorem code_row {H0 : Hp} {code : List (List Rw)} {bvs : List V} {b : Nat} {rows : List Rw} (h : Rel2 (BlkAt [] H0) code bvs) (hc : code[b]? = some rows) : ∃ rl, bvs[b]? = some (.ref rl) ∧ RowsAt H0 rows rl := by
  obtain ⟨v, h1, a, xs, rfl, h2, h3, _⟩ := h.getL hc
  exact ⟨a, h1, xs, h2, h3⟩
section
variable {PC RC p dx bl lp lo pl rl : Addr} {H0 H : Hp} {code : List (List Rw)} {st : RS} {vb ve : V} {vs os : List V} {fls : List Addr} {kept : Int}
/-- other rows, bindings, operands -/
theorem RAt.load {rows : List Rw} {a : Nat} {rl' lo' : Addr} {bd' : Bd} {vb' : V} {is : List Int} {us : List V} (R : RAt RC PC H0 H p code st dx bl lp lo pl rl vb ve vs os fls kept) (hr : RowsAt H0 rows rl') (hb : BdAt H bd' vb') (ho : Rel2 (IntAt H) is us) (n : H lo' = none) :
    RPre PC H0 (upd H lo' (.lst us.reverse)) p code { st with rows := rows, at_ := a, bd := bd', ops := is } bl lp lo' pl rl' vb' ve vs us fls := by
  have s := same_new n (.lst us.reverse)
  have P := R.pre.ext s
  have nd := List.nodup_cons.mp P.nd
  have nd2 := List.nodup_cons.mp nd.2
  have n1 : lp ≠ lo' := ne_of_none R.pre.pr n
  have n2 : pl ≠ lo' := ne_of_none R.pre.pi n
  have n3 : lo' ∉ fls := fun z => by
    obtain ⟨xs, e⟩ := R.pre.pc.lst lo' z
    rw [n] at e; cases e
  refine ⟨P.s0, P.np, P.nl, R.pre.s0.free n, P.nq, P.nf, ?_, P.ip, P.pr, upd_same, P.pi, P.cod, hr, hb.mono (.same s), ho.mono fun _ _ z => z.mono (.same s), P.en, P.pc, P.pb⟩
  refine List.nodup_cons.mpr ⟨fun z => ?_, List.nodup_cons.mpr ⟨fun z => ?_, nd2.2⟩⟩
  · rcases List.mem_cons.mp z with z | z
    · exact n1 z
    · exact nd.1 (List.mem_cons_of_mem _ z)
  · rcases List.mem_cons.mp z with z | z
    · exact n2 z.symm
    · exact n3 z
/-- behind enter -/
theorem RAt.enter {rows : List Rw} {rl' lo' : Addr} {bd' : Bd} {vb' : V} {fs : List (Str × V)} (R : RAt RC PC H0 H p code st dx bl lp lo pl rl vb ve vs os fls kept) (hr : RowsAt H0 rows rl') (hb : BdAt H bd' vb') (n : H lo' = none) (hf : fs = flRunner (.ref bl) (.int (st.left : Nat)) (.ref lp) (.int kept) ve (.ref pl) (.ref rl) (.int (st.at_ : Nat)) vb (.ref lo)) :
    RAt RC PC H0 (upd (upd H lo' (.lst [])) p (.ins RC dx (eFs rl' lo' vb' fs))) p code { st with rows := rows, at_ := 0, bd := bd', ops := [] } dx bl lp lo' pl rl' vb' ve vs [] fls kept := by
  refine (R.load (us := []) hr hb .nil n).put ?_
  rw [hf, eFs_run]
  rfl
/-- the uppermost piece's frames are changed -/
theorem RAt.topTo {h : Option RHd} {fr fr' : List RF} {rest : List RP} {q dq fl tb : Addr} {vs' : List V} {fls' : List Addr} {vh : V} {fs fs' : List V} (R : RAt RC PC H0 H p code st dx bl lp lo pl rl vb ve (.ref q :: vs') os (fl :: fls') kept) (hp : st.pcs = (h, fr) :: rest)
    (nq : q ≠ p) (hq : H q = some (.ins PC dq (flPiece (.int (kindI h)) vh (.ref fl) (.int 0) (.ref tb)))) (hh : RHdO H0 H h vh) (hf : H fl = some (.lst fs.reverse)) (ht : H tb = some (.dK (tblOf h))) (hr : RPcs PC p H0 H rest vs' fls') (hr' : Rel2 (RFAt H0 H) fr' fs') :
    RAt RC PC H0 (upd H fl (.lst fs'.reverse)) p code { st with pcs := (h, fr') :: rest } dx bl lp lo pl rl vb ve (.ref q :: vs') os (fl :: fls') kept := by
  have k : Kr p H (upd H fl (.lst fs'.reverse)) := .lst hf
  have P := R.pre
  have nd := List.nodup_cons.mp P.nd
  have nd2 := List.nodup_cons.mp nd.2
  have nd3 := List.nodup_cons.mp nd2.2
  have nd4 := List.nodup_cons.mp nd3.2
  have n1 : lp ≠ fl := fun z => nd.1 (by rw [z]; simp)
  have n2 : lo ≠ fl := fun z => nd2.1 (by rw [z]; simp)
  have n3 : pl ≠ fl := fun z => nd3.1 (by rw [z]; simp)
  have n4 : p ≠ fl := ne_il R.ob hf
  have obF : (upd H fl (.lst fs'.reverse)) p = some (.ins RC dx (flRunner (.ref bl) (.int (st.left : Nat)) (.ref lp) (.int kept) ve (.ref pl) (.ref rl) (.int (st.at_ : Nat)) vb (.ref lo))) := by rw [upd_ne n4]; exact R.ob
  refine ⟨⟨same_upd P.s0 (P.nf fl List.mem_cons_self), P.np, P.nl, P.no, P.nq, P.nf, P.nd, ⟨_, _, _, obF⟩, by rw [upd_ne n1]; exact P.pr, by rw [upd_ne n2]; exact P.op, by rw [upd_ne n3]; exact P.pi, P.cod, P.row, P.bd.mono k.tx, P.opr.mono fun _ _ z => z.mono k.tx, P.en.mono k.tx, ?_, P.pb⟩, obF⟩
  exact ⟨q, dq, fl, tb, vs', fls', vh, fs', rfl, rfl, nq, k.ins hq nq, hh.mono k.tx, upd_same, hr'.mono fun _ _ z => z.mono k.tx, k.dk ht, hr.mono k fun x hx xs z => by rw [upd_ne (fun y => nd4.1 (by rw [← y]; exact hx))]; exact z⟩
/-- the uppermost piece is taken away -/
theorem RAt.popTo {rest : List RP} {q fl : Addr} {vs' : List V} {fls' : List Addr} (R : RAt RC PC H0 H p code st dx bl lp lo pl rl vb ve (.ref q :: vs') os (fl :: fls') kept) (hr : RPcs PC p H0 H rest vs' fls') :
    RAt RC PC H0 (upd H pl (.lst vs'.reverse)) p code { st with pcs := rest } dx bl lp lo pl rl vb ve vs' os fls' kept := by
  have P := R.pre
  have k : Kr p H (upd H pl (.lst vs'.reverse)) := .lst P.pi
  have nd := List.nodup_cons.mp P.nd
  have nd2 := List.nodup_cons.mp nd.2
  have nd3 := List.nodup_cons.mp nd2.2
  have nd4 := List.nodup_cons.mp nd3.2
  have n1 : lp ≠ pl := fun z => nd.1 (by rw [z]; simp)
  have n2 : lo ≠ pl := fun z => nd2.1 (by rw [z]; simp)
  have n4 : p ≠ pl := ne_il R.ob P.pi
  have obF : (upd H pl (.lst vs'.reverse)) p = some (.ins RC dx (flRunner (.ref bl) (.int (st.left : Nat)) (.ref lp) (.int kept) ve (.ref pl) (.ref rl) (.int (st.at_ : Nat)) vb (.ref lo))) := by rw [upd_ne n4]; exact R.ob
  refine ⟨⟨same_upd P.s0 P.nq, P.np, P.nl, P.no, P.nq, fun x hx => P.nf x (List.mem_cons_of_mem _ hx), ?_, ⟨_, _, _, obF⟩, by rw [upd_ne n1]; exact P.pr, by rw [upd_ne n2]; exact P.op, upd_same, P.cod, P.row, P.bd.mono k.tx, P.opr.mono fun _ _ z => z.mono k.tx, P.en.mono k.tx, hr.mono k fun x hx xs z => by rw [upd_ne (fun y => nd3.1 (by rw [← y]; exact List.mem_cons_of_mem _ hx))]; exact z, P.pb⟩, obF⟩
  refine List.nodup_cons.mpr ⟨fun z => ?_, List.nodup_cons.mpr ⟨fun z => ?_, List.nodup_cons.mpr ⟨fun z => nd3.1 (List.mem_cons_of_mem _ z), nd4.2⟩⟩⟩
  · rcases List.mem_cons.mp z with z | z
    · exact nd.1 (by rw [z]; simp)
    · rcases List.mem_cons.mp z with z | z
      · exact n1 z
      · exact nd.1 (List.mem_cons_of_mem _ (List.mem_cons_of_mem _ (List.mem_cons_of_mem _ z)))
  · rcases List.mem_cons.mp z with z | z
    · exact n2 z
    · exact nd2.1 (List.mem_cons_of_mem _ (List.mem_cons_of_mem _ z))
end
section
variable {P : Program} {w : World} {K : PySem.W.Frag} {mg : Str → Option Value} {base : Heap}
def spSave (K : PySem.W.Frag) : Sp := fun vs H Q _ => ∃ (H0 : Hp) (p dx bl lp lo pl rl : Addr) (code : List (List Rw)) (st : RS) (vb ve : V) (vs' os : List V) (fls : List Addr) (kept : Int) (h : Option RHd) (fr : List RF) (rest : List RP), vs = [.ref p] ∧ RAt (He.ga K "Runner") (He.ga K "Piece") H0 H p code st dx bl lp lo pl rl vb ve vs' os fls kept ∧
  st.pcs = (h, fr) :: rest ∧ fr.length ≤ 900 ∧ ∀ H', Kr p H H' → RAt (He.ga K "Runner") (He.ga K "Piece") H0 H' p code { st with pcs := (h, ⟨st.rows, st.at_, st.bd, st.ops⟩ :: fr) :: rest } dx bl lp lo pl rl vb ve vs' os fls kept → Q .non H'
theorem ok_save (T : Fx K w mg) : FnOk P w K mg base CX0 1 (He.ma K (He.ga K "Runner") "save") (fdOf K ("Runner", some "save")) ["self"] (spSave K) := by
  refine T.Runner_save.F.ok sc_Runner_save (fun vs H Q E h => ?_) (fun cdv A outer s H vs Q E hr h => ?_)
  · obtain ⟨_, _, _, _, _, _, _, _, _, _, _, _, _, _, _, _, _, _, _, rfl, _⟩ := h
    rfl
  · obtain ⟨H0, p, dx, bl, lp, lo, pl, rl, code, st, vb, ve, vs', os, fls, kept, h, fr, rest, rfl, R, hp, hfr, k⟩ := h
    refine ⟨_, (pss_cons (ps_set (i := 1) sc_Runner_save.nd rfl (Or.inl rfl) (pe_tup (pa_cons (pe_fld (pv 0) rfl) (pa_cons (pe_fld (pv 0) rfl) (pa_cons (pe_fld (pv 0) rfl) (pa_cons (pe_callTy call_tuple_of (by rfl) T.n_tuple (by decide +kernel) (pa_cons (pe_fld (pv 0) rfl) pa_nil)) pa_nil))))))
      (pss_one (ps_expr (pe_bm PySem.F.plainAttrs_list PySem.F.slot_list_append PySem.F.type_list_append mt_append (pe_fld (pe_ix ix_list (pe_fld (pv 0) rfl) (pe_un un_neg pe_int) (fun _ _ => rfl)) rfl) (pa_cons (pv 1) pa_nil))))), ?_⟩
    have hO := R.ob
    walk_at "Runner.rows"
    walk_at "Runner.at"
    walk_at "Runner.bindings"
    walk_at "Runner.operands"
    refine ⟨lo, _, rfl, .inl ⟨SqL.of R.pre.op, fun to nto => ⟨by show 4 ≤ sizeLine; decide, fun t nt => ?_⟩⟩⟩
    have s1 := same_new nto (.tup os.reverse)
    have s2 := same_new nt (.tup [V.ref rl, V.int (st.at_ : Nat), vb, V.ref to])
    have R2 := R.ext (s1.trans s2)
    have hf : RFAt H0 (upd (upd H to (.tup os.reverse)) t (.tup [V.ref rl, V.int (st.at_ : Nat), vb, V.ref to])) ⟨st.rows, st.at_, st.bd, st.ops⟩ (.ref t) := ⟨t, rl, vb, to, os, rfl, upd_same, R.pre.row, R2.pre.bd, s2 _ _ upd_same, R2.pre.opr⟩
    have kr : Kr p H (upd (upd H to (.tup os.reverse)) t (.tup [V.ref rl, V.int (st.at_ : Nat), vb, V.ref to])) := .same (s1.trans s2)
    generalize upd (upd H to (.tup os.reverse)) t (.tup [V.ref rl, V.int (st.at_ : Nat), vb, V.ref to]) = H2 at R2 hf kr
    have pc := R2.pre.pc
    rw [hp] at pc
    obtain ⟨q, dq, fl, tb, vs2, fls2, vh, fs, rfl, rfl, nq, hq, hh, hfl, hrr, ht, hrest⟩ := pc
    have hO := R2.ob
    walk_at "Runner.pieces"
    refine ⟨_, rfl, pl, _, _, _, rfl, rfl, SqL.of R2.pre.pi, last_rev, q, _, dq, _, _, rfl, hq, T.Piece.cl, T.na_Piece_frames, lk_Piece_frames, ?_⟩
    refine ⟨.inl ⟨rfl, _, SqL.of hfl⟩, _, rfl, fl, _, _, rfl, rfl, hfl, small1000 (by rw [List.length_reverse, ← hrr.len]; omega), ?_⟩
    have R3 := R2.topTo (fr' := ⟨st.rows, st.at_, st.bd, st.ops⟩ :: fr) (fs' := .ref t :: fs) hp nq hq hh hfl ht hrest (.cons hf hrr)
    rw [List.reverse_cons] at R3
    exact k _ (kr.trans (.lst hfl)) R3
def spRCounted (K : PySem.W.Frag) : Sp := fun vs H Q _ => ∃ (H0 : Hp) (p dx bl lp lo pl rl : Addr) (code : List (List Rw)) (st : RS) (vb ve : V) (vs' os : List V) (fls : List Addr) (kept : Int) (l : Nat), vs = [.ref p] ∧ RAt (He.ga K "Runner") (He.ga K "Piece") H0 H p code st dx bl lp lo pl rl vb ve vs' os fls kept ∧ st.left = l + 1 ∧
  ∀ H', Kr p H H' → RAt (He.ga K "Runner") (He.ga K "Piece") H0 H' p code { st with left := l } dx bl lp lo pl rl vb ve vs' os fls kept → Q (.bl true) H'
theorem ok_rcounted (T : Fx K w mg) : FnOk P w K mg base CX0 1 (He.ma K (He.ga K "Runner") "counted") (fdOf K ("Runner", some "counted")) ["self"] (spRCounted K) := by
  refine T.Runner_counted.F.ok sc_Runner_counted (fun vs H Q E h => ?_) (fun cdv A outer s H vs Q E hr h => ?_)
  · obtain ⟨_, _, _, _, _, _, _, _, _, _, _, _, _, _, _, _, _, rfl, _⟩ := h
    rfl
  · obtain ⟨H0, p, dx, bl, lp, lo, pl, rl, code, st, vb, ve, vs', os, fls, kept, l, rfl, R, hl, k⟩ := h
    refine ⟨_, (pss_cons (ps_if (pt_cmpR op_eq (pe_fld (pv 0) rfl) pe_int (nomark _))
        pss_never
        pss_nil)
      (pss_cons (ps_fldaug (pv 0) pe_int in_sub)
      (pss_one (ps_ret pe_bl)))), ?_⟩
    have hO := R.ob
    rw [hl] at hO
    walk_at "Runner.left"
    refine ⟨rfl, _, rfl, br_f (decide_eq_false (fun z => by have q := V.int.inj z; omega)) ?_⟩
    refine ⟨_, rfl, p, _, dx, _, _, rfl, hO, T.Runner.cl, T.na_Runner_left, lk_Runner_left, _, _, rfl, rfl, dx, _, hO, ln_Runner, ?_⟩
    rw [pf_Runner_left, show ((l + 1 : Nat) : Int) - 1 = (l : Int) by omega]
    have P2 : RPre (He.ga K "Piece") H0 H p code { st with left := l } bl lp lo pl rl vb ve vs' os fls := by
      have P := R.pre
      exact ⟨P.s0, P.np, P.nl, P.no, P.nq, P.nf, P.nd, P.ip, P.pr, P.op, P.pi, P.cod, P.row, P.bd, P.opr, P.en, P.pc, P.pb⟩
    exact k _ (.self R.ob) (P2.put rfl)
end
end AF

namespace AF
open PySem PySem.Spec PyProof.Rows L2
local macro_rules | `(tactic| walk_at "skip") => `(tactic| repeat (refine ⟨_, rfl, rfl, _, rfl, br_f (by decide +kernel) ?_⟩))
local macro_rules | `(tactic| walk_at "hit") => `(tactic| refine ⟨_, rfl, rfl, _, rfl, br_t (by decide +kernel) ?_⟩)
set_option hygiene false in
local macro_rules | `(tactic| walk_at "Run.current") => `(tactic| refine ⟨_, rfl, _, _, _, _, _, rfl, hO, T.Run.cl, T.na_Run_current, lk_Run_current, ?_⟩)
set_option hygiene false in
local macro_rules | `(tactic| walk_at "Run.frames") => `(tactic| refine ⟨_, rfl, _, _, _, _, _, rfl, hO, T.Run.cl, T.na_Run_frames, lk_Run_frames, ?_⟩)
set_option hygiene false in
local macro_rules | `(tactic| walk_at "Run.left") => `(tactic| refine ⟨_, rfl, _, _, _, _, _, rfl, hO, T.Run.cl, T.na_Run_left, lk_Run_left, ?_⟩)
set_option hygiene false in
local macro_rules | `(tactic| walk_at "Run.prints") => `(tactic| refine ⟨_, rfl, _, _, _, _, _, rfl, hO, T.Run.cl, T.na_Run_prints, lk_Run_prints, ?_⟩)
set_option hygiene false in
local macro_rules | `(tactic| walk_at "Run.end") => `(tactic| refine ⟨_, rfl, _, _, _, _, _, rfl, hO, T.Run.cl, T.na_Run_end, lk_Run_end, ?_⟩)
set_option hygiene false in
local macro_rules | `(tactic| walk_at "Machine.left") => `(tactic| refine ⟨_, rfl, _, _, _, _, _, rfl, hO, T.Machine.cl, T.na_Machine_left, lk_Machine_left, ?_⟩)
set_option hygiene false in
local macro_rules | `(tactic| walk_at "Machine.prints") => `(tactic| refine ⟨_, rfl, _, _, _, _, _, rfl, hO, T.Machine.cl, T.na_Machine_prints, lk_Machine_prints, ?_⟩)
set_option hygiene false in
local macro_rules | `(tactic| walk_at "Machine.pieces") => `(tactic| refine ⟨_, rfl, _, _, _, _, _, rfl, hO, T.Machine.cl, T.na_Machine_pieces, lk_Machine_pieces, ?_⟩)
set_option hygiene false in
local macro_rules | `(tactic| walk_at "Machine.kept") => `(tactic| refine ⟨_, rfl, _, _, _, _, _, rfl, hO, T.Machine.cl, T.na_Machine_kept, lk_Machine_kept, ?_⟩)
set_option hygiene false in
local macro_rules | `(tactic| walk_at "Machine.most") => `(tactic| refine ⟨_, rfl, _, _, _, _, _, rfl, hO, T.Machine.cl, T.na_Machine_most, lk_Machine_most, ?_⟩)
set_option hygiene false in
local macro_rules | `(tactic| walk_at "Piece.kind") => `(tactic| refine ⟨_, rfl, _, _, _, _, _, rfl, hO, T.Piece.cl, T.na_Piece_kind, lk_Piece_kind, ?_⟩)
set_option hygiene false in
local macro_rules | `(tactic| walk_at "Piece.handler") => `(tactic| refine ⟨_, rfl, _, _, _, _, _, rfl, hO, T.Piece.cl, T.na_Piece_handler, lk_Piece_handler, ?_⟩)
set_option hygiene false in
local macro_rules | `(tactic| walk_at "Piece.frames") => `(tactic| refine ⟨_, rfl, _, _, _, _, _, rfl, hO, T.Piece.cl, T.na_Piece_frames, lk_Piece_frames, ?_⟩)
set_option hygiene false in
local macro_rules | `(tactic| walk_at "Piece.distance") => `(tactic| refine ⟨_, rfl, _, _, _, _, _, rfl, hO, T.Piece.cl, T.na_Piece_distance, lk_Piece_distance, ?_⟩)
set_option hygiene false in
local macro_rules | `(tactic| walk_at "Piece.table") => `(tactic| refine ⟨_, rfl, _, _, _, _, _, rfl, hO, T.Piece.cl, T.na_Piece_table, lk_Piece_table, ?_⟩)
set_option hygiene false in
local macro_rules | `(tactic| walk_at "Runner.blocks") => `(tactic| refine ⟨_, rfl, _, _, _, _, _, rfl, hO, T.Runner.cl, T.na_Runner_blocks, lk_Runner_blocks, ?_⟩)
set_option hygiene false in
local macro_rules | `(tactic| walk_at "Runner.left") => `(tactic| refine ⟨_, rfl, _, _, _, _, _, rfl, hO, T.Runner.cl, T.na_Runner_left, lk_Runner_left, ?_⟩)
set_option hygiene false in
local macro_rules | `(tactic| walk_at "Runner.prints") => `(tactic| refine ⟨_, rfl, _, _, _, _, _, rfl, hO, T.Runner.cl, T.na_Runner_prints, lk_Runner_prints, ?_⟩)
set_option hygiene false in
local macro_rules | `(tactic| walk_at "Runner.kept") => `(tactic| refine ⟨_, rfl, _, _, _, _, _, rfl, hO, T.Runner.cl, T.na_Runner_kept, lk_Runner_kept, ?_⟩)
set_option hygiene false in
local macro_rules | `(tactic| walk_at "Runner.end") => `(tactic| refine ⟨_, rfl, _, _, _, _, _, rfl, hO, T.Runner.cl, T.na_Runner_end, lk_Runner_end, ?_⟩)
set_option hygiene false in
local macro_rules | `(tactic| walk_at "Runner.pieces") => `(tactic| refine ⟨_, rfl, _, _, _, _, _, rfl, hO, T.Runner.cl, T.na_Runner_pieces, lk_Runner_pieces, ?_⟩)
set_option hygiene false in
local macro_rules | `(tactic| walk_at "Runner.rows") => `(tactic| refine ⟨_, rfl, _, _, _, _, _, rfl, hO, T.Runner.cl, T.na_Runner_rows, lk_Runner_rows, ?_⟩)
set_option hygiene false in
local macro_rules | `(tactic| walk_at "Runner.at") => `(tactic| refine ⟨_, rfl, _, _, _, _, _, rfl, hO, T.Runner.cl, T.na_Runner_at, lk_Runner_at, ?_⟩)
set_option hygiene false in
local macro_rules | `(tactic| walk_at "Runner.bindings") => `(tactic| refine ⟨_, rfl, _, _, _, _, _, rfl, hO, T.Runner.cl, T.na_Runner_bindings, lk_Runner_bindings, ?_⟩)
set_option hygiene false in
local macro_rules | `(tactic| walk_at "Runner.operands") => `(tactic| refine ⟨_, rfl, _, _, _, _, _, rfl, hO, T.Runner.cl, T.na_Runner_operands, lk_Runner_operands, ?_⟩)
set_option hygiene false in
local macro_rules | `(tactic| walk_at "Code.blocks") => `(tactic| refine ⟨_, rfl, _, _, _, _, _, rfl, hO, T.Code.cl, T.na_Code_blocks, lk_Code_blocks, ?_⟩)
set_option hygiene false in
local macro_rules | `(tactic| walk_at "Compiler.blocks") => `(tactic| refine ⟨_, rfl, _, _, _, _, _, rfl, hO, T.Compiler.cl, T.na_Compiler_blocks, lk_Compiler_blocks, ?_⟩)
set_option hygiene false in
local macro_rules | `(tactic| walk_at "Compiler.queue") => `(tactic| refine ⟨_, rfl, _, _, _, _, _, rfl, hO, T.Compiler.cl, T.na_Compiler_queue, lk_Compiler_queue, ?_⟩)
section
variable {P : Program} {w : World} {K : PySem.W.Frag} {mg : Str → Option Value} {base : Heap}
def spDeliver (K : PySem.W.Frag) : Sp := fun vs H Q _ => ∃ (H0 : Hp) (p : Addr) (code : List (List Rw)) (st st' : RS) (i : Int) (vv : V), vs = [.ref p, vv] ∧ RO (He.ga K "Runner") (He.ga K "Piece") H0 H p code st ∧ IntAt H i vv ∧ st.en = none ∧ rDeliver code i st = some st' ∧
  ∀ H', RO (He.ga K "Runner") (He.ga K "Piece") H0 H' p code st' → Q .non H'
theorem ok_deliver (T : Fx K w mg) : FnOk P w K mg base CX0 2 (He.ma K (He.ga K "Runner") "deliver") (fdOf K ("Runner", some "deliver")) ["self", "value"] (spDeliver K) := by
  have G_value_shape := ok_vshape (P := P) (base := base) T
  have G_Runner_enter := ok_enter (P := P) (base := base) T
  refine T.Runner_deliver.F.ok sc_Runner_deliver (fun vs H Q E h => ?_) (fun cdv A outer s H vs Q E hr h => ?_)
  · obtain ⟨_, _, _, _, _, _, _, rfl, _⟩ := h
    rfl
  · obtain ⟨H0, p, code, st, st', i, vv, rfl, ⟨dx, bl, lp, lo, pl, rl, vb, ve, vs, os, fls, kept, R⟩, hv, hen, hd, k⟩ := h
    refine ⟨_, (pss_one (ps_while PassesOwn.never (pt_cmpR op_isN (pe_fld (pv 0) rfl) pe_non (nomark _))
        (pss_cons (ps_set (i := 2) sc_Runner_deliver.nd rfl (Or.inl rfl) (pe_ix ix_list (pe_fld (pv 0) rfl) (pe_un un_neg pe_int) (fun _ _ => rfl)))
        (pss_cons (ps_if (pt_truth (pe_fld (pv 2) rfl) (by intro _; rfl))
          (pss_cons (ps_asg (pe_bm0 PySem.F.plainAttrs_list PySem.F.slot_list_pop PySem.F.type_list_pop mt_pop (pe_fld (pv 2) rfl)) (pg_tup rfl (pgs_cons (pg_fld (pv 0)) (pgs_cons (pg_fld (pv 0)) (pgs_cons (pg_fld (pv 0)) (pgs_cons (pg_name (i := 3) sc_Runner_deliver.nd rfl (Or.inl rfl)) pgs_nil))))))
          (pss_cons (ps_fld (pv 0) (pe_callTy call_list_of (by rfl) T.n_list (by decide +kernel) (pa_cons (pv 3) pa_nil)) rfl)
          (pss_cons (ps_expr (pe_bm PySem.F.plainAttrs_list PySem.F.slot_list_append PySem.F.type_list_append mt_append (pe_fld (pv 0) rfl) (pa_cons (pv 1) pa_nil)))
          (pss_one ps_retN))))
          pss_nil)
        (pss_one (ps_if (pt_cmpR op_eq (pe_fld (pv 2) rfl) (C8.pe_gc rfl T.g_BOTTOM) (nomark _))
          (pss_one (ps_fld (pv 0) (pe_tup (pa_cons pe_str (pa_cons (pe_call G_value_shape (hr.mono (by omega)) rfl T.value_shape.m T.value_shape.F.kp T.value_shape.b .nil pass0 (pa_cons (pv 1) pa_nil)) pa_nil))) rfl))
          (pss_one (ps_if (pt_cmpR op_eq (pe_fld (pv 2) rfl) (C8.pe_gc rfl T.g_HANDLER) (nomark _))
            (pss_cons (ps_expr (pe_bm0 PySem.F.plainAttrs_list PySem.F.slot_list_pop PySem.F.type_list_pop mt_pop (pe_fld (pv 0) rfl)))
            (pss_cons (ps_expr (pe_meth (pv 0) T.Runner.cl T.Runner_enter.m G_Runner_enter (hr.mono (by omega)) T.Runner_enter.b .nil pass0 (pa_cons (pe_ix ix_tup (pe_fld (pv 2) rfl) pe_int (fun _ _ => rfl)) (pa_cons (pe_tup (pa_cons (pv 1) (pa_cons (pe_ix ix_tup (pe_fld (pv 2) rfl) pe_int (fun _ _ => rfl)) pa_nil))) pa_nil))))
            (pss_one ps_retN)))
            pss_never)))))))), ?_⟩
    refine ⟨fun m σ H' => (m = 1 ∧ H = H' ∧ σ = [some (.ref p), some vv, none, none]) ∨ (m = 0 ∧ (∃ ve' dx a0 a1 a2 a3 a5 a6 a7 a8 a9, ve' ≠ .non ∧ H' p = some (.ins (He.ga K "Runner") dx (flRunner a0 a1 a2 a3 ve' a5 a6 a7 a8 a9))) ∧ (∃ o2 o3, σ = [some (.ref p), some vv, o2, o3]) ∧ Q .non H'), ⟨1, .inl ⟨rfl, rfl, rfl⟩⟩, ?_⟩
    rintro m σ H2 (⟨rfl, rfl, rfl⟩ | ⟨rfl, ⟨ve', dx', a0, a1, a2, a3, a5, a6, a7, a8, a9, nve, hO⟩, ⟨o2, o3, rfl⟩, hQ⟩)
    · have hO := R.ob
      have een := R.pre.en
      rw [hen] at een
      have ev : ve = .non := een
      walk_at "Runner.end"
      refine ⟨rfl, _, rfl, br_t (decide_eq_true ev) ?_⟩
      refine ⟨fun σ' H' => (∃ ve' dx a0 a1 a2 a3 a5 a6 a7 a8 a9, ve' ≠ .non ∧ H' p = some (.ins (He.ga K "Runner") dx (flRunner a0 a1 a2 a3 ve' a5 a6 a7 a8 a9))) ∧ (∃ o2 o3, σ' = [some (.ref p), some vv, o2, o3]) ∧ Q .non H', fun σ' H' z => ⟨0, by decide, .inr ⟨rfl, z⟩⟩, ?_⟩
      have pc := R.pre.pc
      cases hp : st.pcs with
      | nil => unfold rDeliver at hd; rw [hp] at hd; cases hd
      | cons m1 rest =>
        obtain ⟨h, fr⟩ := m1
        unfold rDeliver at hd
        rw [hp] at pc hd
        obtain ⟨q, dq, fl, tb, vs2, fls2, vh, fs, rfl, rfl, nq, hq, hh, hfl, hrr, ht, hrest⟩ := pc
        walk_at "Runner.pieces"
        refine ⟨_, rfl, pl, _, _, _, rfl, rfl, SqL.of R.pre.pi, last_rev, ?_⟩
        cases fr with
        | cons f fr =>
          cases hrr with
          | @cons _ vf _ fs2 rf rt =>
          obtain ⟨hlen, hd⟩ := gd (show (if 900 < f.ops.length then none else some { st with rows := f.rows, at_ := f.at_, bd := f.bd, ops := i :: f.ops, pcs := (h, fr) :: rest }) = some st' from hd)
          cases hd
          have hf : H fl = some (.lst (fs2.reverse ++ [vf])) := by
            rw [← rev_cons]
            exact hfl
          refine ⟨_, rfl, q, _, dq, _, _, rfl, hq, T.Piece.cl, T.na_Piece_frames, lk_Piece_frames, _, .inl ⟨_, SqL.of hf, rfl⟩, br_t (by simp) ?_⟩
          refine ⟨_, rfl, q, _, dq, _, _, rfl, hq, T.Piece.cl, T.na_Piece_frames, lk_Piece_frames, ?_⟩
          refine ⟨.inl ⟨rfl, _, SqL.of hf⟩, fl, _, _, rfl, rfl, hf, rev_last, ?_⟩
          rw [List.dropLast_concat]
          have R1 := R.topTo (fr' := fr) (fs' := fs2) hp nq hq hh hfl ht hrest rt
          have t1 : Tx H (upd H fl (.lst fs2.reverse)) := tx_lst hfl
          generalize upd H fl (.lst fs2.reverse) = H1 at R1 t1
          obtain ⟨tf, rl', vb', to, us, rfl, hf1, hf2, hf3, hf4, hf5⟩ := rf
          refine ⟨tf, _, rfl, SqT.of (t1 _ _ hf1), rfl, _, _, rfl, _, rfl, p, _, dx, _, rfl, R1.ob, T.Runner.cl, T.na_Runner_rows, ln_Runner, ?_⟩
          rw [pf_Runner_rows]
          refine ⟨_, _, rfl, _, rfl, p, _, dx, _, rfl, upd_same, T.Runner.cl, T.na_Runner_at, ln_Runner, ?_⟩
          rw [upd_upd, pf_Runner_at]
          refine ⟨_, _, rfl, _, rfl, p, _, dx, _, rfl, upd_same, T.Runner.cl, T.na_Runner_bindings, ln_Runner, ?_⟩
          rw [upd_upd, pf_Runner_bindings]
          refine ⟨_, _, rfl, rfl, ?_⟩
          have nto : to ≠ p := fun z => by
            have y := t1 _ _ hf4
            rw [z, R1.ob] at y
            cases y
          refine ⟨_, rfl, to, _, rfl, .inr (SqT.of (by rw [upd_ne nto]; exact t1 _ _ hf4)), fun lo' nlo => ?_⟩
          have ne1 : lo' ≠ p := fun z => by rw [z, upd_same] at nlo; cases nlo
          rw [upd_ne ne1] at nlo
          refine ⟨_, rfl, p, _, dx, _, rfl, by rw [upd_ne ne1.symm]; exact upd_same, T.Runner.cl, T.na_Runner_operands, ln_Runner, ?_⟩
          rw [upd_sh ne1, pf_Runner_operands]
          have R2 := (R1.load (a := f.at_) hf2 (hf3.mono t1) (hf5.mono fun _ _ z => z.mono t1) nlo).put (kept := kept) (RC := He.ga K "Runner") (dx := dx) rfl
          have t2 : Tx H1 (upd (upd H1 lo' (.lst us.reverse)) p (.ins (He.ga K "Runner") dx (flRunner (.ref bl) (.int (st.left : Nat)) (.ref lp) (.int kept) ve (.ref pl) (.ref rl') (.int (f.at_ : Nat)) vb' (.ref lo')))) := (Tx.same (same_new nlo _)).trans (tx_ins (same_new nlo _ _ _ R1.ob))
          have hO := R2.ob
          walk_at "Runner.operands"
          refine ⟨.inl ⟨rfl, _, SqL.of R2.pre.op⟩, _, rfl, lo', _, _, rfl, rfl, R2.pre.op, small1000 (by rw [List.length_reverse, ← hf5.len]; omega), ?_⟩
          have R3 := R2.opsTo (is := i :: f.ops) (us := vv :: us) (.cons (hv.mono (t1.trans t2)) (hf5.mono fun _ _ z => z.mono (t1.trans t2)))
          rw [List.reverse_cons] at R3
          exact k _ ⟨_, _, _, _, _, _, _, _, _, _, _, _, R3⟩
        | nil =>
          cases hrr
          refine ⟨_, rfl, q, _, dq, _, _, rfl, hq, T.Piece.cl, T.na_Piece_frames, lk_Piece_frames, _, .inl ⟨_, SqL.of hfl, rfl⟩, br_f rfl ?_⟩
          refine ⟨_, rfl, q, _, dq, _, _, rfl, hq, T.Piece.cl, T.na_Piece_kind, lk_Piece_kind, rfl, _, rfl, ?_⟩
          cases h with
          | none =>
            cases hd
            refine br_t rfl ?_
            obtain ⟨pv', rfl, hpv, hsm⟩ := hv
            refine ⟨_, rfl, pv', i, rfl, hpv, fun H3 s3 => ⟨by show 2 ≤ sizeLine; decide, fun t nt => ?_⟩⟩
            have s4 := s3.trans (same_new nt (.tup [V.str "value", V.ref pv']))
            have R2 := R.ext s4
            refine wr_Runner_end (K := K) T rfl R2.ob ?_
            have P2 : RPre (He.ga K "Piece") H0 (upd H3 t (.tup [V.str "value", V.ref pv'])) p code { st with en := some (.val i) } bl lp lo pl rl vb (.ref t) (V.ref q :: vs2) os (fl :: fls2) := by
              have P := R2.pre
              exact ⟨P.s0, P.np, P.nl, P.no, P.nq, P.nf, P.nd, P.ip, P.pr, P.op, P.pi, P.cod, P.row, P.bd, P.opr, ⟨t, pv', rfl, upd_same, s4 _ _ hpv⟩, P.pc, P.pb⟩
            have R3 := P2.put (RC := He.ga K "Runner") (dx := dx) (kept := kept) rfl
            have R4 := R3
            rw [hp] at R4
            exact ⟨⟨.ref t, dx, _, _, _, _, _, _, _, _, _, (fun z => nomatch z), R3.ob⟩, ⟨_, _, rfl⟩, k _ ⟨_, _, _, _, _, _, _, _, _, _, _, _, R4⟩⟩
          | some h =>
            refine br_f rfl ?_
            refine ⟨_, rfl, q, _, dq, _, _, rfl, hq, T.Piece.cl, T.na_Piece_kind, lk_Piece_kind, rfl, _, rfl, br_t rfl ?_⟩
            cases hc : code[h.after]? with
            | none => simp only [hc] at hd; cases hd
            | some rows =>
              simp only [hc] at hd
              cases hd
              have hpi := R.pre.pi
              rw [List.reverse_cons] at hpi
              walk_at "Runner.pieces"
              refine ⟨.inl ⟨rfl, _, SqL.of hpi⟩, pl, _, _, rfl, rfl, hpi, rev_last, ?_⟩
              rw [List.dropLast_concat]
              have R1 := R.popTo hrest
              have k1 : Kr p H (upd H pl (.lst vs2.reverse)) := .lst R.pre.pi
              have hq1 := k1.ins hq nq
              have hv1 := hv.mono k1.tx
              obtain ⟨th, d, eh, vbh, rfl, hh1, hh2, hh3, hh4⟩ := hh
              have hh1' := k1.tx _ _ hh1
              have hh4' := hh4.mono k1.tx
              generalize upd H pl (.lst vs2.reverse) = H1 at R1 k1 hq1 hv1 hh1' hh4'
              obtain ⟨bvs, hbl, hbs⟩ := R1.pre.cod
              obtain ⟨rl', hr1, hr2⟩ := code_row hbs hc
              refine ⟨_, rfl, p, dx, _, rfl, R1.ob, no_Runner_enter, _, rfl, q, _, dq, _, _, rfl, hq1, T.Piece.cl, T.na_Piece_handler, lk_Piece_handler, th, _, _, _, rfl, rfl, SqT.of hh1', rfl, _, rfl, _, rfl, q, _, dq, _, _, rfl, hq1, T.Piece.cl, T.na_Piece_handler, lk_Piece_handler, th, _, _, _, rfl, rfl, SqT.of hh1', rfl, by show 2 ≤ sizeLine; decide, fun t nt => ?_⟩
              have s2 := same_new nt (.tup [vv, vbh])
              have R2 := R1.ext s2
              refine ⟨p, dx, bl, rl', _, bvs, h.after, .ref t, rfl, R2.ob, lk_Runner_blocks, R2.pre.s0 _ _ hbl, hr1, by show 10 ≤ 900; decide, fun lo' nlo => ?_⟩
              have R3 := R2.enter (bd' := .cons (.int i) h.bd) (vb' := .ref t) hr2 ⟨t, vv, vbh, rfl, upd_same, hv1.mono (.same s2), hh4'.mono (.same s2)⟩ nlo rfl
              exact k _ ⟨_, _, _, _, _, _, _, _, _, _, _, _, R3⟩
    · walk_at "Runner.end"
      exact ⟨rfl, _, rfl, br_f (decide_eq_false nve) hQ⟩
end
end AF

namespace AF
open PySem PySem.Spec PyProof.Rows L2
local macro_rules | `(tactic| walk_at "skip") => `(tactic| repeat (refine ⟨_, rfl, rfl, _, rfl, br_f (by decide +kernel) ?_⟩))
local macro_rules | `(tactic| walk_at "hit") => `(tactic| refine ⟨_, rfl, rfl, _, rfl, br_t (by decide +kernel) ?_⟩)
set_option hygiene false in
local macro_rules | `(tactic| walk_at "Run.current") => `(tactic| refine ⟨_, rfl, _, _, _, _, _, rfl, hO, T.Run.cl, T.na_Run_current, lk_Run_current, ?_⟩)
set_option hygiene false in
local macro_rules | `(tactic| walk_at "Run.frames") => `(tactic| refine ⟨_, rfl, _, _, _, _, _, rfl, hO, T.Run.cl, T.na_Run_frames, lk_Run_frames, ?_⟩)
set_option hygiene false in
local macro_rules | `(tactic| walk_at "Run.left") => `(tactic| refine ⟨_, rfl, _, _, _, _, _, rfl, hO, T.Run.cl, T.na_Run_left, lk_Run_left, ?_⟩)
set_option hygiene false in
local macro_rules | `(tactic| walk_at "Run.prints") => `(tactic| refine ⟨_, rfl, _, _, _, _, _, rfl, hO, T.Run.cl, T.na_Run_prints, lk_Run_prints, ?_⟩)
set_option hygiene false in
local macro_rules | `(tactic| walk_at "Run.end") => `(tactic| refine ⟨_, rfl, _, _, _, _, _, rfl, hO, T.Run.cl, T.na_Run_end, lk_Run_end, ?_⟩)
set_option hygiene false in
local macro_rules | `(tactic| walk_at "Machine.left") => `(tactic| refine ⟨_, rfl, _, _, _, _, _, rfl, hO, T.Machine.cl, T.na_Machine_left, lk_Machine_left, ?_⟩)
set_option hygiene false in
local macro_rules | `(tactic| walk_at "Machine.prints") => `(tactic| refine ⟨_, rfl, _, _, _, _, _, rfl, hO, T.Machine.cl, T.na_Machine_prints, lk_Machine_prints, ?_⟩)
set_option hygiene false in
local macro_rules | `(tactic| walk_at "Machine.pieces") => `(tactic| refine ⟨_, rfl, _, _, _, _, _, rfl, hO, T.Machine.cl, T.na_Machine_pieces, lk_Machine_pieces, ?_⟩)
set_option hygiene false in
local macro_rules | `(tactic| walk_at "Machine.kept") => `(tactic| refine ⟨_, rfl, _, _, _, _, _, rfl, hO, T.Machine.cl, T.na_Machine_kept, lk_Machine_kept, ?_⟩)
set_option hygiene false in
local macro_rules | `(tactic| walk_at "Machine.most") => `(tactic| refine ⟨_, rfl, _, _, _, _, _, rfl, hO, T.Machine.cl, T.na_Machine_most, lk_Machine_most, ?_⟩)
set_option hygiene false in
local macro_rules | `(tactic| walk_at "Piece.kind") => `(tactic| refine ⟨_, rfl, _, _, _, _, _, rfl, hO, T.Piece.cl, T.na_Piece_kind, lk_Piece_kind, ?_⟩)
set_option hygiene false in
local macro_rules | `(tactic| walk_at "Piece.handler") => `(tactic| refine ⟨_, rfl, _, _, _, _, _, rfl, hO, T.Piece.cl, T.na_Piece_handler, lk_Piece_handler, ?_⟩)
set_option hygiene false in
local macro_rules | `(tactic| walk_at "Piece.frames") => `(tactic| refine ⟨_, rfl, _, _, _, _, _, rfl, hO, T.Piece.cl, T.na_Piece_frames, lk_Piece_frames, ?_⟩)
set_option hygiene false in
local macro_rules | `(tactic| walk_at "Piece.distance") => `(tactic| refine ⟨_, rfl, _, _, _, _, _, rfl, hO, T.Piece.cl, T.na_Piece_distance, lk_Piece_distance, ?_⟩)
set_option hygiene false in
local macro_rules | `(tactic| walk_at "Piece.table") => `(tactic| refine ⟨_, rfl, _, _, _, _, _, rfl, hO, T.Piece.cl, T.na_Piece_table, lk_Piece_table, ?_⟩)
set_option hygiene false in
local macro_rules | `(tactic| walk_at "Runner.blocks") => `(tactic| refine ⟨_, rfl, _, _, _, _, _, rfl, hO, T.Runner.cl, T.na_Runner_blocks, lk_Runner_blocks, ?_⟩)
set_option hygiene false in
local macro_rules | `(tactic| walk_at "Runner.left") => `(tactic| refine ⟨_, rfl, _, _, _, _, _, rfl, hO, T.Runner.cl, T.na_Runner_left, lk_Runner_left, ?_⟩)
set_option hygiene false in
local macro_rules | `(tactic| walk_at "Runner.prints") => `(tactic| refine ⟨_, rfl, _, _, _, _, _, rfl, hO, T.Runner.cl, T.na_Runner_prints, lk_Runner_prints, ?_⟩)
set_option hygiene false in
local macro_rules | `(tactic| walk_at "Runner.kept") => `(tactic| refine ⟨_, rfl, _, _, _, _, _, rfl, hO, T.Runner.cl, T.na_Runner_kept, lk_Runner_kept, ?_⟩)
set_option hygiene false in
local macro_rules | `(tactic| walk_at "Runner.end") => `(tactic| refine ⟨_, rfl, _, _, _, _, _, rfl, hO, T.Runner.cl, T.na_Runner_end, lk_Runner_end, ?_⟩)
set_option hygiene false in
local macro_rules | `(tactic| walk_at "Runner.pieces") => `(tactic| refine ⟨_, rfl, _, _, _, _, _, rfl, hO, T.Runner.cl, T.na_Runner_pieces, lk_Runner_pieces, ?_⟩)
set_option hygiene false in
local macro_rules | `(tactic| walk_at "Runner.rows") => `(tactic| refine ⟨_, rfl, _, _, _, _, _, rfl, hO, T.Runner.cl, T.na_Runner_rows, lk_Runner_rows, ?_⟩)
set_option hygiene false in
local macro_rules | `(tactic| walk_at "Runner.at") => `(tactic| refine ⟨_, rfl, _, _, _, _, _, rfl, hO, T.Runner.cl, T.na_Runner_at, lk_Runner_at, ?_⟩)
set_option hygiene false in
local macro_rules | `(tactic| walk_at "Runner.bindings") => `(tactic| refine ⟨_, rfl, _, _, _, _, _, rfl, hO, T.Runner.cl, T.na_Runner_bindings, lk_Runner_bindings, ?_⟩)
set_option hygiene false in
local macro_rules | `(tactic| walk_at "Runner.operands") => `(tactic| refine ⟨_, rfl, _, _, _, _, _, rfl, hO, T.Runner.cl, T.na_Runner_operands, lk_Runner_operands, ?_⟩)
set_option hygiene false in
local macro_rules | `(tactic| walk_at "Code.blocks") => `(tactic| refine ⟨_, rfl, _, _, _, _, _, rfl, hO, T.Code.cl, T.na_Code_blocks, lk_Code_blocks, ?_⟩)
set_option hygiene false in
local macro_rules | `(tactic| walk_at "Compiler.blocks") => `(tactic| refine ⟨_, rfl, _, _, _, _, _, rfl, hO, T.Compiler.cl, T.na_Compiler_blocks, lk_Compiler_blocks, ?_⟩)
set_option hygiene false in
local macro_rules | `(tactic| walk_at "Compiler.queue") => `(tactic| refine ⟨_, rfl, _, _, _, _, _, rfl, hO, T.Compiler.cl, T.na_Compiler_queue, lk_Compiler_queue, ?_⟩)
/-- over the keys of a locked dict -/
theorem dc_keys {d : Addr} {o : Obj} {kvs : List (L2.Key × V)} {g : TG} {tt : TT} {tk tv : TE} {vs : List Nat} {σ : L2.St} {H1 : Hp} {D : Addr} {Qd : Hp → Prop} (Pv : Nat → Hp → Prop) (h0 : Pv 0 (upd H1 D (.dK []))) (hl : ∀ i H, i ≤ kvs.length → Pv i H → H d = some (.frz o (.dK kvs)))
    (hs : ∀ i k v H, kvs[i]? = some (k, v) → Pv i H → g (kV k) (wipe σ vs) H fun σ2 H2 => wipe σ2 vs = wipe σ vs ∧ tt σ2 H2 fun b H3 =>
      if b = true then tk σ2 H3 fun y H4 => tv σ2 H4 fun z H5 => ∃ kvs k, y = kV k ∧ H5 D = some (.dK kvs) ∧ kvs.length < sizeLine ∧ Pv (i + 1) (upd H5 D (.dK (putK kvs k z))) else Pv (i + 1) H3) (hd : ∀ H, Pv kvs.length H → Qd H) :
    ∃ W : Nat → Nat → Hp → Prop, (∃ m, W 0 m (upd H1 D (.dK []))) ∧ ∀ i m H, W i m H →
      ((Itk d o kvs).stop i H ∧ Qd H) ∨ ((Itk d o kvs).go i H ∧ ∃ Nx : Hp → Prop, (∀ H', Nx H' → ∃ m', m' < m ∧ W (i + 1) m' H') ∧ ∀ x H', (Itk d o kvs).yld i H x H' → g x (wipe σ vs) H' fun σ2 H2 => wipe σ2 vs = wipe σ vs ∧ tt σ2 H2 fun b H3 =>
        if b = true then tk σ2 H3 fun y H4 => tv σ2 H4 fun z H5 => ∃ kvs k, y = kV k ∧ H5 D = some (.dK kvs) ∧ kvs.length < sizeLine ∧ Nx (upd H5 D (.dK (putK kvs k z))) else Nx H3) := by
  refine ⟨fun i m H => m = kvs.length - i ∧ i ≤ kvs.length ∧ Pv i H, ⟨kvs.length, by simp, Nat.zero_le _, h0⟩, ?_⟩
  rintro i m H ⟨rfl, hi, p⟩
  have q := hl i H hi p
  by_cases hlt : i < kvs.length
  · refine .inr ⟨⟨q, hlt⟩, Pv (i + 1), fun H' p' => ⟨kvs.length - (i + 1), by omega, rfl, hlt, p'⟩, fun x H' y => ?_⟩
    obtain ⟨e, k, v, hk, ex⟩ := y
    subst e ex
    exact hs i k v _ hk p
  · have e : i = kvs.length := by omega
    subst e
    exact .inl ⟨⟨q, Nat.le_refl _⟩, hd H p⟩
theorem for_keysK {d : Addr} {o : Obj} {kvs : List (L2.Key × V)} {g : TG} {tb : TS} {D : Ends} {σ : L2.St} {H : Hp} (Pv : Nat → L2.St → Hp → Prop) (h0 : Pv 0 σ H) (hl : ∀ i σ H, i ≤ kvs.length → Pv i σ H → H d = some (.frz o (.dK kvs)))
    (hs : ∀ i k v σ H, kvs[i]? = some (k, v) → Pv i σ H → g (kV k) σ H fun σ2 H2 => tb { D with nx := Pv (i + 1), ct := Pv (i + 1), bk := D.nx } σ2 H2) (hd : ∀ σ H, Pv kvs.length σ H → D.nx σ H) :
    ∃ W : Nat → Nat → L2.St → Hp → Prop, (∃ m, W 0 m σ H) ∧ ∀ i m σ H, W i m σ H →
      ((Itk d o kvs).stop i H ∧ D.nx σ H) ∨ ((Itk d o kvs).go i H ∧ ∃ N : L2.St → Hp → Prop, (∀ σ' H', N σ' H' → ∃ m', m' < m ∧ W (i + 1) m' σ' H') ∧ ∀ x H', (Itk d o kvs).yld i H x H' → g x σ H' fun σ2 H2 => tb { D with nx := N, ct := N, bk := D.nx } σ2 H2) := by
  refine ⟨fun i m σ H => m = kvs.length - i ∧ i ≤ kvs.length ∧ Pv i σ H, ⟨kvs.length, by simp, Nat.zero_le _, h0⟩, ?_⟩
  rintro i m σ H ⟨rfl, hi, p⟩
  have q := hl i σ H hi p
  by_cases hlt : i < kvs.length
  · refine .inr ⟨⟨q, hlt⟩, Pv (i + 1), fun σ' H' p' => ⟨kvs.length - (i + 1), by omega, rfl, hlt, p'⟩, fun x H' y => ?_⟩
    obtain ⟨e, k, v, hk, ex⟩ := y
    subst e ex
    exact hs i k v σ _ hk p
  · have e : i = kvs.length := by omega
    subst e
    exact .inl ⟨⟨q, Nat.le_refl _⟩, hd σ H p⟩
theorem upd_back {H : Hp} {a D : Addr} {u x f : HO} (h : H a = some u) (n : D ≠ a) : upd (upd (upd H a f) D x) a u = upd H D x := by
  funext b
  by_cases h1 : b = a
  · subst h1
    rw [upd_same, upd_ne n.symm, h]
  · rw [upd_ne h1]
    by_cases h2 : b = D
    · subst h2
      rw [upd_same, upd_same]
    · rw [upd_ne h2, upd_ne h1, upd_ne h2]
section
variable {P : Program} {w : World} {K : PySem.W.Frag} {mg : Str → Option Value} {base : Heap}
theorem putK_one (k : L2.Key) (a b : V) : putK [(k, a)] k b = [(k, b)] := by
  unfold putK
  simp
section
variable {PC RC p dx bl lp lo pl rl : Addr} {H0 H : Hp} {code : List (List Rw)} {st : RS} {vb ve : V} {vs os : List V} {fls : List Addr} {kept : Int}
/-- a new piece -/
theorem RAt.pushTo {hn : RHd} {q dq fl tb : Addr} {vh : V} (R : RAt RC PC H0 H p code st dx bl lp lo pl rl vb ve vs os fls kept) (nq : q ≠ p) (hq : H q = some (.ins PC dq (flPiece (.int 1) vh (.ref fl) (.int 0) (.ref tb)))) (hh : RHdAt H0 H hn vh) (hf : H fl = some (.lst []))
    (ht : H tb = some (.dK (tblOf (some hn)))) (n0 : H0 fl = none) (n1 : fl ∉ lp :: lo :: pl :: fls) : RAt RC PC H0 (upd H pl (.lst (vs.reverse ++ [.ref q]))) p code { st with pcs := (some hn, []) :: st.pcs } dx bl lp lo pl rl vb ve (.ref q :: vs) os (fl :: fls) kept := by
  have P := R.pre
  have k : Kr p H (upd H pl (.lst (vs.reverse ++ [.ref q]))) := .lst P.pi
  have nd := List.nodup_cons.mp P.nd
  have nd2 := List.nodup_cons.mp nd.2
  have nd3 := List.nodup_cons.mp nd2.2
  have m1 : lp ≠ pl := fun z => nd.1 (by rw [z]; simp)
  have m2 : lo ≠ pl := fun z => nd2.1 (by rw [z]; simp)
  have m4 : p ≠ pl := ne_il R.ob P.pi
  obtain ⟨f1, f2, f3, f4⟩ : fl ≠ lp ∧ fl ≠ lo ∧ fl ≠ pl ∧ fl ∉ fls := by simpa using n1
  have obF : (upd H pl (.lst (vs.reverse ++ [.ref q]))) p = some (.ins RC dx (flRunner (.ref bl) (.int (st.left : Nat)) (.ref lp) (.int kept) ve (.ref pl) (.ref rl) (.int (st.at_ : Nat)) vb (.ref lo))) := by rw [upd_ne m4]; exact R.ob
  refine ⟨⟨same_upd P.s0 P.nq, P.np, P.nl, P.no, P.nq, fun x hx => ?_, ?_, ⟨_, _, _, obF⟩, by rw [upd_ne m1]; exact P.pr, by rw [upd_ne m2]; exact P.op, by rw [upd_same, List.reverse_cons], P.cod, P.row, P.bd.mono k.tx, P.opr.mono fun _ _ z => z.mono k.tx, P.en.mono k.tx, ?_, P.pb⟩, obF⟩
  · rcases List.mem_cons.mp hx with rfl | hx
    · exact n0
    · exact P.nf x hx
  · refine List.nodup_cons.mpr ⟨fun z => ?_, List.nodup_cons.mpr ⟨fun z => ?_, List.nodup_cons.mpr ⟨fun z => ?_, List.nodup_cons.mpr ⟨f4, nd3.2⟩⟩⟩⟩
    · rcases List.mem_cons.mp z with z | z
      · exact nd.1 (by rw [z]; simp)
      · rcases List.mem_cons.mp z with z | z
        · exact m1 z
        · rcases List.mem_cons.mp z with z | z
          · exact f1 z.symm
          · exact nd.1 (List.mem_cons_of_mem _ (List.mem_cons_of_mem _ z))
    · rcases List.mem_cons.mp z with z | z
      · exact m2 z
      · rcases List.mem_cons.mp z with z | z
        · exact f2 z.symm
        · exact nd2.1 (List.mem_cons_of_mem _ z)
    · rcases List.mem_cons.mp z with z | z
      · exact f3 z.symm
      · exact nd3.1 z
  · exact ⟨q, dq, fl, tb, vs, fls, vh, [], rfl, rfl, nq, k.ins hq nq, RHdO.mono (h := some hn) k.tx hh, by rw [upd_ne f3]; exact hf, .nil, k.dk ht, P.pc.mono k fun x hx xs z => by rw [upd_ne (fun y => nd3.1 (by rw [← y]; exact hx))]; exact z⟩
end
def xOf : Option RHd → List (L2.Key × V)
  | none => []
  | some h => [(.inr h.o.s, .int 1)]
def spAdd (K : PySem.W.Frag) : Sp := fun vs H Q _ => ∃ (H0 Hb : Hp) (p q dq fl tb0 : Addr) (code : List (List Rw)) (st : RS) (vh : V) (h : Option RHd) (hn : RHd) (fr : List RF) (rest : List RP), vs = [.ref p, .ref q] ∧ RO (He.ga K "Runner") (He.ga K "Piece") H0 Hb p code st ∧ Same Hb H ∧ Hb q = none ∧ Hb fl = none ∧
  st.pcs = (h, fr) :: rest ∧ rest.length ≤ 800 ∧ tblFits h hn.o = true ∧ H q = some (.ins (He.ga K "Piece") dq (flPiece (.int 1) vh (.ref fl) (.int 0) (.ref tb0))) ∧ H fl = some (.lst []) ∧ RHdAt H0 H hn vh ∧
  ∀ H', Tx H H' → RO (He.ga K "Runner") (He.ga K "Piece") H0 H' p code { st with pcs := (some hn, []) :: (h, fr) :: rest } → Q .non H'
theorem ok_radd (T : Fx K w mg) : FnOk P w K mg base CX0 1 (He.ma K (He.ga K "Runner") "add_piece") (fdOf K ("Runner", some "add_piece")) ["self", "piece"] (spAdd K) := by
  refine T.Runner_add_piece.F.ok sc_Runner_add_piece (fun vs H Q E h => ?_) (fun cdv A outer s H vs Q E hr h => ?_)
  · obtain ⟨_, _, _, _, _, _, _, _, _, _, _, _, _, _, rfl, _⟩ := h
    rfl
  · obtain ⟨H0, Hb, p, q, dq, fl, tb0, code, st, vh, h, hn, fr, rest, rfl, ⟨dx, bl, lp, lo, pl, rl, vb, ve, vs', os, fls, kept, Rb⟩, sb, nqb, nfb, hp, hrest8, hfit, hq, hfl, hh, k⟩ := h
    have hu := hu_of hr
    refine ⟨_, (pss_cons (ps_set (i := 2) sc_Runner_add_piece.nd rfl (by first | exact Or.inl rfl | exact Or.inr rfl) (pe_fld (pe_ix ix_list (pe_fld (pv 0) rfl) (pe_un un_neg pe_int) (fun _ _ => rfl)) rfl))
      (pss_cons (ps_set (i := 3) sc_Runner_add_piece.nd rfl (by first | exact Or.inl rfl | exact Or.inr rfl) pe_int)
      (pss_cons (ps_if (pt_cmpR op_eq (pe_fld (pv 1) rfl) (C8.pe_gc rfl T.g_PLACE) (nomark _))
        pss_never
        pss_nil)
      (pss_cons (ps_fld (pv 1) (pe_lock (pe_dc (own := [("name", 4)]) rfl sc_Runner_add_piece.nd (pi_keys (pv 2)) (blkOk_by (sc := defScope s_Runner_add_piece) (own := [("name", 4)]) (N := ["self", "piece", "below", "more", "name"]) (by decide +kernel)) (fun _ _ _ _ _ => pg_name (i := 4) sc_Runner_add_piece.nd rfl (by first | exact Or.inl rfl | exact Or.inr rfl)) (fun _ _ _ _ _ => pts_nil) (fun _ _ _ _ _ => (pv 4)) (fun _ _ _ _ _ => (pe_op op_add (pe_dget hu (pv 2) (pv 4) (fun _ _ => rfl)) (pv 3))))) rfl)
      (pss_cons (ps_if (pt_cmpR op_eq (pe_fld (pv 1) rfl) (C8.pe_gc rfl T.g_HANDLER) (nomark _))
        (pss_one (ps_lock (ps_for PassesOwn.never rfl (pi_keys (pe_ix ix_tup (pe_fld (pv 1) rfl) pe_int (fun _ _ => rfl))) (pg_name (i := 4) sc_Runner_add_piece.nd rfl (by first | exact Or.inl rfl | exact Or.inr rfl))
          (pss_one (ps_dput hu (pe_fld (pv 1) rfl) (pv 4) pe_int rfl)))))
        pss_nil)
      (pss_one (ps_expr (pe_bm PySem.F.plainAttrs_list PySem.F.slot_list_append PySem.F.type_list_append mt_append (pe_fld (pv 0) rfl) (pa_cons (pv 1) pa_nil))))))))), ?_⟩
    have R := Rb.ext sb
    have pcb := Rb.pre.pc
    rw [hp] at pcb
    obtain ⟨qt, dqt, flt, tb, vs2, fls2, vht, fst, rfl, rfl, nqt, hqtb, hht, hflt, hrr, htbb, hrest⟩ := pcb
    have hqt := sb _ _ hqtb
    have htb := sb _ _ htbb
    have hO := R.ob
    walk_at "Runner.pieces"
    refine ⟨_, rfl, pl, _, _, _, rfl, rfl, SqL.of R.pre.pi, last_rev, qt, _, dqt, _, _, rfl, hqt, T.Piece.cl, T.na_Piece_table, lk_Piece_table, ?_⟩
    refine ⟨_, rfl, q, _, dq, _, _, rfl, hq, T.Piece.cl, T.na_Piece_kind, lk_Piece_kind, rfl, _, rfl, br_f rfl ?_⟩
    refine ⟨tb, _, htb, trivial, fun od => ⟨_, rfl, tb, od, rfl, .inl ⟨_, upd_same, fun D nD => ?_⟩⟩⟩
    have nDt : D ≠ tb := fun z => by rw [z, upd_same] at nD; cases nD
    have hD0 : H D = none := by rw [upd_ne nDt] at nD; exact nD
    refine dc_keys (fun i H' => ∃ kv, H' = upd (upd H tb (.frz od (.dK (tblOf h)))) D (.dK kv) ∧ kv = (xOf h).take i) ⟨[], rfl, rfl⟩ (fun i H' _ z => by
      obtain ⟨kv, e, _⟩ := z
      rw [e, upd_ne nDt.symm]; exact upd_same) ?_ ?_
    · rintro i kk v H' hk ⟨kv, rfl, rfl⟩
      cases h with
      | none => cases hk
      | some h' =>
        cases i with
        | succ i => cases hk
        | zero =>
          cases hk
          refine ⟨rfl, _, rfl, _, rfl, _, rfl, tb, .int 0, rfl, .inl ⟨_, .inr h'.o.s, .inr ⟨od, by rw [upd_ne nDt.symm]; exact upd_same⟩, rfl, (show some (V.int 0) = valV [((.inr h'.o.s : L2.Key), V.int 0)] (.inr h'.o.s) from by unfold valV; simp)⟩, _, rfl, _, _, rfl, rfl, _, .inr h'.o.s, rfl, upd_same, by show 0 < sizeLine; decide, _, upd_upd, rfl⟩
    · rintro H' ⟨kv, rfl, rfl⟩
      have ek : (xOf h).take (tblOf h).length = xOf h := by cases h <;> rfl
      rw [ek]
      refine ⟨by rw [upd_ne nDt.symm]; exact upd_same, ?_⟩
      rw [upd_back htb nDt]
      have s1 := same_new hD0 (.dK (xOf h))
      refine ⟨_, rfl, q, _, dq, _, rfl, s1 _ _ hq, T.Piece.cl, T.na_Piece_table, ln_Piece, ?_⟩
      rw [pf_Piece_table]
      have nDq : D ≠ q := (ne_of_none hq hD0).symm
      have sb2 : Same Hb (upd (upd H D (.dK (xOf h))) q (.ins (He.ga K "Piece") dq (flPiece (.int 1) vh (.ref fl) (.int 0) (.ref D)))) := same_upd (sb.trans s1) nqb
      have hq2 : (upd (upd H D (.dK (xOf h))) q (.ins (He.ga K "Piece") dq (flPiece (.int 1) vh (.ref fl) (.int 0) (.ref D)))) q = some (.ins (He.ga K "Piece") dq (flPiece (.int 1) vh (.ref fl) (.int 0) (.ref D))) := upd_same
      have hD2 : (upd (upd H D (.dK (xOf h))) q (.ins (He.ga K "Piece") dq (flPiece (.int 1) vh (.ref fl) (.int 0) (.ref D)))) D = some (.dK (xOf h)) := by rw [upd_ne nDq]; exact upd_same
      have t2 : Tx H (upd (upd H D (.dK (xOf h))) q (.ins (He.ga K "Piece") dq (flPiece (.int 1) vh (.ref fl) (.int 0) (.ref D)))) := (Tx.same s1).trans (tx_ins (s1 _ _ hq))
      have hfl2 : (upd (upd H D (.dK (xOf h))) q (.ins (He.ga K "Piece") dq (flPiece (.int 1) vh (.ref fl) (.int 0) (.ref D)))) fl = some (.lst []) := by rw [upd_ne (ne_il hq hfl).symm]; exact s1 _ _ hfl
      have nDb : Hb D = none := by
        cases z : Hb D with
        | none => rfl
        | some u =>
          have y := sb _ _ z
          rw [hD0] at y; cases y
      generalize upd (upd H D (.dK (xOf h))) q (.ins (He.ga K "Piece") dq (flPiece (.int 1) vh (.ref fl) (.int 0) (.ref D))) = H2 at sb2 hq2 hD2 t2 hfl2
      refine ⟨_, rfl, q, _, dq, _, _, rfl, hq2, T.Piece.cl, T.na_Piece_kind, lk_Piece_kind, rfl, _, rfl, br_t rfl ?_⟩
      obtain ⟨th, dcl, eh, vbh, rfl, hh1, hh2, hh3, hh4⟩ := id hh
      have hdc : H2 dcl = some (.dK [(.inr hn.o.s, .ref eh)]) := sb2 _ _ (Rb.pre.s0 _ _ hh2)
      have hdcb : Hb dcl = some (.dK [(.inr hn.o.s, .ref eh)]) := Rb.pre.s0 _ _ hh2
      have nDd : D ≠ dcl := fun z => by rw [← z, nDb] at hdcb; cases hdcb
      have nqd : q ≠ dcl := fun z => by rw [← z, nqb] at hdcb; cases hdcb
      refine ⟨dcl, _, hdc, trivial, fun od2 => ?_⟩
      have hq3 : (upd H2 dcl (.frz od2 (.dK [(.inr hn.o.s, .ref eh)]))) q = some (.ins (He.ga K "Piece") dq (flPiece (.int 1) (.ref th) (.ref fl) (.int 0) (.ref D))) := by rw [upd_ne nqd]; exact hq2
      have hth : (upd H2 dcl (.frz od2 (.dK [(.inr hn.o.s, .ref eh)]))) th = some (.tup [.int (hn.after : Nat), .ref dcl, vbh]) := by rw [upd_ne (ne_td (t2 _ _ hh1) hdc)]; exact t2 _ _ hh1
      refine ⟨_, rfl, q, _, dq, _, _, rfl, hq3, T.Piece.cl, T.na_Piece_handler, lk_Piece_handler, th, _, _, _, rfl, rfl, SqT.of hth, rfl, dcl, od2, rfl, .inl ⟨_, upd_same, ?_⟩⟩
      refine for_keysK (fun i σ H' => (∃ o4, σ = [some (.ref p), some (.ref q), some (.ref tb), some (.int 1), o4]) ∧ ∃ kv, H' = upd (upd H2 dcl (.frz od2 (.dK [(.inr hn.o.s, .ref eh)]))) D (.dK kv) ∧ (i = 0 → kv = xOf h) ∧ (i = 1 → kv = [(.inr hn.o.s, .int 0)])) ⟨⟨none, rfl⟩, xOf h, ?_, fun _ => rfl, fun z => absurd z (by decide)⟩ (fun i σ H' _ z => by
        obtain ⟨_, kv, e, _⟩ := z
        rw [e, upd_ne nDd.symm]; exact upd_same) ?_ ?_
      · funext b
        by_cases z : b = D
        · subst z
          rw [upd_same, upd_ne nDd, hD2]
        · rw [upd_ne z]
      · rintro i kk v σ H' hk ⟨⟨o4, rfl⟩, kv, rfl, z0, _⟩
        cases i with
        | succ i => cases hk
        | zero =>
          cases hk
          obtain rfl := z0 rfl
          refine ⟨_, rfl, q, _, dq, _, _, rfl, by rw [upd_ne nDq.symm]; exact hq3, T.Piece.cl, T.na_Piece_table, lk_Piece_table, _, rfl, D, _, rfl, DPut.k (k := .inr hn.o.s) upd_same (by cases h with | none => exact (by show 0 < sizeLine; decide) | some _ => exact (by show 1 < sizeLine; decide)), ⟨_, rfl⟩, _, upd_upd, fun z => absurd z (by decide), fun _ => ?_⟩
          cases h with
          | none => rfl
          | some h' =>
            have e : h'.o = hn.o := of_decide_eq_true hfit
            show putK [((.inr h'.o.s : L2.Key), V.int 1)] (.inr hn.o.s) (V.int 0) = _
            rw [e]
            exact putK_one _ _ _
      · rintro σ H' ⟨⟨o4, rfl⟩, kv, rfl, _, z1⟩
        obtain rfl := z1 rfl
        refine ⟨by rw [upd_ne nDd.symm]; exact upd_same, ?_⟩
        rw [upd_back hdc nDd]
        have sbF : Same Hb (upd H2 D (.dK [(.inr hn.o.s, .int 0)])) := same_upd sb2 nDb
        have tF : Tx H2 (upd H2 D (.dK [(.inr hn.o.s, .int 0)])) := fun b xs z => by rw [upd_ne (ne_td z hD2)]; exact z
        have hqF : (upd H2 D (.dK [(.inr hn.o.s, .int 0)])) q = some (.ins (He.ga K "Piece") dq (flPiece (.int 1) (.ref th) (.ref fl) (.int 0) (.ref D))) := by rw [upd_ne nDq.symm]; exact hq2
        have hfF : (upd H2 D (.dK [(.inr hn.o.s, .int 0)])) fl = some (.lst []) := by rw [upd_ne (ne_ld hfl2 hD2)]; exact hfl2
        have hDF : (upd H2 D (.dK [(.inr hn.o.s, .int 0)])) D = some (.dK [(.inr hn.o.s, .int 0)]) := upd_same
        generalize upd H2 D (.dK [(.inr hn.o.s, .int 0)]) = HF at sbF tF hqF hfF hDF
        have RF := Rb.ext sbF
        have hO := RF.ob
        walk_at "Runner.pieces"
        refine ⟨.inl ⟨rfl, _, SqL.of RF.pre.pi⟩, _, rfl, pl, _, _, rfl, rfl, RF.pre.pi, ?_, ?_⟩
        · have hl := hrest.len
          exact small1000 (by rw [List.length_reverse, List.length_cons]; omega)
        · have Pb := Rb.pre
          have n1 : fl ∉ lp :: lo :: pl :: flt :: fls2 := fun z => by
            rcases List.mem_cons.mp z with z | z
            · rw [z, Pb.pr] at nfb; cases nfb
            rcases List.mem_cons.mp z with z | z
            · rw [z, Pb.op] at nfb; cases nfb
            rcases List.mem_cons.mp z with z | z
            · rw [z, Pb.pi] at nfb; cases nfb
            obtain ⟨xs, e⟩ := Pb.pc.lst fl z
            rw [nfb] at e; cases e
          have nqp : q ≠ p := fun z => by rw [z, Rb.ob] at nqb; cases nqb
          have R4 := RF.pushTo nqp hqF ⟨th, dcl, eh, vbh, rfl, tF _ _ (t2 _ _ hh1), hh2, hh3, hh4.mono (t2.trans tF)⟩ hfF hDF (Pb.s0.free nfb) n1
          rw [hp] at R4
          exact k _ (t2.trans (tF.trans (tx_lst RF.pre.pi))) ⟨_, _, _, _, _, _, _, _, _, _, _, _, R4⟩
end
end AF

namespace AF
open PySem PySem.Spec PyProof.Rows L2
local macro_rules | `(tactic| walk_at "skip") => `(tactic| repeat (refine ⟨_, rfl, rfl, _, rfl, br_f (by decide +kernel) ?_⟩))
local macro_rules | `(tactic| walk_at "hit") => `(tactic| refine ⟨_, rfl, rfl, _, rfl, br_t (by decide +kernel) ?_⟩)
set_option hygiene false in
local macro_rules | `(tactic| walk_at "Run.current") => `(tactic| refine ⟨_, rfl, _, _, _, _, _, rfl, hO, T.Run.cl, T.na_Run_current, lk_Run_current, ?_⟩)
set_option hygiene false in
local macro_rules | `(tactic| walk_at "Run.frames") => `(tactic| refine ⟨_, rfl, _, _, _, _, _, rfl, hO, T.Run.cl, T.na_Run_frames, lk_Run_frames, ?_⟩)
set_option hygiene false in
local macro_rules | `(tactic| walk_at "Run.left") => `(tactic| refine ⟨_, rfl, _, _, _, _, _, rfl, hO, T.Run.cl, T.na_Run_left, lk_Run_left, ?_⟩)
set_option hygiene false in
local macro_rules | `(tactic| walk_at "Run.prints") => `(tactic| refine ⟨_, rfl, _, _, _, _, _, rfl, hO, T.Run.cl, T.na_Run_prints, lk_Run_prints, ?_⟩)
set_option hygiene false in
local macro_rules | `(tactic| walk_at "Run.end") => `(tactic| refine ⟨_, rfl, _, _, _, _, _, rfl, hO, T.Run.cl, T.na_Run_end, lk_Run_end, ?_⟩)
set_option hygiene false in
local macro_rules | `(tactic| walk_at "Machine.left") => `(tactic| refine ⟨_, rfl, _, _, _, _, _, rfl, hO, T.Machine.cl, T.na_Machine_left, lk_Machine_left, ?_⟩)
set_option hygiene false in
local macro_rules | `(tactic| walk_at "Machine.prints") => `(tactic| refine ⟨_, rfl, _, _, _, _, _, rfl, hO, T.Machine.cl, T.na_Machine_prints, lk_Machine_prints, ?_⟩)
set_option hygiene false in
local macro_rules | `(tactic| walk_at "Machine.pieces") => `(tactic| refine ⟨_, rfl, _, _, _, _, _, rfl, hO, T.Machine.cl, T.na_Machine_pieces, lk_Machine_pieces, ?_⟩)
set_option hygiene false in
local macro_rules | `(tactic| walk_at "Machine.kept") => `(tactic| refine ⟨_, rfl, _, _, _, _, _, rfl, hO, T.Machine.cl, T.na_Machine_kept, lk_Machine_kept, ?_⟩)
set_option hygiene false in
local macro_rules | `(tactic| walk_at "Machine.most") => `(tactic| refine ⟨_, rfl, _, _, _, _, _, rfl, hO, T.Machine.cl, T.na_Machine_most, lk_Machine_most, ?_⟩)
set_option hygiene false in
local macro_rules | `(tactic| walk_at "Piece.kind") => `(tactic| refine ⟨_, rfl, _, _, _, _, _, rfl, hO, T.Piece.cl, T.na_Piece_kind, lk_Piece_kind, ?_⟩)
set_option hygiene false in
local macro_rules | `(tactic| walk_at "Piece.handler") => `(tactic| refine ⟨_, rfl, _, _, _, _, _, rfl, hO, T.Piece.cl, T.na_Piece_handler, lk_Piece_handler, ?_⟩)
set_option hygiene false in
local macro_rules | `(tactic| walk_at "Piece.frames") => `(tactic| refine ⟨_, rfl, _, _, _, _, _, rfl, hO, T.Piece.cl, T.na_Piece_frames, lk_Piece_frames, ?_⟩)
set_option hygiene false in
local macro_rules | `(tactic| walk_at "Piece.distance") => `(tactic| refine ⟨_, rfl, _, _, _, _, _, rfl, hO, T.Piece.cl, T.na_Piece_distance, lk_Piece_distance, ?_⟩)
set_option hygiene false in
local macro_rules | `(tactic| walk_at "Piece.table") => `(tactic| refine ⟨_, rfl, _, _, _, _, _, rfl, hO, T.Piece.cl, T.na_Piece_table, lk_Piece_table, ?_⟩)
set_option hygiene false in
local macro_rules | `(tactic| walk_at "Runner.blocks") => `(tactic| refine ⟨_, rfl, _, _, _, _, _, rfl, hO, T.Runner.cl, T.na_Runner_blocks, lk_Runner_blocks, ?_⟩)
set_option hygiene false in
local macro_rules | `(tactic| walk_at "Runner.left") => `(tactic| refine ⟨_, rfl, _, _, _, _, _, rfl, hO, T.Runner.cl, T.na_Runner_left, lk_Runner_left, ?_⟩)
set_option hygiene false in
local macro_rules | `(tactic| walk_at "Runner.prints") => `(tactic| refine ⟨_, rfl, _, _, _, _, _, rfl, hO, T.Runner.cl, T.na_Runner_prints, lk_Runner_prints, ?_⟩)
set_option hygiene false in
local macro_rules | `(tactic| walk_at "Runner.kept") => `(tactic| refine ⟨_, rfl, _, _, _, _, _, rfl, hO, T.Runner.cl, T.na_Runner_kept, lk_Runner_kept, ?_⟩)
set_option hygiene false in
local macro_rules | `(tactic| walk_at "Runner.end") => `(tactic| refine ⟨_, rfl, _, _, _, _, _, rfl, hO, T.Runner.cl, T.na_Runner_end, lk_Runner_end, ?_⟩)
set_option hygiene false in
local macro_rules | `(tactic| walk_at "Runner.pieces") => `(tactic| refine ⟨_, rfl, _, _, _, _, _, rfl, hO, T.Runner.cl, T.na_Runner_pieces, lk_Runner_pieces, ?_⟩)
set_option hygiene false in
local macro_rules | `(tactic| walk_at "Runner.rows") => `(tactic| refine ⟨_, rfl, _, _, _, _, _, rfl, hO, T.Runner.cl, T.na_Runner_rows, lk_Runner_rows, ?_⟩)
set_option hygiene false in
local macro_rules | `(tactic| walk_at "Runner.at") => `(tactic| refine ⟨_, rfl, _, _, _, _, _, rfl, hO, T.Runner.cl, T.na_Runner_at, lk_Runner_at, ?_⟩)
set_option hygiene false in
local macro_rules | `(tactic| walk_at "Runner.bindings") => `(tactic| refine ⟨_, rfl, _, _, _, _, _, rfl, hO, T.Runner.cl, T.na_Runner_bindings, lk_Runner_bindings, ?_⟩)
set_option hygiene false in
local macro_rules | `(tactic| walk_at "Runner.operands") => `(tactic| refine ⟨_, rfl, _, _, _, _, _, rfl, hO, T.Runner.cl, T.na_Runner_operands, lk_Runner_operands, ?_⟩)
set_option hygiene false in
local macro_rules | `(tactic| walk_at "Code.blocks") => `(tactic| refine ⟨_, rfl, _, _, _, _, _, rfl, hO, T.Code.cl, T.na_Code_blocks, lk_Code_blocks, ?_⟩)
set_option hygiene false in
local macro_rules | `(tactic| walk_at "Compiler.blocks") => `(tactic| refine ⟨_, rfl, _, _, _, _, _, rfl, hO, T.Compiler.cl, T.na_Compiler_blocks, lk_Compiler_blocks, ?_⟩)
set_option hygiene false in
local macro_rules | `(tactic| walk_at "Compiler.queue") => `(tactic| refine ⟨_, rfl, _, _, _, _, _, rfl, hO, T.Compiler.cl, T.na_Compiler_queue, lk_Compiler_queue, ?_⟩)
section
variable {P : Program} {w : World} {K : PySem.W.Frag} {mg : Str → Option Value} {base : Heap}
def spRHandle (K : PySem.W.Frag) : Sp := fun vs H Q _ => ∃ (H0 : Hp) (p : Addr) (code : List (List Rw)) (st st' : RS) (a b c : Nat) (o : Nm) (vr : V), vs = [.ref p, vr] ∧ RO (He.ga K "Runner") (He.ga K "Piece") H0 H p code st ∧ RwAt H0 (.handle a b c o) vr ∧ rHandle code a b c o st = some st' ∧
  ∀ H', RO (He.ga K "Runner") (He.ga K "Piece") H0 H' p code st' → Q .non H'
theorem ok_rhandle (T : Fx K w mg) : FnOk P w K mg base CX0 3 (He.ma K (He.ga K "Runner") "handle") (fdOf K ("Runner", some "handle")) ["self", "row"] (spRHandle K) := by
  have G_Runner_save := ok_save (P := P) (base := base) T
  have G_Runner_enter := ok_enter (P := P) (base := base) T
  have G_Runner_add_piece := ok_radd (P := P) (base := base) T
  have G_Piece__init__ := ok_PInit (P := P) (base := base) T
  refine T.Runner_handle.F.ok sc_Runner_handle (fun vs H Q E h => ?_) (fun cdv A outer s H vs Q E hr h => ?_)
  · obtain ⟨_, _, _, _, _, _, _, _, _, _, rfl, _⟩ := h
    rfl
  · obtain ⟨H0, p, code, st, st', a, b, c, o, vr, rfl, ⟨dx, bl, lp, lo, pl, rl, vb, ve, vs, os, fls, kept, R⟩, hrow, hd, k⟩ := h
    refine ⟨_, (pss_cons (ps_expr (pe_meth0 (pv 0) T.Runner.cl T.Runner_save.m G_Runner_save (hr.mono (by omega)) T.Runner_save.b .nil pass0))
      (pss_cons (ps_set (i := 2) sc_Runner_handle.nd rfl (Or.inl rfl) (pe_fld (pv 0) rfl))
      (pss_cons (ps_expr (pe_meth (pv 0) T.Runner.cl T.Runner_add_piece.m G_Runner_add_piece (hr.mono (by omega)) T.Runner_add_piece.b .nil pass0 (pa_cons (pe_make T.Piece.mkr G_Piece__init__ (hr.mono (by omega)) rfl T.Piece.mg T.Piece__init__.b .nil pass0 (pa_cons (C8.pe_gc rfl T.g_HANDLER) (pa_cons (pe_tup (pa_cons (pe_ix ix_tup (pv 1) pe_int (fun _ _ => rfl)) (pa_cons (pe_ix ix_tup (pv 1) pe_int (fun _ _ => rfl)) (pa_cons (pv 2) pa_nil)))) (pa_cons (pe_lst pa_nil) (pa_cons pe_int pa_nil))))) pa_nil)))
      (pss_one (ps_expr (pe_meth (pv 0) T.Runner.cl T.Runner_enter.m G_Runner_enter (hr.mono (by omega)) T.Runner_enter.b .nil pass0 (pa_cons (pe_ix ix_tup (pv 1) pe_int (fun _ _ => rfl)) (pa_cons (pv 2) pa_nil)))))))), ?_⟩
    unfold rHandle at hd
    cases hp : st.pcs with
    | nil => rw [hp] at hd; cases hd
    | cons m1 rest =>
      obtain ⟨h, fr⟩ := m1
      rw [hp] at hd
      obtain ⟨hl1, hd⟩ := gd (show (if 900 < fr.length then none else if 800 < rest.length then none else if tblFits h o = true then (match code[a]? with
        | some rows => some { st with rows := rows, at_ := 0, ops := [], pcs := (some ⟨b, c, st.bd, o⟩, []) :: (h, ⟨st.rows, st.at_, st.bd, st.ops⟩ :: fr) :: rest }
        | none => none) else none) = some st' from hd)
      obtain ⟨hl2, hd⟩ := gd hd
      obtain ⟨hfit, hd⟩ := gd2 hd
      cases hc : code[a]? with
      | none => rw [hc] at hd; cases hd
      | some rows =>
        rw [hc] at hd
        cases hd
        obtain ⟨tr, d, e, rfl, hr1, hr2, hr3⟩ := hrow
        refine ⟨_, rfl, p, dx, _, rfl, R.ob, no_Runner_save, H0, p, dx, bl, lp, lo, pl, rl, code, st, vb, ve, vs, os, fls, kept, h, fr, rest, rfl, R, hp, Nat.le_of_not_lt hl1, fun H1 kr R1 => ?_⟩
        have hO := R1.ob
        walk_at "Runner.bindings"
        have hr1a := R1.pre.s0 _ _ hr1
        refine ⟨_, rfl, p, dx, _, rfl, hO, no_Runner_add_piece, _, rfl, tr, _, _, _, rfl, rfl, SqT.of hr1a, rfl, _, rfl, tr, _, _, _, rfl, rfl, SqT.of hr1a, rfl, _, rfl, by show 3 ≤ sizeLine; decide, fun t nt => ⟨Nat.zero_le _, fun l nl => fun q dq nq ndq ned => ?_⟩⟩
        have s1 := same_new nt (.tup [V.int (b : Nat), V.ref d, vb])
        have s2 := s1.trans (same_new nl (.lst []))
        have ht := (same_new nl (.lst [])) _ _ (upd_same (H := H1) (a := t) (o := .tup [V.int (b : Nat), V.ref d, vb]))
        have hl := upd_same (H := upd H1 t (.tup [V.int (b : Nat), V.ref d, vb])) (a := l) (o := .lst [])
        generalize upd (upd H1 t (.tup [V.int (b : Nat), V.ref d, vb])) l (.lst []) = H2 at s2 ht hl nq ndq
        have s3 : Same H2 (upd (upd H2 dq (.own q)) q (.ins (He.ga K "Piece") dq [])) := (same_new ndq (.own q)).trans (same_new (by rw [upd_ne ned.symm]; exact nq) _)
        refine ⟨q, dq, l, .int 1, .ref t, .int 0, rfl, upd_same, s3 _ _ hl, fun fl tb nfl ntb nft => ⟨rfl, ?_⟩⟩
        have nqf : fl ≠ q := fun z => by rw [z, upd_same] at nfl; cases nfl
        have s4 : Same H2 (upd (upd (upd (upd (upd H2 dq (.own q)) q (.ins (He.ga K "Piece") dq [])) fl (.lst [])) tb (.dK [])) q (.ins (He.ga K "Piece") dq (flPiece (.int 1) (.ref t) (.ref fl) (.int 0) (.ref tb)))) := by
          refine same_upd (s3.trans ((same_new nfl _).trans (same_new ?_ _))) nq
          rw [upd_ne nft.symm]
          exact ntb
        have hfl4 : (upd (upd (upd (upd (upd H2 dq (.own q)) q (.ins (He.ga K "Piece") dq [])) fl (.lst [])) tb (.dK [])) q (.ins (He.ga K "Piece") dq (flPiece (.int 1) (.ref t) (.ref fl) (.int 0) (.ref tb)))) fl = some (.lst []) := by
          rw [upd_ne nqf, upd_ne nft]
          exact upd_same
        have hq4 : (upd (upd (upd (upd (upd H2 dq (.own q)) q (.ins (He.ga K "Piece") dq [])) fl (.lst [])) tb (.dK [])) q (.ins (He.ga K "Piece") dq (flPiece (.int 1) (.ref t) (.ref fl) (.int 0) (.ref tb)))) q = some (.ins (He.ga K "Piece") dq (flPiece (.int 1) (.ref t) (.ref fl) (.int 0) (.ref tb))) := upd_same
        generalize upd (upd (upd (upd (upd H2 dq (.own q)) q (.ins (He.ga K "Piece") dq [])) fl (.lst [])) tb (.dK [])) q (.ins (He.ga K "Piece") dq (flPiece (.int 1) (.ref t) (.ref fl) (.int 0) (.ref tb))) = H4 at s4 hfl4 hq4
        have sb := s2.trans s4
        refine ⟨H0, H1, p, q, dq, fl, tb, code, _, .ref t, h, ⟨b, c, st.bd, o⟩, ⟨st.rows, st.at_, st.bd, st.ops⟩ :: fr, rest, rfl, ⟨_, _, _, _, _, _, _, _, _, _, _, _, R1⟩, sb, s2.free nq, s2.free (s3.free nfl), rfl, Nat.le_of_not_lt hl2, hfit, hq4, hfl4, ⟨t, d, e, vb, rfl, s4 _ _ ht, hr2, hr3, R1.pre.bd.mono (.same sb)⟩, fun H5 t5 R5 => ?_⟩
        obtain ⟨dx5, bl5, lp5, lo5, pl5, rl5, vb5, ve5, vs5, os5, fls5, kept5, R5⟩ := R5
        obtain ⟨bvs, hbl, hbs⟩ := R5.pre.cod
        obtain ⟨rl', hw1, hw2⟩ := code_row hbs hc
        refine ⟨_, rfl, p, dx5, _, rfl, R5.ob, no_Runner_enter, _, rfl, tr, _, _, _, rfl, rfl, SqT.of (R5.pre.s0 _ _ hr1), rfl, _, rfl, p, dx5, bl5, rl', _, bvs, a, vb, rfl, R5.ob, lk_Runner_blocks, R5.pre.s0 _ _ hbl, hw1, by show 10 ≤ 900; decide, fun lo' nlo => ?_⟩
        have R6 := R5.enter (bd' := st.bd) (vb' := vb) hw2 (R1.pre.bd.mono ((Tx.same sb).trans t5)) nlo rfl
        exact k _ ⟨_, _, _, _, _, _, _, _, _, _, _, _, R6⟩
end
end AF

namespace AF
open PySem PySem.Spec PyProof.Rows L2
local macro_rules | `(tactic| walk_at "skip") => `(tactic| repeat (refine ⟨_, rfl, rfl, _, rfl, br_f (by decide +kernel) ?_⟩))
local macro_rules | `(tactic| walk_at "hit") => `(tactic| refine ⟨_, rfl, rfl, _, rfl, br_t (by decide +kernel) ?_⟩)
set_option hygiene false in
local macro_rules | `(tactic| walk_at "Run.current") => `(tactic| refine ⟨_, rfl, _, _, _, _, _, rfl, hO, T.Run.cl, T.na_Run_current, lk_Run_current, ?_⟩)
set_option hygiene false in
local macro_rules | `(tactic| walk_at "Run.frames") => `(tactic| refine ⟨_, rfl, _, _, _, _, _, rfl, hO, T.Run.cl, T.na_Run_frames, lk_Run_frames, ?_⟩)
set_option hygiene false in
local macro_rules | `(tactic| walk_at "Run.left") => `(tactic| refine ⟨_, rfl, _, _, _, _, _, rfl, hO, T.Run.cl, T.na_Run_left, lk_Run_left, ?_⟩)
set_option hygiene false in
local macro_rules | `(tactic| walk_at "Run.prints") => `(tactic| refine ⟨_, rfl, _, _, _, _, _, rfl, hO, T.Run.cl, T.na_Run_prints, lk_Run_prints, ?_⟩)
set_option hygiene false in
local macro_rules | `(tactic| walk_at "Run.end") => `(tactic| refine ⟨_, rfl, _, _, _, _, _, rfl, hO, T.Run.cl, T.na_Run_end, lk_Run_end, ?_⟩)
set_option hygiene false in
local macro_rules | `(tactic| walk_at "Machine.left") => `(tactic| refine ⟨_, rfl, _, _, _, _, _, rfl, hO, T.Machine.cl, T.na_Machine_left, lk_Machine_left, ?_⟩)
set_option hygiene false in
local macro_rules | `(tactic| walk_at "Machine.prints") => `(tactic| refine ⟨_, rfl, _, _, _, _, _, rfl, hO, T.Machine.cl, T.na_Machine_prints, lk_Machine_prints, ?_⟩)
set_option hygiene false in
local macro_rules | `(tactic| walk_at "Machine.pieces") => `(tactic| refine ⟨_, rfl, _, _, _, _, _, rfl, hO, T.Machine.cl, T.na_Machine_pieces, lk_Machine_pieces, ?_⟩)
set_option hygiene false in
local macro_rules | `(tactic| walk_at "Machine.kept") => `(tactic| refine ⟨_, rfl, _, _, _, _, _, rfl, hO, T.Machine.cl, T.na_Machine_kept, lk_Machine_kept, ?_⟩)
set_option hygiene false in
local macro_rules | `(tactic| walk_at "Machine.most") => `(tactic| refine ⟨_, rfl, _, _, _, _, _, rfl, hO, T.Machine.cl, T.na_Machine_most, lk_Machine_most, ?_⟩)
set_option hygiene false in
local macro_rules | `(tactic| walk_at "Piece.kind") => `(tactic| refine ⟨_, rfl, _, _, _, _, _, rfl, hO, T.Piece.cl, T.na_Piece_kind, lk_Piece_kind, ?_⟩)
set_option hygiene false in
local macro_rules | `(tactic| walk_at "Piece.handler") => `(tactic| refine ⟨_, rfl, _, _, _, _, _, rfl, hO, T.Piece.cl, T.na_Piece_handler, lk_Piece_handler, ?_⟩)
set_option hygiene false in
local macro_rules | `(tactic| walk_at "Piece.frames") => `(tactic| refine ⟨_, rfl, _, _, _, _, _, rfl, hO, T.Piece.cl, T.na_Piece_frames, lk_Piece_frames, ?_⟩)
set_option hygiene false in
local macro_rules | `(tactic| walk_at "Piece.distance") => `(tactic| refine ⟨_, rfl, _, _, _, _, _, rfl, hO, T.Piece.cl, T.na_Piece_distance, lk_Piece_distance, ?_⟩)
set_option hygiene false in
local macro_rules | `(tactic| walk_at "Piece.table") => `(tactic| refine ⟨_, rfl, _, _, _, _, _, rfl, hO, T.Piece.cl, T.na_Piece_table, lk_Piece_table, ?_⟩)
set_option hygiene false in
local macro_rules | `(tactic| walk_at "Runner.blocks") => `(tactic| refine ⟨_, rfl, _, _, _, _, _, rfl, hO, T.Runner.cl, T.na_Runner_blocks, lk_Runner_blocks, ?_⟩)
set_option hygiene false in
local macro_rules | `(tactic| walk_at "Runner.left") => `(tactic| refine ⟨_, rfl, _, _, _, _, _, rfl, hO, T.Runner.cl, T.na_Runner_left, lk_Runner_left, ?_⟩)
set_option hygiene false in
local macro_rules | `(tactic| walk_at "Runner.prints") => `(tactic| refine ⟨_, rfl, _, _, _, _, _, rfl, hO, T.Runner.cl, T.na_Runner_prints, lk_Runner_prints, ?_⟩)
set_option hygiene false in
local macro_rules | `(tactic| walk_at "Runner.kept") => `(tactic| refine ⟨_, rfl, _, _, _, _, _, rfl, hO, T.Runner.cl, T.na_Runner_kept, lk_Runner_kept, ?_⟩)
set_option hygiene false in
local macro_rules | `(tactic| walk_at "Runner.end") => `(tactic| refine ⟨_, rfl, _, _, _, _, _, rfl, hO, T.Runner.cl, T.na_Runner_end, lk_Runner_end, ?_⟩)
set_option hygiene false in
local macro_rules | `(tactic| walk_at "Runner.pieces") => `(tactic| refine ⟨_, rfl, _, _, _, _, _, rfl, hO, T.Runner.cl, T.na_Runner_pieces, lk_Runner_pieces, ?_⟩)
set_option hygiene false in
local macro_rules | `(tactic| walk_at "Runner.rows") => `(tactic| refine ⟨_, rfl, _, _, _, _, _, rfl, hO, T.Runner.cl, T.na_Runner_rows, lk_Runner_rows, ?_⟩)
set_option hygiene false in
local macro_rules | `(tactic| walk_at "Runner.at") => `(tactic| refine ⟨_, rfl, _, _, _, _, _, rfl, hO, T.Runner.cl, T.na_Runner_at, lk_Runner_at, ?_⟩)
set_option hygiene false in
local macro_rules | `(tactic| walk_at "Runner.bindings") => `(tactic| refine ⟨_, rfl, _, _, _, _, _, rfl, hO, T.Runner.cl, T.na_Runner_bindings, lk_Runner_bindings, ?_⟩)
set_option hygiene false in
local macro_rules | `(tactic| walk_at "Runner.operands") => `(tactic| refine ⟨_, rfl, _, _, _, _, _, rfl, hO, T.Runner.cl, T.na_Runner_operands, lk_Runner_operands, ?_⟩)
set_option hygiene false in
local macro_rules | `(tactic| walk_at "Code.blocks") => `(tactic| refine ⟨_, rfl, _, _, _, _, _, rfl, hO, T.Code.cl, T.na_Code_blocks, lk_Code_blocks, ?_⟩)
set_option hygiene false in
local macro_rules | `(tactic| walk_at "Compiler.blocks") => `(tactic| refine ⟨_, rfl, _, _, _, _, _, rfl, hO, T.Compiler.cl, T.na_Compiler_blocks, lk_Compiler_blocks, ?_⟩)
set_option hygiene false in
local macro_rules | `(tactic| walk_at "Compiler.queue") => `(tactic| refine ⟨_, rfl, _, _, _, _, _, rfl, hO, T.Compiler.cl, T.na_Compiler_queue, lk_Compiler_queue, ?_⟩)
section
variable {PC RC p dx bl lp lo pl rl : Addr} {H0 H : Hp} {code : List (List Rw)} {st : RS} {vb ve : V} {vs os : List V} {fls : List Addr} {kept : Int}
/-- the pieces below, in a new list -/
theorem RAt.cutTo {rest : List RP} {q fl pl2 : Addr} {vs' : List V} {fls' : List Addr} (R : RAt RC PC H0 H p code st dx bl lp lo pl rl vb ve (.ref q :: vs') os (fl :: fls') kept) (hr : RPcs PC p H0 H rest vs' fls') (n : H pl2 = none) :
    RPre PC H0 (upd H pl2 (.lst vs'.reverse)) p code { st with pcs := rest } bl lp lo pl2 rl vb ve vs' os fls' := by
  have s := same_new n (.lst vs'.reverse)
  have P := R.pre.ext s
  have nd := List.nodup_cons.mp P.nd
  have nd2 := List.nodup_cons.mp nd.2
  have nd3 := List.nodup_cons.mp nd2.2
  have nd4 := List.nodup_cons.mp nd3.2
  have n1 : lp ≠ pl2 := ne_of_none R.pre.pr n
  have n2 : lo ≠ pl2 := ne_of_none R.pre.op n
  refine ⟨P.s0, P.np, P.nl, P.no, R.pre.s0.free n, fun x hx => P.nf x (List.mem_cons_of_mem _ hx), ?_, P.ip, P.pr, P.op, upd_same, P.cod, P.row, P.bd, P.opr, P.en, hr.mono (.same s) fun _ _ _ z => s _ _ z, P.pb⟩
  refine List.nodup_cons.mpr ⟨fun z => ?_, List.nodup_cons.mpr ⟨fun z => ?_, List.nodup_cons.mpr ⟨fun z => ?_, nd4.2⟩⟩⟩
  · rcases List.mem_cons.mp z with z | z
    · exact nd.1 (by rw [z]; simp)
    · rcases List.mem_cons.mp z with z | z
      · exact n1 z
      · exact nd.1 (List.mem_cons_of_mem _ (List.mem_cons_of_mem _ (List.mem_cons_of_mem _ z)))
  · rcases List.mem_cons.mp z with z | z
    · exact n2 z
    · exact nd2.1 (List.mem_cons_of_mem _ (List.mem_cons_of_mem _ z))
  · obtain ⟨xs, e⟩ := hr.lst pl2 z
    rw [n] at e; cases e
end
section
variable {P : Program} {w : World} {K : PySem.W.Frag} {mg : Str → Option Value} {base : Heap}
def spFrozen (K : PySem.W.Frag) : Sp := fun vs H Q _ => ∃ (q dq fl : Addr) (vk vh vd vt : V) (xs : List V), vs = [.ref q] ∧ H q = some (.ins (He.ga K "Piece") dq (flPiece vk vh (.ref fl) vd vt)) ∧ H fl = some (.lst xs) ∧ ∀ H' t, Same H H' → Q (.ref t) H'
theorem ok_frozen (T : Fx K w mg) : FnOk P w K mg base CX0 1 (He.ma K (He.ga K "Piece") "frozen") (fdOf K ("Piece", some "frozen")) ["self"] (spFrozen K) := by
  refine T.Piece_frozen.F.ok sc_Piece_frozen (fun vs H Q E h => ?_) (fun cdv A outer s H vs Q E hr h => ?_)
  · obtain ⟨_, _, _, _, _, _, _, _, rfl, _⟩ := h
    rfl
  · obtain ⟨q, dq, fl, vk, vh, vd, vt, xs, rfl, hO, hf, k⟩ := h
    refine ⟨_, (pss_one (ps_ret (pe_tup (pa_cons (pe_fld (pv 0) rfl) (pa_cons (pe_fld (pv 0) rfl) (pa_cons (pe_callTy call_tuple_of (by rfl) T.n_tuple (by decide +kernel) (pa_cons (pe_fld (pv 0) rfl) pa_nil)) (pa_cons (pe_fld (pv 0) rfl) pa_nil))))))), ?_⟩
    walk_at "Piece.kind"
    walk_at "Piece.handler"
    walk_at "Piece.frames"
    refine ⟨fl, _, rfl, .inl ⟨SqL.of hf, fun x nx => ?_⟩⟩
    have s1 := same_new nx (.tup xs)
    have hO := s1 _ _ hO
    walk_at "Piece.distance"
    exact ⟨by show 4 ≤ sizeLine; decide, fun t nt => k _ t (s1.trans (same_new nt _))⟩
def spRAsk (K : PySem.W.Frag) : Sp := fun vs H Q _ => ∃ (H0 : Hp) (p : Addr) (code : List (List Rw)) (st st' : RS) (o : Nm), vs = [.ref p, .str o.s] ∧ RO (He.ga K "Runner") (He.ga K "Piece") H0 H p code st ∧ rAsk code o st = some st' ∧
  ∀ H', RO (He.ga K "Runner") (He.ga K "Piece") H0 H' p code st' → Q .non H'
theorem ok_rask (T : Fx K w mg) : FnOk P w K mg base CX0 2 (He.ma K (He.ga K "Runner") "ask") (fdOf K ("Runner", some "ask")) ["self", "name"] (spRAsk K) := by
  have G_Runner_save := ok_save (P := P) (base := base) T
  have G_Runner_enter := ok_enter (P := P) (base := base) T
  have G_Runner_counted := ok_rcounted (P := P) (base := base) T
  have G_Piece_frozen := ok_frozen (P := P) (base := base) T
  refine T.Runner_ask.F.ok sc_Runner_ask (fun vs H Q E h => ?_) (fun cdv A outer s H vs Q E hr h => ?_)
  · obtain ⟨_, _, _, _, _, _, rfl, _⟩ := h
    rfl
  · obtain ⟨H0, p, code, st, st', o, rfl, ⟨dx, bl, lp, lo, pl, rl, vb, ve, vs, os, fls, kept, R⟩, hd, k⟩ := h
    have hu := hu_of hr
    refine ⟨_, (pss_cons (ps_set (i := 2) sc_Runner_ask.nd rfl (by first | exact Or.inl rfl | exact Or.inr rfl) (pe_bm0 PySem.F.plainAttrs_list PySem.F.slot_list_pop PySem.F.type_list_pop mt_pop (pe_fld (pv 0) rfl)))
      (pss_cons (ps_if (pt_not (pt_val (pe_meth0 (pv 0) T.Runner.cl T.Runner_counted.m G_Runner_counted (hr.mono (by omega)) T.Runner_counted.b .nil pass0)))
        (pss_one ps_retN)
        pss_nil)
      (pss_cons (ps_set (i := 3) sc_Runner_ask.nd rfl (by first | exact Or.inl rfl | exact Or.inr rfl) (pe_fld (pe_ix ix_list (pe_fld (pv 0) rfl) (pe_un un_neg pe_int) (fun _ _ => rfl)) rfl))
      (pss_cons (ps_if (pt_cmp (pc_dnotin hu (pv 1) (pv 3)))
        (pss_cons (ps_fld (pv 0) (pe_tup (pa_cons pe_str (pa_cons (pv 1) pa_nil))) rfl)
        (pss_one ps_retN))
        pss_nil)
      (pss_cons (ps_expr (pe_meth0 (pv 0) T.Runner.cl T.Runner_save.m G_Runner_save (hr.mono (by omega)) T.Runner_save.b .nil pass0))
      (pss_cons (ps_set (i := 4) sc_Runner_ask.nd rfl (by first | exact Or.inl rfl | exact Or.inr rfl) (pe_op op_sub (pe_op op_sub (pe_callB call_len_seq (by rfl) T.n_len (by decide +kernel) (pa_cons (pe_fld (pv 0) rfl) pa_nil)) pe_int) (pe_dget hu (pv 3) (pv 1) (fun _ _ => rfl))))
      (pss_cons (ps_set (i := 5) sc_Runner_ask.nd rfl (by first | exact Or.inl rfl | exact Or.inr rfl) (pe_fld (pe_ix ix_list (pe_fld (pv 0) rfl) (pv 4) (fun _ _ => rfl)) rfl))
      (pss_cons (ps_asg (pe_dget hu (pe_ix ix_tup (pv 5) pe_int (fun _ _ => rfl)) (pv 1) (fun _ _ => rfl)) (pg_tup rfl (pgs_cons (pg_name (i := 6) sc_Runner_ask.nd rfl (by first | exact Or.inl rfl | exact Or.inr rfl)) (pgs_cons (pg_name (i := 7) sc_Runner_ask.nd rfl (by first | exact Or.inl rfl | exact Or.inr rfl)) pgs_nil))))
      (pss_cons (ps_set (i := 8) sc_Runner_ask.nd rfl (by first | exact Or.inl rfl | exact Or.inr rfl) (C8.pe_gc rfl T.g_UNIT_runner))
      (pss_cons (ps_if (pt_truth (pv 7) (by intro _; rfl))
        pss_never
        (pss_cons (ps_set (i := 8) sc_Runner_ask.nd rfl (by first | exact Or.inl rfl | exact Or.inr rfl) (pe_tup (pa_cons pe_str (pa_cons (pe_callTy call_tuple_of (by rfl) T.n_tuple (by decide +kernel) (pa_cons (pe_lc (own := [("piece", 9)]) rfl sc_Runner_ask.nd (pi_list (pe_slice sl_list (pe_fld (pv 0) rfl) (po_some (pv 4)) po_none)) (blkOk_by (sc := defScope s_Runner_ask) (own := [("piece", 9)]) (N := ["self", "name", "value", "table", "place", "handler", "block", "in_place", "answer", "piece"]) (by decide +kernel)) (fun _ _ _ _ _ => pg_name (i := 9) sc_Runner_ask.nd rfl (by first | exact Or.inl rfl | exact Or.inr rfl)) (fun _ _ _ _ _ => pts_nil) (fun _ _ _ _ _ => (pe_meth0 (pv 9) T.Piece.cl T.Piece_frozen.m G_Piece_frozen (hr.mono (by omega)) T.Piece_frozen.b .nil pass0))) pa_nil)) pa_nil))))
        (pss_cons (ps_fld (pv 0) (pe_slice sl_list (pe_fld (pv 0) rfl) po_none (po_some (pv 4))) rfl)
        (pss_one (ps_fldaug (pv 0) pe_int in_add)))))
      (pss_one (ps_expr (pe_meth (pv 0) T.Runner.cl T.Runner_enter.m G_Runner_enter (hr.mono (by omega)) T.Runner_enter.b .nil pass0 (pa_cons (pv 6) (pa_cons (pe_tup (pa_cons (pv 8) (pa_cons (pe_tup (pa_cons (pv 2) (pa_cons (pe_ix ix_tup (pv 5) pe_int (fun _ _ => rfl)) pa_nil))) pa_nil))) pa_nil))))))))))))))), ?_⟩
    unfold rAsk at hd
    have hop := R.pre.op
    have hopr := R.pre.opr
    cases ho : st.ops with
    | nil => rw [ho] at hd; cases hd
    | cons i ops =>
      rw [ho] at hd hopr
      cases hopr with
      | @cons _ vv _ us hvv hus =>
      cases hl : st.left with
      | zero => rw [hl] at hd; cases hd
      | succ l =>
        rw [hl] at hd
        rw [List.reverse_cons] at hop
        have hO := R.ob
        walk_at "Runner.operands"
        refine ⟨.inl ⟨rfl, _, SqL.of hop⟩, lo, _, _, rfl, rfl, hop, rev_last, ?_⟩
        rw [List.dropLast_concat]
        have R1 := R.opsTo hus
        have k1 : Kr p H (upd H lo (.lst us.reverse)) := .lst R.pre.op
        have hv1 := hvv.mono k1.tx
        generalize upd H lo (.lst us.reverse) = H1 at R1 k1 hv1
        refine ⟨_, rfl, p, dx, _, rfl, R1.ob, no_Runner_counted, H0, p, dx, bl, lp, lo, pl, rl, code, _, vb, ve, vs, us, fls, kept, l, rfl, R1, hl, fun H2 k2 R2 => ⟨_, rfl, br_f rfl ?_⟩⟩
        have hv2 := hv1.mono k2.tx
        have R2 : RAt (He.ga K "Runner") (He.ga K "Piece") H0 H2 p code (⟨st.rows, st.at_, st.bd, ops, st.pcs, l, st.out, st.room, st.en⟩ : RS) dx bl lp lo pl rl vb ve vs us fls kept := R2
        have pc := R2.pre.pc
        have pc : RPcs (He.ga K "Piece") p H0 H2 st.pcs vs fls := pc
        cases hp : st.pcs with
        | nil => rw [hp] at hd; cases hd
        | cons m1 rest =>
          obtain ⟨h, fr⟩ := m1
          rw [hp] at hd pc
          obtain ⟨q, dq, fl, tb, vs2, fls2, vh, fs, rfl, rfl, nq, hq, hh, hfl, hrr, htb, hrest⟩ := pc
          have hO := R2.ob
          walk_at "Runner.pieces"
          refine ⟨_, rfl, pl, _, _, _, rfl, rfl, SqL.of R2.pre.pi, last_rev, q, _, dq, _, _, rfl, hq, T.Piece.cl, T.na_Piece_table, lk_Piece_table, ?_⟩
          cases h with
          | none =>
            cases hd
            refine ⟨_, rfl, _, rfl, tb, none, rfl, .inl ⟨_, .inr o.s, .inl htb, rfl, rfl⟩, ?_⟩
            refine ⟨_, rfl, br_t rfl ?_⟩
            refine ⟨_, rfl, by show 2 ≤ sizeLine; decide, fun t nt => ?_⟩
            have s1 := same_new nt (.tup [V.str "unhandled", V.str o.s])
            have R3 := R2.ext s1
            refine wr_Runner_end (K := K) T rfl R3.ob ?_
            have P2 : RPre (He.ga K "Piece") H0 (upd H2 t (.tup [V.str "unhandled", V.str o.s])) p code { st with ops := ops, left := l, en := some (.unh o) } bl lp lo pl rl vb (.ref t) (V.ref q :: vs2) us (fl :: fls2) := by
              have P := R3.pre
              exact ⟨P.s0, P.np, P.nl, P.no, P.nq, P.nf, P.nd, P.ip, P.pr, P.op, P.pi, P.cod, P.row, P.bd, P.opr, ⟨t, rfl, upd_same⟩, P.pc, P.pb⟩
            have R4 := P2.put (RC := He.ga K "Runner") (dx := dx) (kept := kept) rfl
            have R5 := R4
            rw [hp] at R5
            exact k _ ⟨_, _, _, _, _, _, _, _, _, _, _, _, R5⟩
          | some h =>
            obtain ⟨ho2, hd2⟩ := gd2 (show (if h.o = o then (if 900 < fr.length then none else match code[h.cl]? with
              | some rows => some { st with rows := rows, at_ := 0, bd := .cons .kept (.cons (.int i) h.bd), ops := [], left := l, pcs := rest }
              | none => none) else none) = some st' from hd)
            subst ho2
            obtain ⟨hl9, hd⟩ := gd hd2
            cases hc : code[h.cl]? with
            | none => rw [hc] at hd; cases hd
            | some rows =>
              rw [hc] at hd
              cases hd
              have hval : valV [((.inr h.o.s : L2.Key), V.int 0)] (.inr h.o.s) = some (.int 0) := by unfold valV; simp
              refine ⟨_, rfl, _, rfl, tb, some (.int 0), rfl, .inl ⟨_, .inr h.o.s, .inl htb, rfl, hval.symm⟩, ?_⟩
              refine ⟨_, rfl, br_f rfl ?_⟩
              refine ⟨_, rfl, p, dx, _, rfl, R2.ob, no_Runner_save, H0, p, dx, bl, lp, lo, pl, rl, code, _, vb, ve, _, us, _, kept, some h, fr, rest, rfl, R2, hp, Nat.le_of_not_lt hl9, fun H3 k3 R3 => ?_⟩
              have R3 : RAt (He.ga K "Runner") (He.ga K "Piece") H0 H3 p code (⟨st.rows, st.at_, st.bd, ops, (some h, ⟨st.rows, st.at_, st.bd, ops⟩ :: fr) :: rest, l, st.out, st.room, st.en⟩ : RS) dx bl lp lo pl rl vb ve (V.ref q :: vs2) us (fl :: fls2) kept := R3
              have hv3 := hv2.mono k3.tx
              have htb3 := k3.dk htb
              have pc3 := R3.pre.pc
              obtain ⟨q3, dq3, fl3, tb3, vs3, fls3, vh3, fs3, e1, e2, nq3, hq3, hh3, hfl3, hrr3, htb3', hrest3⟩ := pc3
              cases e1
              cases e2
              have hO := R3.ob
              walk_at "Runner.pieces"
              refine ⟨pl, _, rfl, .inl (SqL.of R3.pre.pi), _, _, rfl, rfl, _, rfl, _, rfl, tb, .int 0, rfl, .inl ⟨_, .inr h.o.s, .inl htb3, rfl, hval.symm⟩, _, _, rfl, rfl, ?_⟩
              have epl : ((((V.ref q :: vs2).reverse.length : Nat) : Int) - 1 - 0) = ((vs2.length : Nat) : Int) := by rw [List.length_reverse, List.length_cons]; omega
              show gName 4 (.int ((((V.ref q :: vs2).reverse.length : Nat) : Int) - 1 - 0)) _ _ _
              rw [epl]
              have hat : (V.ref q :: vs2).reverse[vs2.length]? = some (.ref q) := by rw [List.reverse_cons, List.getElem?_append_right (by rw [List.length_reverse]; omega)]; simp
              walk_at "Runner.pieces"
              refine ⟨_, rfl, pl, _, _, _, rfl, rfl, SqL.of R3.pre.pi, atI_nat hat, q, _, dq3, _, _, rfl, hq3, T.Piece.cl, T.na_Piece_handler, lk_Piece_handler, ?_⟩
              obtain ⟨th, d, eh, vbh, rfl, hh1, hh2, hh4, hh5⟩ := hh3
              have hval2 : valV [((.inr h.o.s : L2.Key), V.ref eh)] (.inr h.o.s) = some (.ref eh) := by unfold valV; simp
              refine ⟨_, rfl, th, _, _, _, rfl, rfl, SqT.of hh1, rfl, _, rfl, d, .ref eh, rfl, .inl ⟨_, .inr h.o.s, .inl (R3.pre.s0 _ _ hh2), rfl, hval2.symm⟩, eh, _, rfl, SqT.of (R3.pre.s0 _ _ hh4), rfl, _, _, rfl, _, _, rfl, rfl, ?_⟩
              refine ⟨_, rfl, _, rfl, br_f rfl ?_⟩
              walk_at "Runner.pieces"
              refine ⟨_, rfl, _, rfl, pl, _, rfl, SqL.of R3.pre.pi, fun tk ntk => ?_⟩
              rw [cut_drop]
              have s1 := same_new ntk (.lst [V.ref q])
              have htk := upd_same (H := H3) (a := tk) (o := .lst [V.ref q])
              have R4 := R3.ext s1
              have hq4 := s1 _ _ hq3
              have hfl4 := s1 _ _ hfl3
              generalize upd H3 tk (.lst [V.ref q]) = H4 at s1 htk R4 hq4 hfl4
              refine ⟨tk, rfl, ⟨_, SqL.of htk⟩, fun D nD => ?_⟩
              refine lc_list (K := K) (a := tk) (xs := [.ref q]) (fun j H' => Same H4 H' ∧ ∃ acc, H' D = some (.lst acc) ∧ acc.length = j) ⟨same_new nD _, [], upd_same, rfl⟩ (fun j H' _ z => SqL.of (z.1 _ _ htk)) ?_ ?_
              · rintro j y H' hy ⟨s5, acc, hD, hacc⟩
                have hj : j < 1 := (List.getElem?_eq_some_iff.mp hy).1
                have ej : j = 0 := by omega
                subst ej
                have ey : y = .ref q := by simpa using hy.symm
                subst ey
                refine ⟨rfl, _, rfl, q, dq3, _, rfl, s5 _ _ hq4, no_Piece_frozen, q, dq3, _, _, _, _, _, _, rfl, s5 _ _ hq4, s5 _ _ hfl4, fun H6 t s6 => ?_⟩
                exact ⟨acc, s6 _ _ hD, small1000 (by omega), same_upd (s5.trans s6) nD, _, upd_same, by rw [List.length_append, List.length_singleton, hacc]⟩
              · rintro H' ⟨s5, acc, hD, hacc⟩
                refine ⟨D, _, rfl, .inl ⟨SqL.of hD, fun tp ntp => ⟨by show 2 ≤ sizeLine; decide, fun ta nta => ?_⟩⟩⟩
                have s6 := s5.trans ((same_new ntp (.tup acc)).trans (same_new nta (.tup [V.str "kept", V.ref tp])))
                have R5 := R4.ext s6
                generalize upd (upd H' tp (.tup acc)) ta (.tup [V.str "kept", V.ref tp]) = H5 at s6 R5
                have hO := R5.ob
                walk_at "Runner.pieces"
                refine ⟨_, rfl, _, rfl, pl, _, rfl, SqL.of R5.pre.pi, fun pl2 npl2 => ?_⟩
                rw [cut_take]
                have s7 := same_new npl2 (.lst vs2.reverse)
                refine wr_Runner_pieces (K := K) T rfl (s7 _ _ R5.ob) ?_
                have s17 := s1.trans s6
                have hrest5 : RPcs (He.ga K "Piece") p H0 H5 rest vs2 fls2 := hrest3.mono (.same s17) fun _ _ _ z => s17 _ _ z
                have R6 := (R5.cutTo hrest5 npl2).put (RC := He.ga K "Runner") (dx := dx) (kept := kept) rfl
                have t6 : Tx H3 (upd (upd H5 pl2 (.lst vs2.reverse)) p (.ins (He.ga K "Runner") dx (flRunner (.ref bl) (.int (l : Nat)) (.ref lp) (.int kept) ve (.ref pl2) (.ref rl) (.int (st.at_ : Nat)) vb (.ref lo)))) := (Tx.same (s17.trans s7)).trans (tx_ins (s7 _ _ R5.ob))
                generalize upd (upd H5 pl2 (.lst vs2.reverse)) p (.ins (He.ga K "Runner") dx (flRunner (.ref bl) (.int (l : Nat)) (.ref lp) (.int kept) ve (.ref pl2) (.ref rl) (.int (st.at_ : Nat)) vb (.ref lo))) = H6 at R6 t6 ⊢
                refine ⟨_, rfl, p, _, dx, _, _, rfl, R6.ob, T.Runner.cl, T.na_Runner_kept, lk_Runner_kept, _, _, rfl, rfl, dx, _, R6.ob, ln_Runner, ?_⟩
                rw [pf_Runner_kept]
                have R7 := R6.pre.put (RC := He.ga K "Runner") (dx := dx) (kept := kept + 1) rfl
                have t7 := t6.trans (tx_ins (o := .ins (He.ga K "Runner") dx (flRunner (.ref bl) (.int (l : Nat)) (.ref lp) (.int (kept + 1)) ve (.ref pl2) (.ref rl) (.int (st.at_ : Nat)) vb (.ref lo))) R6.ob)
                obtain ⟨bvs, hbl, hbs⟩ := R7.pre.cod
                obtain ⟨rl', hw1, hw2⟩ := code_row hbs hc
                refine ⟨_, rfl, p, dx, _, rfl, R7.ob, no_Runner_enter, _, rfl, _, rfl, _, rfl, _, rfl, th, _, _, _, rfl, rfl, SqT.of (t7 _ _ hh1), rfl, by show 2 ≤ sizeLine; decide, fun t1 nt1 => ⟨by show 2 ≤ sizeLine; decide, fun t2 nt2 => ?_⟩⟩
                have s8 := same_new nt1 (.tup [vv, vbh])
                have s9 := same_new nt2 (.tup [V.ref ta, V.ref t1])
                have R9 := R7.ext (s8.trans s9)
                have t9 := t7.trans (Tx.same (s8.trans s9))
                refine ⟨p, dx, bl, rl', _, bvs, h.cl, .ref t2, rfl, R9.ob, lk_Runner_blocks, R9.pre.s0 _ _ hbl, hw1, by show 10 ≤ 900; decide, fun lo' nlo => ?_⟩
                have R10 := R9.enter (bd' := .cons .kept (.cons (.int i) h.bd)) (vb' := .ref t2) hw2 ⟨t2, .ref ta, .ref t1, rfl, upd_same, trivial, t1, vv, vbh, rfl, s9 _ _ upd_same, hv3.mono t9, hh5.mono t9⟩ nlo rfl
                exact k _ ⟨_, _, _, _, _, _, _, _, _, _, _, _, R10⟩
end
end AF

namespace AF
open PySem PySem.Spec PyProof.Rows L2
local macro_rules | `(tactic| walk_at "skip") => `(tactic| repeat (refine ⟨_, rfl, rfl, _, rfl, br_f (by decide +kernel) ?_⟩))
local macro_rules | `(tactic| walk_at "hit") => `(tactic| refine ⟨_, rfl, rfl, _, rfl, br_t (by decide +kernel) ?_⟩)
set_option hygiene false in
local macro_rules | `(tactic| walk_at "Run.current") => `(tactic| refine ⟨_, rfl, _, _, _, _, _, rfl, hO, T.Run.cl, T.na_Run_current, lk_Run_current, ?_⟩)
set_option hygiene false in
local macro_rules | `(tactic| walk_at "Run.frames") => `(tactic| refine ⟨_, rfl, _, _, _, _, _, rfl, hO, T.Run.cl, T.na_Run_frames, lk_Run_frames, ?_⟩)
set_option hygiene false in
local macro_rules | `(tactic| walk_at "Run.left") => `(tactic| refine ⟨_, rfl, _, _, _, _, _, rfl, hO, T.Run.cl, T.na_Run_left, lk_Run_left, ?_⟩)
set_option hygiene false in
local macro_rules | `(tactic| walk_at "Run.prints") => `(tactic| refine ⟨_, rfl, _, _, _, _, _, rfl, hO, T.Run.cl, T.na_Run_prints, lk_Run_prints, ?_⟩)
set_option hygiene false in
local macro_rules | `(tactic| walk_at "Run.end") => `(tactic| refine ⟨_, rfl, _, _, _, _, _, rfl, hO, T.Run.cl, T.na_Run_end, lk_Run_end, ?_⟩)
set_option hygiene false in
local macro_rules | `(tactic| walk_at "Machine.left") => `(tactic| refine ⟨_, rfl, _, _, _, _, _, rfl, hO, T.Machine.cl, T.na_Machine_left, lk_Machine_left, ?_⟩)
set_option hygiene false in
local macro_rules | `(tactic| walk_at "Machine.prints") => `(tactic| refine ⟨_, rfl, _, _, _, _, _, rfl, hO, T.Machine.cl, T.na_Machine_prints, lk_Machine_prints, ?_⟩)
set_option hygiene false in
local macro_rules | `(tactic| walk_at "Machine.pieces") => `(tactic| refine ⟨_, rfl, _, _, _, _, _, rfl, hO, T.Machine.cl, T.na_Machine_pieces, lk_Machine_pieces, ?_⟩)
set_option hygiene false in
local macro_rules | `(tactic| walk_at "Machine.kept") => `(tactic| refine ⟨_, rfl, _, _, _, _, _, rfl, hO, T.Machine.cl, T.na_Machine_kept, lk_Machine_kept, ?_⟩)
set_option hygiene false in
local macro_rules | `(tactic| walk_at "Machine.most") => `(tactic| refine ⟨_, rfl, _, _, _, _, _, rfl, hO, T.Machine.cl, T.na_Machine_most, lk_Machine_most, ?_⟩)
set_option hygiene false in
local macro_rules | `(tactic| walk_at "Piece.kind") => `(tactic| refine ⟨_, rfl, _, _, _, _, _, rfl, hO, T.Piece.cl, T.na_Piece_kind, lk_Piece_kind, ?_⟩)
set_option hygiene false in
local macro_rules | `(tactic| walk_at "Piece.handler") => `(tactic| refine ⟨_, rfl, _, _, _, _, _, rfl, hO, T.Piece.cl, T.na_Piece_handler, lk_Piece_handler, ?_⟩)
set_option hygiene false in
local macro_rules | `(tactic| walk_at "Piece.frames") => `(tactic| refine ⟨_, rfl, _, _, _, _, _, rfl, hO, T.Piece.cl, T.na_Piece_frames, lk_Piece_frames, ?_⟩)
set_option hygiene false in
local macro_rules | `(tactic| walk_at "Piece.distance") => `(tactic| refine ⟨_, rfl, _, _, _, _, _, rfl, hO, T.Piece.cl, T.na_Piece_distance, lk_Piece_distance, ?_⟩)
set_option hygiene false in
local macro_rules | `(tactic| walk_at "Piece.table") => `(tactic| refine ⟨_, rfl, _, _, _, _, _, rfl, hO, T.Piece.cl, T.na_Piece_table, lk_Piece_table, ?_⟩)
set_option hygiene false in
local macro_rules | `(tactic| walk_at "Runner.blocks") => `(tactic| refine ⟨_, rfl, _, _, _, _, _, rfl, hO, T.Runner.cl, T.na_Runner_blocks, lk_Runner_blocks, ?_⟩)
set_option hygiene false in
local macro_rules | `(tactic| walk_at "Runner.left") => `(tactic| refine ⟨_, rfl, _, _, _, _, _, rfl, hO, T.Runner.cl, T.na_Runner_left, lk_Runner_left, ?_⟩)
set_option hygiene false in
local macro_rules | `(tactic| walk_at "Runner.prints") => `(tactic| refine ⟨_, rfl, _, _, _, _, _, rfl, hO, T.Runner.cl, T.na_Runner_prints, lk_Runner_prints, ?_⟩)
set_option hygiene false in
local macro_rules | `(tactic| walk_at "Runner.kept") => `(tactic| refine ⟨_, rfl, _, _, _, _, _, rfl, hO, T.Runner.cl, T.na_Runner_kept, lk_Runner_kept, ?_⟩)
set_option hygiene false in
local macro_rules | `(tactic| walk_at "Runner.end") => `(tactic| refine ⟨_, rfl, _, _, _, _, _, rfl, hO, T.Runner.cl, T.na_Runner_end, lk_Runner_end, ?_⟩)
set_option hygiene false in
local macro_rules | `(tactic| walk_at "Runner.pieces") => `(tactic| refine ⟨_, rfl, _, _, _, _, _, rfl, hO, T.Runner.cl, T.na_Runner_pieces, lk_Runner_pieces, ?_⟩)
set_option hygiene false in
local macro_rules | `(tactic| walk_at "Runner.rows") => `(tactic| refine ⟨_, rfl, _, _, _, _, _, rfl, hO, T.Runner.cl, T.na_Runner_rows, lk_Runner_rows, ?_⟩)
set_option hygiene false in
local macro_rules | `(tactic| walk_at "Runner.at") => `(tactic| refine ⟨_, rfl, _, _, _, _, _, rfl, hO, T.Runner.cl, T.na_Runner_at, lk_Runner_at, ?_⟩)
set_option hygiene false in
local macro_rules | `(tactic| walk_at "Runner.bindings") => `(tactic| refine ⟨_, rfl, _, _, _, _, _, rfl, hO, T.Runner.cl, T.na_Runner_bindings, lk_Runner_bindings, ?_⟩)
set_option hygiene false in
local macro_rules | `(tactic| walk_at "Runner.operands") => `(tactic| refine ⟨_, rfl, _, _, _, _, _, rfl, hO, T.Runner.cl, T.na_Runner_operands, lk_Runner_operands, ?_⟩)
set_option hygiene false in
local macro_rules | `(tactic| walk_at "Code.blocks") => `(tactic| refine ⟨_, rfl, _, _, _, _, _, rfl, hO, T.Code.cl, T.na_Code_blocks, lk_Code_blocks, ?_⟩)
set_option hygiene false in
local macro_rules | `(tactic| walk_at "Compiler.blocks") => `(tactic| refine ⟨_, rfl, _, _, _, _, _, rfl, hO, T.Compiler.cl, T.na_Compiler_blocks, lk_Compiler_blocks, ?_⟩)
set_option hygiene false in
local macro_rules | `(tactic| walk_at "Compiler.queue") => `(tactic| refine ⟨_, rfl, _, _, _, _, _, rfl, hO, T.Compiler.cl, T.na_Compiler_queue, lk_Compiler_queue, ?_⟩)
section
variable {P : Program} {w : World} {K : PySem.W.Frag} {mg : Str → Option Value} {base : Heap}
def spMove (K : PySem.W.Frag) : Sp := fun vs H Q _ => ∃ (H0 : Hp) (p : Addr) (code : List (List Rw)) (st st' : RS) (r : Rw) (vr : V), vs = [.ref p, vr] ∧ RO (He.ga K "Runner") (He.ga K "Piece") H0 H p code st ∧ RwAt H r vr ∧ (r = .bind ∨ r = .print) ∧ rDo code r st = some st' ∧
  ∀ H', RO (He.ga K "Runner") (He.ga K "Piece") H0 H' p code st' → Q .non H'
theorem ok_move (T : Fx K w mg) : FnOk P w K mg base CX0 1 (He.ma K (He.ga K "Runner") "move") (fdOf K ("Runner", some "move")) ["self", "row"] (spMove K) := by
  refine T.Runner_move.F.ok sc_Runner_move (fun vs H Q E h => ?_) (fun cdv A outer s H vs Q E hr h => ?_)
  · obtain ⟨_, _, _, _, _, _, _, rfl, _⟩ := h
    rfl
  · obtain ⟨H0, p, code, st, st', r, vr, rfl, ⟨dx, bl, lp, lo, pl, rl, vb, ve, vs, os, fls, kept, R⟩, hrow, hrb, hd, k⟩ := h
    refine ⟨_, (pss_one (ps_if (pt_cmpR op_eq (pe_ix ix_tup (pv 1) pe_int (fun _ _ => rfl)) pe_str (nomark _))
        pss_never
        (pss_one (ps_if (pt_cmpR op_eq (pe_ix ix_tup (pv 1) pe_int (fun _ _ => rfl)) pe_str (nomark _))
          (pss_one (ps_fld (pv 0) (pe_ix ix_tup (pe_fld (pv 0) rfl) pe_int (fun _ _ => rfl)) rfl))
          (pss_cons (ps_set (i := 2) sc_Runner_move.nd rfl (Or.inl rfl) (pe_bm0 PySem.F.plainAttrs_list PySem.F.slot_list_pop PySem.F.type_list_pop mt_pop (pe_fld (pv 0) rfl)))
          (pss_one (ps_if (pt_cmpR op_eq (pe_ix ix_tup (pv 1) pe_int (fun _ _ => rfl)) pe_str (nomark _))
            (pss_one (ps_fld (pv 0) (pe_tup (pa_cons (pv 2) (pa_cons (pe_fld (pv 0) rfl) pa_nil))) rfl))
            (pss_one (ps_if (pt_cmpR op_eq (pe_ix ix_tup (pv 1) pe_int (fun _ _ => rfl)) pe_str (nomark _))
              (pss_one (ps_expr (pe_bm PySem.F.plainAttrs_list PySem.F.slot_list_append PySem.F.type_list_append mt_append (pe_fld (pv 0) rfl) (pa_cons (pe_ix ix_tup (pv 2) pe_int (fun _ _ => rfl)) pa_nil))))
              pss_never))))))))), ?_⟩
    have hop := R.pre.op
    have hopr := R.pre.opr
    rcases hrb with rfl | rfl
    · obtain ⟨tr, rfl, htr⟩ := hrow
      cases ho : st.ops with
      | nil => unfold rDo at hd; rw [ho] at hd; cases hd
      | cons i ops =>
        unfold rDo at hd
        rw [ho] at hd hopr
        cases hd
        cases hopr with
        | @cons _ vv _ us hvv hus =>
        rw [List.reverse_cons] at hop
        refine ⟨_, rfl, tr, _, _, _, rfl, rfl, SqT.of htr, rfl, rfl, _, rfl, br_f (by decide +kernel) ?_⟩
        refine ⟨_, rfl, tr, _, _, _, rfl, rfl, SqT.of htr, rfl, rfl, _, rfl, br_f (by decide +kernel) ?_⟩
        have hO := R.ob
        walk_at "Runner.operands"
        refine ⟨.inl ⟨rfl, _, SqL.of hop⟩, lo, _, _, rfl, rfl, hop, rev_last, ?_⟩
        rw [List.dropLast_concat]
        have R1 := R.opsTo hus
        have t1 : Tx H (upd H lo (.lst us.reverse)) := tx_lst R.pre.op
        generalize upd H lo (.lst us.reverse) = H1 at R1 t1
        refine ⟨_, rfl, tr, _, _, _, rfl, rfl, SqT.of (t1 _ _ htr), rfl, rfl, _, rfl, br_t (by decide +kernel) ?_⟩
        have hO := R1.ob
        refine ⟨_, rfl, ?_⟩
        walk_at "Runner.bindings"
        refine ⟨by show 2 ≤ sizeLine; decide, fun t nt => ?_⟩
        have s1 := same_new nt (.tup [vv, vb])
        have R2 := R1.ext s1
        refine wr_Runner_bindings (K := K) T rfl R2.ob (R := fun H' => Q .non H') ?_
        have P2 : RPre (He.ga K "Piece") H0 (upd H1 t (.tup [vv, vb])) p code { st with ops := ops, bd := .cons (.int i) st.bd } bl lp lo pl rl (.ref t) ve vs us fls := by
          have P := R2.pre
          exact ⟨P.s0, P.np, P.nl, P.no, P.nq, P.nf, P.nd, P.ip, P.pr, P.op, P.pi, P.cod, P.row, ⟨t, vv, vb, rfl, upd_same, hvv.mono (t1.trans (.same s1)), P.bd⟩, P.opr, P.en, P.pc, P.pb⟩
        exact k _ ⟨_, _, _, _, _, _, _, _, _, _, _, _, P2.put (RC := He.ga K "Runner") (dx := dx) (kept := kept) rfl⟩
    · obtain ⟨tr, rfl, htr⟩ := hrow
      cases ho : st.ops with
      | nil => unfold rDo at hd; rw [ho] at hd; cases hd
      | cons i ops =>
        unfold rDo at hd
        rw [ho] at hd hopr
        cases hrm : st.room with
        | zero => simp only [hrm] at hd; cases hd
        | succ rm =>
          simp only [hrm] at hd
          cases hd
          cases hopr with
          | @cons _ vv _ us hvv hus =>
          rw [List.reverse_cons] at hop
          refine ⟨_, rfl, tr, _, _, _, rfl, rfl, SqT.of htr, rfl, rfl, _, rfl, br_f (by decide +kernel) ?_⟩
          refine ⟨_, rfl, tr, _, _, _, rfl, rfl, SqT.of htr, rfl, rfl, _, rfl, br_f (by decide +kernel) ?_⟩
          have hO := R.ob
          walk_at "Runner.operands"
          refine ⟨.inl ⟨rfl, _, SqL.of hop⟩, lo, _, _, rfl, rfl, hop, rev_last, ?_⟩
          rw [List.dropLast_concat]
          have R1 := R.opsTo hus
          have t1 : Tx H (upd H lo (.lst us.reverse)) := tx_lst R.pre.op
          generalize upd H lo (.lst us.reverse) = H1 at R1 t1
          refine ⟨_, rfl, tr, _, _, _, rfl, rfl, SqT.of (t1 _ _ htr), rfl, rfl, _, rfl, br_f (by decide +kernel) ?_⟩
          refine ⟨_, rfl, tr, _, _, _, rfl, rfl, SqT.of (t1 _ _ htr), rfl, rfl, _, rfl, br_t (by decide +kernel) ?_⟩
          have hO := R1.ob
          obtain ⟨pv', rfl, hpv, hsm⟩ := hvv
          walk_at "Runner.prints"
          have pb := R1.pre.pb
          have pb : st.out.length + st.room ≤ 1000 := pb
          refine ⟨.inl ⟨rfl, _, SqL.of R1.pre.pr⟩, _, rfl, pv', _, _, _, rfl, rfl, SqT.of (t1 _ _ hpv), rfl, lp, _, _, rfl, rfl, R1.pre.pr, small1000 (by rw [List.length_map]; show st.out.length ≤ 1000; omega), ?_⟩
          have P := R1.pre
          have kr : Kr p H1 (upd H1 lp (.lst (st.out.map V.int ++ [V.int i]))) := .lst P.pr
          have nd := List.nodup_cons.mp P.nd
          have n1 : lo ≠ lp := fun z => nd.1 (by rw [z]; simp)
          have n2 : pl ≠ lp := fun z => nd.1 (by rw [z]; simp)
          have n0 := ne_il R1.ob P.pr
          have obF : (upd H1 lp (.lst (st.out.map V.int ++ [V.int i]))) p = some (.ins (He.ga K "Runner") dx (flRunner (.ref bl) (.int (st.left : Nat)) (.ref lp) (.int kept) ve (.ref pl) (.ref rl) (.int (st.at_ : Nat)) vb (.ref lo))) := by rw [upd_ne n0]; exact R1.ob
          have R2 : RAt (He.ga K "Runner") (He.ga K "Piece") H0 (upd H1 lp (.lst (st.out.map V.int ++ [V.int i]))) p code { st with ops := ops, out := st.out ++ [i], room := rm } dx bl lp lo pl rl vb ve vs us fls kept := by
            refine ⟨⟨same_upd P.s0 P.nl, P.np, P.nl, P.no, P.nq, P.nf, P.nd, ⟨_, _, _, obF⟩, by rw [upd_same, List.map_append]; rfl, by rw [upd_ne n1]; exact P.op, by rw [upd_ne n2]; exact P.pi, P.cod, P.row, P.bd.mono kr.tx, P.opr.mono fun _ _ z => z.mono kr.tx, P.en.mono kr.tx, P.pc.mono kr fun fl h xs z => by rw [upd_ne (fun y => nd.1 (by rw [← y]; exact List.mem_cons_of_mem _ (List.mem_cons_of_mem _ h)))]; exact z, ?_⟩, obF⟩
            show (st.out ++ [i]).length + rm ≤ 1000
            rw [List.length_append, List.length_singleton]
            omega
          exact k _ ⟨_, _, _, _, _, _, _, _, _, _, _, _, R2⟩
def spWorked (K : PySem.W.Frag) : Sp := fun vs H Q _ => ∃ (H0 : Hp) (p dx bl lp lo pl rl : Addr) (code : List (List Rw)) (st : RS) (vb ve : V) (vs' os : List V) (fls : List Addr) (kept : Int) (g : Sg) (i j : Int) (r : List Int) (vr : V), vs = [.ref p, vr] ∧ RAt (He.ga K "Runner") (He.ga K "Piece") H0 H p code st dx bl lp lo pl rl vb ve vs' os fls kept ∧ RwAt H (.op g) vr ∧ st.ops = j :: i :: r ∧
  ∀ H' t us, RAt (He.ga K "Runner") (He.ga K "Piece") H0 H' p code { st with ops := r } dx bl lp lo pl rl vb ve vs' us fls kept → IntAt H' (opv g i j) (.ref t) → Q (.ref t) H'
theorem ok_worked (T : Fx K w mg) : FnOk P w K mg base CX0 2 (He.ma K (He.ga K "Runner") "worked") (fdOf K ("Runner", some "worked")) ["self", "row"] (spWorked K) := by
  have G_calculated := ok_calc (P := P) (base := base) T
  refine T.Runner_worked.F.ok sc_Runner_worked (fun vs H Q E h => ?_) (fun cdv A outer s H vs Q E hr h => ?_)
  · obtain ⟨_, _, _, _, _, _, _, _, _, _, _, _, _, _, _, _, _, _, _, _, _, rfl, _⟩ := h
    rfl
  · obtain ⟨H0, p, dx, bl, lp, lo, pl, rl, code, st, vb, ve, vs', os, fls, kept, g, i, j, r, vr, rfl, R, hrow, ho, k⟩ := h
    refine ⟨_, (pss_cons (ps_set (i := 2) sc_Runner_worked.nd rfl (Or.inl rfl) (pe_bm0 PySem.F.plainAttrs_list PySem.F.slot_list_pop PySem.F.type_list_pop mt_pop (pe_fld (pv 0) rfl)))
      (pss_cons (ps_if (pt_cmpR op_eq (pe_ix ix_tup (pv 1) pe_int (fun _ _ => rfl)) pe_str (nomark _))
        pss_never
        pss_nil)
      (pss_cons (ps_if (pt_cmpR op_eq (pe_ix ix_tup (pv 1) pe_int (fun _ _ => rfl)) pe_str (nomark _))
        pss_never
        pss_nil)
      (pss_cons (ps_if (pt_cmpR op_eq (pe_ix ix_tup (pv 1) pe_int (fun _ _ => rfl)) pe_str (nomark _))
        pss_never
        pss_nil)
      (pss_cons (ps_set (i := 3) sc_Runner_worked.nd rfl (Or.inl rfl) (pe_bm0 PySem.F.plainAttrs_list PySem.F.slot_list_pop PySem.F.type_list_pop mt_pop (pe_fld (pv 0) rfl)))
      (pss_cons (ps_if (pt_cmpR op_eq (pe_ix ix_tup (pv 1) pe_int (fun _ _ => rfl)) pe_str (nomark _))
        pss_never
        pss_nil)
      (pss_one (ps_ret (pe_call G_calculated (hr.mono (by omega)) rfl T.calculated.m T.calculated.F.kp T.calculated.b .nil pass0 (pa_cons (pe_ix ix_tup (pv 1) pe_int (fun _ _ => rfl)) (pa_cons (pe_ix ix_tup (pv 3) pe_int (fun _ _ => rfl)) (pa_cons (pe_ix ix_tup (pv 2) pe_int (fun _ _ => rfl)) pa_nil)))))))))))), ?_⟩
    obtain ⟨tr, rfl, htr⟩ := hrow
    have hop := R.pre.op
    have hopr := R.pre.opr
    rw [ho] at hopr
    cases hopr with
    | @cons _ v2 _ us1 hv2 hus1 =>
    cases hus1 with
    | @cons _ v1 _ us hv1 hus =>
    have R1 := R.opsTo (us := v1 :: us) (is := i :: r) (.cons hv1 hus)
    rw [List.reverse_cons] at hop
    have hO := R.ob
    walk_at "Runner.operands"
    refine ⟨.inl ⟨rfl, _, SqL.of hop⟩, lo, _, _, rfl, rfl, hop, rev_last, ?_⟩
    rw [List.dropLast_concat]
    have t1 : Tx H (upd H lo (.lst (v1 :: us).reverse)) := tx_lst R.pre.op
    generalize upd H lo (.lst (v1 :: us).reverse) = H1 at R1 t1
    refine ⟨_, rfl, tr, _, _, _, rfl, rfl, SqT.of (t1 _ _ htr), rfl, rfl, _, rfl, br_f (by decide +kernel) ?_⟩
    refine ⟨_, rfl, tr, _, _, _, rfl, rfl, SqT.of (t1 _ _ htr), rfl, rfl, _, rfl, br_f (by decide +kernel) ?_⟩
    refine ⟨_, rfl, tr, _, _, _, rfl, rfl, SqT.of (t1 _ _ htr), rfl, rfl, _, rfl, br_f (by decide +kernel) ?_⟩
    have hop1 := R1.pre.op
    rw [List.reverse_cons] at hop1
    have hO := R1.ob
    walk_at "Runner.operands"
    refine ⟨.inl ⟨rfl, _, SqL.of hop1⟩, lo, _, _, rfl, rfl, hop1, rev_last, ?_⟩
    rw [List.dropLast_concat]
    have R2 := R1.opsTo (us := us) (is := r) (hus.mono fun _ _ z => z.mono t1)
    have t2 : Tx H (upd H1 lo (.lst us.reverse)) := t1.trans (tx_lst R1.pre.op)
    generalize upd H1 lo (.lst us.reverse) = H2 at R2 t2
    obtain ⟨p1, rfl, hp1, hs1⟩ := hv1
    obtain ⟨p2, rfl, hp2, hs2⟩ := hv2
    refine ⟨_, rfl, tr, _, _, _, rfl, rfl, SqT.of (t2 _ _ htr), rfl, rfl, _, rfl, br_f (by decide +kernel) ?_⟩
    refine ⟨_, rfl, tr, _, _, _, rfl, rfl, SqT.of (t2 _ _ htr), rfl, _, rfl, p1, _, _, _, rfl, rfl, SqT.of (t2 _ _ hp1), rfl, _, rfl, p2, _, _, _, rfl, rfl, SqT.of (t2 _ _ hp2), rfl, g, i, j, rfl, hs1, hs2, fun H' t s3 ht => ?_⟩
    exact k _ t us (R2.ext s3) ⟨t, rfl, ht, opv_small _ _ _⟩
end
end AF

namespace AF
open PySem PySem.Spec PyProof.Rows L2
local macro_rules | `(tactic| walk_at "skip") => `(tactic| repeat (refine ⟨_, rfl, rfl, _, rfl, br_f (by decide +kernel) ?_⟩))
local macro_rules | `(tactic| walk_at "hit") => `(tactic| refine ⟨_, rfl, rfl, _, rfl, br_t (by decide +kernel) ?_⟩)
set_option hygiene false in
local macro_rules | `(tactic| walk_at "Run.current") => `(tactic| refine ⟨_, rfl, _, _, _, _, _, rfl, hO, T.Run.cl, T.na_Run_current, lk_Run_current, ?_⟩)
set_option hygiene false in
local macro_rules | `(tactic| walk_at "Run.frames") => `(tactic| refine ⟨_, rfl, _, _, _, _, _, rfl, hO, T.Run.cl, T.na_Run_frames, lk_Run_frames, ?_⟩)
set_option hygiene false in
local macro_rules | `(tactic| walk_at "Run.left") => `(tactic| refine ⟨_, rfl, _, _, _, _, _, rfl, hO, T.Run.cl, T.na_Run_left, lk_Run_left, ?_⟩)
set_option hygiene false in
local macro_rules | `(tactic| walk_at "Run.prints") => `(tactic| refine ⟨_, rfl, _, _, _, _, _, rfl, hO, T.Run.cl, T.na_Run_prints, lk_Run_prints, ?_⟩)
set_option hygiene false in
local macro_rules | `(tactic| walk_at "Run.end") => `(tactic| refine ⟨_, rfl, _, _, _, _, _, rfl, hO, T.Run.cl, T.na_Run_end, lk_Run_end, ?_⟩)
set_option hygiene false in
local macro_rules | `(tactic| walk_at "Machine.left") => `(tactic| refine ⟨_, rfl, _, _, _, _, _, rfl, hO, T.Machine.cl, T.na_Machine_left, lk_Machine_left, ?_⟩)
set_option hygiene false in
local macro_rules | `(tactic| walk_at "Machine.prints") => `(tactic| refine ⟨_, rfl, _, _, _, _, _, rfl, hO, T.Machine.cl, T.na_Machine_prints, lk_Machine_prints, ?_⟩)
set_option hygiene false in
local macro_rules | `(tactic| walk_at "Machine.pieces") => `(tactic| refine ⟨_, rfl, _, _, _, _, _, rfl, hO, T.Machine.cl, T.na_Machine_pieces, lk_Machine_pieces, ?_⟩)
set_option hygiene false in
local macro_rules | `(tactic| walk_at "Machine.kept") => `(tactic| refine ⟨_, rfl, _, _, _, _, _, rfl, hO, T.Machine.cl, T.na_Machine_kept, lk_Machine_kept, ?_⟩)
set_option hygiene false in
local macro_rules | `(tactic| walk_at "Machine.most") => `(tactic| refine ⟨_, rfl, _, _, _, _, _, rfl, hO, T.Machine.cl, T.na_Machine_most, lk_Machine_most, ?_⟩)
set_option hygiene false in
local macro_rules | `(tactic| walk_at "Piece.kind") => `(tactic| refine ⟨_, rfl, _, _, _, _, _, rfl, hO, T.Piece.cl, T.na_Piece_kind, lk_Piece_kind, ?_⟩)
set_option hygiene false in
local macro_rules | `(tactic| walk_at "Piece.handler") => `(tactic| refine ⟨_, rfl, _, _, _, _, _, rfl, hO, T.Piece.cl, T.na_Piece_handler, lk_Piece_handler, ?_⟩)
set_option hygiene false in
local macro_rules | `(tactic| walk_at "Piece.frames") => `(tactic| refine ⟨_, rfl, _, _, _, _, _, rfl, hO, T.Piece.cl, T.na_Piece_frames, lk_Piece_frames, ?_⟩)
set_option hygiene false in
local macro_rules | `(tactic| walk_at "Piece.distance") => `(tactic| refine ⟨_, rfl, _, _, _, _, _, rfl, hO, T.Piece.cl, T.na_Piece_distance, lk_Piece_distance, ?_⟩)
set_option hygiene false in
local macro_rules | `(tactic| walk_at "Piece.table") => `(tactic| refine ⟨_, rfl, _, _, _, _, _, rfl, hO, T.Piece.cl, T.na_Piece_table, lk_Piece_table, ?_⟩)
set_option hygiene false in
local macro_rules | `(tactic| walk_at "Runner.blocks") => `(tactic| refine ⟨_, rfl, _, _, _, _, _, rfl, hO, T.Runner.cl, T.na_Runner_blocks, lk_Runner_blocks, ?_⟩)
set_option hygiene false in
local macro_rules | `(tactic| walk_at "Runner.left") => `(tactic| refine ⟨_, rfl, _, _, _, _, _, rfl, hO, T.Runner.cl, T.na_Runner_left, lk_Runner_left, ?_⟩)
set_option hygiene false in
local macro_rules | `(tactic| walk_at "Runner.prints") => `(tactic| refine ⟨_, rfl, _, _, _, _, _, rfl, hO, T.Runner.cl, T.na_Runner_prints, lk_Runner_prints, ?_⟩)
set_option hygiene false in
local macro_rules | `(tactic| walk_at "Runner.kept") => `(tactic| refine ⟨_, rfl, _, _, _, _, _, rfl, hO, T.Runner.cl, T.na_Runner_kept, lk_Runner_kept, ?_⟩)
set_option hygiene false in
local macro_rules | `(tactic| walk_at "Runner.end") => `(tactic| refine ⟨_, rfl, _, _, _, _, _, rfl, hO, T.Runner.cl, T.na_Runner_end, lk_Runner_end, ?_⟩)
set_option hygiene false in
local macro_rules | `(tactic| walk_at "Runner.pieces") => `(tactic| refine ⟨_, rfl, _, _, _, _, _, rfl, hO, T.Runner.cl, T.na_Runner_pieces, lk_Runner_pieces, ?_⟩)
set_option hygiene false in
local macro_rules | `(tactic| walk_at "Runner.rows") => `(tactic| refine ⟨_, rfl, _, _, _, _, _, rfl, hO, T.Runner.cl, T.na_Runner_rows, lk_Runner_rows, ?_⟩)
set_option hygiene false in
local macro_rules | `(tactic| walk_at "Runner.at") => `(tactic| refine ⟨_, rfl, _, _, _, _, _, rfl, hO, T.Runner.cl, T.na_Runner_at, lk_Runner_at, ?_⟩)
set_option hygiene false in
local macro_rules | `(tactic| walk_at "Runner.bindings") => `(tactic| refine ⟨_, rfl, _, _, _, _, _, rfl, hO, T.Runner.cl, T.na_Runner_bindings, lk_Runner_bindings, ?_⟩)
set_option hygiene false in
local macro_rules | `(tactic| walk_at "Runner.operands") => `(tactic| refine ⟨_, rfl, _, _, _, _, _, rfl, hO, T.Runner.cl, T.na_Runner_operands, lk_Runner_operands, ?_⟩)
set_option hygiene false in
local macro_rules | `(tactic| walk_at "Code.blocks") => `(tactic| refine ⟨_, rfl, _, _, _, _, _, rfl, hO, T.Code.cl, T.na_Code_blocks, lk_Code_blocks, ?_⟩)
set_option hygiene false in
local macro_rules | `(tactic| walk_at "Compiler.blocks") => `(tactic| refine ⟨_, rfl, _, _, _, _, _, rfl, hO, T.Compiler.cl, T.na_Compiler_blocks, lk_Compiler_blocks, ?_⟩)
set_option hygiene false in
local macro_rules | `(tactic| walk_at "Compiler.queue") => `(tactic| refine ⟨_, rfl, _, _, _, _, _, rfl, hO, T.Compiler.cl, T.na_Compiler_queue, lk_Compiler_queue, ?_⟩)
section
variable {P : Program} {w : World} {K : PySem.W.Frag} {mg : Str → Option Value} {base : Heap}
theorem bd_get {H : Hp} : ∀ {bd : Bd} {v : V} {n : Nat} {e : EV}, BdAt H bd v → bdGet n bd = some e → ∃ p ve vr, v = .ref p ∧ H p = some (.tup [ve, vr]) ∧ (∃ r, BdAt H r vr ∧ (n = 0 → EVAt H e ve) ∧ ∀ m, n = m + 1 → bdGet m r = some e)
  | .nil, _, n, _, _, h => by cases n <;> cases h
  | .cons x r, _, 0, _, ⟨p, ve, vr, e1, h1, h2, h3⟩, h => by
    cases h
    exact ⟨p, ve, vr, e1, h1, r, h3, fun _ => h2, fun m z => by omega⟩
  | .cons x r, _, n + 1, _, ⟨p, ve, vr, e1, h1, h2, h3⟩, h => ⟨p, ve, vr, e1, h1, r, h3, fun z => by omega, fun m z => by
    have : n = m := by omega
    subst this
    exact h⟩
def spStep (K : PySem.W.Frag) : Sp := fun vs H Q _ => ∃ (H0 : Hp) (p : Addr) (code : List (List Rw)) (st st' : RS), vs = [.ref p] ∧ RO (He.ga K "Runner") (He.ga K "Piece") H0 H p code st ∧ st.en = none ∧ rStep code st = some st' ∧
  ∀ H', RO (He.ga K "Runner") (He.ga K "Piece") H0 H' p code st' → Q .non H'
theorem ok_step (T : Fx K w mg) : FnOk P w K mg base CX0 4 (He.ma K (He.ga K "Runner") "step") (fdOf K ("Runner", some "step")) ["self"] (spStep K) := by
  have G_Runner_deliver := ok_deliver (P := P) (base := base) T
  have G_Runner_ask := ok_rask (P := P) (base := base) T
  have G_Runner_handle := ok_rhandle (P := P) (base := base) T
  have G_Runner_move := ok_move (P := P) (base := base) T
  have G_Runner_worked := ok_worked (P := P) (base := base) T
  refine T.Runner_step.F.ok sc_Runner_step (fun vs H Q E h => ?_) (fun cdv A outer s H vs Q E hr h => ?_)
  · obtain ⟨_, _, _, _, _, rfl, _⟩ := h
    rfl
  · obtain ⟨H0, p, code, st, st', rfl, ⟨dx, bl, lp, lo, pl, rl, vb, ve, vs, os, fls, kept, R⟩, hen, hst, k⟩ := h
    refine ⟨_, (pss_cons (ps_set (i := 1) sc_Runner_step.nd rfl (Or.inl rfl) (pe_ix ix_list (pe_fld (pv 0) rfl) (pe_fld (pv 0) rfl) (fun _ _ => rfl)))
      (pss_cons (ps_fldaug (pv 0) pe_int in_add)
      (pss_cons (ps_set (i := 2) sc_Runner_step.nd rfl (Or.inl rfl) (pe_ix ix_tup (pv 1) pe_int (fun _ _ => rfl)))
      (pss_one (ps_if (pt_cmpR op_in_seq (pv 2) (pe_tup (pa_cons pe_str (pa_cons pe_str pa_nil))) rfl)
        (pss_one (ps_expr (pe_bm PySem.F.plainAttrs_list PySem.F.slot_list_append PySem.F.type_list_append mt_append (pe_fld (pv 0) rfl) (pa_cons (pv 1) pa_nil))))
        (pss_one (ps_if (pt_cmpR op_eq (pv 2) pe_str (nomark _))
          pss_never
          (pss_one (ps_if (pt_cmpR op_eq (pv 2) pe_str (nomark _))
            (pss_cons (ps_set (i := 3) sc_Runner_step.nd rfl (Or.inl rfl) (pe_fld (pv 0) rfl))
            (pss_cons (ps_for PassesOwn.never rfl (pi_range1 (by rfl) T.n_range (pa_cons (pe_ix ix_tup (pv 1) pe_int (fun _ _ => rfl)) pa_nil)) (pg_name (i := 4) sc_Runner_step.nd rfl (Or.inl rfl))
              (pss_one (ps_set (i := 3) sc_Runner_step.nd rfl (Or.inl rfl) (pe_ix ix_tup (pv 3) pe_int (fun _ _ => rfl)))))
            (pss_one (ps_expr (pe_bm PySem.F.plainAttrs_list PySem.F.slot_list_append PySem.F.type_list_append mt_append (pe_fld (pv 0) rfl) (pa_cons (pe_ix ix_tup (pv 3) pe_int (fun _ _ => rfl)) pa_nil))))))
            (pss_one (ps_if (pt_cmpR op_eq (pv 2) pe_str (nomark _))
              pss_never
              (pss_one (ps_if (pt_cmpR op_in_seq (pv 2) (pe_tup (pa_cons pe_str (pa_cons pe_str pa_nil))) rfl)
                pss_never
                (pss_one (ps_if (pt_cmpR op_eq (pv 2) pe_str (nomark _))
                  (pss_one (ps_expr (pe_meth (pv 0) T.Runner.cl T.Runner_deliver.m G_Runner_deliver (hr.mono (by omega)) T.Runner_deliver.b .nil pass0 (pa_cons (pe_bm0 PySem.F.plainAttrs_list PySem.F.slot_list_pop PySem.F.type_list_pop mt_pop (pe_fld (pv 0) rfl)) pa_nil))))
                  (pss_one (ps_if (pt_cmpR op_eq (pv 2) pe_str (nomark _))
                    (pss_one (ps_expr (pe_meth (pv 0) T.Runner.cl T.Runner_ask.m G_Runner_ask (hr.mono (by omega)) T.Runner_ask.b .nil pass0 (pa_cons (pe_ix ix_tup (pv 1) pe_int (fun _ _ => rfl)) pa_nil))))
                    (pss_one (ps_if (pt_cmpR op_eq (pv 2) pe_str (nomark _))
                      (pss_one (ps_expr (pe_meth (pv 0) T.Runner.cl T.Runner_handle.m G_Runner_handle (hr.mono (by omega)) T.Runner_handle.b .nil pass0 (pa_cons (pv 1) pa_nil))))
                      (pss_one (ps_if (pt_cmpR op_in_seq (pv 2) (pe_tup (pa_cons pe_str (pa_cons pe_str (pa_cons pe_str (pa_cons pe_str (pa_cons pe_str pa_nil)))))) rfl)
                        (pss_one (ps_expr (pe_meth (pv 0) T.Runner.cl T.Runner_move.m G_Runner_move (hr.mono (by omega)) T.Runner_move.b .nil pass0 (pa_cons (pv 1) pa_nil))))
                        (pss_one (ps_expr (pe_bm PySem.F.plainAttrs_list PySem.F.slot_list_append PySem.F.type_list_append mt_append (pe_fld (pv 0) rfl) (pa_cons (pe_meth (pv 0) T.Runner.cl T.Runner_worked.m G_Runner_worked (hr.mono (by omega)) T.Runner_worked.b .nil pass0 (pa_cons (pv 1) pa_nil)) pa_nil))))))))))))))))))))))))), ?_⟩
    unfold rStep at hst
    cases hrw : st.rows[st.at_]? with
    | none => rw [hrw] at hst; cases hst
    | some r =>
      rw [hrw] at hst
      have hd : rDo code r { st with at_ := st.at_ + 1 } = some st' := hst
      obtain ⟨xs, hrl, hxs⟩ := R.pre.row
      obtain ⟨vr, hvr, hrow0⟩ := hxs.getL hrw
      have hO := R.ob
      walk_at "Runner.rows"
      walk_at "Runner.at"
      refine ⟨rl, _, _, _, rfl, rfl, SqL.of (R.pre.s0 _ _ hrl), atI_nat hvr, ?_⟩
      refine ⟨_, rfl, p, _, dx, _, _, rfl, hO, T.Runner.cl, T.na_Runner_at, lk_Runner_at, _, _, rfl, rfl, dx, _, hO, ln_Runner, ?_⟩
      rw [pf_Runner_at]
      have R1 : RAt (He.ga K "Runner") (He.ga K "Piece") H0 (upd H p (.ins (He.ga K "Runner") dx (flRunner (.ref bl) (.int (st.left : Nat)) (.ref lp) (.int kept) ve (.ref pl) (.ref rl) (.int ((st.at_ : Nat) + 1 : Int)) vb (.ref lo)))) p code { st with at_ := st.at_ + 1 } dx bl lp lo pl rl vb ve vs os fls kept := by
        have P := R.pre
        have P2 : RPre (He.ga K "Piece") H0 H p code { st with at_ := st.at_ + 1 } bl lp lo pl rl vb ve vs os fls := ⟨P.s0, P.np, P.nl, P.no, P.nq, P.nf, P.nd, P.ip, P.pr, P.op, P.pi, P.cod, P.row, P.bd, P.opr, P.en, P.pc, P.pb⟩
        exact P2.put rfl
      have hrow := hrow0.mono (.same R1.pre.s0)
      generalize upd H p (.ins (He.ga K "Runner") dx (flRunner (.ref bl) (.int (st.left : Nat)) (.ref lp) (.int kept) ve (.ref pl) (.ref rl) (.int ((st.at_ : Nat) + 1 : Int)) vb (.ref lo))) = H1 at R1 hrow
      generalize hs2 : ({ st with at_ := st.at_ + 1 } : RS) = st2 at R1 hd
      have hen2 : st2.en = none := by rw [← hs2]; exact hen
      clear hO hst hrw hvr hxs hs2
      cases r with
      | int i =>
        obtain ⟨tr, rfl, htr, hsm⟩ := hrow
        obtain ⟨hl9, hd⟩ := gd hd
        cases hd
        refine ⟨_, rfl, tr, _, _, _, rfl, rfl, SqT.of htr, rfl, ?_⟩
        refine ⟨_, rfl, by show 2 ≤ sizeLine; decide, fun q nq => ⟨q, _, rfl, .inr (SqT.of upd_same), rfl, rfl, _, rfl, br_t (by decide +kernel) ?_⟩⟩
        have s1 := same_new nq (.tup [V.str "int", V.str "unit"])
        have R2 := R1.ext s1
        have hO := R2.ob
        walk_at "Runner.operands"
        refine ⟨.inl ⟨rfl, _, SqL.of R2.pre.op⟩, _, rfl, lo, _, _, rfl, rfl, R2.pre.op, small1000 (by rw [List.length_reverse, ← R2.pre.opr.len]; omega), ?_⟩
        have R3 := R2.opsTo (is := i :: st2.ops) (us := .ref tr :: os) (.cons ⟨tr, rfl, s1 _ _ htr, hsm⟩ R2.pre.opr)
        rw [List.reverse_cons] at R3
        exact k _ ⟨_, _, _, _, _, _, _, _, _, _, _, _, R3⟩
      | load n =>
        obtain ⟨tr, rfl, htr⟩ := hrow
        unfold rDo at hd
        cases hb : bdGet n st2.bd with
        | none => simp only [hb] at hd; cases hd
        | some ev =>
          cases ev with
          | kept => simp only [hb] at hd; cases hd
          | int i =>
            simp only [hb] at hd
            obtain ⟨hl9, hd⟩ := gd hd
            obtain ⟨hn9, hd⟩ := gd hd
            cases hd
            refine ⟨_, rfl, tr, _, _, _, rfl, rfl, SqT.of htr, rfl, ?_⟩
            refine ⟨_, rfl, by show 2 ≤ sizeLine; decide, fun q nq => ⟨q, _, rfl, .inr (SqT.of upd_same), rfl, rfl, _, rfl, br_f (by decide +kernel) ?_⟩⟩
            have s1 := same_new nq (.tup [V.str "int", V.str "unit"])
            have R2 := R1.ext s1
            have htr2 := s1 _ _ htr
            generalize upd H1 q (.tup [V.str "int", V.str "unit"]) = H2 at R2 htr2
            walk_at "skip"
            walk_at "hit"
            have hO := R2.ob
            walk_at "Runner.bindings"
            refine ⟨_, rfl, tr, _, _, _, rfl, rfl, SqT.of htr2, rfl, _, rfl, by omega, by omega, ?_⟩
            rw [Int.toNat_natCast]
            refine for_range (fun j σ H' => H2 = H' ∧ ∃ o4 vb' bd', σ = [some (.ref p), some (.ref tr), some (.str "load"), some vb', o4] ∧ BdAt H2 bd' vb' ∧ j ≤ n ∧ bdGet (n - j) bd' = some (.int i)) ⟨rfl, none, vb, st2.bd, rfl, R2.pre.bd, Nat.zero_le _, hb⟩ ?_ ?_
            · rintro j σ H' hj ⟨rfl, o4, vb', bd', rfl, hbd, hjn, hg⟩
              obtain ⟨pb', ve', vr', rfl, h1, r', h2, _, h3⟩ := bd_get hbd hg
              exact ⟨_, rfl, pb', _, _, _, rfl, rfl, SqT.of h1, rfl, rfl, _, vr', r', rfl, h2, by omega, h3 (n - (j + 1)) (by omega)⟩
            · rintro σ H' ⟨rfl, o4, vb', bd', rfl, hbd, hjn, hg⟩
              rw [Nat.sub_self] at hg
              obtain ⟨pb', ve', vr', rfl, h1, r', h2, h4, _⟩ := bd_get hbd hg
              have hO := R2.ob
              walk_at "Runner.operands"
              refine ⟨.inl ⟨rfl, _, SqL.of R2.pre.op⟩, _, rfl, pb', _, _, _, rfl, rfl, SqT.of h1, rfl, lo, _, _, rfl, rfl, R2.pre.op, small1000 (by rw [List.length_reverse, ← R2.pre.opr.len]; omega), ?_⟩
              have R3 := R2.opsTo (is := i :: st2.ops) (us := ve' :: os) (.cons (h4 rfl) R2.pre.opr)
              rw [List.reverse_cons] at R3
              exact k _ ⟨_, _, _, _, _, _, _, _, _, _, _, _, R3⟩
      | ret =>
        obtain ⟨tr, rfl, htr⟩ := hrow
        unfold rDo at hd
        cases ho : st2.ops with
        | nil => simp only [ho] at hd; cases hd
        | cons i ops =>
          simp only [ho] at hd
          refine ⟨_, rfl, tr, _, _, _, rfl, rfl, SqT.of htr, rfl, ?_⟩
          refine ⟨_, rfl, by show 2 ≤ sizeLine; decide, fun q nq => ⟨q, _, rfl, .inr (SqT.of upd_same), rfl, rfl, _, rfl, br_f (by decide +kernel) ?_⟩⟩
          have s1 := same_new nq (.tup [V.str "int", V.str "unit"])
          have R2 := R1.ext s1
          generalize upd H1 q (.tup [V.str "int", V.str "unit"]) = H2 at R2 s1
          walk_at "skip"
          refine ⟨_, rfl, by show 2 ≤ sizeLine; decide, fun q2 nq2 => ⟨q2, _, rfl, .inr (SqT.of upd_same), rfl, rfl, _, rfl, br_f (by decide +kernel) ?_⟩⟩
          have s2 := same_new nq2 (.tup [V.str "call", V.str "tail"])
          have R3 := R2.ext s2
          generalize upd H2 q2 (.tup [V.str "call", V.str "tail"]) = H3 at R3 s2
          walk_at "hit"
          have hop := R3.pre.op
          have hopr := R3.pre.opr
          rw [ho] at hopr
          cases hopr with
          | @cons _ vv _ us hvv hus =>
          rw [List.reverse_cons] at hop
          have hO := R3.ob
          refine ⟨_, rfl, p, dx, _, rfl, R3.ob, no_Runner_deliver, ?_⟩
          walk_at "Runner.operands"
          refine ⟨.inl ⟨rfl, _, SqL.of hop⟩, lo, _, _, rfl, rfl, hop, rev_last, ?_⟩
          rw [List.dropLast_concat]
          have R4 := R3.opsTo hus
          exact ⟨H0, p, code, _, st', i, vv, rfl, ⟨_, _, _, _, _, _, _, _, _, _, _, _, R4⟩, hvv.mono (tx_lst R3.pre.op), hen2, hd, k⟩
      | ask o =>
        obtain ⟨tr, rfl, htr⟩ := hrow
        refine ⟨_, rfl, tr, _, _, _, rfl, rfl, SqT.of htr, rfl, ?_⟩
        refine ⟨_, rfl, by show 2 ≤ sizeLine; decide, fun q nq => ⟨q, _, rfl, .inr (SqT.of upd_same), rfl, rfl, _, rfl, br_f (by decide +kernel) ?_⟩⟩
        have s1 := same_new nq (.tup [V.str "int", V.str "unit"])
        have R2 := R1.ext s1
        generalize upd H1 q (.tup [V.str "int", V.str "unit"]) = H2 at R2 s1
        walk_at "skip"
        refine ⟨_, rfl, by show 2 ≤ sizeLine; decide, fun q2 nq2 => ⟨q2, _, rfl, .inr (SqT.of upd_same), rfl, rfl, _, rfl, br_f (by decide +kernel) ?_⟩⟩
        have s2 := same_new nq2 (.tup [V.str "call", V.str "tail"])
        have R3 := R2.ext s2
        have htr3 := s2 _ _ (s1 _ _ htr)
        generalize upd H2 q2 (.tup [V.str "call", V.str "tail"]) = H3 at R3 s2 htr3
        walk_at "skip"
        walk_at "hit"
        exact ⟨_, rfl, p, dx, _, rfl, R3.ob, no_Runner_ask, _, rfl, tr, _, _, _, rfl, rfl, SqT.of htr3, rfl, H0, p, code, st2, st', o, rfl, ⟨_, _, _, _, _, _, _, _, _, _, _, _, R3⟩, hd, k⟩
      | handle a b c o =>
        obtain ⟨tr, dd, te, rfl, htr, _, _⟩ := hrow
        refine ⟨_, rfl, tr, _, _, _, rfl, rfl, SqT.of htr, rfl, ?_⟩
        refine ⟨_, rfl, by show 2 ≤ sizeLine; decide, fun q nq => ⟨q, _, rfl, .inr (SqT.of upd_same), rfl, rfl, _, rfl, br_f (by decide +kernel) ?_⟩⟩
        have s1 := same_new nq (.tup [V.str "int", V.str "unit"])
        have R2 := R1.ext s1
        generalize upd H1 q (.tup [V.str "int", V.str "unit"]) = H2 at R2 s1
        walk_at "skip"
        refine ⟨_, rfl, by show 2 ≤ sizeLine; decide, fun q2 nq2 => ⟨q2, _, rfl, .inr (SqT.of upd_same), rfl, rfl, _, rfl, br_f (by decide +kernel) ?_⟩⟩
        have s2 := same_new nq2 (.tup [V.str "call", V.str "tail"])
        have R3 := R2.ext s2
        have htr3 := s2 _ _ (s1 _ _ htr)
        generalize upd H2 q2 (.tup [V.str "call", V.str "tail"]) = H3 at R3 s2 htr3
        walk_at "skip"
        walk_at "hit"
        exact ⟨_, rfl, p, dx, _, rfl, R3.ob, no_Runner_handle, _, rfl, H0, p, code, st2, st', a, b, c, o, _, rfl, ⟨_, _, _, _, _, _, _, _, _, _, _, _, R3⟩, hrow0, hd, k⟩
      | bind =>
        obtain ⟨tr, rfl, htr⟩ := hrow
        refine ⟨_, rfl, tr, _, _, _, rfl, rfl, SqT.of htr, rfl, ?_⟩
        refine ⟨_, rfl, by show 2 ≤ sizeLine; decide, fun q nq => ⟨q, _, rfl, .inr (SqT.of upd_same), rfl, rfl, _, rfl, br_f (by decide +kernel) ?_⟩⟩
        have s1 := same_new nq (.tup [V.str "int", V.str "unit"])
        have R2 := R1.ext s1
        generalize upd H1 q (.tup [V.str "int", V.str "unit"]) = H2 at R2 s1
        walk_at "skip"
        refine ⟨_, rfl, by show 2 ≤ sizeLine; decide, fun q2 nq2 => ⟨q2, _, rfl, .inr (SqT.of upd_same), rfl, rfl, _, rfl, br_f (by decide +kernel) ?_⟩⟩
        have s2 := same_new nq2 (.tup [V.str "call", V.str "tail"])
        have R3 := R2.ext s2
        have htr3 := s2 _ _ (s1 _ _ htr)
        generalize upd H2 q2 (.tup [V.str "call", V.str "tail"]) = H3 at R3 s2 htr3
        walk_at "skip"
        refine ⟨_, rfl, by show 5 ≤ sizeLine; decide, fun q3 nq3 => ⟨q3, _, rfl, .inr (SqT.of upd_same), rfl, rfl, _, rfl, br_t (by decide +kernel) ?_⟩⟩
        have s3 := same_new nq3 (.tup [V.str "jump", V.str "unless", V.str "bind", V.str "unbind", V.str "print"])
        have R4 := R3.ext s3
        exact ⟨_, rfl, p, dx, _, rfl, R4.ob, no_Runner_move, _, rfl, H0, p, code, st2, st', .bind, _, rfl, ⟨_, _, _, _, _, _, _, _, _, _, _, _, R4⟩, ⟨tr, rfl, s3 _ _ htr3⟩, .inl rfl, hd, k⟩
      | print =>
        obtain ⟨tr, rfl, htr⟩ := hrow
        refine ⟨_, rfl, tr, _, _, _, rfl, rfl, SqT.of htr, rfl, ?_⟩
        refine ⟨_, rfl, by show 2 ≤ sizeLine; decide, fun q nq => ⟨q, _, rfl, .inr (SqT.of upd_same), rfl, rfl, _, rfl, br_f (by decide +kernel) ?_⟩⟩
        have s1 := same_new nq (.tup [V.str "int", V.str "unit"])
        have R2 := R1.ext s1
        generalize upd H1 q (.tup [V.str "int", V.str "unit"]) = H2 at R2 s1
        walk_at "skip"
        refine ⟨_, rfl, by show 2 ≤ sizeLine; decide, fun q2 nq2 => ⟨q2, _, rfl, .inr (SqT.of upd_same), rfl, rfl, _, rfl, br_f (by decide +kernel) ?_⟩⟩
        have s2 := same_new nq2 (.tup [V.str "call", V.str "tail"])
        have R3 := R2.ext s2
        have htr3 := s2 _ _ (s1 _ _ htr)
        generalize upd H2 q2 (.tup [V.str "call", V.str "tail"]) = H3 at R3 s2 htr3
        walk_at "skip"
        refine ⟨_, rfl, by show 5 ≤ sizeLine; decide, fun q3 nq3 => ⟨q3, _, rfl, .inr (SqT.of upd_same), rfl, rfl, _, rfl, br_t (by decide +kernel) ?_⟩⟩
        have s3 := same_new nq3 (.tup [V.str "jump", V.str "unless", V.str "bind", V.str "unbind", V.str "print"])
        have R4 := R3.ext s3
        exact ⟨_, rfl, p, dx, _, rfl, R4.ob, no_Runner_move, _, rfl, H0, p, code, st2, st', .print, _, rfl, ⟨_, _, _, _, _, _, _, _, _, _, _, _, R4⟩, ⟨tr, rfl, s3 _ _ htr3⟩, .inr rfl, hd, k⟩
      | op g =>
        obtain ⟨tr, rfl, htr⟩ := hrow
        unfold rDo at hd
        cases ho : st2.ops with
        | nil => simp only [ho] at hd; cases hd
        | cons j ops1 =>
          cases ops1 with
          | nil => simp only [ho] at hd; cases hd
          | cons i ops =>
            simp only [ho] at hd
            obtain ⟨hl9, hd⟩ := gd hd
            cases hd
            refine ⟨_, rfl, tr, _, _, _, rfl, rfl, SqT.of htr, rfl, ?_⟩
            refine ⟨_, rfl, by show 2 ≤ sizeLine; decide, fun q nq => ⟨q, _, rfl, .inr (SqT.of upd_same), rfl, rfl, _, rfl, br_f (by decide +kernel) ?_⟩⟩
            have s1 := same_new nq (.tup [V.str "int", V.str "unit"])
            have R2 := R1.ext s1
            generalize upd H1 q (.tup [V.str "int", V.str "unit"]) = H2 at R2 s1
            walk_at "skip"
            refine ⟨_, rfl, by show 2 ≤ sizeLine; decide, fun q2 nq2 => ⟨q2, _, rfl, .inr (SqT.of upd_same), rfl, rfl, _, rfl, br_f (by decide +kernel) ?_⟩⟩
            have s2 := same_new nq2 (.tup [V.str "call", V.str "tail"])
            have R3 := R2.ext s2
            have htr3 := s2 _ _ (s1 _ _ htr)
            generalize upd H2 q2 (.tup [V.str "call", V.str "tail"]) = H3 at R3 s2 htr3
            walk_at "skip"
            refine ⟨_, rfl, by show 5 ≤ sizeLine; decide, fun q3 nq3 => ⟨q3, _, rfl, .inr (SqT.of upd_same), rfl, rfl, _, rfl, br_f (by decide +kernel) ?_⟩⟩
            have s3 := same_new nq3 (.tup [V.str "jump", V.str "unless", V.str "bind", V.str "unbind", V.str "print"])
            have R4 := R3.ext s3
            have hO := R4.ob
            walk_at "Runner.operands"
            refine ⟨.inl ⟨rfl, _, SqL.of R4.pre.op⟩, _, rfl, p, dx, _, rfl, R4.ob, no_Runner_worked, _, rfl, H0, p, dx, bl, lp, lo, pl, rl, code, st2, vb, ve, vs, os, fls, kept, g, i, j, ops, _, rfl, R4, ⟨tr, rfl, s3 _ _ htr3⟩, ho, fun H5 t us R5 hv5 => ?_⟩
            refine ⟨lo, _, _, rfl, rfl, R5.pre.op, small1000 (by rw [List.length_reverse, ← R5.pre.opr.len]; show ops.length ≤ 1000; omega), ?_⟩
            have R6 := R5.opsTo (is := opv g i j :: ops) (us := .ref t :: us) (.cons hv5 R5.pre.opr)
            rw [List.reverse_cons] at R6
            exact k _ ⟨_, _, _, _, _, _, _, _, _, _, _, _, R6⟩
end
end AF

namespace AF
open PySem PySem.Spec PyProof.Rows L2
set_option hygiene false in
local macro_rules | `(tactic| walk_at "Run.current") => `(tactic| refine ⟨_, rfl, _, _, _, _, _, rfl, hO, T.Run.cl, T.na_Run_current, lk_Run_current, ?_⟩)
set_option hygiene false in
local macro_rules | `(tactic| walk_at "Run.frames") => `(tactic| refine ⟨_, rfl, _, _, _, _, _, rfl, hO, T.Run.cl, T.na_Run_frames, lk_Run_frames, ?_⟩)
set_option hygiene false in
local macro_rules | `(tactic| walk_at "Run.left") => `(tactic| refine ⟨_, rfl, _, _, _, _, _, rfl, hO, T.Run.cl, T.na_Run_left, lk_Run_left, ?_⟩)
set_option hygiene false in
local macro_rules | `(tactic| walk_at "Run.prints") => `(tactic| refine ⟨_, rfl, _, _, _, _, _, rfl, hO, T.Run.cl, T.na_Run_prints, lk_Run_prints, ?_⟩)
set_option hygiene false in
local macro_rules | `(tactic| walk_at "Run.end") => `(tactic| refine ⟨_, rfl, _, _, _, _, _, rfl, hO, T.Run.cl, T.na_Run_end, lk_Run_end, ?_⟩)
set_option hygiene false in
local macro_rules | `(tactic| walk_at "Machine.left") => `(tactic| refine ⟨_, rfl, _, _, _, _, _, rfl, hO, T.Machine.cl, T.na_Machine_left, lk_Machine_left, ?_⟩)
set_option hygiene false in
local macro_rules | `(tactic| walk_at "Machine.prints") => `(tactic| refine ⟨_, rfl, _, _, _, _, _, rfl, hO, T.Machine.cl, T.na_Machine_prints, lk_Machine_prints, ?_⟩)
set_option hygiene false in
local macro_rules | `(tactic| walk_at "Machine.pieces") => `(tactic| refine ⟨_, rfl, _, _, _, _, _, rfl, hO, T.Machine.cl, T.na_Machine_pieces, lk_Machine_pieces, ?_⟩)
set_option hygiene false in
local macro_rules | `(tactic| walk_at "Machine.kept") => `(tactic| refine ⟨_, rfl, _, _, _, _, _, rfl, hO, T.Machine.cl, T.na_Machine_kept, lk_Machine_kept, ?_⟩)
set_option hygiene false in
local macro_rules | `(tactic| walk_at "Machine.most") => `(tactic| refine ⟨_, rfl, _, _, _, _, _, rfl, hO, T.Machine.cl, T.na_Machine_most, lk_Machine_most, ?_⟩)
set_option hygiene false in
local macro_rules | `(tactic| walk_at "Piece.kind") => `(tactic| refine ⟨_, rfl, _, _, _, _, _, rfl, hO, T.Piece.cl, T.na_Piece_kind, lk_Piece_kind, ?_⟩)
set_option hygiene false in
local macro_rules | `(tactic| walk_at "Piece.handler") => `(tactic| refine ⟨_, rfl, _, _, _, _, _, rfl, hO, T.Piece.cl, T.na_Piece_handler, lk_Piece_handler, ?_⟩)
set_option hygiene false in
local macro_rules | `(tactic| walk_at "Piece.frames") => `(tactic| refine ⟨_, rfl, _, _, _, _, _, rfl, hO, T.Piece.cl, T.na_Piece_frames, lk_Piece_frames, ?_⟩)
set_option hygiene false in
local macro_rules | `(tactic| walk_at "Piece.distance") => `(tactic| refine ⟨_, rfl, _, _, _, _, _, rfl, hO, T.Piece.cl, T.na_Piece_distance, lk_Piece_distance, ?_⟩)
set_option hygiene false in
local macro_rules | `(tactic| walk_at "Piece.table") => `(tactic| refine ⟨_, rfl, _, _, _, _, _, rfl, hO, T.Piece.cl, T.na_Piece_table, lk_Piece_table, ?_⟩)
set_option hygiene false in
local macro_rules | `(tactic| walk_at "Runner.blocks") => `(tactic| refine ⟨_, rfl, _, _, _, _, _, rfl, hO, T.Runner.cl, T.na_Runner_blocks, lk_Runner_blocks, ?_⟩)
set_option hygiene false in
local macro_rules | `(tactic| walk_at "Runner.left") => `(tactic| refine ⟨_, rfl, _, _, _, _, _, rfl, hO, T.Runner.cl, T.na_Runner_left, lk_Runner_left, ?_⟩)
set_option hygiene false in
local macro_rules | `(tactic| walk_at "Runner.prints") => `(tactic| refine ⟨_, rfl, _, _, _, _, _, rfl, hO, T.Runner.cl, T.na_Runner_prints, lk_Runner_prints, ?_⟩)
set_option hygiene false in
local macro_rules | `(tactic| walk_at "Runner.kept") => `(tactic| refine ⟨_, rfl, _, _, _, _, _, rfl, hO, T.Runner.cl, T.na_Runner_kept, lk_Runner_kept, ?_⟩)
set_option hygiene false in
local macro_rules | `(tactic| walk_at "Runner.end") => `(tactic| refine ⟨_, rfl, _, _, _, _, _, rfl, hO, T.Runner.cl, T.na_Runner_end, lk_Runner_end, ?_⟩)
set_option hygiene false in
local macro_rules | `(tactic| walk_at "Runner.pieces") => `(tactic| refine ⟨_, rfl, _, _, _, _, _, rfl, hO, T.Runner.cl, T.na_Runner_pieces, lk_Runner_pieces, ?_⟩)
set_option hygiene false in
local macro_rules | `(tactic| walk_at "Runner.rows") => `(tactic| refine ⟨_, rfl, _, _, _, _, _, rfl, hO, T.Runner.cl, T.na_Runner_rows, lk_Runner_rows, ?_⟩)
set_option hygiene false in
local macro_rules | `(tactic| walk_at "Runner.at") => `(tactic| refine ⟨_, rfl, _, _, _, _, _, rfl, hO, T.Runner.cl, T.na_Runner_at, lk_Runner_at, ?_⟩)
set_option hygiene false in
local macro_rules | `(tactic| walk_at "Runner.bindings") => `(tactic| refine ⟨_, rfl, _, _, _, _, _, rfl, hO, T.Runner.cl, T.na_Runner_bindings, lk_Runner_bindings, ?_⟩)
set_option hygiene false in
local macro_rules | `(tactic| walk_at "Runner.operands") => `(tactic| refine ⟨_, rfl, _, _, _, _, _, rfl, hO, T.Runner.cl, T.na_Runner_operands, lk_Runner_operands, ?_⟩)
set_option hygiene false in
local macro_rules | `(tactic| walk_at "Code.blocks") => `(tactic| refine ⟨_, rfl, _, _, _, _, _, rfl, hO, T.Code.cl, T.na_Code_blocks, lk_Code_blocks, ?_⟩)
set_option hygiene false in
local macro_rules | `(tactic| walk_at "Compiler.blocks") => `(tactic| refine ⟨_, rfl, _, _, _, _, _, rfl, hO, T.Compiler.cl, T.na_Compiler_blocks, lk_Compiler_blocks, ?_⟩)
set_option hygiene false in
local macro_rules | `(tactic| walk_at "Compiler.queue") => `(tactic| refine ⟨_, rfl, _, _, _, _, _, rfl, hO, T.Compiler.cl, T.na_Compiler_queue, lk_Compiler_queue, ?_⟩)
section
variable {P : Program} {w : World} {K : PySem.W.Frag} {mg : Str → Option Value} {base : Heap}
theorem eFs_in {a0 a1 a2 a3 a4 a5 : V} {rl lo : Addr} {vb : V} : eFs rl lo vb (inRunner6 a0 a1 a2 a3 a4 a5) = flRunner a0 a1 a2 a3 a4 a5 (.ref rl) (.int 0) vb (.ref lo) := by
  unfold eFs
  rw [pi_Runner_6, pi_Runner_7, pi_Runner_8, pi_Runner_9]
  rfl
def initR (rows : List Rw) (n room : Nat) : RS := ⟨rows, 0, .nil, [], [(none, [])], n, [], room, none⟩
def spRInit (K : PySem.W.Frag) : Sp := fun vs H Q _ => ∃ (H0 : Hp) (p dx c dxc bl : Addr) (code : List (List Rw)) (rows : List Rw) (n room : Nat), vs = [.ref p, .ref c, .int (n : Nat)] ∧ Same H0 H ∧ H0 p = none ∧ H p = some (.ins (He.ga K "Runner") dx []) ∧ H0 c = some (.ins (He.ga K "Code") dxc (flCode (.ref bl))) ∧ CodeAt H0 code bl ∧ code[0]? = some rows ∧ room ≤ 1000 ∧
  ∀ H', RO (He.ga K "Runner") (He.ga K "Piece") H0 H' p code (initR rows n room) → Q .non H'
theorem ok_RInit (T : Fx K w mg) : FnOk P w K mg base CX0 3 (He.ma K (He.ga K "Runner") "__init__") (fdOf K ("Runner", some "__init__")) ["self", "code", "steps"] (spRInit K) := by
  have G_Piece__init__ := ok_PInit (P := P) (base := base) T
  have G_Runner_enter := ok_enter (P := P) (base := base) T
  refine T.Runner__init__.F.ok sc_Runner__init__ (fun vs H Q E h => ?_) (fun cdv A outer s H vs Q E hr h => ?_)
  · obtain ⟨_, _, _, _, _, _, _, _, _, _, rfl, _⟩ := h
    rfl
  · obtain ⟨H0, p, dx, c, dxc, bl, code, rows, n, room, rfl, s0, np, hp, hc0, hcode, hrows, hroom, k⟩ := h
    refine ⟨_, (pss_cons (ps_fld (pv 0) (pe_fld (pv 1) rfl) rfl)
      (pss_cons (ps_fld (pv 0) (pv 2) rfl)
      (pss_cons (ps_fld (pv 0) (pe_lst pa_nil) rfl)
      (pss_cons (ps_fld (pv 0) pe_int rfl)
      (pss_cons (ps_fld (pv 0) pe_non rfl)
      (pss_cons (ps_fld (pv 0) (pe_lst (pa_cons (pe_make T.Piece.mkr G_Piece__init__ (hr.mono (by omega)) rfl T.Piece.mg T.Piece__init__.b .nil pass0 (pa_cons (C8.pe_gc rfl T.g_BOTTOM) (pa_cons pe_non (pa_cons (pe_lst pa_nil) (pa_cons pe_int pa_nil))))) pa_nil)) rfl)
      (pss_one (ps_expr (pe_meth (pv 0) T.Runner.cl T.Runner_enter.m G_Runner_enter (hr.mono (by omega)) T.Runner_enter.b .nil pass0 (pa_cons pe_int (pa_cons pe_non pa_nil))))))))))), ?_⟩
    obtain ⟨bvs, hbl, hbs⟩ := id hcode
    obtain ⟨rl, hw1, hw2⟩ := code_row hbs hrows
    refine ⟨_, rfl, c, _, dxc, _, _, rfl, s0 _ _ hc0, T.Code.cl, T.na_Code_blocks, lk_Code_blocks, ?_⟩
    refine ⟨_, rfl, p, _, dx, _, rfl, hp, T.Runner.cl, T.na_Runner_blocks, li_Runner_0, ?_⟩
    rw [show putF "blocks" (V.ref bl) [] = inRunner1 (.ref bl) from pi_Runner_0]
    refine ⟨_, rfl, _, rfl, p, _, dx, _, rfl, upd_same, T.Runner.cl, T.na_Runner_left, li_Runner_1, ?_⟩
    rw [upd_upd, show putF "left" (V.int (n : Nat)) (inRunner1 (.ref bl)) = inRunner2 (.ref bl) (.int (n : Nat)) from pi_Runner_1]
    refine ⟨Nat.zero_le _, fun lp nlp => ?_⟩
    have e1 : lp ≠ p := fun z => by rw [z, upd_same] at nlp; cases nlp
    rw [upd_ne e1] at nlp
    refine ⟨_, rfl, p, _, dx, _, rfl, by rw [upd_ne e1.symm]; exact upd_same, T.Runner.cl, T.na_Runner_prints, li_Runner_2, ?_⟩
    rw [upd_sh e1, show putF "prints" (V.ref lp) (inRunner2 (.ref bl) (.int (n : Nat))) = inRunner3 (.ref bl) (.int (n : Nat)) (.ref lp) from pi_Runner_2]
    refine ⟨_, rfl, p, _, dx, _, rfl, upd_same, T.Runner.cl, T.na_Runner_kept, li_Runner_3, ?_⟩
    rw [upd_upd, show putF "kept" (V.int 0) (inRunner3 (.ref bl) (.int (n : Nat)) (.ref lp)) = inRunner4 (.ref bl) (.int (n : Nat)) (.ref lp) (.int 0) from pi_Runner_3]
    refine ⟨_, rfl, p, _, dx, _, rfl, upd_same, T.Runner.cl, T.na_Runner_end, li_Runner_4, ?_⟩
    rw [upd_upd, show putF "end" V.non (inRunner4 (.ref bl) (.int (n : Nat)) (.ref lp) (.int 0)) = inRunner5 (.ref bl) (.int (n : Nat)) (.ref lp) (.int 0) .non from pi_Runner_4]
    have s1 : Same H0 (upd (upd H lp (.lst [])) p (.ins (He.ga K "Runner") dx (inRunner5 (.ref bl) (.int (n : Nat)) (.ref lp) (.int 0) .non))) := same_upd (s0.trans (same_new nlp (.lst []))) np
    have hp1 : (upd (upd H lp (.lst [])) p (.ins (He.ga K "Runner") dx (inRunner5 (.ref bl) (.int (n : Nat)) (.ref lp) (.int 0) .non))) p = some (.ins (He.ga K "Runner") dx (inRunner5 (.ref bl) (.int (n : Nat)) (.ref lp) (.int 0) .non)) := upd_same
    have hl1 : (upd (upd H lp (.lst [])) p (.ins (He.ga K "Runner") dx (inRunner5 (.ref bl) (.int (n : Nat)) (.ref lp) (.int 0) .non))) lp = some (.lst []) := by rw [upd_ne e1]; exact upd_same
    have n0lp : H0 lp = none := s0.free nlp
    generalize upd (upd H lp (.lst [])) p (.ins (He.ga K "Runner") dx (inRunner5 (.ref bl) (.int (n : Nat)) (.ref lp) (.int 0) .non)) = H1 at s1 hp1 hl1
    refine ⟨Nat.zero_le _, fun l nl => fun q dq nq ndq ned => ?_⟩
    have s2 := same_new nl (.lst [])
    have hl2 : (upd H1 l (.lst [])) l = some (.lst []) := upd_same
    generalize upd H1 l (.lst []) = H2 at s2 hl2 nq ndq
    have s3 : Same H2 (upd (upd H2 dq (.own q)) q (.ins (He.ga K "Piece") dq [])) := (same_new ndq (.own q)).trans (same_new (by rw [upd_ne ned.symm]; exact nq) _)
    refine ⟨q, dq, l, .int 0, .non, .int 0, rfl, upd_same, s3 _ _ hl2, fun fl tb nfl ntb nft => ⟨rfl, ?_⟩⟩
    have nqf : fl ≠ q := fun z => by rw [z, upd_same] at nfl; cases nfl
    have nqt : tb ≠ q := fun z => by rw [z, upd_same] at ntb; cases ntb
    have s4 : Same H2 (upd (upd (upd (upd (upd H2 dq (.own q)) q (.ins (He.ga K "Piece") dq [])) fl (.lst [])) tb (.dK [])) q (.ins (He.ga K "Piece") dq (flPiece (.int 0) .non (.ref fl) (.int 0) (.ref tb)))) := by
      refine same_upd (s3.trans ((same_new nfl _).trans (same_new ?_ _))) nq
      rw [upd_ne nft.symm]
      exact ntb
    have hfl4 : (upd (upd (upd (upd (upd H2 dq (.own q)) q (.ins (He.ga K "Piece") dq [])) fl (.lst [])) tb (.dK [])) q (.ins (He.ga K "Piece") dq (flPiece (.int 0) .non (.ref fl) (.int 0) (.ref tb)))) fl = some (.lst []) := by
      rw [upd_ne nqf, upd_ne nft]
      exact upd_same
    have htb4 : (upd (upd (upd (upd (upd H2 dq (.own q)) q (.ins (He.ga K "Piece") dq [])) fl (.lst [])) tb (.dK [])) q (.ins (He.ga K "Piece") dq (flPiece (.int 0) .non (.ref fl) (.int 0) (.ref tb)))) tb = some (.dK []) := by
      rw [upd_ne nqt]
      exact upd_same
    have hq4 : (upd (upd (upd (upd (upd H2 dq (.own q)) q (.ins (He.ga K "Piece") dq [])) fl (.lst [])) tb (.dK [])) q (.ins (He.ga K "Piece") dq (flPiece (.int 0) .non (.ref fl) (.int 0) (.ref tb)))) q = some (.ins (He.ga K "Piece") dq (flPiece (.int 0) .non (.ref fl) (.int 0) (.ref tb))) := upd_same
    have n2fl : H2 fl = none := s3.free nfl
    generalize upd (upd (upd (upd (upd H2 dq (.own q)) q (.ins (He.ga K "Piece") dq [])) fl (.lst [])) tb (.dK [])) q (.ins (He.ga K "Piece") dq (flPiece (.int 0) .non (.ref fl) (.int 0) (.ref tb))) = H4 at s4 hfl4 htb4 hq4
    refine ⟨by show 1 ≤ sizeLine; decide, fun pl npl => ?_⟩
    have s5 := same_new npl (.lst [V.ref q])
    have s45 := s4.trans s5
    have s15 := s2.trans s45
    have hp5 := s15 _ _ hp1
    refine ⟨_, rfl, p, _, dx, _, rfl, hp5, T.Runner.cl, T.na_Runner_pieces, li_Runner_5, ?_⟩
    rw [show putF "pieces" (V.ref pl) (inRunner5 (.ref bl) (.int (n : Nat)) (.ref lp) (.int 0) .non) = inRunner6 (.ref bl) (.int (n : Nat)) (.ref lp) (.int 0) .non (.ref pl) from pi_Runner_5]
    refine ⟨_, rfl, p, dx, _, rfl, upd_same, rfl, p, dx, bl, rl, _, bvs, 0, .non, rfl, upd_same, rfl, ?_, hw1, by show 6 ≤ 900; decide, fun lo nlo => ?_⟩
    · rw [upd_ne (fun z => by rw [z, np] at hbl; cases hbl)]
      exact s15 _ _ (s1 _ _ hbl)
    · have ne1 : lo ≠ p := fun z => by rw [z, upd_same] at nlo; cases nlo
      rw [upd_ne ne1] at nlo
      rw [upd_sh ne1, eFs_in]
      have hl5 := s15 _ _ hl1
      have hq5 := s5 _ _ hq4
      have hf5 := s5 _ _ hfl4
      have ht5 := s5 _ _ htb4
      have hpl5 : (upd H4 pl (.lst [V.ref q])) pl = some (.lst [V.ref q]) := upd_same
      have n0pl : H0 pl = none := (s1.trans (s2.trans s4)).free npl
      have n0fl : H0 fl = none := (s1.trans s2).free n2fl
      have nqp : q ≠ p := fun z => by rw [z, s2 _ _ hp1] at nq; cases nq
      have nflp : lp ≠ fl := ne_of_none (s2 _ _ hl1) n2fl
      have nplf : pl ≠ fl := (ne_of_none hfl4 npl).symm
      have nplp : lp ≠ pl := ne_of_none ((s2.trans s4) _ _ hl1) npl
      generalize upd H4 pl (.lst [V.ref q]) = H5 at s5 s45 s15 hp5 nlo hl5 hq5 hf5 ht5 hpl5
      have s6 := same_new nlo (.lst [])
      have P2 : RPre (He.ga K "Piece") H0 (upd H5 lo (.lst [])) p code (initR rows n room) bl lp lo pl rl .non .non [.ref q] [] [fl] := by
        refine ⟨s1.trans (s15.trans s6), np, n0lp, (s1.trans s15).free nlo, n0pl, fun x hx => by rw [List.mem_singleton] at hx; rw [hx]; exact n0fl, ?_, ⟨_, _, _, s6 _ _ hp5⟩, s6 _ _ hl5, upd_same, s6 _ _ hpl5, hcode, hw2, rfl, .nil, rfl, ⟨q, dq, fl, tb, [], [], .non, [], rfl, rfl, nqp, s6 _ _ hq5, rfl, s6 _ _ hf5, .nil, s6 _ _ ht5, rfl, rfl⟩, by show 0 + room ≤ 1000; omega⟩
        simp [ne_of_none hl5 nlo, ne_of_none hpl5 nlo, (ne_of_none hpl5 nlo).symm, (ne_of_none hf5 nlo).symm, nflp, nplf, nplp]
      exact k _ ⟨_, _, _, _, _, _, _, _, _, _, _, _, P2.put (RC := He.ga K "Runner") (dx := dx) (kept := 0) rfl⟩
def spRK (K : PySem.W.Frag) : Sp := fun vs H Q _ => ∃ (c dxc bl : Addr) (code : List (List Rw)) (rows : List Rw) (n room m : Nat) (f : RS) (en : En), vs = [.ref c, .int (n : Nat)] ∧ H c = some (.ins (He.ga K "Code") dxc (flCode (.ref bl))) ∧ CodeAt H code bl ∧ code[0]? = some rows ∧ room ≤ 1000 ∧ RunsR m code (initR rows n room) f ∧ f.en = some en ∧
  ∀ H' t q ve u, Same H H' → H' t = some (.tup [.ref q, ve, u]) → H' q = some (.tup (f.out.map V.int)) → EnAt H' en ve → Q (.ref t) H'
theorem ok_run_kept (T : Fx K w mg) : FnOk P w K mg base CX0 5 (He.ga K "run_kept") (fdOf K ("run_kept", none)) ["code", "steps"] (spRK K) := by
  have G_Runner__init__ := ok_RInit (P := P) (base := base) T
  have G_Runner_step := ok_step (P := P) (base := base) T
  refine T.run_kept.F.ok sc_run_kept (fun vs H Q E h => ?_) (fun cdv A outer s H vs Q E hr h => ?_)
  · obtain ⟨_, _, _, _, _, _, _, _, _, _, rfl, _⟩ := h
    rfl
  · obtain ⟨c, dxc, bl, code, rows, n, room, m, f, en, rfl, hc, hcode, hrows, hroom, hrun, hen, k⟩ := h
    refine ⟨_, (pss_cons (ps_set (i := 2) sc_run_kept.nd rfl (Or.inl rfl) (pe_make T.Runner.mkr G_Runner__init__ (hr.mono (by omega)) rfl T.Runner.mg T.Runner__init__.b .nil pass0 (pa_cons (pv 0) (pa_cons (pv 1) pa_nil))))
      (pss_cons (ps_while PassesOwn.never (pt_cmpR op_isN (pe_fld (pv 2) rfl) pe_non (nomark _))
        (pss_one (ps_expr (pe_meth0 (pv 2) T.Runner.cl T.Runner_step.m G_Runner_step (hr.mono (by omega)) T.Runner_step.b .nil pass0))))
      (pss_one (ps_ret (pe_tup (pa_cons (pe_callTy call_tuple_of (by rfl) T.n_tuple (by decide +kernel) (pa_cons (pe_fld (pv 2) rfl) pa_nil)) (pa_cons (pe_fld (pv 2) rfl) (pa_cons (pe_fld (pv 2) rfl) pa_nil)))))))), ?_⟩
    refine ⟨_, rfl, _, rfl, fun p dx np nd ned => ?_⟩
    have s0 : Same H (upd (upd H dx (.own p)) p (.ins (He.ga K "Runner") dx [])) := (same_new nd (.own p)).trans (same_new (by rw [upd_ne ned.symm]; exact np) _)
    refine ⟨H, p, dx, c, dxc, bl, code, rows, n, room, rfl, s0, np, upd_same, hc, hcode, hrows, hroom, fun H1 R1 => ⟨rfl, ?_⟩⟩
    refine ⟨fun m σ H' => σ = [some (.ref c), some (.int (n : Nat)), some (.ref p)] ∧ ∃ st, RO (He.ga K "Runner") (He.ga K "Piece") H H' p code st ∧ RunsR m code st f, ⟨m, rfl, _, R1, hrun⟩, ?_⟩
    rintro m2 σ H2 ⟨rfl, st, ⟨dx2, bl2, lp, lo, pl, rl, vb, ve, vs, os, fls, kept, R⟩, hr2⟩
    have hO := R.ob
    walk_at "Runner.end"
    have ee := R.pre.en
    cases m2 with
    | zero =>
      obtain ⟨_, rfl⟩ := hr2
      rw [hen] at ee
      have nv : ve ≠ .non := by
        intro z
        subst z
        cases en with
        | val i => obtain ⟨_, _, e1, _⟩ := ee; cases e1
        | unh o => obtain ⟨_, e1, _⟩ := ee; cases e1
      refine ⟨rfl, _, rfl, br_f (decide_eq_false nv) ?_⟩
      walk_at "Runner.prints"
      refine ⟨lp, _, rfl, .inl ⟨SqL.of R.pre.pr, fun q nq => ?_⟩⟩
      have s1 := same_new nq (.tup (f.out.map V.int))
      have hO := s1 _ _ hO
      walk_at "Runner.end"
      walk_at "Runner.kept"
      refine ⟨by show 3 ≤ sizeLine; decide, fun t nt => ?_⟩
      have s2 := same_new nt (.tup [V.ref q, ve, V.int kept])
      exact k _ t q ve _ (R.pre.s0.trans (s1.trans s2)) upd_same (s2 _ _ upd_same) (ee.mono (.same (s1.trans s2)))
    | succ m2 =>
      obtain ⟨hn, st', hst, hr3⟩ := id hr2
      rw [hn] at ee
      have ev : ve = .non := ee
      subst ev
      refine ⟨rfl, _, rfl, br_t rfl ⟨fun σ' H' => σ' = [some (.ref c), some (.int (n : Nat)), some (.ref p)] ∧ ∃ st, RO (He.ga K "Runner") (He.ga K "Piece") H H' p code st ∧ RunsR m2 code st f, fun σ' H' z => ⟨m2, Nat.lt_succ_self _, z⟩, ?_⟩⟩
      exact ⟨_, rfl, p, dx2, _, rfl, hO, no_Runner_step, H, p, code, st, st', rfl, ⟨_, _, _, _, _, _, _, _, _, _, _, _, R⟩, hn, hst, fun H3 R3 => ⟨rfl, st', R3, hr3⟩⟩
def spRCode (K : PySem.W.Frag) : Sp := fun vs H Q _ => ∃ (c dxc bl : Addr) (code : List (List Rw)) (rows : List Rw) (n room m : Nat) (f : RS) (en : En), vs = [.ref c, .int (n : Nat)] ∧ H c = some (.ins (He.ga K "Code") dxc (flCode (.ref bl))) ∧ CodeAt H code bl ∧ code[0]? = some rows ∧ room ≤ 1000 ∧ RunsR m code (initR rows n room) f ∧ f.en = some en ∧
  ∀ H' v, Same H H' → OutAt H' f.out en v → Q v H'
theorem ok_run_code (T : Fx K w mg) : FnOk P w K mg base CX0 6 (He.ga K "run_code") (fdOf K ("run_code", none)) ["code", "steps"] (spRCode K) := by
  have G_run_kept := ok_run_kept (P := P) (base := base) T
  refine T.run_code.F.ok sc_run_code (fun vs H Q E h => ?_) (fun cdv A outer s H vs Q E hr h => ?_)
  · obtain ⟨_, _, _, _, _, _, _, _, _, _, rfl, _⟩ := h
    rfl
  · obtain ⟨c, dxc, bl, code, rows, n, room, m, f, en, rfl, hc, hcode, hrows, hroom, hrun, hen, k⟩ := h
    refine ⟨_, (pss_cons (ps_asg (pe_call G_run_kept (hr.mono (by omega)) rfl T.run_kept.m T.run_kept.F.kp T.run_kept.b .nil pass0 (pa_cons (pv 0) (pa_cons (pv 1) pa_nil))) (pg_tup rfl (pgs_cons (pg_name (i := 2) sc_run_code.nd rfl (Or.inl rfl)) (pgs_cons (pg_name (i := 3) sc_run_code.nd rfl (Or.inl rfl)) (pgs_cons (pg_name (i := 4) sc_run_code.nd rfl (Or.inl rfl)) pgs_nil)))))
      (pss_one (ps_ret (pe_tup (pa_cons (pv 2) (pa_cons (pv 3) pa_nil)))))), ?_⟩
    refine ⟨_, rfl, _, rfl, c, dxc, bl, code, rows, n, room, m, f, en, rfl, hc, hcode, hrows, hroom, hrun, hen, fun H1 t q ve u s1 ht hq hen2 => ?_⟩
    refine ⟨t, _, rfl, SqT.of ht, rfl, _, _, rfl, _, _, rfl, _, _, rfl, rfl, ?_⟩
    refine ⟨_, rfl, _, rfl, by show 2 ≤ sizeLine; decide, fun t2 nt2 => ?_⟩
    have s2 := same_new nt2 (.tup [V.ref q, ve])
    exact k _ _ (s1.trans s2) ⟨t2, q, ve, rfl, upd_same, s2 _ _ hq, hen2.mono (.same s2)⟩
end
end AF

namespace AF
open PySem PySem.Spec PyProof.Rows L2
set_option hygiene false in
local macro_rules | `(tactic| walk_at "Run.current") => `(tactic| refine ⟨_, rfl, _, _, _, _, _, rfl, hO, T.Run.cl, T.na_Run_current, lk_Run_current, ?_⟩)
set_option hygiene false in
local macro_rules | `(tactic| walk_at "Run.frames") => `(tactic| refine ⟨_, rfl, _, _, _, _, _, rfl, hO, T.Run.cl, T.na_Run_frames, lk_Run_frames, ?_⟩)
set_option hygiene false in
local macro_rules | `(tactic| walk_at "Run.left") => `(tactic| refine ⟨_, rfl, _, _, _, _, _, rfl, hO, T.Run.cl, T.na_Run_left, lk_Run_left, ?_⟩)
set_option hygiene false in
local macro_rules | `(tactic| walk_at "Run.prints") => `(tactic| refine ⟨_, rfl, _, _, _, _, _, rfl, hO, T.Run.cl, T.na_Run_prints, lk_Run_prints, ?_⟩)
set_option hygiene false in
local macro_rules | `(tactic| walk_at "Run.end") => `(tactic| refine ⟨_, rfl, _, _, _, _, _, rfl, hO, T.Run.cl, T.na_Run_end, lk_Run_end, ?_⟩)
set_option hygiene false in
local macro_rules | `(tactic| walk_at "Machine.left") => `(tactic| refine ⟨_, rfl, _, _, _, _, _, rfl, hO, T.Machine.cl, T.na_Machine_left, lk_Machine_left, ?_⟩)
set_option hygiene false in
local macro_rules | `(tactic| walk_at "Machine.prints") => `(tactic| refine ⟨_, rfl, _, _, _, _, _, rfl, hO, T.Machine.cl, T.na_Machine_prints, lk_Machine_prints, ?_⟩)
set_option hygiene false in
local macro_rules | `(tactic| walk_at "Machine.pieces") => `(tactic| refine ⟨_, rfl, _, _, _, _, _, rfl, hO, T.Machine.cl, T.na_Machine_pieces, lk_Machine_pieces, ?_⟩)
set_option hygiene false in
local macro_rules | `(tactic| walk_at "Machine.kept") => `(tactic| refine ⟨_, rfl, _, _, _, _, _, rfl, hO, T.Machine.cl, T.na_Machine_kept, lk_Machine_kept, ?_⟩)
set_option hygiene false in
local macro_rules | `(tactic| walk_at "Machine.most") => `(tactic| refine ⟨_, rfl, _, _, _, _, _, rfl, hO, T.Machine.cl, T.na_Machine_most, lk_Machine_most, ?_⟩)
set_option hygiene false in
local macro_rules | `(tactic| walk_at "Piece.kind") => `(tactic| refine ⟨_, rfl, _, _, _, _, _, rfl, hO, T.Piece.cl, T.na_Piece_kind, lk_Piece_kind, ?_⟩)
set_option hygiene false in
local macro_rules | `(tactic| walk_at "Piece.handler") => `(tactic| refine ⟨_, rfl, _, _, _, _, _, rfl, hO, T.Piece.cl, T.na_Piece_handler, lk_Piece_handler, ?_⟩)
set_option hygiene false in
local macro_rules | `(tactic| walk_at "Piece.frames") => `(tactic| refine ⟨_, rfl, _, _, _, _, _, rfl, hO, T.Piece.cl, T.na_Piece_frames, lk_Piece_frames, ?_⟩)
set_option hygiene false in
local macro_rules | `(tactic| walk_at "Piece.distance") => `(tactic| refine ⟨_, rfl, _, _, _, _, _, rfl, hO, T.Piece.cl, T.na_Piece_distance, lk_Piece_distance, ?_⟩)
set_option hygiene false in
local macro_rules | `(tactic| walk_at "Piece.table") => `(tactic| refine ⟨_, rfl, _, _, _, _, _, rfl, hO, T.Piece.cl, T.na_Piece_table, lk_Piece_table, ?_⟩)
set_option hygiene false in
local macro_rules | `(tactic| walk_at "Runner.blocks") => `(tactic| refine ⟨_, rfl, _, _, _, _, _, rfl, hO, T.Runner.cl, T.na_Runner_blocks, lk_Runner_blocks, ?_⟩)
set_option hygiene false in
local macro_rules | `(tactic| walk_at "Runner.left") => `(tactic| refine ⟨_, rfl, _, _, _, _, _, rfl, hO, T.Runner.cl, T.na_Runner_left, lk_Runner_left, ?_⟩)
set_option hygiene false in
local macro_rules | `(tactic| walk_at "Runner.prints") => `(tactic| refine ⟨_, rfl, _, _, _, _, _, rfl, hO, T.Runner.cl, T.na_Runner_prints, lk_Runner_prints, ?_⟩)
set_option hygiene false in
local macro_rules | `(tactic| walk_at "Runner.kept") => `(tactic| refine ⟨_, rfl, _, _, _, _, _, rfl, hO, T.Runner.cl, T.na_Runner_kept, lk_Runner_kept, ?_⟩)
set_option hygiene false in
local macro_rules | `(tactic| walk_at "Runner.end") => `(tactic| refine ⟨_, rfl, _, _, _, _, _, rfl, hO, T.Runner.cl, T.na_Runner_end, lk_Runner_end, ?_⟩)
set_option hygiene false in
local macro_rules | `(tactic| walk_at "Runner.pieces") => `(tactic| refine ⟨_, rfl, _, _, _, _, _, rfl, hO, T.Runner.cl, T.na_Runner_pieces, lk_Runner_pieces, ?_⟩)
set_option hygiene false in
local macro_rules | `(tactic| walk_at "Runner.rows") => `(tactic| refine ⟨_, rfl, _, _, _, _, _, rfl, hO, T.Runner.cl, T.na_Runner_rows, lk_Runner_rows, ?_⟩)
set_option hygiene false in
local macro_rules | `(tactic| walk_at "Runner.at") => `(tactic| refine ⟨_, rfl, _, _, _, _, _, rfl, hO, T.Runner.cl, T.na_Runner_at, lk_Runner_at, ?_⟩)
set_option hygiene false in
local macro_rules | `(tactic| walk_at "Runner.bindings") => `(tactic| refine ⟨_, rfl, _, _, _, _, _, rfl, hO, T.Runner.cl, T.na_Runner_bindings, lk_Runner_bindings, ?_⟩)
set_option hygiene false in
local macro_rules | `(tactic| walk_at "Runner.operands") => `(tactic| refine ⟨_, rfl, _, _, _, _, _, rfl, hO, T.Runner.cl, T.na_Runner_operands, lk_Runner_operands, ?_⟩)
set_option hygiene false in
local macro_rules | `(tactic| walk_at "Code.blocks") => `(tactic| refine ⟨_, rfl, _, _, _, _, _, rfl, hO, T.Code.cl, T.na_Code_blocks, lk_Code_blocks, ?_⟩)
set_option hygiene false in
local macro_rules | `(tactic| walk_at "Compiler.blocks") => `(tactic| refine ⟨_, rfl, _, _, _, _, _, rfl, hO, T.Compiler.cl, T.na_Compiler_blocks, lk_Compiler_blocks, ?_⟩)
set_option hygiene false in
local macro_rules | `(tactic| walk_at "Compiler.queue") => `(tactic| refine ⟨_, rfl, _, _, _, _, _, rfl, hO, T.Compiler.cl, T.na_Compiler_queue, lk_Compiler_queue, ?_⟩)
section
variable {P : Program} {w : World} {K : PySem.W.Frag} {mg : Str → Option Value} {base : Heap}
def StAt (H : Hp) (s c n : Nat) (cells : List Int) : Prop := s ≠ c ∧ H s = some (.lst [.int (n : Nat), .ref c]) ∧ H c = some (.lst (cells.map V.int)) ∧ 1 ≤ cells.length ∧ cells.length ≤ 63 ∧ ∀ x ∈ cells, 0 ≤ x
def spState (K : PySem.W.Frag) : Sp := fun vs H Q _ => ∃ (a : Addr) (ns : List Int), vs = [.ref a] ∧ SqL K H a (ns.map V.int) ∧ ∀ H' s c cells, Same H H' → H s = none → H c = none → StAt H' s c 0 cells → Q (.ref s) H'
theorem ok_state (T : Fx K w mg) : FnOk P w K mg base CX0 1 (He.ga K "_law_state") (fdOf K ("_law_state", none)) ["_law_script"] (spState K) := by
  refine T._law_state.F.ok sc__law_state (fun vs H Q E h => ?_) (fun cdv A outer s H vs Q E hr h => ?_)
  · obtain ⟨_, _, rfl, _⟩ := h
    rfl
  · obtain ⟨a, ns, rfl, ha, k⟩ := h
    refine ⟨_, (pss_cons (ps_setLc (i := 1) (own := [("_law_cell", 2)]) rfl sc__law_state.nd rfl rfl (sw_true rfl rfl rfl (by decide +kernel)) (pi_list (pe_slice sl_list (pv 0) po_none (po_some pe_int))) (blkOk_by (sc := defScope s__law_state) (own := [("_law_cell", 2)]) (N := ["_law_script", "_law_cells", "_law_cell"]) (by decide +kernel)) (fun _ _ _ _ _ => pg_name (i := 2) sc__law_state.nd rfl (Or.inl rfl)) (fun _ _ _ _ _ => pts_nil) (fun _ _ _ _ _ => (pe_callB call_abs (by rfl) T.n_abs (by decide +kernel) (pa_cons (pv 2) pa_nil))))
      (pss_cons (ps_if (pt_cmpR op_eq (pe_callB call_len_seq (by rfl) T.n_len (by decide +kernel) (pa_cons (pv 1) pa_nil)) pe_int (nomark _))
        (pss_one (ps_set (i := 1) sc__law_state.nd rfl (Or.inl rfl) (pe_lst (pa_cons pe_int pa_nil))))
        pss_nil)
      (pss_one (ps_ret (pe_lst (pa_cons pe_int (pa_cons (pv 1) pa_nil))))))), ?_⟩
    refine ⟨_, rfl, _, rfl, a, _, rfl, ha, fun tk ntk => ?_⟩
    have ecut : cutV (ns.map V.int) none (some 63) = (ns.take 63).map V.int := by
      unfold cutV
      rw [HT.sIx_none, show (63 : Int) = ((63 : Nat) : Int) from rfl, HT.sIx_nat, List.drop_zero, Nat.sub_zero, List.length_map, List.map_take]
      by_cases q : 63 ≤ ns.length
      · rw [Nat.min_eq_left q]
      · rw [Nat.min_eq_right (by omega), List.take_of_length_le (by rw [List.length_map]; omega), List.take_of_length_le (by rw [List.length_map]; omega)]
    rw [ecut]
    have s1 := same_new ntk (.lst ((ns.take 63).map V.int))
    have htk := upd_same (H := H) (a := tk) (o := .lst ((ns.take 63).map V.int))
    generalize upd H tk (.lst ((ns.take 63).map V.int)) = H1 at s1 htk
    refine ⟨tk, rfl, ⟨_, SqL.of htk⟩, fun D nD => ?_⟩
    refine lc_list (K := K) (a := tk) (xs := (ns.take 63).map V.int) (fun j H' => Same H1 H' ∧ ∃ acc : List Int, H' D = some (.lst (acc.map V.int)) ∧ acc.length = j ∧ ∀ x ∈ acc, 0 ≤ x) ⟨same_new nD _, [], upd_same, rfl, fun _ z => nomatch z⟩ (fun j H' _ z => SqL.of (z.1 _ _ htk)) ?_ ?_
    · rintro j y H' hy ⟨s5, acc, hD, hacc, hp⟩
      have hj : j < ((ns.take 63).map V.int).length := (List.getElem?_eq_some_iff.mp hy).1
      rw [List.length_map, List.length_take] at hj
      rw [List.getElem?_map] at hy
      cases hz : (ns.take 63)[j]? with
      | none => rw [hz] at hy; cases hy
      | some z =>
        rw [hz] at hy
        cases hy
        refine ⟨rfl, _, rfl, z, rfl, _, hD, small1000 (by rw [List.length_map, hacc]; omega), same_upd s5 nD, acc ++ [if z < 0 then -z else z], by rw [upd_same, List.map_append]; rfl, by rw [List.length_append, List.length_singleton, hacc], fun x hx => ?_⟩
        rcases List.mem_append.mp hx with hx | hx
        · exact hp x hx
        · rw [List.mem_singleton] at hx
          rw [hx]
          by_cases q : z < 0
          · rw [if_pos q]; omega
          · rw [if_neg q]; omega
    · rintro H' ⟨s5, acc, hD, hacc, hp⟩
      have hl63 : acc.length ≤ 63 := by rw [hacc, List.length_map, List.length_take]; omega
      refine ⟨_, rfl, D, _, rfl, .inl (SqL.of hD), rfl, _, rfl, ?_⟩
      have n1 : H D = none := s1.free nD
      by_cases q : acc = []
      · subst q
        refine br_t rfl ?_
        refine ⟨by show 1 ≤ sizeLine; decide, fun c nc => ?_⟩
        refine ⟨_, rfl, by show 2 ≤ sizeLine; decide, fun s ns2 => ?_⟩
        have s6 := same_new nc (.lst [V.int 0])
        have s7 := same_new ns2 (.lst [V.int 0, V.ref c])
        have nsc : s ≠ c := (ne_of_none upd_same ns2).symm
        exact k _ s c [0] (s1.trans (s5.trans (s6.trans s7))) ((s1.trans (s5.trans s6)).free ns2) ((s1.trans s5).free nc) ⟨nsc, upd_same, s7 _ _ upd_same, by decide, by decide, fun x hx => by rw [List.mem_singleton] at hx; rw [hx]; decide⟩
      · have hne : acc.length ≠ 0 := fun z => q (List.length_eq_zero_iff.mp z)
        refine br_f (decide_eq_false (fun z => by
          have z2 := V.int.inj z
          rw [List.length_map] at z2
          omega)) ?_
        refine ⟨_, rfl, by show 2 ≤ sizeLine; decide, fun s ns2 => ?_⟩
        have s7 := same_new ns2 (.lst [V.int 0, V.ref D])
        have nsc : s ≠ D := (ne_of_none hD ns2).symm
        exact k _ s D acc (s1.trans (s5.trans s7)) ((s1.trans s5).free ns2) n1 ⟨nsc, upd_same, s7 _ _ hD, by omega, hl63, hp⟩
def spTake : Sp := fun vs H Q _ => ∃ (s c n : Nat) (cells : List Int) (most : Int), vs = [.ref s, .int most] ∧ StAt H s c n cells ∧ n ≤ 1000000 ∧ 0 < most ∧ most ≤ 1000 ∧
  ∀ H' v n' cells', Lk [s, c] H H' → StAt H' s c n' cells' → n' ≤ n + 1 → 0 ≤ v → v < most → Q (.int v) H'
theorem ok_take (T : Fx K w mg) : FnOk P w K mg base CX0 1 (He.ga K "_law_take") (fdOf K ("_law_take", none)) ["_law_state_here", "_law_most"] spTake := by
  refine T._law_take.F.ok sc__law_take (fun vs H Q E h => ?_) (fun cdv A outer s H vs Q E hr h => ?_)
  · obtain ⟨_, _, _, _, _, rfl, _⟩ := h
    rfl
  · obtain ⟨s, c, n, cells, most, rfl, ⟨nsc, hs, hc, hl1, hl2, hpos⟩, hn, hm1, hm2, k⟩ := h
    refine ⟨_, (pss_cons (ps_set (i := 2) sc__law_take.nd rfl (Or.inl rfl) (pe_ix ix_list (pv 0) pe_int (fun _ _ => rfl)))
      (pss_cons (ps_set (i := 3) sc__law_take.nd rfl (Or.inl rfl) (pe_op op_mod (pe_ix ix_list (pv 0) pe_int (fun _ _ => rfl)) (pe_callB call_len_seq (by rfl) T.n_len (by decide +kernel) (pa_cons (pv 2) pa_nil))))
      (pss_cons (ps_set (i := 4) sc__law_take.nd rfl (Or.inl rfl) (pe_ix ix_list (pv 2) (pv 3) (fun _ _ => rfl)))
      (pss_cons (ps_if (pt_cmpR op_ge (pv 4) pe_int (nomark _))
        (pss_cons (ps_asg (pe_op op_fdivW (pv 4) (pv 1)) (pg_sub (pv 2) (pv 3) set_list))
        (pss_one (ps_ret (pe_op op_mod (pv 4) (pv 1)))))
        pss_nil)
      (pss_cons (ps_asg (pe_op op_add (pe_ix ix_list (pv 0) pe_int (fun _ _ => rfl)) pe_int) (pg_sub (pv 0) pe_int set_list))
      (pss_cons (ps_set (i := 5) sc__law_take.nd rfl (Or.inl rfl) (pe_op op_mod (pe_callTy call_int1 (by rfl) T.n_int (by decide +kernel) (pa_cons (pe_op op_add (pe_op op_mul (pv 4) pe_int) (pe_op op_mul (pe_ix ix_list (pv 0) pe_int (fun _ _ => rfl)) pe_int)) pa_nil)) pe_int))
      (pss_cons (ps_set (i := 5) sc__law_take.nd rfl (Or.inl rfl) (pe_op op_mod (pe_callTy call_int1 (by rfl) T.n_int (by decide +kernel) (pa_cons (pe_op op_add (pe_op op_mul (pv 5) pe_int) (pe_op op_mul (pe_ix ix_list (pv 0) pe_int (fun _ _ => rfl)) pe_int)) pa_nil)) pe_int))
      (pss_one (ps_ret (pe_op op_mod (pe_op op_fdivW (pv 5) pe_int) (pv 1))))))))))), ?_⟩
    refine ⟨_, rfl, s, _, _, _, rfl, rfl, SqL.of hs, rfl, ?_⟩
    refine ⟨_, rfl, s, _, _, _, rfl, rfl, SqL.of hs, rfl, _, rfl, c, _, rfl, .inl (SqL.of hc), _, _, rfl, rfl, by rw [List.length_map]; omega, ?_⟩
    have hmod : ∃ j : Nat, ((n : Nat) : Int) % (((cells.map V.int).length : Nat) : Int) = (j : Int) ∧ j < cells.length := by
      rw [List.length_map]
      refine ⟨n % cells.length, by omega, Nat.mod_lt _ (by omega)⟩
    obtain ⟨j, ej, hj⟩ := hmod
    obtain ⟨x, hx⟩ : ∃ x, cells[j]? = some x := ⟨cells[j], List.getElem?_eq_getElem hj⟩
    have hxm : (cells.map V.int)[j]? = some (.int x) := by rw [List.getElem?_map, hx]; rfl
    have hx0 := hpos x (List.mem_of_getElem? hx)
    show gName 3 (.int (((n : Nat) : Int) % (((cells.map V.int).length : Nat) : Int))) _ _ _
    rw [ej]
    refine ⟨_, rfl, _, rfl, c, _, _, _, rfl, rfl, SqL.of hc, atI_nat hxm, ?_⟩
    refine ⟨_, rfl, _, _, rfl, rfl, _, rfl, ?_⟩
    by_cases hbig : (1000000000000000000 : Int) ≤ x
    · refine br_t (decide_eq_true hbig) ?_
      have hix : ixN (cells.map V.int).length ((j : Nat) : Int) = some j := by
        unfold ixN
        rw [if_pos (by omega), if_pos (by rw [List.length_map]; omega)]
        rw [Int.toNat_natCast]
      refine ⟨_, rfl, _, rfl, _, _, rfl, rfl, wide_div (b := 10) hm1 (by omega) (by decide) (by decide), ?_⟩
      refine ⟨_, rfl, _, rfl, c, _, _, j, rfl, rfl, hc, hix, ?_⟩
      refine ⟨_, rfl, _, rfl, _, _, rfl, rfl, hm1, ?_⟩
      refine k _ (x % most) n (cells.set j (x / most)) (.upd (by simp)) ⟨nsc, by rw [upd_ne nsc]; exact hs, by rw [upd_same, List.map_set], by rw [List.length_set]; exact hl1, by rw [List.length_set]; exact hl2, fun y hy => ?_⟩ (Nat.le_succ _) (Int.emod_nonneg _ (by omega)) (Int.emod_lt_of_pos _ hm1)
      rcases List.mem_or_eq_of_mem_set hy with z | z
      · exact hpos y z
      · rw [z]; exact Int.ediv_nonneg hx0 (by omega)
    · refine br_f (decide_eq_false hbig) ?_
      refine ⟨_, rfl, s, _, _, _, rfl, rfl, SqL.of hs, rfl, _, _, rfl, rfl, ?_⟩
      refine ⟨_, rfl, s, _, _, 0, rfl, rfl, hs, rfl, ?_⟩
      have hs2 : (upd H s (.lst ([V.int (n : Nat), V.ref c].set 0 (V.int (((n : Nat) : Int) + 1))))) s = some (.lst [.int ((n + 1 : Nat) : Int), .ref c]) := by rw [upd_same]; rfl
      have hc2 : (upd H s (.lst ([V.int (n : Nat), V.ref c].set 0 (V.int (((n : Nat) : Int) + 1))))) c = some (.lst (cells.map V.int)) := by rw [upd_ne nsc.symm]; exact hc
      have kl : Lk [s, c] H (upd H s (.lst ([V.int (n : Nat), V.ref c].set 0 (V.int (((n : Nat) : Int) + 1))))) := .upd (by simp)
      generalize upd H s (.lst ([V.int (n : Nat), V.ref c].set 0 (V.int (((n : Nat) : Int) + 1)))) = H1 at hs2 hc2 kl ⊢
      refine ⟨_, rfl, _, _, rfl, rfl, .inl ⟨by omega, by omega⟩, _, rfl, s, _, _, _, rfl, rfl, SqL.of hs2, rfl, _, _, rfl, rfl, .inl ⟨by omega, by omega⟩, _, _, rfl, rfl, .inl ⟨_, rfl, _, _, rfl, rfl, by show (0 : Int) < 2147483647; decide, ?_⟩⟩
      obtain ⟨m1, em, h0, h1⟩ : ∃ m, (x * 48271 + ((n + 1 : Nat) : Int) * 69621) % 2147483647 = m ∧ 0 ≤ m ∧ m < 2147483647 := ⟨_, rfl, Int.emod_nonneg _ (by decide), Int.emod_lt_of_pos _ (by decide)⟩
      show gName 5 (.int ((x * 48271 + ((n + 1 : Nat) : Int) * 69621) % 2147483647)) _ _ _
      rw [em]
      refine ⟨_, rfl, _, _, rfl, rfl, .inl ⟨by omega, by omega⟩, _, rfl, s, _, _, _, rfl, rfl, SqL.of hs2, rfl, _, _, rfl, rfl, .inl ⟨by omega, by omega⟩, _, _, rfl, rfl, .inl ⟨_, rfl, _, _, rfl, rfl, by show (0 : Int) < 1000000007; decide, ?_⟩⟩
      obtain ⟨m2, em2, g0, g1⟩ : ∃ m, (m1 * 16807 + ((n + 1 : Nat) : Int) * 7919) % 1000000007 = m ∧ 0 ≤ m ∧ m < 1000000007 := ⟨_, rfl, Int.emod_nonneg _ (by decide), Int.emod_lt_of_pos _ (by decide)⟩
      show gName 5 (.int ((m1 * 16807 + ((n + 1 : Nat) : Int) * 7919) % 1000000007)) _ _ _
      rw [em2]
      refine ⟨_, rfl, _, _, rfl, rfl, wide_div (b := 10) (by decide) (by decide) (by decide) (by decide), _, rfl, _, _, rfl, rfl, hm1, ?_⟩
      exact k _ _ (n + 1) cells kl ⟨nsc, hs2, hc2, hl1, hl2, hpos⟩ (Nat.le_refl _) (Int.emod_nonneg _ (by omega)) (Int.emod_lt_of_pos _ hm1)
end
end AF

namespace AF
open PySem PySem.Spec PyProof.Rows L2
/-! ### the law's trees -/
def shownT (d n : Int) : Tr := if n % d = 0 then .op .add (.ask .stop (.num n)) (.print (.num n) (.num n)) else .print (.num n) (.num n)
def itemsT (d : Int) : List Int → Tr
  | [] => .name .t
  | n :: ns => .lt .t (.op .add (.name .t) (shownT d n)) (itemsT d ns)
def bodyT (d : Int) (ns : List Int) : Tr := .lt .t (.num 0) (itemsT d ns)
def valT : Tr := .op .add (.op .mul (.name .x) (.num 2)) (.num 1)
def clT (b : Bool) : Tr := if b = true then .ask .stop valT else valT
def aftT : Tr := .op .add (.name .r) (.num 100)
def hdT1 (b : Bool) (t : Tr) : Tr := .handle t .r aftT .stop .x .k (clT b)
def wrapT : List Bool → Tr → Tr
  | [], t => t
  | b :: bs, t => wrapT bs (hdT1 b t)
/-! ### what is due -/
def askE : List Bool → Int → En
  | [], _ => .unh .stop
  | false :: r, v => .val (2 * v + 1 + 100 * (r.length : Nat))
  | true :: r, v => askE r (2 * v + 1)
def dueE (d : Int) (ps : List Bool) : List Int → List Int → Int → List Int × En
  | [], pr, tot => (pr, .val (tot + 100 * (ps.length : Nat)))
  | n :: ns, pr, tot => if n % d = 0 then (pr, askE ps n) else dueE d ps ns (pr ++ [n]) (tot + n)
/-! ### plain -/
def ReachM (s s' : PS) : Prop := ∀ m f, RunsM m s' f → ∃ m', RunsM m' s f
theorem ReachM.refl (s : PS) : ReachM s s := fun m f h => ⟨m, h⟩
theorem ReachM.trans {a b c : PS} (h1 : ReachM a b) (h2 : ReachM b c) : ReachM a c := fun m f h => by
  obtain ⟨m', h'⟩ := h2 m f h
  exact h1 m' f h'
theorem ReachM.step {s s' : PS} (hn : s.en = none) (h : stepM s = some s') : ReachM s s' := fun m f hr => ⟨m + 1, hn, s', h, hr⟩
theorem ReachM.head {s s1 s' : PS} (hn : s.en = none) (h : stepM s = some s1) (r : ReachM s1 s') : ReachM s s' := (ReachM.step hn h).trans r
abbrev hdF (b : Bool) : PF := .hd .r aftT .stop .x .k (clT b)
theorem push_ok {s : PS} {c : Tr} {f : PF} {fs : List PF} (h : fs.length ≤ 900) : pushM s c f fs = some { s with cur := c, fr := f :: fs } := if_neg (by omega)
section
variable {l room : Nat} {out : List Int} {fs : List PF}
theorem m_push {c e : Tr} {f : PF} (h : fs.length ≤ 900) (hn : isNum c = false) (hb : ∀ l' out' room', beginM ⟨c, fs, l', out', room', none⟩ = pushM ⟨c, fs, l', out', room', none⟩ e f fs) : ReachM ⟨c, fs, l, out, room, none⟩ ⟨e, f :: fs, l, out, room, none⟩ :=
  .step rfl (by
    unfold stepM
    rw [if_neg (by rw [hn]; decide), hb, push_ok h])
theorem m_quoted {a : Tr} : ReachM ⟨.quoted a, fs, l, out, room, none⟩ ⟨a, fs, l, out, room, none⟩ := .step rfl rfl
theorem m_go {i : Int} {s' : PS} (h : goOnM ⟨.num i, fs, l, out, room, none⟩ = some s') : ReachM ⟨.num i, fs, l, out, room, none⟩ s' := .step rfl h
theorem opv_add {i j : Int} (h0 : -2147483648 ≤ i + j) (h1 : i + j < 2147483648) : opv .add i j = i + j := by
  show (i + j + 2147483648) % (2 * 2147483648) - 2147483648 = i + j
  omega
theorem opv_mul2 {i : Int} (h0 : -1073741824 ≤ i) (h1 : i < 1073741824) : opv .mul i 2 = i * 2 := by
  show (i * 2 + 2147483648) % (2 * 2147483648) - 2147483648 = i * 2
  omega
/-- a value goes out through the handlers -/
theorem m_out : ∀ (ps : List Bool) (v : Int), ps.length ≤ 10 → 0 ≤ v → v + 100 * (ps.length : Nat) ≤ 100000 → ReachM ⟨.num v, ps.map hdF, l, out, room, none⟩ ⟨.num (v + 100 * (ps.length : Nat)), [], l, out, room, some (.val (v + 100 * (ps.length : Nat)))⟩
  | [], v, _, _, _ => by
    have e : v + 100 * (([] : List Bool).length : Nat) = v := by simp
    rw [e]
    exact m_go rfl
  | b :: ps, v, hl, h0, h1 => by
    have hlen : (ps.map hdF).length ≤ 10 := by
      rw [List.length_map]
      simp only [List.length_cons] at hl
      omega
    refine .trans (m_go (s' := ⟨.op .add (.quoted (.num v)) (.num 100), ps.map hdF, l, out, room, none⟩) rfl) ?_
    refine .trans (m_push (e := .quoted (.num v)) (f := .op .add (.num 100)) (by omega) rfl fun _ _ _ => rfl) ?_
    refine .trans m_quoted ?_
    refine .trans (m_go (s' := ⟨.num 100, .op2 .add v :: ps.map hdF, l, out, room, none⟩) (push_ok (by omega))) ?_
    refine .trans (m_go (s' := ⟨.num (opv .add v 100), ps.map hdF, l, out, room, none⟩) rfl) ?_
    rw [opv_add (by omega) (by omega)]
    have e : v + 100 * ((b :: ps).length : Nat) = v + 100 + 100 * (ps.length : Nat) := by
      simp only [List.length_cons]
      omega
    rw [e] at h1 ⊢
    exact m_out ps (v + 100) (by simp only [List.length_cons] at hl; omega) (by omega) h1
def limE : List Bool → Int
  | [] => 1000
  | _ :: r => (limE r - 1) / 2
theorem limE_le : ∀ ps, limE ps ≤ 1000
  | [] => by decide
  | _ :: r => by
    have := limE_le r
    show (limE r - 1) / 2 ≤ 1000
    omega
/-- an ask goes out through the handlers; junk: frames that are no handler's -/
theorem m_ask : ∀ (ps : List Bool) (v : Int) (junk : List PF) (l : Nat), junk.length ≤ 10 → (∀ fs, findM (junk ++ fs) = findM fs) → ps.length ≤ 4 → 0 ≤ v → v ≤ limE ps → ps.length < l →
    ∃ i fs' l', ReachM ⟨.num v, .ask .stop :: (junk ++ ps.map hdF), l, out, room, none⟩ ⟨.num i, fs', l', out, room, some (askE ps v)⟩
  | [], v, junk, l, hj, hf, _, _, _, hl => by
    cases l with
    | zero => exact absurd hl (Nat.lt_irrefl _)
    | succ l =>
      refine ⟨_, _, _, m_go (s' := ⟨.num v, junk ++ [].map hdF, l, out, room, some (.unh .stop)⟩) ?_⟩
      show askM ⟨.num v, .ask .stop :: (junk ++ [].map hdF), l + 1, out, room, none⟩ .stop v (junk ++ [].map hdF) = _
      unfold askM
      rw [if_neg (by simp only [List.map_nil, List.append_nil]; omega), hf]
      rfl
  | b :: ps, v, junk, l, hj, hf, hp, h0, h1, hl => by
    cases l with
    | zero => exact absurd hl (Nat.not_lt_zero _)
    | succ l =>
      simp only [List.length_cons] at hp hl
      have hlen : (ps.map hdF).length ≤ 4 := by rw [List.length_map]; omega
      have h1 : v ≤ (limE ps - 1) / 2 := h1
      have hv : v ≤ 1000 := by
        have := limE_le ps
        omega
      have hask : ∀ g, okPut .x (clT b) = true → okPut .k (putIn .x (.quoted (.num v)) (clT b)) = true → g = putIn .k (.quoted .kept) (putIn .x (.quoted (.num v)) (clT b)) →
          ReachM ⟨.num v, .ask .stop :: (junk ++ (b :: ps).map hdF), l + 1, out, room, none⟩ ⟨g, ps.map hdF, l, out, room, none⟩ := fun g o1 o2 eg => m_go (by
        show askM ⟨.num v, .ask .stop :: (junk ++ (b :: ps).map hdF), l + 1, out, room, none⟩ .stop v (junk ++ (b :: ps).map hdF) = _
        unfold askM
        rw [if_neg (by simp only [List.length_append, List.length_map, List.length_cons]; omega), hf]
        show (if Nm.stop = Nm.stop ∧ Nm.x ≠ Nm.k ∧ okPut .x (clT b) = true ∧ okPut .k (putIn .x (.quoted (.num v)) (clT b)) = true then some _ else none) = _
        rw [if_pos ⟨rfl, by decide, o1, o2⟩, eg])
      have hval : ∀ (fs : List PF) , fs.length ≤ 20 → ReachM ⟨.op .add (.op .mul (.quoted (.num v)) (.num 2)) (.num 1), fs, l, out, room, none⟩ ⟨.num (2 * v + 1), fs, l, out, room, none⟩ := fun fs hfs => by
        refine .trans (m_push (e := .op .mul (.quoted (.num v)) (.num 2)) (f := .op .add (.num 1)) (by omega) rfl fun _ _ _ => rfl) ?_
        refine .trans (m_push (e := .quoted (.num v)) (f := .op .mul (.num 2)) (by simp only [List.length_cons]; omega) rfl fun _ _ _ => rfl) ?_
        refine .trans m_quoted ?_
        refine .trans (m_go (s' := ⟨.num 2, .op2 .mul v :: .op .add (.num 1) :: fs, l, out, room, none⟩) (push_ok (by simp only [List.length_cons]; omega))) ?_
        refine .trans (m_go (s' := ⟨.num (opv .mul v 2), .op .add (.num 1) :: fs, l, out, room, none⟩) rfl) ?_
        rw [opv_mul2 (by omega) (by omega)]
        refine .trans (m_go (s' := ⟨.num 1, .op2 .add (v * 2) :: fs, l, out, room, none⟩) (push_ok (by omega))) ?_
        refine .trans (m_go (s' := ⟨.num (opv .add (v * 2) 1), fs, l, out, room, none⟩) rfl) ?_
        rw [opv_add (by omega) (by omega), Int.mul_comm v 2]
        exact .refl _
      cases b with
      | false =>
        refine ⟨_, _, _, .trans (hask _ (by decide) rfl rfl) (.trans (hval _ (by omega)) (m_out ps (2 * v + 1) (by omega) (by omega) ?_))⟩
        omega
      | true =>
        obtain ⟨i, fs', l', r⟩ := m_ask ps (2 * v + 1) [] l (by decide) (fun _ => rfl) (by omega) (by omega) (by omega) (by omega)
        refine ⟨i, fs', l', .trans (hask _ (by decide) rfl rfl) (.trans (m_push (e := .op .add (.op .mul (.quoted (.num v)) (.num 2)) (.num 1)) (f := .ask .stop) (by omega) rfl fun _ _ _ => rfl) (.trans (hval _ (by simp only [List.length_cons]; omega)) r))⟩
end
end AF

namespace AF
open PySem PySem.Spec PyProof.Rows L2
section
variable {l room : Nat} {out : List Int} {fs : List PF}
theorem plain_shown (d n : Int) : plainT (shownT d n) = true ∧ pdep .t (shownT d n) ≤ 3 := by
  unfold shownT
  by_cases q : n % d = 0
  · rw [if_pos q]; exact ⟨rfl, by show 2 ≤ 3; decide⟩
  · rw [if_neg q]; exact ⟨rfl, by show 1 ≤ 3; decide⟩
theorem put_shown (d n : Int) (q : Tr) : putIn .t q (shownT d n) = shownT d n := by
  unfold shownT
  by_cases h : n % d = 0
  · rw [if_pos h]; rfl
  · rw [if_neg h]; rfl
theorem plain_items (d : Int) : ∀ ns, plainT (itemsT d ns) = true
  | [] => rfl
  | n :: ns => by
    show ((true && plainT (shownT d n)) && plainT (itemsT d ns)) = true
    rw [(plain_shown d n).1, plain_items d ns]
    rfl
theorem ok_items (d : Int) : ∀ ns, okPut .t (itemsT d ns) = true
  | [] => rfl
  | n :: ns => by
    unfold okPut
    rw [plain_items]
    have h := (plain_shown d n).2
    have e : pdep .t (itemsT d (n :: ns)) = max (max 0 (pdep .t (shownT d n)) + 1) 0 + 1 := rfl
    rw [e]
    exact decide_eq_true (by omega)
theorem put_items (d : Int) (n : Int) (ns : List Int) (q : Tr) : putIn .t q (itemsT d (n :: ns)) = .lt .t (.op .add q (shownT d n)) (itemsT d ns) := by
  show Tr.lt .t (.op .add q (putIn .t q (shownT d n))) (itemsT d ns) = _
  rw [put_shown]
theorem m_items (d : Int) (ps : List Bool) (hp : ps.length ≤ 3) : ∀ (ns : List Int) (tot : Int) (out : List Int) (room l : Nat), (∀ x ∈ ns, 0 ≤ x ∧ x ≤ 50) → 0 ≤ tot → tot + 50 * (ns.length : Nat) ≤ 2000 → ns.length ≤ room → ps.length < l →
    ∃ i fs' l' room', ReachM ⟨putIn .t (.quoted (.num tot)) (itemsT d ns), ps.map hdF, l, out, room, none⟩ ⟨.num i, fs', l', (dueE d ps ns out tot).1, room', some (dueE d ps ns out tot).2⟩
  | [], tot, out, room, l, _, h0, h1, _, _ => by
    simp only [List.length_nil] at h1
    exact ⟨_, _, _, _, .trans (m_quoted) (m_out ps tot (by omega) h0 (by omega))⟩
  | n :: ns, tot, out, room, l, hn, h0, h1, hr, hl => by
    have hlen : (ps.map hdF).length ≤ 3 := by rw [List.length_map]; exact hp
    obtain ⟨hn0, hn1⟩ := hn n List.mem_cons_self
    simp only [List.length_cons] at h1 hr
    rw [put_items]
    have b1 : ReachM ⟨.lt .t (.op .add (.quoted (.num tot)) (shownT d n)) (itemsT d ns), ps.map hdF, l, out, room, none⟩ ⟨shownT d n, .op2 .add tot :: .lt .t (itemsT d ns) :: ps.map hdF, l, out, room, none⟩ := by
      refine .trans (m_push (e := .op .add (.quoted (.num tot)) (shownT d n)) (f := .lt .t (itemsT d ns)) (by omega) rfl fun _ _ _ => rfl) ?_
      refine .trans (m_push (e := .quoted (.num tot)) (f := .op .add (shownT d n)) (by simp only [List.length_cons]; omega) rfl fun _ _ _ => rfl) ?_
      refine .trans m_quoted ?_
      exact m_go (push_ok (by simp only [List.length_cons]; omega))
    by_cases q : n % d = 0
    · have es : shownT d n = .op .add (.ask .stop (.num n)) (.print (.num n) (.num n)) := if_pos q
      have ed : dueE d ps (n :: ns) out tot = (out, askE ps n) := if_pos q
      rw [es] at b1 ⊢
      rw [ed]
      have hlim : n ≤ limE ps := by
        match ps, hp with
        | [], _ => show n ≤ 1000; omega
        | [_], _ => show n ≤ (1000 - 1) / 2; omega
        | [_, _], _ => show n ≤ ((1000 - 1) / 2 - 1) / 2; omega
        | [_, _, _], _ => show n ≤ (((1000 - 1) / 2 - 1) / 2 - 1) / 2; omega
      obtain ⟨i, fs', l', r⟩ := m_ask (out := out) (room := room) ps n [.op .add (.print (.num n) (.num n)), .op2 .add tot, .lt .t (itemsT d ns)] l (by simp) (fun _ => rfl) (by omega) hn0 hlim hl
      refine ⟨i, fs', l', room, .trans b1 (.trans (m_push (e := .ask .stop (.num n)) (f := .op .add (.print (.num n) (.num n))) (by simp only [List.length_cons]; omega) rfl fun _ _ _ => rfl) (.trans (m_push (e := .num n) (f := .ask .stop) (by simp only [List.length_cons]; omega) rfl fun _ _ _ => rfl) r))⟩
    · have es : shownT d n = .print (.num n) (.num n) := if_neg q
      have ed : dueE d ps (n :: ns) out tot = dueE d ps ns (out ++ [n]) (tot + n) := if_neg q
      rw [es] at b1 ⊢
      rw [ed]
      cases room with
      | zero => omega
      | succ room =>
        obtain ⟨i, fs', l', room', r⟩ := m_items d ps hp ns (tot + n) (out ++ [n]) room l (fun x hx => hn x (List.mem_cons_of_mem _ hx)) (by omega) (by omega) (by omega) hl
        refine ⟨i, fs', l', room', .trans b1 (.trans (m_push (e := .num n) (f := .print (.num n)) (by simp only [List.length_cons]; omega) rfl fun _ _ _ => rfl) ?_)⟩
        refine .trans (m_go (s' := ⟨.num n, .op2 .add tot :: .lt .t (itemsT d ns) :: ps.map hdF, l, out ++ [n], room, none⟩) rfl) ?_
        refine .trans (m_go (s' := ⟨.num (opv .add tot n), .lt .t (itemsT d ns) :: ps.map hdF, l, out ++ [n], room, none⟩) rfl) ?_
        rw [opv_add (by omega) (by omega)]
        refine .trans (m_go (s' := ⟨putIn .t (.quoted (.num (tot + n))) (itemsT d ns), ps.map hdF, l, out ++ [n], room, none⟩) ?_) r
        show (if okPut .t (itemsT d ns) = true then _ else none) = _
        rw [if_pos (ok_items d ns)]
theorem m_wrap : ∀ (ps : List Bool) (t : Tr) (fs : List PF) (l room : Nat) (out : List Int), fs.length + ps.length ≤ 100 → ReachM ⟨wrapT ps t, fs, l, out, room, none⟩ ⟨t, ps.map hdF ++ fs, l, out, room, none⟩
  | [], t, fs, l, room, out, _ => .refl _
  | b :: ps, t, fs, l, room, out, h => by
    simp only [List.length_cons] at h
    refine .trans (m_wrap ps (hdT1 b t) fs l room out (by omega)) ?_
    exact m_push (by rw [List.length_append, List.length_map]; omega) rfl fun _ _ _ => rfl
/-- the plain road ends as is due -/
theorem plain_law (d : Int) (ns : List Int) (ps : List Bool) (hp : ps.length ≤ 3) (hn : ns.length ≤ 30) (hb : ∀ x ∈ ns, 0 ≤ x ∧ x ≤ 50) : ∃ m f, RunsM m (initM (wrapT ps (bodyT d ns)) 100 ns.length) f ∧ f.out = (dueE d ps ns [] 0).1 ∧ f.en = some (dueE d ps ns [] 0).2 := by
  obtain ⟨i, fs', l', room', r⟩ := m_items d ps hp ns 0 [] ns.length 100 hb (by decide) (by omega) (Nat.le_refl _) (by omega)
  have r0 := m_wrap ps (bodyT d ns) [] 100 ns.length [] (by simp only [List.length_nil]; omega)
  rw [List.append_nil] at r0
  have r1 : ReachM ⟨bodyT d ns, ps.map hdF, 100, [], ns.length, none⟩ ⟨putIn .t (.quoted (.num 0)) (itemsT d ns), ps.map hdF, 100, [], ns.length, none⟩ := by
    refine .trans (m_push (e := .num 0) (f := .lt .t (itemsT d ns)) (by rw [List.length_map]; omega) rfl fun _ _ _ => rfl) (m_go ?_)
    show (if okPut .t (itemsT d ns) = true then _ else none) = _
    rw [if_pos (ok_items d ns)]
  obtain ⟨m, h⟩ := (r0.trans (r1.trans r)) 0 _ ⟨rfl, rfl⟩
  exact ⟨m, _, h, rfl, rfl⟩
end
end AF

namespace AF
open PySem PySem.Spec PyProof.Rows L2
/-! ### the machine -/
def ReachK (c : Ctl) (s : MS) (c' : Ctl) (s' : MS) : Prop := ∀ m f e, RunsK m c' s' f e → ∃ m', RunsK m' c s f e
theorem ReachK.refl (c : Ctl) (s : MS) : ReachK c s c s := fun m f e h => ⟨m, h⟩
theorem ReachK.trans {c1 c2 c3 : Ctl} {s1 s2 s3 : MS} (h1 : ReachK c1 s1 c2 s2) (h2 : ReachK c2 s2 c3 s3) : ReachK c1 s1 c3 s3 := fun m f e h => by
  obtain ⟨m', h'⟩ := h2 m f e h
  exact h1 m' f e h'
theorem ReachK.step {c c' : Ctl} {s s' : MS} (h : mTurn c s = some (.on c' s')) : ReachK c s c' s' := fun m f e hr => ⟨m + 1, by
  unfold RunsK
  rw [h]
  exact hr⟩
def hM (b : Bool) : MHd := ⟨.r, aftT, .stop, .x, .k, clT b, .nil⟩
def pcsM : List Bool → List MF → List MP
  | [], fr => [(none, fr)]
  | b :: bs, fr => (some (hM b), fr) :: pcsM bs []
theorem pcsM_len : ∀ (ps : List Bool) (fr : List MF), (pcsM ps fr).length = ps.length + 1
  | [], _ => rfl
  | b :: bs, fr => by
    show (pcsM bs []).length + 1 = bs.length + 1 + 1
    rw [pcsM_len bs []]
theorem pcsM_two (ps : List Bool) : ∃ p rest, pcsM ps [] = p :: rest ∧ rest.length = ps.length := by
  cases ps with
  | nil => exact ⟨_, [], rfl, rfl⟩
  | cons b bs => exact ⟨_, _, rfl, pcsM_len bs []⟩
section
variable {ps : List Bool} {fr : List MF} {l room : Nat} {out : List Int} {env : Env'}
theorem wait_ok (f : MF) (h : fr.length ≤ 900) : waitM ⟨pcsM ps fr, l, out, room⟩ f = some ⟨pcsM ps (f :: fr), l, out, room⟩ := by
  cases ps with
  | nil => exact if_neg (by omega)
  | cons b bs => exact if_neg (by omega)
theorem k_push {c a : Tr} (h : fr.length ≤ 900) (hb : ∀ s, mBegin c env s = match waitM s (.node c env) with
    | some s' => some (.go a env, s')
    | none => none) : ReachK (.go c env) ⟨pcsM ps fr, l, out, room⟩ (.go a env) ⟨pcsM ps (.node c env :: fr), l, out, room⟩ := .step (by
  unfold mTurn
  simp only
  rw [hb, wait_ok _ h])
theorem k_num {i : Int} : ReachK (.go (.num i) env) ⟨pcsM ps fr, l, out, room⟩ (.val i) ⟨pcsM ps fr, l, out, room⟩ := .step rfl
theorem k_name {x : Nm} {i : Int} (h : look env x = some (.int i)) : ReachK (.go (.name x) env) ⟨pcsM ps fr, l, out, room⟩ (.val i) ⟨pcsM ps fr, l, out, room⟩ := .step (by
  unfold mTurn mBegin
  simp only
  rw [h])
theorem turn_res (f : MF) (i : Int) : mTurn (.val i) ⟨pcsM ps (f :: fr), l, out, room⟩ = ofMR (mResume f i ⟨pcsM ps fr, l, out, room⟩) := by
  cases ps <;> rfl
theorem k_res {f : MF} {i : Int} {c : Ctl} {s : MS} (h : mResume f i ⟨pcsM ps fr, l, out, room⟩ = some (.tri c s)) : ReachK (.val i) ⟨pcsM ps (f :: fr), l, out, room⟩ c s := .step (by rw [turn_res, h]; rfl)
/-- both sides of an operation -/
theorem k_opL {sg : Sg} {a b : Tr} {i : Int} (h : fr.length ≤ 900) : ReachK (.val i) ⟨pcsM ps (.node (.op sg a b) env :: fr), l, out, room⟩ (.go b env) ⟨pcsM ps (.op2 sg i :: fr), l, out, room⟩ := k_res (by
  unfold mResume
  simp only
  rw [wait_ok _ h])
theorem k_opR {sg : Sg} {i j : Int} : ReachK (.val i) ⟨pcsM ps (.op2 sg j :: fr), l, out, room⟩ (.val (opv sg j i)) ⟨pcsM ps fr, l, out, room⟩ := k_res rfl
end
/-- a value goes out through the handlers -/
theorem k_out {l room : Nat} {out : List Int} : ∀ (ps : List Bool) (v : Int), ps.length ≤ 10 → 0 ≤ v → v + 100 * (ps.length : Nat) ≤ 100000 → ReachK (.val v) ⟨pcsM ps [], l, out, room⟩ (.val (v + 100 * (ps.length : Nat))) ⟨pcsM [] [], l, out, room⟩
  | [], v, _, _, _ => by
    have e : v + 100 * (([] : List Bool).length : Nat) = v := by simp
    rw [e]
    exact .refl _ _
  | b :: ps, v, hl, h0, h1 => by
    simp only [List.length_cons] at hl
    have e : v + 100 * ((b :: ps).length : Nat) = v + 100 + 100 * (ps.length : Nat) := by
      simp only [List.length_cons]
      omega
    rw [e] at h1 ⊢
    refine .trans (.step (c' := .go aftT (.cons .r (.int v) .nil)) (s' := ⟨pcsM ps [], l, out, room⟩) ?_) ?_
    · obtain ⟨p, rest, ep, er⟩ := pcsM_two ps
      show mTurn (.val v) ⟨(some (hM b), []) :: pcsM ps [], l, out, room⟩ = _
      rw [ep]
      show (if 900 < rest.length then none else _) = _
      rw [if_neg (by omega)]
      rfl
    · refine .trans (k_push (a := .name .r) (by simp) fun _ => rfl) ?_
      refine .trans (k_name (i := v) rfl) ?_
      refine .trans (k_opL (by simp)) ?_
      refine .trans k_num ?_
      refine .trans k_opR ?_
      rw [opv_add (by omega) (by omega)]
      exact k_out ps (v + 100) (by omega) (by omega) h1
def EndsK (c : Ctl) (s : MS) (out : List Int) (en : En) : Prop := ∃ m f e, RunsK m c s f e ∧ e.out = out ∧ enM f = en
theorem EndsK.of {c c' : Ctl} {s s' : MS} {out : List Int} {en : En} (r : ReachK c s c' s') (h : EndsK c' s' out en) : EndsK c s out en := by
  obtain ⟨m, f, e, h1, h2, h3⟩ := h
  obtain ⟨m', h'⟩ := r m f e h1
  exact ⟨m', f, e, h', h2, h3⟩
theorem k_ends {l room : Nat} {out : List Int} (ps : List Bool) (v : Int) (h : ps.length ≤ 10) (h0 : 0 ≤ v) (h1 : v + 100 * (ps.length : Nat) ≤ 100000) : EndsK (.val v) ⟨pcsM ps [], l, out, room⟩ out (.val (v + 100 * (ps.length : Nat))) :=
  .of (k_out ps v h h0 h1) ⟨1, .ret _, _, ⟨rfl, rfl⟩, rfl, rfl⟩
theorem k_val {ps : List Bool} {fr : List MF} {l room : Nat} {out : List Int} {env : Env'} {v : Int} (hl : look env .x = some (.int v)) (h0 : 0 ≤ v) (h1 : v ≤ 1000) (hf : fr.length ≤ 20) : ReachK (.go valT env) ⟨pcsM ps fr, l, out, room⟩ (.val (2 * v + 1)) ⟨pcsM ps fr, l, out, room⟩ := by
  refine .trans (k_push (a := .op .mul (.name .x) (.num 2)) (by omega) fun _ => rfl) ?_
  refine .trans (k_push (a := .name .x) (by simp only [List.length_cons]; omega) fun _ => rfl) ?_
  refine .trans (k_name hl) ?_
  refine .trans (k_opL (by simp only [List.length_cons]; omega)) ?_
  refine .trans k_num ?_
  refine .trans k_opR ?_
  rw [opv_mul2 (by omega) (by omega)]
  refine .trans (k_opL (by omega)) ?_
  refine .trans k_num ?_
  refine .trans k_opR ?_
  rw [opv_add (by omega) (by omega), Int.mul_comm v 2]
  exact .refl _ _
theorem k_ask {room : Nat} {out : List Int} : ∀ (ps : List Bool) (v : Int) (junk : List MF) (a : Tr) (env : Env') (l : Nat), ps.length ≤ 4 → 0 ≤ v → v ≤ limE ps → ps.length < l → EndsK (.val v) ⟨pcsM ps (.node (.ask .stop a) env :: junk), l, out, room⟩ out (askE ps v)
  | [], v, junk, a, env, l, _, _, _, hl => by
    cases l with
    | zero => exact absurd hl (Nat.lt_irrefl _)
    | succ l => exact ⟨1, .stop .stop, _, ⟨rfl, rfl⟩, rfl, rfl⟩
  | b :: ps, v, junk, a, env, l, hp, h0, h1, hl => by
    cases l with
    | zero => exact absurd hl (Nat.not_lt_zero _)
    | succ l =>
      simp only [List.length_cons] at hp hl
      have h1 : v ≤ (limE ps - 1) / 2 := h1
      have hlim := limE_le ps
      have r1 : ReachK (.val v) ⟨pcsM (b :: ps) (.node (.ask .stop a) env :: junk), l + 1, out, room⟩ (.go (clT b) (.cons .k .kept (.cons .x (.int v) .nil))) ⟨pcsM ps [], l, out, room⟩ := .step (by
        rw [turn_res]
        obtain ⟨p, rest, ep, er⟩ := pcsM_two ps
        show ofMR (mAsk .stop v ⟨(some (hM b), junk) :: pcsM ps [], l + 1, out, room⟩) = _
        rw [ep]
        show ofMR (if 900 < rest.length then none else _) = _
        rw [if_neg (by omega)]
        rfl)
      cases b with
      | false =>
        refine .of r1 (.of (k_val (v := v) rfl h0 (by omega) (by simp)) (k_ends ps (2 * v + 1) (by omega) (by omega) (by omega)))
      | true =>
        refine .of r1 (.of (k_push (a := valT) (by simp) fun _ => rfl) (.of (k_val (v := v) rfl h0 (by omega) (by simp)) (k_ask ps (2 * v + 1) [] valT _ l (by omega) (by omega) (by omega) (by omega))))
theorem k_items (d : Int) (ps : List Bool) (hp : ps.length ≤ 3) : ∀ (ns : List Int) (tot : Int) (out : List Int) (room l : Nat) (env : Env'), look env .t = some (.int tot) → (∀ x ∈ ns, 0 ≤ x ∧ x ≤ 50) → 0 ≤ tot → tot + 50 * (ns.length : Nat) ≤ 2000 → ns.length ≤ room → ps.length < l →
    EndsK (.go (itemsT d ns) env) ⟨pcsM ps [], l, out, room⟩ (dueE d ps ns out tot).1 (dueE d ps ns out tot).2
  | [], tot, out, room, l, env, he, _, h0, h1, _, _ => by
    simp only [List.length_nil] at h1
    exact .of (k_name he) (k_ends ps tot (by omega) h0 (by omega))
  | n :: ns, tot, out, room, l, env, he, hn, h0, h1, hr, hl => by
    obtain ⟨hn0, hn1⟩ := hn n List.mem_cons_self
    simp only [List.length_cons] at h1 hr
    have b1 : ReachK (.go (itemsT d (n :: ns)) env) ⟨pcsM ps [], l, out, room⟩ (.go (shownT d n) env) ⟨pcsM ps [.op2 .add tot, .node (itemsT d (n :: ns)) env], l, out, room⟩ := by
      refine .trans (k_push (a := .op .add (.name .t) (shownT d n)) (by simp) fun _ => rfl) ?_
      refine .trans (k_push (a := .name .t) (by simp) fun _ => rfl) ?_
      refine .trans (k_name he) ?_
      exact k_opL (by simp)
    refine .of b1 ?_
    by_cases q : n % d = 0
    · have es : shownT d n = .op .add (.ask .stop (.num n)) (.print (.num n) (.num n)) := if_pos q
      have ed : dueE d ps (n :: ns) out tot = (out, askE ps n) := if_pos q
      rw [es, ed]
      have hlim : n ≤ limE ps := by
        match ps, hp with
        | [], _ => show n ≤ 1000; omega
        | [_], _ => show n ≤ (1000 - 1) / 2; omega
        | [_, _], _ => show n ≤ ((1000 - 1) / 2 - 1) / 2; omega
        | [_, _, _], _ => show n ≤ (((1000 - 1) / 2 - 1) / 2 - 1) / 2; omega
      refine .of (k_push (a := .ask .stop (.num n)) (by simp) fun _ => rfl) (.of (k_push (a := .num n) (by simp) fun _ => rfl) (.of k_num ?_))
      exact k_ask ps n _ _ _ l (by omega) hn0 hlim hl
    · have es : shownT d n = .print (.num n) (.num n) := if_neg q
      have ed : dueE d ps (n :: ns) out tot = dueE d ps ns (out ++ [n]) (tot + n) := if_neg q
      rw [es, ed]
      cases room with
      | zero => omega
      | succ room =>
        refine .of (k_push (a := .num n) (by simp) fun _ => rfl) (.of k_num ?_)
        refine .of (k_res (c := .go (.num n) env) (s := ⟨pcsM ps [.op2 .add tot, .node (itemsT d (n :: ns)) env], l, out ++ [n], room⟩) rfl) ?_
        refine .of k_num (.of k_opR ?_)
        rw [opv_add (by omega) (by omega)]
        refine .of (k_res (c := .go (itemsT d ns) (.cons .t (.int (tot + n)) env)) (s := ⟨pcsM ps [], l, out ++ [n], room⟩) rfl) ?_
        exact k_items d ps hp ns (tot + n) (out ++ [n]) room l _ rfl (fun x hx => hn x (List.mem_cons_of_mem _ hx)) (by omega) (by omega) (by omega) hl
theorem k_wrap {l room : Nat} {out : List Int} : ∀ (ps : List Bool) (t : Tr), ps.length ≤ 100 → ReachK (.go (wrapT ps t) .nil) ⟨pcsM [] [], l, out, room⟩ (.go t .nil) ⟨pcsM ps [], l, out, room⟩
  | [], t, _ => .refl _ _
  | b :: ps, t, h => by
    simp only [List.length_cons] at h
    refine .trans (k_wrap ps (hdT1 b t) (by omega)) (.step ?_)
    show (match (if 900 < (pcsM ps []).length then none else _) with | some (c', s') => some (MT.on c' s') | none => none) = _
    rw [if_neg (by rw [pcsM_len]; omega)]
    rfl
/-- the machine ends as is due -/
theorem machine_law (d : Int) (ns : List Int) (ps : List Bool) (hp : ps.length ≤ 3) (hn : ns.length ≤ 30) (hb : ∀ x ∈ ns, 0 ≤ x ∧ x ≤ 50) : ∃ m f e, RunsK m (.go (wrapT ps (bodyT d ns)) .nil) ⟨[(none, [])], 100, [], ns.length⟩ f e ∧ e.out = (dueE d ps ns [] 0).1 ∧ enM f = (dueE d ps ns [] 0).2 := by
  have h := k_items d ps hp ns 0 [] ns.length 100 (.cons .t (.int 0) .nil) rfl hb (by decide) (by omega) (Nat.le_refl _) (by omega)
  refine EndsK.of (k_wrap ps (bodyT d ns) (by omega)) (.of (k_push (a := .num 0) (by simp) fun _ => rfl) (.of k_num (.of (k_res (c := .go (itemsT d ns) (.cons .t (.int 0) .nil)) (s := ⟨pcsM ps [], 100, [], ns.length⟩) rfl) h)))
end AF

namespace AF
open PySem PySem.Spec PyProof.Rows L2
/-! ### the runner -/
def EndsR (code : List (List Rw)) (s : RS) (out : List Int) (en : En) : Prop := ∃ m f, RunsR m code s f ∧ f.out = out ∧ f.en = some en
theorem EndsR.step {code : List (List Rw)} {s s' : RS} {out : List Int} {en : En} (hn : s.en = none) (h : rStep code s = some s') (e : EndsR code s' out en) : EndsR code s out en := by
  obtain ⟨m, f, h1, h2, h3⟩ := e
  exact ⟨m + 1, f, ⟨hn, s', h, h1⟩, h2, h3⟩
theorem drop_get {α : Type} {R : List α} {a : Nat} {r : α} {suf : List α} (h : R.drop a = r :: suf) : R[a]? = some r ∧ R.drop (a + 1) = suf := by
  constructor
  · have := congrArg (·[0]?) h
    simp only [List.getElem?_drop, Nat.add_zero, List.getElem?_cons_zero] at this
    exact this
  · rw [← List.drop_drop, h]
    rfl
theorem r_do {code : List (List Rw)} {R suf : List Rw} {a l room : Nat} {bd : Bd} {ops : List Int} {pcs : List RP} {out out' : List Int} {r : Rw} {s' : RS} {en : En} (h : R.drop a = r :: suf) (hd : rDo code r ⟨R, a + 1, bd, ops, pcs, l, out, room, none⟩ = some s') (e : EndsR code s' out' en) :
    EndsR code ⟨R, a, bd, ops, pcs, l, out, room, none⟩ out' en := .step rfl (by
  unfold rStep
  rw [(drop_get h).1]
  exact hd) e
def rA : List Rw := [.load 0, .int 100, .op .add, .ret]
def rC (b : Bool) : List Rw := [.load 1, .int 2, .op .mul, .int 1, .op .add] ++ if b = true then [.ask .stop, .ret] else [.ret]
def rH (j : Nat) : List Rw := [.handle j (j + 1) (j + 2) .stop, .ret]
def rF (j : Nat) : RF := ⟨rH j, 1, .nil, []⟩
def stk : List (Nat × Bool) → List RF → List RP
  | [], fr => [(none, fr)]
  | (j, b) :: ls, fr => (some ⟨j + 1, j + 2, .nil, .stop⟩, fr) :: stk ls [rF j]
def okL2 (code : List (List Rw)) (ls : List (Nat × Bool)) : Prop := ∀ x ∈ ls, code[x.1 + 1]? = some rA ∧ code[x.1 + 2]? = some (rC x.2)
theorem del_pop {code : List (List Rw)} {ls : List (Nat × Bool)} {j : Nat} {v : Int} {R : List Rw} {a l room : Nat} {bd : Bd} {ops : List Int} {out : List Int} : rDeliver code v ⟨R, a, bd, ops, stk ls [rF j], l, out, room, none⟩ = some ⟨rH j, 1, .nil, [v], stk ls [], l, out, room, none⟩ := by
  cases ls with
  | nil => rfl
  | cons x ls => rfl
theorem r_out {code : List (List Rw)} {l room : Nat} {out : List Int} : ∀ (ls : List (Nat × Bool)) (R : List Rw) (a : Nat) (bd : Bd) (v : Int) (ops : List Int), okL2 code ls → R.drop a = [.ret] → 0 ≤ v → v + 100 * (ls.length : Nat) ≤ 100000 → EndsR code ⟨R, a, bd, v :: ops, stk ls [], l, out, room, none⟩ out (.val (v + 100 * (ls.length : Nat)))
  | [], R, a, bd, v, ops, _, hd, _, _ => by
    have e : v + 100 * (([] : List (Nat × Bool)).length : Nat) = v := by simp
    rw [e]
    exact r_do hd rfl ⟨0, _, ⟨rfl, rfl⟩, rfl, rfl⟩
  | (j, b) :: ls, R, a, bd, v, ops, hok, hd, h0, h1 => by
    have e : v + 100 * (((j, b) :: ls).length : Nat) = v + 100 + 100 * (ls.length : Nat) := by
      simp only [List.length_cons]
      omega
    rw [e] at h1 ⊢
    obtain ⟨c1, c2⟩ := hok (j, b) List.mem_cons_self
    refine r_do hd (s' := ⟨rA, 0, .cons (.int v) .nil, [], stk ls [rF j], l, out, room, none⟩) ?_ ?_
    · show (match code[j + 1]? with
        | some rows => _
        | none => none) = _
      rw [show code[j + 1]? = some rA from c1]
    · refine r_do (r := .load 0) rfl rfl (r_do (r := .int 100) rfl rfl (r_do (r := .op .add) rfl rfl ?_))
      rw [opv_add (by omega) (by omega)]
      refine r_do (r := .ret) rfl del_pop ?_
      exact r_out ls (rH j) 1 .nil (v + 100) [] (fun x hx => hok x (List.mem_cons_of_mem _ hx)) rfl (by omega) h1
theorem r_ask {code : List (List Rw)} {room : Nat} {out : List Int} : ∀ (ls : List (Nat × Bool)) (R suf : List Rw) (a l : Nat) (bd : Bd) (v : Int) (ops : List Int) (fr : List RF), okL2 code ls → R.drop a = .ask .stop :: suf → fr.length ≤ 10 → 0 ≤ v → v ≤ limE (ls.map (·.2)) → ls.length ≤ 4 → ls.length < l →
    EndsR code ⟨R, a, bd, v :: ops, stk ls fr, l, out, room, none⟩ out (askE (ls.map (·.2)) v)
  | [], R, suf, a, l, bd, v, ops, fr, _, hd, _, _, _, _, hl => by
    cases l with
    | zero => exact absurd hl (Nat.lt_irrefl _)
    | succ l => exact r_do hd rfl ⟨0, _, ⟨rfl, rfl⟩, rfl, rfl⟩
  | (j, b) :: ls, R, suf, a, l, bd, v, ops, fr, hok, hd, hf, h0, h1, hp, hl => by
    cases l with
    | zero => exact absurd hl (Nat.not_lt_zero _)
    | succ l =>
      simp only [List.length_cons] at hp hl
      have h1 : v ≤ (limE (ls.map (·.2)) - 1) / 2 := h1
      have hlim := limE_le (ls.map (·.2))
      obtain ⟨c1, c2⟩ := hok (j, b) List.mem_cons_self
      refine r_do hd (s' := ⟨rC b, 0, .cons .kept (.cons (.int v) .nil), [], stk ls [rF j], l, out, room, none⟩) ?_ ?_
      · show (if Nm.stop = Nm.stop then (if 900 < fr.length then none else match code[j + 2]? with
          | some rows => _
          | none => none) else none) = _
        rw [if_pos rfl, if_neg (by omega), show code[j + 2]? = some (rC b) from c2]
      · cases b with
        | false =>
          refine r_do (r := .load 1) rfl rfl (r_do (r := .int 2) rfl rfl (r_do (r := .op .mul) rfl rfl ?_))
          rw [opv_mul2 (by omega) (by omega)]
          refine r_do (r := .int 1) rfl rfl (r_do (r := .op .add) rfl rfl ?_)
          rw [opv_add (by omega) (by omega), Int.mul_comm v 2]
          refine r_do (r := .ret) rfl del_pop ?_
          have e : (ls.map (·.2)).length = ls.length := List.length_map ..
          have ea : askE (((j, false) :: ls).map (·.2)) v = .val (2 * v + 1 + 100 * ((ls.map (·.2)).length : Nat)) := rfl
          rw [ea, e]
          exact r_out ls (rH j) 1 .nil (2 * v + 1) [] (fun x hx => hok x (List.mem_cons_of_mem _ hx)) rfl (by omega) (by omega)
        | true =>
          refine r_do (r := .load 1) rfl rfl (r_do (r := .int 2) rfl rfl (r_do (r := .op .mul) rfl rfl ?_))
          rw [opv_mul2 (by omega) (by omega)]
          refine r_do (r := .int 1) rfl rfl (r_do (r := .op .add) rfl rfl ?_)
          rw [opv_add (by omega) (by omega), Int.mul_comm v 2]
          have ea : askE (((j, true) :: ls).map (·.2)) v = askE (ls.map (·.2)) (2 * v + 1) := rfl
          rw [ea]
          exact r_ask ls (rC true) [.ret] 5 l _ (2 * v + 1) [] [rF j] (fun x hx => hok x (List.mem_cons_of_mem _ hx)) rfl (by simp) (by omega) (by omega) (by omega) (by omega)
def shR (d n : Int) : List Rw := if n % d = 0 then [.int n, .ask .stop, .int n, .print, .int n, .op .add] else [.int n, .print, .int n]
def itemR (d : Int) : List Int → List Rw
  | [] => [.load 0, .ret]
  | n :: ns => .load 0 :: (shR d n ++ .op .add :: .bind :: itemR d ns)
theorem r_items {code : List (List Rw)} (d : Int) (ls : List (Nat × Bool)) (hp : ls.length ≤ 3) (hok : okL2 code ls) : ∀ (ns : List Int) (tot : Int) (out : List Int) (room l : Nat) (R : List Rw) (a : Nat) (bd : Bd), R.drop a = itemR d ns → bdGet 0 bd = some (.int tot) → (∀ x ∈ ns, 0 ≤ x ∧ x ≤ 50) → 0 ≤ tot → tot + 50 * (ns.length : Nat) ≤ 2000 → ns.length ≤ room → ls.length < l →
    EndsR code ⟨R, a, bd, [], stk ls [], l, out, room, none⟩ (dueE d (ls.map (·.2)) ns out tot).1 (dueE d (ls.map (·.2)) ns out tot).2
  | [], tot, out, room, l, R, a, bd, hR, hb, _, h0, h1, _, _ => by
    simp only [List.length_nil] at h1
    have hl : rDo code (.load 0) ⟨R, a + 1, bd, [], stk ls [], l, out, room, none⟩ = some ⟨R, a + 1, bd, [tot], stk ls [], l, out, room, none⟩ := by
      unfold rDo
      simp only [hb]
      rfl
    refine r_do hR hl ?_
    have e : (ls.map (·.2)).length = ls.length := List.length_map ..
    show EndsR code _ out (.val (tot + 100 * ((ls.map (·.2)).length : Nat)))
    rw [e]
    exact r_out ls R (a + 1) bd tot [] hok (drop_get hR).2 h0 (by omega)
  | n :: ns, tot, out, room, l, R, a, bd, hR, hb, hn, h0, h1, hr, hl => by
    obtain ⟨hn0, hn1⟩ := hn n List.mem_cons_self
    simp only [List.length_cons] at h1 hr
    have hl0 : rDo code (.load 0) ⟨R, a + 1, bd, [], stk ls [], l, out, room, none⟩ = some ⟨R, a + 1, bd, [tot], stk ls [], l, out, room, none⟩ := by
      unfold rDo
      simp only [hb]
      rfl
    refine r_do hR hl0 ?_
    have hR1 := (drop_get hR).2
    by_cases q : n % d = 0
    · have es : shR d n = [.int n, .ask .stop, .int n, .print, .int n, .op .add] := if_pos q
      have ed : dueE d (ls.map (·.2)) (n :: ns) out tot = (out, askE (ls.map (·.2)) n) := if_pos q
      rw [es] at hR1
      rw [ed]
      have hlim : n ≤ limE (ls.map (·.2)) := by
        match ls, hp with
        | [], _ => show n ≤ 1000; omega
        | [_], _ => show n ≤ (1000 - 1) / 2; omega
        | [_, _], _ => show n ≤ ((1000 - 1) / 2 - 1) / 2; omega
        | [_, _, _], _ => show n ≤ (((1000 - 1) / 2 - 1) / 2 - 1) / 2; omega
      refine r_do (r := .int n) hR1 rfl ?_
      exact r_ask ls R _ (a + 1 + 1) l bd n [tot] [] hok (drop_get hR1).2 (by simp) hn0 hlim (by omega) hl
    · have es : shR d n = [.int n, .print, .int n] := if_neg q
      have ed : dueE d (ls.map (·.2)) (n :: ns) out tot = dueE d (ls.map (·.2)) ns (out ++ [n]) (tot + n) := if_neg q
      rw [es] at hR1
      rw [ed]
      cases room with
      | zero => omega
      | succ room =>
        have hR2 := (drop_get hR1).2
        have hR3 := (drop_get hR2).2
        have hR4 := (drop_get hR3).2
        have hR5 := (drop_get hR4).2
        refine r_do (r := .int n) hR1 rfl (r_do (r := .print) hR2 rfl (r_do (r := .int n) hR3 rfl (r_do (r := .op .add) hR4 rfl ?_)))
        rw [opv_add (by omega) (by omega)]
        refine r_do (r := .bind) hR5 rfl ?_
        exact r_items d ls hp hok ns (tot + n) (out ++ [n]) room l R _ _ (drop_get hR5).2 rfl (fun x hx => hn x (List.mem_cons_of_mem _ hx)) (by omega) (by omega) (by omega) hl
end AF

namespace AF
open PySem PySem.Spec PyProof.Rows L2
/-! ### compiling the law's tree -/
theorem comp_shown (d n : Int) (ns : List Nm) : compV ns (shownT d n) = shR d n := by
  unfold shownT shR
  by_cases q : n % d = 0
  · rw [if_pos q, if_pos q]; rfl
  · rw [if_neg q, if_neg q]; rfl
theorem ix_t (pre : List Nm) : ixOf .t (pre ++ [Nm.t]).reverse = some 0 := by rw [List.reverse_append]; rfl
theorem comp_t (pre : List Nm) : compV (pre ++ [Nm.t]) (.name .t) = [.load 0] := by
  show [Rw.load ((ixOf .t (pre ++ [Nm.t]).reverse).getD 0)] = _
  rw [ix_t]
  rfl
theorem comp_items (d : Int) : ∀ (ns : List Int) (pre : List Nm), compL (pre ++ [Nm.t]) (itemsT d ns) = itemR d ns
  | [], pre => by
    show compV (pre ++ [Nm.t]) (.name .t) ++ [.ret] = _
    rw [comp_t]
    rfl
  | n :: ns, pre => by
    show (compV (pre ++ [Nm.t]) (.name .t) ++ compV (pre ++ [Nm.t]) (shownT d n) ++ [.op .add]) ++ [.bind] ++ compL (pre ++ [Nm.t] ++ [Nm.t]) (itemsT d ns) = _
    rw [comp_t, comp_shown, comp_items d ns (pre ++ [Nm.t])]
    show _ = .load 0 :: (shR d n ++ .op .add :: .bind :: itemR d ns)
    simp
theorem ok_shown (d n : Int) (ns : List Nm) (h : 0 ≤ n ∧ n ≤ 50) : okV ns (shownT d n) = true := by
  have e : okV ns (.num n) = true := decide_eq_true ⟨by omega, by omega⟩
  unfold shownT
  by_cases q : n % d = 0
  · rw [if_pos q]
    show (okV ns (.num n) && (okV ns (.num n) && okV ns (.num n))) = true
    rw [e]; rfl
  · rw [if_neg q]
    show (okV ns (.num n) && okV ns (.num n)) = true
    rw [e]; rfl
theorem okL_items (d : Int) : ∀ (ns : List Int) (pre : List Nm), (∀ x ∈ ns, 0 ≤ x ∧ x ≤ 50) → okL (pre ++ [Nm.t]) (itemsT d ns) = true
  | [], pre, _ => by
    show (ixOf .t (pre ++ [Nm.t]).reverse).isSome = true
    rw [ix_t]; rfl
  | n :: ns, pre, h => by
    show ((ixOf .t (pre ++ [Nm.t]).reverse).isSome && okV (pre ++ [Nm.t]) (shownT d n) && okL (pre ++ [Nm.t] ++ [Nm.t]) (itemsT d ns)) = true
    rw [ix_t, ok_shown d n _ (h n List.mem_cons_self), okL_items d ns (pre ++ [Nm.t]) fun x hx => h x (List.mem_cons_of_mem _ hx)]
    rfl
theorem len_items (d : Int) : ∀ ns : List Int, (itemR d ns).length ≤ 9 * ns.length + 2
  | [] => by show 2 ≤ 2; decide
  | n :: ns => by
    have ih := len_items d ns
    have hs : (shR d n).length ≤ 6 := by
      unfold shR
      by_cases q : n % d = 0
      · rw [if_pos q]; show 6 ≤ 6; decide
      · rw [if_neg q]; show 3 ≤ 6; decide
    show (Rw.load 0 :: (shR d n ++ .op .add :: .bind :: itemR d ns)).length ≤ 9 * (ns.length + 1) + 2
    simp only [List.length_cons, List.length_append]
    omega
theorem vdep_shown (d n : Int) : vdep (shownT d n) ≤ 2 := by
  unfold shownT
  by_cases q : n % d = 0
  · rw [if_pos q]; show 2 ≤ 2; decide
  · rw [if_neg q]; show 1 ≤ 2; decide
theorem lvd_items (d : Int) : ∀ ns : List Int, lvd (itemsT d ns) ≤ 10
  | [] => by show 0 ≤ 10; decide
  | n :: ns => by
    have ih := lvd_items d ns
    have h := vdep_shown d n
    show max (max 0 (vdep (shownT d n)) + 1) (lvd (itemsT d ns)) ≤ 10
    omega
theorem ldep_items (d : Int) : ∀ ns : List Int, ldep (itemsT d ns) = ns.length
  | [] => rfl
  | n :: ns => by
    show ldep (itemsT d ns) + 1 = ns.length + 1
    rw [ldep_items d ns]
theorem comp_body (d : Int) (ns : List Int) : compL [] (bodyT d ns) = .int 0 :: .bind :: itemR d ns := by
  show [Rw.int 0] ++ [.bind] ++ compL ([] ++ [Nm.t]) (itemsT d ns) = _
  rw [comp_items d ns []]
  rfl
theorem okB_body (d : Int) (ns : List Int) (hn : ns.length ≤ 15) (hb : ∀ x ∈ ns, 0 ≤ x ∧ x ≤ 50) : okB [] (bodyT d ns) = true := by
  have h1 : okL [] (bodyT d ns) = true := by
    show (okV [] (.num 0) && okL ([] ++ [Nm.t]) (itemsT d ns)) = true
    rw [okL_items d ns [] hb]; rfl
  have h2 : (compL [] (bodyT d ns)).length ≤ 900 := by
    rw [comp_body]
    have := len_items d ns
    simp only [List.length_cons]
    omega
  have h3 : lvd (bodyT d ns) ≤ 10 := by
    have := lvd_items d ns
    show max 0 (lvd (itemsT d ns)) ≤ 10
    omega
  have h4 : ldep (bodyT d ns) ≤ 20 := by
    show ldep (itemsT d ns) + 1 ≤ 20
    rw [ldep_items]
    omega
  show (decide (0 ≤ 100) && (okL [] (bodyT d ns) && (decide ((compL [] (bodyT d ns)).length ≤ 900) && (decide (lvd (bodyT d ns) ≤ 10) && decide (ldep (bodyT d ns) ≤ 20))))) = true
  rw [h1, decide_eq_true h2, decide_eq_true h3, decide_eq_true h4]
  rfl
theorem c_step {m : Nat} {bs out : List (List Rw)} {qs add : List (Tr × List Nm)} {e : Tr} {ns : List Nm} {r : List Rw} (h : qs[bs.length]? = some (e, ns)) (hq : qs.length ≤ 800) (hb : bs.length ≤ 800) (ok : okB ns e = true) (hc : compB qs.length ns e = (r, add)) (k : CRuns m (bs ++ [r]) (qs ++ add) out) : CRuns (m + 1) bs qs out := by
  unfold CRuns
  rw [h]
  refine ⟨hq, hb, ok, ?_⟩
  rw [hc]
  exact k
theorem okB_h (b : Bool) (t : Tr) : okB [] (hdT1 b t) = true := by cases b <;> rfl
theorem comp_h (q : Nat) (b : Bool) (t : Tr) : compB q [] (hdT1 b t) = (rH q, [(t, []), (aftT, [.r]), (clT b, [.x, .k])]) := rfl
theorem comp_a (q : Nat) : compB q [.r] aftT = (rA, []) := rfl
theorem comp_c (q : Nat) (b : Bool) : compB q [.x, .k] (clT b) = (rC b, []) := by cases b <;> rfl
theorem okB_a : okB [.r] aftT = true := rfl
theorem okB_c (b : Bool) : okB [.x, .k] (clT b) = true := by cases b <;> rfl
theorem comp_b (q : Nat) (d : Int) (ns : List Int) : compB q [] (bodyT d ns) = (.int 0 :: .bind :: itemR d ns, []) := by
  show (compL [] (bodyT d ns), []) = _
  rw [comp_body]
theorem runner_law (d : Int) (ns : List Int) (ps : List Bool) (hp1 : 1 ≤ ps.length) (hp : ps.length ≤ 3) (hn : ns.length ≤ 15) (hb : ∀ x ∈ ns, 0 ≤ x ∧ x ≤ 50) : ∃ mc code rows m f, CRuns mc [] [(wrapT ps (bodyT d ns), [])] code ∧ code[0]? = some rows ∧
    RunsR m code (initR rows 100 ns.length) f ∧ f.out = (dueE d ps ns [] 0).1 ∧ f.en = some (dueE d ps ns [] 0).2 := by
  have okb := okB_body d ns hn hb
  have body : ∀ (code : List (List Rw)) (ls : List (Nat × Bool)), ls.length ≤ 3 → okL2 code ls → EndsR code ⟨.int 0 :: .bind :: itemR d ns, 0, .nil, [], stk ls [], 100, [], ns.length, none⟩ (dueE d (ls.map (·.2)) ns [] 0).1 (dueE d (ls.map (·.2)) ns [] 0).2 := fun code ls hl hok => by
    refine r_do (r := .int 0) rfl rfl (r_do (r := .bind) rfl rfl ?_)
    exact r_items d ls hl hok ns 0 [] ns.length 100 _ 2 _ rfl rfl hb (by decide) (by omega) (Nat.le_refl _) (by omega)
  match ps, hp1, hp with
  | [b1], _, _ =>
    have hok : okL2 [rH 1, .int 0 :: .bind :: itemR d ns, rA, rC b1] [(1, b1)] := fun x hx => by
      rw [List.mem_singleton] at hx
      subst hx
      exact ⟨rfl, rfl⟩
    obtain ⟨m, f, h1, h2, h3⟩ : EndsR [rH 1, .int 0 :: .bind :: itemR d ns, rA, rC b1] (initR (rH 1) 100 ns.length) _ _ := r_do (r := .handle 1 2 3 .stop) rfl rfl (body _ [(1, b1)] (by show 1 ≤ 3; decide) hok)
    refine ⟨5, _, rH 1, m, f, ?_, rfl, h1, h2, h3⟩
    refine c_step rfl (by show 1 ≤ 800; decide) (by show 0 ≤ 800; decide) (okB_h _ _) (comp_h _ _ _) ?_
    refine c_step rfl (by show 4 ≤ 800; decide) (by show 1 ≤ 800; decide) okb (comp_b _ _ _) ?_
    refine c_step rfl (by show 4 ≤ 800; decide) (by show 2 ≤ 800; decide) okB_a (comp_a _) ?_
    refine c_step rfl (by show 4 ≤ 800; decide) (by show 3 ≤ 800; decide) (okB_c _) (comp_c _ _) ?_
    exact ⟨rfl, rfl⟩
  | [b1, b2], _, _ =>
    have hok : okL2 [rH 1, rH 4, rA, rC b2, .int 0 :: .bind :: itemR d ns, rA, rC b1] [(4, b1), (1, b2)] := fun x hx => by
      rcases List.mem_cons.mp hx with hx | hx
      · subst hx
        exact ⟨rfl, rfl⟩
      · rw [List.mem_singleton] at hx
        subst hx
        exact ⟨rfl, rfl⟩
    obtain ⟨m, f, h1, h2, h3⟩ : EndsR [rH 1, rH 4, rA, rC b2, .int 0 :: .bind :: itemR d ns, rA, rC b1] (initR (rH 1) 100 ns.length) _ _ := r_do (r := .handle 1 2 3 .stop) rfl rfl (r_do (r := .handle 4 5 6 .stop) rfl rfl (body _ [(4, b1), (1, b2)] (by show 2 ≤ 3; decide) hok))
    refine ⟨8, _, rH 1, m, f, ?_, rfl, h1, h2, h3⟩
    refine c_step rfl (by show 1 ≤ 800; decide) (by show 0 ≤ 800; decide) (okB_h _ _) (comp_h _ _ _) ?_
    refine c_step rfl (by show 4 ≤ 800; decide) (by show 1 ≤ 800; decide) (okB_h _ _) (comp_h _ _ _) ?_
    refine c_step rfl (by show 7 ≤ 800; decide) (by show 2 ≤ 800; decide) okB_a (comp_a _) ?_
    refine c_step rfl (by show 7 ≤ 800; decide) (by show 3 ≤ 800; decide) (okB_c _) (comp_c _ _) ?_
    refine c_step rfl (by show 7 ≤ 800; decide) (by show 4 ≤ 800; decide) okb (comp_b _ _ _) ?_
    refine c_step rfl (by show 7 ≤ 800; decide) (by show 5 ≤ 800; decide) okB_a (comp_a _) ?_
    refine c_step rfl (by show 7 ≤ 800; decide) (by show 6 ≤ 800; decide) (okB_c _) (comp_c _ _) ?_
    exact ⟨rfl, rfl⟩
  | [b1, b2, b3], _, _ =>
    have hok : okL2 [rH 1, rH 4, rA, rC b3, rH 7, rA, rC b2, .int 0 :: .bind :: itemR d ns, rA, rC b1] [(7, b1), (4, b2), (1, b3)] := fun x hx => by
      rcases List.mem_cons.mp hx with hx | hx
      · subst hx
        exact ⟨rfl, rfl⟩
      · rcases List.mem_cons.mp hx with hx | hx
        · subst hx
          exact ⟨rfl, rfl⟩
        · rw [List.mem_singleton] at hx
          subst hx
          exact ⟨rfl, rfl⟩
    obtain ⟨m, f, h1, h2, h3⟩ : EndsR [rH 1, rH 4, rA, rC b3, rH 7, rA, rC b2, .int 0 :: .bind :: itemR d ns, rA, rC b1] (initR (rH 1) 100 ns.length) _ _ := r_do (r := .handle 1 2 3 .stop) rfl rfl (r_do (r := .handle 4 5 6 .stop) rfl rfl (r_do (r := .handle 7 8 9 .stop) rfl rfl (body _ [(7, b1), (4, b2), (1, b3)] (by show 3 ≤ 3; decide) hok)))
    refine ⟨11, _, rH 1, m, f, ?_, rfl, h1, h2, h3⟩
    refine c_step rfl (by show 1 ≤ 800; decide) (by show 0 ≤ 800; decide) (okB_h _ _) (comp_h _ _ _) ?_
    refine c_step rfl (by show 4 ≤ 800; decide) (by show 1 ≤ 800; decide) (okB_h _ _) (comp_h _ _ _) ?_
    refine c_step rfl (by show 7 ≤ 800; decide) (by show 2 ≤ 800; decide) okB_a (comp_a _) ?_
    refine c_step rfl (by show 7 ≤ 800; decide) (by show 3 ≤ 800; decide) (okB_c _) (comp_c _ _) ?_
    refine c_step rfl (by show 7 ≤ 800; decide) (by show 4 ≤ 800; decide) (okB_h _ _) (comp_h _ _ _) ?_
    refine c_step rfl (by show 10 ≤ 800; decide) (by show 5 ≤ 800; decide) okB_a (comp_a _) ?_
    refine c_step rfl (by show 10 ≤ 800; decide) (by show 6 ≤ 800; decide) (okB_c _) (comp_c _ _) ?_
    refine c_step rfl (by show 10 ≤ 800; decide) (by show 7 ≤ 800; decide) okb (comp_b _ _ _) ?_
    refine c_step rfl (by show 10 ≤ 800; decide) (by show 8 ≤ 800; decide) okB_a (comp_a _) ?_
    refine c_step rfl (by show 10 ≤ 800; decide) (by show 9 ≤ 800; decide) (okB_c _) (comp_c _ _) ?_
    exact ⟨rfl, rfl⟩
end AF

namespace AF
open PySem PySem.Spec PyProof.Rows L2
set_option hygiene false in
local macro_rules | `(tactic| walk_at "Run.current") => `(tactic| refine ⟨_, rfl, _, _, _, _, _, rfl, hO, T.Run.cl, T.na_Run_current, lk_Run_current, ?_⟩)
set_option hygiene false in
local macro_rules | `(tactic| walk_at "Run.frames") => `(tactic| refine ⟨_, rfl, _, _, _, _, _, rfl, hO, T.Run.cl, T.na_Run_frames, lk_Run_frames, ?_⟩)
set_option hygiene false in
local macro_rules | `(tactic| walk_at "Run.left") => `(tactic| refine ⟨_, rfl, _, _, _, _, _, rfl, hO, T.Run.cl, T.na_Run_left, lk_Run_left, ?_⟩)
set_option hygiene false in
local macro_rules | `(tactic| walk_at "Run.prints") => `(tactic| refine ⟨_, rfl, _, _, _, _, _, rfl, hO, T.Run.cl, T.na_Run_prints, lk_Run_prints, ?_⟩)
set_option hygiene false in
local macro_rules | `(tactic| walk_at "Run.end") => `(tactic| refine ⟨_, rfl, _, _, _, _, _, rfl, hO, T.Run.cl, T.na_Run_end, lk_Run_end, ?_⟩)
set_option hygiene false in
local macro_rules | `(tactic| walk_at "Machine.left") => `(tactic| refine ⟨_, rfl, _, _, _, _, _, rfl, hO, T.Machine.cl, T.na_Machine_left, lk_Machine_left, ?_⟩)
set_option hygiene false in
local macro_rules | `(tactic| walk_at "Machine.prints") => `(tactic| refine ⟨_, rfl, _, _, _, _, _, rfl, hO, T.Machine.cl, T.na_Machine_prints, lk_Machine_prints, ?_⟩)
set_option hygiene false in
local macro_rules | `(tactic| walk_at "Machine.pieces") => `(tactic| refine ⟨_, rfl, _, _, _, _, _, rfl, hO, T.Machine.cl, T.na_Machine_pieces, lk_Machine_pieces, ?_⟩)
set_option hygiene false in
local macro_rules | `(tactic| walk_at "Machine.kept") => `(tactic| refine ⟨_, rfl, _, _, _, _, _, rfl, hO, T.Machine.cl, T.na_Machine_kept, lk_Machine_kept, ?_⟩)
set_option hygiene false in
local macro_rules | `(tactic| walk_at "Machine.most") => `(tactic| refine ⟨_, rfl, _, _, _, _, _, rfl, hO, T.Machine.cl, T.na_Machine_most, lk_Machine_most, ?_⟩)
set_option hygiene false in
local macro_rules | `(tactic| walk_at "Piece.kind") => `(tactic| refine ⟨_, rfl, _, _, _, _, _, rfl, hO, T.Piece.cl, T.na_Piece_kind, lk_Piece_kind, ?_⟩)
set_option hygiene false in
local macro_rules | `(tactic| walk_at "Piece.handler") => `(tactic| refine ⟨_, rfl, _, _, _, _, _, rfl, hO, T.Piece.cl, T.na_Piece_handler, lk_Piece_handler, ?_⟩)
set_option hygiene false in
local macro_rules | `(tactic| walk_at "Piece.frames") => `(tactic| refine ⟨_, rfl, _, _, _, _, _, rfl, hO, T.Piece.cl, T.na_Piece_frames, lk_Piece_frames, ?_⟩)
set_option hygiene false in
local macro_rules | `(tactic| walk_at "Piece.distance") => `(tactic| refine ⟨_, rfl, _, _, _, _, _, rfl, hO, T.Piece.cl, T.na_Piece_distance, lk_Piece_distance, ?_⟩)
set_option hygiene false in
local macro_rules | `(tactic| walk_at "Piece.table") => `(tactic| refine ⟨_, rfl, _, _, _, _, _, rfl, hO, T.Piece.cl, T.na_Piece_table, lk_Piece_table, ?_⟩)
set_option hygiene false in
local macro_rules | `(tactic| walk_at "Runner.blocks") => `(tactic| refine ⟨_, rfl, _, _, _, _, _, rfl, hO, T.Runner.cl, T.na_Runner_blocks, lk_Runner_blocks, ?_⟩)
set_option hygiene false in
local macro_rules | `(tactic| walk_at "Runner.left") => `(tactic| refine ⟨_, rfl, _, _, _, _, _, rfl, hO, T.Runner.cl, T.na_Runner_left, lk_Runner_left, ?_⟩)
set_option hygiene false in
local macro_rules | `(tactic| walk_at "Runner.prints") => `(tactic| refine ⟨_, rfl, _, _, _, _, _, rfl, hO, T.Runner.cl, T.na_Runner_prints, lk_Runner_prints, ?_⟩)
set_option hygiene false in
local macro_rules | `(tactic| walk_at "Runner.kept") => `(tactic| refine ⟨_, rfl, _, _, _, _, _, rfl, hO, T.Runner.cl, T.na_Runner_kept, lk_Runner_kept, ?_⟩)
set_option hygiene false in
local macro_rules | `(tactic| walk_at "Runner.end") => `(tactic| refine ⟨_, rfl, _, _, _, _, _, rfl, hO, T.Runner.cl, T.na_Runner_end, lk_Runner_end, ?_⟩)
set_option hygiene false in
local macro_rules | `(tactic| walk_at "Runner.pieces") => `(tactic| refine ⟨_, rfl, _, _, _, _, _, rfl, hO, T.Runner.cl, T.na_Runner_pieces, lk_Runner_pieces, ?_⟩)
set_option hygiene false in
local macro_rules | `(tactic| walk_at "Runner.rows") => `(tactic| refine ⟨_, rfl, _, _, _, _, _, rfl, hO, T.Runner.cl, T.na_Runner_rows, lk_Runner_rows, ?_⟩)
set_option hygiene false in
local macro_rules | `(tactic| walk_at "Runner.at") => `(tactic| refine ⟨_, rfl, _, _, _, _, _, rfl, hO, T.Runner.cl, T.na_Runner_at, lk_Runner_at, ?_⟩)
set_option hygiene false in
local macro_rules | `(tactic| walk_at "Runner.bindings") => `(tactic| refine ⟨_, rfl, _, _, _, _, _, rfl, hO, T.Runner.cl, T.na_Runner_bindings, lk_Runner_bindings, ?_⟩)
set_option hygiene false in
local macro_rules | `(tactic| walk_at "Runner.operands") => `(tactic| refine ⟨_, rfl, _, _, _, _, _, rfl, hO, T.Runner.cl, T.na_Runner_operands, lk_Runner_operands, ?_⟩)
set_option hygiene false in
local macro_rules | `(tactic| walk_at "Code.blocks") => `(tactic| refine ⟨_, rfl, _, _, _, _, _, rfl, hO, T.Code.cl, T.na_Code_blocks, lk_Code_blocks, ?_⟩)
set_option hygiene false in
local macro_rules | `(tactic| walk_at "Compiler.blocks") => `(tactic| refine ⟨_, rfl, _, _, _, _, _, rfl, hO, T.Compiler.cl, T.na_Compiler_blocks, lk_Compiler_blocks, ?_⟩)
set_option hygiene false in
local macro_rules | `(tactic| walk_at "Compiler.queue") => `(tactic| refine ⟨_, rfl, _, _, _, _, _, rfl, hO, T.Compiler.cl, T.na_Compiler_queue, lk_Compiler_queue, ?_⟩)
section
variable {P : Program} {w : World} {K : PySem.W.Frag} {mg : Str → Option Value} {base : Heap}
theorem bnd_shown (d n : Int) (h : 0 ≤ n ∧ n ≤ 50) : bndT (shownT d n) := by
  have e : smallI n := ⟨by omega, by omega⟩
  unfold shownT
  by_cases q : n % d = 0
  · rw [if_pos q]; exact ⟨e, e, e⟩
  · rw [if_neg q]; exact ⟨e, e⟩
theorem bnd_items (d : Int) : ∀ ns : List Int, (∀ x ∈ ns, 0 ≤ x ∧ x ≤ 50) → bndT (itemsT d ns)
  | [], _ => trivial
  | n :: ns, h => ⟨⟨trivial, bnd_shown d n (h n List.mem_cons_self)⟩, bnd_items d ns fun x hx => h x (List.mem_cons_of_mem _ hx)⟩
theorem bnd_cl (b : Bool) : bndT (clT b) := by
  have e2 : smallI 2 := ⟨by decide, by decide⟩
  have e1 : smallI 1 := ⟨by decide, by decide⟩
  cases b with
  | true => exact ⟨⟨trivial, e2⟩, e1⟩
  | false => exact ⟨⟨trivial, e2⟩, e1⟩
theorem bnd_wrap : ∀ (ps : List Bool) (t : Tr), bndT t → bndT (wrapT ps t)
  | [], t, h => h
  | b :: ps, t, h => bnd_wrap ps (hdT1 b t) ⟨h, ⟨trivial, ⟨by decide, by decide⟩⟩, bnd_cl b⟩
def spItems (K : PySem.W.Frag) : Sp := fun vs H Q _ => ∃ (l : Addr) (d : Int) (ns : List Int) (vt : V), vs = [.ref l, .int d, vt] ∧ SqL K H l (ns.map V.int) ∧ 0 < d ∧ At H (.name .t) vt ∧ H l = some (.lst (ns.map V.int)) ∧ ∀ H' v, Same H H' → At H' (bodyT d ns) v → Q v H'
theorem ok_items_def (T : Fx K w mg) : FnOk P w K mg base CX0 1 (He.ga K "_law_items") (fdOf K ("_law_items", none)) ["_law_numbers", "_law_divisor", "_law_tree"] (spItems K) := by
  refine T._law_items.F.ok sc__law_items (fun vs H Q E h => ?_) (fun cdv A outer s H vs Q E hr h => ?_)
  · obtain ⟨_, _, _, _, rfl, _⟩ := h
    rfl
  · obtain ⟨l, d, ns, vt, rfl, hl, hd, hvt, hl2, k⟩ := h
    refine ⟨_, (pss_cons (ps_for PassesOwn.never rfl (pi_reversed (by rfl) T.n_reversed (pa_cons (pv 0) pa_nil)) (pg_name (i := 3) sc__law_items.nd rfl (Or.inl rfl))
        (pss_cons (ps_set (i := 4) sc__law_items.nd rfl (Or.inl rfl) (pe_tup (pa_cons pe_str (pa_cons (pe_tup (pa_cons pe_str (pa_cons (pv 3) pa_nil))) (pa_cons (pe_tup (pa_cons pe_str (pa_cons (pv 3) pa_nil))) pa_nil)))))
        (pss_cons (ps_if (pt_cmpR op_eq (pe_op op_mod (pv 3) (pv 1)) pe_int (nomark _))
          (pss_one (ps_set (i := 4) sc__law_items.nd rfl (Or.inl rfl) (pe_tup (pa_cons pe_str (pa_cons pe_str (pa_cons (pe_tup (pa_cons pe_str (pa_cons pe_str (pa_cons (pe_tup (pa_cons pe_str (pa_cons (pv 3) pa_nil))) pa_nil)))) (pa_cons (pv 4) pa_nil)))))))
          pss_nil)
        (pss_one (ps_set (i := 2) sc__law_items.nd rfl (Or.inl rfl) (pe_tup (pa_cons pe_str (pa_cons pe_str (pa_cons (pe_tup (pa_cons pe_str (pa_cons pe_str (pa_cons (pe_tup (pa_cons pe_str (pa_cons pe_str pa_nil))) (pa_cons (pv 4) pa_nil))))) (pa_cons (pv 2) pa_nil))))))))))
      (pss_one (ps_ret (pe_tup (pa_cons pe_str (pa_cons pe_str (pa_cons (pe_tup (pa_cons pe_str (pa_cons pe_int pa_nil))) (pa_cons (pv 2) pa_nil)))))))), ?_⟩
    refine ⟨_, rfl, l, _, rfl, hl, ?_⟩
    refine RT.for_Itv (K := K) (a := l) (xs := ns.map V.int) (fun i σ H' => Same H H' ∧ ∃ vt' o3 o4, σ = [some (.ref l), some (.int d), some vt', o3, o4] ∧ At H' (itemsT d (ns.drop (ns.length - i))) vt') ⟨fun _ _ h => h, vt, none, none, rfl, ?_⟩ (fun i σ H' z => SqL.of (z.1 _ _ hl2)) ?_ ?_
    · rw [Nat.sub_zero, List.drop_length]
      exact hvt
    · rintro i x σ H' hi hx ⟨s5, vt', o3, o4, rfl, ht⟩
      rw [List.length_map] at hi hx
      rw [List.getElem?_map] at hx
      cases hz : ns[ns.length - 1 - i]? with
      | none => rw [hz] at hx; cases hx
      | some z =>
        rw [hz] at hx
        cases hx
        have edrop : ns.drop (ns.length - (i + 1)) = z :: ns.drop (ns.length - i) := by
          have h1 : ns.length - (i + 1) < ns.length := by omega
          have h2 := List.drop_eq_getElem_cons h1
          rw [h2]
          have h3 : ns.length - (i + 1) + 1 = ns.length - i := by omega
          rw [h3]
          congr 1
          have h4 : ns[ns.length - 1 - i]? = some ns[ns.length - (i + 1)] := by
            rw [show ns.length - 1 - i = ns.length - (i + 1) by omega]
            exact List.getElem?_eq_getElem h1
          rw [hz] at h4
          exact (Option.some.inj h4).symm
        refine ⟨_, rfl, by show 2 ≤ sizeLine; decide, fun t1 nt1 => ⟨_, rfl, by show 2 ≤ sizeLine; decide, fun t2 nt2 => ⟨by show 3 ≤ sizeLine; decide, fun t3 nt3 => ?_⟩⟩⟩
        have s1 := same_new nt1 (.tup [V.str "num", V.int z])
        have s2 := same_new nt2 (.tup [V.str "num", V.int z])
        have s3 := same_new nt3 (.tup [V.str "print", V.ref t1, V.ref t2])
        have s13 := s1.trans (s2.trans s3)
        have hpr : At (upd (upd (upd H' t1 (.tup [V.str "num", V.int z])) t2 (.tup [V.str "num", V.int z])) t3 (.tup [V.str "print", V.ref t1, V.ref t2])) (.print (.num z) (.num z)) (.ref t3) := ⟨t3, .ref t1, .ref t2, rfl, upd_same, ⟨t1, rfl, (s2.trans s3) _ _ upd_same⟩, ⟨t2, rfl, s3 _ _ upd_same⟩⟩
        generalize upd (upd (upd H' t1 (.tup [V.str "num", V.int z])) t2 (.tup [V.str "num", V.int z])) t3 (.tup [V.str "print", V.ref t1, V.ref t2]) = H1 at s13 hpr
        refine ⟨_, rfl, _, rfl, _, _, rfl, rfl, hd, rfl, _, rfl, ?_⟩
        by_cases q : z % d = 0
        · refine br_t (decide_eq_true (by show V.int (z % d) = V.int 0; rw [q])) ?_
          refine ⟨_, rfl, by show 2 ≤ sizeLine; decide, fun t4 nt4 => ⟨by show 3 ≤ sizeLine; decide, fun t5 nt5 => ⟨_, rfl, by show 4 ≤ sizeLine; decide, fun t6 nt6 => ?_⟩⟩⟩
          have r1 := same_new nt4 (.tup [V.str "num", V.int z])
          have r2 := same_new nt5 (.tup [V.str "ask", V.str "stop", V.ref t4])
          have r3 := same_new nt6 (.tup [V.str "op", V.str "+", V.ref t5, V.ref t3])
          have s6 := s13.trans (r1.trans (r2.trans r3))
          have hsh : At (upd (upd (upd H1 t4 (.tup [V.str "num", V.int z])) t5 (.tup [V.str "ask", V.str "stop", V.ref t4])) t6 (.tup [V.str "op", V.str "+", V.ref t5, V.ref t3])) (shownT d z) (.ref t6) := by
            unfold shownT
            rw [if_pos q]
            exact ⟨t6, .ref t5, .ref t3, rfl, upd_same, ⟨t5, .ref t4, rfl, r3 _ _ upd_same, ⟨t4, rfl, (r2.trans r3) _ _ upd_same⟩⟩, hpr.mono (.same (r1.trans (r2.trans r3)))⟩
          generalize upd (upd (upd H1 t4 (.tup [V.str "num", V.int z])) t5 (.tup [V.str "ask", V.str "stop", V.ref t4])) t6 (.tup [V.str "op", V.str "+", V.ref t5, V.ref t3]) = H2 at s6 hsh
          generalize V.ref t6 = vsh at hsh
          refine ⟨by show 2 ≤ sizeLine; decide, fun t7 nt7 => ⟨_, rfl, by show 4 ≤ sizeLine; decide, fun t8 nt8 => ⟨_, rfl, by show 4 ≤ sizeLine; decide, fun t9 nt9 => ?_⟩⟩⟩
          have s7 := same_new nt7 (.tup [V.str "name", V.str "t"])
          have s8 := same_new nt8 (.tup [V.str "op", V.str "+", V.ref t7, vsh])
          have s9 := same_new nt9 (.tup [V.str "let", V.str "t", V.ref t8, vt'])
          have s79 := s7.trans (s8.trans s9)
          refine ⟨s5.trans (s6.trans s79), _, _, _, rfl, ?_⟩
          rw [edrop]
          exact ⟨t9, .ref t8, vt', rfl, upd_same, ⟨t8, .ref t7, vsh, rfl, s9 _ _ upd_same, ⟨t7, rfl, (s8.trans s9) _ _ upd_same⟩, hsh.mono (.same s79)⟩, ht.mono (.same (s6.trans s79))⟩
        · refine br_f (decide_eq_false (fun y => q (V.int.inj y))) ?_
          have s6 := s13
          have hsh : At H1 (shownT d z) (.ref t3) := by
            unfold shownT
            rw [if_neg q]
            exact hpr
          generalize V.ref t3 = vsh at hsh
          refine ⟨by show 2 ≤ sizeLine; decide, fun t7 nt7 => ⟨_, rfl, by show 4 ≤ sizeLine; decide, fun t8 nt8 => ⟨_, rfl, by show 4 ≤ sizeLine; decide, fun t9 nt9 => ?_⟩⟩⟩
          have s7 := same_new nt7 (.tup [V.str "name", V.str "t"])
          have s8 := same_new nt8 (.tup [V.str "op", V.str "+", V.ref t7, vsh])
          have s9 := same_new nt9 (.tup [V.str "let", V.str "t", V.ref t8, vt'])
          have s79 := s7.trans (s8.trans s9)
          refine ⟨s5.trans (s6.trans s79), _, _, _, rfl, ?_⟩
          rw [edrop]
          exact ⟨t9, .ref t8, vt', rfl, upd_same, ⟨t8, .ref t7, vsh, rfl, s9 _ _ upd_same, ⟨t7, rfl, (s8.trans s9) _ _ upd_same⟩, hsh.mono (.same s79)⟩, ht.mono (.same (s6.trans s79))⟩
    · rintro σ H' ⟨s5, vt', o3, o4, rfl, ht⟩
      rw [List.length_map, Nat.sub_self, List.drop_zero] at ht
      refine ⟨by show 2 ≤ sizeLine; decide, fun t1 nt1 => ⟨_, rfl, by show 4 ≤ sizeLine; decide, fun t2 nt2 => ?_⟩⟩
      have s1 := same_new nt1 (.tup [V.str "num", V.int 0])
      have s2 := same_new nt2 (.tup [V.str "let", V.str "t", V.ref t1, vt'])
      exact k _ _ (s5.trans (s1.trans s2)) ⟨t2, .ref t1, vt', rfl, upd_same, ⟨t1, rfl, s2 _ _ upd_same⟩, ht.mono (.same (s1.trans s2))⟩
end
end AF

namespace AF
open PySem PySem.Spec PyProof.Rows L2
set_option hygiene false in
local macro_rules | `(tactic| walk_at "Run.current") => `(tactic| refine ⟨_, rfl, _, _, _, _, _, rfl, hO, T.Run.cl, T.na_Run_current, lk_Run_current, ?_⟩)
set_option hygiene false in
local macro_rules | `(tactic| walk_at "Run.frames") => `(tactic| refine ⟨_, rfl, _, _, _, _, _, rfl, hO, T.Run.cl, T.na_Run_frames, lk_Run_frames, ?_⟩)
set_option hygiene false in
local macro_rules | `(tactic| walk_at "Run.left") => `(tactic| refine ⟨_, rfl, _, _, _, _, _, rfl, hO, T.Run.cl, T.na_Run_left, lk_Run_left, ?_⟩)
set_option hygiene false in
local macro_rules | `(tactic| walk_at "Run.prints") => `(tactic| refine ⟨_, rfl, _, _, _, _, _, rfl, hO, T.Run.cl, T.na_Run_prints, lk_Run_prints, ?_⟩)
set_option hygiene false in
local macro_rules | `(tactic| walk_at "Run.end") => `(tactic| refine ⟨_, rfl, _, _, _, _, _, rfl, hO, T.Run.cl, T.na_Run_end, lk_Run_end, ?_⟩)
set_option hygiene false in
local macro_rules | `(tactic| walk_at "Machine.left") => `(tactic| refine ⟨_, rfl, _, _, _, _, _, rfl, hO, T.Machine.cl, T.na_Machine_left, lk_Machine_left, ?_⟩)
set_option hygiene false in
local macro_rules | `(tactic| walk_at "Machine.prints") => `(tactic| refine ⟨_, rfl, _, _, _, _, _, rfl, hO, T.Machine.cl, T.na_Machine_prints, lk_Machine_prints, ?_⟩)
set_option hygiene false in
local macro_rules | `(tactic| walk_at "Machine.pieces") => `(tactic| refine ⟨_, rfl, _, _, _, _, _, rfl, hO, T.Machine.cl, T.na_Machine_pieces, lk_Machine_pieces, ?_⟩)
set_option hygiene false in
local macro_rules | `(tactic| walk_at "Machine.kept") => `(tactic| refine ⟨_, rfl, _, _, _, _, _, rfl, hO, T.Machine.cl, T.na_Machine_kept, lk_Machine_kept, ?_⟩)
set_option hygiene false in
local macro_rules | `(tactic| walk_at "Machine.most") => `(tactic| refine ⟨_, rfl, _, _, _, _, _, rfl, hO, T.Machine.cl, T.na_Machine_most, lk_Machine_most, ?_⟩)
set_option hygiene false in
local macro_rules | `(tactic| walk_at "Piece.kind") => `(tactic| refine ⟨_, rfl, _, _, _, _, _, rfl, hO, T.Piece.cl, T.na_Piece_kind, lk_Piece_kind, ?_⟩)
set_option hygiene false in
local macro_rules | `(tactic| walk_at "Piece.handler") => `(tactic| refine ⟨_, rfl, _, _, _, _, _, rfl, hO, T.Piece.cl, T.na_Piece_handler, lk_Piece_handler, ?_⟩)
set_option hygiene false in
local macro_rules | `(tactic| walk_at "Piece.frames") => `(tactic| refine ⟨_, rfl, _, _, _, _, _, rfl, hO, T.Piece.cl, T.na_Piece_frames, lk_Piece_frames, ?_⟩)
set_option hygiene false in
local macro_rules | `(tactic| walk_at "Piece.distance") => `(tactic| refine ⟨_, rfl, _, _, _, _, _, rfl, hO, T.Piece.cl, T.na_Piece_distance, lk_Piece_distance, ?_⟩)
set_option hygiene false in
local macro_rules | `(tactic| walk_at "Piece.table") => `(tactic| refine ⟨_, rfl, _, _, _, _, _, rfl, hO, T.Piece.cl, T.na_Piece_table, lk_Piece_table, ?_⟩)
set_option hygiene false in
local macro_rules | `(tactic| walk_at "Runner.blocks") => `(tactic| refine ⟨_, rfl, _, _, _, _, _, rfl, hO, T.Runner.cl, T.na_Runner_blocks, lk_Runner_blocks, ?_⟩)
set_option hygiene false in
local macro_rules | `(tactic| walk_at "Runner.left") => `(tactic| refine ⟨_, rfl, _, _, _, _, _, rfl, hO, T.Runner.cl, T.na_Runner_left, lk_Runner_left, ?_⟩)
set_option hygiene false in
local macro_rules | `(tactic| walk_at "Runner.prints") => `(tactic| refine ⟨_, rfl, _, _, _, _, _, rfl, hO, T.Runner.cl, T.na_Runner_prints, lk_Runner_prints, ?_⟩)
set_option hygiene false in
local macro_rules | `(tactic| walk_at "Runner.kept") => `(tactic| refine ⟨_, rfl, _, _, _, _, _, rfl, hO, T.Runner.cl, T.na_Runner_kept, lk_Runner_kept, ?_⟩)
set_option hygiene false in
local macro_rules | `(tactic| walk_at "Runner.end") => `(tactic| refine ⟨_, rfl, _, _, _, _, _, rfl, hO, T.Runner.cl, T.na_Runner_end, lk_Runner_end, ?_⟩)
set_option hygiene false in
local macro_rules | `(tactic| walk_at "Runner.pieces") => `(tactic| refine ⟨_, rfl, _, _, _, _, _, rfl, hO, T.Runner.cl, T.na_Runner_pieces, lk_Runner_pieces, ?_⟩)
set_option hygiene false in
local macro_rules | `(tactic| walk_at "Runner.rows") => `(tactic| refine ⟨_, rfl, _, _, _, _, _, rfl, hO, T.Runner.cl, T.na_Runner_rows, lk_Runner_rows, ?_⟩)
set_option hygiene false in
local macro_rules | `(tactic| walk_at "Runner.at") => `(tactic| refine ⟨_, rfl, _, _, _, _, _, rfl, hO, T.Runner.cl, T.na_Runner_at, lk_Runner_at, ?_⟩)
set_option hygiene false in
local macro_rules | `(tactic| walk_at "Runner.bindings") => `(tactic| refine ⟨_, rfl, _, _, _, _, _, rfl, hO, T.Runner.cl, T.na_Runner_bindings, lk_Runner_bindings, ?_⟩)
set_option hygiene false in
local macro_rules | `(tactic| walk_at "Runner.operands") => `(tactic| refine ⟨_, rfl, _, _, _, _, _, rfl, hO, T.Runner.cl, T.na_Runner_operands, lk_Runner_operands, ?_⟩)
set_option hygiene false in
local macro_rules | `(tactic| walk_at "Code.blocks") => `(tactic| refine ⟨_, rfl, _, _, _, _, _, rfl, hO, T.Code.cl, T.na_Code_blocks, lk_Code_blocks, ?_⟩)
set_option hygiene false in
local macro_rules | `(tactic| walk_at "Compiler.blocks") => `(tactic| refine ⟨_, rfl, _, _, _, _, _, rfl, hO, T.Compiler.cl, T.na_Compiler_blocks, lk_Compiler_blocks, ?_⟩)
set_option hygiene false in
local macro_rules | `(tactic| walk_at "Compiler.queue") => `(tactic| refine ⟨_, rfl, _, _, _, _, _, rfl, hO, T.Compiler.cl, T.na_Compiler_queue, lk_Compiler_queue, ?_⟩)
section
variable {P : Program} {w : World} {K : PySem.W.Frag} {mg : Str → Option Value} {base : Heap}
def spRoads (K : PySem.W.Frag) : Sp := fun vs H Q _ => ∃ (ve : V) (d : Int) (ns : List Int) (ps : List Bool), vs = [ve, .int (100 : Nat)] ∧ At H (wrapT ps (bodyT d ns)) ve ∧ 1 ≤ ps.length ∧ ps.length ≤ 3 ∧ ns.length ≤ 15 ∧ (∀ x ∈ ns, 0 ≤ x ∧ x ≤ 50) ∧
  ∀ H' l v1 v2 v3, Same H H' → H' l = some (.lst [v1, v2, v3]) → (∀ v ∈ [v1, v2, v3], OutAt H' (dueE d ps ns [] 0).1 (dueE d ps ns [] 0).2 v) → Q (.ref l) H'
theorem OutAt.mono {H H' : Hp} {out : List Int} {en : En} {v : V} (h : OutAt H out en v) (t : Tx H H') : OutAt H' out en v := by
  obtain ⟨p, q, ve, e, h1, h2, h3⟩ := h
  exact ⟨p, q, ve, e, t _ _ h1, t _ _ h2, h3.mono t⟩
theorem ok_roads (T : Fx K w mg) (S : SX P K mg) : FnOk P w K mg base CX0 53 (He.ga K "_law_roads") (fdOf K ("_law_roads", none)) ["_law_tree", "_law_steps"] (spRoads K) := by
  have G_run_plain := ok_run_plain (P := P) (base := base) T
  have G_run_machine := ok_run_machine (P := P) (base := base) T S
  have G_run_code := ok_run_code (P := P) (base := base) T
  have G_compile_expression := ok_compile_expression (P := P) (base := base) T
  refine T._law_roads.F.ok sc__law_roads (fun vs H Q E h => ?_) (fun cdv A outer s H vs Q E hr h => ?_)
  · obtain ⟨_, _, _, _, rfl, _⟩ := h
    rfl
  · obtain ⟨ve, d, ns, ps, rfl, hat, hp1, hp3, hn, hb, k⟩ := h
    refine ⟨_, (pss_one (ps_ret (pe_lst (pa_cons (pe_call G_run_plain (hr.mono (by omega)) rfl T.run_plain.m T.run_plain.F.kp T.run_plain.b .nil pass0 (pa_cons (pv 0) (pa_cons (pv 1) pa_nil))) (pa_cons (pe_call G_run_machine (hr.mono (by omega)) rfl T.run_machine.m T.run_machine.F.kp T.run_machine.b .nil pass0 (pa_cons (pv 0) (pa_cons (pv 1) pa_nil))) (pa_cons (pe_call G_run_code (hr.mono (by omega)) rfl T.run_code.m T.run_code.F.kp T.run_code.b .nil pass0 (pa_cons (pe_call G_compile_expression (hr.mono (by omega)) rfl T.compile_expression.m T.compile_expression.F.kp T.compile_expression.b .nil pass0 (pa_cons (pv 0) pa_nil)) (pa_cons (pv 1) pa_nil))) pa_nil)))))), ?_⟩
    obtain ⟨m1, f1, r1, o1, e1⟩ := plain_law d ns ps hp3 (by omega) hb
    obtain ⟨m2, f2, g2, r2, o2, e2⟩ := machine_law d ns ps hp3 (by omega) hb
    obtain ⟨mc, code, rows, m3, f3, rc, hrows, r3, o3, e3⟩ := runner_law d ns ps hp1 hp3 hn hb
    refine ⟨_, rfl, _, rfl, ve, _, 100, ns.length, m1, f1, _, rfl, hat, by omega, r1, e1, fun H1 v1 s1 h1 => ?_⟩
    rw [o1] at h1
    refine ⟨_, rfl, _, rfl, ve, _, 100, ns.length, m2, f2, g2, rfl, ⟨hat.mono (.same s1), bnd_wrap ps _ ⟨⟨by decide, by decide⟩, bnd_items d ns hb⟩⟩, by omega, r2, fun H2 v2 s2 h2 => ?_⟩
    rw [o2, e2] at h2
    refine ⟨_, rfl, ve, _, mc, code, rfl, hat.mono (.same (s1.trans s2)), rc, fun H3 c dxc bl s3 hc hcode => ?_⟩
    refine ⟨_, rfl, c, dxc, bl, code, rows, 100, ns.length, m3, f3, _, rfl, hc, hcode, hrows, by omega, r3, e3, fun H4 v3 s4 h3 => ?_⟩
    rw [o3] at h3
    refine ⟨by show 3 ≤ sizeLine; decide, fun l nl => ?_⟩
    have s5 := same_new nl (.lst [v1, v2, v3])
    refine k _ l v1 v2 v3 (s1.trans (s2.trans (s3.trans (s4.trans s5)))) upd_same fun v hv => ?_
    rcases List.mem_cons.mp hv with z | hv
    · rw [z]; exact h1.mono (.same (s2.trans (s3.trans (s4.trans s5))))
    · rcases List.mem_cons.mp hv with z | hv
      · rw [z]; exact h2.mono (.same (s3.trans (s4.trans s5)))
      · rw [List.mem_singleton] at hv
        rw [hv]; exact h3.mono (.same s5)
def spDue (K : PySem.W.Frag) : Sp := fun vs H Q _ => ∃ (l lb : Addr) (d : Int) (ns : List Int) (ps : List Bool), vs = [.ref l, .int d, .ref lb] ∧ H l = some (.lst (ns.map V.int)) ∧ H lb = some (.lst (ps.map V.bl)) ∧ 0 < d ∧ 1 ≤ ps.length ∧ ps.length ≤ 10 ∧ ns.length ≤ 100 ∧
  ∀ H' v, Same H H' → OutAt H' (dueE d ps ns [] 0).1 (dueE d ps ns [] 0).2 v → Q v H'
theorem ok_due (T : Fx K w mg) : FnOk P w K mg base CX0 1 (He.ga K "_law_due") (fdOf K ("_law_due", none)) ["_law_numbers", "_law_divisor", "_law_passing"] (spDue K) := by
  refine T._law_due.F.ok sc__law_due (fun vs H Q E h => ?_) (fun cdv A outer s H vs Q E hr h => ?_)
  · obtain ⟨_, _, _, _, _, rfl, _⟩ := h
    rfl
  · obtain ⟨l, lb, d, ns, ps, rfl, hl, hlb, hd, hp1, hp10, hn, k⟩ := h
    refine ⟨_, (pss_cons (ps_set (i := 3) sc__law_due.nd rfl (Or.inl rfl) (pe_lst pa_nil))
      (pss_cons (ps_set (i := 4) sc__law_due.nd rfl (Or.inl rfl) pe_int)
      (pss_cons (ps_for PassesOwn.never rfl (pi_list (pv 0)) (pg_name (i := 5) sc__law_due.nd rfl (Or.inl rfl))
        (pss_cons (ps_if (pt_cmpR op_eq (pe_op op_mod (pv 5) (pv 1)) pe_int (nomark _))
          (pss_cons (ps_set (i := 6) sc__law_due.nd rfl (Or.inl rfl) (pv 5))
          (pss_cons (ps_for PassesOwn.never rfl (pi_range1 (by rfl) T.n_range (pa_cons (pe_callB call_len_seq (by rfl) T.n_len (by decide +kernel) (pa_cons (pv 2) pa_nil)) pa_nil)) (pg_name (i := 7) sc__law_due.nd rfl (Or.inl rfl))
            (pss_cons (ps_set (i := 6) sc__law_due.nd rfl (Or.inl rfl) (pe_op op_add (pe_op op_mul (pv 6) pe_int) pe_int))
            (pss_one (ps_if (pt_not (pt_truth (pe_ix ix_list (pv 2) (pv 7) (fun _ _ => rfl)) (by intro _; rfl)))
              (pss_one ps_break)
              pss_nil))))
          (pss_cons (ps_set (i := 8) sc__law_due.nd rfl (Or.inl rfl) (pe_op op_sub (pe_op op_sub (pe_callB call_len_seq (by rfl) T.n_len (by decide +kernel) (pa_cons (pv 2) pa_nil)) pe_int) (pv 7)))
          (pss_cons (ps_if (pt_truth (pe_ix ix_list (pv 2) (pv 7) (fun _ _ => rfl)) (by intro _; rfl))
            (pss_one (ps_ret (pe_tup (pa_cons (pe_callTy call_tuple_of (by rfl) T.n_tuple (by decide +kernel) (pa_cons (pv 3) pa_nil)) (pa_cons (pe_tup (pa_cons pe_str (pa_cons pe_str pa_nil))) pa_nil)))))
            pss_nil)
          (pss_one (ps_ret (pe_tup (pa_cons (pe_callTy call_tuple_of (by rfl) T.n_tuple (by decide +kernel) (pa_cons (pv 3) pa_nil)) (pa_cons (pe_tup (pa_cons pe_str (pa_cons (pe_tup (pa_cons pe_str (pa_cons (pe_op op_add (pv 6) (pe_op op_mul pe_int (pv 8))) pa_nil))) pa_nil))) pa_nil)))))))))
          pss_nil)
        (pss_cons (ps_expr (pe_bm PySem.F.plainAttrs_list PySem.F.slot_list_append PySem.F.type_list_append mt_append (pv 3) (pa_cons (pv 5) pa_nil)))
        (pss_one (ps_set (i := 4) sc__law_due.nd rfl (Or.inl rfl) (pe_op op_add (pv 4) (pv 5)))))))
      (pss_one (ps_ret (pe_tup (pa_cons (pe_callTy call_tuple_of (by rfl) T.n_tuple (by decide +kernel) (pa_cons (pv 3) pa_nil)) (pa_cons (pe_tup (pa_cons pe_str (pa_cons (pe_tup (pa_cons pe_str (pa_cons (pe_op op_add (pv 4) (pe_op op_mul pe_int (pe_callB call_len_seq (by rfl) T.n_len (by decide +kernel) (pa_cons (pv 2) pa_nil)))) pa_nil))) pa_nil))) pa_nil)))))))), ?_⟩
    refine ⟨Nat.zero_le _, fun lp nlp => ?_⟩
    have s1 := same_new nlp (.lst [])
    refine ⟨_, rfl, l, rfl, ⟨_, SqL.of (s1 _ _ hl)⟩, ?_⟩
    refine for_list (K := K) (a := l) (xs := ns.map V.int) (fun i σ H' => Same H H' ∧ i ≤ ns.length ∧ ∃ pr tot o5 o6 o7 o8, σ = [some (.ref l), some (.int d), some (.ref lb), some (.ref lp), some (.int tot), o5, o6, o7, o8] ∧ H' lp = some (.lst (pr.map V.int)) ∧ pr.length = i ∧ dueE d ps ns [] 0 = dueE d ps (ns.drop i) pr tot) ⟨s1, Nat.zero_le _, [], 0, none, none, none, none, rfl, upd_same, rfl, rfl⟩ (fun i σ H' _ z => SqL.of (z.1 _ _ hl)) ?_ ?_
    · rintro i x σ H' hx ⟨s2, hi, pr, tot, o5, o6, o7, o8, rfl, hpr, hprl, hdue⟩
      rw [List.getElem?_map] at hx
      cases hz : ns[i]? with
      | none => rw [hz] at hx; cases hx
      | some n =>
        rw [hz] at hx
        cases hx
        have hi2 : i < ns.length := (List.getElem?_eq_some_iff.mp hz).1
        have edrop : ns.drop i = n :: ns.drop (i + 1) := by
          rw [List.drop_eq_getElem_cons hi2]
          congr 1
          exact (List.getElem?_eq_some_iff.mp hz).2
        rw [edrop] at hdue
        have hlb2 := s2 _ _ hlb
        refine ⟨_, rfl, _, rfl, _, _, rfl, rfl, hd, rfl, _, rfl, ?_⟩
        by_cases q : n % d = 0
        · refine br_t (decide_eq_true (by show V.int (n % d) = V.int 0; rw [q])) ?_
          have ed : dueE d ps (n :: ns.drop (i + 1)) pr tot = (pr, askE ps n) := if_pos q
          rw [ed] at hdue
          refine ⟨_, rfl, ?_⟩
          refine ⟨_, rfl, lb, _, rfl, .inl (SqL.of hlb2), _, rfl, by rw [List.length_map]; omega, by rw [List.length_map]; omega, ?_⟩
          rw [Int.toNat_natCast, List.length_map]
          refine for_range (fun j σ H2 => H' = H2 ∧ ∃ v o7 o8, σ = [some (.ref l), some (.int d), some (.ref lb), some (.ref lp), some (.int tot), some (.int n), some (.int v), o7, o8] ∧ askE ps n = askE (ps.drop j) v ∧ (0 < j → o7 = some (.int ((j - 1 : Nat) : Int)) ∧ ps[j - 1]? = some true)) ⟨rfl, n, _, _, rfl, rfl, fun z => absurd z (Nat.lt_irrefl _)⟩ ?_ ?_
          · rintro j σ H2 hj ⟨rfl, v, o7, o8, rfl, hask, _⟩
            obtain ⟨b, hbj⟩ : ∃ b, ps[j]? = some b := ⟨ps[j], List.getElem?_eq_getElem hj⟩
            have hbv : (ps.map V.bl)[j]? = some (.bl b) := by rw [List.getElem?_map, hbj]; rfl
            have edr : ps.drop j = b :: ps.drop (j + 1) := by
              rw [List.drop_eq_getElem_cons hj]
              congr 1
              exact (List.getElem?_eq_some_iff.mp hbj).2
            rw [edr] at hask
            have ej : (0 : Int) + (j : Nat) = ((j : Nat) : Int) := Int.zero_add _
            rw [ej]
            refine ⟨_, rfl, _, _, rfl, rfl, .inr ⟨by decide, by decide⟩, _, _, rfl, rfl, ?_⟩
            refine ⟨_, rfl, _, rfl, lb, _, _, _, rfl, rfl, SqL.of hlb2, atI_nat hbv, _, rfl, ?_⟩
            cases b with
            | true =>
              refine br_f rfl ?_
              refine ⟨rfl, v * 2 + 1, _, _, rfl, ?_, fun _ => ⟨rfl, hbj⟩⟩
              rw [hask, Int.mul_comm v 2]
              rfl
            | false =>
              refine br_t rfl ?_
              refine ⟨_, rfl, lb, _, rfl, .inl (SqL.of hlb2), _, _, rfl, rfl, _, rfl, _, _, rfl, rfl, ?_⟩
              refine ⟨_, rfl, _, rfl, lb, _, _, _, rfl, rfl, SqL.of hlb2, atI_nat hbv, _, rfl, br_f rfl ?_⟩
              refine ⟨_, rfl, lp, _, rfl, .inl ⟨SqL.of hpr, fun q nq => ?_⟩⟩
              have s3 := same_new nq (.tup (pr.map V.int))
              refine ⟨_, rfl, _, rfl, _, _, rfl, rfl, .inl ⟨by decide, by decide⟩, _, _, rfl, rfl, by show 2 ≤ sizeLine; decide, fun t1 nt1 => ⟨by show 2 ≤ sizeLine; decide, fun t2 nt2 => ⟨by show 2 ≤ sizeLine; decide, fun t3 nt3 => ?_⟩⟩⟩
              have r1 := same_new nt1 (.tup [V.str "int", V.int (v * 2 + 1 + 100 * (((((ps.map V.bl).length : Nat) : Int) - 1) - ((j : Nat) : Int)))])
              have r2 := same_new nt2 (.tup [V.str "value", V.ref t1])
              have r3 := same_new nt3 (.tup [V.ref q, V.ref t2])
              refine k _ _ (s2.trans (s3.trans (r1.trans (r2.trans r3)))) ?_
              have ea : askE (false :: ps.drop (j + 1)) v = .val (v * 2 + 1 + 100 * (((((ps.map V.bl).length : Nat) : Int) - 1) - ((j : Nat) : Int))) := by
                show En.val (2 * v + 1 + 100 * ((ps.drop (j + 1)).length : Nat)) = _
                congr 1
                rw [List.length_drop, List.length_map]
                omega
              rw [hdue, hask, ea]
              exact ⟨t3, q, .ref t2, rfl, upd_same, (r1.trans (r2.trans r3)) _ _ upd_same, t2, t1, rfl, r3 _ _ upd_same, (r2.trans r3) _ _ upd_same⟩
          · rintro σ H2 ⟨rfl, v, o7, o8, rfl, hask, hlast⟩
            obtain ⟨e7, hb7⟩ := hlast hp1
            subst e7
            have hbv : (ps.map V.bl)[ps.length - 1]? = some (.bl true) := by rw [List.getElem?_map, hb7]; rfl
            rw [List.drop_length] at hask
            refine ⟨_, rfl, lb, _, rfl, .inl (SqL.of hlb2), _, _, rfl, rfl, _, rfl, _, _, rfl, rfl, ?_⟩
            refine ⟨_, rfl, _, rfl, lb, _, _, _, rfl, rfl, SqL.of hlb2, atI_nat hbv, _, rfl, br_t rfl ?_⟩
            refine ⟨_, rfl, lp, _, rfl, .inl ⟨SqL.of hpr, fun q nq => ?_⟩⟩
            have s3 := same_new nq (.tup (pr.map V.int))
            refine ⟨by show 2 ≤ sizeLine; decide, fun t1 nt1 => ⟨by show 2 ≤ sizeLine; decide, fun t2 nt2 => ?_⟩⟩
            have r1 := same_new nt1 (.tup [V.str "unhandled", V.str "stop"])
            have r2 := same_new nt2 (.tup [V.ref q, V.ref t1])
            refine k _ _ (s2.trans (s3.trans (r1.trans r2))) ?_
            rw [hdue, hask]
            exact ⟨t2, q, .ref t1, rfl, upd_same, (r1.trans r2) _ _ upd_same, t1, rfl, r2 _ _ upd_same⟩
        · refine br_f (decide_eq_false (fun y => q (V.int.inj y))) ?_
          have ed : dueE d ps (n :: ns.drop (i + 1)) pr tot = dueE d ps (ns.drop (i + 1)) (pr ++ [n]) (tot + n) := if_neg q
          rw [ed] at hdue
          refine ⟨_, rfl, .inl ⟨rfl, _, SqL.of hpr⟩, _, rfl, lp, _, _, rfl, rfl, hpr, small1000 (by rw [List.length_map]; omega), ?_⟩
          refine ⟨_, rfl, _, rfl, _, _, rfl, rfl, ?_⟩
          exact ⟨same_upd s2 nlp, hi2, pr ++ [n], tot + n, _, _, _, _, rfl, by rw [upd_same, List.map_append]; rfl, by rw [List.length_append, List.length_singleton, hprl], hdue⟩
    · rintro σ H' ⟨s2, hi, pr, tot, o5, o6, o7, o8, rfl, hpr, hprl, hdue⟩
      rw [List.length_map, List.drop_length] at hdue
      have hlb2 := s2 _ _ hlb
      refine ⟨_, rfl, lp, _, rfl, .inl ⟨SqL.of hpr, fun q nq => ?_⟩⟩
      have s3 := same_new nq (.tup (pr.map V.int))
      refine ⟨_, rfl, _, rfl, lb, _, rfl, .inl (SqL.of (s3 _ _ hlb2)), _, _, rfl, rfl, .inl ⟨by decide, by decide⟩, _, _, rfl, rfl, by show 2 ≤ sizeLine; decide, fun t1 nt1 => ⟨by show 2 ≤ sizeLine; decide, fun t2 nt2 => ⟨by show 2 ≤ sizeLine; decide, fun t3 nt3 => ?_⟩⟩⟩
      have r1 := same_new nt1 (.tup [V.str "int", V.int (tot + 100 * (((ps.map V.bl).length : Nat) : Int))])
      have r2 := same_new nt2 (.tup [V.str "value", V.ref t1])
      have r3 := same_new nt3 (.tup [V.ref q, V.ref t2])
      have ed : dueE d ps [] pr tot = (pr, .val (tot + 100 * (ps.length : Nat))) := rfl
      rw [ed] at hdue
      refine k _ _ (s2.trans (s3.trans (r1.trans (r2.trans r3)))) ?_
      rw [hdue]
      exact ⟨t3, q, .ref t2, rfl, upd_same, (r1.trans (r2.trans r3)) _ _ upd_same, t2, t1, rfl, r3 _ _ upd_same, by rw [← List.length_map (f := V.bl)]; exact (r2.trans r3) _ _ upd_same⟩
end
end AF

namespace AF
open PySem PySem.Spec PyProof.Rows L2
set_option hygiene false in
local macro_rules | `(tactic| walk_at "Run.current") => `(tactic| refine ⟨_, rfl, _, _, _, _, _, rfl, hO, T.Run.cl, T.na_Run_current, lk_Run_current, ?_⟩)
set_option hygiene false in
local macro_rules | `(tactic| walk_at "Run.frames") => `(tactic| refine ⟨_, rfl, _, _, _, _, _, rfl, hO, T.Run.cl, T.na_Run_frames, lk_Run_frames, ?_⟩)
set_option hygiene false in
local macro_rules | `(tactic| walk_at "Run.left") => `(tactic| refine ⟨_, rfl, _, _, _, _, _, rfl, hO, T.Run.cl, T.na_Run_left, lk_Run_left, ?_⟩)
set_option hygiene false in
local macro_rules | `(tactic| walk_at "Run.prints") => `(tactic| refine ⟨_, rfl, _, _, _, _, _, rfl, hO, T.Run.cl, T.na_Run_prints, lk_Run_prints, ?_⟩)
set_option hygiene false in
local macro_rules | `(tactic| walk_at "Run.end") => `(tactic| refine ⟨_, rfl, _, _, _, _, _, rfl, hO, T.Run.cl, T.na_Run_end, lk_Run_end, ?_⟩)
set_option hygiene false in
local macro_rules | `(tactic| walk_at "Machine.left") => `(tactic| refine ⟨_, rfl, _, _, _, _, _, rfl, hO, T.Machine.cl, T.na_Machine_left, lk_Machine_left, ?_⟩)
set_option hygiene false in
local macro_rules | `(tactic| walk_at "Machine.prints") => `(tactic| refine ⟨_, rfl, _, _, _, _, _, rfl, hO, T.Machine.cl, T.na_Machine_prints, lk_Machine_prints, ?_⟩)
set_option hygiene false in
local macro_rules | `(tactic| walk_at "Machine.pieces") => `(tactic| refine ⟨_, rfl, _, _, _, _, _, rfl, hO, T.Machine.cl, T.na_Machine_pieces, lk_Machine_pieces, ?_⟩)
set_option hygiene false in
local macro_rules | `(tactic| walk_at "Machine.kept") => `(tactic| refine ⟨_, rfl, _, _, _, _, _, rfl, hO, T.Machine.cl, T.na_Machine_kept, lk_Machine_kept, ?_⟩)
set_option hygiene false in
local macro_rules | `(tactic| walk_at "Machine.most") => `(tactic| refine ⟨_, rfl, _, _, _, _, _, rfl, hO, T.Machine.cl, T.na_Machine_most, lk_Machine_most, ?_⟩)
set_option hygiene false in
local macro_rules | `(tactic| walk_at "Piece.kind") => `(tactic| refine ⟨_, rfl, _, _, _, _, _, rfl, hO, T.Piece.cl, T.na_Piece_kind, lk_Piece_kind, ?_⟩)
set_option hygiene false in
local macro_rules | `(tactic| walk_at "Piece.handler") => `(tactic| refine ⟨_, rfl, _, _, _, _, _, rfl, hO, T.Piece.cl, T.na_Piece_handler, lk_Piece_handler, ?_⟩)
set_option hygiene false in
local macro_rules | `(tactic| walk_at "Piece.frames") => `(tactic| refine ⟨_, rfl, _, _, _, _, _, rfl, hO, T.Piece.cl, T.na_Piece_frames, lk_Piece_frames, ?_⟩)
set_option hygiene false in
local macro_rules | `(tactic| walk_at "Piece.distance") => `(tactic| refine ⟨_, rfl, _, _, _, _, _, rfl, hO, T.Piece.cl, T.na_Piece_distance, lk_Piece_distance, ?_⟩)
set_option hygiene false in
local macro_rules | `(tactic| walk_at "Piece.table") => `(tactic| refine ⟨_, rfl, _, _, _, _, _, rfl, hO, T.Piece.cl, T.na_Piece_table, lk_Piece_table, ?_⟩)
set_option hygiene false in
local macro_rules | `(tactic| walk_at "Runner.blocks") => `(tactic| refine ⟨_, rfl, _, _, _, _, _, rfl, hO, T.Runner.cl, T.na_Runner_blocks, lk_Runner_blocks, ?_⟩)
set_option hygiene false in
local macro_rules | `(tactic| walk_at "Runner.left") => `(tactic| refine ⟨_, rfl, _, _, _, _, _, rfl, hO, T.Runner.cl, T.na_Runner_left, lk_Runner_left, ?_⟩)
set_option hygiene false in
local macro_rules | `(tactic| walk_at "Runner.prints") => `(tactic| refine ⟨_, rfl, _, _, _, _, _, rfl, hO, T.Runner.cl, T.na_Runner_prints, lk_Runner_prints, ?_⟩)
set_option hygiene false in
local macro_rules | `(tactic| walk_at "Runner.kept") => `(tactic| refine ⟨_, rfl, _, _, _, _, _, rfl, hO, T.Runner.cl, T.na_Runner_kept, lk_Runner_kept, ?_⟩)
set_option hygiene false in
local macro_rules | `(tactic| walk_at "Runner.end") => `(tactic| refine ⟨_, rfl, _, _, _, _, _, rfl, hO, T.Runner.cl, T.na_Runner_end, lk_Runner_end, ?_⟩)
set_option hygiene false in
local macro_rules | `(tactic| walk_at "Runner.pieces") => `(tactic| refine ⟨_, rfl, _, _, _, _, _, rfl, hO, T.Runner.cl, T.na_Runner_pieces, lk_Runner_pieces, ?_⟩)
set_option hygiene false in
local macro_rules | `(tactic| walk_at "Runner.rows") => `(tactic| refine ⟨_, rfl, _, _, _, _, _, rfl, hO, T.Runner.cl, T.na_Runner_rows, lk_Runner_rows, ?_⟩)
set_option hygiene false in
local macro_rules | `(tactic| walk_at "Runner.at") => `(tactic| refine ⟨_, rfl, _, _, _, _, _, rfl, hO, T.Runner.cl, T.na_Runner_at, lk_Runner_at, ?_⟩)
set_option hygiene false in
local macro_rules | `(tactic| walk_at "Runner.bindings") => `(tactic| refine ⟨_, rfl, _, _, _, _, _, rfl, hO, T.Runner.cl, T.na_Runner_bindings, lk_Runner_bindings, ?_⟩)
set_option hygiene false in
local macro_rules | `(tactic| walk_at "Runner.operands") => `(tactic| refine ⟨_, rfl, _, _, _, _, _, rfl, hO, T.Runner.cl, T.na_Runner_operands, lk_Runner_operands, ?_⟩)
set_option hygiene false in
local macro_rules | `(tactic| walk_at "Code.blocks") => `(tactic| refine ⟨_, rfl, _, _, _, _, _, rfl, hO, T.Code.cl, T.na_Code_blocks, lk_Code_blocks, ?_⟩)
set_option hygiene false in
local macro_rules | `(tactic| walk_at "Compiler.blocks") => `(tactic| refine ⟨_, rfl, _, _, _, _, _, rfl, hO, T.Compiler.cl, T.na_Compiler_blocks, lk_Compiler_blocks, ?_⟩)
set_option hygiene false in
local macro_rules | `(tactic| walk_at "Compiler.queue") => `(tactic| refine ⟨_, rfl, _, _, _, _, _, rfl, hO, T.Compiler.cl, T.na_Compiler_queue, lk_Compiler_queue, ?_⟩)
section
variable {P : Program} {w : World} {K : PySem.W.Frag} {mg : Str → Option Value} {base : Heap}
theorem wrap_snoc (b : Bool) : ∀ (ps : List Bool) (t : Tr), wrapT (ps ++ [b]) t = hdT1 b (wrapT ps t)
  | [], _ => rfl
  | c :: ps, t => wrap_snoc b ps (hdT1 c t)
def enP : En → PyData
  | .val i => .tuple [.str "value", .tuple [.str "int", .int i]]
  | .unh o => .tuple [.str "unhandled", .str o.s]
def outP (out : List Int) (en : En) : PyData := .tuple [.tuple (out.map PyData.int), enP en]
theorem lay_ints : ∀ out : List Int, PyData.canLayAll0 (out.map PyData.int) = true
  | [] => rfl
  | _ :: r => by
    show (true && PyData.canLayAll0 (r.map PyData.int)) = true
    rw [lay_ints r]; rfl
theorem dep_ints : ∀ out : List Int, PyData.depthAll (out.map PyData.int) = 0
  | [] => rfl
  | _ :: r => by
    show max 0 (PyData.depthAll (r.map PyData.int)) = 0
    rw [dep_ints r]; rfl
theorem lay_en (en : En) : (enP en).canLay0 = true ∧ (enP en).depth ≤ 2 := by
  cases en with
  | val i =>
    refine ⟨?_, by show 2 ≤ 2; decide⟩
    have e1 : PyData.canLay0 (.str "value") = true := by decide +kernel
    have e2 : PyData.canLay0 (.str "int") = true := by decide +kernel
    show (PyData.canLay0 (.str "value") && ((PyData.canLay0 (.str "int") && (true && true)) && true)) = true
    rw [e1, e2]; rfl
  | unh o =>
    refine ⟨?_, by show 1 ≤ 2; decide⟩
    have e1 : PyData.canLay0 (.str "unhandled") = true := by decide +kernel
    have e2 : PyData.canLay0 (.str o.s) = true := by cases o <;> decide +kernel
    show (PyData.canLay0 (.str "unhandled") && (PyData.canLay0 (.str o.s) && true)) = true
    rw [e1, e2]; rfl
theorem lay_out (out : List Int) (en : En) : (outP out en).canLay0 = true ∧ (outP out en).depth ≤ 4 := by
  obtain ⟨h1, h2⟩ := lay_en en
  constructor
  · show (PyData.canLayAll0 (out.map PyData.int) && ((enP en).canLay0 && true)) = true
    rw [lay_ints, h1]; rfl
  · show max (PyData.depthAll (out.map PyData.int) + 1) (max (enP en).depth 0) + 1 ≤ 4
    rw [dep_ints]
    omega
theorem dp_ints {H : Hp} : ∀ out : List Int, DpAll K H (out.map V.int) (out.map PyData.int)
  | [] => .nil
  | i :: r => .cons (.int i) (dp_ints r)
theorem dp_out {H : Hp} {out : List Int} {en : En} {v : V} (h : OutAt H out en v) : Dp K H v (outP out en) := by
  obtain ⟨p, q, ve, rfl, h1, h2, h3⟩ := h
  refine .tup (SqT.of h1) (.cons (.tup (SqT.of h2) (dp_ints out)) (.cons ?_ .nil))
  cases en with
  | val i =>
    obtain ⟨t, u, rfl, g1, g2⟩ := h3
    exact .tup (SqT.of g1) (.cons (.str _) (.cons (.tup (SqT.of g2) (.cons (.str _) (.cons (.int _) .nil))) .nil))
  | unh o =>
    obtain ⟨t, rfl, g1⟩ := h3
    exact .tup (SqT.of g1) (.cons (.str _) (.cons (.str _) .nil))
def spLaw (K : PySem.W.Frag) : Sp := fun vs H Q _ => ∃ (a : Addr) (ns : List Int), vs = [.ref a] ∧ SqL K H a (ns.map V.int) ∧ ∀ H', Q (.bl true) H'
theorem ok_law (T : Fx K w mg) (S : SX P K mg) : FnOk P w K mg base CX0 54 (He.ga K "law") (fdOf K ("law", none)) ["_law_script"] (spLaw K) := by
  have G__law_state := ok_state (P := P) (base := base) T
  have G__law_take := ok_take (P := P) (base := base) T
  have G__law_items := ok_items_def (P := P) (base := base) T
  have G__law_due := ok_due (P := P) (base := base) T
  have G__law_roads := ok_roads (P := P) (base := base) T S
  refine T.law.F.ok sc_law (fun vs H Q E h => ?_) (fun cdv A outer s H vs Q E hr h => ?_)
  · obtain ⟨_, _, rfl, _⟩ := h
    rfl
  · obtain ⟨a, ns, rfl, ha, k⟩ := h
    refine ⟨_, (pss_cons (ps_set (i := 1) sc_law.nd rfl (by first | exact Or.inl rfl | exact Or.inr rfl) (pe_call G__law_state (hr.mono (by omega)) rfl T._law_state.m T._law_state.F.kp T._law_state.b .nil pass0 (pa_cons (pv 0) pa_nil)))
      (pss_cons (ps_setLc (i := 2) (own := [("_law_k", 9)]) rfl sc_law.nd rfl rfl (sw_true rfl rfl rfl (by decide +kernel)) (pi_range1 (by rfl) T.n_range (pa_cons (pe_call G__law_take (hr.mono (by omega)) rfl T._law_take.m T._law_take.F.kp T._law_take.b .nil pass0 (pa_cons (pv 1) (pa_cons pe_int pa_nil))) pa_nil)) (blkOk_by (sc := defScope s_law) (own := [("_law_k", 9)]) (N := ["_law_script", "_law_state_here", "_law_numbers", "_law_divisor", "_law_passing", "_law_tree", "_law_is_passing", "_law_value", "_law_due_here", "_law_k"]) (by decide +kernel)) (fun _ _ _ _ _ => pg_name (i := 9) sc_law.nd rfl (by first | exact Or.inl rfl | exact Or.inr rfl)) (fun _ _ _ _ _ => pts_nil) (fun _ _ _ _ _ => (pe_op op_add pe_int (pe_call G__law_take (hr.mono (by omega)) rfl T._law_take.m T._law_take.F.kp T._law_take.b .nil pass0 (pa_cons (pv 1) (pa_cons pe_int pa_nil))))))
      (pss_cons (ps_set (i := 3) sc_law.nd rfl (by first | exact Or.inl rfl | exact Or.inr rfl) (pe_op op_add pe_int (pe_call G__law_take (hr.mono (by omega)) rfl T._law_take.m T._law_take.F.kp T._law_take.b .nil pass0 (pa_cons (pv 1) (pa_cons pe_int pa_nil)))))
      (pss_cons (ps_setLc (i := 4) (own := [("_law_k", 9)]) rfl sc_law.nd rfl rfl (sw_true rfl rfl rfl (by decide +kernel)) (pi_range1 (by rfl) T.n_range (pa_cons (pe_op op_add pe_int (pe_call G__law_take (hr.mono (by omega)) rfl T._law_take.m T._law_take.F.kp T._law_take.b .nil pass0 (pa_cons (pv 1) (pa_cons pe_int pa_nil)))) pa_nil)) (blkOk_by (sc := defScope s_law) (own := [("_law_k", 9)]) (N := ["_law_script", "_law_state_here", "_law_numbers", "_law_divisor", "_law_passing", "_law_tree", "_law_is_passing", "_law_value", "_law_due_here", "_law_k"]) (by decide +kernel)) (fun _ _ _ _ _ => pg_name (i := 9) sc_law.nd rfl (by first | exact Or.inl rfl | exact Or.inr rfl)) (fun _ _ _ _ _ => pts_nil) (fun _ _ _ _ _ => (pe_cmpR op_gt (pe_call G__law_take (hr.mono (by omega)) rfl T._law_take.m T._law_take.F.kp T._law_take.b .nil pass0 (pa_cons (pv 1) (pa_cons pe_int pa_nil))) pe_int (nomark _))))
      (pss_cons (ps_set (i := 5) sc_law.nd rfl (by first | exact Or.inl rfl | exact Or.inr rfl) (pe_call G__law_items (hr.mono (by omega)) rfl T._law_items.m T._law_items.F.kp T._law_items.b .nil pass0 (pa_cons (pv 2) (pa_cons (pv 3) (pa_cons (pe_tup (pa_cons pe_str (pa_cons pe_str pa_nil))) pa_nil)))))
      (pss_cons (ps_for PassesOwn.never rfl (pi_list (pv 4)) (pg_name (i := 6) sc_law.nd rfl (by first | exact Or.inl rfl | exact Or.inr rfl))
        (pss_cons (ps_set (i := 7) sc_law.nd rfl (by first | exact Or.inl rfl | exact Or.inr rfl) (pe_tup (pa_cons pe_str (pa_cons pe_str (pa_cons (pe_tup (pa_cons pe_str (pa_cons pe_str (pa_cons (pe_tup (pa_cons pe_str (pa_cons pe_str pa_nil))) (pa_cons (pe_tup (pa_cons pe_str (pa_cons pe_int pa_nil))) pa_nil))))) (pa_cons (pe_tup (pa_cons pe_str (pa_cons pe_int pa_nil))) pa_nil))))))
        (pss_cons (ps_if (pt_truth (pv 6) (by intro _; rfl))
          (pss_one (ps_set (i := 7) sc_law.nd rfl (by first | exact Or.inl rfl | exact Or.inr rfl) (pe_tup (pa_cons pe_str (pa_cons pe_str (pa_cons (pv 7) pa_nil))))))
          pss_nil)
        (pss_one (ps_set (i := 5) sc_law.nd rfl (by first | exact Or.inl rfl | exact Or.inr rfl) (pe_tup (pa_cons pe_str (pa_cons (pv 5) (pa_cons (pe_tup (pa_cons pe_str (pa_cons (pe_tup (pa_cons pe_str (pa_cons pe_str (pa_cons (pe_tup (pa_cons pe_str (pa_cons pe_str pa_nil))) (pa_cons (pe_tup (pa_cons pe_str (pa_cons pe_int pa_nil))) pa_nil))))) pa_nil))) (pa_cons (pe_tup (pa_cons (pe_tup (pa_cons pe_str (pa_cons pe_str (pa_cons pe_str (pa_cons (pv 7) pa_nil))))) pa_nil)) pa_nil))))))))))
      (pss_cons (ps_set (i := 8) sc_law.nd rfl (by first | exact Or.inl rfl | exact Or.inr rfl) (pe_call G__law_due (hr.mono (by omega)) rfl T._law_due.m T._law_due.F.kp T._law_due.b .nil pass0 (pa_cons (pv 2) (pa_cons (pv 3) (pa_cons (pv 4) pa_nil)))))
      (pss_one (ps_ret (pe_cmpR (op_eqD hr.units) (pe_call G__law_roads (hr.mono (by omega)) rfl T._law_roads.m T._law_roads.F.kp T._law_roads.b .nil pass0 (pa_cons (pv 5) (pa_cons pe_int pa_nil))) (pe_lst (pa_cons (pv 8) (pa_cons (pv 8) (pa_cons (pv 8) pa_nil)))) (nomark _))))))))))), ?_⟩
    refine ⟨_, rfl, a, ns, rfl, ha, fun H1 sa ca cells s1 nsa nca st1 => ?_⟩
    refine ⟨_, rfl, sa, ca, 0, cells, 12, rfl, st1, by decide, by decide, by decide, fun H2 v2 n2 cells2 k2 st2 hn2 hv0 hv1 => ?_⟩
    -- numbers
    refine ⟨_, rfl, by omega, by omega, fun D1 nD1 => ?_⟩
    have hs2 := st2.2.1
    have hc2 := st2.2.2.1
    have nDs : D1 ∉ [sa, ca] := by simp [(ne_of_none hs2 nD1).symm, (ne_of_none hc2 nD1).symm]
    have stMono : ∀ {Hx Hy : Hp} {n' : Nat} {cl : List Int}, StAt Hx sa ca n' cl → Same Hx Hy → StAt Hy sa ca n' cl := fun z y => ⟨z.1, y _ _ z.2.1, y _ _ z.2.2.1, z.2.2.2⟩
    refine lc_range (fun j H' => Lk [sa, ca, D1] H2 H' ∧ ∃ n' cl, StAt H' sa ca n' cl ∧ n' ≤ 1 + j ∧ ∃ acc : List Int, H' D1 = some (.lst (acc.map V.int)) ∧ acc.length = j ∧ ∀ x ∈ acc, 0 ≤ x ∧ x ≤ 50) ⟨.same (same_new nD1 _), n2, cells2, stMono st2 (same_new nD1 _), by omega, [], upd_same, rfl, fun _ z => nomatch z⟩ ?_ ?_
    · rintro j H' hj ⟨k3, n3, cl3, st3, hn3, acc, hD, hacc, hb⟩
      refine ⟨rfl, _, rfl, sa, ca, n3, cl3, 50, rfl, st3, by omega, by decide, by decide, fun H4 v4 n4 cl4 k4 st4 hn4 h40 h41 => ?_⟩
      have nD3 : sa ≠ D1 ∧ ca ≠ D1 := ⟨fun z => nDs (by rw [← z]; simp), fun z => nDs (by rw [← z]; simp)⟩
      refine ⟨_, _, rfl, rfl, _, k4 _ _ nDs hD, small1000 (by rw [List.length_map, hacc]; omega), (k3.trans (k4.sub (by simp))).trans (.upd (by simp)), n4, cl4, ⟨st4.1, by rw [upd_ne nD3.1]; exact st4.2.1, by rw [upd_ne nD3.2]; exact st4.2.2.1, st4.2.2.2⟩, by omega, acc ++ [1 + v4], by rw [upd_same, List.map_append]; rfl, by rw [List.length_append, List.length_singleton, hacc], fun x hx => ?_⟩
      rcases List.mem_append.mp hx with hx | hx
      · exact hb x hx
      · rw [List.mem_singleton] at hx
        rw [hx]
        omega
    · rintro H' ⟨k3, n3, cl3, st3, hn3, nums, hD, hacc, hb⟩
      have hnl : nums.length ≤ 15 := by omega
      clear k3 hacc nD1
      -- divisor
      refine ⟨_, rfl, sa, ca, n3, cl3, 8, rfl, st3, by omega, by decide, by decide, fun H4 v4 n4 cl4 k4 st4 hn4 h40 h41 => ⟨_, _, rfl, rfl, ?_⟩⟩
      have hD4 := k4 _ _ nDs hD
      obtain ⟨d, ed, hd0⟩ : ∃ d : Int, 2 + v4 = d ∧ 0 < d := ⟨_, rfl, by omega⟩
      show gName 3 (.int (2 + v4)) _ _ _
      rw [ed]
      -- passing
      refine ⟨_, rfl, sa, ca, n4, cl4, 3, rfl, st4, by omega, by decide, by decide, fun H5 v5 n5 cl5 k5 st5 hn5 h50 h51 => ⟨_, _, rfl, rfl, _, rfl, by omega, by omega, fun D2 nD2 => ?_⟩⟩
      have hD5 := k5 _ _ nDs hD4
      have nDD : D1 ≠ D2 := ne_of_none hD5 nD2
      have nD2s : sa ≠ D2 ∧ ca ≠ D2 := ⟨ne_of_none st5.2.1 nD2, ne_of_none st5.2.2.1 nD2⟩
      refine lc_range (fun j H' => (∃ n' cl, StAt H' sa ca n' cl ∧ n' ≤ 100 + j) ∧ H' D1 = some (.lst (nums.map V.int)) ∧ ∃ acc : List Bool, H' D2 = some (.lst (acc.map V.bl)) ∧ acc.length = j) ⟨⟨n5, cl5, stMono st5 (same_new nD2 _), by omega⟩, (same_new nD2 _) _ _ hD5, [], upd_same, rfl⟩ ?_ ?_
      · rintro j H6 hj ⟨⟨n6, cl6, st6, hn6⟩, hD6, acc, hE, hacc⟩
        have hj3 : j < 3 := by omega
        refine ⟨rfl, _, rfl, sa, ca, n6, cl6, 3, rfl, st6, by omega, by decide, by decide, fun H7 v7 n7 cl7 k7 st7 hn7 h70 h71 => ⟨_, _, rfl, rfl, _, k7 _ _ (by simp [nD2s.1.symm, nD2s.2.symm]) hE, small1000 (by rw [List.length_map, hacc]; omega), ⟨n7, cl7, ⟨st7.1, by rw [upd_ne nD2s.1]; exact st7.2.1, by rw [upd_ne nD2s.2]; exact st7.2.2.1, st7.2.2.2⟩, by omega⟩, by rw [upd_ne nDD]; exact k7 _ _ nDs hD6, acc ++ [decide (v7 > 0)], by rw [upd_same, List.map_append]; rfl, by rw [List.length_append, List.length_singleton, hacc]⟩⟩
      · rintro H6 ⟨_, hD6, ps, hE, hps⟩
        have hp1 : 1 ≤ ps.length := by omega
        have hp3 : ps.length ≤ 3 := by omega
        -- the items
        refine ⟨_, rfl, _, rfl, by show 2 ≤ sizeLine; decide, fun t0 nt0 => ?_⟩
        have r0 := same_new nt0 (.tup [V.str "name", V.str "t"])
        refine ⟨D1, d, nums, .ref t0, rfl, SqL.of (r0 _ _ hD6), hd0, ⟨t0, rfl, upd_same⟩, r0 _ _ hD6, fun H7 vt r1 ht => ?_⟩
        have r01 := r0.trans r1
        have hD7 := r01 _ _ hD6
        have hE7 := r01 _ _ hE
        -- the handlers
        refine ⟨_, rfl, D2, rfl, ⟨_, SqL.of hE7⟩, ?_⟩
        refine for_list (K := K) (a := D2) (xs := ps.map V.bl) (fun i σ H' => Same H7 H' ∧ i ≤ ps.length ∧ ∃ v5 o6 o7, σ = [some (.ref a), some (.ref sa), some (.ref D1), some (.int d), some (.ref D2), some v5, o6, o7, none, none] ∧ At H' (wrapT (ps.take i) (bodyT d nums)) v5) ⟨fun _ _ h => h, Nat.zero_le _, vt, none, none, rfl, ht⟩ (fun i σ H' _ z => SqL.of (z.1 _ _ hE7)) ?_ ?_
        · rintro i x σ H8 hx ⟨r2, hi, v5, o6, o7, rfl, ht8⟩
          rw [List.getElem?_map] at hx
          cases hz : ps[i]? with
          | none => rw [hz] at hx; cases hx
          | some b =>
            rw [hz] at hx
            cases hx
            have hi2 : i < ps.length := (List.getElem?_eq_some_iff.mp hz).1
            have etk : ps.take (i + 1) = ps.take i ++ [b] := by rw [List.take_add_one, hz]; rfl
            refine ⟨by show 2 ≤ sizeLine; decide, fun tA nA => ⟨by show 2 ≤ sizeLine; decide, fun tB nB => ⟨by show 4 ≤ sizeLine; decide, fun tC nC => ⟨by show 2 ≤ sizeLine; decide, fun tE nE => ⟨by show 4 ≤ sizeLine; decide, fun tF nF => ?_⟩⟩⟩⟩⟩
            have f1 := same_new nA (.tup [V.str "name", V.str "x"])
            have f2 := same_new nB (.tup [V.str "num", V.int 2])
            have f3 := same_new nC (.tup [V.str "op", V.str "*", V.ref tA, V.ref tB])
            have f4 := same_new nE (.tup [V.str "num", V.int 1])
            have f5 := same_new nF (.tup [V.str "op", V.str "+", V.ref tC, V.ref tE])
            have f45 := f4.trans f5
            have f35 := f3.trans f45
            have f25 := f2.trans f35
            have f15 := f1.trans f25
            have hval : At (upd (upd (upd (upd (upd H8 tA (.tup [V.str "name", V.str "x"])) tB (.tup [V.str "num", V.int 2])) tC (.tup [V.str "op", V.str "*", V.ref tA, V.ref tB])) tE (.tup [V.str "num", V.int 1])) tF (.tup [V.str "op", V.str "+", V.ref tC, V.ref tE])) valT (.ref tF) :=
              ⟨tF, .ref tC, .ref tE, rfl, upd_same, ⟨tC, .ref tA, .ref tB, rfl, f45 _ _ upd_same, ⟨tA, rfl, f25 _ _ upd_same⟩, ⟨tB, rfl, f35 _ _ upd_same⟩⟩, ⟨tE, rfl, f5 _ _ upd_same⟩⟩
            generalize upd (upd (upd (upd (upd H8 tA (.tup [V.str "name", V.str "x"])) tB (.tup [V.str "num", V.int 2])) tC (.tup [V.str "op", V.str "*", V.ref tA, V.ref tB])) tE (.tup [V.str "num", V.int 1])) tF (.tup [V.str "op", V.str "+", V.ref tC, V.ref tE]) = H9 at f15 hval
            refine ⟨_, rfl, _, rfl, ?_⟩
            cases b with
            | true =>
              refine br_t rfl ?_
              refine ⟨_, rfl, by show 3 ≤ sizeLine; decide, fun tN nN => ?_⟩
              have f6 := same_new nN (.tup [V.str "ask", V.str "stop", V.ref tF])
              have r3 := f15.trans f6
              have hg : At (upd H9 tN (.tup [V.str "ask", V.str "stop", V.ref tF])) (clT true) (.ref tN) := ⟨tN, .ref tF, rfl, upd_same, hval.mono (.same f6)⟩
              generalize upd H9 tN (.tup [V.str "ask", V.str "stop", V.ref tF]) = HA at r3 hg
              generalize V.ref tN = vg at hg
              refine ⟨_, rfl, by show 2 ≤ sizeLine; decide, fun tG nG => ⟨by show 2 ≤ sizeLine; decide, fun tH nH => ⟨by show 4 ≤ sizeLine; decide, fun tI nI => ⟨by show 2 ≤ sizeLine; decide, fun tJ nJ => ⟨_, rfl, by show 4 ≤ sizeLine; decide, fun tK nK => ⟨by show 1 ≤ sizeLine; decide, fun tL nL => ⟨by show 4 ≤ sizeLine; decide, fun tM nM => ?_⟩⟩⟩⟩⟩⟩⟩
              have g1 := same_new nG (.tup [V.str "name", V.str "r"])
              have g2 := same_new nH (.tup [V.str "num", V.int 100])
              have g3 := same_new nI (.tup [V.str "op", V.str "+", V.ref tG, V.ref tH])
              have g4 := same_new nJ (.tup [V.str "r", V.ref tI])
              have g5 := same_new nK (.tup [V.str "stop", V.str "x", V.str "k", vg])
              have g6 := same_new nL (.tup [V.ref tK])
              have g7 := same_new nM (.tup [V.str "handle", v5, V.ref tJ, V.ref tL])
              have g67 := g6.trans g7
              have g57 := g5.trans g67
              have g47 := g4.trans g57
              have g37 := g3.trans g47
              have g27 := g2.trans g37
              have g17 := g1.trans g27
              refine ⟨r2.trans (r3.trans g17), by omega, _, _, _, rfl, ?_⟩
              rw [etk, wrap_snoc]
              exact ⟨tM, v5, .ref tJ, .ref tL, .ref tI, vg, rfl, upd_same, ⟨tJ, tL, tK, rfl, rfl, g57 _ _ upd_same, g7 _ _ upd_same, g67 _ _ upd_same⟩, ht8.mono (.same (r3.trans g17)), ⟨tI, .ref tG, .ref tH, rfl, g47 _ _ upd_same, ⟨tG, rfl, g27 _ _ upd_same⟩, ⟨tH, rfl, g37 _ _ upd_same⟩⟩, hg.mono (.same g17)⟩
            | false =>
              refine br_f rfl ?_
              have r3 := f15
              have hg : At H9 (clT false) (.ref tF) := hval
              generalize V.ref tF = vg at hg
              refine ⟨_, rfl, by show 2 ≤ sizeLine; decide, fun tG nG => ⟨by show 2 ≤ sizeLine; decide, fun tH nH => ⟨by show 4 ≤ sizeLine; decide, fun tI nI => ⟨by show 2 ≤ sizeLine; decide, fun tJ nJ => ⟨_, rfl, by show 4 ≤ sizeLine; decide, fun tK nK => ⟨by show 1 ≤ sizeLine; decide, fun tL nL => ⟨by show 4 ≤ sizeLine; decide, fun tM nM => ?_⟩⟩⟩⟩⟩⟩⟩
              have g1 := same_new nG (.tup [V.str "name", V.str "r"])
              have g2 := same_new nH (.tup [V.str "num", V.int 100])
              have g3 := same_new nI (.tup [V.str "op", V.str "+", V.ref tG, V.ref tH])
              have g4 := same_new nJ (.tup [V.str "r", V.ref tI])
              have g5 := same_new nK (.tup [V.str "stop", V.str "x", V.str "k", vg])
              have g6 := same_new nL (.tup [V.ref tK])
              have g7 := same_new nM (.tup [V.str "handle", v5, V.ref tJ, V.ref tL])
              have g67 := g6.trans g7
              have g57 := g5.trans g67
              have g47 := g4.trans g57
              have g37 := g3.trans g47
              have g27 := g2.trans g37
              have g17 := g1.trans g27
              refine ⟨r2.trans (r3.trans g17), by omega, _, _, _, rfl, ?_⟩
              rw [etk, wrap_snoc]
              exact ⟨tM, v5, .ref tJ, .ref tL, .ref tI, vg, rfl, upd_same, ⟨tJ, tL, tK, rfl, rfl, g57 _ _ upd_same, g7 _ _ upd_same, g67 _ _ upd_same⟩, ht8.mono (.same (r3.trans g17)), ⟨tI, .ref tG, .ref tH, rfl, g47 _ _ upd_same, ⟨tG, rfl, g27 _ _ upd_same⟩, ⟨tH, rfl, g37 _ _ upd_same⟩⟩, hg.mono (.same g17)⟩
        · rintro σ H8 ⟨r2, hi, v5, o6, o7, rfl, ht8⟩
          rw [List.length_map, List.take_length] at ht8
          have hD8 := r2 _ _ hD7
          have hE8 := r2 _ _ hE7
          refine ⟨_, rfl, _, rfl, _, rfl, D1, D2, d, nums, ps, rfl, hD8, hE8, hd0, hp1, by omega, by omega, fun H9 vd r3 hdue => ?_⟩
          refine ⟨_, rfl, v5, d, nums, ps, rfl, ht8.mono (.same r3), hp1, hp3, hnl, hb, fun H10 l v1 v2 v3 r4 hl4 hall => ?_⟩
          refine ⟨_, rfl, _, rfl, _, rfl, by show 3 ≤ sizeLine; decide, fun l2 nl2 => ?_⟩
          have r5 := same_new nl2 (.lst [vd, vd, vd])
          have e1 := dp_out (K := K) ((hall v1 (by simp)).mono (.same r5))
          have e2 := dp_out (K := K) ((hall v2 (by simp)).mono (.same r5))
          have e3 := dp_out (K := K) ((hall v3 (by simp)).mono (.same r5))
          have e4 := dp_out (K := K) (hdue.mono (.same (r4.trans r5)))
          obtain ⟨g1, g2⟩ := lay_out (dueE d ps nums [] 0).1 (dueE d ps nums [] 0).2
          generalize outP (dueE d ps nums [] 0).1 (dueE d ps nums [] 0).2 = x at e1 e2 e3 e4 g1 g2
          have gl : (PyData.list [x, x, x]).canLay0 = true := by
            show (x.canLay0 && (x.canLay0 && (x.canLay0 && true))) = true
            rw [g1]; rfl
          have gd : (PyData.list [x, x, x]).depth ≤ 64 := by
            show max x.depth (max x.depth (max x.depth 0)) + 1 ≤ 64
            omega
          have sh : SeqAt.shaped (.list [x, x, x]) = true := by
            unfold SeqAt.shaped
            rw [gl, decide_eq_true gd]; rfl
          refine ⟨.list [x, x, x], .list [x, x, x], .lst (SqL.of (r5 _ _ hl4)) (.cons e1 (.cons e2 (.cons e3 .nil))), .lst (SqL.of upd_same) (.cons e4 (.cons e4 (.cons e4 .nil))), sh, sh, ?_⟩
          rw [SeqAt.eqv_refl _ gl]
          exact k _
end
end AF

namespace AF
open PySem PySem.Spec PyProof.Rows L2
/-! ### from the facts to the structure -/
section
variable {K : PySem.W.Frag} {x qual : Str} {st : Stmt} {p : Str × Option Str} {ps : List Str}
theorem fd_eq {dvs : List V} {kws : List (Str × V)} {pa : Arguments} {bd : List Stmt} {sc : Scope} {fd : FuncData} (F : FunD K x qual pa bd sc dvs kws (He.fAd K p) fd) : fdOf K p = fd := by
  obtain ⟨oc, od, dV, kV, doc, pm, an, cdv, ct, osl, rfl, lk, _⟩ := F.ex
  unfold fdOf
  rw [lk]
theorem toFun (h : ∃ fd, FunD K x qual (defArgs st) (defBody st) (defScope st) [] [] (He.fAd K p) fd) : Fun K x qual st (He.fAd K p) (fdOf K p) := by
  obtain ⟨fd, F⟩ := h
  rw [fd_eq F]
  obtain ⟨oc, od, dV, kV, doc, pm, an, cdv, ct, osl, e, l, c, hd, _⟩ := F.ex
  rcases hd with ⟨_, e2⟩ | ⟨e2, _⟩
  · subst e2
    exact ⟨⟨oc, od, kV, doc, pm, an, cdv, ct, osl, e, l, c⟩, F.kp⟩
  · exact absurd rfl e2
theorem toBinds (h : ∃ fd, FunD K x qual (defArgs st) (defBody st) (defScope st) [] [] (He.fAd K p) fd)
    (hb : ∀ (kV doc pm : Value) (an : Option Addr) (cdv ct : Value) (us : List Value), us.length = ps.length → bindArgs (PySem.W.fnOf x qual (defArgs st) (defBody st) (defScope st) .none kV doc pm an cdv ct) ⟨us, []⟩ = pure (ps.zip us)) : Binds K (fdOf K p) ps [] := by
  obtain ⟨fd, F⟩ := h
  rw [fd_eq F]
  exact F.bindsN hb
end
theorem fx_of {K : PySem.W.Frag} {w : World} {h : Heap} {mg : Str → Option Value} (X : K.In h) (G : h.Ns mainGlobals mg) (c : He.SaysT fa fn ts w K) (cx : exB K = true) : Fx K w mg := by
  obtain ⟨x1, cx⟩ := Bool.and_eq_true_iff.mp cx
  obtain ⟨x2, cx⟩ := Bool.and_eq_true_iff.mp cx
  obtain ⟨x3, _⟩ := Bool.and_eq_true_iff.mp cx
  exact {
    parts := ⟨toFun (st := s_parts) (p := ("parts", none)) (c.d.def_ 0 rfl), toBinds (st := s_parts) (p := ("parts", none)) (c.d.def_ 0 rfl) fun _ _ _ _ _ _ us hl => match us, hl with | [_], _ => rfl, He.glo_ok X G (c.d.fact 0 (f := .glo "parts") rfl)⟩
    with_parts := ⟨toFun (st := s_with_parts) (p := ("with_parts", none)) (c.d.def_ 1 rfl), toBinds (st := s_with_parts) (p := ("with_parts", none)) (c.d.def_ 1 rfl) fun _ _ _ _ _ _ us hl => match us, hl with | [_, _], _ => rfl, He.glo_ok X G (c.d.fact 1 (f := .glo "with_parts") rfl)⟩
    bound_names := ⟨toFun (st := s_bound_names) (p := ("bound_names", none)) (c.d.def_ 2 rfl), toBinds (st := s_bound_names) (p := ("bound_names", none)) (c.d.def_ 2 rfl) fun _ _ _ _ _ _ us hl => match us, hl with | [_], _ => rfl, He.glo_ok X G (c.d.fact 2 (f := .glo "bound_names") rfl)⟩
    put_in := ⟨toFun (st := s_put_in) (p := ("put_in", none)) (c.d.def_ 3 rfl), toBinds (st := s_put_in) (p := ("put_in", none)) (c.d.def_ 3 rfl) fun _ _ _ _ _ _ us hl => match us, hl with | [_, _, _], _ => rfl, He.glo_ok X G (c.d.fact 3 (f := .glo "put_in") rfl)⟩
    operated := ⟨toFun (st := s_operated) (p := ("operated", none)) (c.d.def_ 4 rfl), toBinds (st := s_operated) (p := ("operated", none)) (c.d.def_ 4 rfl) fun _ _ _ _ _ _ us hl => match us, hl with | [_, _, _], _ => rfl, He.glo_ok X G (c.d.fact 4 (f := .glo "operated") rfl)⟩
    is_value := ⟨toFun (st := s_is_value) (p := ("is_value", none)) (c.d.def_ 5 rfl), toBinds (st := s_is_value) (p := ("is_value", none)) (c.d.def_ 5 rfl) fun _ _ _ _ _ _ us hl => match us, hl with | [_], _ => rfl, He.glo_ok X G (c.d.fact 5 (f := .glo "is_value") rfl)⟩
    shape := ⟨toFun (st := s_shape) (p := ("shape", none)) (c.d.def_ 6 rfl), toBinds (st := s_shape) (p := ("shape", none)) (c.d.def_ 6 rfl) fun _ _ _ _ _ _ us hl => match us, hl with | [_], _ => rfl, He.glo_ok X G (c.d.fact 6 (f := .glo "shape") rfl)⟩
    quoted := ⟨toFun (st := s_quoted) (p := ("quoted", none)) (c.d.def_ 7 rfl), toBinds (st := s_quoted) (p := ("quoted", none)) (c.d.def_ 7 rfl) fun _ _ _ _ _ _ us hl => match us, hl with | [_], _ => rfl, He.glo_ok X G (c.d.fact 7 (f := .glo "quoted") rfl)⟩
    Run__init__ := ⟨toFun (st := s_Run__init__) (p := ("Run", some "__init__")) (c.d.def_ 8 rfl), toBinds (st := s_Run__init__) (p := ("Run", some "__init__")) (c.d.def_ 8 rfl) fun _ _ _ _ _ _ us hl => match us, hl with | [_, _, _], _ => rfl, He.meth_ok (c.d.fact 90 (f := .meth "Run" "__init__") rfl)⟩
    Run_counted := ⟨toFun (st := s_Run_counted) (p := ("Run", some "counted")) (c.d.def_ 9 rfl), toBinds (st := s_Run_counted) (p := ("Run", some "counted")) (c.d.def_ 9 rfl) fun _ _ _ _ _ _ us hl => match us, hl with | [_], _ => rfl, He.meth_ok (c.d.fact 91 (f := .meth "Run" "counted") rfl)⟩
    Run_begin := ⟨toFun (st := s_Run_begin) (p := ("Run", some "begin")) (c.d.def_ 10 rfl), toBinds (st := s_Run_begin) (p := ("Run", some "begin")) (c.d.def_ 10 rfl) fun _ _ _ _ _ _ us hl => match us, hl with | [_], _ => rfl, He.meth_ok (c.d.fact 92 (f := .meth "Run" "begin") rfl)⟩
    Run_go_on := ⟨toFun (st := s_Run_go_on) (p := ("Run", some "go_on")) (c.d.def_ 11 rfl), toBinds (st := s_Run_go_on) (p := ("Run", some "go_on")) (c.d.def_ 11 rfl) fun _ _ _ _ _ _ us hl => match us, hl with | [_], _ => rfl, He.meth_ok (c.d.fact 93 (f := .meth "Run" "go_on") rfl)⟩
    Run_ask := ⟨toFun (st := s_Run_ask) (p := ("Run", some "ask")) (c.d.def_ 12 rfl), toBinds (st := s_Run_ask) (p := ("Run", some "ask")) (c.d.def_ 12 rfl) fun _ _ _ _ _ _ us hl => match us, hl with | [_, _, _], _ => rfl, He.meth_ok (c.d.fact 94 (f := .meth "Run" "ask") rfl)⟩
    Run_answer := ⟨toFun (st := s_Run_answer) (p := ("Run", some "answer")) (c.d.def_ 13 rfl), toBinds (st := s_Run_answer) (p := ("Run", some "answer")) (c.d.def_ 13 rfl) fun _ _ _ _ _ _ us hl => match us, hl with | [_, _, _, _], _ => rfl, He.meth_ok (c.d.fact 95 (f := .meth "Run" "answer") rfl)⟩
    run_plain := ⟨toFun (st := s_run_plain) (p := ("run_plain", none)) (c.d.def_ 14 rfl), toBinds (st := s_run_plain) (p := ("run_plain", none)) (c.d.def_ 14 rfl) fun _ _ _ _ _ _ us hl => match us, hl with | [_, _], _ => rfl, He.glo_ok X G (c.d.fact 8 (f := .glo "run_plain") rfl)⟩
    looked_up := ⟨toFun (st := s_looked_up) (p := ("looked_up", none)) (c.d.def_ 15 rfl), toBinds (st := s_looked_up) (p := ("looked_up", none)) (c.d.def_ 15 rfl) fun _ _ _ _ _ _ us hl => match us, hl with | [_, _], _ => rfl, He.glo_ok X G (c.d.fact 9 (f := .glo "looked_up") rfl)⟩
    calculated := ⟨toFun (st := s_calculated) (p := ("calculated", none)) (c.d.def_ 16 rfl), toBinds (st := s_calculated) (p := ("calculated", none)) (c.d.def_ 16 rfl) fun _ _ _ _ _ _ us hl => match us, hl with | [_, _, _], _ => rfl, He.glo_ok X G (c.d.fact 10 (f := .glo "calculated") rfl)⟩
    value_shape := ⟨toFun (st := s_value_shape) (p := ("value_shape", none)) (c.d.def_ 17 rfl), toBinds (st := s_value_shape) (p := ("value_shape", none)) (c.d.def_ 17 rfl) fun _ _ _ _ _ _ us hl => match us, hl with | [_], _ => rfl, He.glo_ok X G (c.d.fact 11 (f := .glo "value_shape") rfl)⟩
    Machine__init__ := ⟨toFun (st := s_Machine__init__) (p := ("Machine", some "__init__")) (c.d.def_ 18 rfl), toBinds (st := s_Machine__init__) (p := ("Machine", some "__init__")) (c.d.def_ 18 rfl) fun _ _ _ _ _ _ us hl => match us, hl with | [_, _], _ => rfl, He.meth_ok (c.d.fact 96 (f := .meth "Machine" "__init__") rfl)⟩
    Machine_step := ⟨toFun (st := s_Machine_step) (p := ("Machine", some "step")) (c.d.def_ 19 rfl), toBinds (st := s_Machine_step) (p := ("Machine", some "step")) (c.d.def_ 19 rfl) fun _ _ _ _ _ _ us hl => match us, hl with | [_], _ => rfl, He.meth_ok (c.d.fact 97 (f := .meth "Machine" "step") rfl)⟩
    Machine_wait := ⟨toFun (st := s_Machine_wait) (p := ("Machine", some "wait")) (c.d.def_ 20 rfl), He.meth_ok (c.d.fact 98 (f := .meth "Machine" "wait") rfl)⟩
    Machine_add_piece := ⟨toFun (st := s_Machine_add_piece) (p := ("Machine", some "add_piece")) (c.d.def_ 21 rfl), toBinds (st := s_Machine_add_piece) (p := ("Machine", some "add_piece")) (c.d.def_ 21 rfl) fun _ _ _ _ _ _ us hl => match us, hl with | [_, _, _], _ => rfl, He.meth_ok (c.d.fact 99 (f := .meth "Machine" "add_piece") rfl)⟩
    Machine_run := ⟨toFun (st := s_Machine_run) (p := ("Machine", some "run")) (c.d.def_ 22 rfl), toBinds (st := s_Machine_run) (p := ("Machine", some "run")) (c.d.def_ 22 rfl) fun _ _ _ _ _ _ us hl => match us, hl with | [_, _], _ => rfl, He.meth_ok (c.d.fact 100 (f := .meth "Machine" "run") rfl)⟩
    Machine_handled := ⟨toFun (st := s_Machine_handled) (p := ("Machine", some "handled")) (c.d.def_ 23 rfl), toBinds (st := s_Machine_handled) (p := ("Machine", some "handled")) (c.d.def_ 23 rfl) fun _ _ _ _ _ _ us hl => match us, hl with | [_, _], _ => rfl, He.meth_ok (c.d.fact 101 (f := .meth "Machine" "handled") rfl)⟩
    Machine_begin := ⟨toFun (st := s_Machine_begin) (p := ("Machine", some "begin")) (c.d.def_ 24 rfl), toBinds (st := s_Machine_begin) (p := ("Machine", some "begin")) (c.d.def_ 24 rfl) fun _ _ _ _ _ _ us hl => match us, hl with | [_, _, _], _ => rfl, He.meth_ok (c.d.fact 102 (f := .meth "Machine" "begin") rfl)⟩
    Machine_resume := ⟨toFun (st := s_Machine_resume) (p := ("Machine", some "resume")) (c.d.def_ 25 rfl), toBinds (st := s_Machine_resume) (p := ("Machine", some "resume")) (c.d.def_ 25 rfl) fun _ _ _ _ _ _ us hl => match us, hl with | [_, _, _], _ => rfl, He.meth_ok (c.d.fact 103 (f := .meth "Machine" "resume") rfl)⟩
    Machine_ask := ⟨toFun (st := s_Machine_ask) (p := ("Machine", some "ask")) (c.d.def_ 26 rfl), toBinds (st := s_Machine_ask) (p := ("Machine", some "ask")) (c.d.def_ 26 rfl) fun _ _ _ _ _ _ us hl => match us, hl with | [_, _, _], _ => rfl, He.meth_ok (c.d.fact 104 (f := .meth "Machine" "ask") rfl)⟩
    Machine_answer := ⟨toFun (st := s_Machine_answer) (p := ("Machine", some "answer")) (c.d.def_ 27 rfl), toBinds (st := s_Machine_answer) (p := ("Machine", some "answer")) (c.d.def_ 27 rfl) fun _ _ _ _ _ _ us hl => match us, hl with | [_, _, _, _, _], _ => rfl, He.meth_ok (c.d.fact 105 (f := .meth "Machine" "answer") rfl)⟩
    run_counted := ⟨toFun (st := s_run_counted) (p := ("run_counted", none)) (c.d.def_ 28 rfl), toBinds (st := s_run_counted) (p := ("run_counted", none)) (c.d.def_ 28 rfl) fun _ _ _ _ _ _ us hl => match us, hl with | [_, _], _ => rfl, He.glo_ok X G (c.d.fact 12 (f := .glo "run_counted") rfl)⟩
    run_machine := ⟨toFun (st := s_run_machine) (p := ("run_machine", none)) (c.d.def_ 29 rfl), toBinds (st := s_run_machine) (p := ("run_machine", none)) (c.d.def_ 29 rfl) fun _ _ _ _ _ _ us hl => match us, hl with | [_, _], _ => rfl, He.glo_ok X G (c.d.fact 13 (f := .glo "run_machine") rfl)⟩
    Piece__init__ := ⟨toFun (st := s_Piece__init__) (p := ("Piece", some "__init__")) (c.d.def_ 30 rfl), toBinds (st := s_Piece__init__) (p := ("Piece", some "__init__")) (c.d.def_ 30 rfl) fun _ _ _ _ _ _ us hl => match us, hl with | [_, _, _, _, _], _ => rfl, He.meth_ok (c.d.fact 106 (f := .meth "Piece" "__init__") rfl)⟩
    Piece_frozen := ⟨toFun (st := s_Piece_frozen) (p := ("Piece", some "frozen")) (c.d.def_ 31 rfl), toBinds (st := s_Piece_frozen) (p := ("Piece", some "frozen")) (c.d.def_ 31 rfl) fun _ _ _ _ _ _ us hl => match us, hl with | [_], _ => rfl, He.meth_ok (c.d.fact 107 (f := .meth "Piece" "frozen") rfl)⟩
    Runner__init__ := ⟨toFun (st := s_Runner__init__) (p := ("Runner", some "__init__")) (c.d.def_ 32 rfl), toBinds (st := s_Runner__init__) (p := ("Runner", some "__init__")) (c.d.def_ 32 rfl) fun _ _ _ _ _ _ us hl => match us, hl with | [_, _, _], _ => rfl, He.meth_ok (c.d.fact 108 (f := .meth "Runner" "__init__") rfl)⟩
    Runner_enter := ⟨toFun (st := s_Runner_enter) (p := ("Runner", some "enter")) (c.d.def_ 33 rfl), toBinds (st := s_Runner_enter) (p := ("Runner", some "enter")) (c.d.def_ 33 rfl) fun _ _ _ _ _ _ us hl => match us, hl with | [_, _, _], _ => rfl, He.meth_ok (c.d.fact 109 (f := .meth "Runner" "enter") rfl)⟩
    Runner_counted := ⟨toFun (st := s_Runner_counted) (p := ("Runner", some "counted")) (c.d.def_ 34 rfl), toBinds (st := s_Runner_counted) (p := ("Runner", some "counted")) (c.d.def_ 34 rfl) fun _ _ _ _ _ _ us hl => match us, hl with | [_], _ => rfl, He.meth_ok (c.d.fact 110 (f := .meth "Runner" "counted") rfl)⟩
    Runner_save := ⟨toFun (st := s_Runner_save) (p := ("Runner", some "save")) (c.d.def_ 35 rfl), toBinds (st := s_Runner_save) (p := ("Runner", some "save")) (c.d.def_ 35 rfl) fun _ _ _ _ _ _ us hl => match us, hl with | [_], _ => rfl, He.meth_ok (c.d.fact 111 (f := .meth "Runner" "save") rfl)⟩
    Runner_add_piece := ⟨toFun (st := s_Runner_add_piece) (p := ("Runner", some "add_piece")) (c.d.def_ 36 rfl), toBinds (st := s_Runner_add_piece) (p := ("Runner", some "add_piece")) (c.d.def_ 36 rfl) fun _ _ _ _ _ _ us hl => match us, hl with | [_, _], _ => rfl, He.meth_ok (c.d.fact 112 (f := .meth "Runner" "add_piece") rfl)⟩
    Runner_deliver := ⟨toFun (st := s_Runner_deliver) (p := ("Runner", some "deliver")) (c.d.def_ 37 rfl), toBinds (st := s_Runner_deliver) (p := ("Runner", some "deliver")) (c.d.def_ 37 rfl) fun _ _ _ _ _ _ us hl => match us, hl with | [_, _], _ => rfl, He.meth_ok (c.d.fact 113 (f := .meth "Runner" "deliver") rfl)⟩
    Runner_ask := ⟨toFun (st := s_Runner_ask) (p := ("Runner", some "ask")) (c.d.def_ 38 rfl), toBinds (st := s_Runner_ask) (p := ("Runner", some "ask")) (c.d.def_ 38 rfl) fun _ _ _ _ _ _ us hl => match us, hl with | [_, _], _ => rfl, He.meth_ok (c.d.fact 114 (f := .meth "Runner" "ask") rfl)⟩
    Runner_handle := ⟨toFun (st := s_Runner_handle) (p := ("Runner", some "handle")) (c.d.def_ 39 rfl), toBinds (st := s_Runner_handle) (p := ("Runner", some "handle")) (c.d.def_ 39 rfl) fun _ _ _ _ _ _ us hl => match us, hl with | [_, _], _ => rfl, He.meth_ok (c.d.fact 115 (f := .meth "Runner" "handle") rfl)⟩
    Runner_step := ⟨toFun (st := s_Runner_step) (p := ("Runner", some "step")) (c.d.def_ 40 rfl), toBinds (st := s_Runner_step) (p := ("Runner", some "step")) (c.d.def_ 40 rfl) fun _ _ _ _ _ _ us hl => match us, hl with | [_], _ => rfl, He.meth_ok (c.d.fact 116 (f := .meth "Runner" "step") rfl)⟩
    Runner_move := ⟨toFun (st := s_Runner_move) (p := ("Runner", some "move")) (c.d.def_ 41 rfl), toBinds (st := s_Runner_move) (p := ("Runner", some "move")) (c.d.def_ 41 rfl) fun _ _ _ _ _ _ us hl => match us, hl with | [_, _], _ => rfl, He.meth_ok (c.d.fact 117 (f := .meth "Runner" "move") rfl)⟩
    Runner_worked := ⟨toFun (st := s_Runner_worked) (p := ("Runner", some "worked")) (c.d.def_ 42 rfl), toBinds (st := s_Runner_worked) (p := ("Runner", some "worked")) (c.d.def_ 42 rfl) fun _ _ _ _ _ _ us hl => match us, hl with | [_, _], _ => rfl, He.meth_ok (c.d.fact 118 (f := .meth "Runner" "worked") rfl)⟩
    run_kept := ⟨toFun (st := s_run_kept) (p := ("run_kept", none)) (c.d.def_ 43 rfl), toBinds (st := s_run_kept) (p := ("run_kept", none)) (c.d.def_ 43 rfl) fun _ _ _ _ _ _ us hl => match us, hl with | [_, _], _ => rfl, He.glo_ok X G (c.d.fact 14 (f := .glo "run_kept") rfl)⟩
    run_code := ⟨toFun (st := s_run_code) (p := ("run_code", none)) (c.d.def_ 44 rfl), toBinds (st := s_run_code) (p := ("run_code", none)) (c.d.def_ 44 rfl) fun _ _ _ _ _ _ us hl => match us, hl with | [_, _], _ => rfl, He.glo_ok X G (c.d.fact 15 (f := .glo "run_code") rfl)⟩
    answers := ⟨toFun (st := s_answers) (p := ("answers", none)) (c.d.def_ 45 rfl), toBinds (st := s_answers) (p := ("answers", none)) (c.d.def_ 45 rfl) fun _ _ _ _ _ _ us hl => match us, hl with | [_, _], _ => rfl, He.glo_ok X G (c.d.fact 16 (f := .glo "answers") rfl)⟩
    answers_at_once := ⟨toFun (st := s_answers_at_once) (p := ("answers_at_once", none)) (c.d.def_ 46 rfl), toBinds (st := s_answers_at_once) (p := ("answers_at_once", none)) (c.d.def_ 46 rfl) fun _ _ _ _ _ _ us hl => match us, hl with | [_], _ => rfl, He.glo_ok X G (c.d.fact 17 (f := .glo "answers_at_once") rfl)⟩
    Code__init__ := ⟨toFun (st := s_Code__init__) (p := ("Code", some "__init__")) (c.d.def_ 47 rfl), toBinds (st := s_Code__init__) (p := ("Code", some "__init__")) (c.d.def_ 47 rfl) fun _ _ _ _ _ _ us hl => match us, hl with | [_, _], _ => rfl, He.meth_ok (c.d.fact 119 (f := .meth "Code" "__init__") rfl)⟩
    Compiler__init__ := ⟨toFun (st := s_Compiler__init__) (p := ("Compiler", some "__init__")) (c.d.def_ 48 rfl), toBinds (st := s_Compiler__init__) (p := ("Compiler", some "__init__")) (c.d.def_ 48 rfl) fun _ _ _ _ _ _ us hl => match us, hl with | [_], _ => rfl, He.meth_ok (c.d.fact 120 (f := .meth "Compiler" "__init__") rfl)⟩
    Compiler_block := ⟨toFun (st := s_Compiler_block) (p := ("Compiler", some "block")) (c.d.def_ 49 rfl), toBinds (st := s_Compiler_block) (p := ("Compiler", some "block")) (c.d.def_ 49 rfl) fun _ _ _ _ _ _ us hl => match us, hl with | [_, _, _], _ => rfl, He.meth_ok (c.d.fact 121 (f := .meth "Compiler" "block") rfl)⟩
    Compiler_compile_all := ⟨toFun (st := s_Compiler_compile_all) (p := ("Compiler", some "compile_all")) (c.d.def_ 50 rfl), toBinds (st := s_Compiler_compile_all) (p := ("Compiler", some "compile_all")) (c.d.def_ 50 rfl) fun _ _ _ _ _ _ us hl => match us, hl with | [_], _ => rfl, He.meth_ok (c.d.fact 122 (f := .meth "Compiler" "compile_all") rfl)⟩
    Compiler_last := ⟨toFun (st := s_Compiler_last) (p := ("Compiler", some "last")) (c.d.def_ 51 rfl), toBinds (st := s_Compiler_last) (p := ("Compiler", some "last")) (c.d.def_ 51 rfl) fun _ _ _ _ _ _ us hl => match us, hl with | [_, _, _, _], _ => rfl, He.meth_ok (c.d.fact 123 (f := .meth "Compiler" "last") rfl)⟩
    Compiler_value := ⟨toFun (st := s_Compiler_value) (p := ("Compiler", some "value")) (c.d.def_ 52 rfl), toBinds (st := s_Compiler_value) (p := ("Compiler", some "value")) (c.d.def_ 52 rfl) fun _ _ _ _ _ _ us hl => match us, hl with | [_, _, _, _], _ => rfl, He.meth_ok (c.d.fact 124 (f := .meth "Compiler" "value") rfl)⟩
    Compiler_simple := ⟨toFun (st := s_Compiler_simple) (p := ("Compiler", some "simple")) (c.d.def_ 53 rfl), toBinds (st := s_Compiler_simple) (p := ("Compiler", some "simple")) (c.d.def_ 53 rfl) fun _ _ _ _ _ _ us hl => match us, hl with | [_, _, _, _], _ => rfl, He.meth_ok (c.d.fact 125 (f := .meth "Compiler" "simple") rfl)⟩
    Compiler_handler := ⟨toFun (st := s_Compiler_handler) (p := ("Compiler", some "handler")) (c.d.def_ 54 rfl), toBinds (st := s_Compiler_handler) (p := ("Compiler", some "handler")) (c.d.def_ 54 rfl) fun _ _ _ _ _ _ us hl => match us, hl with | [_, _, _, _], _ => rfl, He.meth_ok (c.d.fact 126 (f := .meth "Compiler" "handler") rfl)⟩
    compile_expression := ⟨toFun (st := s_compile_expression) (p := ("compile_expression", none)) (c.d.def_ 55 rfl), toBinds (st := s_compile_expression) (p := ("compile_expression", none)) (c.d.def_ 55 rfl) fun _ _ _ _ _ _ us hl => match us, hl with | [_], _ => rfl, He.glo_ok X G (c.d.fact 18 (f := .glo "compile_expression") rfl)⟩
    _law_state := ⟨toFun (st := s__law_state) (p := ("_law_state", none)) (c.d.def_ 56 rfl), toBinds (st := s__law_state) (p := ("_law_state", none)) (c.d.def_ 56 rfl) fun _ _ _ _ _ _ us hl => match us, hl with | [_], _ => rfl, He.glo_ok X G (c.d.fact 19 (f := .glo "_law_state") rfl)⟩
    _law_take := ⟨toFun (st := s__law_take) (p := ("_law_take", none)) (c.d.def_ 57 rfl), toBinds (st := s__law_take) (p := ("_law_take", none)) (c.d.def_ 57 rfl) fun _ _ _ _ _ _ us hl => match us, hl with | [_, _], _ => rfl, He.glo_ok X G (c.d.fact 20 (f := .glo "_law_take") rfl)⟩
    _law_roads := ⟨toFun (st := s__law_roads) (p := ("_law_roads", none)) (c.d.def_ 58 rfl), toBinds (st := s__law_roads) (p := ("_law_roads", none)) (c.d.def_ 58 rfl) fun _ _ _ _ _ _ us hl => match us, hl with | [_, _], _ => rfl, He.glo_ok X G (c.d.fact 21 (f := .glo "_law_roads") rfl)⟩
    _law_items := ⟨toFun (st := s__law_items) (p := ("_law_items", none)) (c.d.def_ 59 rfl), toBinds (st := s__law_items) (p := ("_law_items", none)) (c.d.def_ 59 rfl) fun _ _ _ _ _ _ us hl => match us, hl with | [_, _, _], _ => rfl, He.glo_ok X G (c.d.fact 22 (f := .glo "_law_items") rfl)⟩
    _law_due := ⟨toFun (st := s__law_due) (p := ("_law_due", none)) (c.d.def_ 60 rfl), toBinds (st := s__law_due) (p := ("_law_due", none)) (c.d.def_ 60 rfl) fun _ _ _ _ _ _ us hl => match us, hl with | [_, _, _], _ => rfl, He.glo_ok X G (c.d.fact 23 (f := .glo "_law_due") rfl)⟩
    law := ⟨toFun (st := s_law) (p := ("law", none)) (c.d.def_ 61 rfl), toBinds (st := s_law) (p := ("law", none)) (c.d.def_ 61 rfl) fun _ _ _ _ _ _ us hl => match us, hl with | [_], _ => rfl, He.glo_ok X G (c.d.fact 24 (f := .glo "law") rfl)⟩
    Run := ⟨He.cls_ok (c.d.fact 50 (f := .cls "Run") rfl), He.glo_ok X G (c.d.fact 25 (f := .glo "Run") rfl), He.mkr_ok (c.d.fact 56 (f := .mkr "Run") rfl)⟩
    Machine := ⟨He.cls_ok (c.d.fact 51 (f := .cls "Machine") rfl), He.glo_ok X G (c.d.fact 27 (f := .glo "Machine") rfl), He.mkr_ok (c.d.fact 57 (f := .mkr "Machine") rfl)⟩
    Piece := ⟨He.cls_ok (c.d.fact 52 (f := .cls "Piece") rfl), He.glo_ok X G (c.d.fact 28 (f := .glo "Piece") rfl), He.mkr_ok (c.d.fact 58 (f := .mkr "Piece") rfl)⟩
    Runner := ⟨He.cls_ok (c.d.fact 53 (f := .cls "Runner") rfl), He.glo_ok X G (c.d.fact 29 (f := .glo "Runner") rfl), He.mkr_ok (c.d.fact 59 (f := .mkr "Runner") rfl)⟩
    Code := ⟨He.cls_ok (c.d.fact 54 (f := .cls "Code") rfl), He.glo_ok X G (c.d.fact 30 (f := .glo "Code") rfl), He.mkr_ok (c.d.fact 60 (f := .mkr "Code") rfl)⟩
    Compiler := ⟨He.cls_ok (c.d.fact 55 (f := .cls "Compiler") rfl), He.glo_ok X G (c.d.fact 31 (f := .glo "Compiler") rfl), He.mkr_ok (c.d.fact 61 (f := .mkr "Compiler") rfl)⟩
    na_Run_current := He.noat_ok (c.d.fact 62 (f := .noat "Run" "current") rfl)
    na_Run_frames := He.noat_ok (c.d.fact 63 (f := .noat "Run" "frames") rfl)
    na_Run_left := He.noat_ok (c.d.fact 64 (f := .noat "Run" "left") rfl)
    na_Run_prints := He.noat_ok (c.d.fact 65 (f := .noat "Run" "prints") rfl)
    na_Run_end := He.noat_ok (c.d.fact 66 (f := .noat "Run" "end") rfl)
    na_Machine_left := He.noat_ok (c.d.fact 67 (f := .noat "Machine" "left") rfl)
    na_Machine_prints := He.noat_ok (c.d.fact 68 (f := .noat "Machine" "prints") rfl)
    na_Machine_pieces := He.noat_ok (c.d.fact 69 (f := .noat "Machine" "pieces") rfl)
    na_Machine_kept := He.noat_ok (c.d.fact 70 (f := .noat "Machine" "kept") rfl)
    na_Machine_most := He.noat_ok (c.d.fact 71 (f := .noat "Machine" "most") rfl)
    na_Piece_kind := He.noat_ok (c.d.fact 72 (f := .noat "Piece" "kind") rfl)
    na_Piece_handler := He.noat_ok (c.d.fact 73 (f := .noat "Piece" "handler") rfl)
    na_Piece_frames := He.noat_ok (c.d.fact 74 (f := .noat "Piece" "frames") rfl)
    na_Piece_distance := He.noat_ok (c.d.fact 75 (f := .noat "Piece" "distance") rfl)
    na_Piece_table := He.noat_ok (c.d.fact 76 (f := .noat "Piece" "table") rfl)
    na_Runner_blocks := He.noat_ok (c.d.fact 77 (f := .noat "Runner" "blocks") rfl)
    na_Runner_left := He.noat_ok (c.d.fact 78 (f := .noat "Runner" "left") rfl)
    na_Runner_prints := He.noat_ok (c.d.fact 79 (f := .noat "Runner" "prints") rfl)
    na_Runner_kept := He.noat_ok (c.d.fact 80 (f := .noat "Runner" "kept") rfl)
    na_Runner_end := He.noat_ok (c.d.fact 81 (f := .noat "Runner" "end") rfl)
    na_Runner_pieces := He.noat_ok (c.d.fact 82 (f := .noat "Runner" "pieces") rfl)
    na_Runner_rows := He.noat_ok (c.d.fact 83 (f := .noat "Runner" "rows") rfl)
    na_Runner_at := He.noat_ok (c.d.fact 84 (f := .noat "Runner" "at") rfl)
    na_Runner_bindings := He.noat_ok (c.d.fact 85 (f := .noat "Runner" "bindings") rfl)
    na_Runner_operands := He.noat_ok (c.d.fact 86 (f := .noat "Runner" "operands") rfl)
    na_Code_blocks := He.noat_ok (c.d.fact 87 (f := .noat "Code" "blocks") rfl)
    na_Compiler_blocks := He.noat_ok (c.d.fact 88 (f := .noat "Compiler" "blocks") rfl)
    na_Compiler_queue := He.noat_ok (c.d.fact 89 (f := .noat "Compiler" "queue") rfl)
    n_len := He.free_ok X G (c.d.fact 32 (f := .free "len") rfl)
    n_list := He.free_ok X G (c.d.fact 33 (f := .free "list") rfl)
    n_tuple := He.free_ok X G (c.d.fact 34 (f := .free "tuple") rfl)
    n_int := He.free_ok X G (c.d.fact 35 (f := .free "int") rfl)
    n_abs := He.free_ok X G (c.d.fact 36 (f := .free "abs") rfl)
    n_max := He.free_ok X G (c.d.fact 37 (f := .free "max") rfl)
    n_range := He.free_ok X G (c.d.fact 38 (f := .free "range") rfl)
    n_zip := He.free_ok X G (c.d.fact 39 (f := .free "zip") rfl)
    n_reversed := He.free_ok X G (c.d.fact 40 (f := .free "reversed") rfl)
    n_super := He.free_ok X G (c.d.fact 41 (f := .free "super") rfl)
    n_Exception := He.free_ok X G (c.d.fact 42 (f := .free "Exception") rfl)
    g_HALF := (He.int_ok X G (c.d.fact 43 (f := .int "HALF" 2147483648) rfl)).elim fun t e => ⟨_, e, t, rfl⟩
    g_BOTTOM := (He.int_ok X G (c.d.fact 44 (f := .int "BOTTOM" 0) rfl)).elim fun t e => ⟨_, e, t, rfl⟩
    g_HANDLER := (He.int_ok X G (c.d.fact 45 (f := .int "HANDLER" 1) rfl)).elim fun t e => ⟨_, e, t, rfl⟩
    g_PLACE := (He.int_ok X G (c.d.fact 46 (f := .int "PLACE" 2) rfl)).elim fun t e => ⟨_, e, t, rfl⟩
    g_LEAVES_trees := ⟨_, He.glo_ok X G (c.d.fact 47 (f := .glo "LEAVES_trees") rfl), rfl⟩
    g_UNIT_runner := ⟨_, He.glo_ok X G (c.d.fact 48 (f := .glo "UNIT_runner") rfl), rfl⟩
    g_LEAVES_code := ⟨_, He.glo_ok X G (c.d.fact 49 (f := .glo "LEAVES_code") rfl), rfl⟩
    lt := fun H => He.tupB_ok x1 H
    kd := c.tab 0 rfl
    kv := fun x v hx => by
      have key : ∀ q ∈ ([("num", .str "int"), ("flag", .str "flag"), ("unit", .str "unit")] : List (Str × He.Dv)), ∃ u, PySem.W.nsIn K (He.ga K "LEAVES_code") q.1 = some (some u) ∧ RelV (q.2.v K) u := fun q hq => He.valsB_ok x2 hq
      simp only [List.mem_cons, Prod.mk.injEq, List.not_mem_nil, or_false] at hx
      rcases hx with ⟨rfl, rfl⟩ | ⟨rfl, rfl⟩ | ⟨rfl, rfl⟩
      · exact key ("num", .str "int") (by simp)
      · exact key ("flag", .str "flag") (by simp)
      · exact key ("unit", .str "unit") (by simp)
    kn := fun x hx => of_decide_eq_true (List.all_eq_true.mp x3 x hx) }
theorem sx_of {P : Program} {K : PySem.W.Frag} {h : Heap} {mg : Str → Option Value} (X : K.In h) (G : h.Ns mainGlobals mg) (cx : exB K = true) (SP : StopP P) : SX P K mg := by
  obtain ⟨x1, cx⟩ := Bool.and_eq_true_iff.mp cx
  obtain ⟨x2, cx⟩ := Bool.and_eq_true_iff.mp cx
  obtain ⟨x3, cx⟩ := Bool.and_eq_true_iff.mp cx
  obtain ⟨x4, x5⟩ := Bool.and_eq_true_iff.mp cx
  exact ⟨stopB_ok x4, SP, PySem.W.mg_of X G (of_decide_eq_true x5)⟩
end AF

namespace AF
open PySem PySem.Spec PyProof.Rows L2
theorem facts {P : Program} {w : World} {K : PySem.W.Frag} {h : Heap} {mg : Str → Option Value} {f : Addr} (SP : StopP P) (X : K.In h) (G : h.Ns mainGlobals mg) (hfa : mg ("law" : Str) = some (.ref f)) (c : He.SaysT fa fn ts w K) (cx : exB K = true) :
    ∃ fd : FuncData, (∀ (s : Shared) (v : Value), BindsTo s fd ⟨[v], []⟩ [("_law_script", v)]) ∧ ∀ base : Heap, K.In base → base.Ns mainGlobals mg → FnOk P w K mg base CX0 54 f fd ["_law_script"] (spLaw K) := by
  have T := fx_of X G c cx
  have S : SX P K mg := sx_of X G cx SP
  have e := hfa.symm.trans T.law.m
  cases e
  obtain ⟨fd, F⟩ := c.d.def_ 61 (d := ⟨("law", none), "law", "law", defArgs s_law, defBody s_law, defScope s_law, [], []⟩) rfl
  have b := FunD.bindsA (ps := ["_law_script"]) F fun _ _ _ _ _ _ us hl => match us, hl with | [_], _ => rfl
  have ef : fdOf K ("law", none) = fd := fd_eq (p := ("law", none)) F
  refine ⟨fd, fun s v => b s [v] rfl, fun base _ _ => ?_⟩
  rw [← ef]
  exact ok_law T S
theorem stopP : StopP (PySem.Challenge.rw_askedfor_k44_whole_early_ends).prog := ⟨by kernel_rfl, by kernel_rfl⟩
end AF
open PySem PySem.W PySem.Calls PyProof.Rows
theorem PySem.Challenge.cw_askedfor_k44_whole_early_ends_holds : PySem.Challenge.rw_askedfor_k44_whole_early_ends.Holds := by
  w_on; o_law
  refine HandSHeadRun.head_any (r := OpenLaw.row PySem.Challenge.rw_askedfor_k44_whole_early_ends) (q := view (OpenLaw.row PySem.Challenge.rw_askedfor_k44_whole_early_ends).prog [50]) (H := AF.hookU) (ob := AF.obU) (M := 5000) (loose := AF.namesU) (d := HandSHeadRun.topDef (OpenLaw.row PySem.Challenge.rw_askedfor_k44_whole_early_ends).prog 50) (kwd := []) AF.obU_eq
    (by kernel_rfl) (fun s => by kernel_rfl) AF.runU (by kernel_rfl) (by kernel_rfl) (by kernel_rfl) (by rfl) (by first | assumption | decide +kernel) (by decide +kernel) ⟨rfl, rfl, rfl, rfl, rfl, by decide +kernel⟩ ?hw ?hc
  case hw => w_witness2
  case hc =>
    refine L2.walk_ofE (l := PySem.Challenge.rw_askedfor_k44_whole_early_ends) (n := 63) (k := 54) (x := "_law_script") (CX := L2.CX0) rfl (by decide) (by kernel_rfl) ⟨rfl, by decide, by decide⟩ ?F (fun _ _ _ _ z => z)
    intro w mg fa h Y G hmg0
    obtain ⟨K, KX, c, cx⟩ := Y
    have hmg : mg ("law" : PySem.Str) = some (.ref fa) := by
      have e : (HandSHeadRun.topDef (OpenLaw.row PySem.Challenge.rw_askedfor_k44_whole_early_ends).prog 50).name = ("law" : PySem.Str) := by kernel_rfl
      rw [← e]
      exact hmg0
    obtain ⟨fd, hb, hF⟩ := AF.facts (P := (PySem.Challenge.rw_askedfor_k44_whole_early_ends).prog) (w := w) AF.stopP KX G hmg c cx
    exact ⟨K, fd, AF.spLaw K, KX, hb, fun H a ns hl _ hS => ⟨a, ns, rfl, hS, fun _ => rfl⟩, hF⟩
