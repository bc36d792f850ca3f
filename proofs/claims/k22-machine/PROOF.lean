import PyProof.Rows.All
import Wide.All
import OpenK.AllK
import Wide.FinOn
import HandS.ForMost
import HandS.Exc
import HandS.Defaults
import HandS.MakeKwOnly
import HandS.HeadHook4
import HandS.EndTab
import HandS.HeadWalk
import PySem.Challenge.RW_growblind_k22_whole_a_machine_and_its_wa
import HandS.IsInst
import HandS.ForExc
import KE.KTryMore
import HandS.ExcIs
import HandS.ExcField
import KE.KExcIs
import HandS.ExcInit
import KE.KExcInit
import KE.KStateDown
import HandS.Head0
import HandS.Head1
import HandS.Head2
import HandS.More
import KE.GoesEnumKw
import HandS.DictComp
import HandS.Rev
import HandS.MakeKw
import HandS.HotCalls
import HandS.Finally
import HandS.Nested
import HandS.ExcCtx
import HandS.ExcBuiltin
import HandS.Conv
import PyProof.ReprRoads
import PyProof.ReprLen
import PyProof.FitsInt
import HandS.SetFor
import HandS.RaiseMore
import HandS.ExcOwn
import HandS.EndBits
set_option Elab.async false
set_option linter.all false
set_option maxRecDepth 100000
set_option maxHeartbeats 4000000
/-! GTxt: the text by places, printed by gen_txt.py. -/
namespace GB
open PySem L2
abbrev Frg := PySem.W.Frag
def top (i : Nat) : Stmt := PySem.Challenge.pw_growblind_k22_whole_a_machine_and_its_wa.main.body.getD i (.Pass ⟨0, 0, 0, 0⟩)
abbrev s_is_integer : Stmt := top 14
abbrev N_is_integer : List Str := ["thing"]
abbrev P_is_integer : List Str := ["thing"]
theorem sc_is_integer : FnScope N_is_integer P_is_integer (defScope s_is_integer) := ⟨rfl, rfl, rfl, by decide +kernel, rfl, by decide +kernel, by decide +kernel⟩
def d_is_integer : He.DefD := ⟨("is_integer", none), "is_integer", "is_integer", defArgs s_is_integer, defBody s_is_integer, defScope s_is_integer, [], []⟩
/-- the def stands in the written part -/
def F_is_integer (K : Frg) : Prop := ∃ fd, FunD K d_is_integer.name d_is_integer.qual d_is_integer.params d_is_integer.body d_is_integer.scope [] [] (He.fAd K d_is_integer.at_) fd
abbrev s_is_between : Stmt := top 15
abbrev N_is_between : List Str := ["thing", "least", "most"]
abbrev P_is_between : List Str := ["thing", "least", "most"]
theorem sc_is_between : FnScope N_is_between P_is_between (defScope s_is_between) := ⟨rfl, rfl, rfl, by decide +kernel, rfl, by decide +kernel, by decide +kernel⟩
def d_is_between : He.DefD := ⟨("is_between", none), "is_between", "is_between", defArgs s_is_between, defBody s_is_between, defScope s_is_between, [], []⟩
/-- the def stands in the written part -/
def F_is_between (K : Frg) : Prop := ∃ fd, FunD K d_is_between.name d_is_between.qual d_is_between.params d_is_between.body d_is_between.scope [] [] (He.fAd K d_is_between.at_) fd
abbrev s_is_value : Stmt := top 22
abbrev N_is_value : List Str := ["thing"]
abbrev P_is_value : List Str := ["thing"]
theorem sc_is_value : FnScope N_is_value P_is_value (defScope s_is_value) := ⟨rfl, rfl, rfl, by decide +kernel, rfl, by decide +kernel, by decide +kernel⟩
def d_is_value : He.DefD := ⟨("is_value", none), "is_value", "is_value", defArgs s_is_value, defBody s_is_value, defScope s_is_value, [], []⟩
/-- the def stands in the written part -/
def F_is_value (K : Frg) : Prop := ∃ fd, FunD K d_is_value.name d_is_value.qual d_is_value.params d_is_value.body d_is_value.scope [] [] (He.fAd K d_is_value.at_) fd
abbrev s_are_values : Stmt := top 23
abbrev N_are_values : List Str := ["thing", "one"]
abbrev P_are_values : List Str := ["thing"]
theorem sc_are_values : FnScope N_are_values P_are_values (defScope s_are_values) := ⟨rfl, rfl, rfl, by decide +kernel, rfl, by decide +kernel, by decide +kernel⟩
def d_are_values : He.DefD := ⟨("are_values", none), "are_values", "are_values", defArgs s_are_values, defBody s_are_values, defScope s_are_values, [], []⟩
/-- the def stands in the written part -/
def F_are_values (K : Frg) : Prop := ∃ fd, FunD K d_are_values.name d_are_values.qual d_are_values.params d_are_values.body d_are_values.scope [] [] (He.fAd K d_are_values.at_) fd
abbrev s_is_cell : Stmt := top 24
abbrev N_is_cell : List Str := ["spans", "view", "index"]
abbrev P_is_cell : List Str := ["spans", "view", "index"]
theorem sc_is_cell : FnScope N_is_cell P_is_cell (defScope s_is_cell) := ⟨rfl, rfl, rfl, by decide +kernel, rfl, by decide +kernel, by decide +kernel⟩
def d_is_cell : He.DefD := ⟨("is_cell", none), "is_cell", "is_cell", defArgs s_is_cell, defBody s_is_cell, defScope s_is_cell, [], []⟩
/-- the def stands in the written part -/
def F_is_cell (K : Frg) : Prop := ∃ fd, FunD K d_is_cell.name d_is_cell.qual d_is_cell.params d_is_cell.body d_is_cell.scope [] [] (He.fAd K d_is_cell.at_) fd
abbrev s_is_statement : Stmt := top 25
abbrev N_is_statement : List Str := ["thing", "spans", "word"]
abbrev P_is_statement : List Str := ["thing", "spans"]
theorem sc_is_statement : FnScope N_is_statement P_is_statement (defScope s_is_statement) := ⟨rfl, rfl, rfl, by decide +kernel, rfl, by decide +kernel, by decide +kernel⟩
def d_is_statement : He.DefD := ⟨("is_statement", none), "is_statement", "is_statement", defArgs s_is_statement, defBody s_is_statement, defScope s_is_statement, [], []⟩
/-- the def stands in the written part -/
def F_is_statement (K : Frg) : Prop := ∃ fd, FunD K d_is_statement.name d_is_statement.qual d_is_statement.params d_is_statement.body d_is_statement.scope [] [] (He.fAd K d_is_statement.at_) fd
abbrev s_span_of : Stmt := top 26
abbrev N_span_of : List Str := ["statement", "spans", "word", "start", "length"]
abbrev P_span_of : List Str := ["statement", "spans"]
theorem sc_span_of : FnScope N_span_of P_span_of (defScope s_span_of) := ⟨rfl, rfl, rfl, by decide +kernel, rfl, by decide +kernel, by decide +kernel⟩
def d_span_of : He.DefD := ⟨("span_of", none), "span_of", "span_of", defArgs s_span_of, defBody s_span_of, defScope s_span_of, [], []⟩
/-- the def stands in the written part -/
def F_span_of (K : Frg) : Prop := ∃ fd, FunD K d_span_of.name d_span_of.qual d_span_of.params d_span_of.body d_span_of.scope [] [] (He.fAd K d_span_of.at_) fd
abbrev s_first_invalid : Stmt := top 27
abbrev N_first_invalid : List Str := ["statements", "spans", "number", "statement", "span"]
abbrev P_first_invalid : List Str := ["statements"]
theorem sc_first_invalid : FnScope N_first_invalid P_first_invalid (defScope s_first_invalid) := ⟨rfl, rfl, rfl, by decide +kernel, rfl, by decide +kernel, by decide +kernel⟩
def d_first_invalid : He.DefD := ⟨("first_invalid", none), "first_invalid", "first_invalid", defArgs s_first_invalid, defBody s_first_invalid, defScope s_first_invalid, [], []⟩
/-- the def stands in the written part -/
def F_first_invalid (K : Frg) : Prop := ∃ fd, FunD K d_first_invalid.name d_first_invalid.qual d_first_invalid.params d_first_invalid.body d_first_invalid.scope [] [] (He.fAd K d_first_invalid.at_) fd
abbrev s_need_program : Stmt := top 28
abbrev N_need_program : List Str := ["thing", "number"]
abbrev P_need_program : List Str := ["thing"]
theorem sc_need_program : FnScope N_need_program P_need_program (defScope s_need_program) := ⟨rfl, rfl, rfl, by decide +kernel, rfl, by decide +kernel, by decide +kernel⟩
def d_need_program : He.DefD := ⟨("need_program", none), "need_program", "need_program", defArgs s_need_program, defBody s_need_program, defScope s_need_program, [], []⟩
/-- the def stands in the written part -/
def F_need_program (K : Frg) : Prop := ∃ fd, FunD K d_need_program.name d_need_program.qual d_need_program.params d_need_program.body d_need_program.scope [] [] (He.fAd K d_need_program.at_) fd
abbrev s_are_entries : Stmt := top 32
abbrev N_are_entries : List Str := ["thing", "least", "entry"]
abbrev P_are_entries : List Str := ["thing"]
theorem sc_are_entries : FnScope N_are_entries P_are_entries (defScope s_are_entries) := ⟨rfl, rfl, rfl, by decide +kernel, rfl, by decide +kernel, by decide +kernel⟩
def d_are_entries : He.DefD := ⟨("are_entries", none), "are_entries", "are_entries", defArgs s_are_entries, defBody s_are_entries, defScope s_are_entries, [], []⟩
/-- the def stands in the written part -/
def F_are_entries (K : Frg) : Prop := ∃ fd, FunD K d_are_entries.name d_are_entries.qual d_are_entries.params d_are_entries.body d_are_entries.scope [] [] (He.fAd K d_are_entries.at_) fd
abbrev s_is_factor : Stmt := top 33
abbrev N_is_factor : List Str := ["top", "bottom"]
abbrev P_is_factor : List Str := ["top", "bottom"]
theorem sc_is_factor : FnScope N_is_factor P_is_factor (defScope s_is_factor) := ⟨rfl, rfl, rfl, by decide +kernel, rfl, by decide +kernel, by decide +kernel⟩
def d_is_factor : He.DefD := ⟨("is_factor", none), "is_factor", "is_factor", defArgs s_is_factor, defBody s_is_factor, defScope s_is_factor, [], []⟩
/-- the def stands in the written part -/
def F_is_factor (K : Frg) : Prop := ∃ fd, FunD K d_is_factor.name d_is_factor.qual d_is_factor.params d_is_factor.body d_is_factor.scope [] [] (He.fAd K d_is_factor.at_) fd
abbrev s_is_policy : Stmt := top 34
abbrev N_is_policy : List Str := ["thing"]
abbrev P_is_policy : List Str := ["thing"]
theorem sc_is_policy : FnScope N_is_policy P_is_policy (defScope s_is_policy) := ⟨rfl, rfl, rfl, by decide +kernel, rfl, by decide +kernel, by decide +kernel⟩
def d_is_policy : He.DefD := ⟨("is_policy", none), "is_policy", "is_policy", defArgs s_is_policy, defBody s_is_policy, defScope s_is_policy, [], []⟩
/-- the def stands in the written part -/
def F_is_policy (K : Frg) : Prop := ∃ fd, FunD K d_is_policy.name d_is_policy.qual d_is_policy.params d_is_policy.body d_is_policy.scope [] [] (He.fAd K d_is_policy.at_) fd
abbrev s_need_policy : Stmt := top 35
abbrev N_need_policy : List Str := ["thing"]
abbrev P_need_policy : List Str := ["thing"]
theorem sc_need_policy : FnScope N_need_policy P_need_policy (defScope s_need_policy) := ⟨rfl, rfl, rfl, by decide +kernel, rfl, by decide +kernel, by decide +kernel⟩
def d_need_policy : He.DefD := ⟨("need_policy", none), "need_policy", "need_policy", defArgs s_need_policy, defBody s_need_policy, defScope s_need_policy, [], []⟩
/-- the def stands in the written part -/
def F_need_policy (K : Frg) : Prop := ∃ fd, FunD K d_need_policy.name d_need_policy.qual d_need_policy.params d_need_policy.body d_need_policy.scope [] [] (He.fAd K d_need_policy.at_) fd
abbrev s_chosen : Stmt := top 36
abbrev N_chosen : List Str := ["policy", "statement", "need", "number", "capacity"]
abbrev P_chosen : List Str := ["policy", "statement", "need"]
theorem sc_chosen : FnScope N_chosen P_chosen (defScope s_chosen) := ⟨rfl, rfl, rfl, by decide +kernel, rfl, by decide +kernel, by decide +kernel⟩
def d_chosen : He.DefD := ⟨("chosen", none), "chosen", "chosen", defArgs s_chosen, defBody s_chosen, defScope s_chosen, [], []⟩
/-- the def stands in the written part -/
def F_chosen (K : Frg) : Prop := ∃ fd, FunD K d_chosen.name d_chosen.qual d_chosen.params d_chosen.body d_chosen.scope [] [] (He.fAd K d_chosen.at_) fd
abbrev s_M_init : Stmt := inClass (top 38) 0
abbrev N_M_init : List Str := ["self", "program", "policy"]
abbrev P_M_init : List Str := ["self", "program", "policy"]
theorem sc_M_init : FnScope N_M_init P_M_init (defScope s_M_init) := ⟨rfl, rfl, rfl, by decide +kernel, rfl, by decide +kernel, by decide +kernel⟩
def d_M_init : He.DefD := ⟨("Machine", some "__init__"), "__init__", "Machine.__init__", defArgs s_M_init, defBody s_M_init, defScope s_M_init, [], []⟩
/-- the def stands in the written part -/
def F_M_init (K : Frg) : Prop := ∃ fd, FunD K d_M_init.name d_M_init.qual d_M_init.params d_M_init.body d_M_init.scope [] [] (He.fAd K d_M_init.at_) fd
abbrev s_M_need_rest : Stmt := inClass (top 38) 4
abbrev N_M_need_rest : List Str := ["self"]
abbrev P_M_need_rest : List Str := ["self"]
theorem sc_M_need_rest : FnScope N_M_need_rest P_M_need_rest (defScope s_M_need_rest) := ⟨rfl, rfl, rfl, by decide +kernel, rfl, by decide +kernel, by decide +kernel⟩
def d_M_need_rest : He.DefD := ⟨("Machine", some "need_rest"), "need_rest", "Machine.need_rest", defArgs s_M_need_rest, defBody s_M_need_rest, defScope s_M_need_rest, [], []⟩
/-- the def stands in the written part -/
def F_M_need_rest (K : Frg) : Prop := ∃ fd, FunD K d_M_need_rest.name d_M_need_rest.qual d_M_need_rest.params d_M_need_rest.body d_M_need_rest.scope [] [] (He.fAd K d_M_need_rest.at_) fd
abbrev s_M_found_at : Stmt := inClass (top 38) 5
abbrev N_M_found_at : List Str := ["self", "block", "place"]
abbrev P_M_found_at : List Str := ["self", "block", "place"]
theorem sc_M_found_at : FnScope N_M_found_at P_M_found_at (defScope s_M_found_at) := ⟨rfl, rfl, rfl, by decide +kernel, rfl, by decide +kernel, by decide +kernel⟩
def d_M_found_at : He.DefD := ⟨("Machine", some "found_at"), "found_at", "Machine.found_at", defArgs s_M_found_at, defBody s_M_found_at, defScope s_M_found_at, [], []⟩
/-- the def stands in the written part -/
def F_M_found_at (K : Frg) : Prop := ∃ fd, FunD K d_M_found_at.name d_M_found_at.qual d_M_found_at.params d_M_found_at.body d_M_found_at.scope [] [] (He.fAd K d_M_found_at.at_) fd
abbrev s_M_set_cell : Stmt := inClass (top 38) 6
abbrev N_M_set_cell : List Str := ["self", "block", "place", "content"]
abbrev P_M_set_cell : List Str := ["self", "block", "place", "content"]
theorem sc_M_set_cell : FnScope N_M_set_cell P_M_set_cell (defScope s_M_set_cell) := ⟨rfl, rfl, rfl, by decide +kernel, rfl, by decide +kernel, by decide +kernel⟩
def d_M_set_cell : He.DefD := ⟨("Machine", some "set_cell"), "set_cell", "Machine.set_cell", defArgs s_M_set_cell, defBody s_M_set_cell, defScope s_M_set_cell, [], []⟩
/-- the def stands in the written part -/
def F_M_set_cell (K : Frg) : Prop := ∃ fd, FunD K d_M_set_cell.name d_M_set_cell.qual d_M_set_cell.params d_M_set_cell.body d_M_set_cell.scope [] [] (He.fAd K d_M_set_cell.at_) fd
abbrev s_M_add_block : Stmt := inClass (top 38) 7
abbrev N_M_add_block : List Str := ["self", "number", "root", "cells"]
abbrev P_M_add_block : List Str := ["self", "number", "root", "cells"]
theorem sc_M_add_block : FnScope N_M_add_block P_M_add_block (defScope s_M_add_block) := ⟨rfl, rfl, rfl, by decide +kernel, rfl, by decide +kernel, by decide +kernel⟩
def d_M_add_block : He.DefD := ⟨("Machine", some "add_block"), "add_block", "Machine.add_block", defArgs s_M_add_block, defBody s_M_add_block, defScope s_M_add_block, [], []⟩
/-- the def stands in the written part -/
def F_M_add_block (K : Frg) : Prop := ∃ fd, FunD K d_M_add_block.name d_M_add_block.qual d_M_add_block.params d_M_add_block.body d_M_add_block.scope [] [] (He.fAd K d_M_add_block.at_) fd
abbrev s_M_extend_view : Stmt := inClass (top 38) 8
abbrev N_M_extend_view : List Str := ["self", "number", "statement", "start", "length", "capacity", "block", "end", "need", "kept", "place", "value", "content"]
abbrev P_M_extend_view : List Str := ["self", "number", "statement"]
theorem sc_M_extend_view : FnScope N_M_extend_view P_M_extend_view (defScope s_M_extend_view) := ⟨rfl, rfl, rfl, by decide +kernel, rfl, by decide +kernel, by decide +kernel⟩
def d_M_extend_view : He.DefD := ⟨("Machine", some "extend_view"), "extend_view", "Machine.extend_view", defArgs s_M_extend_view, defBody s_M_extend_view, defScope s_M_extend_view, [], []⟩
/-- the def stands in the written part -/
def F_M_extend_view (K : Frg) : Prop := ∃ fd, FunD K d_M_extend_view.name d_M_extend_view.qual d_M_extend_view.params d_M_extend_view.body d_M_extend_view.scope [] [] (He.fAd K d_M_extend_view.at_) fd
abbrev s_M_add_view : Stmt := inClass (top 38) 9
abbrev N_M_add_view : List Str := ["self", "number", "statement", "start", "length", "capacity", "block", "low", "high"]
abbrev P_M_add_view : List Str := ["self", "number", "statement"]
theorem sc_M_add_view : FnScope N_M_add_view P_M_add_view (defScope s_M_add_view) := ⟨rfl, rfl, rfl, by decide +kernel, rfl, by decide +kernel, by decide +kernel⟩
def d_M_add_view : He.DefD := ⟨("Machine", some "add_view"), "add_view", "Machine.add_view", defArgs s_M_add_view, defBody s_M_add_view, defScope s_M_add_view, [], []⟩
/-- the def stands in the written part -/
def F_M_add_view (K : Frg) : Prop := ∃ fd, FunD K d_M_add_view.name d_M_add_view.qual d_M_add_view.params d_M_add_view.body d_M_add_view.scope [] [] (He.fAd K d_M_add_view.at_) fd
abbrev s_M_read_cell : Stmt := inClass (top 38) 10
abbrev N_M_read_cell : List Str := ["self", "view", "index", "start", "length", "capacity", "block"]
abbrev P_M_read_cell : List Str := ["self", "view", "index"]
theorem sc_M_read_cell : FnScope N_M_read_cell P_M_read_cell (defScope s_M_read_cell) := ⟨rfl, rfl, rfl, by decide +kernel, rfl, by decide +kernel, by decide +kernel⟩
def d_M_read_cell : He.DefD := ⟨("Machine", some "read_cell"), "read_cell", "Machine.read_cell", defArgs s_M_read_cell, defBody s_M_read_cell, defScope s_M_read_cell, [], []⟩
/-- the def stands in the written part -/
def F_M_read_cell (K : Frg) : Prop := ∃ fd, FunD K d_M_read_cell.name d_M_read_cell.qual d_M_read_cell.params d_M_read_cell.body d_M_read_cell.scope [] [] (He.fAd K d_M_read_cell.at_) fd
abbrev s_M_write_cell : Stmt := inClass (top 38) 11
abbrev N_M_write_cell : List Str := ["self", "number", "statement", "value", "start", "length", "capacity", "block"]
abbrev P_M_write_cell : List Str := ["self", "number", "statement", "value"]
theorem sc_M_write_cell : FnScope N_M_write_cell P_M_write_cell (defScope s_M_write_cell) := ⟨rfl, rfl, rfl, by decide +kernel, rfl, by decide +kernel, by decide +kernel⟩
def d_M_write_cell : He.DefD := ⟨("Machine", some "write_cell"), "write_cell", "Machine.write_cell", defArgs s_M_write_cell, defBody s_M_write_cell, defScope s_M_write_cell, [], []⟩
/-- the def stands in the written part -/
def F_M_write_cell (K : Frg) : Prop := ∃ fd, FunD K d_M_write_cell.name d_M_write_cell.qual d_M_write_cell.params d_M_write_cell.body d_M_write_cell.scope [] [] (He.fAd K d_M_write_cell.at_) fd
abbrev s_M_advance : Stmt := inClass (top 38) 12
abbrev N_M_advance : List Str := ["self", "number", "statement", "value"]
abbrev P_M_advance : List Str := ["self"]
theorem sc_M_advance : FnScope N_M_advance P_M_advance (defScope s_M_advance) := ⟨rfl, rfl, rfl, by decide +kernel, rfl, by decide +kernel, by decide +kernel⟩
def d_M_advance : He.DefD := ⟨("Machine", some "advance"), "advance", "Machine.advance", defArgs s_M_advance, defBody s_M_advance, defScope s_M_advance, [], []⟩
/-- the def stands in the written part -/
def F_M_advance (K : Frg) : Prop := ∃ fd, FunD K d_M_advance.name d_M_advance.qual d_M_advance.params d_M_advance.body d_M_advance.scope [] [] (He.fAd K d_M_advance.at_) fd
abbrev s_M_step : Stmt := inClass (top 38) 13
abbrev N_M_step : List Str := ["self"]
abbrev P_M_step : List Str := ["self"]
theorem sc_M_step : FnScope N_M_step P_M_step (defScope s_M_step) := ⟨rfl, rfl, rfl, by decide +kernel, rfl, by decide +kernel, by decide +kernel⟩
def d_M_step : He.DefD := ⟨("Machine", some "step"), "step", "Machine.step", defArgs s_M_step, defBody s_M_step, defScope s_M_step, [], []⟩
/-- the def stands in the written part -/
def F_M_step (K : Frg) : Prop := ∃ fd, FunD K d_M_step.name d_M_step.qual d_M_step.params d_M_step.body d_M_step.scope [] [] (He.fAd K d_M_step.at_) fd
abbrev s_M_back : Stmt := inClass (top 38) 14
abbrev N_M_back : List Str := ["self", "rows", "blocks", "seen", "made", "changes", "block", "place", "old"]
abbrev P_M_back : List Str := ["self"]
theorem sc_M_back : FnScope N_M_back P_M_back (defScope s_M_back) := ⟨rfl, rfl, rfl, by decide +kernel, rfl, by decide +kernel, by decide +kernel⟩
def d_M_back : He.DefD := ⟨("Machine", some "back"), "back", "Machine.back", defArgs s_M_back, defBody s_M_back, defScope s_M_back, [], []⟩
/-- the def stands in the written part -/
def F_M_back (K : Frg) : Prop := ∃ fd, FunD K d_M_back.name d_M_back.qual d_M_back.params d_M_back.body d_M_back.scope [] [] (He.fAd K d_M_back.at_) fd
abbrev s_M_run : Stmt := inClass (top 38) 15
abbrev N_M_run : List Str := ["self", "watch", "first", "rows", "seen", "made", "records", "cells", "makers", "roots", "through", "many", "origin", "value", "one"]
abbrev P_M_run : List Str := ["self", "watch"]
theorem sc_M_run : FnScope N_M_run P_M_run (defScope s_M_run) := ⟨rfl, rfl, rfl, by decide +kernel, rfl, by decide +kernel, by decide +kernel⟩
def d_M_run : He.DefD := ⟨("Machine", some "run"), "run", "Machine.run", defArgs s_M_run, defBody s_M_run, defScope s_M_run, [], []⟩
/-- the def stands in the written part -/
def F_M_run (K : Frg) : Prop := ∃ fd, FunD K d_M_run.name d_M_run.qual d_M_run.params d_M_run.body d_M_run.scope [] [] (He.fAd K d_M_run.at_) fd
abbrev s_M_position : Stmt := inClass (top 38) 16
abbrev N_M_position : List Str := ["self"]
abbrev P_M_position : List Str := ["self"]
theorem sc_M_position : FnScope N_M_position P_M_position (defScope s_M_position) := ⟨rfl, rfl, rfl, by decide +kernel, rfl, by decide +kernel, by decide +kernel⟩
def d_M_position : He.DefD := ⟨("Machine", some "position"), "position", "Machine.position", defArgs s_M_position, defBody s_M_position, defScope s_M_position, [], []⟩
/-- the def stands in the written part -/
def F_M_position (K : Frg) : Prop := ∃ fd, FunD K d_M_position.name d_M_position.qual d_M_position.params d_M_position.body d_M_position.scope [] [] (He.fAd K d_M_position.at_) fd
abbrev s_M_row_of : Stmt := inClass (top 38) 17
abbrev N_M_row_of : List Str := ["self", "view"]
abbrev P_M_row_of : List Str := ["self", "view"]
theorem sc_M_row_of : FnScope N_M_row_of P_M_row_of (defScope s_M_row_of) := ⟨rfl, rfl, rfl, by decide +kernel, rfl, by decide +kernel, by decide +kernel⟩
def d_M_row_of : He.DefD := ⟨("Machine", some "row_of"), "row_of", "Machine.row_of", defArgs s_M_row_of, defBody s_M_row_of, defScope s_M_row_of, [], []⟩
/-- the def stands in the written part -/
def F_M_row_of (K : Frg) : Prop := ∃ fd, FunD K d_M_row_of.name d_M_row_of.qual d_M_row_of.params d_M_row_of.body d_M_row_of.scope [] [] (He.fAd K d_M_row_of.at_) fd
abbrev s_M_capacity : Stmt := inClass (top 38) 18
abbrev N_M_capacity : List Str := ["self", "view"]
abbrev P_M_capacity : List Str := ["self", "view"]
theorem sc_M_capacity : FnScope N_M_capacity P_M_capacity (defScope s_M_capacity) := ⟨rfl, rfl, rfl, by decide +kernel, rfl, by decide +kernel, by decide +kernel⟩
def d_M_capacity : He.DefD := ⟨("Machine", some "capacity"), "capacity", "Machine.capacity", defArgs s_M_capacity, defBody s_M_capacity, defScope s_M_capacity, [], []⟩
/-- the def stands in the written part -/
def F_M_capacity (K : Frg) : Prop := ∃ fd, FunD K d_M_capacity.name d_M_capacity.qual d_M_capacity.params d_M_capacity.body d_M_capacity.scope [] [] (He.fAd K d_M_capacity.at_) fd
abbrev s_M_block : Stmt := inClass (top 38) 19
abbrev N_M_block : List Str := ["self", "view"]
abbrev P_M_block : List Str := ["self", "view"]
theorem sc_M_block : FnScope N_M_block P_M_block (defScope s_M_block) := ⟨rfl, rfl, rfl, by decide +kernel, rfl, by decide +kernel, by decide +kernel⟩
def d_M_block : He.DefD := ⟨("Machine", some "block"), "block", "Machine.block", defArgs s_M_block, defBody s_M_block, defScope s_M_block, [], []⟩
/-- the def stands in the written part -/
def F_M_block (K : Frg) : Prop := ∃ fd, FunD K d_M_block.name d_M_block.qual d_M_block.params d_M_block.body d_M_block.scope [] [] (He.fAd K d_M_block.at_) fd
abbrev s_M_content : Stmt := inClass (top 38) 20
abbrev N_M_content : List Str := ["self", "view", "index", "start", "length", "capacity", "block"]
abbrev P_M_content : List Str := ["self", "view", "index"]
theorem sc_M_content : FnScope N_M_content P_M_content (defScope s_M_content) := ⟨rfl, rfl, rfl, by decide +kernel, rfl, by decide +kernel, by decide +kernel⟩
def d_M_content : He.DefD := ⟨("Machine", some "content"), "content", "Machine.content", defArgs s_M_content, defBody s_M_content, defScope s_M_content, [], []⟩
/-- the def stands in the written part -/
def F_M_content (K : Frg) : Prop := ∃ fd, FunD K d_M_content.name d_M_content.qual d_M_content.params d_M_content.body d_M_content.scope [] [] (He.fAd K d_M_content.at_) fd
abbrev s_M_read_values : Stmt := inClass (top 38) 21
abbrev N_M_read_values : List Str := ["self", "origin", "value"]
abbrev P_M_read_values : List Str := ["self"]
theorem sc_M_read_values : FnScope N_M_read_values P_M_read_values (defScope s_M_read_values) := ⟨rfl, rfl, rfl, by decide +kernel, rfl, by decide +kernel, by decide +kernel⟩
def d_M_read_values : He.DefD := ⟨("Machine", some "read_values"), "read_values", "Machine.read_values", defArgs s_M_read_values, defBody s_M_read_values, defScope s_M_read_values, [], []⟩
/-- the def stands in the written part -/
def F_M_read_values (K : Frg) : Prop := ∃ fd, FunD K d_M_read_values.name d_M_read_values.qual d_M_read_values.params d_M_read_values.body d_M_read_values.scope [] [] (He.fAd K d_M_read_values.at_) fd
abbrev s_M_origins : Stmt := inClass (top 38) 22
abbrev N_M_origins : List Str := ["self", "origin", "value"]
abbrev P_M_origins : List Str := ["self"]
theorem sc_M_origins : FnScope N_M_origins P_M_origins (defScope s_M_origins) := ⟨rfl, rfl, rfl, by decide +kernel, rfl, by decide +kernel, by decide +kernel⟩
def d_M_origins : He.DefD := ⟨("Machine", some "origins"), "origins", "Machine.origins", defArgs s_M_origins, defBody s_M_origins, defScope s_M_origins, [], []⟩
/-- the def stands in the written part -/
def F_M_origins (K : Frg) : Prop := ∃ fd, FunD K d_M_origins.name d_M_origins.qual d_M_origins.params d_M_origins.body d_M_origins.scope [] [] (He.fAd K d_M_origins.at_) fd
abbrev s_M_allocations : Stmt := inClass (top 38) 23
abbrev N_M_allocations : List Str := ["self"]
abbrev P_M_allocations : List Str := ["self"]
theorem sc_M_allocations : FnScope N_M_allocations P_M_allocations (defScope s_M_allocations) := ⟨rfl, rfl, rfl, by decide +kernel, rfl, by decide +kernel, by decide +kernel⟩
def d_M_allocations : He.DefD := ⟨("Machine", some "allocations"), "allocations", "Machine.allocations", defArgs s_M_allocations, defBody s_M_allocations, defScope s_M_allocations, [], []⟩
/-- the def stands in the written part -/
def F_M_allocations (K : Frg) : Prop := ∃ fd, FunD K d_M_allocations.name d_M_allocations.qual d_M_allocations.params d_M_allocations.body d_M_allocations.scope [] [] (He.fAd K d_M_allocations.at_) fd
abbrev s_M_twin : Stmt := inClass (top 38) 26
abbrev N_M_twin : List Str := ["self", "other", "time"]
abbrev P_M_twin : List Str := ["self"]
theorem sc_M_twin : FnScope N_M_twin P_M_twin (defScope s_M_twin) := ⟨rfl, rfl, rfl, by decide +kernel, rfl, by decide +kernel, by decide +kernel⟩
def d_M_twin : He.DefD := ⟨("Machine", some "twin"), "twin", "Machine.twin", defArgs s_M_twin, defBody s_M_twin, defScope s_M_twin, [], []⟩
/-- the def stands in the written part -/
def F_M_twin (K : Frg) : Prop := ∃ fd, FunD K d_M_twin.name d_M_twin.qual d_M_twin.params d_M_twin.body d_M_twin.scope [] [] (He.fAd K d_M_twin.at_) fd
abbrev s_l_pen : Stmt := top 40
abbrev N_l_pen : List Str := ["_law_script"]
abbrev P_l_pen : List Str := ["_law_script"]
theorem sc_l_pen : FnScope N_l_pen P_l_pen (defScope s_l_pen) := ⟨rfl, rfl, rfl, by decide +kernel, rfl, by decide +kernel, by decide +kernel⟩
def d_l_pen : He.DefD := ⟨("_law_pen", none), "_law_pen", "_law_pen", defArgs s_l_pen, defBody s_l_pen, defScope s_l_pen, [], []⟩
/-- the def stands in the written part -/
def F_l_pen (K : Frg) : Prop := ∃ fd, FunD K d_l_pen.name d_l_pen.qual d_l_pen.params d_l_pen.body d_l_pen.scope [] [] (He.fAd K d_l_pen.at_) fd
abbrev s_l_draw : Stmt := top 41
abbrev N_l_draw : List Str := ["_law_pen_here", "_law_size", "_law_digit", "_law_turn", "_law_cell", "_law_great", "_law_mixed"]
abbrev P_l_draw : List Str := ["_law_pen_here", "_law_size"]
theorem sc_l_draw : FnScope N_l_draw P_l_draw (defScope s_l_draw) := ⟨rfl, rfl, rfl, by decide +kernel, rfl, by decide +kernel, by decide +kernel⟩
def d_l_draw : He.DefD := ⟨("_law_draw", none), "_law_draw", "_law_draw", defArgs s_l_draw, defBody s_l_draw, defScope s_l_draw, [], []⟩
/-- the def stands in the written part -/
def F_l_draw (K : Frg) : Prop := ∃ fd, FunD K d_l_draw.name d_l_draw.qual d_l_draw.params d_l_draw.body d_l_draw.scope [] [] (He.fAd K d_l_draw.at_) fd
abbrev s_l_value : Stmt := top 42
abbrev N_l_value : List Str := ["_law_pen_here"]
abbrev P_l_value : List Str := ["_law_pen_here"]
theorem sc_l_value : FnScope N_l_value P_l_value (defScope s_l_value) := ⟨rfl, rfl, rfl, by decide +kernel, rfl, by decide +kernel, by decide +kernel⟩
def d_l_value : He.DefD := ⟨("_law_value", none), "_law_value", "_law_value", defArgs s_l_value, defBody s_l_value, defScope s_l_value, [], []⟩
/-- the def stands in the written part -/
def F_l_value (K : Frg) : Prop := ∃ fd, FunD K d_l_value.name d_l_value.qual d_l_value.params d_l_value.body d_l_value.scope [] [] (He.fAd K d_l_value.at_) fd
abbrev s_l_index : Stmt := top 43
abbrev N_l_index : List Str := ["_law_pen_here", "_law_long"]
abbrev P_l_index : List Str := ["_law_pen_here", "_law_long"]
theorem sc_l_index : FnScope N_l_index P_l_index (defScope s_l_index) := ⟨rfl, rfl, rfl, by decide +kernel, rfl, by decide +kernel, by decide +kernel⟩
def d_l_index : He.DefD := ⟨("_law_index", none), "_law_index", "_law_index", defArgs s_l_index, defBody s_l_index, defScope s_l_index, [], []⟩
/-- the def stands in the written part -/
def F_l_index (K : Frg) : Prop := ∃ fd, FunD K d_l_index.name d_l_index.qual d_l_index.params d_l_index.body d_l_index.scope [] [] (He.fAd K d_l_index.at_) fd
abbrev s_l_slice : Stmt := top 44
abbrev N_l_slice : List Str := ["_law_pen_here", "_law_eye", "_law_long", "_law_high", "_law_low"]
abbrev P_l_slice : List Str := ["_law_pen_here", "_law_eye", "_law_long"]
theorem sc_l_slice : FnScope N_l_slice P_l_slice (defScope s_l_slice) := ⟨rfl, rfl, rfl, by decide +kernel, rfl, by decide +kernel, by decide +kernel⟩
def d_l_slice : He.DefD := ⟨("_law_slice", none), "_law_slice", "_law_slice", defArgs s_l_slice, defBody s_l_slice, defScope s_l_slice, [], []⟩
/-- the def stands in the written part -/
def F_l_slice (K : Frg) : Prop := ∃ fd, FunD K d_l_slice.name d_l_slice.qual d_l_slice.params d_l_slice.body d_l_slice.scope [] [] (He.fAd K d_l_slice.at_) fd
abbrev s_l_deed : Stmt := top 45
abbrev N_l_deed : List Str := ["_law_pen_here", "_law_known_here", "_law_way", "_law_room", "_law_eye", "_law_long", "_law_word", "_law_many", "_law_at_here", "_law_full", "_law_source_so", "_law_k"]
abbrev P_l_deed : List Str := ["_law_pen_here", "_law_known_here"]
theorem sc_l_deed : FnScope N_l_deed P_l_deed (defScope s_l_deed) := ⟨rfl, rfl, rfl, by decide +kernel, rfl, by decide +kernel, by decide +kernel⟩
def d_l_deed : He.DefD := ⟨("_law_deed", none), "_law_deed", "_law_deed", defArgs s_l_deed, defBody s_l_deed, defScope s_l_deed, [], []⟩
/-- the def stands in the written part -/
def F_l_deed (K : Frg) : Prop := ∃ fd, FunD K d_l_deed.name d_l_deed.qual d_l_deed.params d_l_deed.body d_l_deed.scope [] [] (He.fAd K d_l_deed.at_) fd
abbrev s_l_known : Stmt := top 46
abbrev N_l_known : List Str := ["_law_deed_here", "_law_known_here"]
abbrev P_l_known : List Str := ["_law_deed_here", "_law_known_here"]
theorem sc_l_known : FnScope N_l_known P_l_known (defScope s_l_known) := ⟨rfl, rfl, rfl, by decide +kernel, rfl, by decide +kernel, by decide +kernel⟩
def d_l_known : He.DefD := ⟨("_law_known", none), "_law_known", "_law_known", defArgs s_l_known, defBody s_l_known, defScope s_l_known, [], []⟩
/-- the def stands in the written part -/
def F_l_known (K : Frg) : Prop := ∃ fd, FunD K d_l_known.name d_l_known.qual d_l_known.params d_l_known.body d_l_known.scope [] [] (He.fAd K d_l_known.at_) fd
abbrev s_l_draft : Stmt := top 47
abbrev N_l_draft : List Str := ["_law_pen_here", "_law_most", "_law_found", "_law_known_here", "_law_turn", "_law_deed_here"]
abbrev P_l_draft : List Str := ["_law_pen_here", "_law_most"]
theorem sc_l_draft : FnScope N_l_draft P_l_draft (defScope s_l_draft) := ⟨rfl, rfl, rfl, by decide +kernel, rfl, by decide +kernel, by decide +kernel⟩
def d_l_draft : He.DefD := ⟨("_law_draft", none), "_law_draft", "_law_draft", defArgs s_l_draft, defBody s_l_draft, defScope s_l_draft, [], []⟩
/-- the def stands in the written part -/
def F_l_draft (K : Frg) : Prop := ∃ fd, FunD K d_l_draft.name d_l_draft.qual d_l_draft.params d_l_draft.body d_l_draft.scope [] [] (He.fAd K d_l_draft.at_) fd
abbrev s_l_tail : Stmt := top 48
abbrev N_l_tail : List Str := ["_law_pen_here", "_law_most", "_law_found", "_law_known_here", "_law_turn", "_law_deed_here"]
abbrev P_l_tail : List Str := ["_law_pen_here", "_law_most"]
theorem sc_l_tail : FnScope N_l_tail P_l_tail (defScope s_l_tail) := ⟨rfl, rfl, rfl, by decide +kernel, rfl, by decide +kernel, by decide +kernel⟩
def d_l_tail : He.DefD := ⟨("_law_tail", none), "_law_tail", "_law_tail", defArgs s_l_tail, defBody s_l_tail, defScope s_l_tail, [], []⟩
/-- the def stands in the written part -/
def F_l_tail (K : Frg) : Prop := ∃ fd, FunD K d_l_tail.name d_l_tail.qual d_l_tail.params d_l_tail.body d_l_tail.scope [] [] (He.fAd K d_l_tail.at_) fd
abbrev s_l_policy : Stmt := top 49
abbrev N_l_policy : List Str := ["_law_pen_here", "_law_way", "_law_bottom", "_law_least", "_law_found", "_law_last", "_law_turn"]
abbrev P_l_policy : List Str := ["_law_pen_here"]
theorem sc_l_policy : FnScope N_l_policy P_l_policy (defScope s_l_policy) := ⟨rfl, rfl, rfl, by decide +kernel, rfl, by decide +kernel, by decide +kernel⟩
def d_l_policy : He.DefD := ⟨("_law_policy", none), "_law_policy", "_law_policy", defArgs s_l_policy, defBody s_l_policy, defScope s_l_policy, [], []⟩
/-- the def stands in the written part -/
def F_l_policy (K : Frg) : Prop := ∃ fd, FunD K d_l_policy.name d_l_policy.qual d_l_policy.params d_l_policy.body d_l_policy.scope [] [] (He.fAd K d_l_policy.at_) fd
abbrev s_l_chosen : Stmt := top 50
abbrev N_l_chosen : List Str := ["_law_rule", "_law_number", "_law_need_so", "_law_entry"]
abbrev P_l_chosen : List Str := ["_law_rule", "_law_number", "_law_need_so"]
theorem sc_l_chosen : FnScope N_l_chosen P_l_chosen (defScope s_l_chosen) := ⟨rfl, rfl, rfl, by decide +kernel, rfl, by decide +kernel, by decide +kernel⟩
def d_l_chosen : He.DefD := ⟨("_law_chosen", none), "_law_chosen", "_law_chosen", defArgs s_l_chosen, defBody s_l_chosen, defScope s_l_chosen, [], []⟩
/-- the def stands in the written part -/
def F_l_chosen (K : Frg) : Prop := ∃ fd, FunD K d_l_chosen.name d_l_chosen.qual d_l_chosen.params d_l_chosen.body d_l_chosen.scope [] [] (He.fAd K d_l_chosen.at_) fd
abbrev s_l_fresh : Stmt := top 51
abbrev N_l_fresh : List Str := []
abbrev P_l_fresh : List Str := []
theorem sc_l_fresh : FnScope N_l_fresh P_l_fresh (defScope s_l_fresh) := ⟨rfl, rfl, rfl, by decide +kernel, rfl, by decide +kernel, by decide +kernel⟩
def d_l_fresh : He.DefD := ⟨("_law_fresh", none), "_law_fresh", "_law_fresh", defArgs s_l_fresh, defBody s_l_fresh, defScope s_l_fresh, [], []⟩
/-- the def stands in the written part -/
def F_l_fresh (K : Frg) : Prop := ∃ fd, FunD K d_l_fresh.name d_l_fresh.qual d_l_fresh.params d_l_fresh.body d_l_fresh.scope [] [] (He.fAd K d_l_fresh.at_) fd
abbrev s_l_at : Stmt := top 52
abbrev N_l_at : List Str := ["_law_state_here", "_law_block", "_law_place"]
abbrev P_l_at : List Str := ["_law_state_here", "_law_block", "_law_place"]
theorem sc_l_at : FnScope N_l_at P_l_at (defScope s_l_at) := ⟨rfl, rfl, rfl, by decide +kernel, rfl, by decide +kernel, by decide +kernel⟩
def d_l_at : He.DefD := ⟨("_law_at", none), "_law_at", "_law_at", defArgs s_l_at, defBody s_l_at, defScope s_l_at, [], []⟩
/-- the def stands in the written part -/
def F_l_at (K : Frg) : Prop := ∃ fd, FunD K d_l_at.name d_l_at.qual d_l_at.params d_l_at.body d_l_at.scope [] [] (He.fAd K d_l_at.at_) fd
abbrev s_l_append : Stmt := top 53
abbrev N_l_append : List Str := ["_law_draft_here", "_law_rule", "_law_number", "_law_state_here", "_law_deed_here", "_law_start_so", "_law_long", "_law_room", "_law_block", "_law_end", "_law_need_so", "_law_key", "_law_k"]
abbrev P_l_append : List Str := ["_law_draft_here", "_law_rule", "_law_number", "_law_state_here"]
theorem sc_l_append : FnScope N_l_append P_l_append (defScope s_l_append) := ⟨rfl, rfl, rfl, by decide +kernel, rfl, by decide +kernel, by decide +kernel⟩
def d_l_append : He.DefD := ⟨("_law_append", none), "_law_append", "_law_append", defArgs s_l_append, defBody s_l_append, defScope s_l_append, [], []⟩
/-- the def stands in the written part -/
def F_l_append (K : Frg) : Prop := ∃ fd, FunD K d_l_append.name d_l_append.qual d_l_append.params d_l_append.body d_l_append.scope [] [] (He.fAd K d_l_append.at_) fd
abbrev s_l_execute : Stmt := top 54
abbrev N_l_execute : List Str := ["_law_draft_here", "_law_rule", "_law_number", "_law_state_here", "_law_deed_here", "_law_told_here", "_law_start_so", "_law_long", "_law_room", "_law_block", "_law_eye", "_law_at_here", "_law_row"]
abbrev P_l_execute : List Str := ["_law_draft_here", "_law_rule", "_law_number", "_law_state_here"]
theorem sc_l_execute : FnScope N_l_execute P_l_execute (defScope s_l_execute) := ⟨rfl, rfl, rfl, by decide +kernel, rfl, by decide +kernel, by decide +kernel⟩
def d_l_execute : He.DefD := ⟨("_law_execute", none), "_law_execute", "_law_execute", defArgs s_l_execute, defBody s_l_execute, defScope s_l_execute, [], []⟩
/-- the def stands in the written part -/
def F_l_execute (K : Frg) : Prop := ∃ fd, FunD K d_l_execute.name d_l_execute.qual d_l_execute.params d_l_execute.body d_l_execute.scope [] [] (He.fAd K d_l_execute.at_) fd
abbrev s_l_state : Stmt := top 55
abbrev N_l_state : List Str := ["_law_draft_here", "_law_rule", "_law_count", "_law_state_here", "_law_number"]
abbrev P_l_state : List Str := ["_law_draft_here", "_law_rule", "_law_count"]
theorem sc_l_state : FnScope N_l_state P_l_state (defScope s_l_state) := ⟨rfl, rfl, rfl, by decide +kernel, rfl, by decide +kernel, by decide +kernel⟩
def d_l_state : He.DefD := ⟨("_law_state", none), "_law_state", "_law_state", defArgs s_l_state, defBody s_l_state, defScope s_l_state, [], []⟩
/-- the def stands in the written part -/
def F_l_state (K : Frg) : Prop := ∃ fd, FunD K d_l_state.name d_l_state.qual d_l_state.params d_l_state.body d_l_state.scope [] [] (He.fAd K d_l_state.at_) fd
abbrev s_l_shown : Stmt := top 56
abbrev N_l_shown : List Str := ["_law_state_here", "_law_count", "_law_found", "_law_start_so", "_law_long", "_law_room", "_law_block", "_law_some", "_law_one", "_law_k"]
abbrev P_l_shown : List Str := ["_law_state_here", "_law_count"]
theorem sc_l_shown : FnScope N_l_shown P_l_shown (defScope s_l_shown) := ⟨rfl, rfl, rfl, by decide +kernel, rfl, by decide +kernel, by decide +kernel⟩
def d_l_shown : He.DefD := ⟨("_law_shown", none), "_law_shown", "_law_shown", defArgs s_l_shown, defBody s_l_shown, defScope s_l_shown, [], []⟩
/-- the def stands in the written part -/
def F_l_shown (K : Frg) : Prop := ∃ fd, FunD K d_l_shown.name d_l_shown.qual d_l_shown.params d_l_shown.body d_l_shown.scope [] [] (He.fAd K d_l_shown.at_) fd
abbrev s_l_told : Stmt := top 57
abbrev N_l_told : List Str := ["_law_machine_so", "_law_longs", "_law_found", "_law_eye", "_law_some", "_law_contents_so", "_law_k"]
abbrev P_l_told : List Str := ["_law_machine_so", "_law_longs"]
theorem sc_l_told : FnScope N_l_told P_l_told (defScope s_l_told) := ⟨rfl, rfl, rfl, by decide +kernel, rfl, by decide +kernel, by decide +kernel⟩
def d_l_told : He.DefD := ⟨("_law_told", none), "_law_told", "_law_told", defArgs s_l_told, defBody s_l_told, defScope s_l_told, [], []⟩
/-- the def stands in the written part -/
def F_l_told (K : Frg) : Prop := ∃ fd, FunD K d_l_told.name d_l_told.qual d_l_told.params d_l_told.body d_l_told.scope [] [] (He.fAd K d_l_told.at_) fd
abbrev s_l_stands : Stmt := top 58
abbrev N_l_stands : List Str := ["_law_machine_so", "_law_state_here", "_law_count", "_law_eye", "_law_row"]
abbrev P_l_stands : List Str := ["_law_machine_so", "_law_state_here", "_law_count"]
theorem sc_l_stands : FnScope N_l_stands P_l_stands (defScope s_l_stands) := ⟨rfl, rfl, rfl, by decide +kernel, rfl, by decide +kernel, by decide +kernel⟩
def d_l_stands : He.DefD := ⟨("_law_stands", none), "_law_stands", "_law_stands", defArgs s_l_stands, defBody s_l_stands, defScope s_l_stands, [], []⟩
/-- the def stands in the written part -/
def F_l_stands (K : Frg) : Prop := ∃ fd, FunD K d_l_stands.name d_l_stands.qual d_l_stands.params d_l_stands.body d_l_stands.scope [] [] (He.fAd K d_l_stands.at_) fd
abbrev s_l_refused : Stmt := top 59
abbrev N_l_refused : List Str := ["_law_call", "_law_caught", "e", "_law_marks", "_law_at_here", "_law_kinds"]
abbrev P_l_refused : List Str := ["_law_call"]
theorem sc_l_refused : FnScope N_l_refused P_l_refused (defScope s_l_refused) := ⟨rfl, rfl, rfl, by decide +kernel, rfl, by decide +kernel, by decide +kernel⟩
def d_l_refused : He.DefD := ⟨("_law_refused", none), "_law_refused", "_law_refused", defArgs s_l_refused, defBody s_l_refused, defScope s_l_refused, [], []⟩
/-- the def stands in the written part -/
def F_l_refused (K : Frg) : Prop := ∃ fd, FunD K d_l_refused.name d_l_refused.qual d_l_refused.params d_l_refused.body d_l_refused.scope [] [] (He.fAd K d_l_refused.at_) fd
abbrev s_l_ending : Stmt := top 60
abbrev N_l_ending : List Str := ["_law_last", "_law_look"]
abbrev P_l_ending : List Str := ["_law_last"]
theorem sc_l_ending : FnScope N_l_ending P_l_ending (defScope s_l_ending) := ⟨rfl, rfl, rfl, by decide +kernel, rfl, by decide +kernel, by decide +kernel⟩
def d_l_ending : He.DefD := ⟨("_law_ending", none), "_law_ending", "_law_ending", defArgs s_l_ending, defBody s_l_ending, defScope s_l_ending, [], []⟩
/-- the def stands in the written part -/
def F_l_ending (K : Frg) : Prop := ∃ fd, FunD K d_l_ending.name d_l_ending.qual d_l_ending.params d_l_ending.body d_l_ending.scope [] [] (He.fAd K d_l_ending.at_) fd
abbrev s_l_deed_done : Stmt := top 61
abbrev N_l_deed_done : List Str := ["_law_pen_here", "_law_machine_so", "_law_count", "_law_draft_here", "_law_way", "_law_last", "_law_due", "_law_marks", "_law_ends", "_law_k"]
abbrev P_l_deed_done : List Str := ["_law_pen_here", "_law_machine_so", "_law_count", "_law_draft_here"]
theorem sc_l_deed_done : FnScope N_l_deed_done P_l_deed_done (defScope s_l_deed_done) := ⟨rfl, rfl, rfl, by decide +kernel, rfl, by decide +kernel, by decide +kernel⟩
def d_l_deed_done : He.DefD := ⟨("_law_deed_done", none), "_law_deed_done", "_law_deed_done", defArgs s_l_deed_done, defBody s_l_deed_done, defScope s_l_deed_done, [], []⟩
/-- the def stands in the written part -/
def F_l_deed_done (K : Frg) : Prop := ∃ fd, FunD K d_l_deed_done.name d_l_deed_done.qual d_l_deed_done.params d_l_deed_done.body d_l_deed_done.scope [] [] (He.fAd K d_l_deed_done.at_) fd
abbrev s_law : Stmt := top 62
abbrev N_law : List Str := ["_law_script", "_law_pen_here", "_law_draft_here", "_law_rules", "_law_machines_so", "_law_counts", "_law_known_here", "_law_deed_here", "_law_states", "_law_side", "_law_turn", "_law_at_here", "_law_one", "_law_rule", "_law_count", "_law_row"]
abbrev P_law : List Str := ["_law_script"]
theorem sc_law : FnScope N_law P_law (defScope s_law) := ⟨rfl, rfl, rfl, by decide +kernel, rfl, by decide +kernel, by decide +kernel⟩
def d_law : He.DefD := ⟨("law", none), "law", "law", defArgs s_law, defBody s_law, defScope s_law, [], []⟩
/-- the def stands in the written part -/
def F_law (K : Frg) : Prop := ∃ fd, FunD K d_law.name d_law.qual d_law.params d_law.body d_law.scope [] [] (He.fAd K d_law.at_) fd
/-- the class Machine -/
abbrev CM (K : Frg) : Addr := He.ga K "Machine"
/-- what the top has left of a def by its name -/
structure Gf (K : Frg) (mg : Str → Option Value) (x : Str) : Prop where
  g : mg x = some (.ref (He.ga K x))
  k : PySem.W.keepIn K (.ref (He.ga K x)) = true
/-- an int that the top has given a name -/
def Ci (mg : Str → Option Value) (x : Str) (n : Int) : Prop := ∃ t, mg x = some (.int n t)
/-- built-ins that no def of the top hides -/
structure Bi (mg : Str → Option Value) : Prop where
  isinstance : mg "isinstance" = none
  int : mg "int" = none
  bool : mg "bool" = none
  tuple : mg "tuple" = none
  str : mg "str" = none
  len : mg "len" = none
  all : mg "all" = none
  enumerate : mg "enumerate" = none
  max : mg "max" = none
  min : mg "min" = none
  list : mg "list" = none
  dict : mg "dict" = none
  reversed : mg "reversed" = none
  range : mg "range" = none
  repr : mg "repr" = none
  abs : mg "abs" = none
  ValueError : mg "ValueError" = none
  IndexError : mg "IndexError" = none
  KeyError : mg "KeyError" = none
  LookupError : mg "LookupError" = none
  RuntimeError : mg "RuntimeError" = none
/-- the defs, the class, its methods as the top has left them -/
structure Txt (K : Frg) (mg : Str → Option Value) : Prop where
  bi : Bi mg
  c_MOST_STATEMENTS : Ci mg "MOST_STATEMENTS" (60)
  c_MOST_CELLS : Ci mg "MOST_CELLS" (10 ^ 30)
  c_MOST_VALUES : Ci mg "MOST_VALUES" (6)
  c_VALUE_LIMIT : Ci mg "VALUE_LIMIT" (10 ^ 30)
  c_CAPACITY_LIMIT : Ci mg "CAPACITY_LIMIT" (10 ^ 40)
  c_MOST_PART : Ci mg "MOST_PART" (100)
  g_GrowError : Gf K mg "GrowError"
  g_InvalidProgram : Gf K mg "InvalidProgram"
  g_InvalidPolicy : Gf K mg "InvalidPolicy"
  g_InvalidDemand : Gf K mg "InvalidDemand"
  g_InvalidText : Gf K mg "InvalidText"
  g_NoView : Gf K mg "NoView"
  g_NoRead : Gf K mg "NoRead"
  g_NoCell : Gf K mg "NoCell"
  g_NoCandidate : Gf K mg "NoCandidate"
  g_NoUndo : Gf K mg "NoUndo"
  g_Finished : Gf K mg "Finished"
  g_Busy : Gf K mg "Busy"
  g_SIZES : mg "SIZES" = some (.ref (He.ga K "SIZES"))
  g_Machine : Gf K mg "Machine"
  cl : Cls K (CM K)
  mak : Mk K (CM K) (He.ma K (CM K) "__init__")
  no_kept_program : NoAttr K (CM K) "kept_program"
  no_kept_policy : NoAttr K (CM K) "kept_policy"
  no_rows : NoAttr K (CM K) "rows"
  no_cells : NoAttr K (CM K) "cells"
  no_makers : NoAttr K (CM K) "makers"
  no_roots : NoAttr K (CM K) "roots"
  no_seen : NoAttr K (CM K) "seen"
  no_made : NoAttr K (CM K) "made"
  no_records : NoAttr K (CM K) "records"
  no_busy : NoAttr K (CM K) "busy"
  g_is_integer : Gf K mg "is_integer"
  f_is_integer : F_is_integer K
  g_is_between : Gf K mg "is_between"
  f_is_between : F_is_between K
  g_is_value : Gf K mg "is_value"
  f_is_value : F_is_value K
  g_are_values : Gf K mg "are_values"
  f_are_values : F_are_values K
  g_is_cell : Gf K mg "is_cell"
  f_is_cell : F_is_cell K
  g_is_statement : Gf K mg "is_statement"
  f_is_statement : F_is_statement K
  g_span_of : Gf K mg "span_of"
  f_span_of : F_span_of K
  g_first_invalid : Gf K mg "first_invalid"
  f_first_invalid : F_first_invalid K
  g_need_program : Gf K mg "need_program"
  f_need_program : F_need_program K
  g_are_entries : Gf K mg "are_entries"
  f_are_entries : F_are_entries K
  g_is_factor : Gf K mg "is_factor"
  f_is_factor : F_is_factor K
  g_is_policy : Gf K mg "is_policy"
  f_is_policy : F_is_policy K
  g_need_policy : Gf K mg "need_policy"
  f_need_policy : F_need_policy K
  g_chosen : Gf K mg "chosen"
  f_chosen : F_chosen K
  f_M_init : F_M_init K
  m_need_rest : Meth K (CM K) "need_rest" (He.ma K (CM K) "need_rest")
  f_M_need_rest : F_M_need_rest K
  m_found_at : Meth K (CM K) "found_at" (He.ma K (CM K) "found_at")
  f_M_found_at : F_M_found_at K
  m_set_cell : Meth K (CM K) "set_cell" (He.ma K (CM K) "set_cell")
  f_M_set_cell : F_M_set_cell K
  m_add_block : Meth K (CM K) "add_block" (He.ma K (CM K) "add_block")
  f_M_add_block : F_M_add_block K
  m_extend_view : Meth K (CM K) "extend_view" (He.ma K (CM K) "extend_view")
  f_M_extend_view : F_M_extend_view K
  m_add_view : Meth K (CM K) "add_view" (He.ma K (CM K) "add_view")
  f_M_add_view : F_M_add_view K
  m_read_cell : Meth K (CM K) "read_cell" (He.ma K (CM K) "read_cell")
  f_M_read_cell : F_M_read_cell K
  m_write_cell : Meth K (CM K) "write_cell" (He.ma K (CM K) "write_cell")
  f_M_write_cell : F_M_write_cell K
  m_advance : Meth K (CM K) "advance" (He.ma K (CM K) "advance")
  f_M_advance : F_M_advance K
  m_step : Meth K (CM K) "step" (He.ma K (CM K) "step")
  f_M_step : F_M_step K
  m_back : Meth K (CM K) "back" (He.ma K (CM K) "back")
  f_M_back : F_M_back K
  m_run : Meth K (CM K) "run" (He.ma K (CM K) "run")
  f_M_run : F_M_run K
  m_position : Meth K (CM K) "position" (He.ma K (CM K) "position")
  f_M_position : F_M_position K
  m_row_of : Meth K (CM K) "row_of" (He.ma K (CM K) "row_of")
  f_M_row_of : F_M_row_of K
  m_capacity : Meth K (CM K) "capacity" (He.ma K (CM K) "capacity")
  f_M_capacity : F_M_capacity K
  m_block : Meth K (CM K) "block" (He.ma K (CM K) "block")
  f_M_block : F_M_block K
  m_content : Meth K (CM K) "content" (He.ma K (CM K) "content")
  f_M_content : F_M_content K
  m_read_values : Meth K (CM K) "read_values" (He.ma K (CM K) "read_values")
  f_M_read_values : F_M_read_values K
  m_origins : Meth K (CM K) "origins" (He.ma K (CM K) "origins")
  f_M_origins : F_M_origins K
  m_allocations : Meth K (CM K) "allocations" (He.ma K (CM K) "allocations")
  f_M_allocations : F_M_allocations K
  m_twin : Meth K (CM K) "twin" (He.ma K (CM K) "twin")
  f_M_twin : F_M_twin K
  g_l_pen : Gf K mg "_law_pen"
  f_l_pen : F_l_pen K
  g_l_draw : Gf K mg "_law_draw"
  f_l_draw : F_l_draw K
  g_l_value : Gf K mg "_law_value"
  f_l_value : F_l_value K
  g_l_index : Gf K mg "_law_index"
  f_l_index : F_l_index K
  g_l_slice : Gf K mg "_law_slice"
  f_l_slice : F_l_slice K
  g_l_deed : Gf K mg "_law_deed"
  f_l_deed : F_l_deed K
  g_l_known : Gf K mg "_law_known"
  f_l_known : F_l_known K
  g_l_draft : Gf K mg "_law_draft"
  f_l_draft : F_l_draft K
  g_l_tail : Gf K mg "_law_tail"
  f_l_tail : F_l_tail K
  g_l_policy : Gf K mg "_law_policy"
  f_l_policy : F_l_policy K
  g_l_chosen : Gf K mg "_law_chosen"
  f_l_chosen : F_l_chosen K
  g_l_fresh : Gf K mg "_law_fresh"
  f_l_fresh : F_l_fresh K
  g_l_at : Gf K mg "_law_at"
  f_l_at : F_l_at K
  g_l_append : Gf K mg "_law_append"
  f_l_append : F_l_append K
  g_l_execute : Gf K mg "_law_execute"
  f_l_execute : F_l_execute K
  g_l_state : Gf K mg "_law_state"
  f_l_state : F_l_state K
  g_l_shown : Gf K mg "_law_shown"
  f_l_shown : F_l_shown K
  g_l_told : Gf K mg "_law_told"
  f_l_told : F_l_told K
  g_l_stands : Gf K mg "_law_stands"
  f_l_stands : F_l_stands K
  g_l_refused : Gf K mg "_law_refused"
  f_l_refused : F_l_refused K
  g_l_ending : Gf K mg "_law_ending"
  f_l_ending : F_l_ending K
  g_l_deed_done : Gf K mg "_law_deed_done"
  f_l_deed_done : F_l_deed_done K
  g_law : Gf K mg "law"
  f_law : F_law K
end GB
set_option maxHeartbeats 4000000
/-! GBase: plain data in the abstract heap, what stays over a step, a def with its promise in one. -/
namespace GB
open PySem PySem.Spec PyProof.Rows L2
/-! ### plain data -/
inductive D where
  | n | b (c : Bool) | i (z : Int) | s (x : Str) | t (ds : List D)
mutual
/-- the value v stands for the datum -/
def Rp (H : Hp) : V → D → Prop
  | v, .n => v = .non
  | v, .b c => v = .bl c
  | v, .i z => v = .int z
  | v, .s x => v = .str x
  | v, .t ds => ∃ (a : Addr) (vs : List V), v = .ref a ∧ H a = some (.tup vs) ∧ RpA H vs ds
def RpA (H : Hp) : List V → List D → Prop
  | vs, [] => vs = []
  | vs, d :: ds => ∃ (v : V) (r : List V), vs = v :: r ∧ Rp H v d ∧ RpA H r ds
end
/-! ### what stays -/
/-- all that is tracked stays, but what W names (no tuple) -/
def Fr (W : Addr → Prop) (H H' : Hp) : Prop := ∀ a o, H a = some o → (W a → ∃ xs, o = .tup xs) → H' a = some o
abbrev W0 : Addr → Prop := fun _ => False
theorem Fr.refl (W : Addr → Prop) (H : Hp) : Fr W H H := fun _ _ h _ => h
theorem Fr.tup {W : Addr → Prop} {H H' : Hp} (f : Fr W H H') {a : Addr} {xs : List V} (h : H a = some (.tup xs)) : H' a = some (.tup xs) := f a _ h fun _ => ⟨xs, rfl⟩
theorem Fr.at_ {W : Addr → Prop} {H H' : Hp} (f : Fr W H H') {a : Addr} {o : HO} (h : H a = some o) (n : ¬ W a) : H' a = some o := f a o h fun z => absurd z n
theorem Fr.trans {W W' : Addr → Prop} {H H1 H2 : Hp} (f : Fr W H H1) (g : Fr W' H1 H2) (h : ∀ a, W' a → W a ∨ H a = none) : Fr W H H2 := fun a o e hw =>
  g a o (f a o e hw) fun z => by
    rcases h a z with q | q
    · exact hw q
    · rw [q] at e
      cases e
theorem Fr.mono {W W' : Addr → Prop} {H H' : Hp} (f : Fr W H H') (h : ∀ a, W a → W' a) : Fr W' H H' := fun a o e hw => f a o e fun z => hw (h a z)
theorem Fr.of {W : Addr → Prop} {H H' : Hp} (e : Same H H') : Fr W H H' := fun a o h _ => e a o h
theorem Fr.same {H H' : Hp} (f : Fr W0 H H') : Same H H' := fun a o h => f a o h fun z => z.elim
theorem Fr.new {W : Addr → Prop} {H : Hp} {p : Addr} {o : HO} (h : H p = none) : Fr W H (upd H p o) := fun a u e _ => by
  rw [upd_ne (ne_of_none e h)]
  exact e
/-- an object that W names, or a new one, is written -/
theorem Fr.put {W : Addr → Prop} {H : Hp} {p : Addr} {o u : HO} (w : W p) (h : H p = some u) (hu : ∀ xs, u ≠ .tup xs) : Fr W H (upd H p o) := fun a x e hw => by
  by_cases q : a = p
  · subst q
    rw [h] at e
    cases e
    obtain ⟨xs, z⟩ := hw w
    exact absurd z (hu xs)
  · rw [upd_ne q]
    exact e
theorem Same.new {H : Hp} {p : Addr} {o : HO} (h : H p = none) : Same H (upd H p o) := fun a u e => by
  rw [upd_ne (ne_of_none e h)]
  exact e
theorem Same.trans {H H1 H2 : Hp} (f : Same H H1) (g : Same H1 H2) : Same H H2 := fun a o e => g a o (f a o e)
theorem Same.refl (H : Hp) : Same H H := fun _ _ e => e
theorem iteT_of {c : Bool} {A B : Prop} (hc : c = true) (h : A) : if c = true then A else B := by
  rw [if_pos hc]
  exact h
theorem iteF_of {c : Bool} {A B : Prop} (hc : c = false) (h : B) : if c = true then A else B := by
  rw [hc, if_neg Bool.false_ne_true]
  exact h
theorem iteD {c : Bool} {A B : Prop} (h1 : c = true → A) (h2 : c = false → B) : if c = true then A else B := by
  cases c with
  | true => exact iteT (h1 rfl)
  | false => exact iteF (h2 rfl)
/-- tuples stay -/
def Tp (H H' : Hp) : Prop := ∀ a xs, H a = some (.tup xs) → H' a = some (.tup xs)
theorem Fr.tp {W : Addr → Prop} {H H' : Hp} (f : Fr W H H') : Tp H H' := fun _ _ h => f.tup h
theorem Same.tp {H H' : Hp} (f : Same H H') : Tp H H' := fun a _ h => f a _ h
mutual
theorem Rp.tp {H H' : Hp} (f : Tp H H') : ∀ {d : D} {v : V}, Rp H v d → Rp H' v d
  | .n, _, h => by simp only [Rp] at h ⊢; exact h
  | .b _, _, h => by simp only [Rp] at h ⊢; exact h
  | .i _, _, h => by simp only [Rp] at h ⊢; exact h
  | .s _, _, h => by simp only [Rp] at h ⊢; exact h
  | .t ds, _, h => by
    simp only [Rp] at h ⊢
    obtain ⟨a, vs, e, ha, hs⟩ := h
    exact ⟨a, vs, e, f a vs ha, RpA.tp f hs⟩
theorem RpA.tp {H H' : Hp} (f : Tp H H') : ∀ {ds : List D} {vs : List V}, RpA H vs ds → RpA H' vs ds
  | [], _, h => by simp only [RpA] at h ⊢; exact h
  | d :: ds, _, h => by
    simp only [RpA] at h ⊢
    obtain ⟨v, r, e, h1, h2⟩ := h
    exact ⟨v, r, e, Rp.tp f h1, RpA.tp f h2⟩
end
theorem rp_i {H : Hp} {v : V} {z : Int} : Rp H v (.i z) ↔ v = .int z := by simp only [Rp]
theorem rp_s {H : Hp} {v : V} {z : Str} : Rp H v (.s z) ↔ v = .str z := by simp only [Rp]
theorem rp_n {H : Hp} {v : V} : Rp H v .n ↔ v = .non := by simp only [Rp]
theorem rp_t {H : Hp} {v : V} {ds : List D} : Rp H v (.t ds) ↔ ∃ (a : Addr) (vs : List V), v = .ref a ∧ H a = some (.tup vs) ∧ RpA H vs ds := by simp only [Rp]
theorem rpa_nil {H : Hp} {vs : List V} : RpA H vs [] ↔ vs = [] := by simp only [RpA]
theorem rpa_cons {H : Hp} {vs : List V} {d : D} {ds : List D} : RpA H vs (d :: ds) ↔ ∃ (v : V) (r : List V), vs = v :: r ∧ Rp H v d ∧ RpA H r ds := by simp only [RpA]
theorem RpA.nil {H : Hp} : RpA H [] [] := rpa_nil.mpr rfl
theorem RpA.cons {H : Hp} {v : V} {vs : List V} {d : D} {ds : List D} (h : Rp H v d) (r : RpA H vs ds) : RpA H (v :: vs) (d :: ds) := rpa_cons.mpr ⟨v, vs, rfl, h, r⟩
theorem RpA.length {H : Hp} : ∀ {ds : List D} {vs : List V}, RpA H vs ds → vs.length = ds.length
  | [], _, h => by rw [rpa_nil.mp h]; rfl
  | d :: ds, _, h => by
    obtain ⟨v, r, e, _, h2⟩ := rpa_cons.mp h
    rw [e, List.length_cons, List.length_cons, RpA.length h2]
theorem RpA.get {H : Hp} : ∀ {ds : List D} {vs : List V} {i : Nat} {d : D}, RpA H vs ds → ds[i]? = some d → ∃ v, vs[i]? = some v ∧ Rp H v d
  | [], _, i, d, _, e => by simp at e
  | d0 :: ds, _, 0, d, h, e => by
    obtain ⟨v, r, ev, h1, _⟩ := rpa_cons.mp h
    have q : d0 = d := Option.some.inj e
    subst q
    exact ⟨v, by rw [ev]; rfl, h1⟩
  | d0 :: ds, _, i + 1, d, h, e => by
    obtain ⟨v, r, ev, _, h2⟩ := rpa_cons.mp h
    obtain ⟨x, hx, rx⟩ := RpA.get (i := i) h2 (by simpa using e)
    exact ⟨x, by rw [ev]; simpa using hx, rx⟩
theorem RpA.getV {H : Hp} {ds : List D} {vs : List V} {i : Nat} {v : V} (h : RpA H vs ds) (e : vs[i]? = some v) : ∃ d, ds[i]? = some d ∧ Rp H v d := by
  obtain ⟨hi, _⟩ := List.getElem?_eq_some_iff.mp e
  have hj : i < ds.length := by rw [← h.length]; exact hi
  obtain ⟨x, hx, rx⟩ := h.get (List.getElem?_eq_getElem hj)
  rw [e] at hx
  cases hx
  exact ⟨_, List.getElem?_eq_getElem hj, rx⟩
theorem RpA.append {H : Hp} : ∀ {ds es : List D} {vs ws : List V}, RpA H vs ds → RpA H ws es → RpA H (vs ++ ws) (ds ++ es)
  | [], _, _, _, h, g => by rw [rpa_nil.mp h]; exact g
  | d :: ds, _, _, _, h, g => by
    obtain ⟨v, r, e, h1, h2⟩ := rpa_cons.mp h
    rw [e]
    exact RpA.cons h1 (RpA.append h2 g)
theorem RpA.take {H : Hp} : ∀ {ds : List D} {vs : List V} (k : Nat), RpA H vs ds → RpA H (vs.take k) (ds.take k)
  | [], _, k, h => by rw [rpa_nil.mp h, List.take_nil, List.take_nil]; exact RpA.nil
  | d :: ds, _, 0, h => by rw [List.take_zero, List.take_zero]; exact RpA.nil
  | d :: ds, _, k + 1, h => by
    obtain ⟨v, r, e, h1, h2⟩ := rpa_cons.mp h
    rw [e]
    exact RpA.cons h1 (RpA.take k h2)
theorem RpA.snoc {H : Hp} {ds : List D} {vs : List V} {d : D} {v : V} (h : RpA H vs ds) (g : Rp H v d) : RpA H (vs ++ [v]) (ds ++ [d]) := h.append (RpA.cons g RpA.nil)
theorem szk {n : Nat} (h : n ≤ 1000) : n ≤ sizeLine := by
  rw [sizeLine_eq]
  omega
theorem rpa_ints {H : Hp} : ∀ {xs : List Int} {vs : List V}, RpA H vs (xs.map .i) ↔ vs = xs.map .int
  | [], vs => by rw [List.map_nil, List.map_nil]; exact rpa_nil
  | x :: xs, vs => by
    rw [List.map_cons, List.map_cons, rpa_cons]
    constructor
    · rintro ⟨v, r, e, h1, h2⟩
      rw [e, rp_i.mp h1, rpa_ints.mp h2]
    · intro e
      exact ⟨_, _, e, rp_i.mpr rfl, rpa_ints.mpr rfl⟩
/-! ### a def and its promise -/
/-- the def (or method) at that place keeps the promise, at level k; its parameters are ps, none of them has a default -/
def Ok (P : Program) (w : World) (K : Frg) (mg : Str → Option Value) (base : Heap) (CX : CXT) (k : Nat) (at_ : Str × Option Str) (ps : List Str) (sp : Sp) : Prop :=
  ∃ fd, Binds K fd ps [] ∧ FnOk P w K mg base CX k (He.fAd K at_) fd ps sp
theorem Ok.mono {P : Program} {w : World} {K : Frg} {mg : Str → Option Value} {base : Heap} {CX : CXT} {j k : Nat} {at_ : Str × Option Str} {ps : List Str} {sp : Sp} (o : Ok P w K mg base CX j at_ ps sp) (h : j ≤ k) : Ok P w K mg base CX k at_ ps sp := by
  obtain ⟨fd, b, f⟩ := o
  exact ⟨fd, b, f.mono h⟩
section
variable {X : Cx} {CX : CXT} {j k : Nat} {ps : List Str} {sp : Sp} {E : XK} {x m : Str} {p pos apos : Pos} {e o : Expr} {es : List Expr} {ta : TE} {t : TA}
/-- f(e, ..) -/
theorem pf (O : Ok X.prog X.w X.K X.mg X.base CX k (x, none) ps sp) (G : Gf X.K X.mg x) (hr : Room j X.A) (hg : Gl X x) (hx : Passes CX X E) (ha : PA X (e :: es) t) (hk : k ≤ j := by decide)
    (hdb : (x == ("__debug__" : Str)) = false := by decide) (he : starEach (e :: es) X.env = (false, eval e X.env) :: starEach es X.env := by rfl) (hpl : (backTo pos (starEach es X.env)).any (·.1) = false := by rfl) :
    PE X (.Call (.Name x p) (e :: es) [] pos) (tCall sp [] E t) := by
  obtain ⟨fd, b, f⟩ := O
  exact pe_call f (hr.mono hk) hg G.g G.k b .nil hx ha hdb he hpl
theorem pf0 (O : Ok X.prog X.w X.K X.mg X.base CX k (x, none) ps sp) (G : Gf X.K X.mg x) (hr : Room j X.A) (hg : Gl X x) (hx : Passes CX X E) (hk : k ≤ j := by decide)
    (hdb : (x == ("__debug__" : Str)) = false := by decide) : PE X (.Call (.Name x p) [] [] pos) (tCall sp [] E tNil) := by
  obtain ⟨fd, b, f⟩ := O
  exact pe_call0 f (hr.mono hk) hg G.g G.k b .nil hx hdb
/-- o.m(e, ..), a method of Machine -/
theorem pm {pl : Sem Bool} (O : Ok X.prog X.w X.K X.mg X.base CX k ("Machine", some m) ps sp) (c : Cls X.K (CM X.K)) (hm : Meth X.K (CM X.K) m (He.ma X.K (CM X.K) m)) (hr : Room j X.A) (hx : Passes CX X E) (ho : PE X o ta) (ha : PA X (e :: es) t) (hk : k ≤ j := by decide)
    (hst : starEach (e :: es) X.env = (false, eval e X.env) :: starEach es X.env := by rfl) (hpl : (backTo pos (starEach es X.env)).any (·.1) = false := by rfl)
    (ht : eval (.Call (.Attribute o m apos) (e :: es) [] pos) X.env = (do
      let ov ← eval o X.env
      standAt apos.atName
      let (f, first) ← holding [ov] (getMethod ov m pl)
      callWith pos f first (backTo pos (starEach (e :: es) X.env)) (backToKw pos (keywordEach [] X.env))) := by rfl) :
    PE X (.Call (.Attribute o m apos) (e :: es) [] pos) (tMeth (CM X.K) m sp [] E ta t) := by
  obtain ⟨fd, b, f⟩ := O
  exact pe_meth ho c hm f (hr.mono hk) b .nil hx ha hst hpl ht
theorem pm0 {pl : Sem Bool} (O : Ok X.prog X.w X.K X.mg X.base CX k ("Machine", some m) ps sp) (c : Cls X.K (CM X.K)) (hm : Meth X.K (CM X.K) m (He.ma X.K (CM X.K) m)) (hr : Room j X.A) (hx : Passes CX X E) (ho : PE X o ta) (hk : k ≤ j := by decide)
    (ht : eval (.Call (.Attribute o m apos) [] [] pos) X.env = (do
      let ov ← eval o X.env
      standAt apos.atName
      let (f, first) ← holding [ov] (getMethod ov m pl)
      callWith pos f first (backTo pos (starEach [] X.env)) (backToKw pos (keywordEach [] X.env))) := by rfl) :
    PE X (.Call (.Attribute o m apos) [] [] pos) (tMeth (CM X.K) m sp [] E ta tNil) := by
  obtain ⟨fd, b, f⟩ := O
  exact pe_meth0 ho c hm f (hr.mono hk) b .nil hx ht
theorem pe_ci {n : Int} (c : Ci X.mg x n) (hg : Gl X x) (hd : (x == ("__debug__" : Str)) = false := by decide) : PE X (.Name x pos) (tC (.int n)) := by
  obtain ⟨t, e⟩ := c
  exact pe_glob hg e ⟨t, rfl⟩ hd
end
/-- a def's promise by its body -/
theorem Ok.of {P : Program} {w : World} {K : Frg} {mg : Str → Option Value} {base : Heap} {CX : CXT} {k : Nat} {x qual : Str} {params : Arguments} {body : List Stmt} {scope : Scope} {at_ : Str × Option Str} {N ps : List Str} {sp : Sp}
    (F : ∃ fd, FunD K x qual params body scope [] [] (He.fAd K at_) fd) (S : FnScope N ps scope)
    (hb : ∀ (kV doc pm : Value) (an : Option Addr) (cdv ct : Value) (us : List Value), us.length = ps.length → bindArgs (PySem.W.fnOf x qual params body scope .none kV doc pm an cdv ct) ⟨us, []⟩ = pure (ps.zip us))
    (len : ∀ vs H Q E, sp vs H Q E → vs.length = ps.length)
    (hbody : ∀ (f : Addr) (cdv : Value) (A : Around) (outer : List Env) (s : Shared) (H : Hp) (vs : List V) (Q : VK) (E : XK), Room k (A.deeper (envOfC qual scope s.heap.objs.size f cdv)) → sp vs H Q E →
      ∃ t, PSs (cxOf CX P w K mg base N qual scope f cdv A outer s H E) body t ∧ t { nx := fun _ H' => Q .non H', rt := Q } (start N vs) H) : Ok P w K mg base CX (k + 1) at_ ps sp := by
  obtain ⟨fd, F⟩ := F
  exact ⟨fd, F.bindsN hb, F.ok S len fun cdv A outer s H vs Q E hr h => hbody _ cdv A outer s H vs Q E hr h⟩
end GB
set_option maxHeartbeats 4000000
/-! GExc1: an except clause that names a tuple of any many classes and keeps what it has caught. -/
namespace GB
open PySem PySem.Spec PyProof.Rows L2
open PySem.W (Looks exmOne exmAny exmAny_cons exm_cls)
section
variable {M : Model} {K : PySem.W.Frag} {h : Heap}
theorem looks_each {α β : Type} {f : α → β → Sem (ForInStep β)} {a : β} : ∀ {cs : List α}, (∀ c ∈ cs, Looks M h (f c a) (.yield a)) → Looks M h (forIn cs a f) a
  | [], _ => fun A Q E s k q => by
    rw [List.forIn_nil]
    exact wpAny_pure q
  | c :: r, hs => fun A Q E s k q => by
    rw [List.forIn_cons]
    refine wpAny_bind (((hs c (List.mem_cons_self)).keeps k).here ?_)
    exact (looks_each fun c hc => hs c (List.mem_cons_of_mem _ hc)) A Q E s k q
theorem looks_find {α β : Type} {f : α → β → Sem (ForInStep β)} {a d : β} {g : α → Bool} : ∀ {cs : List α}, (∀ c ∈ cs, Looks M h (f c a) (if g c = true then .done d else .yield a)) → Looks M h (forIn cs a f) (if cs.any g = true then d else a)
  | [], _ => fun A Q E s k q => by
    rw [List.forIn_nil]
    exact wpAny_pure q
  | c :: r, hs => fun A Q E s k q => by
    rw [List.forIn_cons]
    refine wpAny_bind (((hs c (List.mem_cons_self)).keeps k).here ?_)
    cases e : g c with
    | true =>
      rw [if_pos rfl]
      rw [List.any_cons, e, Bool.true_or, if_pos rfl] at q
      exact wpAny_pure q
    | false =>
      rw [if_neg Bool.false_ne_true]
      rw [List.any_cons, e, Bool.false_or] at q
      exact (looks_find (g := g) fun c hc => hs c (List.mem_cons_of_mem _ hc)) A Q E s k q
theorem exmAny_all {cls : Value} : ∀ {cs : List Value} {b : Bool}, exmAny K cls cs = some b → (∀ c ∈ cs, ∃ v, exmOne K cls c = some v) ∧ b = cs.any fun c => exmOne K cls c == some true
  | [], b, e => by
    have e' : some false = some b := e
    cases e'
    exact ⟨fun c hc => (nomatch hc), rfl⟩
  | c :: r, b, e => by
    obtain ⟨b1, d1, h1, h2, h3⟩ := exmAny_cons e
    obtain ⟨i1, i2⟩ := exmAny_all h2
    refine ⟨fun x hx => ?_, ?_⟩
    · rcases List.mem_cons.mp hx with q | q
      · subst q; exact ⟨_, h1⟩
      · exact i1 x q
    · rw [h3, List.any_cons, h1, i2]
      cases b1 <;> rfl
theorem exm_tupN {cs : List Value} {cls : Value} {tp e : Addr} {b : Bool} (X : K.In h) (LT : Looks M h (typeOf (.ref e)) cls) (hp : IsTup h tp cs.toArray) (hx : exmAny K cls cs = some b) : Looks M h (excMatches (.ref e) (.ref tp)) b := by
  intro A Q E s k₀ q
  obtain ⟨hh, g, d, tk, os⟩ := s
  have k : ∀ b o, h.get? b = some o → hh.get? b = some o := k₀
  obtain ⟨o, ho, hc, n, hd⟩ := hp
  have LT0 : Looks M h (isInstance (.ref tp) (.type "tuple")) true := by
    exact Looks.andThen (a := .type "tuple") (fun A Q E s k q => wpAny_typeOf_ref (k _ _ ho) (by rw [hc]; exact q)) (Looks.of_pure isSubtype_tuple_tuple)
  obtain ⟨ha, hb⟩ := exmAny_all hx
  have LT := LT.keeps k
  have LT0 := LT0.keeps k
  have hp' := k _ _ ho
  unfold excMatches
  refine wpAny_bind (LT0.at ?_)
  dsimp only
  rw [if_pos rfl]
  refine wpAny_bind (wpAny_seqItems hp' hd ?_)
  refine wpAny_bind (wpAny_pure ?_)
  dsimp only [Option.getD_some, Option.getD]
  refine wpAny_bind ((looks_each (h := hh) (fun c hc => ?_)).here ?_)
  · obtain ⟨v, hv⟩ := ha c hc
    have L := (exm_cls (M := M) X hv).1.keeps k
    intro A Q E s k q
    refine wpAny_bind ((L.keeps k).here ?_)
    exact wpAny_pure q
  refine wpAny_bind (LT.at ?_)
  refine wpAny_bind ((looks_find (h := hh) (d := (some true, ())) (g := fun c => exmOne K cls c == some true) (fun c hc => ?_)).here ?_)
  · obtain ⟨v, hv⟩ := ha c hc
    have L := (exm_cls (M := M) X hv).2.keeps k
    intro A Q E s k q
    refine wpAny_bind ((L.keeps k).here ?_)
    rw [hv] at q
    cases v <;> exact wpAny_pure q
  rw [hb] at q
  cases e : cs.toArray.toList.any fun c => exmOne K cls c == some true with
  | true =>
    have e' : (cs.any fun c => exmOne K cls c == some true) = true := e
    rw [e'] at q
    exact wpAny_pure q
  | false =>
    have e' : (cs.any fun c => exmOne K cls c == some true) = false := e
    rw [e'] at q
    exact wpAny_pure q
end
end GB
set_option maxHeartbeats 4000000
/-! GExc2: what was caught becomes a value. -/
namespace GB
set_option profiler true
open PySem PySem.Spec PyProof.Rows L2
/-- a caught exception that is held -/
def excO (a : Addr) (cls : Value) (d : Option Addr) : HO := .ext fun h => ∃ oe, h.get? a = some oe ∧ Zc cls d oe ∧ ∃ vs, oe.data = .fields vs
section
variable {X : Cx} {pins : List (Addr × Obj)} {σ : L2.St} {H : Hp} {s : Shared}
theorem inv_track {a : Addr} {o : HO} {oe : Obj} (I : Inv X pins σ H s) (na : H a = none) (n0 : X.s_0.heap.get? a = none) (ha : s.heap.get? a = some oe) (nL : a ≠ X.env.locals)
    (nC : ∀ x c, X.env.cells.lookup x = some c → c ≠ a) (nP : ∀ p ∈ X.pn ++ pins, p.1 ≠ a) (new : ObjOk X.prog X.w (upd H a o) s.heap a o) : Inv X pins σ (upd H a o) s := by
  refine ⟨I.ok, I.os, I.bare, ⟨I.base.keep, I.base.slot, fun b u e n hx => ?_, I.base.there, fun b xs e => ?_, fun b u xs e => ?_, fun b ps e => ?_⟩, I.loc, I.cell, ?_, fun x c e => ?_, fun p hp => ?_, fun b u e => ?_, I.len⟩
  · have hb : b ≠ a := fun z => by rw [z, n0] at e; cases e
    rw [upd_ne hb]
    exact I.base.free b u e n hx
  · have q := I.base.tups b xs e
    rw [upd_ne (ne_of_none q na)]; exact q
  · have q := I.base.frzs b u xs e
    rw [upd_ne (ne_of_none q na)]; exact q
  · obtain ⟨m, q⟩ := I.base.tbls b ps e
    exact ⟨m, by rw [upd_ne (ne_of_none q na)]; exact q⟩
  · rw [upd_ne (Ne.symm nL)]; exact I.free
  · rw [upd_ne (nC x c e)]; exact I.freeC x c e
  · obtain ⟨e, n, r⟩ := I.pin p hp
    exact ⟨e, by rw [upd_ne (nP p hp)]; exact n, r⟩
  · by_cases hb : b = a
    · subst hb; rw [upd_same] at e; cases e; exact new
    · rw [upd_ne hb] at e
      exact (I.hok b u e).stay (fun c v _ q => q) (fun c q => by rw [upd_ne (ne_of_none q na)]; exact q) fun c xs q => by rw [upd_ne (ne_of_none q na)]; exact q
theorem names_spliced {l : List (Str × Pos × Value)} {A : Around} {pos : Pos} {Q : List Value → Shared → Prop} {E : Value → Shared → Prop} (I : Inv X pins σ H s) :
    (∀ t ∈ l, Names X t.1 t.2.2) → Q (l.map (·.2.2)) s → wpAny (model X.prog X.w) X.A (spliced (backTo pos (starEach (l.map fun t => Expr.Name t.1 t.2.1) X.env))) Q E s := by
  induction l generalizing Q with
  | nil => exact fun _ q => Calls.spliced_nil q
  | cons t r ih =>
    intro hn q
    have hs : starEach (Expr.Name t.1 t.2.1 :: r.map fun t => Expr.Name t.1 t.2.1) X.env = (false, eval (Expr.Name t.1 t.2.1) X.env) :: starEach (r.map fun t => Expr.Name t.1 t.2.1) X.env := rfl
    rw [List.map_cons, hs, backTo]
    refine Calls.spliced_cons ?_
    have k : wpAny (model X.prog X.w) X.A (spliced (backTo pos (starEach (r.map fun t => Expr.Name t.1 t.2.1) X.env))) (fun us s2 => Q (t.2.2 :: us) s2) E s := ih (fun t ht => hn t (List.mem_cons_of_mem _ ht)) q
    obtain ⟨hg, hdbg, hm | ⟨hm, hv, hnn⟩⟩ := hn t List.mem_cons_self
    · exact ld_glob I hg hm k hdbg
    · exact ld_blt I hg hm hv k hnn hdbg
end
theorem FlyingZ.keeps {B h h' : Heap} {l : List Env} {e : Addr} {Z : Obj → Prop} (x : HandSPX.FlyingZ B l e Z h) (k : ∀ b o, h.get? b = some o → h'.get? b = some o) : HandSPX.FlyingZ B l e Z h' := by
  obtain ⟨k1, k2, k3, oe, vs, T, oT, ts, a1, a2, a3, a4, a5, a6, a7, a8, a9⟩ := x
  exact ⟨fun b o e => k b o (k1 b o e), k2, k3.of_keeps fun b o e _ => ⟨o, k b o e, rfl⟩, oe, vs, T, oT, ts, k _ _ a1, a2, a3, a4, a5, a6, k _ _ a7, a8, a9⟩
/-- what the clause 'except (x, ..) as n' wishes: all that comes is caught; behind the suite it is held -/
def wTup (K : PySem.W.Frag) (cs : List Value) (i : Nat) (ts : Addr → Value → Option Addr → TS) (D : Ends) : WX := fun cls d σ H =>
  PySem.W.exmAny K cls cs = some true ∧ ∀ a, H a = none → ts a cls d { nx := fun σ' H' => D.nx (σ'.set i none) (upd H' a (excO a cls d)), rt := fun _ _ => False } (σ.set i (some (.ref a))) H
section
variable {X : Cx} {l : List (Str × Pos × Value)} {n : Str} {c : Value} {i : Nat} {body suite : List Stmt} {b₀ : Stmt} {np pos pos' : Pos} {x1 : Nat} {tb : WX → TS} {ts : Addr → Value → Option Addr → TS}
theorem ps_try_keep (hs : X.stack = X.env :: X.outer) (hf : X.env.frame = some X.env.locals) (hex : X.ex = []) (hN : X.N.Nodup) (hi : X.N[i]? = some n) (hln : X.env.kindOf n = some .local) (hc : ∀ t ∈ l, Names X t.1 t.2.2) (hl : l.length ≤ 100)
    (hb : ∀ (W : WX) (pn : List (Addr × Obj)) (xe : Value → Shared → Prop), Takes (X.tr pn xe) W → PassesOwn (model X.prog X.w) X.A X.env xe → PSs (X.tr pn xe) body (tb W))
    (hsu : ∀ (a : Addr) (oe : Obj) (cls : Value) (d : Option Addr) (pn : List (Addr × Obj)), Zc cls d oe → (∃ vs, oe.data = .fields vs) → PSs (X.suite a ((a, oe) :: pn)) (b₀ :: suite) (ts a cls d)) :
    PS X (.Try body [.ExceptHandler (some (.Tuple (l.map fun t => Expr.Name t.1 t.2.1) x1 np)) (some n) (b₀ :: suite) pos'] [] [] pos) (fun D σ H => tb (wTup X.K (l.map (·.2.2)) i ts D) D σ H) := by
  refine ⟨fun pins s σ H D I h => ?_⟩
  have ok := I.ok
  have hfr : X.A.frames = some (X.env :: X.outer) := by rw [ok.frames, hs]
  have hloc : Loc X.env.scope n := .inl hln
  refine wpAny_Try_except ?_
  refine wpAny_mono ((hb (wTup X.K (l.map (·.2.2)) i ts D) (X.pn ++ pins) (fun e s₁ => wpAny (model X.prog X.w) X.A (noteFrame e X.env) (fun _ s₂ => wpAny (model X.prog X.w) X.A (setFlight e none) (fun _ s₃ =>
    wpAny (model X.prog X.w) X.A (handleBy e X.env [.ExceptHandler (some (.Tuple (l.map fun t => Expr.Name t.1 t.2.1) x1 np)) (some n) (b₀ :: suite) pos']) (SP X pins D) X.xe s₃) X.xe s₂) X.xe s₁) (fun u s' xx => ?_) PassesOwn.looking).run [] s σ H D (I.toTry _) h) (fun f s1 hsp => ?_) (fun e s1 he => he)
  · obtain ⟨a, B, sI, pins', σ', H', cls, d, rfl, J', nb, up, sky, na, os, ag, hb1, hyes⟩ := xx
    have J : Inv X pins σ' H' sI := J'.ofTry ok
    have sky' : Sky B (X.env :: X.outer) a (Zc cls d) X.env.locals s'.heap := by rw [← hs]; exact sky
    show wpAny (model X.prog X.w) X.A (noteFrame (.ref a) X.env) _ _ _
    refine Sky.land Zc.steady hfr hf sky' fun h3 fl3 up3 => ?_
    have J3 : Inv X pins σ' H' { s' with heap := h3 } := J.landed nb fl3.1 (up.trans up3) os ag
    obtain ⟨oe3, vs3, he3, hz3, hd3⟩ := fl3.there
    have notFr : ∀ {h : Heap} {o : Obj} {vs : Array Value}, h.FunFrames B (X.env :: X.outer) → h.get? a = some o → o.data = .fields vs → a ∉ frs (X.env :: X.outer) := fun {h o vs} ff e dd hm => by
      obtain ⟨_, o', e', hnf⟩ := ff.mem hm
      rw [e] at e'; cases e'
      exact hnf _ dd
    have nfr := notFr fl3.2.2.1 he3 hd3
    have nL : a ≠ X.env.locals := fun z => nfr (List.mem_filterMap.mpr ⟨X.env, List.mem_cons_self, by rw [hf, z]⟩)
    have nF : a ∉ X.fs := fun hm => by
      obtain ⟨e, he, q⟩ := List.mem_filterMap.mp hm
      exact nfr (List.mem_filterMap.mpr ⟨e, List.mem_cons_of_mem _ he, q⟩)
    have nI : sI.heap.get? a = none := by
      cases q : sI.heap.get? a with
      | none => rfl
      | some o =>
        have z := nb a o q (by rw [hs]; exact nfr)
        rw [fl3.2.1] at z; cases z
    have n0 : X.s_0.heap.get? a = none := by
      cases q : X.s_0.heap.get? a with
      | none => rfl
      | some o =>
        by_cases hx : a ∈ X.ex
        · exact absurd hx (by rw [hex]; exact List.not_mem_nil)
        · obtain ⟨o', z⟩ := J.base.there a o q hx
          rw [nI] at z; cases z
    have nC : ∀ x c, X.env.cells.lookup x = some c → c ≠ a := fun x c e z => by
      obtain ⟨v, o, ho, _⟩ := J.cell x c e
      rw [z, nI] at ho; cases ho
    have nP : ∀ p ∈ X.pn ++ pins, p.1 ≠ a := fun p hp z => by
      obtain ⟨e, _⟩ := J.pin p hp
      rw [z, nI] at e; cases e
    have S3 := J3.suite he3 hd3 na nL nF
    refine wpAny_handleBy_cons (codeAny_handlers_test ?_) (by intro q; cases q)
    refine wpAny_Tuple_spliced (names_spliced (A := X.A) (X := X.suite a ((a, oe3) :: (X.pn ++ pins))) S3 hc ?_)
    refine ⟨by rw [List.length_map, sizeLine_eq]; omega, ?_⟩
    have k4 : ∀ b o, h3.get? b = some o → (h3.push { cls := .type "tuple", data := .seq (l.map (·.2.2)).toArray }).get? b = some o := fun b o e => Heap.get?_push_of_some _ e
    have LT : PySem.W.Looks (model X.prog X.w) (h3.push { cls := .type "tuple", data := .seq (l.map (·.2.2)).toArray }) (typeOf (.ref a)) cls := fun A Q E s k q => wpAny_typeOf_ref (k _ _ (k4 _ _ he3)) (by rw [hz3.1]; exact q)
    have LM := exm_tupN (M := model X.prog X.w) (J3.kIn.keeps k4) LT ⟨_, Heap.get?_push_size _ rfl, rfl, _, rfl⟩ hb1
    refine LM.here ?_
    refine codeAny_handlers_suite_as ?_
    have fl3' := FlyingZ.keeps fl3 k4
    refine HandSPX.lands_againZ fl3' fun h4 fl4 up4 => ?_
    have up3' : sI.heap.UpToSlots h4 := ((up.trans up3).trans (Heap.UpToSlots.of_keeps k4)).trans up4
    have J4 : Inv X pins σ' H' { s' with heap := h4 } := J.landed nb fl4.1 up3' os ag
    obtain ⟨oe4, vs4, he4, hz4, hd4⟩ := fl4.there
    have S4 := J4.suite he4 hd4 na nL nF
    refine store_ok (X := X.suite a ((a, oe4) :: (X.pn ++ pins))) (v := .ref a) S4 hN hi hloc rfl (fun s5 S5 => ?_) (.inr hln)
    refine wpAny_mono ((hsu a oe4 cls d (X.pn ++ pins) hz4 ⟨_, hd4⟩).run [] s5 _ H' _ S5 (hyes a na)) (fun f s6 hsp => ?_) (fun _ _ z => False.elim z)
    cases f with
    | next =>
      obtain ⟨σ6, H6, S6, q6⟩ := hsp
      refine gone_ok (X := X.suite a ((a, oe4) :: (X.pn ++ pins))) S6 hN hi hln fun s7 S7 => ?_
      obtain ⟨g7, n7, _⟩ := S7.pin (a, oe4) (List.mem_append_left _ List.mem_cons_self)
      refine ⟨_, _, inv_track (a := a) (o := excO a cls d) (S7.unsuite ok) n7 n0 g7 nL nC nP ⟨⟨oe4, g7, hz4, vs4, hd4⟩, ⟨_, g7⟩, fun h1 h2 ⟨oe, e, z⟩ k => ⟨oe, k _ e, z⟩⟩, q6⟩
    | brk =>
      obtain ⟨σ6, H6, S6, q6⟩ := hsp
      exact q6.elim
    | cont =>
      obtain ⟨σ6, H6, S6, q6⟩ := hsp
      exact q6.elim
    | ret u =>
      obtain ⟨v6, σ6, H6, S6, r6, q6⟩ := hsp
      exact q6.elim
  · cases f with
    | next =>
      obtain ⟨σ', H', J', q⟩ := hsp
      exact wpAny_execs_nil ⟨σ', H', J'.ofTry ok, q⟩
    | brk =>
      obtain ⟨σ', H', J', q⟩ := hsp
      exact ⟨σ', H', J'.ofTry ok, q⟩
    | cont =>
      obtain ⟨σ', H', J', q⟩ := hsp
      exact ⟨σ', H', J'.ofTry ok, q⟩
    | ret u =>
      obtain ⟨v, σ', H', J', r, q⟩ := hsp
      exact ⟨v, σ', H', J'.ofTry ok, r, q⟩
end
end GB
set_option maxHeartbeats 4000000
/-! GExc3: isinstance and a field of a caught exception that is held as a value. -/
namespace GB
open PySem PySem.Spec PyProof.Rows L2
/-- the dict of a held exception, where it has one -/
def XdOk (H : Hp) : Option Addr → Prop
  | none => True
  | some dd => ∃ fs, H dd = some (.xd fs)
/-- what the class D says, for isinstance, fields -/
def excCB (K : PySem.W.Frag) (D : Addr) : Bool :=
  decide (PySem.W.findIn K (.ref D) "__getattribute__" = some (some (.builtin "BaseException.__getattribute__"))) && (decide (PySem.W.findIn K (.ref D) "__getattr__" = some none) && (decide (PySem.W.subIn K (.ref D) (.type "BaseException") = some true) &&
    (PySem.W.hasDictIn K D && (decide (PySem.W.findIn K (.ref D) "__class__" = some (some (.builtin "object.__class__"))) && (decide (PySem.W.specialIn K (.builtin "object.__class__") "__get__" = some (some (.builtin "getset_descriptor.__get__"))) &&
      (decide (PySem.W.takesIn K (.builtin "object.__class__") = some true) && decide (PySem.W.mroIn K D (.type "object") = some true)))))))
theorem excCB_ok {K : PySem.W.Frag} {D : Addr} (h : excCB K D = true) : ExcC K D := by
  simp only [excCB, Bool.and_eq_true, decide_eq_true_eq] at h
  obtain ⟨h1, h2, h3, h4, h5, h6, h7, h8⟩ := h
  exact ⟨h1, h2, h3, h4, h5, h6, h7, h8⟩
section
variable {X : Cx} {pins : List (Addr × Obj)} {σ : L2.St} {H : Hp} {s : Shared}
theorem held_inst {a D : Addr} {d : Option Addr} (I : L2.Inv X pins σ H s) (ha : H a = some (excO a (.ref D) d)) (hd : XdOk H d) : ∃ ox od, PySem.W.InstAt s.heap a ox D od ∧ (∀ dd, d = some dd → ∃ o, od = some o ∧ s.heap.get? dd = some o) := by
  obtain ⟨⟨oe, e, ⟨z1, z2⟩, vs, hv⟩, _, _⟩ := I.hok a _ ha
  cases d with
  | none =>
    obtain ⟨oc, od, oda, osl⟩ := oe
    dsimp only at z1 z2 hv
    subst z1 z2 hv
    exact ⟨_, none, ⟨e, rfl, rfl, trivial⟩, fun dd q => nomatch q⟩
  | some dd =>
    obtain ⟨fs, hx⟩ := hd
    obtain ⟨mA, ⟨o, es, ep, ho, r⟩, _⟩ := I.hok dd _ hx
    refine ⟨oe, some o, ⟨e, z1, by unfold PySem.W.notCls; rw [hv], by rw [z2]; exact ho⟩, fun d' q => ?_⟩
    cases q
    exact ⟨o, rfl, ho⟩
theorem kit_held {a D : Addr} {d : Option Addr} (C : ExcC X.K D) (I : L2.Inv X pins σ H s) (ha : H a = some (excO a (.ref D) d)) (hd : XdOk H d) : ∃ P : Heap → Prop, PySem.W.KitX X.K (.ref a) (.ref D) P ∧ P s.heap := by
  obtain ⟨ox, od, J, _⟩ := held_inst I ha hd
  have hcl : (PySem.W.clsIn X.K D).isSome = true := by
    obtain ⟨cd, hc, _⟩ := PySem.W.any_some C.hd
    rw [hc]; rfl
  exact ⟨_, PySem.W.kitx_exc (od := od) hcl C.hg C.hk C.hs C.ha C.hn C.ht C.hm, J⟩
/-- isinstance(e, c) -/
def rIsH (K : PySem.W.Frag) : List V → Hp → VK → Prop := fun xs H Q => ∃ (a D : Addr) (d : Option Addr) (c : V) (u : Value) (b : Bool), xs = [.ref a, c] ∧ ClsV c u ∧ H a = some (excO a (.ref D) d) ∧ XdOk H d ∧ ExcC K D ∧ PySem.W.kitOne K (.ref D) u = some b ∧ Q (.bl b) H
theorem call_isH : CallR X (.builtin "isinstance") (rIsH X.K) := by
  intro pins s σ H xs us Q I r h
  obtain ⟨a, D, d, c, u, b, rfl, k, ha, hd, C, e, q⟩ := h
  obtain ⟨u1, u2, rfl, r1, r2⟩ := vals2 r
  cases (show u1 = Value.ref a from r1)
  have e2 := k.eq r2
  subst e2
  obtain ⟨P, Z, p⟩ := kit_held C I ha hd
  exact PySem.W.kia_one Z I.kIn p e (fun z => nomatch z) fun tk => ⟨.bl b, H, I.tok tk, rfl, q⟩
/-- isinstance(e, (c, ..)) -/
def rIsHT (K : PySem.W.Frag) : List V → Hp → VK → Prop := fun xs H Q => ∃ (a D tp : Addr) (d : Option Addr) (cs : List V) (us : List Value) (b : Bool), xs = [.ref a, .ref tp] ∧ H tp = some (.tup cs) ∧ Paired ClsV cs us ∧ H a = some (excO a (.ref D) d) ∧ XdOk H d ∧ ExcC K D ∧ PySem.W.kitAny K (.ref D) us = some b ∧ Q (.bl b) H
theorem call_isHT : CallR X (.builtin "isinstance") (rIsHT X.K) := by
  intro pins s σ H xs us Q I r h
  obtain ⟨a, D, tp, d, cs, ws, b, rfl, hT, k, ha, hd, C, e, q⟩ := h
  obtain ⟨u1, u2, rfl, r1, r2⟩ := vals2 r
  cases (show u1 = Value.ref a from r1)
  cases (show u2 = Value.ref tp from r2)
  obtain ⟨P, Z, p⟩ := kit_held C I ha hd
  obtain ⟨_, its, rv, o, h1, h2, n, h3⟩ := (show ObjOk X.prog X.w H s.heap tp (.tup cs) from I.hok tp _ hT)
  have e3 := ClsV.all k rv
  subst e3
  obtain ⟨oc, od, dt, sl⟩ := o
  simp only at h2 h3
  subst h2 h3
  exact PySem.W.kia_tup Z I.kIn p h1 e (fun z => nomatch z) fun tk => ⟨.bl b, H, I.tok tk, rfl, q⟩
/-- e.f -/
def tXh (K : PySem.W.Frag) (f : Str) (te : TE) : TE := fun σ H Q => te σ H fun x H1 => ∃ (a D dd : Addr) (fs : List (Str × V)) (v : V), x = .ref a ∧ H1 a = some (excO a (.ref D) (some dd)) ∧ H1 dd = some (.xd fs) ∧ fs.lookup f = some v ∧ XfC K D ∧ PySem.W.findIn K (.ref D) f = some none ∧ Q v H1
theorem pe_xh {e : Expr} {te : TE} {pos : Pos} {n : Str} (he : PE X e te) (hb : attributeBase e n X.env (eval e X.env) = eval e X.env := by rfl) : PE X (.Attribute e n pos) (tXh X.K n te) := by
  refine ⟨fun pins s σ H Q I h => ?_⟩
  refine attr_of hb (thn (he.run pins s σ H _ I h) fun u s1 hh => ?_)
  obtain ⟨x, H1, I1, rx, a, D, dd, fs, v, rfl, ha, ea, l, T, hno, q⟩ := hh
  obtain rfl : u = Value.ref a := rx
  obtain ⟨ox, od, J, hod⟩ := held_inst (d := some dd) I1 ha ⟨fs, ea⟩
  obtain ⟨o, rfl, hdo⟩ := hod dd rfl
  obtain ⟨mA, hns, hr⟩ := (show ObjOk X.prog X.w H1 s1.heap dd (.xd fs) from I1.hok dd _ ea)
  obtain ⟨o', ho', hl⟩ := lookIn_ns hns
  rw [hdo] at ho'
  cases ho'
  obtain ⟨u, hu, ru⟩ := RelO.some_of (v := v) (o := mA n) (by rw [← l]; exact hr n)
  exact HandSPX.exc_get I1.kIn J T.ga T.gg T.exC (PySem.W.findObj_own T.hdC hno rfl (by rw [hl, hu])) (handed_of ru) ⟨v, H1, I1.tok _, ru, q⟩
end
end GB
set_option maxHeartbeats 4000000
/-! GExc4: an own exception class over IndexError with its own __init__ of one field. -/
namespace PySem
namespace GIx
open PySem.W PySem.Calls PyProof.Rows PySem.HandSPX
open Builtin Builtin.ObjectAttr
abbrev ieT : List Value := [.type "IndexError", .type "LookupError", .type "Exception", .type "BaseException", .type "object"]
section
variable {prog : Program} {w : World} {A : Around} {E : Value → Shared → Prop} {R : Result → Shared → Prop} {hp : Heap} {g : Array GenState} {d : Drawn} {t : Nat} {os : OsState}
theorem ix_osa {K : W.Frag} {name : Str} {tk : Tok} {v : Value} {x C : Addr} {fv : Array Value} {cd : ClassData}
    (X : K.In hp) (hx : hp.get? x = some { cls := .ref C, data := .fields fv }) (hcd : W.clsIn K C = some cd) (hm : W.excOver K C ieT = true) (hh : cd.hasDict = true) (ht : W.takerIn K C name = some none)
    (hq : ∀ h' tk' dx, (∀ b o, b ≠ x → hp.get? b = some o → h'.get? b = some o) → hp.objs.size ≤ dx → dx ≠ x → h'.get? x = some { cls := .ref C, dict := some dx, data := .fields fv } →
      h'.Ns1 dx (fun y => if y = name then some v else none) → R (.ok (.ret .none)) ⟨h', g, d, tk', os⟩) :
    codeAny (model prog w) A (.call (.builtin "object.__setattr__") ⟨[.ref x, .str name tk, v], []⟩) R ⟨hp, g, d, t, os⟩ := by
  have I : W.InstAt hp x { cls := .ref C, data := .fields fv } C none := ⟨hx, rfl, rfl, trivial⟩
  have hxs : x ≠ hp.objs.size := Nat.ne_of_lt (Heap.lt_size hx)
  have hcls : W.Looks (model prog w) hp (classData C) cd := W.looks_clsIn X hcd
  refine W.osa_openX (s := ⟨hp, g, d, t, os⟩) PySem.F.store_IndexError X I hm ht fun b => ?_
  obtain ⟨nm, bs, mro, ns, qn, hd, sn, sb, ab, col, del⟩ := cd
  dsimp only at hh
  subst hh
  show wpAny _ _ (storeInOwnDict (.ref x) (.ref C) (.str name tk) name v b) _ _ _
  unfold storeInOwnDict ownDictForStores
  repeat (first | with_reducible refine store_in_new ?_ ?_ | with_reducible refine wpAny_loadPart_at hx ?_ | with_reducible refine hcls.at ?_ | wp_step)
  · exact ⟨_, #[], _, (Heap.get?_update_ne _ _ _ _ hxs.symm).trans (Heap.get?_push_at rfl rfl), rfl, fun e he => absurd he (by simp), fun _ => rfl⟩
  · intro h' tk' hn' hs
    have hx₁ : (hp.push { cls := .type "dict", data := .dict #[] }).get? x = some { cls := .ref C, data := .fields fv } := Heap.get?_push_of_some _ hx
    refine hq h' tk' hp.objs.size (fun b o hb ho => ?_) (Nat.le_refl _) hxs.symm ?_ hn'
    · exact (hs.2 b (Nat.ne_of_lt (Heap.lt_size ho))).trans ((Heap.get?_update_ne _ _ _ _ hb).trans (Heap.get?_push_of_some _ ho))
    · exact (hs.2 x hxs).trans (Heap.get?_update_self _ hx₁ rfl)
end
end GIx
end PySem
namespace GB
open PySem PySem.Spec PyProof.Rows L2
/-- what the written part says of the class -/
structure OixC (K : PySem.W.Frag) (C : Addr) : Prop where
  cls : ∃ nm q N bs bm sn sub ab col dd k0 k1 k2 k3 k5, K.lookup C = some (excClassObj nm q C N bs bm true sn sub ab col dd k0 k1 k2 k3 k5 "IndexError.__new__") ∧ bm = PySem.GIx.ieT
  ov : PySem.W.excOver K C PySem.GIx.ieT = true
  sa : PySem.W.findIn K (.ref C) "__setattr__" = some (some (.builtin "object.__setattr__"))
  exC : PySem.W.subIn K (.ref C) (.type "BaseException") = some true
  tyC : PySem.W.typeIn K (.ref C) = some (.type "type")
  kC : PySem.W.keepIn K (.ref C) = true
def oixB (K : PySem.W.Frag) (C : Addr) : Bool :=
  (match K.lookup C with
    | some ⟨.type "type", _, .cls cd, sl⟩ => (match cd.mro, sl.toList with
      | .ref C' :: bm, [_, _, _, _, some (.builtin n), _] => C' == C && n == "IndexError.__new__" && !cd.hasDel && cd.hasDict && bm == PySem.GIx.ieT
      | _, _ => false)
    | _ => false) && PySem.W.excOver K C PySem.GIx.ieT && decide (PySem.W.findIn K (.ref C) "__setattr__" = some (some (.builtin "object.__setattr__"))) &&
  decide (PySem.W.subIn K (.ref C) (.type "BaseException") = some true) && decide (PySem.W.typeIn K (.ref C) = some (.type "type")) && PySem.W.keepIn K (.ref C)
theorem oixB_ok {K : PySem.W.Frag} {C : Addr} (h : oixB K C = true) : OixC K C := by
  unfold oixB at h
  simp only [Bool.and_eq_true, decide_eq_true_eq] at h
  obtain ⟨⟨⟨⟨⟨q, h1⟩, h2⟩, h3⟩, h4⟩, h5⟩ := h
  refine ⟨?_, h1, h2, h3, h4, h5⟩
  split at q
  · rename_i dd cd sl ho
    split at q
    · rename_i C' bm k0 k1 k2 k3 n k5 hm hs
      simp only [Bool.and_eq_true, beq_iff_eq, Bool.not_eq_true'] at q
      obtain ⟨⟨⟨⟨rfl, rfl⟩, hdel⟩, hdct⟩, ht⟩ := q
      obtain ⟨nm, bs, mro, ns, qn, hd, sn, sub, ab, col, del⟩ := cd
      dsimp only at hm hdel hdct
      subst hm hdel hdct
      have hsl : sl = #[k0, k1, k2, k3, some (.builtin "IndexError.__new__"), k5] := by
        obtain ⟨l⟩ := sl
        simp only at hs
        rw [hs]
      subst hsl
      exact ⟨nm, qn, ns, bs, bm, sn, sub, ab, col, dd, k0, k1, k2, k3, k5, ho, ht⟩
    · cases q
  · cases q
section
variable {X : Cx} {pins : List (Addr × Obj)} {σ : L2.St} {H : Hp} {s : Shared} {a C dx : Addr} {f : Str} {y : V} {u : Value} {fs : List (Str × V)} {Q : Unit → Shared → Prop} {E : Value → Shared → Prop} {A : Around}
/-- self.f = y, the first field -/
theorem ix_new (T : OixC X.K C) (I : L2.Inv X pins σ H s) (e : H a = some (exo a C none)) (hno : PySem.W.takerIn X.K C f = some none) (ry : RelV y u)
    (h : ∀ dx s', H dx = none → dx ≠ a → L2.Inv X pins σ (upd (upd H dx (exd dx [(f, y)])) a (exo a C (some dx))) s' → Q () s') : wpAny (model X.prog X.w) A (setAttr (.ref a) f u) Q E s := by
  obtain ⟨nm, q, N, bs, bm, sn, sub, ab, col, dd, k0, k1, k2, k3, k5, hC, hbm⟩ := T.cls
  have hcl : PySem.W.clsIn X.K C = some { name := nm, bases := bs, mro := .ref C :: bm, ns := N, qualname := q, hasDict := true, slotNames := sn, subclasses := sub, abstract := ab, collection := col, hasDel := false } := by unfold PySem.W.clsIn; rw [hC] <;> rfl
  obtain ⟨t1, ho⟩ := exo_at I.hok e
  obtain ⟨hp, g, d, t, os⟩ := s
  refine PySem.W.set_plain I.kIn (ox := { cls := .ref C, dict := none, data := .fields #[.ref t1, .none, .none, .none, .bool false, .none] }) (od := none) ⟨ho, rfl, rfl, trivial⟩ T.sa ?_
  refine PySem.GIx.ix_osa I.kIn ho hcl T.ov rfl hno (fun h' tk' dx k dn dne hx hn => ?_)
  have hnd : H dx = none := I.hok.fresh dn
  have nd : ∀ {b : Addr} {o : Obj}, hp.get? b = some o → b ≠ dx := fun {b o} q => Nat.ne_of_lt (Nat.lt_of_lt_of_le (Heap.lt_size q) dn)
  have na : ∀ {b : Addr}, H b = none → b ≠ a := fun {b} n z => by
    rw [z, e] at n
    cases n
  have un1 : Un X.fs [] H (upd (upd H dx (exd dx [(f, y)])) a (exo a C (some dx))) hp h' := {
    keep := fun b o q n _ _ => k b o (na n) q
    slot := fun b o q n _ _ => ⟨o.slots, k b o (na n) q⟩
    free := fun b o q n _ => by rw [upd_ne (na n), upd_ne (nd q)]; exact n
    there := fun b o q _ => by
      by_cases hb : b = a
      · exact ⟨_, by rw [hb]; exact hx⟩
      · exact ⟨o, k b o hb q⟩
    tups := fun b xs q => by rw [upd_ne (at_ne e q exo_tup), upd_ne (ne_of_none q hnd)]; exact q
    frzs := fun b o v q => by rw [upd_ne (at_ne e q exo_frz), upd_ne (ne_of_none q hnd)]; exact q
    tbls := fun b ps q => ⟨#[], by rw [upd_ne (at_ne e q exo_tbl), upd_ne (ne_of_none q hnd), q]; simp⟩ }
  refine h dx _ hnd dne (I.un (t' := tk') un1 fun b o q => ?_)
  by_cases hb : b = a
  · subst hb
    rw [upd_same] at q
    cases q
    exact exo_ok hx
  · rw [upd_ne hb] at q
    by_cases hd : b = dx
    · subst hd
      rw [upd_same] at q
      cases q
      exact exd_ok hn (relO_put (fs := []) ry fun g => True.intro)
    · rw [upd_ne hd] at q
      exact (I.hok b o q).stay (fun c v hc z => k c v (by
          rcases hc with hc | hc
          · rw [hc]
            exact hb
          · exact at_ne e hc exo_own) z)
        (fun c hc => by rw [upd_ne (at_ne e hc exo_own), upd_ne (ne_of_none hc hnd)]; exact hc) (fun c xs hc => by rw [upd_ne (at_ne e hc exo_tup), upd_ne (ne_of_none hc hnd)]; exact hc)
end
/-- self.f = e in such an __init__ -/
def tIxs (K : PySem.W.Frag) (f : Str) (to te : TE) : TS := fun D σ H => te σ H fun y H1 => to σ H1 fun x H2 => ∃ a C : Addr, x = .ref a ∧ OixC K C ∧ PySem.W.takerIn K C f = some none ∧
  H2 a = some (exo a C none) ∧ ∀ dx, H2 dx = none → dx ≠ a → D.nx σ (upd (upd H2 dx (exd dx [(f, y)])) a (exo a C (some dx)))
section
variable {X : Cx} {o e : Expr} {es : List Expr} {to te : TE} {ta : TA} {f : Str} {p p' pos : Pos}
theorem ps_ixs (ho : PE X o to) (he : PE X e te) (hs : swapsWith e (some (.Attribute o f p')) pos.line X.env = pure false := by rfl) : PS X (.Assign [.Attribute o f p'] e pos) (tIxs X.K f to te) := by
  refine ⟨fun pins s σ H D I h => ?_⟩
  refine plainObj_wpAny_Assign_Attribute (thn (he.run pins s σ H _ I h) fun v s1 ⟨y, H1, I1, r1, q1⟩ => thn (ho.run pins s1 σ H1 _ I1 q1) fun u s2 ⟨x, H2, I2, r2, a, C, ex, T, hno, ea, q⟩ => ?_) hs
  subst ex
  obtain rfl : u = Value.ref a := r2
  exact ix_new T I2 ea hno r1 fun dx s' n ne J => ⟨σ, _, J, q dx n ne⟩
/-- C(e), a class over IndexError -/
theorem pmk_ix {CX : CXT} {x : Str} {C fI : Addr} {k : Nat} {fd : FuncData} {ps : List Str} {sp : Sp} (T : OixC X.K C) (iC : PySem.W.findIn X.K (.ref C) "__init__" = some (some (.ref fI))) (tI : PySem.W.typeIn X.K (.ref fI) = some (.type "function"))
    (F1 : FnOk X.prog X.w X.K X.mg X.base CX k fI fd ps sp) (hr : Room (k + 1) X.A) (hb : Binds X.K fd ps []) (hx : Passes CX X (fun _ _ _ => False)) (hg : Gl X x) (hm : X.mg x = some (.ref C)) (ha : PA X (e :: es) ta)
    (hdb : (x == ("__debug__" : Str)) = false := by decide) (he : starEach (e :: es) X.env = (false, eval e X.env) :: starEach es X.env := by rfl) (hpl : (backTo pos (starEach es X.env)).any (·.1) = false := by rfl) :
    PMk X (.Call (.Name x p) (e :: es) [] pos) (tMkO C sp [] ta) := by
  intro pins s σ H Q I h
  obtain ⟨nm, q, N, bs, bm, sn, sub, ab, col, dd, k0, k1, k2, k3, k5, hC, rfl⟩ := T.cls
  refine wpAny_Call_Name_kw (ld_glob I hg hm ?_ hdb)
  refine PySem.W.callWith_K (h₀ := X.base) I.ok.mod.kin T.kC (thn (ha.run pos pins s σ H _ I h) fun us s1 ⟨vs, H1, I1, r1, hz, q1⟩ => ⟨I1.kIn, ?_⟩) he hpl
  show wpAny _ _ (call (.ref C) us) _ _ _
  obtain ⟨hp, g, dr, tk, os⟩ := s1
  have hsz : hp.objs.size ≤ hp.objs.size + 1 := Nat.le_succ _
  have hn : H1 (hp.objs.size + 1) = none := I1.hok.fresh hsz
  have hq := q1 (hp.objs.size + 1) hn
  have kk : ∀ b o, hp.get? b = some o → ((hp.push (PySem.W.kdv_tup us)).push (PySem.HandSPX.excO C hp.objs.size)).get? b = some o := fun b o e => Heap.get?_push_of_some _ (Heap.get?_push_of_some _ e)
  have hget : ((hp.push (PySem.W.kdv_tup us)).push (PySem.HandSPX.excO C hp.objs.size)).get? (hp.objs.size + 1) = some (PySem.HandSPX.excO C hp.objs.size) := by heap_get
  have I2 : L2.Inv X pins σ (upd H1 (hp.objs.size + 1) (exo (hp.objs.size + 1) C none)) ⟨(hp.push (PySem.W.kdv_tup us)).push (PySem.HandSPX.excO C hp.objs.size), g, dr, tk, os⟩ :=
    I1.laid (t' := tk) (a := hp.objs.size + 1) (o := exo (hp.objs.size + 1) C none) (h' := (hp.push (PySem.W.kdv_tup us)).push (PySem.HandSPX.excO C hp.objs.size)) kk hsz (exo_ok hget)
  rw [List.append_nil] at hq
  have r2 : Vals (V.ref (hp.objs.size + 1) :: vs) (Value.ref (hp.objs.size + 1) :: us) := .cons rfl r1
  have hl : (Value.ref (hp.objs.size + 1) :: us).length = ps.length := by
    have e := r2.length
    rw [F1.len _ _ _ _ hq] at e
    exact e.symm
  have hus : us.length ≤ sizeLine := by
    rw [← Paired.length r1, sizeLine_eq]
    omega
  refine wpAny_call (PySem.HandSPX.call_own PySem.F.excBase_IndexError (fun Y => rfl) (I1.kIn _ _ hC) (PySem.W.looks_findIn I1.kIn iC) (fun self => PySem.W.bind_fn I1.kIn self tI) hus
    (codeAny_mono (F1.run _ X.stack _ _ ⟨Value.ref (hp.objs.size + 1) :: us, []⟩ (Value.ref (hp.objs.size + 1) :: us) _ _ (fun _ _ _ => False) (hr.make C us []) (I2.env0.make C us []) (by
      have z := hb _ (Value.ref (hp.objs.size + 1) :: us) I2.kIn (by rw [List.append_nil]; exact hl)
      rw [List.append_nil] at z
      exact z) r2 hq) fun r s' hq' => ?_))
  cases r with
  | error er => exact hx pins σ _ _ er s' I2 hq'
  | ok fl =>
    cases fl with
    | ret u =>
      obtain ⟨v, H2, os2, bare2, un2, hok2, rv, ev, d, fs, ea, ed, hd1, q2⟩ := hq'
      subst ev
      obtain ⟨h2, g2, d2, t2, os'⟩ := s'
      exact ⟨rv, mk_end (raises_own T.exC T.tyC) I1 hsz kk un2 hok2 os2 bare2 ea ed hd1 q2⟩
    | next => exact False.elim hq'
    | brk => exact False.elim hq'
    | cont => exact False.elim hq'
end
end GB
set_option maxHeartbeats 0
/-! GHd0: the head's run with facts by names, printed by gen_head.py. -/
namespace GB
open PySem PySem.Spec PyProof.Rows L2
abbrev s_vi : Stmt := inClass (top 6) 0
abbrev s_ci : Stmt := inClass (top 8) 0
theorem sc_vi : FnScope ["self", "view"] ["self", "view"] (defScope s_vi) := ⟨rfl, rfl, rfl, by decide +kernel, rfl, by decide +kernel, by decide +kernel⟩
theorem sc_ci : FnScope ["self", "index"] ["self", "index"] (defScope s_ci) := ⟨rfl, rfl, rfl, by decide +kernel, rfl, by decide +kernel, by decide +kernel⟩
def d_vi : He.DefD := ⟨("NoView", some "__init__"), "__init__", "NoView.__init__", defArgs s_vi, defBody s_vi, defScope s_vi, [], []⟩
def d_ci : He.DefD := ⟨("NoCell", some "__init__"), "__init__", "NoCell.__init__", defArgs s_ci, defBody s_ci, defScope s_ci, [], []⟩
def F_vi (K : Frg) : Prop := ∃ fd, FunD K d_vi.name d_vi.qual d_vi.params d_vi.body d_vi.scope [] [] (He.fAd K d_vi.at_) fd
def F_ci (K : Frg) : Prop := ∃ fd, FunD K d_ci.name d_ci.qual d_ci.params d_ci.body d_ci.scope [] [] (He.fAd K d_ci.at_) fd
abbrev CV (K : Frg) : Addr := He.ga K "NoView"
abbrev CC (K : Frg) : Addr := He.ga K "NoCell"
/-- the classes of _law_refused's clause -/
def eight (K : Frg) : List Value := [.ref (He.ga K "GrowError"), .ref (CV K), .ref (CC K), .ref (He.ga K "NoRead"), .ref (He.ga K "NoCandidate"), .ref (He.ga K "NoUndo"), .ref (He.ga K "Finished"), .ref (He.ga K "Busy")]
def four (K : Frg) : List Value := [.ref (He.ga K "NoRead"), .ref (He.ga K "NoCandidate"), .ref (He.ga K "InvalidText"), .ref (He.ga K "InvalidDemand")]
/-- what is asked of the class D: is it .. -/
def asks (K : Frg) (D : Addr) (l : List (Value × Bool)) : Bool := l.all fun q => decide (PySem.W.kitOne K (.ref D) q.1 = some q.2)
def marksOf (K : Frg) (v c : Bool) : List (Value × Bool) := [(.ref (He.ga K "InvalidProgram"), false), (.ref (He.ga K "InvalidPolicy"), false), (.ref (CV K), v), (.ref (CC K), c), (.ref (He.ga K "NoUndo"), false), (.ref (He.ga K "Finished"), false), (.ref (He.ga K "Busy"), false),
  (.type "ValueError", false), (.type "IndexError", true), (.type "RuntimeError", false), (.type "LookupError", true)]
/-- one of the two classes: its field f, how the asks end -/
def clsB (K : Frg) (D fI : Addr) (f : Str) (v c : Bool) : Bool :=
  oixB K D && (excCB K D && (xfB K D && (decide (PySem.W.takerIn K D f = some none) && (decide (PySem.W.findIn K (.ref D) f = some none) && (decide (PySem.W.findIn K (.ref D) "__init__" = some (some (.ref fI))) && (decide (PySem.W.typeIn K (.ref fI) = some (.type "function")) &&
    (decide (PySem.W.exmAny K (.ref D) (eight K) = some true) && (decide (PySem.W.kitAny K (.ref D) (four K) = some false) && asks K D (marksOf K v c)))))))))
def hfn0 : List He.DefD := [d_is_integer, d_is_between, d_is_value, d_are_values, d_is_cell, d_is_statement, d_span_of, d_first_invalid, d_need_program, d_are_entries, d_is_factor, d_is_policy, d_need_policy, d_chosen, d_M_init, d_M_need_rest, d_M_found_at, d_M_set_cell, d_M_add_block, d_M_extend_view, d_M_add_view, d_M_read_cell, d_M_write_cell, d_M_advance, d_M_step, d_M_back, d_M_run, d_M_position, d_M_row_of, d_M_capacity, d_M_block, d_M_content, d_M_read_values, d_M_origins, d_M_allocations, d_M_twin, d_l_pen, d_l_draw, d_l_value, d_l_index]
def hfn1 : List He.DefD := [d_l_slice, d_l_deed, d_l_known, d_l_draft, d_l_tail, d_l_policy, d_l_chosen, d_l_fresh, d_l_at, d_l_append, d_l_execute, d_l_state, d_l_shown, d_l_told, d_l_stands, d_l_refused, d_l_ending, d_l_deed_done, d_law, d_vi, d_ci]
def hfn : List He.DefD := hfn0 ++ (hfn1)
def hfa0 : List He.Fa := [.free "isinstance", .free "int", .free "bool", .free "tuple", .free "str", .free "len", .free "all", .free "enumerate", .free "max", .free "min", .free "list", .free "dict", .free "reversed", .free "range", .free "repr", .free "abs", .free "ValueError", .free "IndexError", .free "KeyError", .free "LookupError", .free "RuntimeError", .int "MOST_STATEMENTS" (60), .int "MOST_CELLS" (10 ^ 30), .int "MOST_VALUES" (6), .int "VALUE_LIMIT" (10 ^ 30), .int "CAPACITY_LIMIT" (10 ^ 40), .int "MOST_PART" (100), .glo "GrowError", .keep "GrowError", .glo "InvalidProgram", .keep "InvalidProgram", .glo "InvalidPolicy", .keep "InvalidPolicy", .glo "InvalidDemand", .keep "InvalidDemand", .glo "InvalidText", .keep "InvalidText", .glo "NoView", .keep "NoView", .glo "NoRead"]
def hfa1 : List He.Fa := [.keep "NoRead", .glo "NoCell", .keep "NoCell", .glo "NoCandidate", .keep "NoCandidate", .glo "NoUndo", .keep "NoUndo", .glo "Finished", .keep "Finished", .glo "Busy", .keep "Busy", .glo "SIZES", .glo "Machine", .keep "Machine", .cls "Machine", .mkr "Machine", .noat "Machine" "kept_program", .noat "Machine" "kept_policy", .noat "Machine" "rows", .noat "Machine" "cells", .noat "Machine" "makers", .noat "Machine" "roots", .noat "Machine" "seen", .noat "Machine" "made", .noat "Machine" "records", .noat "Machine" "busy", .glo "is_integer", .keep "is_integer", .glo "is_between", .keep "is_between", .glo "is_value", .keep "is_value", .glo "are_values", .keep "are_values", .glo "is_cell", .keep "is_cell", .glo "is_statement", .keep "is_statement", .glo "span_of", .keep "span_of"]
def hfa2 : List He.Fa := [.glo "first_invalid", .keep "first_invalid", .glo "need_program", .keep "need_program", .glo "are_entries", .keep "are_entries", .glo "is_factor", .keep "is_factor", .glo "is_policy", .keep "is_policy", .glo "need_policy", .keep "need_policy", .glo "chosen", .keep "chosen", .meth "Machine" "need_rest", .meth "Machine" "found_at", .meth "Machine" "set_cell", .meth "Machine" "add_block", .meth "Machine" "extend_view", .meth "Machine" "add_view", .meth "Machine" "read_cell", .meth "Machine" "write_cell", .meth "Machine" "advance", .meth "Machine" "step", .meth "Machine" "back", .meth "Machine" "run", .meth "Machine" "position", .meth "Machine" "row_of", .meth "Machine" "capacity", .meth "Machine" "block", .meth "Machine" "content", .meth "Machine" "read_values", .meth "Machine" "origins", .meth "Machine" "allocations", .meth "Machine" "twin", .glo "_law_pen", .keep "_law_pen", .glo "_law_draw", .keep "_law_draw", .glo "_law_value"]
def hfa3 : List He.Fa := [.keep "_law_value", .glo "_law_index", .keep "_law_index", .glo "_law_slice", .keep "_law_slice", .glo "_law_deed", .keep "_law_deed", .glo "_law_known", .keep "_law_known", .glo "_law_draft", .keep "_law_draft", .glo "_law_tail", .keep "_law_tail", .glo "_law_policy", .keep "_law_policy", .glo "_law_chosen", .keep "_law_chosen", .glo "_law_fresh", .keep "_law_fresh", .glo "_law_at", .keep "_law_at", .glo "_law_append", .keep "_law_append", .glo "_law_execute", .keep "_law_execute", .glo "_law_state", .keep "_law_state", .glo "_law_shown", .keep "_law_shown", .glo "_law_told", .keep "_law_told", .glo "_law_stands", .keep "_law_stands", .glo "_law_refused", .keep "_law_refused", .glo "_law_ending", .keep "_law_ending", .glo "_law_deed_done", .keep "_law_deed_done", .glo "law"]
def hfa4 : List He.Fa := [.keep "law"]
def hfa : List He.Fa := hfa0 ++ (hfa1 ++ (hfa2 ++ (hfa3 ++ (hfa4))))
def szK : List (Str × Int) := [("make", 3), ("slice", 4), ("clip", 2), ("append", 3), ("grow", 3), ("write", 4), ("move", 5), ("read", 3)]
def hts : List He.Tab := [(fun K => He.ga K "SIZES", ["make", "slice", "clip", "append", "grow", "write", "move", "read"])]
def htf : List He.Defn := [d_l_stands.at_, d_l_deed_done.at_, d_l_ending.at_]
def hex (K : Frg) : Bool := clsB K (CV K) (He.fAd K d_vi.at_) "view" true false && (clsB K (CC K) (He.fAd K d_ci.at_) "index" false true && (He.valsB K (He.ga K "SIZES") (szK.map fun q => (q.1, .int q.2)) &&
  (decide ((He.cT K d_l_stands.at_).2 ≠ (He.cT K d_l_deed_done.at_).2) && (decide ((He.cT K d_l_stands.at_).2 ≠ (He.cT K d_l_ending.at_).2) && decide ((He.cT K d_l_deed_done.at_).2 ≠ (He.cT K d_l_ending.at_).2)))))
abbrev hR : PySem.W.OpenRow := PySem.W.OpenLaw.row PySem.Challenge.rw_growblind_k22_whole_a_machine_and_its_wa
abbrev hqv : Program := PySem.W.view hR.prog [62]
def n1 : List PySem.Str := ["GrowError", "InvalidProgram", "InvalidPolicy", "InvalidDemand", "InvalidText", "NoView", "NoRead", "NoCell", "NoCandidate", "NoUndo", "Finished", "Busy", "is_integer", "is_between", "MOST_STATEMENTS", "MOST_CELLS", "MOST_VALUES", "VALUE_LIMIT", "SIZES", "is_value", "are_values", "is_cell", "is_statement", "span_of", "first_invalid", "need_program"]
def n2 : List PySem.Str := ["CAPACITY_LIMIT", "MOST_PART", "are_entries", "is_factor", "is_policy", "need_policy", "chosen", "Machine", "_law_pen", "_law_draw", "_law_value", "_law_index", "_law_slice", "_law_deed", "_law_known", "_law_draft", "_law_tail", "_law_policy", "_law_chosen", "_law_fresh", "_law_at", "_law_append", "_law_execute", "_law_state", "_law_shown", "_law_told", "_law_stands", "_law_refused", "_law_ending", "_law_deed_done"]
def names : List PySem.Str := n1 ++ n2
def hnames : List PySem.Str := n1 ++ n2
abbrev hk : PySem.W.Hook := He.hookX 4 hfa hfn hts htf hex
def hob (s : PySem.W.SharedT) : He.AlX := He.obsX 4 hfa hfn hts htf hex (HandSHeadRun.getT s)
theorem hob_eq (s : PySem.W.SharedT) : hob s = hk.obs s.abs := He.obsX_eq (HandSHeadRun.getT_eq s)
theorem hrunF (w : World) : HandSHeadRun.RunEq hR hqv hk hob 6000 hnames (w.withFollow "special-get-raises" false) := by
  intro os
  kernel_rfl
theorem hrunT (w : World) : HandSHeadRun.RunEq hR hqv hk hob 6000 hnames (w.withFollow "special-get-raises" true) := by
  intro os
  kernel_rfl
theorem hrun (w : World) : HandSHeadRun.RunEq hR hqv hk hob 6000 hnames w := PySem.W.byRow2 "special-get-raises" hrunF hrunT w
end GB
set_option maxHeartbeats 4000000
/-! GPlain: the program's statements, policies and states in plain Lean. -/
namespace GB
open PySem
/-! ### finite maps as lists -/
section
variable {κ α : Type} [DecidableEq κ]
def gget (d : List (κ × α)) (k : κ) : Option α := (d.find? fun kv => decide (kv.1 = k)).map (·.2)
def gput (d : List (κ × α)) (k : κ) (c : α) : List (κ × α) := if (d.any fun kv => decide (kv.1 = k)) = true then d.map (fun kv => if kv.1 = k then (kv.1, c) else kv) else d ++ [(k, c)]
def gdrop (d : List (κ × α)) (k : κ) : List (κ × α) := d.filter fun kv => decide (kv.1 ≠ k)
theorem gget_pos {p : κ × α} {r : List (κ × α)} {k : κ} (e : p.1 = k) : gget (p :: r) k = some p.2 := by simp [gget, List.find?_cons, e]
theorem gget_neg {p : κ × α} {r : List (κ × α)} {k : κ} (e : ¬ p.1 = k) : gget (p :: r) k = gget r k := by simp [gget, List.find?_cons, e]
theorem gget_any (k : κ) : ∀ d : List (κ × α), (d.any fun kv => decide (kv.1 = k)) = (gget d k).isSome
  | [] => rfl
  | p :: r => by
    by_cases e : p.1 = k
    · rw [gget_pos e, List.any_cons, decide_eq_true e]; rfl
    · rw [gget_neg e, List.any_cons, decide_eq_false e, Bool.false_or, gget_any k r]
theorem gget_none {d : List (κ × α)} {k : κ} : gget d k = none ↔ ∀ p ∈ d, ¬ p.1 = k := by
  unfold gget
  rw [Option.map_eq_none_iff, List.find?_eq_none]
  simp
theorem gput_new {d : List (κ × α)} {k : κ} {c : α} (h : gget d k = none) : gput d k c = d ++ [(k, c)] := by
  unfold gput
  rw [gget_any, h]
  exact if_neg (by simp)
theorem gput_old {d : List (κ × α)} {k : κ} {c o : α} (h : gget d k = some o) : gput d k c = d.map (fun kv => if kv.1 = k then (kv.1, c) else kv) := by
  unfold gput
  rw [gget_any, h]
  exact if_pos rfl
/-- a new key goes again -/
theorem gdrop_gput {d : List (κ × α)} {k : κ} {c : α} (h : gget d k = none) : gdrop (gput d k c) k = d := by
  rw [gput_new h]
  unfold gdrop
  rw [List.filter_append]
  have e1 : d.filter (fun kv => decide (kv.1 ≠ k)) = d := List.filter_eq_self.mpr fun p hp => decide_eq_true (gget_none.mp h p hp)
  rw [e1]
  simp
def NdK (d : List (κ × α)) : Prop := (d.map (·.1)).Nodup
theorem NdK.nil : NdK ([] : List (κ × α)) := List.nodup_nil
theorem NdK.put {d : List (κ × α)} (h : NdK d) (k : κ) (c : α) : NdK (gput d k c) := by
  cases e : gget d k with
  | none =>
    rw [gput_new e]
    unfold NdK
    rw [List.map_append]
    refine List.nodup_append.mpr ⟨h, by simp, ?_⟩
    intro a ha b hb q
    simp at hb
    obtain ⟨p, hp, ep⟩ := List.mem_map.mp ha
    exact gget_none.mp e p hp (by rw [ep, q, hb])
  | some o =>
    rw [gput_old e]
    unfold NdK
    rw [List.map_map]
    have : ((fun x : κ × α => x.1) ∘ fun kv => if kv.1 = k then (kv.1, c) else kv) = fun x => x.1 := by
      funext x
      show (if x.1 = k then (x.1, c) else x).1 = x.1
      split <;> rfl
    rw [this]
    exact h
theorem NdK.filter {d : List (κ × α)} (h : NdK d) (p : κ × α → Bool) : NdK (d.filter p) := by
  unfold NdK at h ⊢
  exact h.sublist (List.filter_sublist.map _)
theorem gget_mem {d : List (κ × α)} (h : NdK d) {k : κ} {o : α} (hp : (k, o) ∈ d) : gget d k = some o := by
  induction d with
  | nil => cases hp
  | cons p r ih =>
    have h' : (p.1 :: r.map (·.1)).Nodup := h
    obtain ⟨h1, h2⟩ := List.nodup_cons.mp h'
    rcases List.mem_cons.mp hp with e | e
    · subst e
      exact gget_pos rfl
    · rw [gget_neg]
      · exact ih h2 e
      · intro q
        exact h1 (List.mem_map.mpr ⟨_, e, q.symm⟩)
theorem gget_some {d : List (κ × α)} {k : κ} {o : α} (h : gget d k = some o) : (k, o) ∈ d := by
  unfold gget at h
  obtain ⟨p, hp, e⟩ := Option.map_eq_some_iff.mp h
  have h1 := List.mem_of_find?_eq_some hp
  have h2 := List.find?_some hp
  have h3 : p.1 = k := of_decide_eq_true h2
  rw [← h3, ← e]
  exact h1
/-- an old content comes back -/
theorem gput_back {d : List (κ × α)} (hn : NdK d) {k : κ} {c o : α} (h : gget d k = some o) : gput (gput d k c) k o = d := by
  have h1 : gget (gput d k c) k = some c := by
    rw [gput_old h]
    have hm : (k, c) ∈ d.map (fun kv => if kv.1 = k then (kv.1, c) else kv) := List.mem_map.mpr ⟨(k, o), gget_some h, by simp⟩
    refine gget_mem ?_ hm
    have := hn.put k c
    rw [gput_old h] at this
    exact this
  rw [gput_old h1, gput_old h, List.map_map]
  have : d.map ((fun kv => if kv.1 = k then (kv.1, o) else kv) ∘ fun kv => if kv.1 = k then (kv.1, c) else kv) = d.map id := by
    refine List.map_congr_left fun p hp => ?_
    show (if (if p.1 = k then (p.1, c) else p).1 = k then ((if p.1 = k then (p.1, c) else p).1, o) else (if p.1 = k then (p.1, c) else p)) = p
    by_cases e : p.1 = k
    · rw [if_pos e, if_pos e]
      have h2 : gget d k = some p.2 := gget_mem hn (by rw [← e]; exact hp)
      rw [h] at h2
      rw [Option.some.inj h2]
    · rw [if_neg e, if_neg e]
  rw [this, List.map_id]
theorem gput_length (d : List (κ × α)) (k : κ) (c : α) : (gput d k c).length ≤ d.length + 1 := by
  unfold gput
  split
  · rw [List.length_map]; omega
  · simp
end
end GB
set_option maxHeartbeats 4000000
/-! GMach: statements, policies, the machine's state, a step and its undoing, in plain Lean. -/
namespace GB
open PySem
inductive Stm where
  | make (l c : Int) | slice (v : Nat) (lo hi : Int) | clip (v : Nat) | app (g : Bool) (v : Nat) (xs : List Int)
  | write (v : Nat) (i x : Int) | move (v : Nat) (i : Int) (u : Nat) (j : Int) | read (u : Nat) (j : Int)
def sw (g : Bool) : Str := if g = true then "grow" else "append"
def stD : Stm → D
  | .make l c => .t [.s "make", .i l, .i c]
  | .slice v lo hi => .t [.s "slice", .i v, .i lo, .i hi]
  | .clip v => .t [.s "clip", .i v]
  | .app g v xs => .t [.s (sw g), .i v, .t (xs.map .i)]
  | .write v i x => .t [.s "write", .i v, .i i, .i x]
  | .move v i u j => .t [.s "move", .i v, .i i, .i u, .i j]
  | .read u j => .t [.s "read", .i u, .i j]
abbrev Span := Int × Int
def spD (p : Span) : D := .t [.i p.1, .i p.2]
abbrev top30 : Int := 10 ^ 30
/-- a value that may be written -/
def Vv (x : Int) : Prop := 1 - top30 ≤ x ∧ x ≤ top30 - 1
/-- the view v has a cell i -/
def InV (sp : List Span) (v : Nat) (i : Int) : Prop := ∃ p, sp[v]? = some p ∧ 0 ≤ i ∧ i < p.2
/-- a statement that is valid behind views with these spans -/
def Val (sp : List Span) : Stm → Prop
  | .make l c => 0 ≤ l ∧ l ≤ c ∧ c ≤ top30
  | .slice v lo hi => ∃ p, sp[v]? = some p ∧ 0 ≤ lo ∧ lo ≤ hi ∧ hi ≤ p.2
  | .clip v => ∃ p, sp[v]? = some p
  | .app _ v xs => (∃ p, sp[v]? = some p) ∧ 1 ≤ xs.length ∧ xs.length ≤ 6 ∧ ∀ x ∈ xs, Vv x
  | .write v i x => InV sp v i ∧ Vv x
  | .move v i u j => InV sp v i ∧ InV sp u j
  | .read u j => InV sp u j
def spanOf (sp : List Span) : Stm → Option Span
  | .make l _ => some (0, l)
  | .slice v lo hi => some ((sp.getD v (0, 0)).1 + lo, hi - lo)
  | .clip v => some (sp.getD v (0, 0))
  | .app _ v xs => some ((sp.getD v (0, 0)).1, (sp.getD v (0, 0)).2 + (xs.length : Int))
  | _ => none
def after (sp : List Span) (st : Stm) : List Span := sp ++ (spanOf sp st).toList
def spans (p : List Stm) : List Span := p.foldl after []
/-- each statement is valid in its place -/
def ValP (p : List Stm) : Prop := ∀ k st, p[k]? = some st → Val (spans (p.take k)) st
/-! ### policies -/
inductive Pol where
  | exact | endless | step (e : Int) | factor (t b : Int) | table (es : List (Int × Int))
def enD (e : Int × Int) : D := .t [.i e.1, .i e.2]
def poD : Pol → D
  | .exact => .t [.s "exact"]
  | .endless => .t [.s "endless"]
  | .step e => .t [.s "step", .i e]
  | .factor t b => .t [.s "factor", .i t, .i b]
  | .table es => .t [.s "table", .t (es.map enD)]
/-- entries in rising order from a least number on -/
def Ents : Int → List (Int × Int) → Prop
  | _, [] => True
  | m, e :: r => m ≤ e.1 ∧ e.1 ≤ 59 ∧ 0 ≤ e.2 ∧ e.2 ≤ 10 ^ 40 - 1 ∧ Ents (e.1 + 1) r
def ValQ : Pol → Prop
  | .exact => True
  | .endless => True
  | .step e => 0 ≤ e ∧ e ≤ top30
  | .factor t b => 1 ≤ t ∧ t ≤ 100 ∧ 1 ≤ b ∧ b ≤ 100 ∧ 5 * b ≤ 4 * t
  | .table es => Ents 0 es ∧ es.length ≤ 60
/-- the greatest of need and the capacities that the entries give to the statement -/
def entMax (es : List (Int × Int)) (k need : Int) : Int := es.foldl (fun m e => if e.1 = k then max m e.2 else m) need
def chosenQ (q : Pol) (k need : Int) : Option Int := match q with
  | .exact => some need
  | .endless => none
  | .step e => some (need + e)
  | .factor t b => some ((need * t + b - 1) / b)
  | .table es => some (entMax es k need)
/-! ### the machine -/
structure Row where
  s : Int
  l : Int
  c : Option Int
  b : Nat
def capD : Option Int → D
  | none => .n
  | some z => .i z
def rowD (r : Row) : D := .t [.i r.s, .i r.l, capD r.c, .i r.b]
abbrev Ct := Int × Int
def ctD (c : Ct) : D := .t [.i c.1, .i c.2]
abbrev Dic := List (Int × Ct)
/-- a change: block, place, what was there -/
structure Chg where
  b : Nat
  p : Int
  o : Option Ct
def oldD : Option Ct → D
  | none => .n
  | some c => ctD c
def chD (x : Chg) : D := .t [.i x.b, .i x.p, oldD x.o]
structure Rc where
  rows : Nat
  cells : Nat
  seen : Nat
  made : Nat
  ch : List Chg
def mdD (x : Int × Option Int) : D := .t [.i x.1, capD x.2]
structure MS where
  rows : List Row
  cells : List Dic
  makers : List Int
  roots : List Int
  seen : List Ct
  made : List (Int × Option Int)
  recs : List Rc
def MS.zero : MS := ⟨[], [], [], [], [], [], []⟩
def row0 : Row := ⟨0, 0, none, 0⟩
def MS.row (s : MS) (v : Nat) : Row := s.rows.getD v row0
def MS.blk (s : MS) (b : Nat) : Dic := s.cells.getD b []
def MS.found (s : MS) (b : Nat) (p : Int) : Ct := (gget (s.blk b) p).getD (s.roots.getD b 0, 0)
def addCh (rs : List Rc) (x : Chg) : List Rc := rs.dropLast ++ (match rs.getLast? with
  | some r => [{ r with ch := r.ch ++ [x] }]
  | none => [])
def MS.set (s : MS) (b : Nat) (p : Int) (c : Ct) : MS := { s with cells := s.cells.set b (gput (s.blk b) p c), recs := addCh s.recs ⟨b, p, gget (s.blk b) p⟩ }
def MS.puts (s : MS) (b : Nat) (n : Int) : Int → List Int → MS
  | _, [] => s
  | e, x :: r => MS.puts (s.set b e (n, x)) b n (e + 1) r
/-- a copy is due -/
def due (g : Bool) (c : Option Int) (need : Int) : Bool := g || (match c with
  | none => false
  | some c => decide (c < need))
def keepIn (lo hi : Int) (d : Dic) : Dic := d.filter fun kv => decide (lo ≤ kv.1) && decide (kv.1 < hi)
def MS.block (s : MS) (n root : Int) (d : Dic) : MS := { s with makers := s.makers ++ [n], roots := s.roots ++ [root], cells := s.cells ++ [d] }
def MS.view (s : MS) (r : Row) : MS := { s with rows := s.rows ++ [r] }
def MS.ext (q : Pol) (n : Int) (g : Bool) (v : Nat) (xs : List Int) (s : MS) : MS :=
  let r := s.row v
  let e := r.s + r.l
  let need := r.l + (xs.length : Int)
  if due g r.c need = true then
    let cap := chosenQ q n need
    let s1 := { s with made := s.made ++ [(n, cap)] }.block n (s.roots.getD r.b 0) (keepIn r.s e (s.blk r.b))
    (s1.view ⟨r.s, need, cap, s.cells.length⟩).puts s.cells.length n e xs
  else (s.view ⟨r.s, need, r.c, r.b⟩).puts r.b n e xs
def MS.look (s : MS) (v : Nat) (i : Int) : Ct := s.found (s.row v).b ((s.row v).s + i)
def MS.see (s : MS) (c : Ct) : MS := { s with seen := s.seen ++ [c] }
def MS.mark (s : MS) : MS := { s with recs := s.recs ++ [⟨s.rows.length, s.cells.length, s.seen.length, s.made.length, []⟩] }
def MS.wr (s : MS) (v : Nat) (i : Int) (c : Ct) : MS := s.set (s.row v).b ((s.row v).s + i) c
def MS.act (q : Pol) (n : Int) (s : MS) : Stm → MS
  | .make l c => (s.block n n []).view ⟨0, l, some c, s.cells.length⟩
  | .slice v lo hi => s.view ⟨(s.row v).s + lo, hi - lo, (s.row v).c.map (· - lo), (s.row v).b⟩
  | .clip v => s.view ⟨(s.row v).s, (s.row v).l, some (s.row v).l, (s.row v).b⟩
  | .app g v xs => s.ext q n g v xs
  | .write v i x => s.wr v i (n, x)
  | .move v i u j => (s.see (s.look u j)).wr v i (n, (s.look u j).2)
  | .read u j => s.see (s.look u j)
def MS.step (q : Pol) (s : MS) (st : Stm) : MS := MS.act q (s.recs.length : Int) s.mark st
/-- what a statement tells: the value that it reads -/
def MS.tells (s : MS) : Stm → Option Int
  | .move _ _ u j => some (s.look u j).2
  | .read u j => some (s.look u j).2
  | _ => none
def run (q : Pol) (p : List Stm) : MS := p.foldl (MS.step q) MS.zero
/-! ### and back -/
def back1 (cs : List Dic) (x : Chg) : List Dic := match x.o with
  | none => cs.set x.b (gdrop (cs.getD x.b []) x.p)
  | some o => cs.set x.b (gput (cs.getD x.b []) x.p o)
def MS.back (s : MS) : MS := match s.recs.getLast? with
  | none => s
  | some r => ⟨s.rows.take r.rows, (r.ch.reverse.foldl back1 s.cells).take r.cells, s.makers.take r.cells, s.roots.take r.cells, s.seen.take r.seen, s.made.take r.made, s.recs.dropLast⟩
end GB
set_option maxHeartbeats 4000000
/-! GVal: statements, policies, rows as values. -/
namespace GB
open PySem PySem.Spec PyProof.Rows L2
/-- a statement as a value at a -/
def stV (a : Addr) (H : Hp) : Stm → Prop
  | .make l c => H a = some (.tup [.str "make", .int l, .int c])
  | .slice v lo hi => H a = some (.tup [.str "slice", .int v, .int lo, .int hi])
  | .clip v => H a = some (.tup [.str "clip", .int v])
  | .app g v xs => ∃ b, H a = some (.tup [.str (sw g), .int v, .ref b]) ∧ H b = some (.tup (xs.map .int))
  | .write v i x => H a = some (.tup [.str "write", .int v, .int i, .int x])
  | .move v i u j => H a = some (.tup [.str "move", .int v, .int i, .int u, .int j])
  | .read u j => H a = some (.tup [.str "read", .int u, .int j])
theorem rp_st {H : Hp} {v : V} (st : Stm) : Rp H v (stD st) ↔ ∃ a, v = .ref a ∧ stV a H st := by
  cases st <;> simp [stD, stV, Rp, RpA, rpa_ints]
  constructor
  · rintro ⟨a, e, vs, h, v1, r1, rfl, rfl, v2, r2, rfl, rfl, v3, rfl, b, rfl, hb⟩
    exact ⟨a, e, b, h, hb⟩
  · rintro ⟨a, e, b, h, hb⟩
    exact ⟨a, e, _, h, _, _, rfl, rfl, _, _, rfl, rfl, _, rfl, b, rfl, hb⟩
theorem stV.tp {H H' : Hp} (f : Tp H H') {a : Addr} : ∀ {st : Stm}, stV a H st → stV a H' st
  | .make _ _, h => f _ _ h
  | .slice _ _ _, h => f _ _ h
  | .clip _, h => f _ _ h
  | .app _ _ _, ⟨b, h1, h2⟩ => ⟨b, f _ _ h1, f _ _ h2⟩
  | .write _ _ _, h => f _ _ h
  | .move _ _ _ _, h => f _ _ h
  | .read _ _, h => f _ _ h
def stL : Stm → List V
  | .make l c => [.str "make", .int l, .int c]
  | .slice v lo hi => [.str "slice", .int v, .int lo, .int hi]
  | .clip v => [.str "clip", .int v]
  | .app g v _ => [.str (sw g), .int v, .non]
  | .write v i x => [.str "write", .int v, .int i, .int x]
  | .move v i u j => [.str "move", .int v, .int i, .int u, .int j]
  | .read u j => [.str "read", .int u, .int j]
/-- a policy as a value at a -/
def poV (a : Addr) (H : Hp) : Pol → Prop
  | .exact => H a = some (.tup [.str "exact"])
  | .endless => H a = some (.tup [.str "endless"])
  | .step e => H a = some (.tup [.str "step", .int e])
  | .factor t b => H a = some (.tup [.str "factor", .int t, .int b])
  | .table es => ∃ (b : Addr) (vs : List V), H a = some (.tup [.str "table", .ref b]) ∧ H b = some (.tup vs) ∧ RpA H vs (es.map enD)
theorem rp_po {H : Hp} {v : V} (q : Pol) : Rp H v (poD q) ↔ ∃ a, v = .ref a ∧ poV a H q := by
  cases q <;> simp [poD, poV, Rp, RpA]
  constructor
  · rintro ⟨a, e, vs, h, v1, r1, rfl, rfl, v2, rfl, b, rfl, ws, hb, hs⟩
    exact ⟨a, e, b, h, ws, hb, hs⟩
  · rintro ⟨a, e, b, h, ws, hb, hs⟩
    exact ⟨a, e, _, h, _, _, rfl, rfl, _, rfl, b, rfl, ws, hb, hs⟩
theorem poV.tp {H H' : Hp} (f : Tp H H') {a : Addr} : ∀ {q : Pol}, poV a H q → poV a H' q
  | .exact, h => f _ _ h
  | .endless, h => f _ _ h
  | .step _, h => f _ _ h
  | .factor _ _, h => f _ _ h
  | .table _, ⟨b, vs, h1, h2, h3⟩ => ⟨b, vs, f _ _ h1, f _ _ h2, RpA.tp f h3⟩
theorem rp_en {H : Hp} {v : V} (e : Int × Int) : Rp H v (enD e) ↔ ∃ a, v = .ref a ∧ H a = some (.tup [.int e.1, .int e.2]) := by simp [enD, Rp, RpA]
theorem rp_sp {H : Hp} {v : V} (e : Span) : Rp H v (spD e) ↔ ∃ a, v = .ref a ∧ H a = some (.tup [.int e.1, .int e.2]) := by simp [spD, Rp, RpA]
theorem rp_ct {H : Hp} {v : V} (e : Ct) : Rp H v (ctD e) ↔ ∃ a, v = .ref a ∧ H a = some (.tup [.int e.1, .int e.2]) := by simp [ctD, Rp, RpA]
def capV : Option Int → V
  | none => .non
  | some z => .int z
theorem rp_cap {H : Hp} {v : V} (c : Option Int) : Rp H v (capD c) ↔ v = capV c := by cases c <;> simp [capD, capV, Rp]
theorem rp_row {H : Hp} {v : V} (r : Row) : Rp H v (rowD r) ↔ ∃ a, v = .ref a ∧ H a = some (.tup [.int r.s, .int r.l, capV r.c, .int r.b]) := by simp [rowD, Rp, RpA, rp_cap]
theorem rp_md {H : Hp} {v : V} (x : Int × Option Int) : Rp H v (mdD x) ↔ ∃ a, v = .ref a ∧ H a = some (.tup [.int x.1, capV x.2]) := by simp [mdD, Rp, RpA, rp_cap]
end GB
set_option maxHeartbeats 4000000
/-! GRul: more rules. -/
namespace GB
open PySem PySem.Spec PyProof.Rows L2
/-- x in (c, ..): the tuple is not tracked -/
def tLit (neg : Bool) (ta : TE) (t : TA) : TT := fun σ H Q => ta σ H fun x H1 => t σ H1 fun vs H2 => flatV x = true ∧ (vs.all flatV = true ∧ vs.length ≤ 1000) ∧ Q (if neg = true then !inV x vs else inV x vs) H2
section
variable {X : Cx} {a : Expr} {es : List Expr} {ta : TE} {t : TA} {pos p : Pos} {x1 : Nat}
theorem pt_lit (ha : PE X a ta) (ht : PA X es t) (hm : behindInMarks .In (.Tuple es x1 p) = false := by rfl) : PT X (.Compare a [.In] [.Tuple es x1 p] pos) (tLit false ta t) := by
  refine ⟨fun pins s σ H Q I h => ?_⟩
  refine wpAny_isTrue_Compare1 (thn (ha.run pins s σ H _ I h) fun v s1 ⟨x, H1, I1, r1, q1⟩ => wpAny_Tuple_spliced (thn (ht.run p pins s1 σ H1 _ I1 q1) fun us s2 ⟨vs, H2, I2, r2, fx, ⟨fs, z⟩, q2⟩ => ?_)) hm
  refine ⟨by rw [← r2.length]; exact szk z, ?_⟩
  have I3 : L2.Inv X pins σ H2 { s2 with heap := s2.heap.push { cls := .type "tuple", data := .seq us.toArray } } := I2.kept (t' := s2.toks) fun b u e => Heap.get?_push_of_some _ e
  have ht : IsTup (s2.heap.push { cls := .type "tuple", data := .seq us.toArray }) s2.heap.objs.size us.toArray := ⟨_, Heap.get?_push_size _ rfl, rfl, _, rfl⟩
  refine SeqAt.in_tupleAt (eqU x) ht (fun w hw => mem_eqAt r1 fx r2 fs w (by simpa using hw)) ?_
  refine wpAny_truthy_bool ⟨H2, I3, ?_⟩
  rw [show us.toArray.any (eqU x) = us.any (eqU x) by simp, any_eqU r2 fs]
  exact q2
theorem pt_nlit (ha : PE X a ta) (ht : PA X es t) (hm : behindInMarks .NotIn (.Tuple es x1 p) = false := by rfl) : PT X (.Compare a [.NotIn] [.Tuple es x1 p] pos) (tLit true ta t) := by
  refine ⟨fun pins s σ H Q I h => ?_⟩
  refine wpAny_isTrue_Compare1 (thn (ha.run pins s σ H _ I h) fun v s1 ⟨x, H1, I1, r1, q1⟩ => wpAny_Tuple_spliced (thn (ht.run p pins s1 σ H1 _ I1 q1) fun us s2 ⟨vs, H2, I2, r2, fx, ⟨fs, z⟩, q2⟩ => ?_)) hm
  refine ⟨by rw [← r2.length]; exact szk z, ?_⟩
  have I3 : L2.Inv X pins σ H2 { s2 with heap := s2.heap.push { cls := .type "tuple", data := .seq us.toArray } } := I2.kept (t' := s2.toks) fun b u e => Heap.get?_push_of_some _ e
  have ht : IsTup (s2.heap.push { cls := .type "tuple", data := .seq us.toArray }) s2.heap.objs.size us.toArray := ⟨_, Heap.get?_push_size _ rfl, rfl, _, rfl⟩
  refine SeqAt.notIn_tupleAt (eqU x) ht (fun w hw => mem_eqAt r1 fx r2 fs w (by simpa using hw)) ?_
  refine wpAny_truthy_bool ⟨H2, I3, ?_⟩
  rw [show us.toArray.any (eqU x) = us.any (eqU x) by simp, any_eqU r2 fs]
  exact q2
end
/-- (a, b, ..) = a tuple, in a block: what is read leans on K alone -/
theorem pg_tupK {X : Cx} {K : PySem.W.Frag} {es : List Expr} {k : Nat} {t : TGs} {n : Nat} {pos : Pos} (hK : X.K = K) (hc : X.calm = true) (h : PGs X es t) (hn : (assignEach es X.env).length = n) (hst : (assignEach es X.env).findIdx? (·.1) = none) : PG X (.Tuple es k pos) (gTup K n t) := by
  subst hK
  exact pg_tup hc h hn hst
end GB
set_option maxHeartbeats 4000000
/-! GW1: plain checks. -/
namespace GB
open PySem PySem.Spec PyProof.Rows L2
theorem kt_int_int {K : Frg} : PySem.W.kitOne K (.type "int") (.type "int") = some true := kit_ty (by decide +kernel)
theorem kt_int_bool {K : Frg} : PySem.W.kitOne K (.type "int") (.type "bool") = some false := kit_ty (by decide +kernel)
theorem kt_tup {K : Frg} : PySem.W.kitOne K (.type "tuple") (.type "tuple") = some true := kit_ty (by decide +kernel)
theorem kt_str {K : Frg} : PySem.W.kitOne K (.type "str") (.type "str") = some true := kit_ty (by decide +kernel)
/-- the table SIZES -/
structure Siz (K : Frg) (w : World) : Prop where
  kd : ∃ es n, KDict K w (He.ga K "SIZES") es n
  val : ∀ q ∈ ([("make", 3), ("slice", 4), ("clip", 2), ("append", 3), ("grow", 3), ("write", 4), ("move", 5), ("read", 3)] : List (Str × Int)), ∃ u, PySem.W.nsIn K (He.ga K "SIZES") q.1 = some (some u) ∧ RelV (.int q.2) u
def btw (a z b : Int) : Bool := decide (a ≤ z) && decide (z ≤ b)
theorem btw_t {a z b : Int} (h : a ≤ z ∧ z ≤ b) : btw a z b = true := by simp [btw, h.1, h.2]
theorem btw_f {a z b : Int} (h : ¬ (a ≤ z ∧ z ≤ b)) : btw a z b = false := by
  cases e : btw a z b with
  | false => rfl
  | true =>
    simp [btw] at e
    exact absurd e h
local macro_rules | `(tactic| walk_at "g") => `(tactic| first
  | refine ⟨_, rfl, ?_⟩
  | refine ⟨_, _, rfl, rfl, ?_⟩
  | refine ⟨_, _, _, _, rfl, rfl, SqT.of (by assumption), by rfl, ?_⟩
  | refine ⟨_, _, _, _, rfl, rfl, SqL.of (by assumption), by rfl, ?_⟩
  | refine ⟨rfl, ⟨rfl, by decide⟩, ?_⟩
  | refine ⟨_, _, _, _, _, rfl, .ty _, .base (.tup (by assumption)), kt_tup, ?_⟩
  | refine ⟨_, _, _, _, _, rfl, .ty _, .base (.str _), kt_str, ?_⟩
  | refine ⟨_, _, rfl, .inr (SqT.of (by assumption)), ?_⟩
  | refine ⟨_, _, rfl, .inl (SqL.of (by assumption)), ?_⟩
  | refine iteT_of (by first | decide +kernel | rfl) ?_
  | refine iteF_of (by first | decide +kernel | rfl) ?_
  | refine iteT_of (btw_t (by omega)) ?_
  | refine iteF_of (by rw [btw_t (by omega)]; rfl) ?_
  | refine ⟨_, _, rfl, rfl, by assumption, ?_⟩
  | refine ⟨_, _, _, rfl, rfl, by assumption, ?_⟩
  | refine ⟨_, _, _, rfl, ?_⟩
  | refine ⟨_, _, rfl, SqT.of (by assumption), by rfl, ?_⟩
  | refine ⟨_, _, rfl, ?_⟩
  | refine ⟨.inl (by decide), ?_⟩
  | refine ⟨rfl, ?_⟩)
local macro_rules | `(tactic| walk_at "gs") => `(tactic| repeat walk_at "g")
local macro_rules | `(tactic| walk_at "b") => `(tactic| (first | decide +kernel | (simp only [decide_eq_true_eq, decide_eq_false_iff_not, List.length_map, V.int.injEq, Bool.not_eq_true', Bool.not_eq_false']; omega)))
section
variable {P : Program} {w : World} {K : Frg} {mg : Str → Option Value} {base : Heap}
/-- an int is an integer -/
def sp_is_integer : Sp := fun vs H Q _ => ∃ z : Int, vs = [.int z] ∧ Q (.bl true) H
theorem ok_is_integer (T : Txt K mg) : Ok P w K mg base CX0 1 ("is_integer", none) P_is_integer sp_is_integer := by
  refine Ok.of T.f_is_integer sc_is_integer (fun _ _ _ _ _ _ us hl => match us, hl with | [_], _ => rfl) (fun vs H Q E h => ?_) fun f cdv A outer s H vs Q E hr h => ?_
  · obtain ⟨z, rfl, _⟩ := h
    rfl
  · obtain ⟨z, rfl, q⟩ := h
    refine ⟨_, PSs.nox (pss_one (ps_ret (pe_and (pe_callB call_isi rfl T.bi.isinstance (by decide +kernel) (pa_cons (pv 0) (pa_cons (pe_bltn (v := .ty "int") rfl T.bi.int (by decide +kernel) rfl) pa_nil))) (pe_one (pe_not (pe_callB call_isi rfl T.bi.isinstance (by decide +kernel) (pa_cons (pv 0) (pa_cons (pe_bltn (v := .ty "bool") rfl T.bi.bool (by decide +kernel) rfl) pa_nil)))))))), ?_⟩
    refine ⟨_, rfl, _, _, _, _, _, rfl, .ty _, .base (.int _), kt_int_int, _, rfl, iteT ?_⟩
    exact ⟨_, rfl, _, _, _, _, _, rfl, .ty _, .base (.int _), kt_int_bool, _, rfl, q⟩
/-- whether z is between a and b -/
def sp_is_between : Sp := fun vs H Q _ => ∃ z a b : Int, vs = [.int z, .int a, .int b] ∧ Q (.bl (btw a z b)) H
theorem ok_is_between (T : Txt K mg) : Ok P w K mg base CX0 2 ("is_between", none) P_is_between sp_is_between := by
  refine Ok.of T.f_is_between sc_is_between (fun _ _ _ _ _ _ us hl => match us, hl with | [_, _, _], _ => rfl) (fun vs H Q E h => ?_) fun f cdv A outer s H vs Q E hr h => ?_
  · obtain ⟨z, a, b, rfl, _⟩ := h
    rfl
  · obtain ⟨z, a, b, rfl, q⟩ := h
    refine ⟨_, PSs.nox (pss_one (ps_ret (pe_and (pf (ok_is_integer T) T.g_is_integer hr rfl pass0 (pa_cons (pv 0) pa_nil)) (pe_one (pe_chain op_le op_le (pv 1) (pv 0) (pv 2)))))), ?_⟩
    refine ⟨_, rfl, _, rfl, _, rfl, iteT ?_⟩
    refine ⟨_, rfl, _, rfl, _, _, rfl, rfl, _, rfl, ?_⟩
    unfold btw at q
    refine iteD (fun c => ?_) fun c => ?_
    · rw [c, Bool.true_and] at q
      exact ⟨_, rfl, _, _, rfl, rfl, q⟩
    · rw [c, Bool.false_and] at q
      exact q
/-- whether a value may be written -/
def sp_is_value : Sp := fun vs H Q _ => ∃ z : Int, vs = [.int z] ∧ Vv z ∧ Q (.bl true) H
theorem ok_is_value (T : Txt K mg) : Ok P w K mg base CX0 3 ("is_value", none) P_is_value sp_is_value := by
  refine Ok.of T.f_is_value sc_is_value (fun _ _ _ _ _ _ us hl => match us, hl with | [_], _ => rfl) (fun vs H Q E h => ?_) fun f cdv A outer s H vs Q E hr h => ?_
  · obtain ⟨z, rfl, _⟩ := h
    rfl
  · obtain ⟨z, rfl, hz, q⟩ := h
    refine ⟨_, PSs.nox (pss_one (ps_ret (pf (ok_is_between T) T.g_is_between hr rfl pass0 (pa_cons (pv 0) (pa_cons (pe_op op_sub pe_int (pe_ci T.c_VALUE_LIMIT rfl)) (pa_cons (pe_op op_sub (pe_ci T.c_VALUE_LIMIT rfl) pe_int) pa_nil)))))), ?_⟩
    rw [← btw_t hz] at q
    exact ⟨_, rfl, _, _, rfl, rfl, _, _, rfl, rfl, _, _, _, rfl, q⟩
/-- values that may be appended -/
def sp_are_values : Sp := fun vs H Q _ => ∃ (a : Addr) (zs : List Int), vs = [.ref a] ∧ H a = some (.tup (zs.map .int)) ∧ 1 ≤ zs.length ∧ zs.length ≤ 6 ∧ (∀ z ∈ zs, Vv z) ∧ ∀ H', Same H H' → Q (.bl true) H'
theorem ok_are_values (T : Txt K mg) : Ok P w K mg base CX0 4 ("are_values", none) P_are_values sp_are_values := by
  refine Ok.of T.f_are_values sc_are_values (fun _ _ _ _ _ _ us hl => match us, hl with | [_], _ => rfl) (fun vs H Q E h => ?_) fun f cdv A outer s H vs Q E hr h => ?_
  · obtain ⟨a, zs, rfl, _⟩ := h
    rfl
  · obtain ⟨a, zs, rfl, ha, h1, h6, hv, q⟩ := h
    refine ⟨_, PSs.nox (pss_one (ps_ret (pe_and (pe_callB call_isi rfl T.bi.isinstance (by decide +kernel) (pa_cons (pv 0) (pa_cons (pe_bltn (v := .ty "tuple") rfl T.bi.tuple (by decide +kernel) rfl) pa_nil))) (pe_and (pe_chain op_le op_le pe_int (pe_callB call_len_seq rfl T.bi.len (by decide +kernel) (pa_cons (pv 0) pa_nil)) (pe_ci T.c_MOST_VALUES rfl)) (pe_one (pe_callB (cr_all rfl) rfl T.bi.all (by decide +kernel) (pa_cons (pe_lc (own := [("one", 1)]) rfl sc_are_values.nd (pi_tup (pv 0)) (blkOk_by rfl) (fun _ _ _ _ _ => (pg_name (i := 1) sc_are_values.nd rfl (Or.inl rfl) (.inr rfl))) (fun _ _ _ _ _ => pts_nil) (fun _ _ _ _ _ => (pf (ok_is_value T) T.g_is_value hr rfl pass0 (pa_cons (pv 1) pa_nil)))) pa_nil))))))), ?_⟩
    walk_at "gs"
    refine iteT_of (by walk_at "b") ⟨_, _, rfl, rfl, ?_⟩
    refine ⟨_, rfl, iteT_of (by walk_at "b") ?_⟩
    walk_at "gs"
    refine ⟨⟨_, SqT.of ha⟩, fun D hD => ?_⟩
    refine lc_tup (xs := zs.map .int) (fun i H' => Same H H' ∧ H' D = some (.lst ((List.replicate i true).map .bl))) ⟨Same.new hD, upd_same⟩ (fun i H' _ p => SqT.of (p.1 _ _ ha)) (fun i x H' hx p => ?_) fun H' p => ?_
    · rw [List.getElem?_map] at hx
      obtain ⟨z, hz, rfl⟩ := Option.map_eq_some_iff.mp hx
      obtain ⟨p1, p2⟩ := p
      refine ⟨rfl, ?_⟩
      refine ⟨_, rfl, _, rfl, hv z (List.mem_of_getElem? hz), _, p2, ?_, fun a o e => ?_, ?_⟩
      · obtain ⟨hi, _⟩ := List.getElem?_eq_some_iff.mp hz
        rw [List.length_map, List.length_replicate, sizeLine_eq]
        omega
      · rw [upd_ne (ne_of_none e hD)]
        exact p1 a o e
      · rw [upd_same, List.replicate_succ', List.map_append] <;> rfl
    · refine ⟨D, _, rfl, SqL.of p.2, ?_⟩
      rw [show ((List.replicate (zs.map V.int).length true).all id) = true by simp]
      exact q H' p.1
/-- a cell that is there -/
def sp_is_cell : Sp := fun vs H Q _ => ∃ (a : Addr) (xs : List V) (v : Nat) (i : Int) (sp : List Span), vs = [.ref a, .int v, .int i] ∧ H a = some (.lst xs) ∧ RpA H xs (sp.map spD) ∧ InV sp v i ∧ Q (.bl true) H
theorem ok_is_cell (T : Txt K mg) : Ok P w K mg base CX0 4 ("is_cell", none) P_is_cell sp_is_cell := by
  refine Ok.of T.f_is_cell sc_is_cell (fun _ _ _ _ _ _ us hl => match us, hl with | [_, _, _], _ => rfl) (fun vs H Q E h => ?_) fun f cdv A outer s H vs Q E hr h => ?_
  · obtain ⟨a, xs, v, i, sp, rfl, _⟩ := h
    rfl
  · obtain ⟨a, xs, v, i, sp, rfl, ha, hs, ⟨p, hp, h0, h1⟩, q⟩ := h
    refine ⟨_, PSs.nox (pss_one (ps_ret (pe_and (pf (ok_is_between T) T.g_is_between hr rfl pass0 (pa_cons (pv 1) (pa_cons pe_int (pa_cons (pe_op op_sub (pe_callB call_len_seq rfl T.bi.len (by decide +kernel) (pa_cons (pv 0) pa_nil)) pe_int) pa_nil)))) (pe_one (pf (ok_is_between T) T.g_is_between hr rfl pass0 (pa_cons (pv 2) (pa_cons pe_int (pa_cons (pe_op op_sub (pe_ix ix_tup (pe_ix ix_list (pv 0) (pv 1) (fun _ _ => rfl)) pe_int (fun _ _ => rfl)) pe_int) pa_nil)))))))), ?_⟩
    obtain ⟨u, hu, ru⟩ := hs.get (d := spD p) (by rw [List.getElem?_map, hp] <;> rfl)
    obtain ⟨b, rfl, hb⟩ := (rp_sp p).mp ru
    have hi : v < xs.length := (List.getElem?_eq_some_iff.mp hu).1
    walk_at "gs"
    refine ⟨_, _, _, _, rfl, rfl, SqL.of ha, atI_nat hu, ?_⟩
    walk_at "gs"
    rw [btw_t ⟨by omega, by omega⟩]
    exact q
end
end GB
set_option maxHeartbeats 4000000
/-! GW2: statements and policies are valid. -/
namespace GB
open PySem PySem.Spec PyProof.Rows L2
local macro_rules | `(tactic| walk_at "g") => `(tactic| first
  | refine ⟨_, rfl, ?_⟩
  | refine ⟨_, _, rfl, rfl, ?_⟩
  | refine ⟨_, _, _, _, rfl, rfl, SqT.of (by assumption), by rfl, ?_⟩
  | refine ⟨_, _, _, _, rfl, rfl, SqL.of (by assumption), by rfl, ?_⟩
  | refine ⟨rfl, ⟨rfl, by decide⟩, ?_⟩
  | refine ⟨_, _, _, _, _, rfl, .ty _, .base (.tup (by assumption)), kt_tup, ?_⟩
  | refine ⟨_, _, _, _, _, rfl, .ty _, .base (.str _), kt_str, ?_⟩
  | refine ⟨_, _, rfl, .inr (SqT.of (by assumption)), ?_⟩
  | refine ⟨_, _, rfl, .inl (SqL.of (by assumption)), ?_⟩
  | refine iteT_of (by first | decide +kernel | rfl) ?_
  | refine iteF_of (by first | decide +kernel | rfl) ?_
  | refine iteT_of (btw_t (by omega)) ?_
  | refine iteF_of (by rw [btw_t (by omega)]; rfl) ?_
  | refine ⟨_, _, rfl, rfl, by assumption, ?_⟩
  | refine ⟨_, _, _, rfl, rfl, by assumption, ?_⟩
  | refine ⟨_, _, _, rfl, ?_⟩
  | refine ⟨_, _, rfl, SqT.of (by assumption), by rfl, ?_⟩
  | refine ⟨_, _, rfl, ?_⟩
  | refine ⟨.inl (by decide), ?_⟩
  | refine ⟨rfl, ?_⟩)
local macro_rules | `(tactic| walk_at "gs") => `(tactic| repeat walk_at "g")
local macro_rules | `(tactic| walk_at "b") => `(tactic| (first | decide +kernel | (simp only [decide_eq_true_eq, decide_eq_false_iff_not, List.length_map, V.int.injEq, Bool.not_eq_true', Bool.not_eq_false']; omega)))
theorem getD_of {α : Type} {l : List α} {i : Nat} {x d : α} (h : l[i]? = some x) : l.getD i d = x := by
  rw [List.getD_eq_getElem?_getD, h] <;> rfl
section
variable {P : Program} {w : World} {K : Frg} {mg : Str → Option Value} {base : Heap}
/-- what a span is as a value -/
def SpR (H : Hp) (v : V) : Option Span → Prop
  | none => v = .non
  | some p => Rp H v (spD p)
/-- the span of a valid statement -/
def sp_span_of : Sp := fun vs H Q _ => ∃ (a b : Addr) (xs : List V) (st : Stm) (sp : List Span), vs = [.ref a, .ref b] ∧ stV a H st ∧ H b = some (.lst xs) ∧ RpA H xs (sp.map spD) ∧ Val sp st ∧ ∀ v H', Same H H' → SpR H' v (spanOf sp st) → Q v H'
theorem spq {H' : Hp} {p : Addr} {x y : Int} (h : H' p = some (.tup [.int x, .int y])) : Rp H' (.ref p) (spD (x, y)) := (rp_sp _).mpr ⟨p, rfl, h⟩
theorem ok_span_of (T : Txt K mg) : Ok P w K mg base CX0 1 ("span_of", none) P_span_of sp_span_of := by
  refine Ok.of T.f_span_of sc_span_of (fun _ _ _ _ _ _ us hl => match us, hl with | [_, _], _ => rfl) (fun vs H Q E h => ?_) fun f cdv A outer s H vs Q E hr h => ?_
  · obtain ⟨a, b, xs, st, sp, rfl, _⟩ := h
    rfl
  · obtain ⟨a, b, xs, st, sp, rfl, hst, hb, hs, hv, q⟩ := h
    refine ⟨_, PSs.nox (pss_cons (ps_set (i := 2) sc_span_of.nd rfl (Or.inl rfl) (pe_ix ix_tup (pv 0) pe_int (fun _ _ => rfl)))
      (pss_cons (ps_if (pt_cmpR op_eq (pv 2) pe_str (nomark _))
       (pss_one (ps_ret (pe_tup (pa_cons pe_int (pa_cons (pe_ix ix_tup (pv 0) pe_int (fun _ _ => rfl)) pa_nil)))))
       pss_nil)
      (pss_cons (ps_if (pt_nlit (pv 2) (pa_cons pe_str (pa_cons pe_str (pa_cons pe_str (pa_cons pe_str pa_nil)))))
       (pss_one (ps_ret pe_non))
       pss_nil)
      (pss_cons (ps_asg (pe_ix ix_list (pv 1) (pe_ix ix_tup (pv 0) pe_int (fun _ _ => rfl)) (fun _ _ => rfl)) (pg_tup rfl (pgs_cons (pg_name (i := 3) sc_span_of.nd rfl (Or.inl rfl)) (pgs_cons (pg_name (i := 4) sc_span_of.nd rfl (Or.inl rfl)) pgs_nil))))
      (pss_cons (ps_if (pt_cmpR op_eq (pv 2) pe_str (nomark _))
       (pss_one (ps_ret (pe_tup (pa_cons (pe_op op_add (pv 3) (pe_ix ix_tup (pv 0) pe_int (fun _ _ => rfl))) (pa_cons (pe_op op_sub (pe_ix ix_tup (pv 0) pe_int (fun _ _ => rfl)) (pe_ix ix_tup (pv 0) pe_int (fun _ _ => rfl))) pa_nil)))))
       pss_nil)
      (pss_cons (ps_if (pt_cmpR op_eq (pv 2) pe_str (nomark _))
       (pss_one (ps_ret (pe_tup (pa_cons (pv 3) (pa_cons (pv 4) pa_nil)))))
       pss_nil)
      (pss_one (ps_ret (pe_tup (pa_cons (pv 3) (pa_cons (pe_op op_add (pv 4) (pe_callB call_len_seq rfl T.bi.len (by decide +kernel) (pa_cons (pe_ix ix_tup (pv 0) pe_int (fun _ _ => rfl)) pa_nil))) pa_nil))))))))))), ?_⟩
    have get : ∀ {v : Nat} {p : Span}, sp[v]? = some p → ∃ c, xs[v]? = some (.ref c) ∧ H c = some (.tup [.int p.1, .int p.2]) := fun {v p} hp => by
      obtain ⟨u, hu, ru⟩ := hs.get (d := spD p) (by rw [List.getElem?_map, hp] <;> rfl)
      obtain ⟨c, rfl, hc⟩ := (rp_sp p).mp ru
      exact ⟨c, hu, hc⟩
    cases st with
    | make l c =>
      have ha : H a = some _ := hst
      walk_at "gs"
      exact ⟨szk (n := 2) (by decide), fun d hd => q _ _ (Same.new hd) (spq upd_same)⟩
    | slice v lo hi =>
      have ha : H a = some _ := hst
      obtain ⟨p, hp, _⟩ := hv
      obtain ⟨c, hc, hcc⟩ := get hp
      walk_at "gs"
      refine ⟨_, _, _, _, rfl, rfl, SqL.of hb, atI_nat hc, ?_⟩
      walk_at "gs"
      refine ⟨szk (n := 2) (by decide), fun d hd => q _ _ (Same.new hd) (spq ?_)⟩
      rw [getD_of hp]
      exact upd_same
    | clip v =>
      have ha : H a = some _ := hst
      obtain ⟨p, hp⟩ := hv
      obtain ⟨c, hc, hcc⟩ := get hp
      walk_at "gs"
      refine ⟨_, _, _, _, rfl, rfl, SqL.of hb, atI_nat hc, ?_⟩
      walk_at "gs"
      refine ⟨szk (n := 2) (by decide), fun d hd => q _ _ (Same.new hd) ?_⟩
      show Rp _ _ (spD (sp.getD v (0, 0)))
      rw [getD_of hp]
      exact spq upd_same
    | app g v zs =>
      obtain ⟨z, ha, hz⟩ := hst
      obtain ⟨⟨p, hp⟩, _⟩ := hv
      obtain ⟨c, hc, hcc⟩ := get hp
      cases g with
      | true =>
        have ha : H a = some (.tup [.str "grow", _, _]) := ha
        walk_at "gs"
        refine ⟨_, _, _, _, rfl, rfl, SqL.of hb, atI_nat hc, ?_⟩
        walk_at "gs"
        refine ⟨szk (n := 2) (by decide), fun d hd => q _ _ (Same.new hd) (spq ?_)⟩
        rw [getD_of hp, upd_same, List.length_map]
      | false =>
        have ha : H a = some (.tup [.str "append", _, _]) := ha
        walk_at "gs"
        refine ⟨_, _, _, _, rfl, rfl, SqL.of hb, atI_nat hc, ?_⟩
        walk_at "gs"
        refine ⟨szk (n := 2) (by decide), fun d hd => q _ _ (Same.new hd) (spq ?_)⟩
        rw [getD_of hp, upd_same, List.length_map]
    | write v i x =>
      have ha : H a = some _ := hst
      walk_at "gs"
      exact q _ _ (Same.refl H) rfl
    | move v i u j =>
      have ha : H a = some _ := hst
      walk_at "gs"
      exact q _ _ (Same.refl H) rfl
    | read u j =>
      have ha : H a = some _ := hst
      walk_at "gs"
      exact q _ _ (Same.refl H) rfl
/-- a valid statement -/
def sp_is_statement : Sp := fun vs H Q _ => ∃ (a b : Addr) (xs : List V) (st : Stm) (sp : List Span), vs = [.ref a, .ref b] ∧ stV a H st ∧ H b = some (.lst xs) ∧ RpA H xs (sp.map spD) ∧ Val sp st ∧ ∀ H', Same H H' → Q (.bl true) H'
theorem ok_is_statement (T : Txt K mg) (Z : Siz K w) : Ok P w K mg base CX0 5 ("is_statement", none) P_is_statement sp_is_statement := by
  obtain ⟨⟨es, n, kd⟩, sz⟩ := Z
  refine Ok.of T.f_is_statement sc_is_statement (fun _ _ _ _ _ _ us hl => match us, hl with | [_, _], _ => rfl) (fun vs H Q E h => ?_) fun f cdv A outer s H vs Q E hr h => ?_
  · obtain ⟨a, b, xs, st, sp, rfl, _⟩ := h
    rfl
  · obtain ⟨a, b, xs, st, sp, rfl, hst, hb, hs, hv, q⟩ := h
    refine ⟨_, PSs.nox (pss_cons (ps_if (PW.pt (pw_or (pt_not (pt_val (pe_callB call_isi rfl T.bi.isinstance (by decide +kernel) (pa_cons (pv 0) (pa_cons (pe_bltn (v := .ty "tuple") rfl T.bi.tuple (by decide +kernel) rfl) pa_nil))))) (pw_or (pt_cmpR op_eq (pe_callB call_len_seq rfl T.bi.len (by decide +kernel) (pa_cons (pv 0) pa_nil)) pe_int (nomark _)) (pw_or1 (pt_not (pt_val (pe_callB call_isi rfl T.bi.isinstance (by decide +kernel) (pa_cons (pe_ix ix_tup (pv 0) pe_int (fun _ _ => rfl)) (pa_cons (pe_bltn (v := .ty "str") rfl T.bi.str (by decide +kernel) rfl) pa_nil)))))))))
       (pss_one (ps_ret pe_bl))
       pss_nil)
      (pss_cons (ps_set (i := 2) sc_is_statement.nd rfl (Or.inl rfl) (pe_ix ix_tup (pv 0) pe_int (fun _ _ => rfl)))
      (pss_cons (ps_if (PW.pt (pw_or (pt_cmpR (op_notIn_kd kd) (pv 2) (pe_glob (v := .ref (He.ga K "SIZES")) rfl T.g_SIZES rfl) rfl) (pw_or1 (pt_cmpR op_ne (pe_callB call_len_seq rfl T.bi.len (by decide +kernel) (pa_cons (pv 0) pa_nil)) (pe_ix ix_kdict (pe_glob (v := .ref (He.ga K "SIZES")) rfl T.g_SIZES rfl) (pv 2) (fun _ _ => rfl)) (nomark _)))))
       (pss_one (ps_ret pe_bl))
       pss_nil)
      (pss_cons (ps_if (pt_cmpR op_eq (pv 2) pe_str (nomark _))
       (pss_one (ps_ret (pe_and (pf (ok_is_between T) T.g_is_between hr rfl pass0 (pa_cons (pe_ix ix_tup (pv 0) pe_int (fun _ _ => rfl)) (pa_cons pe_int (pa_cons (pe_ci T.c_MOST_CELLS rfl) pa_nil)))) (pe_one (pf (ok_is_between T) T.g_is_between hr rfl pass0 (pa_cons (pe_ix ix_tup (pv 0) pe_int (fun _ _ => rfl)) (pa_cons pe_int (pa_cons (pe_ix ix_tup (pv 0) pe_int (fun _ _ => rfl)) pa_nil))))))))
       pss_nil)
      (pss_cons (ps_if (pt_not (pt_val (pf (ok_is_between T) T.g_is_between hr rfl pass0 (pa_cons (pe_ix ix_tup (pv 0) pe_int (fun _ _ => rfl)) (pa_cons pe_int (pa_cons (pe_op op_sub (pe_callB call_len_seq rfl T.bi.len (by decide +kernel) (pa_cons (pv 1) pa_nil)) pe_int) pa_nil))))))
       (pss_one (ps_ret pe_bl))
       pss_nil)
      (pss_cons (ps_if (pt_cmpR op_eq (pv 2) pe_str (nomark _))
       (pss_one (ps_ret (pe_and (pf (ok_is_between T) T.g_is_between hr rfl pass0 (pa_cons (pe_ix ix_tup (pv 0) pe_int (fun _ _ => rfl)) (pa_cons pe_int (pa_cons (pe_ix ix_tup (pe_ix ix_list (pv 1) (pe_ix ix_tup (pv 0) pe_int (fun _ _ => rfl)) (fun _ _ => rfl)) pe_int (fun _ _ => rfl)) pa_nil)))) (pe_one (pf (ok_is_between T) T.g_is_between hr rfl pass0 (pa_cons (pe_ix ix_tup (pv 0) pe_int (fun _ _ => rfl)) (pa_cons pe_int (pa_cons (pe_ix ix_tup (pv 0) pe_int (fun _ _ => rfl)) pa_nil))))))))
       pss_nil)
      (pss_cons (ps_if (pt_lit (pv 2) (pa_cons pe_str (pa_cons pe_str pa_nil)))
       (pss_one (ps_ret (pf (ok_are_values T) T.g_are_values hr rfl pass0 (pa_cons (pe_ix ix_tup (pv 0) pe_int (fun _ _ => rfl)) pa_nil))))
       pss_nil)
      (pss_cons (ps_if (pt_cmpR op_eq (pv 2) pe_str (nomark _))
       (pss_one (ps_ret pe_bl))
       pss_nil)
      (pss_cons (ps_if (pt_not (pt_val (pf (ok_is_cell T) T.g_is_cell hr rfl pass0 (pa_cons (pv 1) (pa_cons (pe_ix ix_tup (pv 0) pe_int (fun _ _ => rfl)) (pa_cons (pe_ix ix_tup (pv 0) pe_int (fun _ _ => rfl)) pa_nil))))))
       (pss_one (ps_ret pe_bl))
       pss_nil)
      (pss_cons (ps_if (pt_cmpR op_eq (pv 2) pe_str (nomark _))
       (pss_one (ps_ret (pf (ok_is_value T) T.g_is_value hr rfl pass0 (pa_cons (pe_ix ix_tup (pv 0) pe_int (fun _ _ => rfl)) pa_nil))))
       pss_nil)
      (pss_one (ps_ret (pe_or (pe_cmpR op_eq (pv 2) pe_str (nomark _)) (pe_one (pf (ok_is_cell T) T.g_is_cell hr rfl pass0 (pa_cons (pv 1) (pa_cons (pe_ix ix_tup (pv 0) pe_int (fun _ _ => rfl)) (pa_cons (pe_ix ix_tup (pv 0) pe_int (fun _ _ => rfl)) pa_nil)))))))))))))))))), ?_⟩
    have get : ∀ {v : Nat} {p : Span}, sp[v]? = some p → v < xs.length ∧ ∃ c, xs[v]? = some (.ref c) ∧ H c = some (.tup [.int p.1, .int p.2]) := fun {v p} hp => by
      obtain ⟨u, hu, ru⟩ := hs.get (d := spD p) (by rw [List.getElem?_map, hp] <;> rfl)
      obtain ⟨c, rfl, hc⟩ := (rp_sp p).mp ru
      exact ⟨(List.getElem?_eq_some_iff.mp hu).1, c, hu, hc⟩
    cases st with
    | make l c =>
      have ha : H a = some _ := hst
      have hv : 0 ≤ l ∧ l ≤ c ∧ c ≤ 10 ^ 30 := hv
      obtain ⟨u, hu, ru⟩ := sz ("make", 3) (by simp)
      have hd : KDct K w (He.ga K "SIZES") "make" (.int 3) := ⟨_, _, u, kd.at_, kd.lit, hu, ru⟩
      walk_at "gs"
      rw [btw_t (by omega)]
      exact q _ (Same.refl _)
    | slice v lo hi =>
      have ha : H a = some _ := hst
      obtain ⟨p, hp, h1, h2, h3⟩ := hv
      obtain ⟨hl, c, hc, hcc⟩ := get hp
      obtain ⟨u, hu, ru⟩ := sz ("slice", 4) (by simp)
      have hd : KDct K w (He.ga K "SIZES") "slice" (.int 4) := ⟨_, _, u, kd.at_, kd.lit, hu, ru⟩
      walk_at "gs"
      refine ⟨_, _, _, _, rfl, rfl, SqL.of hb, atI_nat hc, ?_⟩
      walk_at "gs"
      rw [btw_t (by omega)]
      exact q _ (Same.refl _)
    | clip v =>
      have ha : H a = some _ := hst
      obtain ⟨p, hp⟩ := hv
      obtain ⟨hl, c, hc, hcc⟩ := get hp
      obtain ⟨u, hu, ru⟩ := sz ("clip", 2) (by simp)
      have hd : KDct K w (He.ga K "SIZES") "clip" (.int 2) := ⟨_, _, u, kd.at_, kd.lit, hu, ru⟩
      walk_at "gs"
      exact q _ (Same.refl _)
    | app g v zs =>
      obtain ⟨z, ha, hz⟩ := hst
      obtain ⟨⟨p, hp⟩, h1, h2, h3⟩ := hv
      obtain ⟨hl, c, hc, hcc⟩ := get hp
      cases g with
      | true =>
        have ha : H a = some (.tup [.str "grow", _, _]) := ha
        obtain ⟨u, hu, ru⟩ := sz ("grow", 3) (by simp)
        have hd : KDct K w (He.ga K "SIZES") "grow" (.int 3) := ⟨_, _, u, kd.at_, kd.lit, hu, ru⟩
        walk_at "gs"
        exact ⟨z, zs, rfl, hz, h1, h2, h3, q⟩
      | false =>
        have ha : H a = some (.tup [.str "append", _, _]) := ha
        obtain ⟨u, hu, ru⟩ := sz ("append", 3) (by simp)
        have hd : KDct K w (He.ga K "SIZES") "append" (.int 3) := ⟨_, _, u, kd.at_, kd.lit, hu, ru⟩
        walk_at "gs"
        exact ⟨z, zs, rfl, hz, h1, h2, h3, q⟩
    | write v i x =>
      have ha : H a = some _ := hst
      obtain ⟨hv, hx⟩ := hv
      obtain ⟨p, hp, _⟩ := id hv
      obtain ⟨hl, c, hc, hcc⟩ := get hp
      obtain ⟨u0, hu, ru⟩ := sz ("write", 4) (by simp)
      have hd : KDct K w (He.ga K "SIZES") "write" (.int 4) := ⟨_, _, u0, kd.at_, kd.lit, hu, ru⟩
      walk_at "gs"
      refine ⟨b, xs, _, _, sp, rfl, hb, hs, hv, ?_⟩
      walk_at "gs"
      exact ⟨hx, q _ (Same.refl _)⟩
    | move v i u j =>
      have ha : H a = some _ := hst
      obtain ⟨hv, hx⟩ := hv
      obtain ⟨p, hp, _⟩ := id hv
      obtain ⟨hl, c, hc, hcc⟩ := get hp
      obtain ⟨u0, hu, ru⟩ := sz ("move", 5) (by simp)
      have hd : KDct K w (He.ga K "SIZES") "move" (.int 5) := ⟨_, _, u0, kd.at_, kd.lit, hu, ru⟩
      walk_at "gs"
      refine ⟨b, xs, _, _, sp, rfl, hb, hs, hv, ?_⟩
      walk_at "gs"
      exact ⟨b, xs, _, _, sp, rfl, hb, hs, hx, q _ (Same.refl _)⟩
    | read u j =>
      have ha : H a = some _ := hst
      obtain ⟨p, hp, _⟩ := id hv
      obtain ⟨hl, c, hc, hcc⟩ := get hp
      obtain ⟨u0, hu, ru⟩ := sz ("read", 3) (by simp)
      have hd : KDct K w (He.ga K "SIZES") "read" (.int 3) := ⟨_, _, u0, kd.at_, kd.lit, hu, ru⟩
      walk_at "gs"
      refine ⟨b, xs, _, _, sp, rfl, hb, hs, hv, ?_⟩
      walk_at "gs"
      exact q _ (Same.refl _)
end
end GB
set_option maxHeartbeats 4000000
/-! GEnum: enumerate over a tuple, from any start on. -/
namespace PySem
namespace GEn
open Sem (wp)
open PyProof.Rows
abbrev EnO (it : Addr) (out : Value) (i : Int) (g old : Value) : Obj := { cls := .type "enumerate", dict := none, data := .fields #[out, .bool false, .ref it, rawInt i, g, old], slots := #[] }
/-- the index that is handed out next: i, or the start as it was given -/
def GivenAt (g : Value) (i : Int) : Prop := g = .none ∨ ∃ t, g = .int i t
set_option maxHeartbeats 1000000 in
theorem meets_new0 {v : Value} {o : Obj} {H : Heap → Prop} (B : Begins v o H) :
    Meets (Builtin.«enumerate.__new__» ⟨[.type "enumerate", v], []⟩) (fun _ R s => H s.heap ∧
      R (.ok (.ret (.ref (s.heap.push o).objs.size))) { s with heap := (s.heap.push o).push (EnO s.heap.objs.size .none 0 .none .none) }) :=
  .of_wp fun prog w A R s h => by
    obtain ⟨hp, g, d, tk, os⟩ := s; obtain ⟨h1, h⟩ := h
    have hsub := sub_enumerate
    have q1 : ∀ {A' : Around} {E : Value → Shared → Prop} {Q : Value → Shared → Prop}, Q (.ref hp.objs.size) ⟨hp.push o, g, d, tk, os⟩ → wpAny (model prog w) A' (pyIter v) Q E ⟨hp, g, d, tk, os⟩ :=
      fun q => B.iter prog w _ _ ⟨hp, g, d, tk, os⟩ _ h1 q
    wp_walk using q1
    refine wpAny_stack_any fun st => wpAny_pure ?_
    split
    · rename_i c _ _ _ _ _
      cases (c == Value.type "enumerate")
      · wp_walk using q1
        exact ⟨_, rfl, h⟩
      · wp_walk using q1
        exact ⟨_, rfl, h⟩
    · wp_walk using q1
      exact ⟨_, rfl, h⟩
set_option maxHeartbeats 1000000 in
theorem meets_newH {v : Value} {o : Obj} {H : Heap → Prop} (B : Begins v o H) (k : Int) (t : Tok) (hfit : Builtin.SmallTypes.fitsIndex k = false) :
    Meets (Builtin.«enumerate.__new__» ⟨[.type "enumerate", v], [(Str.ofString "start", .int k t)]⟩) (fun _ R s => H s.heap ∧
      R (.ok (.ret (.ref (s.heap.push o).objs.size))) { s with heap := (s.heap.push o).push (EnO s.heap.objs.size .none k (.int k t) .none) }) :=
  .of_wp fun prog w A R s h => by
    obtain ⟨hp, g, d, tk, os⟩ := s; obtain ⟨h1, h⟩ := h
    have hsub := sub_enumerate
    have hnf : (!Builtin.SmallTypes.fitsIndex k) = true := by rw [hfit]; rfl
    have q1 : ∀ {A' : Around} {E : Value → Shared → Prop} {Q : Value → Shared → Prop}, Q (.ref hp.objs.size) ⟨hp.push o, g, d, tk, os⟩ → wpAny (model prog w) A' (pyIter v) Q E ⟨hp, g, d, tk, os⟩ :=
      fun q => B.iter prog w _ _ ⟨hp, g, d, tk, os⟩ _ h1 q
    have e1 : (Str.ofString "start" == ("start" : Str)) = true := by decide +kernel
    have e2 : (Str.ofString "start" != ("start" : Str)) = false := by decide +kernel
    have e3 : (Str.ofString "start" != ("iterable" : Str)) = true := by decide +kernel
    have e4 : (("start" : Str) == Str.ofString "start") = true := by decide +kernel
    have e5 : (("iterable" : Str) == Str.ofString "start") = false := by decide +kernel
    wp_walk using q1
    refine wpAny_stack_any fun st => wpAny_pure ?_
    split
    · rename_i c _ _ _ _ _
      cases (c == Value.type "enumerate")
      · wp_walk using q1
        exact ⟨_, rfl, h⟩
      · wp_walk using q1
        exact ⟨_, rfl, h⟩
    · wp_walk using q1
      exact ⟨_, rfl, h⟩
section
variable {prog : Program} {w : World} {A : Around} {E : Value → Shared → Prop} {s : Shared}
theorem made {v : Value} {o : Obj} {H : Heap → Prop} {k : Int} {g : Value} {hp : Heap} {Q : Heap → Prop} (B : Begins v o H)
    (h : ∀ h', h'.get? (hp.objs.size + 1) = some (EnO hp.objs.size .none k g .none) → h'.get? hp.objs.size = some o → (∀ b o, hp.get? b = some o → h'.get? b = some o) → Q h') :
    (hp.push o).objs.size = hp.objs.size + 1 ∧ ((hp.push o).push (EnO hp.objs.size .none k g .none)).get? (hp.objs.size + 1) = some (EnO hp.objs.size .none k g .none) ∧ Q ((hp.push o).push (EnO hp.objs.size .none k g .none)) := by
  have hz : (hp.push o).objs.size = hp.objs.size + 1 := Heap.size_push ..
  have he : ((hp.push o).push (EnO hp.objs.size .none k g .none)).get? (hp.objs.size + 1) = some (EnO hp.objs.size .none k g .none) := by
    have := Heap.get?_push_size (hp.push o) (o := EnO hp.objs.size .none k g .none) rfl
    rw [hz] at this; exact this
  exact ⟨hz, he, h _ he (Heap.get?_push_of_some _ (Heap.get?_push_size _ B.free)) fun b o x => Heap.get?_push_of_some _ (Heap.get?_push_of_some _ x)⟩
theorem begins0 {v : Value} {o : Obj} {H : Heap → Prop} {Q : Value → Shared → Prop} (B : Begins v o H) (h1 : H s.heap)
    (h : ∀ h', h'.get? (s.heap.objs.size + 1) = some (EnO s.heap.objs.size .none 0 .none .none) → h'.get? s.heap.objs.size = some o → (∀ b o, s.heap.get? b = some o → h'.get? b = some o) → Q (.ref (s.heap.objs.size + 1)) { s with heap := h' }) :
    wpAny (model prog w) A (call (.type "enumerate") [v]) Q E s := by
  refine callType_new F.called_enumerate (by decide) (F.typeCall_enumerate_1 _) (F.newCall_enumerate_1 _) (fun obj => F.args_object_init_2 obj _) F.entry_enumerate_new (meets_new0 B) ⟨h1, ?_⟩
  obtain ⟨hz, he, q⟩ := made (Q := fun h' => Q (.ref (s.heap.objs.size + 1)) { s with heap := h' }) B h
  show _ ∧ _
  rw [hz]
  exact ⟨⟨_, he, rfl⟩, q⟩
theorem beginsK {v : Value} {o : Obj} {H : Heap → Prop} {k : Int} {t : Tok} {Q : Value → Shared → Prop} (B : Begins v o H) (h1 : H s.heap)
    (h : ∀ h' g, GivenAt g k → h'.get? (s.heap.objs.size + 1) = some (EnO s.heap.objs.size .none k g .none) → h'.get? s.heap.objs.size = some o → (∀ b o, s.heap.get? b = some o → h'.get? b = some o) → Q (.ref (s.heap.objs.size + 1)) { s with heap := h' }) :
    wpAny (model prog w) A (call (.type "enumerate") [v] [(Str.ofString "start", .int k t)]) Q E s := by
  cases hf : Builtin.SmallTypes.fitsIndex k with
  | true =>
    refine callType_newKw F.called_enumerate (by decide) (F.typeCall_enumerate_start _ _) (F.newCall_enumerate_start _ _) (fun obj => F.args_object_init_start obj _ _) F.entry_enumerate_new (meets_enumerate_newK B k t hf) ⟨h1, ?_⟩
    obtain ⟨hz, he, q⟩ := made (k := k) (g := .none) (Q := fun h' => Q (.ref (s.heap.objs.size + 1)) { s with heap := h' }) B fun h' => h h' .none (.inl rfl)
    show _ ∧ _
    rw [hz]
    exact ⟨⟨_, he, rfl⟩, q⟩
  | false =>
    refine callType_newKw F.called_enumerate (by decide) (F.typeCall_enumerate_start _ _) (F.newCall_enumerate_start _ _) (fun obj => F.args_object_init_start obj _ _) F.entry_enumerate_new (meets_newH B k t hf) ⟨h1, ?_⟩
    obtain ⟨hz, he, q⟩ := made (k := k) (g := .int k t) (Q := fun h' => Q (.ref (s.heap.objs.size + 1)) { s with heap := h' }) B fun h' => h h' (.int k t) (.inr ⟨t, rfl⟩)
    show _ ∧ _
    rw [hz]
    exact ⟨⟨_, he, rfl⟩, q⟩
theorem nextOf_item {it l : Addr} {i : Nat} {items} {x : Value} {Q : Value → Shared → Prop} (hit : IsTupIter s.heap it l i) (hl : IsTup s.heap l items) (hx : items[i]? = some x)
    (hQ : ∀ h', IsTupIter h' it l (i + 1) → Heap.SameBut it s.heap h' → Q x { s with heap := h' }) : wpAny (model prog w) A (Builtin.SmallTypes.nextOf (.ref it)) Q E s := by
  obtain ⟨o, ho, hc, hd⟩ := id hit
  obtain ⟨ol, hol, _, nl, hdl⟩ := hl
  unfold Builtin.SmallTypes.nextOf
  refine wpAny_bind (wpAny_callSpecial?_slot (name := Str.ofString "__next__") hit.typeIs slot_tupleiter_next
    (wpAny_call_entry slot_tupleiter_next hit.typeIs entry_tupleiter_next ?_ (args_tupleiter_next _)))
  show wpAny _ _ (field (.ref it) 0 >>= _) _ _ s
  refine wpAny_bind (wpAny_field ho hd (x := .ref l) rfl ?_)
  show wpAny _ _ (if (Value.ref l == Value.none) = true then _ else _) _ _ s
  rw [if_neg (show ¬ ((Value.ref l == Value.none) = true) from Bool.false_ne_true)]
  show wpAny _ _ (field (.ref it) 1 >>= _) _ _ s
  refine wpAny_bind (wpAny_field ho hd (x := .int i 0) rfl ?_)
  show wpAny _ _ (seqItems? (.ref l) >>= _) _ _ s
  refine wpAny_bind (wpAny_seqItems hol hdl ?_)
  simp only [Int.toNat_natCast, hx]
  refine wpAny_bind (wpAny_setField ho hd (by simp) (wpAny_pure ⟨x, rfl, wpAny_pure (hQ _ ?_ (Heap.SameBut.update ..))⟩))
  exact ⟨_, Heap.get?_update_self _ ho (Obj.isFreed_of_fields (Obj.data_mapFields hd _)), (Obj.cls_mapFields ..).trans hc, by
    rw [Obj.data_mapFields hd]; simp [rawInt]⟩
theorem nextOf_end {it l : Addr} {i : Nat} {items} {Q : Value → Shared → Prop} (hh : A.handled = none) (hit : IsTupIter s.heap it l i) (hl : IsTup s.heap l items) (hx : items[i]? = none)
    (hE : ∀ h' e, Heap.ExtBut it s.heap h' → (∃ o, h'.get? e = some o ∧ o.cls = .type "StopIteration") → E (.ref e) { s with heap := h' }) : wpAny (model prog w) A (Builtin.SmallTypes.nextOf (.ref it)) Q E s := by
  obtain ⟨o, ho, hc, hd⟩ := id hit
  obtain ⟨ol, hol, _, nl, hdl⟩ := hl
  unfold Builtin.SmallTypes.nextOf
  refine wpAny_bind (wpAny_callSpecial?_slot (name := Str.ofString "__next__") hit.typeIs slot_tupleiter_next
    (wpAny_call_entry slot_tupleiter_next hit.typeIs entry_tupleiter_next ?_ (args_tupleiter_next _)))
  show wpAny _ _ (field (.ref it) 0 >>= _) _ _ s
  refine wpAny_bind (wpAny_field ho hd (x := .ref l) rfl ?_)
  show wpAny _ _ (if (Value.ref l == Value.none) = true then _ else _) _ _ s
  rw [if_neg (show ¬ ((Value.ref l == Value.none) = true) from Bool.false_ne_true)]
  show wpAny _ _ (field (.ref it) 1 >>= _) _ _ s
  refine wpAny_bind (wpAny_field ho hd (x := .int i 0) rfl ?_)
  show wpAny _ _ (seqItems? (.ref l) >>= _) _ _ s
  refine wpAny_bind (wpAny_seqItems hol hdl ?_)
  simp only [Int.toNat_natCast, hx]
  refine wpAny_bind (wpAny_rule (wpAny_bind (wpAny_setField ho hd (by simp) ?_)))
  show wpAny _ _ (newExc (.type "StopIteration") [] >>= _) _ _ _
  refine wpAny_bind ?_
  simp only [newExc, newTuple]
  refine wpAny_bind (wpAny_newObj_type ?_ (by size_fits))
  refine wpAny_bind (m := firstArgMember _ _) (wpAny_of_eq (a := Value.none) (by first | rfl | (simp only [firstArgMember]; rfl)) ?_)
  refine wpAny_newObj_type ?_ (by size_fits)
  simp only [raiseNew]
  refine wpAny_bind (wpAny_handled ?_)
  first | rw [show A.in1.handled = none from hh] | rw [hh]
  refine wpAny_bind (wpAny_pure (wpAny_throw ?_))
  exact hE _ _ (((Heap.SameBut.update ..).extBut.push _).push _) ⟨_, Heap.get?_push_size _ rfl, rfl⟩
/-- the index -/
theorem index_of {α : Type} {g : Value} {i : Int} {k : Value → Sem α} {Q : α → Shared → Prop} (hg : GivenAt g i) (h : ∀ ix tk, (∃ t, ix = .int i t) → wpAny (model prog w) A (k ix) Q E { s with toks := tk }) :
    wpAny (model prog w) A (if (g == .none) = true then (mkInt i >>= fun ix => k ix) else (pure g >>= fun ix => k ix)) Q E s := by
  rcases hg with rfl | ⟨t, rfl⟩
  · rw [if_pos (by decide)]
    exact wpAny_bind (wpAny_mkInt (h _ _ ⟨_, rfl⟩))
  · rw [if_neg (show ¬ ((Value.int i t == Value.none) = true) from Bool.false_ne_true)]
    exact wpAny_bind (wpAny_pure (h _ s.toks ⟨_, rfl⟩))
theorem next_item {e it l : Addr} {n : Nat} {i : Int} {items : Array Value} {x g old : Value} {Q : Value → Shared → Prop}
    (he : s.heap.get? e = some (EnO it .none i g old)) (hg : GivenAt g i) (hit : IsTupIter s.heap it l n) (hl : IsTup s.heap l items) (hx : items[n]? = some x) (hne : e ≠ it)
    (hQ : ∀ h' tk ix, (∃ t, ix = .int i t) → h'.get? e = some (EnO it (rawInt s.heap.objs.size) (i + 1) .none x) → IsTupIter h' it l (n + 1) →
      h'.get? s.heap.objs.size = some { cls := .type "tuple", data := .seq #[ix, x] } →
      (∀ b o, b ≠ e → b ≠ it → s.heap.get? b = some o → h'.get? b = some o) → Q (.ref s.heap.objs.size) { s with heap := h', toks := tk }) :
    wpAny (model prog w) A (Builtin.«enumerate.__next__» ⟨[.ref e], []⟩) (fun fin s' => ∃ v, fin = .done (.ret v) ∧ Q v s') E s := by
  obtain ⟨hp, gn, d, tk, os⟩ := s
  show wpAny _ _ (field (.ref e) 2 >>= _) _ _ _
  refine wpAny_bind (wpAny_field he rfl (x := .ref it) rfl ?_)
  refine wpAny_bind (nextOf_item hit hl hx fun h₁ hit₁ hs₁ => ?_)
  replace hs₁ : Heap.SameBut it hp h₁ := hs₁
  have he₁ : h₁.get? e = some (EnO it .none i g old) := (hs₁.2 e hne).trans he
  show wpAny _ _ (field (.ref e) 3 >>= _) _ _ ⟨h₁, gn, d, tk, os⟩
  refine wpAny_bind (wpAny_field he₁ rfl (x := rawInt i) rfl ?_)
  show wpAny _ _ (field (.ref e) 4 >>= _) _ _ ⟨h₁, gn, d, tk, os⟩
  refine wpAny_bind (wpAny_field he₁ rfl (x := g) rfl ?_)
  dsimp only
  refine index_of hg fun ix tk hix => ?_
  show wpAny _ _ (setField (.ref e) 3 (rawInt (i + 1)) >>= _) _ _ ⟨h₁, gn, d, tk, os⟩
  refine wpAny_bind (wpAny_setField_rec he₁ (by simp) fun h₂ he₂ hs₂ => ?_)
  replace hs₂ : Heap.SameBut e h₁ h₂ := hs₂
  replace he₂ : h₂.get? e = some (EnO it .none (i + 1) g old) := he₂
  show wpAny _ _ (setField (.ref e) 4 .none >>= _) _ _ ⟨h₂, gn, d, tk, os⟩
  refine wpAny_bind (wpAny_setField_rec he₂ (by simp) fun h₃ he₃ hs₃ => ?_)
  replace hs₃ : Heap.SameBut e h₂ h₃ := hs₃
  replace he₃ : h₃.get? e = some (EnO it .none (i + 1) .none old) := he₃
  show wpAny _ _ (newTuple [ix, x] >>= _) _ _ ⟨h₃, gn, d, tk, os⟩
  refine wpAny_bind (wpAny_newTuple ?_)
  have he₄ : (h₃.push { cls := .type "tuple", data := .seq #[ix, x] }).get? e = some (EnO it .none (i + 1) .none old) := Heap.get?_push_of_some _ he₃
  generalize hh₄ : h₃.push { cls := .type "tuple", data := .seq #[ix, x] } = h₄ at he₄
  have hsz : h₃.objs.size = hp.objs.size := by rw [hs₃.1, hs₂.1, hs₁.1]
  have hel : e < hp.objs.size := Heap.lt_size he
  have ht₄ : h₄.get? hp.objs.size = some { cls := .type "tuple", data := .seq #[ix, x] } := by rw [← hh₄, ← hsz]; exact Heap.get?_push_size _ rfl
  have hk₄ : ∀ b o, b ≠ e → b ≠ it → hp.get? b = some o → h₄.get? b = some o := fun b o hbe hbi hb => by
    rw [← hh₄]; exact Heap.get?_push_of_some _ (hs₃.extBut b o hbe (hs₂.extBut b o hbe (hs₁.extBut b o hbi hb)))
  have hit₄ : IsTupIter h₄ it l (n + 1) := by
    rw [← hh₄]; obtain ⟨o, ho, r⟩ := hit₁; exact ⟨o, Heap.get?_push_of_some _ (hs₃.extBut _ _ (Ne.symm hne) (hs₂.extBut _ _ (Ne.symm hne) ho)), r⟩
  show wpAny _ _ (Builtin.SmallTypes.ownedTupleIsFree (.ref e) >>= _) _ _ ⟨h₄, gn, d, tk, os⟩
  rw [hsz]
  clear hh₄ he₃ hs₃ he₂ hs₂ he₁ hs₁ hit₁ hsz h₃ h₂ h₁
  refine wpAny_bind ?_
  · unfold Builtin.SmallTypes.ownedTupleIsFree
    refine wpAny_bind (wpAny_field he₄ rfl (x := .none) rfl (wpAny_pure ?_))
    simp only [if_true]
    refine wpAny_bind (wpAny_rule ?_)
    refine wpAny_bind (wpAny_field he₄ rfl (x := old) rfl ?_)
    refine wpAny_bind (wpAny_setField_rec he₄ (by simp) fun h₅ he₅ hs₅ => ?_)
    replace hs₅ : Heap.SameBut e h₄ h₅ := hs₅
    replace he₅ : h₅.get? e = some (EnO it .none (i + 1) .none x) := he₅
    show wpAny _ _ (Builtin.SmallTypes.ownedTupleHandOut (.ref e) (.ref hp.objs.size) >>= _) _ _ ⟨h₅, gn, d, tk, os⟩
    refine wpAny_bind ?_
    · unfold Builtin.SmallTypes.ownedTupleHandOut
      refine wpAny_bind (wpAny_setField_rec he₅ (by simp) fun h₆ he₆ hs₆ => ?_)
      replace hs₆ : Heap.SameBut e h₅ h₆ := hs₆
      replace he₆ : h₆.get? e = some (EnO it (rawInt hp.objs.size) (i + 1) .none x) := he₆
      refine wpAny_setField_rec he₆ (by simp) fun h₇ he₇ hs₇ => ?_
      replace hs₇ : Heap.SameBut e h₆ h₇ := hs₇
      replace he₇ : h₇.get? e = some (EnO it (rawInt hp.objs.size) (i + 1) .none x) := he₇
      have kk : ∀ b o, b ≠ e → h₄.get? b = some o → h₇.get? b = some o := fun b o hb q => hs₇.extBut b o hb (hs₆.extBut b o hb (hs₅.extBut b o hb q))
      refine wpAny_bind (wpAny_letGo (wpAny_pure ⟨_, rfl, hQ h₇ tk ix hix he₇ ?_ (kk _ _ (Nat.ne_of_gt hel) ht₄) fun b o hbe hbi hb => kk b o hbe (hk₄ b o hbe hbi hb)⟩))
      obtain ⟨o, ho, r⟩ := hit₄
      exact ⟨o, kk _ _ (Ne.symm hne) ho, r⟩
theorem pyNext_item {e it l : Addr} {n : Nat} {i : Int} {items : Array Value} {x g old : Value} {Q : Option Value → Shared → Prop}
    (he : s.heap.get? e = some (EnO it .none i g old)) (hg : GivenAt g i) (hit : IsTupIter s.heap it l n) (hl : IsTup s.heap l items) (hx : items[n]? = some x) (hne : e ≠ it)
    (hQ : ∀ h' tk ix, (∃ t, ix = .int i t) → h'.get? e = some (EnO it (rawInt s.heap.objs.size) (i + 1) .none x) → IsTupIter h' it l (n + 1) →
      h'.get? s.heap.objs.size = some { cls := .type "tuple", data := .seq #[ix, x] } →
      (∀ b o, b ≠ e → b ≠ it → s.heap.get? b = some o → h'.get? b = some o) → Q (some (.ref s.heap.objs.size)) { s with heap := h', toks := tk }) : wpAny (model prog w) A (pyNext (.ref e)) Q E s := by
  have hT : s.TypeIs (.ref e) "enumerate" := ⟨_, he, rfl⟩
  unfold pyNext
  exact wpAny_bind (wpAny_attempt (wpAny_callSpecial?_slot (name := Str.ofString "__next__") hT F.slot_enumerate_next
    (wpAny_call_entry F.slot_enumerate_next hT F.entry_enumerate_next
      (next_item he hg hit hl hx hne fun h' tk ix hix a b c k => wpAny_pure (hQ h' tk ix hix a b c k)) (F.args_enumerate_next_1 _))))
theorem pyNext_end {e it l : Addr} {n : Nat} {i : Int} {items : Array Value} {g old : Value} {Q : Option Value → Shared → Prop} (hh : A.handled = none)
    (he : s.heap.get? e = some (EnO it .none i g old)) (hit : IsTupIter s.heap it l n) (hl : IsTup s.heap l items) (hx : items[n]? = none)
    (hQ : ∀ h', Heap.ExtBut it s.heap h' → Q none { s with heap := h' }) : wpAny (model prog w) A (pyNext (.ref e)) Q E s := by
  have hT : s.TypeIs (.ref e) "enumerate" := ⟨_, he, rfl⟩
  unfold pyNext
  refine wpAny_bind (wpAny_attempt (wpAny_callSpecial?_slot (name := Str.ofString "__next__") hT F.slot_enumerate_next
    (wpAny_call_entry F.slot_enumerate_next hT F.entry_enumerate_next ?_ (F.args_enumerate_next_1 _))))
  show wpAny _ _ (field (.ref e) 2 >>= _) _ _ _
  refine wpAny_bind (wpAny_field he rfl (x := .ref it) rfl ?_)
  refine wpAny_bind (nextOf_end hh hit hl hx fun h' x he' hx' => ?_)
  obtain ⟨o, ho, hc⟩ := hx'
  refine wpAny_bind (wpAny_isInstance (T := "StopIteration") (b := true) ⟨o, ho, hc⟩ isSubtype_stop ?_)
  exact wpAny_pure (hQ _ he')
theorem letGo_enum {elts : List Expr} {x1} {pos : Pos} {e it a : Addr} {i : Int} {g item : Value} {Q : Unit → Shared → Prop} (he : s.heap.get? e = some (EnO it (rawInt a) i g item))
    (hQ : ∀ h', h'.get? e = some (EnO it .none i g item) → Heap.SameBut e s.heap h' → Q () { s with heap := h' }) :
    wpAny (model prog w) A (letOwnedTupleGo (.Tuple elts x1 pos) (.ref e) (.ref a)) Q E s := by
  unfold letOwnedTupleGo
  refine wpAny_bind (wpAny_load he ?_)
  show wpAny _ A (if (["enumerate", "zip", "dict_itemiterator", "dict_reverseitemiterator", "odict_iterator", "itertools.zip_longest", "itertools.pairwise"].contains "enumerate" &&
      (#[rawInt a, .bool false, .ref it, rawInt i, g, item] : Array Value)[0]? == some (rawInt a)) = true then _ else _) Q E s
  rw [if_pos (by simp)]
  refine wpAny_bind (wpAny_rule ?_)
  show wpAny _ A (setField (.ref e) 0 .none) Q E s
  exact wpAny_setField_rec he (by simp) fun h' he' hs' => hQ h' he' hs'
end
end GEn
end PySem
/-! GEnum2: for .. in enumerate(tuple), enumerate(tuple, start=k). -/
namespace GB
open PySem PySem.Spec PyProof.Rows L2 PySem.GEn
section
variable {prog : Program} {w : World} {M : Model} {A : Around} {E : Value → Shared → Prop} {s : Shared}
theorem iter_self {e it : Addr} {out g old : Value} {i : Int} {Q : Value → Shared → Prop} (he : s.heap.get? e = some (EnO it out i g old)) (h : Q (.ref e) s) : wpAny (model prog w) A (pyIter (.ref e)) Q E s := by
  have hT : s.TypeIs (.ref e) "enumerate" := ⟨_, he, rfl⟩
  refine wpAny_pyIter_slot hT F.slot_enumerate_iter (wpAny_call_entry F.slot_enumerate_iter hT F.entry_enumerate_iter ?_ (F.args_enumerate_iter_1 _))
  show wpAny _ _ (ret (.ref e)) _ _ s
  exact wpAny_pure ⟨_, rfl, "enumerate", _, hT, F.slot_enumerate_next.lookup, h⟩
/-- a built-in class called with keywords -/
theorem callWith_tyK {pos : Pos} {T : String} {first : List Value} {args : List (Bool × Sem Value)} {kw : List (Option Str × Sem Value)} {Q : Value → Shared → Prop} (hplain : (args.any (·.1) || kw.any (·.1.isNone)) = false)
    (h : wpAny M A (evalArgs (.type T) true args kw) (fun a s₁ => wpAny M A (call (.type T) (first ++ a.pos) a.kw) Q E s₁) E s) :
    wpAny M A (callWith pos (.type T) first args kw) Q E s := by
  unfold callWith
  refine wpAny_bind (wpAny_holding (wpAny_mono h (fun a s₁ h₁ => wpAny_bind (wpAny_standAt ?_)) fun _ _ x => x))
  simp only [hplain]
  refine wpAny_bind (wpAny_pure ?_)
  exact wpAny_bind (wpAny_mono h₁ (fun r s₂ hr => wpAny_bind (wpAny_holding (wpAny_point (wpAny_pure hr)))) fun _ _ x => x)
end
/-- the tuple at a, each item in a new pair, counted from lo on -/
def ItE (K : PySem.W.Frag) (a : Addr) (lo : Int) : It :=
  ⟨fun i H => ∃ (xs : List V) (x : V), SqT K H a xs ∧ xs[i]? = some x, fun i H v H' => ∃ T x, v = .ref T ∧ H T = none ∧ H' = upd H T (.tup [.int (lo + (i : Nat)), x]) ∧ ∀ xs, SqT K H a xs → xs[i]? = some x, fun i H => ∃ xs : List V, SqT K H a xs ∧ xs.length ≤ i⟩
theorem tupIter_at {h h' : Heap} {it a : Addr} {i : Nat} (x : IsTupIter h it a i) (k : ∀ o, h.get? it = some o → h'.get? it = some o) : IsTupIter h' it a i := by
  obtain ⟨o, e, r⟩ := x
  exact ⟨o, k o e, r⟩
theorem turn_en {P : Program} {w : World} {K : PySem.W.Frag} {elts : List Expr} {kk : Nat} {tpos : Pos} (a e it : Addr) (lo : Int) :
    Turn P w K (.Tuple elts kk tpos) (ItE K a lo) [e, it] e (fun i h => (∃ g old, GivenAt g (lo + (i : Nat)) ∧ h.get? e = some (EnO it .none (lo + (i : Nat)) g old)) ∧ IsTupIter h it a i ∧ e ≠ it) where
  mem := by simp
  obj := fun i h st b hb => by
    obtain ⟨⟨g, old, _, he⟩, ⟨o, ho, hc, hd⟩, _⟩ := st
    have e' : b = e ∨ b = it := by simpa using hb
    rcases e' with z | z
    · rw [z]; exact ⟨_, he, fun v q => nomatch q⟩
    · rw [z]; exact ⟨o, ho, fun v q => by rw [hd] at q; cases q⟩
  keep := fun i h h' st k => let ⟨⟨g, old, hg, he⟩, hi, hne⟩ := st; ⟨⟨g, old, hg, k e (by simp) _ he⟩, tupIter_at hi fun o q => k it (by simp) o q, hne⟩
  item := by
    intro X hP hw hK hc i pins s σ H E I hf st hg
    subst hP hw hK
    obtain ⟨⟨g, old, hgv, he⟩, hit, hne⟩ := st
    obtain ⟨xs, x, hq, hx⟩ := hg
    obtain ⟨its, rv, p, hz⟩ := I.tuple hq
    obtain ⟨u, hu, ru⟩ := rv.get hx
    have hel : e < s.heap.objs.size := Heap.lt_size he
    have hil : it < s.heap.objs.size := by obtain ⟨_, q, _⟩ := hit; exact Heap.lt_size q
    refine pyNext_item he hgv hit p (x := u) (by simpa using hu) hne fun h' tk ix hix ho hit' hT hk => ?_
    refine ⟨_, rfl, letGo_enum (s := { s with heap := h', toks := tk }) ho fun h'' he' sb => ?_⟩
    have hT2 : h''.get? s.heap.objs.size = some { cls := .type "tuple", data := .seq #[ix, u] } := (sb.2 _ (Nat.ne_of_gt hel)).trans hT
    have new : ObjOk X.prog X.w (upd H s.heap.objs.size (.tup [.int (lo + (i : Nat)), x])) h'' s.heap.objs.size (.tup [.int (lo + (i : Nat)), x]) :=
      ⟨szk (n := 2) (by decide), [ix, u], .cons hix (.cons ru .nil), ⟨_, hT2, rfl, _, rfl⟩⟩
    have I1 : L2.Inv X pins σ (upd H s.heap.objs.size (.tup [.int (lo + (i : Nat)), x])) { s with heap := h'', toks := tk } :=
      I.turnedNew (ch := [e, it]) (fun b ob hb q => (sb.2 b (fun z => hb (by simp [z]))).trans (hk b ob (fun z => hb (by simp [z])) (fun z => hb (by simp [z])) q)) hf (Nat.le_refl _) new
    refine ⟨.ref s.heap.objs.size, _, I1, rfl, ⟨_, x, rfl, I.hok.fresh (Nat.le_refl _), rfl, fun ys hy => by rw [I.tuple_inj hy hq]; exact hx⟩, ⟨⟨.none, u, .inl rfl, ?_⟩, tupIter_at hit' fun o q => (sb.2 it (Ne.symm hne)).trans q, hne⟩, fun b hb => ?_⟩
    · have e1 : lo + ((i + 1 : Nat) : Int) = lo + (i : Int) + 1 := by omega
      rw [e1]; exact he'
    · have hb' : b < s.heap.objs.size := by
        have e' : b = e ∨ b = it := by simpa using hb
        rcases e' with z | z
        · rw [z]; exact hel
        · rw [z]; exact hil
      rw [upd_ne (Nat.ne_of_lt hb')]
      exact (hf b hb).1
  done := by
    intro X hP hw hK hc i pins s σ H E I hf st hg
    subst hP hw hK
    obtain ⟨⟨g, old, hgv, he⟩, hit, hne⟩ := st
    obtain ⟨xs, hq, hx⟩ := hg
    obtain ⟨its, rv, p, hz⟩ := I.tuple hq
    obtain ⟨f0, f1, f2, f3, f4, f5⟩ := hf it (by simp)
    have hl := rv.length
    exact pyNext_end (I.ok.hd hc) he hit p (by simp; omega) fun h' eb => ⟨rfl, I.turned (t' := s.toks) (fun b o hb q => eb b o hb q) f0 f1 f3 f4 f5⟩
  self := fun A i s Q E st h => let ⟨⟨_, _, _, he⟩, _⟩ := st; iter_self he h
section
variable {X : Cx} {e e2 : Expr} {ta tb : TA} {p pos tpos kpos : Pos} {elts : List Expr} {kk : Nat}
/-- enumerate(e), e a tuple -/
def iEn (K : PySem.W.Frag) (ta : TA) : TI := fun σ H R => ta σ H fun vs H1 => ∃ a xs, vs = [.ref a] ∧ SqT K H1 a xs ∧ R (ItE K a 0) H1
/-- enumerate(e, start=k) -/
def iEnK (K : PySem.W.Frag) (ta tk : TA) : TI := fun σ H R => ta σ H fun vs H1 => tk σ H1 fun zs H2 => ∃ a xs k, vs = [.ref a] ∧ zs = [.int k] ∧ SqT K H2 a xs ∧ R (ItE K a k) H2
theorem pie_en {pins : List (Addr × Obj)} {s1 : Shared} {σ : L2.St} {H1 : Hp} {R : It → Hp → Prop} {a : Addr} {k : Int} {h' : Heap} {g : Value} (I1 : L2.Inv X pins σ H1 s1) (hg : GivenAt g k)
    (he : h'.get? (s1.heap.objs.size + 1) = some (EnO s1.heap.objs.size .none k g .none)) (hit : h'.get? s1.heap.objs.size = some { cls := .type "tuple_iterator", data := .fields #[.ref a, .int 0 0] })
    (hk : ∀ b o, s1.heap.get? b = some o → h'.get? b = some o) (q : R (ItE X.K a k) H1) : PIE X pins σ (.Tuple elts kk tpos) R (.ref (s1.heap.objs.size + 1)) { s1 with heap := h' } := by
  have I2 : L2.Inv X pins σ H1 { s1 with heap := h' } := I1.kept (t' := s1.toks) hk
  refine ⟨s1.heap.objs.size + 1, [s1.heap.objs.size + 1, s1.heap.objs.size], _, _, H1, rfl, I2, turn_en a (s1.heap.objs.size + 1) s1.heap.objs.size k, ⟨⟨g, .none, ?_, ?_⟩, ⟨_, hit, rfl, rfl⟩, Nat.succ_ne_self _⟩, fun b hb => ?_, q⟩
  · rw [show k + ((0 : Nat) : Int) = k by omega]; exact hg
  · rw [show k + ((0 : Nat) : Int) = k by omega]; exact he
  · have e' : b = s1.heap.objs.size + 1 ∨ b = s1.heap.objs.size := by simpa using hb
    have hle : s1.heap.objs.size ≤ b := by
      rcases e' with z | z
      · rw [z]; exact Nat.le_add_right _ _
      · rw [z]; exact Nat.le_refl _
    exact I1.fpOk hle (I1.hok.fresh hle)
theorem pi_en (hg : Gl X "enumerate") (hm : X.mg "enumerate" = none) (ha : PA X [e] ta) (hs : starEach [e] X.env = [(false, eval e X.env)] := by rfl) :
    PI X (.Tuple elts kk tpos) (.Call (.Name "enumerate" p) [e] [] pos) (iEn X.K ta) := by
  refine ⟨fun pins s σ H R I h => ?_⟩
  refine Call_ (ld_blt I hg hm boot_enumerate (PyProof.Rows.callWith_type1 (thn (ha.run pos pins s σ H _ I h) fun us s1 ⟨vs, H1, I1, r1, q1⟩ => ?_) hs rfl))
  obtain ⟨a, xs, ex, hq, q⟩ := q1
  subst ex
  cases r1 with
  | cons r rr =>
    cases rr
    cases r
    obtain ⟨its, rv, p', hz⟩ := I1.tuple hq
    exact begins0 (begins_tuple a its.toArray) p' fun h' he hit hk => iter_self he (pie_en I1 (.inl rfl) he hit hk q)
theorem pi_enK (hg : Gl X "enumerate") (hm : X.mg "enumerate" = none) (ha : PA X [e] ta) (hb : PK X [⟨some "start", e2, kpos⟩] tb) (hs : starEach [e] X.env = [(false, eval e X.env)] := by rfl) :
    PI X (.Tuple elts kk tpos) (.Call (.Name "enumerate" p) [e] [⟨some "start", e2, kpos⟩] pos) (iEnK X.K ta tb) := by
  refine ⟨fun pins s σ H R I h => ?_⟩
  refine wpAny_Call_Name_kw (ld_blt I hg hm boot_enumerate ?_)
  refine callWith_tyK (by rw [hs] <;> rfl) (evalArgs_kw2 rfl (thn (ha.run pos pins s σ H _ I h) fun us s1 ⟨vs, H1, I1, r1, q1⟩ => thn (hb.run pos pins s1 σ H1 _ I1 q1) fun ws s2 ⟨zs, H2, I2, r2, a, xs, k, ex, ez, hq, q⟩ => ?_) (by rw [hs] <;> rfl))
  subst ex ez
  cases r1 with
  | cons r rr =>
    cases rr
    cases r
    cases r2 with
    | cons r' rr' =>
      cases rr'
      obtain ⟨t, rfl⟩ := r'
      obtain ⟨its, rv, p', hz⟩ := I2.tuple hq
      exact beginsK (begins_tuple a its.toArray) p' fun h' g hg he hit hk => iter_self he (pie_en I2 hg he hit hk q)
end
theorem for_en {K : PySem.W.Frag} {a : Addr} {lo : Int} {xs : List V} {g : TG} {tb : TS} {D : Ends} {σ : L2.St} {H : Hp} (Pv : Nat → L2.St → Hp → Prop) (h0 : Pv 0 σ H) (hl : ∀ i σ H, i ≤ xs.length → Pv i σ H → SqT K H a xs)
    (hs : ∀ i x σ H T, xs[i]? = some x → Pv i σ H → H T = none → g (.ref T) σ (upd H T (.tup [.int (lo + (i : Nat)), x])) fun σ2 H2 => tb { D with nx := Pv (i + 1), ct := Pv (i + 1), bk := D.nx } σ2 H2) (hd : ∀ σ H, Pv xs.length σ H → D.nx σ H) :
    ∃ W : Nat → Nat → L2.St → Hp → Prop, (∃ m, W 0 m σ H) ∧ ∀ i m σ H, W i m σ H →
      ((ItE K a lo).stop i H ∧ D.nx σ H) ∨ ((ItE K a lo).go i H ∧ ∃ N : L2.St → Hp → Prop, (∀ σ' H', N σ' H' → ∃ m', m' < m ∧ W (i + 1) m' σ' H') ∧ ∀ x H', (ItE K a lo).yld i H x H' → g x σ H' fun σ2 H2 => tb { D with nx := N, ct := N, bk := D.nx } σ2 H2) := by
  refine ⟨fun i m σ H => m = xs.length - i ∧ i ≤ xs.length ∧ Pv i σ H, ⟨xs.length, by simp, Nat.zero_le _, h0⟩, ?_⟩
  rintro i m σ H ⟨rfl, hi, p⟩
  have q := hl i σ H hi p
  by_cases hlt : i < xs.length
  · refine .inr ⟨⟨xs, xs[i], q, by simp [hlt]⟩, Pv (i + 1), fun σ' H' p' => ⟨xs.length - (i + 1), by omega, rfl, hlt, p'⟩, fun v H' y => ?_⟩
    obtain ⟨T, x, rfl, nT, rfl, hx⟩ := y
    exact hs i x σ H T (hx xs q) p nT
  · have e : i = xs.length := by omega
    subst e
    exact .inl ⟨⟨xs, q, Nat.le_refl _⟩, hd σ H p⟩
end GB
set_option maxHeartbeats 4000000
/-! GW3: programs and policies are valid. -/
namespace GB
open PySem PySem.Spec PyProof.Rows L2
local macro_rules | `(tactic| walk_at "g") => `(tactic| first
  | refine ⟨_, rfl, ?_⟩
  | refine ⟨_, _, rfl, rfl, ?_⟩
  | refine ⟨_, _, _, _, rfl, rfl, SqT.of (by assumption), by rfl, ?_⟩
  | refine ⟨_, _, _, _, rfl, rfl, SqL.of (by assumption), by rfl, ?_⟩
  | refine ⟨rfl, ⟨rfl, by decide⟩, ?_⟩
  | refine ⟨_, _, _, _, _, rfl, .ty _, .base (.tup (by assumption)), kt_tup, ?_⟩
  | refine ⟨_, _, _, _, _, rfl, .ty _, .base (.str _), kt_str, ?_⟩
  | refine ⟨_, _, rfl, .inr (SqT.of (by assumption)), ?_⟩
  | refine ⟨_, _, rfl, .inl (SqL.of (by assumption)), ?_⟩
  | refine iteT_of (by first | decide +kernel | rfl) ?_
  | refine iteF_of (by first | decide +kernel | rfl) ?_
  | refine iteT_of (btw_t (by omega)) ?_
  | refine iteF_of (by rw [btw_t (by omega)]; rfl) ?_
  | refine ⟨_, _, rfl, rfl, by assumption, ?_⟩
  | refine ⟨_, _, _, rfl, rfl, by assumption, ?_⟩
  | refine ⟨_, _, _, rfl, ?_⟩
  | refine ⟨_, _, rfl, SqT.of (by assumption), by rfl, ?_⟩
  | refine ⟨_, _, rfl, ?_⟩
  | refine ⟨.inl (by decide), ?_⟩
  | refine ⟨rfl, ?_⟩)
local macro_rules | `(tactic| walk_at "gs") => `(tactic| repeat walk_at "g")
local macro_rules | `(tactic| walk_at "b") => `(tactic| (first | decide +kernel | (simp only [decide_eq_true_eq, decide_eq_false_iff_not, List.length_map, V.int.injEq, Bool.not_eq_true', Bool.not_eq_false']; omega)))
theorem spans_snoc (p : List Stm) (i : Nat) {st : Stm} (h : p[i]? = some st) : spans (p.take (i + 1)) = after (spans (p.take i)) st := by
  unfold spans
  rw [List.take_add_one, h, List.foldl_append] <;> rfl
theorem spans_le : ∀ (p : List Stm), (spans p).length ≤ p.length := fun p => by
  have key : ∀ (p : List Stm) (sp : List Span), (p.foldl after sp).length ≤ sp.length + p.length := by
    intro p
    induction p with
    | nil => intro sp; exact Nat.le_refl _
    | cons st r ih =>
      intro sp
      rw [List.foldl_cons]
      have h1 := ih (after sp st)
      have h2 : (after sp st).length ≤ sp.length + 1 := by
        unfold after
        rw [List.length_append]
        cases spanOf sp st <;> simp
      rw [List.length_cons]
      omega
  have := key p []
  simpa [spans] using this
theorem lt_line {n : Nat} (h : n ≤ 1000) : n < sizeLine := by
  rw [sizeLine_eq]
  omega
section
variable {P : Program} {w : World} {K : Frg} {mg : Str → Option Value} {base : Heap}
/-- a program's statements as they stand -/
def PrV (a : Addr) (H : Hp) (p : List Stm) : Prop := ∃ vs, H a = some (.tup vs) ∧ RpA H vs (p.map stD)
theorem PrV.tp {H H' : Hp} (f : Tp H H') {a : Addr} {p : List Stm} : PrV a H p → PrV a H' p := fun ⟨vs, h1, h2⟩ => ⟨vs, f _ _ h1, RpA.tp f h2⟩
/-- no statement of a valid program is invalid -/
def sp_first_invalid : Sp := fun vs H Q _ => ∃ (a : Addr) (p : List Stm), vs = [.ref a] ∧ PrV a H p ∧ ValP p ∧ p.length ≤ 60 ∧ ∀ H', Same H H' → Q .non H'
theorem ok_first_invalid (T : Txt K mg) (Z : Siz K w) : Ok P w K mg base CX0 6 ("first_invalid", none) P_first_invalid sp_first_invalid := by
  refine Ok.of T.f_first_invalid sc_first_invalid (fun _ _ _ _ _ _ us hl => match us, hl with | [_], _ => rfl) (fun vs H Q E h => ?_) fun f cdv A outer s H vs Q E hr h => ?_
  · obtain ⟨a, p, rfl, _⟩ := h
    rfl
  · obtain ⟨a, p, rfl, ⟨ws, ha, hs⟩, hv, h60, q⟩ := h
    refine ⟨_, PSs.nox (pss_cons (ps_set (i := 1) sc_first_invalid.nd rfl (Or.inl rfl) (pe_lst pa_nil))
      (pss_cons (ps_for PassesOwn.never rfl (pi_en rfl T.bi.enumerate (pa_cons (pv 0) pa_nil)) (pg_tup rfl (pgs_cons (pg_name (i := 2) sc_first_invalid.nd rfl (Or.inl rfl)) (pgs_cons (pg_name (i := 3) sc_first_invalid.nd rfl (Or.inl rfl)) pgs_nil)))
       (pss_cons (ps_if (PW.pt (pw_or (pt_cmpR op_eq (pv 2) (pe_ci T.c_MOST_STATEMENTS rfl) (nomark _)) (pw_or1 (pt_not (pt_val (pf (ok_is_statement T Z) T.g_is_statement hr rfl pass0 (pa_cons (pv 3) (pa_cons (pv 1) pa_nil))))))))
        (pss_one (ps_ret (pv 2)))
        pss_nil)
       (pss_cons (ps_set (i := 4) sc_first_invalid.nd rfl (Or.inl rfl) (pf (ok_span_of T) T.g_span_of hr rfl pass0 (pa_cons (pv 3) (pa_cons (pv 1) pa_nil))))
       (pss_one (ps_if (pt_cmpR op_notN (pv 4) pe_non (nomark _))
        (pss_one (ps_expr (pe_bm PySem.F.plainAttrs_list PySem.F.slot_list_append PySem.F.type_list_append mt_append (pv 1) (pa_cons (pv 4) pa_nil))))
        pss_nil)))))
      (pss_one (ps_ret pe_non)))), ?_⟩
    refine ⟨szk (n := 0) (by decide), fun b hb => ?_⟩
    refine ⟨_, rfl, _, _, rfl, SqT.of (xs := ws) (Same.new hb _ _ ha), ?_⟩
    have hlen : ws.length = p.length := by rw [hs.length, List.length_map]
    refine for_en (xs := ws) (lo := 0) (fun i σ H' => Same H H' ∧ ∃ xs x2 x3 x4, σ = [some (.ref a), some (.ref b), x2, x3, x4] ∧ H' b = some (.lst xs) ∧ RpA H' xs ((spans (p.take i)).map spD)) ⟨Same.new hb, [], none, none, none, rfl, upd_same, RpA.nil⟩ (fun i σ H' _ pv => SqT.of (pv.1 _ _ ha)) (fun i x σ H' d hx pv hd => ?_) fun σ H' pv => ?_
    · obtain ⟨sm, xs, x2, x3, x4, rfl, hxs, hrs⟩ := pv
      obtain ⟨st0, hst, rst⟩ := hs.getV hx
      rw [List.getElem?_map] at hst
      obtain ⟨st, h0, rfl⟩ := Option.map_eq_some_iff.mp hst
      have hi : i < p.length := (List.getElem?_eq_some_iff.mp h0).1
      obtain ⟨c, rfl, hc⟩ := (rp_st st).mp (Rp.tp (Same.tp sm) rst)
      have s1 : Same H' (upd H' d (.tup [.int (0 + (i : Nat)), .ref c])) := Same.new hd
      refine ⟨_, _, rfl, SqT.of upd_same, rfl, ?_⟩
      walk_at "gs"
      refine iteF_of (by walk_at "b") ?_
      walk_at "gs"
      refine ⟨c, b, xs, st, _, rfl, hc.tp (Same.tp s1), s1 _ _ hxs, RpA.tp (Same.tp s1) hrs, hv i st h0, fun H2 sm2 => ?_⟩
      walk_at "gs"
      refine ⟨c, b, xs, st, _, rfl, hc.tp (Same.tp (Same.trans s1 sm2)), sm2 _ _ (s1 _ _ hxs), RpA.tp (Same.tp (Same.trans s1 sm2)) hrs, hv i st h0, fun v H3 sm3 hsp => ?_⟩
      have s3 : Same H' H3 := Same.trans s1 (Same.trans sm2 sm3)
      walk_at "gs"
      cases e : spanOf (spans (p.take i)) st with
      | none =>
        rw [e] at hsp
        have hsp : v = .non := hsp
        subst hsp
        refine iteF_of (by decide) ⟨Same.trans sm s3, xs, _, _, _, rfl, s3 _ _ hxs, ?_⟩
        rw [spans_snoc p i h0, after, e]
        simpa using RpA.tp (Same.tp s3) hrs
      | some sp =>
        rw [e] at hsp
        have hl : xs.length ≤ 60 := by
          have h1 := spans_le (p.take i)
          have h2 := hrs.length
          rw [List.length_map] at h2
          rw [List.length_take] at h1
          omega
        obtain ⟨d2, rfl, hd2⟩ := (rp_sp sp).mp hsp
        refine iteT_of (by simp) ⟨_, rfl, .inl ⟨rfl, _, SqL.of (s3 _ _ hxs)⟩, _, rfl, b, xs, _, rfl, rfl, s3 _ _ hxs, lt_line (by omega), fun a o h => ?_, xs ++ [.ref d2], _, _, _, rfl, upd_same, ?_⟩
        · rw [upd_ne (ne_of_none h hb)]
          exact s3 a o (sm a o h)
        · rw [spans_snoc p i h0, after, e]
          have tp : Tp H3 (upd H3 b (.lst (xs ++ [.ref d2]))) := fun a ys h => by
            rw [upd_ne (ne_of h (s3 _ _ hxs) (by intro z; cases z))]
            exact h
          have := (RpA.tp tp (RpA.tp (Same.tp s3) hrs)).snoc (Rp.tp tp ((rp_sp sp).mpr ⟨d2, rfl, hd2⟩))
          simpa using this
    · exact q H' pv.1
/-- a valid program is taken -/
def sp_need_program : Sp := fun vs H Q _ => ∃ (a : Addr) (p : List Stm), vs = [.ref a] ∧ PrV a H p ∧ ValP p ∧ p.length ≤ 60 ∧ ∀ H', Same H H' → Q .non H'
theorem ok_need_program (T : Txt K mg) (Z : Siz K w) : Ok P w K mg base CX0 7 ("need_program", none) P_need_program sp_need_program := by
  refine Ok.of T.f_need_program sc_need_program (fun _ _ _ _ _ _ us hl => match us, hl with | [_], _ => rfl) (fun vs H Q E h => ?_) fun f cdv A outer s H vs Q E hr h => ?_
  · obtain ⟨a, p, rfl, _⟩ := h
    rfl
  · obtain ⟨a, p, rfl, ⟨ws, ha, hs⟩, hv, h60, q⟩ := h
    refine ⟨_, PSs.nox (pss_cons (ps_if (pt_not (pt_val (pe_callB call_isi rfl T.bi.isinstance (by decide +kernel) (pa_cons (pv 0) (pa_cons (pe_bltn (v := .ty "tuple") rfl T.bi.tuple (by decide +kernel) rfl) pa_nil)))))
       (pss_one ps_never)
       pss_nil)
      (pss_cons (ps_set (i := 1) sc_need_program.nd rfl (Or.inl rfl) (pf (ok_first_invalid T Z) T.g_first_invalid hr rfl pass0 (pa_cons (pv 0) pa_nil)))
      (pss_one (ps_if (pt_cmpR op_notN (pv 1) pe_non (nomark _))
       (pss_one ps_never)
       pss_nil)))), ?_⟩
    walk_at "gs"
    refine ⟨a, p, rfl, ⟨ws, ha, hs⟩, hv, h60, fun H' sm => ?_⟩
    walk_at "gs"
    exact q H' sm
/-- the entries of a table are valid -/
def sp_are_entries : Sp := fun vs H Q _ => ∃ (a : Addr) (es : List (Int × Int)) (ws : List V), vs = [.ref a] ∧ H a = some (.tup ws) ∧ RpA H ws (es.map enD) ∧ Ents 0 es ∧ es.length ≤ 60 ∧ Q (.bl true) H
theorem ents_at : ∀ (es : List (Int × Int)) (m : Int), Ents m es → ∀ i e, es[i]? = some e → (if i = 0 then m else ((es.getD (i - 1) (0, 0)).1 + 1)) ≤ e.1 ∧ e.1 ≤ 59 ∧ 0 ≤ e.2 ∧ e.2 ≤ 10 ^ 40 - 1
  | [], _, _, _, _, h => by simp at h
  | x :: r, m, h, 0, e, he => by
    have z : x = e := Option.some.inj he
    subst z
    obtain ⟨h1, h2, h3, h4, _⟩ := h
    exact ⟨h1, h2, h3, h4⟩
  | x :: r, m, h, i + 1, e, he => by
    obtain ⟨_, _, _, _, h5⟩ := h
    have := ents_at r (x.1 + 1) h5 i e (by simpa using he)
    rw [if_neg (by omega)]
    cases i with
    | zero => simpa using this
    | succ i => simpa using this
theorem ok_are_entries (T : Txt K mg) : Ok P w K mg base CX0 3 ("are_entries", none) P_are_entries sp_are_entries := by
  refine Ok.of T.f_are_entries sc_are_entries (fun _ _ _ _ _ _ us hl => match us, hl with | [_], _ => rfl) (fun vs H Q E h => ?_) fun f cdv A outer s H vs Q E hr h => ?_
  · obtain ⟨a, es, ws, rfl, _⟩ := h
    rfl
  · obtain ⟨a, es, ws, rfl, ha, hs, hv, h60, q⟩ := h
    have hlen : ws.length = es.length := by rw [hs.length, List.length_map]
    refine ⟨_, PSs.nox (pss_cons (ps_if (PW.pt (pw_or (pt_not (pt_val (pe_callB call_isi rfl T.bi.isinstance (by decide +kernel) (pa_cons (pv 0) (pa_cons (pe_bltn (v := .ty "tuple") rfl T.bi.tuple (by decide +kernel) rfl) pa_nil))))) (pw_or1 (pt_cmpR op_gt (pe_callB call_len_seq rfl T.bi.len (by decide +kernel) (pa_cons (pv 0) pa_nil)) (pe_ci T.c_MOST_STATEMENTS rfl) (nomark _)))))
       (pss_one (ps_ret pe_bl))
       pss_nil)
      (pss_cons (ps_set (i := 1) sc_are_entries.nd rfl (Or.inl rfl) pe_int)
      (pss_cons (ps_for PassesOwn.never rfl (pi_tup (pv 0)) (pg_name (i := 2) sc_are_entries.nd rfl (Or.inl rfl))
       (pss_cons (ps_if (PW.pt (pw_or (pt_not (pt_val (pe_callB call_isi rfl T.bi.isinstance (by decide +kernel) (pa_cons (pv 2) (pa_cons (pe_bltn (v := .ty "tuple") rfl T.bi.tuple (by decide +kernel) rfl) pa_nil))))) (pw_or1 (pt_cmpR op_ne (pe_callB call_len_seq rfl T.bi.len (by decide +kernel) (pa_cons (pv 2) pa_nil)) pe_int (nomark _)))))
        (pss_one (ps_ret pe_bl))
        pss_nil)
       (pss_cons (ps_if (PW.pt (pw_or (pt_not (pt_val (pf (ok_is_between T) T.g_is_between hr rfl pass0 (pa_cons (pe_ix ix_tup (pv 2) pe_int (fun _ _ => rfl)) (pa_cons (pv 1) (pa_cons (pe_op op_sub (pe_ci T.c_MOST_STATEMENTS rfl) pe_int) pa_nil)))))) (pw_or1 (pt_not (pt_val (pf (ok_is_between T) T.g_is_between hr rfl pass0 (pa_cons (pe_ix ix_tup (pv 2) pe_int (fun _ _ => rfl)) (pa_cons pe_int (pa_cons (pe_op op_sub (pe_ci T.c_CAPACITY_LIMIT rfl) pe_int) pa_nil)))))))))
        (pss_one (ps_ret pe_bl))
        pss_nil)
       (pss_one (ps_set (i := 1) sc_are_entries.nd rfl (Or.inl rfl) (pe_op op_add (pe_ix ix_tup (pv 2) pe_int (fun _ _ => rfl)) pe_int))))))
      (pss_one (ps_ret pe_bl))))), ?_⟩
    walk_at "gs"
    refine iteF_of (by walk_at "b") ?_
    walk_at "gs"
    refine ⟨⟨_, SqT.of ha⟩, ?_⟩
    refine for_tup (xs := ws) (fun i σ H' => H' = H ∧ ∃ x2, σ = [some (.ref a), some (.int (if i = 0 then 0 else ((es.getD (i - 1) (0, 0)).1 + 1))), x2]) ⟨rfl, none, rfl⟩ (fun i σ H' _ pv => by rw [pv.1]; exact SqT.of ha) (fun i x σ H' hx pv => ?_) fun σ H' pv => by rw [pv.1]; exact q
    obtain ⟨rfl, x2, rfl⟩ := pv
    obtain ⟨e0, hst, rst⟩ := hs.getV hx
    rw [List.getElem?_map] at hst
    obtain ⟨e, h0, rfl⟩ := Option.map_eq_some_iff.mp hst
    obtain ⟨c, rfl, hc⟩ := (rp_en e).mp rst
    obtain ⟨e1, e2, e3, e4⟩ := ents_at es 0 hv i e h0
    walk_at "gs"
    refine ⟨some (.ref c), ?_⟩
    rw [if_neg (show ¬ i + 1 = 0 by omega), show i + 1 - 1 = i by omega, getD_of h0]
    rfl
/-- the parts of a factor -/
def sp_is_factor : Sp := fun vs H Q _ => ∃ t b : Int, vs = [.int t, .int b] ∧ ValQ (.factor t b) ∧ Q (.bl true) H
theorem ok_is_factor (T : Txt K mg) : Ok P w K mg base CX0 3 ("is_factor", none) P_is_factor sp_is_factor := by
  refine Ok.of T.f_is_factor sc_is_factor (fun _ _ _ _ _ _ us hl => match us, hl with | [_, _], _ => rfl) (fun vs H Q E h => ?_) fun f cdv A outer s H vs Q E hr h => ?_
  · obtain ⟨t, b, rfl, _⟩ := h
    rfl
  · obtain ⟨t, b, rfl, ⟨h1, h2, h3, h4, h5⟩, q⟩ := h
    refine ⟨_, PSs.nox (pss_one (ps_ret (pe_and (pf (ok_is_between T) T.g_is_between hr rfl pass0 (pa_cons (pv 0) (pa_cons pe_int (pa_cons (pe_ci T.c_MOST_PART rfl) pa_nil)))) (pe_and (pf (ok_is_between T) T.g_is_between hr rfl pass0 (pa_cons (pv 1) (pa_cons pe_int (pa_cons (pe_ci T.c_MOST_PART rfl) pa_nil)))) (pe_one (pe_cmpR op_ge (pe_op op_mul pe_int (pv 0)) (pe_op op_mul pe_int (pv 1)) (nomark _))))))), ?_⟩
    walk_at "gs"
    show Q (.bl (decide (5 * b ≤ 4 * t))) H
    rw [decide_eq_true h5]
    exact q
/-- a valid policy -/
def sp_is_policy : Sp := fun vs H Q _ => ∃ (a : Addr) (pl : Pol), vs = [.ref a] ∧ poV a H pl ∧ ValQ pl ∧ ∀ H', Same H H' → Q (.bl true) H'
theorem ok_is_policy (T : Txt K mg) : Ok P w K mg base CX0 4 ("is_policy", none) P_is_policy sp_is_policy := by
  refine Ok.of T.f_is_policy sc_is_policy (fun _ _ _ _ _ _ us hl => match us, hl with | [_], _ => rfl) (fun vs H Q E h => ?_) fun f cdv A outer s H vs Q E hr h => ?_
  · obtain ⟨a, pl, rfl, _⟩ := h
    rfl
  · obtain ⟨a, pl, rfl, hpl, hv, q⟩ := h
    refine ⟨_, PSs.nox (pss_cons (ps_if (PW.pt (pw_or (pt_not (pt_val (pe_callB call_isi rfl T.bi.isinstance (by decide +kernel) (pa_cons (pv 0) (pa_cons (pe_bltn (v := .ty "tuple") rfl T.bi.tuple (by decide +kernel) rfl) pa_nil))))) (pw_or (pt_cmpR op_eq (pe_callB call_len_seq rfl T.bi.len (by decide +kernel) (pa_cons (pv 0) pa_nil)) pe_int (nomark _)) (pw_or1 (pt_not (pt_val (pe_callB call_isi rfl T.bi.isinstance (by decide +kernel) (pa_cons (pe_ix ix_tup (pv 0) pe_int (fun _ _ => rfl)) (pa_cons (pe_bltn (v := .ty "str") rfl T.bi.str (by decide +kernel) rfl) pa_nil)))))))))
       (pss_one (ps_ret pe_bl))
       pss_nil)
      (pss_cons (ps_if (pt_lit (pe_ix ix_tup (pv 0) pe_int (fun _ _ => rfl)) (pa_cons pe_str (pa_cons pe_str pa_nil)))
       (pss_one (ps_ret (pe_cmpR op_eq (pe_callB call_len_seq rfl T.bi.len (by decide +kernel) (pa_cons (pv 0) pa_nil)) pe_int (nomark _))))
       pss_nil)
      (pss_cons (ps_if (pt_cmpR op_eq (pe_ix ix_tup (pv 0) pe_int (fun _ _ => rfl)) pe_str (nomark _))
       (pss_one (ps_ret (pe_and (pe_cmpR op_eq (pe_callB call_len_seq rfl T.bi.len (by decide +kernel) (pa_cons (pv 0) pa_nil)) pe_int (nomark _)) (pe_one (pf (ok_are_entries T) T.g_are_entries hr rfl pass0 (pa_cons (pe_ix ix_tup (pv 0) pe_int (fun _ _ => rfl)) pa_nil))))))
       pss_nil)
      (pss_cons (ps_if (pt_cmpR op_eq (pe_ix ix_tup (pv 0) pe_int (fun _ _ => rfl)) pe_str (nomark _))
       (pss_one (ps_ret (pe_and (pe_cmpR op_eq (pe_callB call_len_seq rfl T.bi.len (by decide +kernel) (pa_cons (pv 0) pa_nil)) pe_int (nomark _)) (pe_one (pf (ok_is_between T) T.g_is_between hr rfl pass0 (pa_cons (pe_ix ix_tup (pv 0) pe_int (fun _ _ => rfl)) (pa_cons pe_int (pa_cons (pe_ci T.c_MOST_CELLS rfl) pa_nil))))))))
       pss_nil)
      (pss_one (ps_ret (pe_and (pe_cmpR op_eq (pe_ix ix_tup (pv 0) pe_int (fun _ _ => rfl)) pe_str (nomark _)) (pe_and (pe_cmpR op_eq (pe_callB call_len_seq rfl T.bi.len (by decide +kernel) (pa_cons (pv 0) pa_nil)) pe_int (nomark _)) (pe_one (pf (ok_is_factor T) T.g_is_factor hr rfl pass0 (pa_cons (pe_ix ix_tup (pv 0) pe_int (fun _ _ => rfl)) (pa_cons (pe_ix ix_tup (pv 0) pe_int (fun _ _ => rfl)) pa_nil)))))))))))), ?_⟩
    have q := q H (Same.refl H)
    cases pl with
    | exact =>
      have ha : H a = some _ := hpl
      walk_at "gs"
      exact q
    | endless =>
      have ha : H a = some _ := hpl
      walk_at "gs"
      exact q
    | step e =>
      have ha : H a = some _ := hpl
      have hv : 0 ≤ e ∧ e ≤ 10 ^ 30 := hv
      walk_at "gs"
      rw [btw_t hv]
      exact q
    | factor t b =>
      have ha : H a = some _ := hpl
      walk_at "gs"
      exact ⟨hv, q⟩
    | table es =>
      obtain ⟨b, ws, ha, hb, hs⟩ := hpl
      obtain ⟨h1, h2⟩ := hv
      walk_at "gs"
      exact ⟨b, es, ws, rfl, hb, hs, h1, h2, q⟩
/-- a valid policy is taken -/
def sp_need_policy : Sp := fun vs H Q _ => ∃ (a : Addr) (pl : Pol), vs = [.ref a] ∧ poV a H pl ∧ ValQ pl ∧ ∀ H', Same H H' → Q .non H'
theorem ok_need_policy (T : Txt K mg) : Ok P w K mg base CX0 5 ("need_policy", none) P_need_policy sp_need_policy := by
  refine Ok.of T.f_need_policy sc_need_policy (fun _ _ _ _ _ _ us hl => match us, hl with | [_], _ => rfl) (fun vs H Q E h => ?_) fun f cdv A outer s H vs Q E hr h => ?_
  · obtain ⟨a, pl, rfl, _⟩ := h
    rfl
  · obtain ⟨a, pl, rfl, hpl, hv, q⟩ := h
    refine ⟨_, PSs.nox (pss_one (ps_if (pt_not (pt_val (pf (ok_is_policy T) T.g_is_policy hr rfl pass0 (pa_cons (pv 0) pa_nil))))
       (pss_one ps_never)
       pss_nil)), ?_⟩
    refine ⟨_, rfl, a, pl, rfl, hpl, hv, fun H' sm => ?_⟩
    walk_at "gs"
    exact q H' sm
def pick (k : Int) (es : List (Int × Int)) : List Int := (es.filter fun e => decide (e.1 = k)).map (·.2)
theorem pick_snoc {es : List (Int × Int)} {i : Nat} {e : Int × Int} {k : Int} (h : es[i]? = some e) : pick k (es.take (i + 1)) = pick k (es.take i) ++ (if e.1 = k then [e.2] else []) := by
  unfold pick
  rw [List.take_add_one, h, List.filter_append, List.map_append]
  by_cases c : e.1 = k
  · simp [c]
  · simp [c]
theorem ent_le : ∀ (es : List (Int × Int)) (k need : Int), need ≤ entMax es k need ∧ ∀ y ∈ pick k es, y ≤ entMax es k need
  | [], k, need => ⟨Int.le_refl _, fun y hy => by cases hy⟩
  | e :: r, k, need => by
    have e1 : entMax (e :: r) k need = entMax r k (if e.1 = k then max need e.2 else need) := rfl
    obtain ⟨h1, h2⟩ := ent_le r k (if e.1 = k then max need e.2 else need)
    rw [e1]
    by_cases c : e.1 = k
    · rw [if_pos c] at h1 h2 ⊢
      refine ⟨by omega, fun y hy => ?_⟩
      have e2 : pick k (e :: r) = e.2 :: pick k r := by simp [pick, c]
      rw [e2] at hy
      rcases List.mem_cons.mp hy with z | z
      · omega
      · exact h2 y z
    · rw [if_neg c] at h1 h2 ⊢
      have e2 : pick k (e :: r) = pick k r := by simp [pick, c]
      rw [e2]
      exact ⟨h1, h2⟩
theorem ent_mem : ∀ (es : List (Int × Int)) (k need : Int), entMax es k need ∈ need :: pick k es
  | [], k, need => List.mem_cons_self
  | e :: r, k, need => by
    have e1 : entMax (e :: r) k need = entMax r k (if e.1 = k then max need e.2 else need) := rfl
    have h := ent_mem r k (if e.1 = k then max need e.2 else need)
    rw [e1]
    by_cases c : e.1 = k
    · have e2 : pick k (e :: r) = e.2 :: pick k r := by simp [pick, c]
      rw [if_pos c] at h ⊢
      rw [e2]
      rcases List.mem_cons.mp h with z | z
      · rw [z]
        rcases Int.le_total need e.2 with q | q
        · rw [Int.max_eq_right q]; simp
        · rw [Int.max_eq_left q]; simp
      · exact List.mem_cons_of_mem _ (List.mem_cons_of_mem _ z)
    · have e2 : pick k (e :: r) = pick k r := by simp [pick, c]
      rw [if_neg c] at h ⊢
      rw [e2]
      exact h
theorem ent_eq {es : List (Int × Int)} {k need m : Int} (hm : m ∈ need :: pick k es) (hall : ∀ y, y ∈ need :: pick k es → y ≤ m) : m = entMax es k need := by
  have h1 := hall _ (ent_mem es k need)
  obtain ⟨h2, h3⟩ := ent_le es k need
  rcases List.mem_cons.mp hm with z | z
  · omega
  · have := h3 m z
    omega
/-- the capacity that a policy gives -/
def sp_chosen : Sp := fun vs H Q _ => ∃ (a : Addr) (pl : Pol) (k need : Int), vs = [.ref a, .int k, .int need] ∧ poV a H pl ∧ ValQ pl ∧ ∀ H', Same H H' → Q (capV (chosenQ pl k need)) H'
theorem ok_chosen (T : Txt K mg) : Ok P w K mg base CX0 1 ("chosen", none) P_chosen sp_chosen := by
  refine Ok.of T.f_chosen sc_chosen (fun _ _ _ _ _ _ us hl => match us, hl with | [_, _, _], _ => rfl) (fun vs H Q E h => ?_) fun f cdv A outer s H vs Q E hr h => ?_
  · obtain ⟨a, pl, k, need, rfl, _⟩ := h
    rfl
  · obtain ⟨a, pl, k, need, rfl, hpl, hv, q⟩ := h
    refine ⟨_, PSs.nox (pss_cons (ps_if (pt_cmpR op_eq (pe_ix ix_tup (pv 0) pe_int (fun _ _ => rfl)) pe_str (nomark _))
       (pss_one (ps_ret pe_non))
       pss_nil)
      (pss_cons (ps_if (pt_cmpR op_eq (pe_ix ix_tup (pv 0) pe_int (fun _ _ => rfl)) pe_str (nomark _))
       (pss_one (ps_ret (pe_op op_add (pv 2) (pe_ix ix_tup (pv 0) pe_int (fun _ _ => rfl)))))
       pss_nil)
      (pss_cons (ps_if (pt_cmpR op_eq (pe_ix ix_tup (pv 0) pe_int (fun _ _ => rfl)) pe_str (nomark _))
       (pss_one (ps_ret (pe_op op_fdiv (pe_op op_sub (pe_op op_add (pe_op op_mul (pv 2) (pe_ix ix_tup (pv 0) pe_int (fun _ _ => rfl))) (pe_ix ix_tup (pv 0) pe_int (fun _ _ => rfl))) pe_int) (pe_ix ix_tup (pv 0) pe_int (fun _ _ => rfl)))))
       pss_nil)
      (pss_cons (ps_if (pt_cmpR op_eq (pe_ix ix_tup (pv 0) pe_int (fun _ _ => rfl)) pe_str (nomark _))
       (pss_one (ps_ret (pe_callB (cr_max rfl) rfl T.bi.max (by decide +kernel) (pa_cons (pe_op op_cat (pe_lst (pa_cons (pv 2) pa_nil)) (pe_lc (own := [("number", 3), ("capacity", 4)]) rfl sc_chosen.nd (pi_tup (pe_ix ix_tup (pv 0) pe_int (fun _ _ => rfl))) (blkOk_by rfl) (fun _ _ _ _ _ => (pg_tupK (K := K) (n := 2) rfl rfl (pgs_cons (pg_name (i := 3) sc_chosen.nd rfl (Or.inl rfl) (.inr rfl)) (pgs_cons (pg_name (i := 4) sc_chosen.nd rfl (Or.inl rfl) (.inr rfl)) pgs_nil)) rfl rfl)) (fun _ _ _ _ _ => pts_one (pt_cmpR op_eq (pv 3) (pv 1) (nomark _))) (fun _ _ _ _ _ => (pv 4)))) pa_nil))))
       pss_nil)
      (pss_one (ps_ret (pv 2))))))), ?_⟩
    cases pl with
    | exact =>
      have ha : H a = some _ := hpl
      walk_at "gs"
      exact q H (Same.refl H)
    | endless =>
      have ha : H a = some _ := hpl
      walk_at "gs"
      exact q H (Same.refl H)
    | step e =>
      have ha : H a = some _ := hpl
      walk_at "gs"
      exact q H (Same.refl H)
    | factor t b =>
      have ha : H a = some _ := hpl
      obtain ⟨h1, h2, h3, h4, h5⟩ := hv
      walk_at "gs"
      refine ⟨.inr ⟨by omega, by omega⟩, ?_⟩
      walk_at "gs"
      refine ⟨⟨by omega, by omega⟩, ?_⟩
      exact q H (Same.refl H)
    | table es =>
      obtain ⟨b, ws, ha, hb, hs⟩ := hpl
      obtain ⟨h1, h2⟩ := hv
      walk_at "gs"
      refine ⟨szk (n := 1) (by decide), fun p hp => ?_⟩
      have sp : Same H (upd H p (.lst [.int need])) := Same.new hp
      refine ⟨_, rfl, _, _, _, _, rfl, rfl, SqT.of (sp _ _ ha), rfl, b, rfl, ⟨ws, SqT.of (sp _ _ hb)⟩, fun D hD => ?_⟩
      have hlen : ws.length = es.length := by rw [hs.length, List.length_map]
      refine lc_tup (xs := ws) (fun i H' => Same (upd H p (.lst [.int need])) H' ∧ H' D = some (.lst ((pick k (es.take i)).map .int))) ⟨Same.new hD, upd_same⟩ (fun i H' _ pv => SqT.of (pv.1 _ _ (sp _ _ hb))) (fun i x H' hx pv => ?_) fun H' pv => ?_
      · obtain ⟨sm, hd⟩ := pv
        obtain ⟨e0, hst, rst⟩ := hs.getV hx
        rw [List.getElem?_map] at hst
        obtain ⟨e, h0, rfl⟩ := Option.map_eq_some_iff.mp hst
        obtain ⟨c, rfl, hc⟩ := (rp_en e).mp rst
        have hc' : H' c = some (.tup [.int e.1, .int e.2]) := sm _ _ (sp _ _ hc)
        refine ⟨c, _, rfl, SqT.of hc', rfl, ?_⟩
        refine ⟨_, _, rfl, _, _, rfl, rfl, rfl, ?_⟩
        refine ⟨_, rfl, _, rfl, rfl, _, rfl, ?_⟩
        refine iteD (fun z => ?_) fun z => ?_
        · have z : e.1 = k := by simpa using z
          refine ⟨_, rfl, _, hd, ?_, fun a o h => ?_, ?_⟩
          · have := List.length_filter_le (fun e : Int × Int => decide (e.1 = k)) (es.take i)
            rw [List.length_map, pick, List.length_map]
            rw [List.length_take] at this
            exact lt_line (by omega)
          · rw [upd_ne (ne_of_none h hD)]
            exact sm a o h
          · rw [upd_same, pick_snoc h0, if_pos z, List.map_append] <;> rfl
        · have z : ¬ e.1 = k := by simpa using z
          rw [pick_snoc h0, if_neg z, List.append_nil]
          exact ⟨sm, hd⟩
      · obtain ⟨sm, hd⟩ := pv
        rw [hlen, List.take_length] at hd
        refine ⟨p, D, _, _, rfl, rfl, sm _ _ upd_same, hd, ?_, fun r hr2 => ?_⟩
        · have := List.length_filter_le (fun e : Int × Int => decide (e.1 = k)) es
          rw [List.length_map, pick, List.length_map]
          exact szk (by simp; omega)
        · refine ⟨r, need :: pick k es, rfl, SqL.of upd_same, by simp, fun m hm hall => ?_⟩
          have : m = entMax es k need := ent_eq hm hall
          subst this
          exact q _ (Same.trans sp (Same.trans sm (Same.new hr2)))
end
end GB
set_option maxHeartbeats 4000000
/-! GMA: a machine in the abstract heap. -/
namespace GB
open PySem PySem.Spec PyProof.Rows L2
/-- the lists of a machine -/
inductive Fl where
  | rows | cells | makers | roots | seen | made | recs
  deriving DecidableEq
/-- where a machine's parts stand, and what its lists and dicts hold -/
structure MD where
  dx : Addr
  l : Fl → Addr
  vl : Fl → List V
  ds : List (Addr × List (Key × V))
  cs : List (Addr × List V)
def mfs (p q : V) (l : Fl → Addr) (b : Bool) : List (Str × V) := [("kept_program", p), ("kept_policy", q), ("rows", .ref (l .rows)), ("cells", .ref (l .cells)), ("makers", .ref (l .makers)), ("roots", .ref (l .roots)), ("seen", .ref (l .seen)), ("made", .ref (l .made)), ("records", .ref (l .recs)), ("busy", .bl b)]
def upL (vl : Fl → List V) (f : Fl) (xs : List V) : Fl → List V := fun g => if g = f then xs else vl g
theorem upL_same {vl : Fl → List V} {f : Fl} {xs : List V} : upL vl f xs f = xs := if_pos rfl
theorem upL_ne {vl : Fl → List V} {f g : Fl} {xs : List V} (h : g ≠ f) : upL vl f xs g = vl g := if_neg h
/-- the machine's own objects -/
def foot (m : Addr) (d : MD) (a : Addr) : Prop := a = m ∨ (∃ f, a = d.l f) ∨ a ∈ d.ds.map (·.1) ∨ a ∈ d.cs.map (·.1)
/-- the heap's part -/
structure MH (K : Frg) (H : Hp) (m : Addr) (p q : V) (b : Bool) (d : MD) : Prop where
  ins : H m = some (.ins (CM K) d.dx (mfs p q d.l b))
  lst : ∀ f, H (d.l f) = some (.lst (d.vl f))
  inj : ∀ f g, d.l f = d.l g → f = g
  dic : ∀ e ∈ d.ds, H e.1 = some (.dK e.2)
  dnd : (d.ds.map (·.1)).Nodup
  chs : ∀ e ∈ d.cs, H e.1 = some (.lst e.2)
  cnd : (d.cs.map (·.1)).Nodup
  cl : ∀ e ∈ d.cs, ∀ f, e.1 ≠ d.l f
def CtA (H : Hp) (v : V) (c : Ct) : Prop := Rp H v (ctD c)
def DkA (H : Hp) : List (Key × V) → Dic → Prop
  | [], [] => True
  | e :: r, c :: t => e.1 = .inl c.1 ∧ Rp H e.2 (ctD c.2) ∧ DkA H r t
  | _, _ => False
def DsA (H : Hp) : List (Addr × List (Key × V)) → List Dic → Prop
  | [], [] => True
  | e :: r, c :: t => DkA H e.2 c ∧ DsA H r t
  | _, _ => False
/-- records, and the lists of their changes -/
def RcA (H : Hp) : List V → List (Addr × List V) → List Rc → Prop
  | [], [], [] => True
  | v :: vs, c :: cs, r :: rs => (∃ a, v = .ref a ∧ H a = some (.tup [.int r.rows, .int r.cells, .int r.seen, .int r.made, .ref c.1])) ∧ RpA H c.2 (r.ch.map chD) ∧ RcA H vs cs rs
  | _, _, _ => False
/-- the values' part -/
structure MV (H : Hp) (d : MD) (s : MS) : Prop where
  rows : RpA H (d.vl .rows) (s.rows.map rowD)
  cells : d.vl .cells = d.ds.map fun e => .ref e.1
  dics : DsA H d.ds s.cells
  makers : d.vl .makers = s.makers.map .int
  roots : d.vl .roots = s.roots.map .int
  seen : RpA H (d.vl .seen) (s.seen.map ctD)
  made : RpA H (d.vl .made) (s.made.map mdD)
  recs : RcA H (d.vl .recs) d.cs s.recs
section
variable {H H' : Hp}
theorem DkA.tp (f : Tp H H') : ∀ {kvs : List (Key × V)} {d : Dic}, DkA H kvs d → DkA H' kvs d
  | [], [], _ => trivial
  | _ :: _, _ :: _, ⟨h1, h2, h3⟩ => ⟨h1, Rp.tp f h2, h3.tp f⟩
  | [], _ :: _, h => h
  | _ :: _, [], h => h
theorem DsA.tp (f : Tp H H') : ∀ {l : List (Addr × List (Key × V))} {d : List Dic}, DsA H l d → DsA H' l d
  | [], [], _ => trivial
  | _ :: _, _ :: _, ⟨h1, h2⟩ => ⟨h1.tp f, h2.tp f⟩
  | [], _ :: _, h => h
  | _ :: _, [], h => h
theorem RcA.tp (f : Tp H H') : ∀ {vs : List V} {cs : List (Addr × List V)} {rs : List Rc}, RcA H vs cs rs → RcA H' vs cs rs
  | [], [], [], _ => trivial
  | _ :: _, _ :: _, _ :: _, ⟨⟨a, e, h⟩, h2, h3⟩ => ⟨⟨a, e, f _ _ h⟩, RpA.tp f h2, h3.tp f⟩
  | [], _ :: _, _, h => h.elim
  | [], [], _ :: _, h => h.elim
  | _ :: _, [], _, h => h.elim
  | _ :: _, _ :: _, [], h => h.elim
theorem MV.tp (f : Tp H H') {d : MD} {s : MS} (v : MV H d s) : MV H' d s := ⟨RpA.tp f v.rows, v.cells, v.dics.tp f, v.makers, v.roots, RpA.tp f v.seen, RpA.tp f v.made, v.recs.tp f⟩
/-! dicts -/
theorem DkA.nil : DkA H [] [] := trivial
theorem DkA.any : ∀ {kvs : List (Key × V)} {d : Dic} (p : Int), DkA H kvs d → (kvs.any fun kv => decide (kv.1 = .inl p)) = d.any fun kv => decide (kv.1 = p)
  | [], [], _, _ => rfl
  | e :: r, c :: t, p, ⟨h1, _, h3⟩ => by
    rw [List.any_cons, List.any_cons, h3.any p, h1]
    congr 1
    by_cases z : c.1 = p
    · rw [decide_eq_true z, decide_eq_true (by rw [z])]
    · rw [decide_eq_false z, decide_eq_false (fun q => z (Sum.inl.inj q))]
  | [], _ :: _, _, h => h.elim
  | _ :: _, [], _, h => h.elim
theorem DkA.get : ∀ {kvs : List (Key × V)} {d : Dic} (p : Int), DkA H kvs d → match gget d p with
    | none => valV kvs (.inl p) = none
    | some c => ∃ v, valV kvs (.inl p) = some v ∧ Rp H v (ctD c)
  | [], [], _, _ => rfl
  | e :: r, c :: t, p, ⟨h1, h2, h3⟩ => by
    by_cases z : c.1 = p
    · rw [gget_pos z]
      exact ⟨e.2, valV_pos (by rw [h1, z]), h2⟩
    · rw [gget_neg z, valV_neg (fun q => z (Sum.inl.inj (h1.symm.trans q)))]
      exact h3.get p
  | [], _ :: _, _, h => h.elim
  | _ :: _, [], _, h => h.elim
theorem DkA.length : ∀ {kvs : List (Key × V)} {d : Dic}, DkA H kvs d → kvs.length = d.length
  | [], [], _ => rfl
  | _ :: _, _ :: _, ⟨_, _, h⟩ => by rw [List.length_cons, List.length_cons, h.length]
  | [], _ :: _, h => h.elim
  | _ :: _, [], h => h.elim
theorem DkA.snoc {v : V} {c : Int × Ct} : ∀ {kvs : List (Key × V)} {d : Dic}, DkA H kvs d → Rp H v (ctD c.2) → DkA H (kvs ++ [(.inl c.1, v)]) (d ++ [c])
  | [], [], _, h => ⟨rfl, h, trivial⟩
  | _ :: _, _ :: _, ⟨h1, h2, h3⟩, h => ⟨h1, h2, h3.snoc h⟩
  | [], _ :: _, h, _ => h.elim
  | _ :: _, [], h, _ => h.elim
theorem DkA.mapPut {v : V} {p : Int} {c : Ct} (hv : Rp H v (ctD c)) : ∀ {kvs : List (Key × V)} {d : Dic}, DkA H kvs d → DkA H (kvs.map fun kv => if kv.1 = .inl p then (kv.1, v) else kv) (d.map fun kv => if kv.1 = p then (kv.1, c) else kv)
  | [], [], _ => trivial
  | e :: r, x :: t, ⟨h1, h2, h3⟩ => by
    rw [List.map_cons, List.map_cons]
    refine ⟨?_, ?_, h3.mapPut hv⟩
    · by_cases z : x.1 = p
      · rw [if_pos z, if_pos (by rw [h1, z])]; exact h1
      · rw [if_neg z, if_neg (fun q => z (Sum.inl.inj (h1.symm.trans q)))]; exact h1
    · by_cases z : x.1 = p
      · rw [if_pos z, if_pos (by rw [h1, z])]; exact hv
      · rw [if_neg z, if_neg (fun q => z (Sum.inl.inj (h1.symm.trans q)))]; exact h2
  | [], _ :: _, h => h.elim
  | _ :: _, [], h => h.elim
theorem DkA.put {kvs : List (Key × V)} {d : Dic} (h : DkA H kvs d) (p : Int) {v : V} {c : Ct} (hv : Rp H v (ctD c)) : DkA H (putK kvs (.inl p) v) (gput d p c) := by
  unfold putK gput
  rw [h.any p]
  by_cases z : (d.any fun kv => decide (kv.1 = p)) = true
  · rw [if_pos z, if_pos z]; exact h.mapPut hv
  · rw [if_neg z, if_neg z]; exact h.snoc (c := (p, c)) hv
theorem DkA.drop (p : Int) : ∀ {kvs : List (Key × V)} {d : Dic}, DkA H kvs d → DkA H (dropK kvs (.inl p)) (gdrop d p)
  | [], [], _ => trivial
  | e :: r, x :: t, ⟨h1, h2, h3⟩ => by
    have ih := h3.drop p
    unfold dropK gdrop at ih ⊢
    by_cases z : x.1 = p
    · rw [List.filter_cons_of_neg (by simp [h1, z]), List.filter_cons_of_neg (by simp [z])]
      exact ih
    · rw [List.filter_cons_of_pos (by simp [h1, z]), List.filter_cons_of_pos (by simp [z])]
      exact ⟨h1, h2, ih⟩
  | [], _ :: _, h => h.elim
  | _ :: _, [], h => h.elim
theorem DsA.at_ : ∀ {l : List (Addr × List (Key × V))} {d : List Dic} {i : Nat} {e : Addr × List (Key × V)}, DsA H l d → l[i]? = some e → DkA H e.2 (d.getD i [])
  | _ :: _, _ :: _, 0, _, ⟨h1, _⟩, z => by cases z; exact h1
  | _ :: r, _ :: t, i + 1, _, ⟨_, h2⟩, z => by
    have := h2.at_ (i := i) (by simpa using z)
    simpa using this
  | [], [], _, _, _, z => by simp at z
  | [], _ :: _, _, _, h, _ => h.elim
  | _ :: _, [], _, _, h, _ => h.elim
theorem DsA.length : ∀ {l : List (Addr × List (Key × V))} {d : List Dic}, DsA H l d → l.length = d.length
  | [], [], _ => rfl
  | _ :: _, _ :: _, ⟨_, h⟩ => by rw [List.length_cons, List.length_cons, h.length]
  | [], _ :: _, h => h.elim
  | _ :: _, [], h => h.elim
theorem DsA.set {a : Addr} {kvs : List (Key × V)} {x : Dic} (hx : DkA H kvs x) : ∀ {l : List (Addr × List (Key × V))} {d : List Dic} (i : Nat), DsA H l d → DsA H (l.set i (a, kvs)) (d.set i x)
  | [], [], _, _ => trivial
  | _ :: _, _ :: _, 0, ⟨_, h2⟩ => ⟨hx, h2⟩
  | _ :: _, _ :: _, i + 1, ⟨h1, h2⟩ => ⟨h1, h2.set hx i⟩
  | [], _ :: _, _, h => h.elim
  | _ :: _, [], _, h => h.elim
theorem DsA.snoc {e : Addr × List (Key × V)} {x : Dic} (hx : DkA H e.2 x) : ∀ {l : List (Addr × List (Key × V))} {d : List Dic}, DsA H l d → DsA H (l ++ [e]) (d ++ [x])
  | [], [], _ => ⟨hx, trivial⟩
  | _ :: _, _ :: _, ⟨h1, h2⟩ => ⟨h1, h2.snoc hx⟩
  | [], _ :: _, h => h.elim
  | _ :: _, [], h => h.elim
theorem DsA.take (k : Nat) : ∀ {l : List (Addr × List (Key × V))} {d : List Dic}, DsA H l d → DsA H (l.take k) (d.take k)
  | [], [], _ => by rw [List.take_nil, List.take_nil]; trivial
  | _ :: _, _ :: _, ⟨h1, h2⟩ => by
    cases k with
    | zero => trivial
    | succ k => exact ⟨h1, h2.take k⟩
  | [], _ :: _, h => h.elim
  | _ :: _, [], h => h.elim
theorem RcA.lengths : ∀ {vs : List V} {cs : List (Addr × List V)} {rs : List Rc}, RcA H vs cs rs → vs.length = rs.length ∧ cs.length = rs.length
  | [], [], [], _ => ⟨rfl, rfl⟩
  | _ :: _, _ :: _, _ :: _, ⟨_, _, h⟩ => by
    obtain ⟨a, b⟩ := h.lengths
    exact ⟨by rw [List.length_cons, List.length_cons, a], by rw [List.length_cons, List.length_cons, b]⟩
  | [], _ :: _, _, h => h.elim
  | [], [], _ :: _, h => h.elim
  | _ :: _, [], _, h => h.elim
  | _ :: _, _ :: _, [], h => h.elim
theorem RcA.snoc {a : Addr} {c : Addr × List V} {r : Rc} (ha : H a = some (.tup [.int r.rows, .int r.cells, .int r.seen, .int r.made, .ref c.1])) (hc : RpA H c.2 (r.ch.map chD)) :
    ∀ {vs : List V} {cs : List (Addr × List V)} {rs : List Rc}, RcA H vs cs rs → RcA H (vs ++ [.ref a]) (cs ++ [c]) (rs ++ [r])
  | [], [], [], _ => ⟨⟨a, rfl, ha⟩, hc, trivial⟩
  | _ :: _, _ :: _, _ :: _, ⟨h1, h2, h3⟩ => ⟨h1, h2, RcA.snoc ha hc h3⟩
  | [], _ :: _, _, h => h.elim
  | [], [], _ :: _, h => h.elim
  | _ :: _, [], _, h => h.elim
  | _ :: _, _ :: _, [], h => h.elim
/-- the last record -/
theorem RcA.last : ∀ {vs : List V} {cs : List (Addr × List V)} {rs : List Rc} {r : Rc}, RcA H vs cs rs → rs.getLast? = some r →
    ∃ (vi : List V) (ci : List (Addr × List V)) (a : Addr) (c : Addr × List V), vs = vi ++ [.ref a] ∧ cs = ci ++ [c] ∧ rs = rs.dropLast ++ [r] ∧ RcA H vi ci rs.dropLast ∧ H a = some (.tup [.int r.rows, .int r.cells, .int r.seen, .int r.made, .ref c.1]) ∧ RpA H c.2 (r.ch.map chD)
  | [], [], [], _, _, e => by cases e
  | [v], [c], [r0], r, ⟨⟨a, e1, e2⟩, h2, _⟩, e => by
    have z : r0 = r := by simpa using e
    subst z
    exact ⟨[], [], a, c, by rw [e1] <;> rfl, rfl, rfl, trivial, e2, h2⟩
  | v :: v2 :: vs, c :: c2 :: cs, r0 :: r1 :: rs, r, ⟨h1, h2, h3⟩, e => by
    obtain ⟨vi, ci, a, c', e1, e2, e3, e4, e5, e6⟩ := RcA.last (vs := v2 :: vs) (cs := c2 :: cs) (rs := r1 :: rs) (r := r) h3 (by simpa using e)
    refine ⟨v :: vi, c :: ci, a, c', by rw [e1] <;> rfl, by rw [e2] <;> rfl, ?_, ?_, e5, e6⟩
    · rw [List.dropLast_cons_of_ne_nil (by simp), List.cons_append, ← e3]
    · rw [List.dropLast_cons_of_ne_nil (by simp)]
      exact ⟨h1, h2, e4⟩
  | [], _ :: _, _, _, h, _ => h.elim
  | [], [], _ :: _, _, h, _ => h.elim
  | _ :: _, [], _, _, h, _ => h.elim
  | _ :: _, _ :: _, [], _, h, _ => h.elim
  | [_], _ :: _ :: _, _ :: _, _, ⟨_, _, h⟩, _ => by cases ‹List Rc› <;> exact h.elim
  | [_], [_], _ :: _ :: _, _, ⟨_, _, h⟩, _ => h.elim
  | _ :: _ :: _, [_], _ :: _, _, ⟨_, _, h⟩, _ => by cases ‹List Rc› <;> exact h.elim
  | _ :: _ :: _, _ :: _ :: _, [_], _, ⟨_, _, h⟩, _ => h.elim
/-! ### changes of the heap's part -/
theorem lst_ne_dK {xs : List V} {kvs : List (Key × V)} : HO.lst xs ≠ HO.dK kvs := fun z => by cases z
theorem lst_ne_ins {xs : List V} {C dx : Addr} {fs : List (Str × V)} : HO.lst xs ≠ HO.ins C dx fs := fun z => by cases z
theorem dK_ne_ins {kvs : List (Key × V)} {C dx : Addr} {fs : List (Str × V)} : HO.dK kvs ≠ HO.ins C dx fs := fun z => by cases z
section
variable {K : Frg} {m : Addr} {p q : V} {b : Bool} {d : MD}
theorem MH.get (h : MH K H m p q b d) {a : Addr} (ha : foot m d a) : ∃ o, H a = some o ∧ ∀ xs, o ≠ .tup xs := by
  rcases ha with rfl | ⟨f, rfl⟩ | ha | ha
  · exact ⟨_, h.ins, fun xs z => by cases z⟩
  · exact ⟨_, h.lst f, fun xs z => by cases z⟩
  · obtain ⟨e, he, rfl⟩ := List.mem_map.mp ha
    exact ⟨_, h.dic e he, fun xs z => by cases z⟩
  · obtain ⟨e, he, rfl⟩ := List.mem_map.mp ha
    exact ⟨_, h.chs e he, fun xs z => by cases z⟩
/-- what the machine has stays, as long as its own objects stay -/
theorem MH.keep (h : MH K H m p q b d) (f : ∀ a, foot m d a → H' a = H a) : MH K H' m p q b d :=
  ⟨by rw [f m (.inl rfl)]; exact h.ins, fun g => by rw [f _ (.inr (.inl ⟨g, rfl⟩))]; exact h.lst g, h.inj, fun e he => by rw [f _ (.inr (.inr (.inl (List.mem_map.mpr ⟨e, he, rfl⟩))))]; exact h.dic e he, h.dnd,
    fun e he => by rw [f _ (.inr (.inr (.inr (List.mem_map.mpr ⟨e, he, rfl⟩))))]; exact h.chs e he, h.cnd, h.cl⟩
theorem MH.same (h : MH K H m p q b d) (f : Same H H') : MH K H' m p q b d := h.keep fun a ha => by
  obtain ⟨o, e, _⟩ := h.get ha
  rw [e]
  exact f a o e
/-- a frame that leaves the machine's own objects -/
theorem MH.fr {W : Addr → Prop} (h : MH K H m p q b d) (f : Fr W H H') (n : ∀ a, foot m d a → ¬ W a) : MH K H' m p q b d := h.keep fun a ha => by
  obtain ⟨o, e, _⟩ := h.get ha
  rw [e]
  exact f.at_ e (n a ha)
/-- a list of the machine is written -/
theorem MH.putL (h : MH K H m p q b d) (f : Fl) (xs : List V) : MH K (upd H (d.l f) (.lst xs)) m p q b { d with vl := upL d.vl f xs } where
  ins := by rw [upd_ne (ne_of h.ins (h.lst f) (Ne.symm lst_ne_ins))]; exact h.ins
  lst := fun g => by
    by_cases e : g = f
    · subst e
      show upd H (d.l g) (.lst xs) (d.l g) = some (.lst (upL d.vl g xs g))
      rw [upd_same, upL_same]
    · show upd H (d.l f) (.lst xs) (d.l g) = some (.lst (upL d.vl f xs g))
      rw [upd_ne (fun z => e (h.inj _ _ z)), upL_ne e]
      exact h.lst g
  inj := h.inj
  dic := fun e he => by rw [upd_ne (ne_of (h.dic e he) (h.lst f) (Ne.symm lst_ne_dK))]; exact h.dic e he
  dnd := h.dnd
  chs := fun e he => by rw [upd_ne (h.cl e he f)]; exact h.chs e he
  cnd := h.cnd
  cl := h.cl
theorem nodup_fst {β : Type} : ∀ {l : List (Addr × β)} {i j : Nat} {x y : Addr × β}, (l.map (·.1)).Nodup → l[i]? = some x → l[j]? = some y → x.1 = y.1 → i = j := fun {l i j x y} h hi hj e => by
  have h1 : (l.map (·.1))[i]? = some x.1 := by rw [List.getElem?_map, hi] <;> rfl
  have h2 : (l.map (·.1))[j]? = some x.1 := by rw [List.getElem?_map, hj, e] <;> rfl
  obtain ⟨a1, b1⟩ := List.getElem?_eq_some_iff.mp h1
  obtain ⟨a2, b2⟩ := List.getElem?_eq_some_iff.mp h2
  exact (List.getElem_inj h).mp (b1.trans b2.symm)
theorem set_fst {β : Type} {a : Addr} {y z : β} : ∀ {l : List (Addr × β)} {i : Nat}, l[i]? = some (a, y) → (l.set i (a, z)).map (·.1) = l.map (·.1)
  | [], i, h => by simp at h
  | x :: r, 0, h => by
    have e : x = (a, y) := by simpa using h
    rw [e] <;> rfl
  | x :: r, i + 1, h => by
    rw [List.set_cons_succ, List.map_cons, List.map_cons, set_fst (l := r) (i := i) (by simpa using h)]
theorem mem_set_of {β : Type} {a : Addr} {y z : β} {l : List (Addr × β)} {i : Nat} (nd : (l.map (·.1)).Nodup) (h : l[i]? = some (a, y)) {e : Addr × β} (he : e ∈ l.set i (a, z)) : e = (a, z) ∨ (e ∈ l ∧ e.1 ≠ a) := by
  obtain ⟨j, hj⟩ := List.mem_iff_getElem?.mp he
  by_cases c : i = j
  · subst c
    obtain ⟨hi, _⟩ := List.getElem?_eq_some_iff.mp h
    rw [List.getElem?_set_self hi] at hj
    exact .inl (Option.some.inj hj).symm
  · rw [List.getElem?_set_ne c] at hj
    refine .inr ⟨List.mem_of_getElem? hj, fun q => c ?_⟩
    exact (nodup_fst nd hj h q).symm
/-- a dict of the machine is written -/
theorem MH.putD (h : MH K H m p q b d) {i : Nat} {a : Addr} {kvs : List (Key × V)} (hi : d.ds[i]? = some (a, kvs)) (ks : List (Key × V)) : MH K (upd H a (.dK ks)) m p q b { d with ds := d.ds.set i (a, ks) } where
  ins := by rw [upd_ne (ne_of h.ins (h.dic _ (List.mem_of_getElem? hi)) (Ne.symm dK_ne_ins))]; exact h.ins
  lst := fun g => by
    show upd H a (.dK ks) (d.l g) = some (.lst (d.vl g))
    rw [upd_ne (ne_of (h.lst g) (h.dic _ (List.mem_of_getElem? hi)) lst_ne_dK)]; exact h.lst g
  inj := h.inj
  dic := fun e he => by
    rcases mem_set_of h.dnd hi he with rfl | ⟨h1, h2⟩
    · exact upd_same
    · rw [upd_ne h2]; exact h.dic e h1
  dnd := by
    show ((d.ds.set i (a, ks)).map (·.1)).Nodup
    rw [set_fst hi]; exact h.dnd
  chs := fun e he => by rw [upd_ne (ne_of (h.chs e he) (h.dic _ (List.mem_of_getElem? hi)) lst_ne_dK)]; exact h.chs e he
  cnd := h.cnd
  cl := h.cl
/-- a list of changes is written -/
theorem MH.putC (h : MH K H m p q b d) {i : Nat} {a : Addr} {xs : List V} (hi : d.cs[i]? = some (a, xs)) (ys : List V) : MH K (upd H a (.lst ys)) m p q b { d with cs := d.cs.set i (a, ys) } where
  ins := by rw [upd_ne (ne_of h.ins (h.chs _ (List.mem_of_getElem? hi)) (Ne.symm lst_ne_ins))]; exact h.ins
  lst := fun g => by
    show upd H a (.lst ys) (d.l g) = some (.lst (d.vl g))
    rw [upd_ne (Ne.symm (h.cl _ (List.mem_of_getElem? hi) g))]; exact h.lst g
  inj := h.inj
  dic := fun e he => by rw [upd_ne (ne_of (h.dic e he) (h.chs _ (List.mem_of_getElem? hi)) (Ne.symm lst_ne_dK))]; exact h.dic e he
  dnd := h.dnd
  chs := fun e he => by
    rcases mem_set_of h.cnd hi he with rfl | ⟨h1, h2⟩
    · exact upd_same
    · rw [upd_ne h2]; exact h.chs e h1
  cnd := by
    show ((d.cs.set i (a, ys)).map (·.1)).Nodup
    rw [set_fst hi]; exact h.cnd
  cl := fun e he f => by
    rcases mem_set_of h.cnd hi he with rfl | ⟨h1, _⟩
    · exact h.cl _ (List.mem_of_getElem? hi) f
    · exact h.cl e h1 f
/-- a dict is taken in -/
theorem MH.newD (h : MH K H m p q b d) {a : Addr} {kvs : List (Key × V)} (ha : H a = some (.dK kvs)) (hn : ∀ e ∈ d.ds, e.1 ≠ a) : MH K H m p q b { d with ds := d.ds ++ [(a, kvs)] } where
  ins := h.ins
  lst := h.lst
  inj := h.inj
  dic := fun e he => by
    rcases List.mem_append.mp he with z | z
    · exact h.dic e z
    · rw [List.mem_singleton.mp z]; exact ha
  dnd := by
    show ((d.ds ++ [(a, kvs)]).map (·.1)).Nodup
    rw [List.map_append]
    refine List.nodup_append.mpr ⟨h.dnd, by simp, fun x hx y hy z => ?_⟩
    obtain ⟨e, he, rfl⟩ := List.mem_map.mp hx
    simp at hy
    exact hn e he (by rw [z, hy])
  chs := h.chs
  cnd := h.cnd
  cl := h.cl
/-- a list of changes is taken in -/
theorem MH.newC (h : MH K H m p q b d) {a : Addr} {xs : List V} (ha : H a = some (.lst xs)) (hn : ∀ e ∈ d.cs, e.1 ≠ a) (hl : ∀ f, a ≠ d.l f) : MH K H m p q b { d with cs := d.cs ++ [(a, xs)] } where
  ins := h.ins
  lst := h.lst
  inj := h.inj
  dic := h.dic
  dnd := h.dnd
  chs := fun e he => by
    rcases List.mem_append.mp he with z | z
    · exact h.chs e z
    · rw [List.mem_singleton.mp z]; exact ha
  cnd := by
    show ((d.cs ++ [(a, xs)]).map (·.1)).Nodup
    rw [List.map_append]
    refine List.nodup_append.mpr ⟨h.cnd, by simp, fun x hx y hy z => ?_⟩
    obtain ⟨e, he, rfl⟩ := List.mem_map.mp hx
    simp at hy
    exact hn e he (by rw [z, hy])
  cl := fun e he f => by
    rcases List.mem_append.mp he with z | z
    · exact h.cl e z f
    · rw [List.mem_singleton.mp z]; exact hl f
/-- the word busy is written -/
theorem MH.busy (h : MH K H m p q b d) (b' : Bool) : MH K (upd H m (.ins (CM K) d.dx (mfs p q d.l b'))) m p q b' d where
  ins := upd_same
  lst := fun g => by rw [upd_ne (ne_of (h.lst g) h.ins lst_ne_ins)]; exact h.lst g
  inj := h.inj
  dic := fun e he => by rw [upd_ne (ne_of (h.dic e he) h.ins dK_ne_ins)]; exact h.dic e he
  dnd := h.dnd
  chs := fun e he => by rw [upd_ne (ne_of (h.chs e he) h.ins lst_ne_ins)]; exact h.chs e he
  cnd := h.cnd
  cl := h.cl
/-- what a call at the machine may do to the heap -/
def Ch (m : Addr) (d : MD) (H H' : Hp) (d' : MD) : Prop := Fr (foot m d) H H' ∧ ∀ a, foot m d' a → foot m d a ∨ H a = none
theorem Ch.refl (m : Addr) (d : MD) (H : Hp) : Ch m d H H d := ⟨Fr.refl _ _, fun _ h => .inl h⟩
theorem Ch.trans {H1 H2 : Hp} {d1 d2 : MD} (f : Ch m d H H1 d1) (g : Ch m d1 H1 H2 d2) : Ch m d H H2 d2 := by
  refine ⟨f.1.trans g.1 f.2, fun a ha => ?_⟩
  rcases g.2 a ha with z | z
  · exact f.2 a z
  · by_cases w : foot m d a
    · exact .inl w
    · cases e : H a with
      | none => exact .inr rfl
      | some o =>
        rw [f.1.at_ e w] at z
        cases z
theorem Ch.same (f : Same H H') : Ch m d H H' d := ⟨Fr.of f, fun _ h => .inl h⟩
theorem Ch.tp (f : Ch m d H H' d') : Tp H H' := f.1.tp
/-- an own object is written, no place is new -/
theorem Ch.put {d' : MD} {a : Addr} {o u : HO} (ha : foot m d a) (h : H a = some u) (hu : ∀ xs, u ≠ .tup xs) (hf : ∀ a, foot m d' a → foot m d a) : Ch m d H (upd H a o) d' := ⟨Fr.put ha h hu, fun a h => .inl (hf a h)⟩
/-- a new object is taken in -/
theorem Ch.new {d' : MD} {a : Addr} (hn : H a = none) (hf : ∀ x, foot m d' x → foot m d x ∨ x = a) (f : Same H H') : Ch m d H H' d' := ⟨Fr.of f, fun x h => (hf x h).imp id fun z => by rw [z]; exact hn⟩
/-- the records and the finished lists of changes stay -/
def Rk (d d' : MD) : Prop := (∃ t, d'.vl .recs = d.vl .recs ++ t) ∧ (∃ t, d'.cs = d.cs.dropLast ++ t) ∧ d.cs.length ≤ d'.cs.length
theorem Rk.of {d d' : MD} (h1 : d'.vl .recs = d.vl .recs) (h2 : d'.cs = d.cs) : Rk d d' := ⟨⟨[], by rw [h1, List.append_nil]⟩, by
  rw [h2]
  exact (List.dropLast_prefix d.cs).imp fun _ z => z.symm, Nat.le_of_eq (by rw [h2])⟩
theorem Rk.refl (d : MD) : Rk d d := Rk.of rfl rfl
theorem Rk.trans {d d1 d2 : MD} (f : Rk d d1) (g : Rk d1 d2) : Rk d d2 := by
  obtain ⟨⟨t, e1⟩, ⟨u, e2⟩, e3⟩ := f
  obtain ⟨⟨t', f1⟩, ⟨u', f2⟩, f3⟩ := g
  refine ⟨⟨t ++ t', by rw [f1, e1, List.append_assoc]⟩, ?_, Nat.le_trans e3 f3⟩
  by_cases z : u = []
  · have h0 : d.cs = [] := by
      rw [z, List.append_nil] at e2
      rw [e2, List.length_dropLast] at e3
      exact List.length_eq_zero_iff.mp (by omega)
    exact ⟨d2.cs, by rw [h0] <;> rfl⟩
  · refine ⟨u.dropLast ++ u', ?_⟩
    rw [f2, e2, List.dropLast_append_of_ne_nil z, List.append_assoc]
/-- a change that keeps the past -/
def Cr (m : Addr) (d : MD) (H H' : Hp) (d' : MD) : Prop := Ch m d H H' d' ∧ Rk d d'
theorem Cr.refl (m : Addr) (d : MD) (H : Hp) : Cr m d H H d := ⟨Ch.refl m d H, Rk.refl d⟩
theorem Cr.trans {H1 H2 : Hp} {d1 d2 : MD} (f : Cr m d H H1 d1) (g : Cr m d1 H1 H2 d2) : Cr m d H H2 d2 := ⟨f.1.trans g.1, f.2.trans g.2⟩
theorem Cr.same (f : Same H H') : Cr m d H H' d := ⟨Ch.same f, Rk.refl d⟩
theorem Cr.tp (f : Cr m d H H' d') : Tp H H' := f.1.tp
theorem foot_vl (vl : Fl → List V) {a : Addr} : foot m { d with vl := vl } a ↔ foot m d a := Iff.rfl
theorem foot_ds {i : Nat} {x : Addr} {kvs ks : List (Key × V)} (hi : d.ds[i]? = some (x, kvs)) {a : Addr} : foot m { d with ds := d.ds.set i (x, ks) } a ↔ foot m d a := by
  unfold foot
  show _ ∨ _ ∨ a ∈ (d.ds.set i (x, ks)).map (·.1) ∨ _ ↔ _
  rw [set_fst hi]
theorem foot_cs {i : Nat} {x : Addr} {xs ys : List V} (hi : d.cs[i]? = some (x, xs)) {a : Addr} : foot m { d with cs := d.cs.set i (x, ys) } a ↔ foot m d a := by
  unfold foot
  show _ ∨ _ ∨ _ ∨ a ∈ (d.cs.set i (x, ys)).map (·.1) ↔ _
  rw [set_fst hi]
end
end
end GB
set_option maxHeartbeats 4000000
/-! GM1: questions to a machine. -/
namespace GB
open PySem PySem.Spec PyProof.Rows L2
local macro_rules | `(tactic| walk_at "g") => `(tactic| first
  | refine ⟨_, rfl, ?_⟩
  | refine ⟨_, _, rfl, rfl, ?_⟩
  | refine ⟨_, _, _, _, rfl, rfl, SqT.of (by assumption), by rfl, ?_⟩
  | refine ⟨_, _, _, _, rfl, rfl, SqL.of (by assumption), by rfl, ?_⟩
  | refine ⟨_, _, _, _, rfl, rfl, SqL.of (by assumption), atI_nat (by assumption), ?_⟩
  | refine ⟨rfl, ⟨rfl, by decide⟩, ?_⟩
  | refine ⟨_, _, _, _, _, rfl, .ty _, .base (.tup (by assumption)), kt_tup, ?_⟩
  | refine ⟨_, _, _, _, _, rfl, .ty _, .base (.str _), kt_str, ?_⟩
  | refine ⟨_, _, rfl, .inr (SqT.of (by assumption)), ?_⟩
  | refine ⟨_, _, rfl, .inl (SqL.of (by assumption)), ?_⟩
  | refine iteT_of (by first | decide +kernel | rfl) ?_
  | refine iteF_of (by first | decide +kernel | rfl) ?_
  | refine iteT_of (btw_t (by omega)) ?_
  | refine iteF_of (by rw [btw_t (by omega)]; rfl) ?_
  | refine ⟨_, _, rfl, rfl, by assumption, ?_⟩
  | refine ⟨_, _, _, rfl, rfl, by assumption, ?_⟩
  | refine ⟨_, _, _, _, _, rfl, by assumption, Txt.cl (by assumption), by first | exact Txt.no_kept_program (by assumption) | exact Txt.no_kept_policy (by assumption) | exact Txt.no_rows (by assumption) | exact Txt.no_cells (by assumption) | exact Txt.no_makers (by assumption) | exact Txt.no_roots (by assumption) | exact Txt.no_seen (by assumption) | exact Txt.no_made (by assumption) | exact Txt.no_records (by assumption) | exact Txt.no_busy (by assumption), by rfl, ?_⟩
  | refine ⟨_, _, _, rfl, by assumption, by rfl, ?_⟩
  | refine ⟨_, _, _, rfl, ?_⟩
  | refine ⟨_, _, rfl, SqT.of (by assumption), by rfl, ?_⟩
  | refine ⟨_, _, rfl, ?_⟩
  | refine ⟨.inl (by decide), ?_⟩
  | refine ⟨.inl ⟨rfl, _, SqL.of (by assumption)⟩, ?_⟩
  | refine ⟨rfl, ?_⟩)
local macro_rules | `(tactic| walk_at "gs") => `(tactic| repeat walk_at "g")
local macro_rules | `(tactic| walk_at "b") => `(tactic| (first | decide +kernel | (simp only [decide_eq_true_eq, decide_eq_false_iff_not, List.length_map, V.int.injEq, Bool.not_eq_true', Bool.not_eq_false']; omega)))
section
variable {P : Program} {w : World} {K : Frg} {mg : Str → Option Value} {base : Heap}
/-- a machine that stands in a state -/
structure MA (K : Frg) (H : Hp) (m : Addr) (p q : V) (b : Bool) (d : MD) (s : MS) : Prop where
  h : MH K H m p q b d
  v : MV H d s
theorem MA.same {H H' : Hp} {m : Addr} {p q : V} {b : Bool} {d : MD} {s : MS} (x : MA K H m p q b d s) (f : Same H H') : MA K H' m p q b d s := ⟨x.h.same f, x.v.tp (Same.tp f)⟩
def sp_M_need_rest : Sp := fun vs H Q _ => ∃ (m : Addr) (p q : V) (d : MD), vs = [.ref m] ∧ MH K H m p q false d ∧ Q .non H
theorem ok_M_need_rest (T : Txt K mg) : Ok P w K mg base CX0 1 ("Machine", some "need_rest") P_M_need_rest (sp_M_need_rest (K := K)) := by
  refine Ok.of T.f_M_need_rest sc_M_need_rest (fun _ _ _ _ _ _ us hl => match us, hl with | [_], _ => rfl) (fun vs H Q E h => ?_) fun f cdv A outer s H vs Q E hr h => ?_
  · obtain ⟨m, p, q, d, rfl, _⟩ := h
    rfl
  · obtain ⟨m, p, q, d, rfl, hm, k⟩ := h
    have hi := hm.ins
    refine ⟨_, PSs.nox (pss_one (ps_if (pt_val (pe_fld (pv 0) rfl))
       (pss_one ps_never)
       pss_nil)), ?_⟩
    walk_at "gs"
    exact k
def sp_M_position : Sp := fun vs H Q _ => ∃ (m : Addr) (p q : V) (b : Bool) (d : MD) (s : MS), vs = [.ref m] ∧ MA K H m p q b d s ∧ Q (.int s.recs.length) H
theorem ok_M_position (T : Txt K mg) : Ok P w K mg base CX0 1 ("Machine", some "position") P_M_position (sp_M_position (K := K)) := by
  refine Ok.of T.f_M_position sc_M_position (fun _ _ _ _ _ _ us hl => match us, hl with | [_], _ => rfl) (fun vs H Q E h => ?_) fun f cdv A outer s H vs Q E hr h => ?_
  · obtain ⟨m, p, q, b, d, s, rfl, _⟩ := h
    rfl
  · obtain ⟨m, p, q, b, d, s, rfl, hm, k⟩ := h
    have hi := hm.h.ins
    have hl := hm.h.lst .recs
    refine ⟨_, PSs.nox (pss_one (ps_ret (pe_callB call_len_seq rfl T.bi.len (by decide +kernel) (pa_cons (pe_fld (pv 0) rfl) pa_nil)))), ?_⟩
    walk_at "gs"
    rw [(hm.v.recs).lengths.1]
    exact k
section
variable {H : Hp} {m : Addr} {p q : V} {b : Bool} {d : MD} {s : MS}
theorem MA.dic (x : MA K H m p q b d s) {i : Nat} (h : i < s.cells.length) : ∃ e, d.ds[i]? = some e ∧ (d.vl .cells)[i]? = some (.ref e.1) ∧ H e.1 = some (.dK e.2) ∧ DkA H e.2 (s.blk i) := by
  have hl := x.v.dics.length
  have hi : i < d.ds.length := by omega
  refine ⟨d.ds[i], List.getElem?_eq_getElem hi, ?_, x.h.dic _ (List.getElem_mem hi), x.v.dics.at_ (List.getElem?_eq_getElem hi)⟩
  rw [x.v.cells, List.getElem?_map, List.getElem?_eq_getElem hi] <;> rfl
theorem MA.root (x : MA K H m p q b d s) {i : Nat} (h : i < s.roots.length) : (d.vl .roots)[i]? = some (.int (s.roots.getD i 0)) := by
  rw [x.v.roots, List.getElem?_map, List.getElem?_eq_getElem h, List.getD_eq_getElem?_getD, List.getElem?_eq_getElem h] <;> rfl
theorem MA.row (x : MA K H m p q b d s) {i : Nat} (h : i < s.rows.length) : ∃ a, (d.vl .rows)[i]? = some (.ref a) ∧ H a = some (.tup [.int (s.row i).s, .int (s.row i).l, capV (s.row i).c, .int (s.row i).b]) := by
  obtain ⟨v, hv, rv⟩ := x.v.rows.get (i := i) (d := rowD (s.row i)) (by
    rw [List.getElem?_map, List.getElem?_eq_getElem h]
    show some _ = some (rowD (s.rows.getD i row0))
    rw [List.getD_eq_getElem?_getD, List.getElem?_eq_getElem h] <;> rfl)
  obtain ⟨a, rfl, ha⟩ := (rp_row _).mp rv
  exact ⟨a, hv, ha⟩
theorem MA.rowsLen (x : MA K H m p q b d s) : (d.vl .rows).length = s.rows.length := by rw [x.v.rows.length, List.length_map]
end
def sp_M_found_at : Sp := fun vs H Q _ => ∃ (m : Addr) (p q : V) (b : Bool) (d : MD) (s : MS) (bk : Nat) (pl : Int), vs = [.ref m, .int bk, .int pl] ∧ MA K H m p q b d s ∧ bk < s.cells.length ∧ bk < s.roots.length ∧ ∀ v H', Same H H' → Rp H' v (ctD (s.found bk pl)) → Q v H'
theorem ok_M_found_at (T : Txt K mg) : Ok P w K mg base CX0 1 ("Machine", some "found_at") P_M_found_at (sp_M_found_at (K := K)) := by
  refine Ok.of T.f_M_found_at sc_M_found_at (fun _ _ _ _ _ _ us hl => match us, hl with | [_, _, _], _ => rfl) (fun vs H Q E h => ?_) fun f cdv A outer s H vs Q E hr h => ?_
  · obtain ⟨m, p, q, b, d, s, bk, pl, rfl, _⟩ := h
    rfl
  · obtain ⟨m, p, q, b, d, s, bk, pl, rfl, hm, h1, h2, k⟩ := h
    have hi := hm.h.ins
    have hc := hm.h.lst .cells
    have ho := hm.h.lst .roots
    refine ⟨_, PSs.nox (pss_one (ps_ret (pe_dget2 (hu_of hr) (pe_ix ix_list (pe_fld (pv 0) rfl) (pv 1) (fun _ _ => rfl)) (pv 2) (pe_tup (pa_cons (pe_ix ix_list (pe_fld (pv 0) rfl) (pv 1) (fun _ _ => rfl)) (pa_cons pe_int pa_nil))) ⟨rfl, rfl, rfl, rfl⟩))), ?_⟩
    obtain ⟨e, he, hx, hd, hk⟩ := hm.dic h1
    have hr0 := hm.root h2
    walk_at "gs"
    refine ⟨.inl ⟨_, .inl hd⟩, ?_⟩
    walk_at "gs"
    refine ⟨szk (n := 2) (by decide), fun t ht => ⟨_, .inl ⟨_, .inl pl, .inl (Same.new ht _ _ hd), rfl, rfl⟩, ?_⟩⟩
    have z := hk.get pl
    have e1 : s.found bk pl = (gget (s.blk bk) pl).getD (s.roots.getD bk 0, 0) := rfl
    cases g : gget (s.blk bk) pl with
    | none =>
      rw [g] at z e1
      rw [z]
      refine k _ _ (Same.new ht) ?_
      rw [e1]
      exact (rp_ct _).mpr ⟨t, rfl, upd_same⟩
    | some c =>
      rw [g] at z e1
      obtain ⟨v, hv, rv⟩ := z
      rw [hv]
      refine k _ _ (Same.new ht) ?_
      rw [e1]
      exact Rp.tp (Same.tp (Same.new ht)) rv
end
end GB
set_option maxHeartbeats 4000000
/-! GTx2: the errors with a field. -/
namespace GB
open PySem PySem.Spec PyProof.Rows L2
structure ClsX (K : Frg) (D fI : Addr) (f : Str) (v c : Bool) : Prop where
  ox : OixC K D
  ec : ExcC K D
  xf : XfC K D
  tk : PySem.W.takerIn K D f = some none
  no : PySem.W.findIn K (.ref D) f = some none
  ini : PySem.W.findIn K (.ref D) "__init__" = some (some (.ref fI))
  ty : PySem.W.typeIn K (.ref fI) = some (.type "function")
  exm : PySem.W.exmAny K (.ref D) (eight K) = some true
  four : PySem.W.kitAny K (.ref D) (four K) = some false
  marks : ∀ q ∈ marksOf K v c, PySem.W.kitOne K (.ref D) q.1 = some q.2
theorem clsB_ok {K : Frg} {D fI : Addr} {f : Str} {v c : Bool} (h : clsB K D fI f v c = true) : ClsX K D fI f v c := by
  simp only [clsB, Bool.and_eq_true, decide_eq_true_eq] at h
  obtain ⟨h1, h2, h3, h4, h5, h6, h7, h8, h9, h10⟩ := h
  exact ⟨oixB_ok h1, excCB_ok h2, xfB_ok h3, h4, h5, h6, h7, h8, h9, fun q hq => by simpa using List.all_eq_true.mp h10 q hq⟩
/-- what the written part says of the two errors -/
structure TxX (K : Frg) : Prop where
  v : ClsX K (CV K) (He.fAd K d_vi.at_) "view" true false
  c : ClsX K (CC K) (He.fAd K d_ci.at_) "index" false true
  fv : F_vi K
  fc : F_ci K
section
variable {P : Program} {w : World} {K : Frg} {mg : Str → Option Value} {base : Heap}
/-- __init__ keeps the one field -/
def sp_xi (C : Addr) (f : Str) : Sp := fun vs H Q _ => ∃ (a : Addr) (y : V), vs = [.ref a, y] ∧ H a = some (exo a C none) ∧ ∀ dx, H dx = none → dx ≠ a → Q .non (upd (upd H dx (exd dx [(f, y)])) a (exo a C (some dx)))
theorem ok_vi (T : TxX K) : Ok P w K mg base CX0 1 ("NoView", some "__init__") ["self", "view"] (sp_xi (CV K) "view") := by
  refine Ok.of T.fv sc_vi (fun _ _ _ _ _ _ us hl => match us, hl with | [_, _], _ => rfl) (fun vs H Q E h => ?_) fun f cdv A outer s H vs Q E hr h => ?_
  · obtain ⟨a, y, rfl, _⟩ := h
    rfl
  · obtain ⟨a, y, rfl, ha, q⟩ := h
    refine ⟨_, PSs.nox (pss_one (ps_ixs (pv 0) (pv 1))), ?_⟩
    exact ⟨_, rfl, _, rfl, a, CV K, rfl, T.v.ox, T.v.tk, ha, q⟩
theorem ok_ci (T : TxX K) : Ok P w K mg base CX0 1 ("NoCell", some "__init__") ["self", "index"] (sp_xi (CC K) "index") := by
  refine Ok.of T.fc sc_ci (fun _ _ _ _ _ _ us hl => match us, hl with | [_, _], _ => rfl) (fun vs H Q E h => ?_) fun f cdv A outer s H vs Q E hr h => ?_
  · obtain ⟨a, y, rfl, _⟩ := h
    rfl
  · obtain ⟨a, y, rfl, ha, q⟩ := h
    refine ⟨_, PSs.nox (pss_one (ps_ixs (pv 0) (pv 1))), ?_⟩
    exact ⟨_, rfl, _, rfl, a, CC K, rfl, T.c.ox, T.c.tk, ha, q⟩
end
theorem del_upd3 {H : Hp} {a d : Addr} {o1 o2 o3 : HO} (ha : H a = none) (hd : d ≠ a) : del (upd (upd (upd H a o1) d o2) a o3) a = upd H d o2 := by
  funext b
  unfold del
  by_cases z : b = a
  · rw [if_pos z, upd_ne (by rw [z]; exact Ne.symm hd), z, ha]
  · rw [if_neg z, upd_ne z]
    by_cases y : b = d
    · rw [y, upd_same, upd_same]
    · rw [upd_ne y, upd_ne z, upd_ne y]
theorem mk_x {C : Addr} {f : Str} {y : V} {H1 : Hp} {Q : XK} {E : XK} (q : ∀ d, H1 d = none → Q (.ref C) (some d) (upd H1 d (.xd [(f, y)]))) (a : Addr) (ha : H1 a = none) :
    sp_xi C f (.ref a :: ([y] ++ [])) (upd H1 a (exo a C none)) (fun v H2 => v = .non ∧ ∃ (d : Addr) (fs : List (Str × V)), H2 a = some (exo a C (some d)) ∧ H2 d = some (exd d fs) ∧ H1 d = none ∧ Q (.ref C) (some d) (upd (del H2 a) d (.xd fs))) E := by
  refine ⟨a, y, rfl, upd_same, fun dx h1 h2 => ⟨rfl, dx, [(f, y)], upd_same, by rw [upd_ne h2, upd_same], ?_, ?_⟩⟩
  · rw [upd_ne h2] at h1
    exact h1
  · have h3 : H1 dx = none := by
      rw [upd_ne h2] at h1
      exact h1
    rw [del_upd3 ha h2, upd_upd]
    exact q dx h3
section
variable {X : Cx} {e : Expr} {te : TE} {W : WX} {x f : Str} {p pos pos2 : Pos} {C : Addr} {at_ : Str × Option Str} {s1 : Str} {v c : Bool}
theorem ps_rx (hc : X.calm = true) (tk : Takes X W) (T : ClsX X.K C (He.fAd X.K at_) f v c) (O : Ok X.prog X.w X.K X.mg X.base CX0 1 at_ ["self", s1] (sp_xi C f)) (hm : X.mg x = some (.ref C)) (hr : Room 2 X.A) (hg : Gl X x) (he : PE X e te)
    (hdb : (x == ("__debug__" : Str)) = false := by decide) (hs : starEach (e :: []) X.env = (false, eval e X.env) :: starEach [] X.env := by rfl) :
    PS X (.Raise (some (.Call (.Name x p) [e] [] pos)) none pos2) (fun _ σ H => tMkO C (sp_xi C f) [] (tCons te tNil) σ H fun cls d H' => W cls d σ H') := by
  obtain ⟨fd, b, F⟩ := O
  exact L2.ps_raise (pos := pos2) hc tk (pmk_ix (p := p) (pos := pos) T.ox T.ini T.ty F hr b pass0 hg hm (pa_cons he pa_nil hs) hdb hs)
end
end GB
set_option maxHeartbeats 4000000
/-! GM2: questions that may be refused. -/
namespace GB
open PySem PySem.Spec PyProof.Rows L2
local macro_rules | `(tactic| walk_at "g") => `(tactic| first
  | refine ⟨_, rfl, ?_⟩
  | refine ⟨_, _, rfl, rfl, ?_⟩
  | refine ⟨_, _, _, _, rfl, rfl, SqT.of (by assumption), by rfl, ?_⟩
  | refine ⟨_, _, _, _, rfl, rfl, SqL.of (by assumption), by rfl, ?_⟩
  | refine ⟨_, _, _, _, rfl, rfl, SqL.of (by assumption), atI_nat (by assumption), ?_⟩
  | refine ⟨rfl, ⟨rfl, by decide⟩, ?_⟩
  | refine ⟨_, _, _, _, _, rfl, .ty _, .base (.tup (by assumption)), kt_tup, ?_⟩
  | refine ⟨_, _, _, _, _, rfl, .ty _, .base (.str _), kt_str, ?_⟩
  | refine ⟨_, _, rfl, .inr (SqT.of (by assumption)), ?_⟩
  | refine ⟨_, _, rfl, .inl (SqL.of (by assumption)), ?_⟩
  | refine iteT_of (by first | decide +kernel | rfl) ?_
  | refine iteF_of (by first | decide +kernel | rfl) ?_
  | refine iteT_of (btw_t (by omega)) ?_
  | refine iteF_of (by rw [btw_t (by omega)]; rfl) ?_
  | refine ⟨_, _, rfl, rfl, by assumption, ?_⟩
  | refine ⟨_, _, _, rfl, rfl, by assumption, ?_⟩
  | refine ⟨_, _, _, _, _, rfl, by assumption, Txt.cl (by assumption), by first | exact Txt.no_kept_program (by assumption) | exact Txt.no_kept_policy (by assumption) | exact Txt.no_rows (by assumption) | exact Txt.no_cells (by assumption) | exact Txt.no_makers (by assumption) | exact Txt.no_roots (by assumption) | exact Txt.no_seen (by assumption) | exact Txt.no_made (by assumption) | exact Txt.no_records (by assumption) | exact Txt.no_busy (by assumption), by rfl, ?_⟩
  | refine ⟨_, _, _, rfl, by assumption, by rfl, ?_⟩
  | refine ⟨_, _, _, rfl, ?_⟩
  | refine ⟨_, _, rfl, SqT.of (by assumption), by rfl, ?_⟩
  | refine ⟨_, _, rfl, ?_⟩
  | refine ⟨.inl (by decide), ?_⟩
  | refine ⟨.inl ⟨rfl, _, SqL.of (by assumption)⟩, ?_⟩
  | refine ⟨rfl, ?_⟩)
local macro_rules | `(tactic| walk_at "gs") => `(tactic| repeat walk_at "g")
local macro_rules | `(tactic| walk_at "b") => `(tactic| (first | decide +kernel | (simp only [decide_eq_true_eq, decide_eq_false_iff_not, List.length_map, V.int.injEq, Bool.not_eq_true', Bool.not_eq_false']; omega)))
section
variable {P : Program} {w : World} {K : Frg} {mg : Str → Option Value} {base : Heap}
/-- it is refused: the class C with the one field f -/
def Refs (C : Addr) (f : Str) (y : V) (H : Hp) (E : XK) : Prop := ∀ d, H d = none → E (.ref C) (some d) (upd H d (.xd [(f, y)]))
theorem passF {X : Cx} {CX : CXT} (h : ∀ H s e s', CX X.stack H s (fun _ _ _ => False) e s' → False) : Passes CX X (fun _ _ _ => False) := fun pins σ H s e s' _ c => (h H s e s' c).elim
theorem cxF {P : Program} {w : World} {o : List Env} {H : Hp} {s : Shared} {e : Value} {s' : Shared} (c : L2.CX P w o H s (fun _ _ _ => False) e s') : False := by
  obtain ⟨_, _, _, _, _, _, _, _, _, _, _, _, z⟩ := c
  exact z
def sp_M_row_of : Sp := fun vs H Q E => ∃ (m : Addr) (p q : V) (b : Bool) (d : MD) (s : MS) (z : Int), vs = [.ref m, .int z] ∧ MA K H m p q b d s ∧
  (∀ (i : Nat) (a : Addr), z = i → i < s.rows.length → H a = some (.tup [.int (s.row i).s, .int (s.row i).l, capV (s.row i).c, .int (s.row i).b]) → Q (.ref a) H) ∧ ((z < 0 ∨ (s.rows.length : Int) ≤ z) → Refs (CV K) "view" (.int z) H E)
theorem ok_M_row_of (T : Txt K mg) (TX : TxX K) : Ok P w K mg base (L2.CX P w) 3 ("Machine", some "row_of") P_M_row_of (sp_M_row_of (K := K)) := by
  refine Ok.of T.f_M_row_of sc_M_row_of (fun _ _ _ _ _ _ us hl => match us, hl with | [_, _], _ => rfl) (fun vs H Q E h => ?_) fun f cdv A outer s H vs Q E hr h => ?_
  · obtain ⟨m, p, q, b, d, s, z, rfl, _⟩ := h
    rfl
  · obtain ⟨m, p, q, b, d, s0, z, rfl, hm, k1, k2⟩ := h
    have hi := hm.h.ins
    have hl := hm.h.lst .rows
    have tk := L2.takes_of (X := cxOf (L2.CX P w) P w K mg base N_M_row_of d_M_row_of.qual d_M_row_of.scope f cdv A outer s H E) rfl rfl rfl rfl
    have hn := hm.rowsLen
    refine ⟨_, (pss_cons (ps_if (pt_not (pt_val (pf (ok_is_between T) T.g_is_between hr rfl pass0 (pa_cons (pv 1) (pa_cons pe_int (pa_cons (pe_op op_sub (pe_callB call_len_seq rfl T.bi.len (by decide +kernel) (pa_cons (pe_fld (pv 0) rfl) pa_nil)) pe_int) pa_nil))))))
       (pss_one (ps_rx rfl tk TX.v (ok_vi TX) T.g_NoView.g hr rfl (pv 1)))
       pss_nil)
      (pss_one (ps_ret (pe_ix ix_list (pe_fld (pv 0) rfl) (pv 1) (fun _ _ => rfl))))), ?_⟩
    walk_at "gs"
    refine iteD (fun c => ?_) fun c => ?_
    · have c : btw 0 z ((d.vl .rows).length - 1) = false := by simpa using c
      refine ⟨_, rfl, by simp, mk_x (k2 ?_)⟩
      rcases Int.lt_or_le z 0 with h | h
      · exact .inl h
      · rcases Int.lt_or_le z s0.rows.length with g | g
        · rw [btw_t (by omega)] at c
          cases c
        · exact .inr g
    · have c : btw 0 z ((d.vl .rows).length - 1) = true := by simpa using c
      have c' : 0 ≤ z ∧ z ≤ ((d.vl .rows).length : Int) - 1 := by simpa [btw] using c
      obtain ⟨i, rfl⟩ := Int.eq_ofNat_of_zero_le c'.1
      have hi2 : i < s0.rows.length := by omega
      obtain ⟨a, ha, hr1⟩ := hm.row hi2
      walk_at "gs"
      exact k1 i a rfl hi2 hr1
def sp_M_capacity : Sp := fun vs H Q E => ∃ (m : Addr) (p q : V) (b : Bool) (d : MD) (s : MS) (z : Int), vs = [.ref m, .int z] ∧ MA K H m p q b d s ∧
  (∀ (i : Nat), z = i → i < s.rows.length → Q (capV (s.row i).c) H) ∧ ((z < 0 ∨ (s.rows.length : Int) ≤ z) → Refs (CV K) "view" (.int z) H E)
theorem ok_M_capacity (T : Txt K mg) (TX : TxX K) : Ok P w K mg base (L2.CX P w) 4 ("Machine", some "capacity") P_M_capacity (sp_M_capacity (K := K)) := by
  refine Ok.of T.f_M_capacity sc_M_capacity (fun _ _ _ _ _ _ us hl => match us, hl with | [_, _], _ => rfl) (fun vs H Q E h => ?_) fun f cdv A outer s H vs Q E hr h => ?_
  · obtain ⟨m, p, q, b, d, s, z, rfl, _⟩ := h
    rfl
  · obtain ⟨m, p, q, b, d, s0, z, rfl, hm, k1, k2⟩ := h
    have hi := hm.h.ins
    have tk := L2.takes_of (X := cxOf (L2.CX P w) P w K mg base N_M_capacity d_M_capacity.qual d_M_capacity.scope f cdv A outer s H E) rfl rfl rfl rfl
    refine ⟨_, (pss_one (ps_ret (pe_ix ix_tup (pm (ok_M_row_of T TX) T.cl T.m_row_of hr (L2.passes_call tk fun _ _ _ _ h => h) (pv 0) (pa_cons (pv 1) pa_nil)) pe_int (fun _ _ => rfl)))), ?_⟩
    walk_at "gs"
    refine ⟨m, p, q, b, d, s0, z, rfl, hm, fun i a hz hl ha => ?_, k2⟩
    walk_at "gs"
    exact k1 i hz hl
def sp_M_block : Sp := fun vs H Q E => ∃ (m : Addr) (p q : V) (b : Bool) (d : MD) (s : MS) (i : Nat), vs = [.ref m, .int i] ∧ MA K H m p q b d s ∧ i < s.rows.length ∧ (s.row i).b < s.makers.length ∧ Q (.int (s.makers.getD (s.row i).b 0)) H
theorem ok_M_block (T : Txt K mg) (TX : TxX K) : Ok P w K mg base CX0 4 ("Machine", some "block") P_M_block (sp_M_block (K := K)) := by
  refine Ok.of T.f_M_block sc_M_block (fun _ _ _ _ _ _ us hl => match us, hl with | [_, _], _ => rfl) (fun vs H Q E h => ?_) fun f cdv A outer s H vs Q E hr h => ?_
  · obtain ⟨m, p, q, b, d, s, i, rfl, _⟩ := h
    rfl
  · obtain ⟨m, p, q, b, d, s0, i, rfl, hm, h1, h2, k⟩ := h
    have hi := hm.h.ins
    have hl := hm.h.lst .makers
    refine ⟨_, PSs.nox (pss_one (ps_ret (pe_ix ix_list (pe_fld (pv 0) rfl) (pe_ix ix_tup (pm (ok_M_row_of T TX) T.cl T.m_row_of hr (passF fun _ _ _ _ c => cxF c) (pv 0) (pa_cons (pv 1) pa_nil)) pe_int (fun _ _ => rfl)) (fun _ _ => rfl)))), ?_⟩
    walk_at "gs"
    refine ⟨m, p, q, b, d, s0, i, rfl, hm, fun j a hz hl ha => ?_, fun z => ?_⟩
    · have hz : i = j := by omega
      subst hz
      have hx : (d.vl .makers)[(s0.row i).b]? = some (.int (s0.makers.getD (s0.row i).b 0)) := by
        rw [hm.v.makers, List.getElem?_map, List.getElem?_eq_getElem h2, List.getD_eq_getElem?_getD, List.getElem?_eq_getElem h2] <;> rfl
      walk_at "gs"
      exact k
    · exfalso
      omega
def sp_M_content : Sp := fun vs H Q E => ∃ (m : Addr) (p q : V) (b : Bool) (d : MD) (s : MS) (z j : Int), vs = [.ref m, .int z, .int j] ∧ MA K H m p q b d s ∧ ((z < 0 ∨ (s.rows.length : Int) ≤ z) → Refs (CV K) "view" (.int z) H E) ∧
  (∀ (i : Nat), z = i → i < s.rows.length → ((j < 0 ∨ (s.row i).l ≤ j) → Refs (CC K) "index" (.int j) H E) ∧ (0 ≤ j → j < (s.row i).l → (s.row i).b < s.cells.length ∧ (s.row i).b < s.roots.length ∧ ∀ v H', Same H H' → Rp H' v (ctD (s.look i j)) → Q v H'))
theorem ok_M_content (T : Txt K mg) (TX : TxX K) : Ok P w K mg base (L2.CX P w) 4 ("Machine", some "content") P_M_content (sp_M_content (K := K)) := by
  refine Ok.of T.f_M_content sc_M_content (fun _ _ _ _ _ _ us hl => match us, hl with | [_, _, _], _ => rfl) (fun vs H Q E h => ?_) fun f cdv A outer s H vs Q E hr h => ?_
  · obtain ⟨m, p, q, b, d, s, z, j, rfl, _⟩ := h
    rfl
  · obtain ⟨m, p, q, b, d, s0, z, j, rfl, hm, k1, k2⟩ := h
    have hi := hm.h.ins
    have tk := L2.takes_of (X := cxOf (L2.CX P w) P w K mg base N_M_content d_M_content.qual d_M_content.scope f cdv A outer s H E) rfl rfl rfl rfl
    refine ⟨_, (pss_cons (ps_asg (pm (ok_M_row_of T TX) T.cl T.m_row_of hr (L2.passes_call tk fun _ _ _ _ h => h) (pv 0) (pa_cons (pv 1) pa_nil)) (pg_tup rfl (pgs_cons (pg_name (i := 3) sc_M_content.nd rfl (Or.inl rfl)) (pgs_cons (pg_name (i := 4) sc_M_content.nd rfl (Or.inl rfl)) (pgs_cons (pg_name (i := 5) sc_M_content.nd rfl (Or.inl rfl)) (pgs_cons (pg_name (i := 6) sc_M_content.nd rfl (Or.inl rfl)) pgs_nil))))))
      (pss_cons (ps_if (pt_not (pt_val (pf (ok_is_between T) T.g_is_between hr rfl pass0 (pa_cons (pv 2) (pa_cons pe_int (pa_cons (pe_op op_sub (pv 4) pe_int) pa_nil))))))
       (pss_one (ps_rx rfl tk TX.c (ok_ci TX) T.g_NoCell.g (hr.mono (by decide)) rfl (pv 2)))
       pss_nil)
      (pss_one (ps_ret (pm (ok_M_found_at T) T.cl T.m_found_at hr pass0 (pv 0) (pa_cons (pv 6) (pa_cons (pe_op op_add (pv 3) (pv 2)) pa_nil))))))), ?_⟩
    walk_at "gs"
    refine ⟨m, p, q, b, d, s0, z, rfl, hm, fun i a hz hl ha => ?_, k1⟩
    obtain ⟨k3, k4⟩ := k2 i hz hl
    walk_at "gs"
    refine iteD (fun c => ?_) fun c => ?_
    · have c : btw 0 j ((s0.row i).l - 1) = false := by simpa using c
      refine ⟨_, rfl, by simp, mk_x (k3 ?_)⟩
      rcases Int.lt_or_le j 0 with h | h
      · exact .inl h
      · rcases Int.lt_or_le j (s0.row i).l with g | g
        · rw [btw_t (by omega)] at c
          cases c
        · exact .inr g
    · have c : btw 0 j ((s0.row i).l - 1) = true := by simpa using c
      have c' : 0 ≤ j ∧ j ≤ (s0.row i).l - 1 := by simpa [btw] using c
      obtain ⟨h1, h2, k5⟩ := k4 c'.1 (by omega)
      walk_at "gs"
      exact ⟨m, p, q, b, d, s0, (s0.row i).b, _, rfl, hm, h1, h2, k5⟩
end
end GB
set_option maxHeartbeats 4000000
/-! GM3: small changes of a machine. -/
namespace GB
open PySem PySem.Spec PyProof.Rows L2
local macro_rules | `(tactic| walk_at "g") => `(tactic| first
  | refine ⟨_, rfl, ?_⟩
  | refine ⟨_, _, rfl, rfl, ?_⟩
  | refine ⟨_, _, _, _, rfl, rfl, SqT.of (by assumption), by rfl, ?_⟩
  | refine ⟨_, _, _, _, rfl, rfl, SqL.of (by assumption), by rfl, ?_⟩
  | refine ⟨_, _, _, _, rfl, rfl, SqL.of (by assumption), atI_nat (by assumption), ?_⟩
  | refine ⟨rfl, ⟨rfl, by decide⟩, ?_⟩
  | refine ⟨_, _, _, _, _, rfl, .ty _, .base (.tup (by assumption)), kt_tup, ?_⟩
  | refine ⟨_, _, _, _, _, rfl, .ty _, .base (.str _), kt_str, ?_⟩
  | refine ⟨_, _, rfl, .inr (SqT.of (by assumption)), ?_⟩
  | refine ⟨_, _, rfl, .inl (SqL.of (by assumption)), ?_⟩
  | refine iteT_of (by first | decide +kernel | rfl) ?_
  | refine iteF_of (by first | decide +kernel | rfl) ?_
  | refine iteT_of (btw_t (by omega)) ?_
  | refine iteF_of (by rw [btw_t (by omega)]; rfl) ?_
  | refine ⟨_, _, rfl, rfl, by assumption, ?_⟩
  | refine ⟨_, _, _, rfl, rfl, by assumption, ?_⟩
  | refine ⟨_, _, _, _, _, rfl, by assumption, Txt.cl (by assumption), by first | exact Txt.no_kept_program (by assumption) | exact Txt.no_kept_policy (by assumption) | exact Txt.no_rows (by assumption) | exact Txt.no_cells (by assumption) | exact Txt.no_makers (by assumption) | exact Txt.no_roots (by assumption) | exact Txt.no_seen (by assumption) | exact Txt.no_made (by assumption) | exact Txt.no_records (by assumption) | exact Txt.no_busy (by assumption), by rfl, ?_⟩
  | refine ⟨_, _, _, rfl, by assumption, by rfl, ?_⟩
  | refine ⟨_, _, _, rfl, ?_⟩
  | refine ⟨_, _, rfl, SqT.of (by assumption), by rfl, ?_⟩
  | refine ⟨_, _, rfl, ?_⟩
  | refine ⟨.inl (by decide), ?_⟩
  | refine ⟨.inl ⟨rfl, _, SqL.of (by assumption)⟩, ?_⟩
  | refine ⟨rfl, ?_⟩)
local macro_rules | `(tactic| walk_at "gs") => `(tactic| repeat walk_at "g")
local macro_rules | `(tactic| walk_at "b") => `(tactic| (first | decide +kernel | (simp only [decide_eq_true_eq, decide_eq_false_iff_not, List.length_map, V.int.injEq, Bool.not_eq_true', Bool.not_eq_false']; omega)))
section
variable {K : Frg} {H : Hp} {m : Addr} {p q : V} {b : Bool} {d : MD} {s : MS}
theorem tp_put {a : Addr} {u o : HO} (h : H a = some u) (hu : ∀ xs, u ≠ .tup xs) : Tp H (upd H a o) := fun x ys e => by
  rw [upd_ne (fun z => by rw [z, h] at e; cases e; exact hu _ rfl)]
  exact e
theorem MA.tpL (x : MA K H m p q b d s) (f : Fl) (xs : List V) : Tp H (upd H (d.l f) (.lst xs)) := tp_put (x.h.lst f) fun _ z => by cases z
theorem MA.chL (x : MA K H m p q b d s) (f : Fl) (xs : List V) : Ch m d H (upd H (d.l f) (.lst xs)) { d with vl := upL d.vl f xs } := Ch.put (.inr (.inl ⟨f, rfl⟩)) (x.h.lst f) (fun _ z => by cases z) fun _ h => h
theorem MA.crL (x : MA K H m p q b d s) (f : Fl) (xs : List V) (hf : Fl.recs ≠ f := by decide) : Cr m d H (upd H (d.l f) (.lst xs)) { d with vl := upL d.vl f xs } := ⟨x.chL f xs, Rk.of (upL_ne hf) rfl⟩
theorem MA.pushRows (x : MA K H m p q b d s) {v : V} {r : Row} (hv : Rp H v (rowD r)) : MA K (upd H (d.l .rows) (.lst (d.vl .rows ++ [v]))) m p q b { d with vl := upL d.vl .rows (d.vl .rows ++ [v]) } (s.view r) := by
  have t := x.tpL .rows (d.vl .rows ++ [v])
  have y := x.v.tp t
  refine ⟨x.h.putL .rows _, ?_, y.cells, y.dics, y.makers, y.roots, y.seen, y.made, y.recs⟩
  show RpA _ (d.vl .rows ++ [v]) ((s.rows ++ [r]).map rowD)
  rw [List.map_append]
  exact y.rows.snoc (Rp.tp t hv)
theorem MA.pushSeen (x : MA K H m p q b d s) {v : V} {c : Ct} (hv : Rp H v (ctD c)) : MA K (upd H (d.l .seen) (.lst (d.vl .seen ++ [v]))) m p q b { d with vl := upL d.vl .seen (d.vl .seen ++ [v]) } (s.see c) := by
  have t := x.tpL .seen (d.vl .seen ++ [v])
  have y := x.v.tp t
  refine ⟨x.h.putL .seen _, y.rows, y.cells, y.dics, y.makers, y.roots, ?_, y.made, y.recs⟩
  show RpA _ (d.vl .seen ++ [v]) ((s.seen ++ [c]).map ctD)
  rw [List.map_append]
  exact y.seen.snoc (Rp.tp t hv)
theorem MA.pushMade (x : MA K H m p q b d s) {v : V} {c : Int × Option Int} (hv : Rp H v (mdD c)) : MA K (upd H (d.l .made) (.lst (d.vl .made ++ [v]))) m p q b { d with vl := upL d.vl .made (d.vl .made ++ [v]) } { s with made := s.made ++ [c] } := by
  have t := x.tpL .made (d.vl .made ++ [v])
  have y := x.v.tp t
  refine ⟨x.h.putL .made _, y.rows, y.cells, y.dics, y.makers, y.roots, y.seen, ?_, y.recs⟩
  show RpA _ (d.vl .made ++ [v]) ((s.made ++ [c]).map mdD)
  rw [List.map_append]
  exact y.made.snoc (Rp.tp t hv)
theorem MA.pushMakers (x : MA K H m p q b d s) (n : Int) : MA K (upd H (d.l .makers) (.lst (d.vl .makers ++ [.int n]))) m p q b { d with vl := upL d.vl .makers (d.vl .makers ++ [.int n]) } { s with makers := s.makers ++ [n] } := by
  have y := x.v.tp (x.tpL .makers (d.vl .makers ++ [.int n]))
  refine ⟨x.h.putL .makers _, y.rows, y.cells, y.dics, ?_, y.roots, y.seen, y.made, y.recs⟩
  show d.vl .makers ++ [.int n] = (s.makers ++ [n]).map .int
  rw [List.map_append, y.makers] <;> rfl
theorem MA.pushRoots (x : MA K H m p q b d s) (n : Int) : MA K (upd H (d.l .roots) (.lst (d.vl .roots ++ [.int n]))) m p q b { d with vl := upL d.vl .roots (d.vl .roots ++ [.int n]) } { s with roots := s.roots ++ [n] } := by
  have y := x.v.tp (x.tpL .roots (d.vl .roots ++ [.int n]))
  refine ⟨x.h.putL .roots _, y.rows, y.cells, y.dics, y.makers, ?_, y.seen, y.made, y.recs⟩
  show d.vl .roots ++ [.int n] = (s.roots ++ [n]).map .int
  rw [List.map_append, y.roots] <;> rfl
/-- a dict becomes the machine's -/
theorem MA.pushCells (x : MA K H m p q b d s) {a : Addr} {kvs : List (Key × V)} {c : Dic} (ha : H a = some (.dK kvs)) (hc : DkA H kvs c) (hn : ∀ e ∈ d.ds, e.1 ≠ a) :
    MA K (upd H (d.l .cells) (.lst (d.vl .cells ++ [.ref a]))) m p q b { d with vl := upL d.vl .cells (d.vl .cells ++ [.ref a]), ds := d.ds ++ [(a, kvs)] } { s with cells := s.cells ++ [c] } := by
  have t := x.tpL .cells (d.vl .cells ++ [.ref a])
  have y := x.v.tp t
  have hd : a ≠ d.l .cells := ne_of ha (x.h.lst .cells) (Ne.symm lst_ne_dK)
  refine ⟨(x.h.putL .cells _).newD (kvs := kvs) (by rw [upd_ne hd]; exact ha) hn, y.rows, ?_, ?_, y.makers, y.roots, y.seen, y.made, y.recs⟩
  · show d.vl .cells ++ [.ref a] = (d.ds ++ [(a, kvs)]).map fun e => .ref e.1
    rw [List.map_append, y.cells] <;> rfl
  · exact y.dics.snoc (hc.tp t)
/-- a content is written -/
theorem MA.putBlk (x : MA K H m p q b d s) {i : Nat} {e : Addr × List (Key × V)} (he : d.ds[i]? = some e) (pl : Int) {v : V} {c : Ct} (hv : Rp H v (ctD c)) :
    MA K (upd H e.1 (.dK (putK e.2 (.inl pl) v))) m p q b { d with ds := d.ds.set i (e.1, putK e.2 (.inl pl) v) } { s with cells := s.cells.set i (gput (s.blk i) pl c) } ∧
      Cr m d H (upd H e.1 (.dK (putK e.2 (.inl pl) v))) { d with ds := d.ds.set i (e.1, putK e.2 (.inl pl) v) } := by
  have hm := List.mem_of_getElem? he
  have t : Tp H (upd H e.1 (.dK (putK e.2 (.inl pl) v))) := tp_put (x.h.dic e hm) fun _ z => by cases z
  have y := x.v.tp t
  have he' : d.ds[i]? = some (e.1, e.2) := he
  refine ⟨⟨x.h.putD he' _, y.rows, ?_, ?_, y.makers, y.roots, y.seen, y.made, y.recs⟩, ?_⟩
  · show d.vl .cells = (d.ds.set i (e.1, putK e.2 (.inl pl) v)).map fun e => .ref e.1
    rw [y.cells]
    have := set_fst (z := putK e.2 (.inl pl) v) he'
    have h2 := congrArg (List.map V.ref) this
    rw [List.map_map, List.map_map] at h2
    exact h2.symm
  · exact y.dics.set ((x.v.dics.at_ he).put pl hv |>.tp t) i
  · exact ⟨Ch.put (.inr (.inr (.inl (List.mem_map.mpr ⟨e, hm, rfl⟩)))) (x.h.dic e hm) (fun _ z => by cases z) fun a h => (foot_ds he').mp h, Rk.of rfl rfl⟩
/-- a change is noted in the last record -/
theorem RcA.setLast {H : Hp} {c : Addr × List V} {ws : List V} {r : Rc} {ch : List Chg} {a : Addr} (ha : H a = some (.tup [.int r.rows, .int r.cells, .int r.seen, .int r.made, .ref c.1])) (hc : RpA H ws (ch.map chD)) {vi : List V} {ci : List (Addr × List V)} {ri : List Rc} (h : RcA H vi ci ri) :
    RcA H (vi ++ [.ref a]) (ci ++ [(c.1, ws)]) (ri ++ [{ r with ch := ch }]) := RcA.snoc (c := (c.1, ws)) (r := { r with ch := ch }) ha hc h
theorem MA.noted (x : MA K H m p q b d s) {r : Rc} (hr : s.recs.getLast? = some r) : ∃ (a c : Addr) (ws : List V), (d.vl .recs).getLast? = some (.ref a) ∧ H a = some (.tup [.int r.rows, .int r.cells, .int r.seen, .int r.made, .ref c]) ∧ H c = some (.lst ws) ∧ ws.length = r.ch.length ∧
    ∀ (H1 : Hp) (v : V) (y : Chg), Same H H1 → Rp H1 v (chD y) → ∃ d', MA K (upd H1 c (.lst (ws ++ [v]))) m p q b d' { s with recs := addCh s.recs y } ∧ Cr m d H1 (upd H1 c (.lst (ws ++ [v]))) d' ∧ d'.ds = d.ds ∧ d'.vl = d.vl ∧ d'.l = d.l := by
  obtain ⟨vi, ci, a, c, e1, e2, e3, e4, e5, e6⟩ := x.v.recs.last hr
  have hmem : c ∈ d.cs := by rw [e2]; simp
  have hi : d.cs[ci.length]? = some (c.1, c.2) := by rw [e2]; simp
  refine ⟨a, c.1, c.2, by rw [e1]; simp, e5, x.h.chs c hmem, by rw [e6.length, List.length_map], fun H1 v y f hv => ?_⟩
  have x1 := x.same f
  have t : Tp H1 (upd H1 c.1 (.lst (c.2 ++ [v]))) := tp_put (x1.h.chs c hmem) fun _ z => by cases z
  have z := x1.v.tp t
  refine ⟨{ d with cs := d.cs.set ci.length (c.1, c.2 ++ [v]) }, ⟨x1.h.putC hi _, z.rows, z.cells, z.dics, z.makers, z.roots, z.seen, z.made, ?_⟩, ⟨Ch.put (.inr (.inr (.inr (List.mem_map.mpr ⟨c, hmem, rfl⟩)))) (x1.h.chs c hmem) (fun _ z => by cases z) fun a h => (foot_cs hi).mp h, ⟨[], by rw [List.append_nil]⟩, ⟨[(c.1, c.2 ++ [v])], by
    show d.cs.set ci.length (c.1, c.2 ++ [v]) = _
    rw [e2, List.set_append_right _ _ (Nat.le_refl _)]; simp⟩, by
    show d.cs.length ≤ (d.cs.set ci.length _).length
    rw [List.length_set]; exact Nat.le_refl _⟩, rfl, rfl, rfl⟩
  show RcA _ (d.vl .recs) (d.cs.set ci.length (c.1, c.2 ++ [v])) (addCh s.recs y)
  have h1 : d.cs.set ci.length (c.1, c.2 ++ [v]) = ci ++ [(c.1, c.2 ++ [v])] := by rw [e2, List.set_append_right _ _ (Nat.le_refl _)]; simp
  have h2 : addCh s.recs y = s.recs.dropLast ++ [{ r with ch := r.ch ++ [y] }] := by unfold addCh; rw [hr]
  have t0 : Tp H (upd H1 c.1 (.lst (c.2 ++ [v]))) := fun a xs h => t _ _ (f _ _ h)
  rw [h1, h2, e1]
  refine RcA.setLast (t0 _ _ e5) ?_ (e4.tp t0)
  rw [List.map_append]
  exact (RpA.tp t0 e6).snoc (Rp.tp t hv)
end
end GB
set_option maxHeartbeats 4000000
/-! GM4: cells, blocks, views of a machine are written. -/
namespace GB
open PySem PySem.Spec PyProof.Rows L2
local macro_rules | `(tactic| walk_at "g") => `(tactic| first
  | refine ⟨_, rfl, ?_⟩
  | refine ⟨_, _, rfl, rfl, ?_⟩
  | refine ⟨_, _, _, _, rfl, rfl, SqT.of (by assumption), by rfl, ?_⟩
  | refine ⟨_, _, _, _, rfl, rfl, SqL.of (by assumption), by rfl, ?_⟩
  | refine ⟨_, _, _, _, rfl, rfl, SqL.of (by assumption), atI_nat (by assumption), ?_⟩
  | refine ⟨rfl, ⟨rfl, by decide⟩, ?_⟩
  | refine ⟨_, _, _, _, _, rfl, .ty _, .base (.tup (by assumption)), kt_tup, ?_⟩
  | refine ⟨_, _, _, _, _, rfl, .ty _, .base (.str _), kt_str, ?_⟩
  | refine ⟨_, _, rfl, .inr (SqT.of (by assumption)), ?_⟩
  | refine ⟨_, _, rfl, .inl (SqL.of (by assumption)), ?_⟩
  | refine iteT_of (by first | decide +kernel | rfl) ?_
  | refine iteF_of (by first | decide +kernel | rfl) ?_
  | refine iteT_of (btw_t (by omega)) ?_
  | refine iteF_of (by rw [btw_t (by omega)]; rfl) ?_
  | refine ⟨_, _, rfl, rfl, by assumption, ?_⟩
  | refine ⟨_, _, _, rfl, rfl, by assumption, ?_⟩
  | refine ⟨_, _, _, _, _, rfl, by assumption, Txt.cl (by assumption), by first | exact Txt.no_kept_program (by assumption) | exact Txt.no_kept_policy (by assumption) | exact Txt.no_rows (by assumption) | exact Txt.no_cells (by assumption) | exact Txt.no_makers (by assumption) | exact Txt.no_roots (by assumption) | exact Txt.no_seen (by assumption) | exact Txt.no_made (by assumption) | exact Txt.no_records (by assumption) | exact Txt.no_busy (by assumption), by rfl, ?_⟩
  | refine ⟨_, _, _, rfl, by assumption, by rfl, ?_⟩
  | refine ⟨_, _, _, rfl, ?_⟩
  | refine ⟨_, _, rfl, SqT.of (by assumption), by rfl, ?_⟩
  | refine ⟨_, _, rfl, ?_⟩
  | refine ⟨.inl (by decide), ?_⟩
  | refine ⟨.inl ⟨rfl, _, SqL.of (by assumption)⟩, ?_⟩
  | refine ⟨rfl, ?_⟩)
local macro_rules | `(tactic| walk_at "gs") => `(tactic| repeat walk_at "g")
local macro_rules | `(tactic| walk_at "b") => `(tactic| (first | decide +kernel | (simp only [decide_eq_true_eq, decide_eq_false_iff_not, List.length_map, V.int.injEq, Bool.not_eq_true', Bool.not_eq_false']; omega)))
theorem atI_lastq {α : Type} {xs : List α} {v : α} (h : xs.getLast? = some v) : atI xs (-1) = some v := by
  obtain ⟨ys, rfl⟩ := List.getLast?_eq_some_iff.mp h
  exact atI_last ys v
section
variable {P : Program} {w : World} {K : Frg} {mg : Str → Option Value} {base : Heap}
def sp_M_set_cell : Sp := fun vs H Q E => ∃ (m : Addr) (p q : V) (b : Bool) (d : MD) (s : MS) (bk : Nat) (pl : Int) (v : V) (c : Ct) (r : Rc), vs = [.ref m, .int bk, .int pl, v] ∧ MA K H m p q b d s ∧ bk < s.cells.length ∧ s.recs.getLast? = some r ∧ r.ch.length ≤ 900 ∧ (s.blk bk).length ≤ 900 ∧ Rp H v (ctD c) ∧
  ∀ H' d', MA K H' m p q b d' (s.set bk pl c) → Cr m d H H' d' → Q .non H'
theorem ok_M_set_cell (T : Txt K mg) : Ok P w K mg base CX0 1 ("Machine", some "set_cell") P_M_set_cell (sp_M_set_cell (K := K)) := by
  refine Ok.of T.f_M_set_cell sc_M_set_cell (fun _ _ _ _ _ _ us hl => match us, hl with | [_, _, _, _], _ => rfl) (fun vs H Q E h => ?_) fun f cdv A outer s H vs Q E hr h => ?_
  · obtain ⟨m, p, q, b, d, s, bk, pl, v, c, r, rfl, _⟩ := h
    rfl
  · obtain ⟨m, p, q, b, d, s0, bk, pl, v, c, r, rfl, hm, h1, hrl, hz, hz2, hv, k⟩ := h
    have hi := hm.h.ins
    have hl := hm.h.lst .recs
    have hc := hm.h.lst .cells
    obtain ⟨ra, ca, ws, g1, g2, g3, g4, g5⟩ := hm.noted hrl
    obtain ⟨e, he, hx, hd, hk⟩ := hm.dic h1
    refine ⟨_, PSs.nox (pss_cons (ps_expr (pe_bm PySem.F.plainAttrs_list PySem.F.slot_list_append PySem.F.type_list_append mt_append (pe_ix ix_tup (pe_ix ix_list (pe_fld (pv 0) rfl) (pe_un un_neg pe_int) (fun _ _ => rfl)) pe_int (fun _ _ => rfl)) (pa_cons (pe_tup (pa_cons (pv 1) (pa_cons (pv 2) (pa_cons (pe_dget1 (hu_of hr) (pe_ix ix_list (pe_fld (pv 0) rfl) (pv 1) (fun _ _ => rfl)) (pv 2) ⟨rfl, rfl, rfl, rfl⟩) pa_nil)))) pa_nil)))
      (pss_one (ps_dput (hu_of hr) (pe_ix ix_list (pe_fld (pv 0) rfl) (pv 1) (fun _ _ => rfl)) (pv 2) (pv 3) rfl))), ?_⟩
    walk_at "gs"
    refine ⟨_, _, _, _, rfl, rfl, SqL.of hl, atI_lastq g1, ?_⟩
    walk_at "gs"
    refine ⟨.inl ⟨_, .inl hd⟩, ?_⟩
    walk_at "gs"
    refine ⟨_, .inl ⟨_, .inl pl, .inl hd, rfl, rfl⟩, szk (n := 3) (by decide), fun t ht => ?_⟩
    obtain ⟨ov, hov⟩ : ∃ ov, ov = (valV e.2 (.inl pl)).getD .non := ⟨_, rfl⟩
    rw [← hov]
    have rov : Rp H ov (oldD (gget (s0.blk bk) pl)) := by
      have z := hk.get pl
      rw [hov]
      cases g : gget (s0.blk bk) pl with
      | none =>
        rw [g] at z
        rw [z]
        exact rp_n.mpr rfl
      | some c =>
        rw [g] at z
        obtain ⟨v, hv, rv⟩ := z
        rw [hv]
        exact rv
    have sm : Same H (upd H t (.tup [.int bk, .int pl, ov])) := Same.new ht
    refine ⟨ca, ws, _, rfl, rfl, sm _ _ g3, lt_line (by omega), ?_⟩
    have hch : Rp (upd H t (.tup [.int bk, .int pl, ov])) (.ref t) (chD ⟨bk, pl, gget (s0.blk bk) pl⟩) :=
      rp_t.mpr ⟨t, _, rfl, upd_same, RpA.cons (rp_i.mpr rfl) (RpA.cons (rp_i.mpr rfl) (RpA.cons (Rp.tp (Same.tp sm) rov) RpA.nil))⟩
    obtain ⟨d1, m1, c1, k1, k2, k3⟩ := g5 _ _ _ sm hch
    have he1 : d1.ds[bk]? = some e := by rw [k1]; exact he
    obtain ⟨m2, c2⟩ := m1.putBlk he1 pl (Rp.tp c1.tp (Rp.tp (Same.tp sm) hv))
    have hi1 := m1.h.ins
    have hc1 := m1.h.lst .cells
    have hd1 := m1.h.dic e (List.mem_of_getElem? he1)
    rw [← k2] at hx
    walk_at "gs"
    refine ⟨_, _, rfl, .inl ⟨_, .inl pl, hd1, rfl, lt_line (by rw [hk.length]; exact Nat.le_trans hz2 (by decide)), rfl⟩, ?_⟩
    exact k _ _ m2 (Cr.trans (Cr.same sm) (Cr.trans c1 c2))
def sp_M_add_block : Sp := fun vs H Q E => ∃ (m : Addr) (p q : V) (b : Bool) (d : MD) (s : MS) (n r : Int) (a : Addr) (kvs : List (Key × V)) (c : Dic), vs = [.ref m, .int n, .int r, .ref a] ∧ MA K H m p q b d s ∧ H a = some (.dK kvs) ∧ DkA H kvs c ∧ (∀ e ∈ d.ds, e.1 ≠ a) ∧
  s.cells.length ≤ 900 ∧ s.makers.length ≤ 900 ∧ s.roots.length ≤ 900 ∧
  ∀ H' d', MA K H' m p q b d' (s.block n r c) → Fr (foot m d) H H' → (∀ x, foot m d' x → foot m d x ∨ x = a) → d'.l = d.l → Rk d d' → Q (.int s.cells.length) H'
theorem ok_M_add_block (T : Txt K mg) : Ok P w K mg base CX0 1 ("Machine", some "add_block") P_M_add_block (sp_M_add_block (K := K)) := by
  refine Ok.of T.f_M_add_block sc_M_add_block (fun _ _ _ _ _ _ us hl => match us, hl with | [_, _, _, _], _ => rfl) (fun vs H Q E h => ?_) fun f cdv A outer s H vs Q E hr h => ?_
  · obtain ⟨m, p, q, b, d, s, n, r, a, kvs, c, rfl, _⟩ := h
    rfl
  · obtain ⟨m, p, q, b, d, s0, n, r, a, kvs, c, rfl, hm, ha, hk, hn, z1, z2, z3, k⟩ := h
    have hi := hm.h.ins
    have hl := hm.h.lst .makers
    refine ⟨_, PSs.nox (pss_cons (ps_expr (pe_bm PySem.F.plainAttrs_list PySem.F.slot_list_append PySem.F.type_list_append mt_append (pe_fld (pv 0) rfl) (pa_cons (pv 1) pa_nil)))
      (pss_cons (ps_expr (pe_bm PySem.F.plainAttrs_list PySem.F.slot_list_append PySem.F.type_list_append mt_append (pe_fld (pv 0) rfl) (pa_cons (pv 2) pa_nil)))
      (pss_cons (ps_expr (pe_bm PySem.F.plainAttrs_list PySem.F.slot_list_append PySem.F.type_list_append mt_append (pe_fld (pv 0) rfl) (pa_cons (pv 3) pa_nil)))
      (pss_one (ps_ret (pe_op op_sub (pe_callB call_len_seq rfl T.bi.len (by decide +kernel) (pa_cons (pe_fld (pv 0) rfl) pa_nil)) pe_int)))))), ?_⟩
    walk_at "gs"
    refine ⟨lt_line (by rw [hm.v.makers, List.length_map]; omega), ?_⟩
    have m1 := hm.pushMakers n
    have c1 := hm.crL .makers (d.vl .makers ++ [.int n])
    have a1 : upd H (d.l .makers) (.lst (d.vl .makers ++ [.int n])) a = some (.dK kvs) := by
      rw [upd_ne (ne_of ha hl (Ne.symm lst_ne_dK))]; exact ha
    clear hi hl
    have hi := m1.h.ins
    have hl := m1.h.lst .roots
    walk_at "gs"
    refine ⟨lt_line (by rw [m1.v.roots, List.length_map]; exact Nat.le_trans z3 (by decide)), ?_⟩
    have m2 := m1.pushRoots r
    have c2 := m1.crL .roots (d.vl .roots ++ [.int r])
    have a2 : upd (upd H (d.l .makers) (.lst (d.vl .makers ++ [.int n]))) (d.l .roots) (.lst (d.vl .roots ++ [.int r])) a = some (.dK kvs) := by
      rw [upd_ne (ne_of a1 hl (Ne.symm lst_ne_dK))]; exact a1
    clear hi hl
    have hi := m2.h.ins
    have hl := m2.h.lst .cells
    walk_at "gs"
    refine ⟨lt_line (by rw [m2.v.cells, List.length_map, m2.v.dics.length]; exact Nat.le_trans z1 (by decide)), ?_⟩
    have m3 := m2.pushCells a2 ((hk.tp c1.tp).tp c2.tp) hn
    have c3 := m2.crL .cells (d.vl .cells ++ [.ref a])
    clear hi hl
    have hi := m3.h.ins
    have hl := m3.h.lst .cells
    walk_at "gs"
    show Q (.int ((((d.vl .cells ++ [V.ref a]).length : Nat) : Int) - 1)) _
    have hlen : (d.vl .cells ++ [V.ref a]).length = s0.cells.length + 1 := by rw [List.length_append, hm.v.cells, List.length_map, hm.v.dics.length] <;> rfl
    rw [hlen, show ((s0.cells.length + 1 : Nat) : Int) - 1 = s0.cells.length by omega]
    refine k _ _ m3 (((c1.trans c2).trans ⟨⟨c3.1.1, fun _ h => .inl h⟩, Rk.refl _⟩ : Cr m d H _ _).1.1) (fun x hx => ?_) rfl (Rk.of rfl rfl)
    rcases hx with h | ⟨g, h⟩ | h | h
    · exact .inl (.inl h)
    · exact .inl (.inr (.inl ⟨g, h⟩))
    · have h : x ∈ (d.ds ++ [(a, kvs)]).map (·.1) := h
      rw [List.map_append] at h
      rcases List.mem_append.mp h with z | z
      · exact .inl (.inr (.inr (.inl z)))
      · exact .inr (by simpa using z)
    · exact .inl (.inr (.inr (.inr h)))
/-- a view whose block is there -/
def VwOk (s : MS) (v : Nat) : Prop := v < s.rows.length ∧ (s.row v).b < s.cells.length ∧ (s.row v).b < s.roots.length
def sp_M_read_cell : Sp := fun vs H Q E => ∃ (m : Addr) (p q : V) (b : Bool) (d : MD) (s : MS) (v : Nat) (i : Int), vs = [.ref m, .int v, .int i] ∧ MA K H m p q b d s ∧ VwOk s v ∧ s.seen.length ≤ 900 ∧
  ∀ H' d', MA K H' m p q b d' (s.see (s.look v i)) → Cr m d H H' d' → Q (.int (s.look v i).2) H'
theorem ok_M_read_cell (T : Txt K mg) : Ok P w K mg base CX0 2 ("Machine", some "read_cell") P_M_read_cell (sp_M_read_cell (K := K)) := by
  refine Ok.of T.f_M_read_cell sc_M_read_cell (fun _ _ _ _ _ _ us hl => match us, hl with | [_, _, _], _ => rfl) (fun vs H Q E h => ?_) fun f cdv A outer s H vs Q E hr h => ?_
  · obtain ⟨m, p, q, b, d, s, v, i, rfl, _⟩ := h
    rfl
  · obtain ⟨m, p, q, b, d, s0, v, i, rfl, hm, ⟨h1, h2, h3⟩, hz, k⟩ := h
    have hi := hm.h.ins
    have hl := hm.h.lst .rows
    have hs := hm.h.lst .seen
    obtain ⟨ra, hra, hrow⟩ := hm.row h1
    refine ⟨_, PSs.nox (pss_cons (ps_asg (pe_ix ix_list (pe_fld (pv 0) rfl) (pv 1) (fun _ _ => rfl)) (pg_tup rfl (pgs_cons (pg_name (i := 3) sc_M_read_cell.nd rfl (Or.inl rfl)) (pgs_cons (pg_name (i := 4) sc_M_read_cell.nd rfl (Or.inl rfl)) (pgs_cons (pg_name (i := 5) sc_M_read_cell.nd rfl (Or.inl rfl)) (pgs_cons (pg_name (i := 6) sc_M_read_cell.nd rfl (Or.inl rfl)) pgs_nil))))))
      (pss_cons (ps_expr (pe_bm PySem.F.plainAttrs_list PySem.F.slot_list_append PySem.F.type_list_append mt_append (pe_fld (pv 0) rfl) (pa_cons (pm (ok_M_found_at T) T.cl T.m_found_at hr pass0 (pv 0) (pa_cons (pv 6) (pa_cons (pe_op op_add (pv 3) (pv 2)) pa_nil))) pa_nil)))
      (pss_one (ps_ret (pe_ix ix_tup (pe_ix ix_list (pe_fld (pv 0) rfl) (pe_un un_neg pe_int) (fun _ _ => rfl)) pe_int (fun _ _ => rfl)))))), ?_⟩
    walk_at "gs"
    refine ⟨m, p, q, b, d, s0, (s0.row v).b, _, rfl, hm, h2, h3, fun y H1 sm hy => ?_⟩
    have m1 := hm.same sm
    have hs1 := sm _ _ hs
    have e1 : s0.found (s0.row v).b ((s0.row v).s + i) = s0.look v i := rfl
    rw [e1] at hy
    walk_at "gs"
    refine ⟨lt_line (by rw [hm.v.seen.length, List.length_map]; omega), ?_⟩
    have m2 := m1.pushSeen hy
    have c2 := m1.crL .seen (d.vl .seen ++ [y])
    clear hi hl hs hs1
    have hi := m2.h.ins
    have hs := m2.h.lst .seen
    have hs' : upd H1 (d.l .seen) (.lst (d.vl .seen ++ [y])) (d.l .seen) = some (.lst (d.vl .seen ++ [y])) := upd_same
    obtain ⟨ca, rfl, hca⟩ := (rp_ct _).mp (Rp.tp c2.tp hy)
    walk_at "gs"
    refine ⟨_, _, _, _, rfl, rfl, SqL.of hs', atI_last _ _, ?_⟩
    walk_at "gs"
    exact k _ _ m2 (Cr.trans (Cr.same sm) c2)
def sp_M_write_cell : Sp := fun vs H Q E => ∃ (m : Addr) (p q : V) (b : Bool) (d : MD) (s : MS) (n : Int) (a : Addr) (x0 : V) (v : Nat) (i : Int) (xr : List V) (x : Int) (r : Rc), vs = [.ref m, .int n, .ref a, .int x] ∧ MA K H m p q b d s ∧ H a = some (.tup (x0 :: .int v :: .int i :: xr)) ∧ VwOk s v ∧
  s.recs.getLast? = some r ∧ r.ch.length ≤ 900 ∧ (s.blk (s.row v).b).length ≤ 900 ∧ ∀ H' d', MA K H' m p q b d' (s.wr v i (n, x)) → Cr m d H H' d' → Q .non H'
theorem ok_M_write_cell (T : Txt K mg) : Ok P w K mg base CX0 2 ("Machine", some "write_cell") P_M_write_cell (sp_M_write_cell (K := K)) := by
  refine Ok.of T.f_M_write_cell sc_M_write_cell (fun _ _ _ _ _ _ us hl => match us, hl with | [_, _, _, _], _ => rfl) (fun vs H Q E h => ?_) fun f cdv A outer s H vs Q E hr h => ?_
  · obtain ⟨m, p, q, b, d, s, n, a, x0, v, i, xr, x, r, rfl, _⟩ := h
    rfl
  · obtain ⟨m, p, q, b, d, s0, n, a, x0, v, i, xr, x, r, rfl, hm, ha, ⟨h1, h2, h3⟩, hrl, hz, hz2, k⟩ := h
    have hi := hm.h.ins
    have hl := hm.h.lst .rows
    obtain ⟨ra, hra, hrow⟩ := hm.row h1
    refine ⟨_, PSs.nox (pss_cons (ps_asg (pe_ix ix_list (pe_fld (pv 0) rfl) (pe_ix ix_tup (pv 2) pe_int (fun _ _ => rfl)) (fun _ _ => rfl)) (pg_tup rfl (pgs_cons (pg_name (i := 4) sc_M_write_cell.nd rfl (Or.inl rfl)) (pgs_cons (pg_name (i := 5) sc_M_write_cell.nd rfl (Or.inl rfl)) (pgs_cons (pg_name (i := 6) sc_M_write_cell.nd rfl (Or.inl rfl)) (pgs_cons (pg_name (i := 7) sc_M_write_cell.nd rfl (Or.inl rfl)) pgs_nil))))))
      (pss_one (ps_expr (pm (ok_M_set_cell T) T.cl T.m_set_cell hr pass0 (pv 0) (pa_cons (pv 7) (pa_cons (pe_op op_add (pv 4) (pe_ix ix_tup (pv 2) pe_int (fun _ _ => rfl))) (pa_cons (pe_tup (pa_cons (pv 1) (pa_cons (pv 3) pa_nil))) pa_nil))))))), ?_⟩
    walk_at "gs"
    refine ⟨_, _, _, _, rfl, rfl, SqT.of ha, atI_nat (j := 1) rfl, ?_⟩
    walk_at "gs"
    refine ⟨_, _, _, _, rfl, rfl, SqT.of ha, atI_nat (j := 2) rfl, ?_⟩
    walk_at "gs"
    refine ⟨szk (n := 2) (by decide), fun t ht => ?_⟩
    have sm : Same H (upd H t (.tup [.int n, .int x])) := Same.new ht
    refine ⟨m, p, q, b, d, s0, _, _, _, (n, x), r, rfl, hm.same sm, h2, hrl, hz, hz2, (rp_ct _).mpr ⟨t, rfl, upd_same⟩, fun H' d' m' c' => ?_⟩
    exact k H' d' m' (Cr.trans (Cr.same sm) c')
end
end GB
set_option maxHeartbeats 4000000
/-! GDc: name = {k: v for ..} on one line; the loop over the items of a locked dict. -/
namespace GB
open PySem PySem.Spec PyProof.Rows L2
section
variable {X : Cx}
theorem ps_setDc {i : Nat} {y : Str} {py : Pos} {kx vx tg iter : Expr} {ifs : List Expr} {scope : Scope} {own : List (Str × Nat)} {pos spos : Pos} {wi : TI} {g : TG} {tt : TT} {tk tv : TE} (hc : X.calm = true) (hN : X.N.Nodup) (hy : X.N[i]? = some y) (hyl : X.env.scope.names.lookup y = some .local)
    (hsw : swapsWith (.DictComp kx vx [⟨tg, iter, ifs, 0⟩] scope pos) (some (.Name y py)) spos.line X.env = pure true) (hi : PI X tg iter wi) (ok : BlkOk X.N X.env.scope scope own)
    (hg : ∀ (s : Shared) (H : Hp) (C : Addr) (cl : List (Str × Addr)) (fp : List Addr), PG (X.blk s H scope (compEnvC scope cl C X.env) fp) tg g) (ht : ∀ (s : Shared) (H : Hp) (C : Addr) (cl : List (Str × Addr)) (fp : List Addr), PTs (X.blk s H scope (compEnvC scope cl C X.env) fp) ifs tt)
    (hk : ∀ (s : Shared) (H : Hp) (C : Addr) (cl : List (Str × Addr)) (fp : List Addr), PE (X.blk s H scope (compEnvC scope cl C X.env) fp) kx tk)
    (he : ∀ (s : Shared) (H : Hp) (C : Addr) (cl : List (Str × Addr)) (fp : List Addr), PE (X.blk s H scope (compEnvC scope cl C X.env) fp) vx tv) (hs : ∀ x, foldedSetIterable iter X.env x = pure x := by intro _; rfl) :
    PS X (.Assign [.Name y py] (.DictComp kx vx [⟨tg, iter, ifs, 0⟩] scope pos) spos) (tAsg (tDc wi g tt tk tv (own.map (·.2))) (gName i)) := by
  refine ⟨fun pins s σ H D I h => ?_⟩
  rw [exec_Assign_Name_used _ _ _ _ hsw]
  refine wpAny_bind (wpAny_standAt (wpAny_bind ?_))
  show wpAny _ X.A (do let _ ← comprehension (.DictComp kx vx [⟨tg, iter, ifs, 0⟩] scope pos) scope X.env (firstIterPos [⟨tg, iter, ifs, 0⟩] pos) newDict false (eval iter X.env) (some (assign (.Name y py) X.env))) _ _ s
  have h : tDc wi g tt tk tv (own.map (·.2)) σ H (fun x H1 => gName i x σ H1 D.nx) := h
  refine wpAny_bind (thn (dc_core (Qf := fun _ s' => SP X pins D .next s') hc hN I hi ok hg ht hk he hs h fun L C s' m H' I' q hn f => ?_) fun _ s' hq => wpAny_pure (wpAny_pure hq))
  show wpAny _ _ (assign (.Name y py) X.env (.ref L)) _ _ _
  refine wpAny_assign_Name (store_ok2 (v := V.ref L) I' hN hy (.inl hyl) rfl (fun s2 I2 ⟨a, sb, ha⟩ => ?_) (.inr hyl))
  obtain ⟨f0, f1, f2, f3, f4, f5⟩ := f
  have haC : C ≠ a := by
    rcases ha with z | z
    · rw [z]; exact f1
    · exact fun e => f4 y a z e.symm
  refine ⟨m, hn.sameBut sb haC, fun h3 sb3 => ?_⟩
  exact ⟨_, H', I2.turned (t' := s2.toks) (fun b o hb e => (sb3.2 b hb).trans e) f0 f1 f3 f4 f5, q⟩
theorem swd_true {kx vx : Expr} {gs : List Comprehension} {scope : Scope} {pos py : Pos} {y : Str} {l : Nat} {env : Env} (hk : env.scope.kind = .function) (hy : env.scope.names.lookup y = some .local) (hl : (py.line == pos.line) = true)
    (ha : (scope.names.any fun (n, k) => n == y && (k == .local || k == .cell)) = false) : swapsWith (.DictComp kx vx gs scope pos) (some (.Name y py)) l env = pure true := by
  have ky : env.kindOf y = some .local := hy
  have hb : env.blockKind = .function := by unfold Env.blockKind; rw [hk]; rfl
  unfold swapsWith
  simp only [hb, ky, ha, Expr.pos, hl]
  rfl
/-- over the items of a locked dict: the pair is a new tuple -/
theorem dc_iti {d : Addr} {o : Obj} {es : List (Key × V)} {g : TG} {tt : TT} {tk tv : TE} {vs : List Nat} {σ : L2.St} {H1 : Hp} {D : Addr} {Qd : Hp → Prop} (Pv : Nat → Hp → Prop) (h0 : Pv 0 (upd H1 D (.dK []))) (hl : ∀ i H, i ≤ es.length → Pv i H → H d = some (.frz o (.dK es)))
    (hs : ∀ i k v T H, es[i]? = some (k, v) → Pv i H → H T = none → g (.ref T) (wipe σ vs) (upd H T (.tup [kV k, v])) fun σ2 H2 => wipe σ2 vs = wipe σ vs ∧ tt σ2 H2 fun b H3 =>
      if b = true then tk σ2 H3 fun y H4 => tv σ2 H4 fun z H5 => ∃ kvs k, y = kV k ∧ H5 D = some (.dK kvs) ∧ kvs.length < sizeLine ∧ Pv (i + 1) (upd H5 D (.dK (putK kvs k z))) else Pv (i + 1) H3) (hd : ∀ H, Pv es.length H → Qd H) :
    ∃ W : Nat → Nat → Hp → Prop, (∃ m, W 0 m (upd H1 D (.dK []))) ∧ ∀ i m H, W i m H →
      ((Iti d o es).stop i H ∧ Qd H) ∨ ((Iti d o es).go i H ∧ ∃ Nx : Hp → Prop, (∀ H', Nx H' → ∃ m', m' < m ∧ W (i + 1) m' H') ∧ ∀ x H', (Iti d o es).yld i H x H' → g x (wipe σ vs) H' fun σ2 H2 => wipe σ2 vs = wipe σ vs ∧ tt σ2 H2 fun b H3 =>
        if b = true then tk σ2 H3 fun y H4 => tv σ2 H4 fun z H5 => ∃ kvs k, y = kV k ∧ H5 D = some (.dK kvs) ∧ kvs.length < sizeLine ∧ Nx (upd H5 D (.dK (putK kvs k z))) else Nx H3) := by
  refine ⟨fun i m H => m = es.length - i ∧ i ≤ es.length ∧ Pv i H, ⟨es.length, by simp, Nat.zero_le _, h0⟩, ?_⟩
  rintro i m H ⟨rfl, hi, p⟩
  have q := hl i H hi p
  by_cases hlt : i < es.length
  · refine .inr ⟨⟨q, hlt⟩, Pv (i + 1), fun H' p' => ⟨es.length - (i + 1), by omega, rfl, hlt, p'⟩, fun x H' y => ?_⟩
    obtain ⟨T, k, v, e, rfl, hT, rfl⟩ := y
    exact hs i k v T H e p hT
  · have e : i = es.length := by omega
    subst e
    exact .inl ⟨⟨q, Nat.le_refl _⟩, hd H p⟩
end
end GB
set_option maxHeartbeats 4000000
/-! GM5: views are added. -/
namespace GB
open PySem PySem.Spec PyProof.Rows L2
local macro_rules | `(tactic| walk_at "g") => `(tactic| first
  | refine ⟨_, rfl, ?_⟩
  | refine ⟨_, _, rfl, rfl, ?_⟩
  | refine ⟨_, _, _, _, rfl, rfl, SqT.of (by assumption), by rfl, ?_⟩
  | refine ⟨_, _, _, _, rfl, rfl, SqL.of (by assumption), by rfl, ?_⟩
  | refine ⟨_, _, _, _, rfl, rfl, SqL.of (by assumption), atI_nat (by assumption), ?_⟩
  | refine ⟨rfl, ⟨rfl, by decide⟩, ?_⟩
  | refine ⟨_, _, _, _, _, rfl, .ty _, .base (.tup (by assumption)), kt_tup, ?_⟩
  | refine ⟨_, _, _, _, _, rfl, .ty _, .base (.str _), kt_str, ?_⟩
  | refine ⟨_, _, rfl, .inr (SqT.of (by assumption)), ?_⟩
  | refine ⟨_, _, rfl, .inl (SqL.of (by assumption)), ?_⟩
  | refine iteT_of (by first | decide +kernel | rfl) ?_
  | refine iteF_of (by first | decide +kernel | rfl) ?_
  | refine iteT_of (btw_t (by omega)) ?_
  | refine iteF_of (by rw [btw_t (by omega)]; rfl) ?_
  | refine ⟨_, _, rfl, rfl, by assumption, ?_⟩
  | refine ⟨_, _, _, rfl, rfl, by assumption, ?_⟩
  | refine ⟨_, _, _, _, _, rfl, by assumption, Txt.cl (by assumption), by first | exact Txt.no_kept_program (by assumption) | exact Txt.no_kept_policy (by assumption) | exact Txt.no_rows (by assumption) | exact Txt.no_cells (by assumption) | exact Txt.no_makers (by assumption) | exact Txt.no_roots (by assumption) | exact Txt.no_seen (by assumption) | exact Txt.no_made (by assumption) | exact Txt.no_records (by assumption) | exact Txt.no_busy (by assumption), by rfl, ?_⟩
  | refine ⟨_, _, _, rfl, by assumption, by rfl, ?_⟩
  | refine ⟨_, _, _, rfl, ?_⟩
  | refine ⟨_, _, rfl, SqT.of (by assumption), by rfl, ?_⟩
  | refine ⟨_, _, rfl, ?_⟩
  | refine ⟨.inl (by decide), ?_⟩
  | refine ⟨.inl ⟨rfl, _, SqL.of (by assumption)⟩, ?_⟩
  | refine ⟨rfl, ?_⟩)
local macro_rules | `(tactic| walk_at "gs") => `(tactic| repeat walk_at "g")
local macro_rules | `(tactic| walk_at "b") => `(tactic| (first | decide +kernel | (simp only [decide_eq_true_eq, decide_eq_false_iff_not, List.length_map, V.int.injEq, Bool.not_eq_true', Bool.not_eq_false']; omega)))
theorem PSs.weak {X : Cx} {st : List Stmt} {t t' : TS} (h : PSs X st t) (w : ∀ D σ H, t' D σ H → t D σ H) : PSs X st t' := ⟨fun pins s σ H D I q => h.run pins s σ H D I (w D σ H q)⟩
/-! ### puts, in plain Lean -/
theorem puts_snoc (b : Nat) (n x : Int) : ∀ (e : Int) (xs : List Int) (s : MS), s.puts b n e (xs ++ [x]) = (s.puts b n e xs).set b (e + (xs.length : Nat)) (n, x)
  | e, [], s => by show s.set b e (n, x) = s.set b (e + 0) (n, x); rw [Int.add_zero]
  | e, y :: r, s => by
    show (s.set b e (n, y)).puts b n (e + 1) (r ++ [x]) = ((s.set b e (n, y)).puts b n (e + 1) r).set b (e + ((y :: r).length : Nat)) (n, x)
    rw [puts_snoc b n x (e + 1) r, List.length_cons, show e + 1 + (r.length : Nat) = e + ((r.length + 1 : Nat) : Int) by omega]
/-- a block that may be written: k so far -/
def POk (s : MS) (b k : Nat) : Prop := b < s.cells.length ∧ (s.blk b).length ≤ k ∧ ∃ r, s.recs.getLast? = some r ∧ r.ch.length ≤ k
theorem blk_set (s : MS) (b : Nat) (p : Int) (c : Ct) (h : b < s.cells.length) : (s.set b p c).blk b = gput (s.blk b) p c := by
  show (s.cells.set b _).getD b [] = _
  rw [List.getD_eq_getElem?_getD, List.getElem?_set_self h] <;> rfl
theorem addCh_last {rs : List Rc} {r : Rc} (h : rs.getLast? = some r) (x : Chg) : (addCh rs x).getLast? = some { r with ch := r.ch ++ [x] } := by
  unfold addCh
  rw [h]
  exact List.getLast?_concat
theorem POk.set {s : MS} {b k : Nat} (h : POk s b k) (p : Int) (c : Ct) : POk (s.set b p c) b (k + 1) := by
  obtain ⟨h1, h2, r, h3, h4⟩ := h
  refine ⟨?_, ?_, _, addCh_last h3 _, ?_⟩
  · show b < (s.cells.set b _).length
    rw [List.length_set]; exact h1
  · rw [blk_set s b p c h1]
    exact Nat.le_trans (gput_length _ _ _) (by omega)
  · show (r.ch ++ [_]).length ≤ k + 1
    rw [List.length_append]
    exact Nat.add_le_add_right h4 1
theorem POk.puts {b : Nat} {n : Int} : ∀ {xs : List Int} {e : Int} {s : MS} {k : Nat}, POk s b k → POk (s.puts b n e xs) b (k + xs.length)
  | [], e, s, k, h => h
  | x :: r, e, s, k, h => by
    have z := POk.puts (b := b) (n := n) (xs := r) (e := e + 1) (h.set e (n, x))
    rw [List.length_cons, show k + (r.length + 1) = k + 1 + r.length by omega]
    exact z
/-- bounds of a state -/
structure Bd (s : MS) : Prop where
  rows : s.rows.length ≤ 900
  cells : s.cells.length ≤ 900
  makers : s.makers.length ≤ 900
  roots : s.roots.length ≤ 900
  seen : s.seen.length ≤ 900
  made : s.made.length ≤ 900
  recs : s.recs.length ≤ 900
  nd : ∀ i, NdK (s.blk i)
  blk : ∀ i, (s.blk i).length ≤ 800
  ch : ∀ r, s.recs.getLast? = some r → r.ch.length ≤ 800
theorem keep_step {lo hi : Int} {d : Dic} (nd : NdK d) {i : Nat} {k : Int} {c : Ct} (h : d[i]? = some (k, c)) (hk : lo ≤ k ∧ k < hi) : keepIn lo hi (d.take (i + 1)) = gput (keepIn lo hi (d.take i)) k c := by
  obtain ⟨hi', e⟩ := List.getElem?_eq_some_iff.mp h
  have e1 : d.take (i + 1) = d.take i ++ [(k, c)] := by rw [List.take_succ, h] <;> rfl
  have hn : gget (keepIn lo hi (d.take i)) k = none := by
    refine gget_none.mpr fun p hp q => ?_
    have hp' : p ∈ d.take i := (List.mem_filter.mp hp).1
    have nd' : NdK (d.take i ++ [(k, c)]) := by
      rw [← e1]
      unfold NdK
      rw [List.map_take]
      exact (List.take_sublist _ _).nodup nd
    unfold NdK at nd'
    rw [List.map_append] at nd'
    exact (List.nodup_append.mp nd').2.2 p.1 (List.mem_map_of_mem hp') k (by simp) q
  rw [gput_new hn, e1]
  unfold keepIn
  rw [List.filter_append]
  congr 1
  simp [hk.1, hk.2]
theorem keep_skip {lo hi : Int} {d : Dic} {i : Nat} {k : Int} {c : Ct} (h : d[i]? = some (k, c)) (hk : ¬ (lo ≤ k ∧ k < hi)) : keepIn lo hi (d.take (i + 1)) = keepIn lo hi (d.take i) := by
  have e1 : d.take (i + 1) = d.take i ++ [(k, c)] := by rw [List.take_succ, h] <;> rfl
  rw [e1]
  unfold keepIn
  rw [List.filter_append, List.filter_cons_of_neg (by simpa using hk), List.filter_nil, List.append_nil]
section
variable {P : Program} {w : World} {K : Frg} {mg : Str → Option Value} {base : Heap}
theorem DkA.at {H : Hp} : ∀ {kvs : List (Key × V)} {d : Dic} {i : Nat} {k : Key} {v : V}, DkA H kvs d → kvs[i]? = some (k, v) → ∃ c, d[i]? = some c ∧ k = .inl c.1 ∧ Rp H v (ctD c.2)
  | [], [], i, _, _, _, h => by simp at h
  | e :: r, c :: t, 0, k, v, ⟨h1, h2, _⟩, h => by
    have h : e = (k, v) := by simpa using h
    subst h
    exact ⟨c, rfl, h1, h2⟩
  | e :: r, c :: t, i + 1, k, v, ⟨_, _, h3⟩, h => by
    obtain ⟨c, e1, e2⟩ := h3.at (i := i) (by simpa using h)
    exact ⟨c, by simpa using e1, e2⟩
  | [], _ :: _, _, _, _, h, _ => h.elim
  | _ :: _, [], _, _, _, h, _ => h.elim
/-- the rest of extend_view, the view's row known -/
def tlE (K : Frg) (p q : V) (b : Bool) (n : Int) (st e need : Int) (xs : List Int) : TS := fun D σ H => ∃ (m a xa : Addr) (d : MD) (s : MS) (cap : Option Int) (bk : Nat) (len : Int) (v : Int) (wd : Str) (x9 x10 x11 x12 : Option V), σ = [some (.ref m), some (.int n), some (.ref a), some (.int st), some (.int len), some (capV cap), some (.int bk), some (.int e), some (.int need), x9, x10, x11, x12] ∧
  MA K H m p q b d s ∧ H a = some (.tup [.str wd, .int v, .ref xa]) ∧ H xa = some (.tup (xs.map .int)) ∧ xs.length ≤ 6 ∧ s.rows.length ≤ 900 ∧ POk (s.view ⟨st, need, cap, bk⟩) bk 800 ∧
  ∀ σ' H' d', MA K H' m p q b d' ((s.view ⟨st, need, cap, bk⟩).puts bk n e xs) → Cr m d H H' d' → D.nx σ' H'
/-- the copy in extend_view: the heap is as it was -/
def tlG (K : Frg) (H0 : Hp) (d : MD) (m a : Addr) (p q : V) (b : Bool) (n : Int) (r : Row) (need : Int) (cap : Option Int) (s1 : MS) (bk : Nat) : TS := fun D σ H => H = H0 ∧ ∃ c : V, σ = [some (.ref m), some (.int n), some (.ref a), some (.int r.s), some (.int r.l), some c, some (.int r.b), some (.int (r.s + r.l)), some (.int need), none, none, none, none] ∧
  ∀ σ2 H2 d2 x9 x10 x11 x12, σ2 = [some (.ref m), some (.int n), some (.ref a), some (.int r.s), some (.int r.l), some (capV cap), some (.int bk), some (.int (r.s + r.l)), some (.int need), x9, x10, x11, x12] → MA K H2 m p q b d2 s1 → Cr m d H0 H2 d2 → D.nx σ2 H2
def sp_M_extend_view : Sp := fun vs H Q E => ∃ (m : Addr) (p : V) (qa : Addr) (b : Bool) (d : MD) (s : MS) (n : Int) (a : Addr) (g : Bool) (v : Nat) (xs : List Int) (pol : Pol), vs = [.ref m, .int n, .ref a] ∧ MA K H m p (.ref qa) b d s ∧ stV a H (.app g v xs) ∧ poV qa H pol ∧ ValQ pol ∧
  VwOk s v ∧ xs.length ≤ 6 ∧ Bd s ∧ (∃ r, s.recs.getLast? = some r) ∧
  ∀ H' d', MA K H' m p (.ref qa) b d' (s.ext pol n g v xs) → Cr m d H H' d' → Q .non H'
theorem ok_M_extend_view (T : Txt K mg) : Ok P w K mg base CX0 2 ("Machine", some "extend_view") P_M_extend_view (sp_M_extend_view (K := K)) := by
  refine Ok.of T.f_M_extend_view sc_M_extend_view (fun _ _ _ _ _ _ us hl => match us, hl with | [_, _, _], _ => rfl) (fun vs H Q E h => ?_) fun f cdv A outer s H vs Q E hr h => ?_
  · obtain ⟨m, p, qa, b, d, s, n, a, g, v, xs, pol, rfl, _⟩ := h
    rfl
  · obtain ⟨m, p, qa, b, d, s0, n, a, g, v, xs, pol, rfl, hm, ⟨xa, ha, hxa⟩, hpo, hvq, ⟨h1, h2, h3⟩, hx6, B, ⟨r0, hr0⟩, k⟩ := h
    have hi := hm.h.ins
    have hl := hm.h.lst .rows
    obtain ⟨ra, hra, hrow⟩ := hm.row h1
    obtain ⟨s1, hs1⟩ : ∃ s1, s1 = ({ s0 with made := s0.made ++ [(n, chosenQ pol n ((s0.row v).l + (xs.length : Int)))] }.block n (s0.roots.getD (s0.row v).b 0) (keepIn (s0.row v).s ((s0.row v).s + (s0.row v).l) (s0.blk (s0.row v).b)) : MS) := ⟨_, rfl⟩
    refine ⟨_, PSs.nox (pss_cons (ps_asg (pe_ix ix_list (pe_fld (pv 0) rfl) (pe_ix ix_tup (pv 2) pe_int (fun _ _ => rfl)) (fun _ _ => rfl)) (pg_tup rfl (pgs_cons (pg_name (i := 3) sc_M_extend_view.nd rfl (Or.inr rfl)) (pgs_cons (pg_name (i := 4) sc_M_extend_view.nd rfl (Or.inl rfl)) (pgs_cons (pg_name (i := 5) sc_M_extend_view.nd rfl (Or.inl rfl)) (pgs_cons (pg_name (i := 6) sc_M_extend_view.nd rfl (Or.inl rfl)) pgs_nil))))))
      (pss_cons (ps_set (i := 7) sc_M_extend_view.nd rfl (Or.inr rfl) (pe_op op_add (pv 3) (pv 4)))
      (pss_cons (ps_set (i := 8) sc_M_extend_view.nd rfl (Or.inl rfl) (pe_op op_add (pv 4) (pe_callB call_len_seq rfl T.bi.len (by decide +kernel) (pa_cons (pe_ix ix_tup (pv 2) pe_int (fun _ _ => rfl)) pa_nil))))
      (pss_cons (ps_if (PW.pt (pw_or (pt_cmpR op_eq (pe_ix ix_tup (pv 2) pe_int (fun _ _ => rfl)) pe_str (nomark _)) (pw_or1 (PW.pt (pw_and (pt_cmpR op_notN (pv 5) pe_non (nomark _)) (pw_and1 (pt_cmpR op_gt (pv 8) (pv 5) (nomark _))))))))
      (PSs.weak (t' := (tlG K H d m a p (.ref qa) b n (s0.row v) ((s0.row v).l + (xs.length : Int)) (chosenQ pol n ((s0.row v).l + (xs.length : Int))) s1 s0.cells.length)) (pss_cons (ps_set (i := 5) sc_M_extend_view.nd rfl (Or.inl rfl) (pf (ok_chosen T) T.g_chosen hr rfl pass0 (pa_cons (pe_fld (pv 0) rfl) (pa_cons (pv 1) (pa_cons (pv 8) pa_nil)))))
      (pss_cons (ps_expr (pe_bm PySem.F.plainAttrs_list PySem.F.slot_list_append PySem.F.type_list_append mt_append (pe_fld (pv 0) rfl) (pa_cons (pe_tup (pa_cons (pv 1) (pa_cons (pv 5) pa_nil))) pa_nil)))
      (pss_cons (ps_lock (ps_setDc (i := 9) (own := [("place", 10), ("content", 12)]) rfl sc_M_extend_view.nd rfl rfl (swd_true rfl rfl rfl rfl) (pi_items (pe_ix ix_list (pe_fld (pv 0) rfl) (pv 6) (fun _ _ => rfl))) (blkOk_by rfl) (fun _ _ _ _ _ => (pg_tupK (K := K) (n := 2) rfl rfl (pgs_cons (pg_name (i := 10) sc_M_extend_view.nd rfl (Or.inl rfl) (.inr rfl)) (pgs_cons (pg_name (i := 12) sc_M_extend_view.nd rfl (Or.inl rfl) (.inr rfl)) pgs_nil)) rfl rfl)) (fun _ _ _ _ _ => pts_one (pt_chain op_le op_lt (pv 3) (pv 10) (pv 7))) (fun _ _ _ _ _ => (pv 10)) (fun _ _ _ _ _ => (pv 12))))
      (pss_one (ps_set (i := 6) sc_M_extend_view.nd rfl (Or.inl rfl) (pm (ok_M_add_block T) T.cl T.m_add_block hr pass0 (pv 0) (pa_cons (pv 1) (pa_cons (pe_ix ix_list (pe_fld (pv 0) rfl) (pv 6) (fun _ _ => rfl)) (pa_cons (pv 9) pa_nil))))))))) ?br3)
      pss_nil)
      (PSs.weak (t' := (tlE K p (.ref qa) b n (s0.row v).s ((s0.row v).s + (s0.row v).l) ((s0.row v).l + (xs.length : Int)) xs)) (pss_cons (ps_expr (pe_bm PySem.F.plainAttrs_list PySem.F.slot_list_append PySem.F.type_list_append mt_append (pe_fld (pv 0) rfl) (pa_cons (pe_tup (pa_cons (pv 3) (pa_cons (pv 8) (pa_cons (pv 5) (pa_cons (pv 6) pa_nil))))) pa_nil)))
      (pss_one (ps_for PassesOwn.never rfl (pi_enK rfl T.bi.enumerate (pa_cons (pe_ix ix_tup (pv 2) pe_int (fun _ _ => rfl)) pa_nil) (pk_cons (pv 7) pk_nil)) (pg_tup rfl (pgs_cons (pg_name (i := 10) sc_M_extend_view.nd rfl (Or.inl rfl)) (pgs_cons (pg_name (i := 11) sc_M_extend_view.nd rfl (Or.inl rfl)) pgs_nil)))
       (pss_one (ps_expr (pm (ok_M_set_cell T) T.cl T.m_set_cell hr pass0 (pv 0) (pa_cons (pv 6) (pa_cons (pv 10) (pa_cons (pe_tup (pa_cons (pv 1) (pa_cons (pv 11) pa_nil))) pa_nil))))))))) ?tl4))))), ?_⟩
    case br3 =>
      intro D σ H' hh
      obtain ⟨rfl, c, rfl, k⟩ := hh
      walk_at "gs"
      refine ⟨_, pol, n, _, rfl, hpo, hvq, fun H1 sm1 => ?_⟩
      have m1 := hm.same sm1
      have hi := m1.h.ins
      have hl := m1.h.lst .made
      walk_at "gs"
      refine ⟨szk (n := 2) (by decide), fun t ht => ?_⟩
      have sm2 := Same.new (o := .tup [.int n, capV (chosenQ pol n ((s0.row v).l + (xs.length : Int)))]) ht
      have m2 := m1.same sm2
      clear hi hl
      have hi := m2.h.ins
      have hl := m2.h.lst .made
      walk_at "gs"
      refine ⟨lt_line (by rw [m2.v.made.length, List.length_map]; have := B.made; omega), ?_⟩
      have m3 := m2.pushMade (c := (n, chosenQ pol n ((s0.row v).l + (xs.length : Int)))) ((rp_md _).mpr ⟨t, rfl, upd_same⟩)
      have c3 : Cr m d H' _ _ := Cr.trans (Cr.same (Same.trans sm1 sm2)) (m2.crL .made (d.vl .made ++ [.ref t]))
      generalize upd (upd H1 t (.tup [.int n, capV (chosenQ pol n ((s0.row v).l + (xs.length : Int)))])) (d.l .made) (.lst (d.vl .made ++ [.ref t])) = H3 at m3 c3 ⊢
      obtain ⟨e, he, hx, hd, hk⟩ := m3.dic (i := (s0.row v).b) h2
      refine ⟨e.1, .dK e.2, hd, trivial, fun od => ?_⟩
      clear hi hl
      have hne : ∀ a o, H3 a = some o → o ≠ .dK e.2 → upd H3 e.1 (.frz od (.dK e.2)) a = some o := fun a o h n => by
        rw [upd_ne (ne_of h hd n)]; exact h
      have hi := hne _ _ m3.h.ins (Ne.symm dK_ne_ins)
      have hl := hne _ _ (m3.h.lst .cells) lst_ne_dK
      have hfz : upd H3 e.1 (.frz od (.dK e.2)) e.1 = some (.frz od (.dK e.2)) := upd_same
      walk_at "gs"
      refine ⟨_, _, _, rfl, hfz, fun D hD => ?_⟩
      have nd := B.nd (s0.row v).b
      have hk : DkA H3 e.2 (s0.blk (s0.row v).b) := hk
      have hfr : ∀ {H' : Hp}, (∀ a o, upd H3 e.1 (.frz od (.dK e.2)) a = some o → H' a = some o) → Tp H3 H' := fun g a ys h => g _ _ (hne _ _ h fun z => by cases z)
      refine dc_iti (es := e.2) (fun i H' => (∀ a o, upd H3 e.1 (.frz od (.dK e.2)) a = some o → H' a = some o) ∧ ∃ ks, H' D = some (.dK ks) ∧ DkA H' ks (keepIn (s0.row v).s ((s0.row v).s + (s0.row v).l) ((s0.blk (s0.row v).b).take i))) ⟨Same.new hD, [], upd_same, trivial⟩ (fun i H' _ pv => pv.1 _ _ hfz) (fun i kk vv T0 H' hx pv hT => ?_) fun H' pv => ?_
      · obtain ⟨g, ks, hks, kks⟩ := pv
        obtain ⟨ci, hci, rfl, rv⟩ := hk.at hx
        have sm5 := Same.new (o := .tup [kV (.inl ci.1), vv]) hT
        have hTT : upd H' T0 (.tup [kV (.inl ci.1), vv]) T0 = _ := upd_same
        have g5 : ∀ a o, upd H3 e.1 (.frz od (.dK e.2)) a = some o → upd H' T0 (.tup [kV (.inl ci.1), vv]) a = some o := fun a o h => sm5 _ _ (g a o h)
        have kk5 := kks.tp (Same.tp sm5)
        have skip : ¬ ((s0.row v).s ≤ ci.1 ∧ ci.1 < (s0.row v).s + (s0.row v).l) → (∀ a o, upd H3 e.1 (.frz od (.dK e.2)) a = some o → upd H' T0 (.tup [kV (.inl ci.1), vv]) a = some o) ∧ ∃ ks, upd H' T0 (.tup [kV (.inl ci.1), vv]) D = some (.dK ks) ∧ DkA (upd H' T0 (.tup [kV (.inl ci.1), vv])) ks (keepIn (s0.row v).s ((s0.row v).s + (s0.row v).l) ((s0.blk (s0.row v).b).take (i + 1))) := fun hn => by
          rw [keep_skip (k := ci.1) (c := ci.2) hci hn]
          exact ⟨g5, ks, sm5 _ _ hks, kk5⟩
        walk_at "gs"
        refine iteD (fun q1 => ?_) (fun q1 => ?_)
        · walk_at "gs"
          refine iteD (fun q2 => ?_) (fun q2 => ?_)
          · walk_at "gs"
            have h12 : (s0.row v).s ≤ ci.1 ∧ ci.1 < (s0.row v).s + (s0.row v).l := ⟨of_decide_eq_true q1, of_decide_eq_true q2⟩
            refine ⟨ks, .inl ci.1, rfl, sm5 _ _ hks, lt_line ?_, fun a o h => ?_, putK ks (.inl ci.1) vv, upd_same, ?_⟩
            · have z1 := kk5.length
              have z2 : (keepIn (s0.row v).s ((s0.row v).s + (s0.row v).l) ((s0.blk (s0.row v).b).take i)).length ≤ _ := List.length_filter_le _ _
              have z3 := B.blk (s0.row v).b
              rw [List.length_take] at z2
              omega
            · rw [upd_ne (ne_of_none h hD)]
              exact g5 a o h
            · rw [keep_step (k := ci.1) (c := ci.2) nd hci h12]
              have tp := tp_put (o := .dK (putK ks (.inl ci.1) vv)) (sm5 _ _ hks) fun _ z => by cases z
              exact (kk5.tp tp).put ci.1 (Rp.tp tp (Rp.tp (hfr g5) rv)) |>.tp (Same.tp (Same.refl _))
          · exact skip fun z => of_decide_eq_false q2 z.2
        · walk_at "gs"
          exact skip fun z => of_decide_eq_false q1 z.1
      · obtain ⟨g, ks, hks, kks⟩ := pv
        have hL : (s0.blk (s0.row v).b).length = e.2.length := hk.length.symm
        rw [← hL, List.take_length] at kks
        refine ⟨g _ _ hfz, ?_⟩
        have sm6 : Same H3 (upd H' e.1 (.dK e.2)) := fun a o h => by
          by_cases z : a = e.1
          · subst z
            rw [hd] at h
            cases h
            exact upd_same
          · rw [upd_ne z]
            refine g _ _ ?_
            rw [upd_ne z]; exact h
        have hDe : D ≠ e.1 := fun z => by rw [z, hfz] at hD; cases hD
        have hks6 : upd H' e.1 (.dK e.2) D = some (.dK ks) := by rw [upd_ne hDe]; exact hks
        have tp6 := tp_put (o := .dK e.2) (g _ _ hfz) fun _ z => by cases z
        have kk6 := kks.tp tp6
        have m6 := m3.same sm6
        clear hi hl
        have hi := m6.h.ins
        have hl := m6.h.lst .roots
        have hrt := m6.root (i := (s0.row v).b) h3
        have hD3 : H3 D = none := by rw [← hD, upd_ne hDe]
        walk_at "gs"
        refine ⟨m, p, .ref qa, b, _, _, n, _, D, ks, _, rfl, m6, hks6, kk6, fun x hx z => ?_, B.cells, B.makers, B.roots, fun H7 d7 m7 f7 ft _ rk7 => ?_⟩
        · have := m3.h.dic x hx
          rw [z, hD3] at this
          cases this
        · refine k _ H7 d7 _ _ _ _ rfl ?_ (c3.trans ⟨⟨(Fr.of sm6).trans f7 fun a h => .inl h, fun x hx => (ft x hx).imp id fun z => by rw [z]; exact hD3⟩, rk7⟩)
          rw [hs1]
          exact m7
    case tl4 =>
      intro D σ H hh
      obtain ⟨m, a, xa, d, s, cap, bk, len, vv, wd, x9, x10, x11, x12, rfl, hm, ha, hxa, hx6, hrz, ho, k⟩ := hh
      clear hi hl hra hrow h1 h2 h3
      have hi := hm.h.ins
      have hl := hm.h.lst .rows
      walk_at "gs"
      refine ⟨szk (n := 4) (by decide), fun t ht => ?_⟩
      have sm := Same.new (o := .tup [.int (s0.row v).s, .int ((s0.row v).l + (xs.length : Int)), capV cap, .int bk]) ht
      have m1 := hm.same sm
      have ha1 := sm _ _ ha
      have hx1 := sm _ _ hxa
      clear hi hl
      have hi := m1.h.ins
      have hl := m1.h.lst .rows
      walk_at "gs"
      refine ⟨lt_line (by rw [m1.rowsLen]; omega), ?_⟩
      have m2 := m1.pushRows (r := ⟨(s0.row v).s, (s0.row v).l + (xs.length : Int), cap, bk⟩) ((rp_row _).mpr ⟨t, rfl, upd_same⟩)
      have c2 : Cr m d H _ _ := Cr.trans (Cr.same sm) (m1.crL .rows (d.vl .rows ++ [.ref t]))
      have ha2 := c2.tp _ _ ha
      have hx2 := c2.tp _ _ hxa
      clear hi hl
      have hi := m2.h.ins
      walk_at "gs"
      obtain ⟨sv, hsv⟩ : ∃ sv, sv = s.view ⟨(s0.row v).s, (s0.row v).l + (xs.length : Int), cap, bk⟩ := ⟨_, rfl⟩
      rw [← hsv] at ho k
      refine ⟨_, _, _, rfl, rfl, SqT.of hx2, ?_⟩
      refine for_en (xs := xs.map .int) (fun i σ H' => ∃ d3 y10 y11, σ = [some (.ref m), some (.int n), some (.ref a), some (.int (s0.row v).s), some (.int len), some (capV cap), some (.int bk), some (.int ((s0.row v).s + (s0.row v).l)), some (.int ((s0.row v).l + (xs.length : Int))), x9, y10, y11, x12] ∧
        MA K H' m p (.ref qa) b d3 (sv.puts bk n ((s0.row v).s + (s0.row v).l) (xs.take i)) ∧ Cr m d H H' d3) ⟨_, x10, x11, rfl, ?_, c2⟩ (fun i σ H' _ pv => ?_) (fun i x σ H' T0 hx pv hT => ?_) fun σ H' pv => ?_
      · rw [hsv]
        exact m2
      · obtain ⟨d3, y10, y11, _, _, c3⟩ := pv
        exact SqT.of (c3.tp _ _ hxa)
      · obtain ⟨d3, y10, y11, rfl, m3, c3⟩ := pv
        obtain ⟨xi, hxi, rfl⟩ : ∃ xi, xs[i]? = some xi ∧ V.int xi = x := by simpa using hx
        have hil : i < xs.length := (List.getElem?_eq_some_iff.mp hxi).1
        have hti : (xs.take i).length = i := by rw [List.length_take]; omega
        have sm3 := Same.new (o := .tup [.int ((s0.row v).s + (s0.row v).l + (i : Nat)), .int xi]) hT
        have hTT : upd H' T0 (.tup [.int ((s0.row v).s + (s0.row v).l + (i : Nat)), .int xi]) T0 = _ := upd_same
        have m4 := m3.same sm3
        clear hi
        have hi := m4.h.ins
        walk_at "gs"
        refine ⟨szk (n := 2) (by decide), fun t2 ht2 => ?_⟩
        have sm4 := Same.new (o := .tup [.int n, .int xi]) ht2
        have m5 := m4.same sm4
        have hp := ho.puts (n := n) (xs := xs.take i) (e := (s0.row v).s + (s0.row v).l)
        rw [hti] at hp
        obtain ⟨p1, p2, r1, p3, p4⟩ := hp
        refine ⟨m, p, .ref qa, b, d3, _, bk, _, .ref t2, (n, xi), r1, rfl, m5, p1, p3, by omega, by omega, (rp_ct _).mpr ⟨t2, rfl, upd_same⟩, fun H4 d4 m6 c4 => ?_⟩
        refine ⟨d4, _, _, rfl, ?_, c3.trans ((Cr.same sm3).trans ((Cr.same sm4).trans c4))⟩
        rw [List.take_succ, hxi]
        show MA K H4 m p (.ref qa) b d4 (sv.puts bk n ((s0.row v).s + (s0.row v).l) (xs.take i ++ [xi]))
        rw [puts_snoc, hti]
        exact m6
      · obtain ⟨d3, y10, y11, rfl, m3, c3⟩ := pv
        rw [List.length_map, List.take_length] at m3
        exact k _ _ _ m3 c3
    have hlen : ((xs.map V.int).length : Int) = xs.length := by rw [List.length_map]
    have hpk : ∀ (s : MS) (r : Row) (bk : Nat), s.recs = s0.recs → bk < s.cells.length → (s.blk bk).length ≤ 800 → POk (s.view r) bk 800 := fun s r bk e h h' => ⟨h, h', r0, by
      show s.recs.getLast? = _
      rw [e]; exact hr0, B.ch r0 hr0⟩
    have yes : due g (s0.row v).c ((s0.row v).l + (xs.length : Int)) = true → ∀ σ2 H2 d2 x9 x10 x11 x12, σ2 = [some (.ref m), some (.int n), some (.ref a), some (.int (s0.row v).s), some (.int (s0.row v).l), some (capV (chosenQ pol n ((s0.row v).l + (xs.length : Int)))), some (.int s0.cells.length), some (.int ((s0.row v).s + (s0.row v).l)), some (.int ((s0.row v).l + (xs.length : Int))), x9, x10, x11, x12] → MA K H2 m p (.ref qa) b d2 s1 → Cr m d H H2 d2 →
        tlE K p (.ref qa) b n (s0.row v).s ((s0.row v).s + (s0.row v).l) ((s0.row v).l + (xs.length : Int)) xs ⟨fun _ H' => Q .non H', Q, fun _ _ => False, fun _ _ => False⟩ σ2 H2 := by
      intro hdue σ2 H2 d2 x9 x10 x11 x12 e2 m2 c2
      refine ⟨m, a, xa, d2, s1, chosenQ pol n ((s0.row v).l + (xs.length : Int)), s0.cells.length, (s0.row v).l, v, sw g, x9, x10, x11, x12, e2, m2, c2.tp _ _ ha, c2.tp _ _ hxa, hx6, ?_, ?_, fun σ' H' d' m' c' => k H' d' ?_ (c2.trans c')⟩
      · rw [hs1]; exact B.rows
      · refine hpk _ _ _ (by rw [hs1] <;> rfl) ?_ ?_
        · rw [hs1]
          show _ < (s0.cells ++ [_]).length
          rw [List.length_append]
          exact Nat.lt_succ_self _
        · rw [hs1]
          show ((s0.cells ++ [_]).getD s0.cells.length []).length ≤ 800
          rw [List.getD_eq_getElem?_getD, List.getElem?_concat_length]
          exact Nat.le_trans (List.length_filter_le _ _) (B.blk _)
      · have e : MS.ext pol n g v xs s0 = ((s1.view ⟨(s0.row v).s, (s0.row v).l + (xs.length : Int), chosenQ pol n ((s0.row v).l + (xs.length : Int)), s0.cells.length⟩).puts s0.cells.length n ((s0.row v).s + (s0.row v).l) xs) := by
          unfold MS.ext
          rw [hs1]
          exact if_pos hdue
        rw [e]
        exact m'
    have no : due g (s0.row v).c ((s0.row v).l + (xs.length : Int)) = false → ∀ (D : Ends), (∀ σ' H', Q .non H' → D.nx σ' H') →
        tlE K p (.ref qa) b n (s0.row v).s ((s0.row v).s + (s0.row v).l) ((s0.row v).l + (xs.length : Int)) xs D [some (.ref m), some (.int n), some (.ref a), some (.int (s0.row v).s), some (.int (s0.row v).l), some (capV (s0.row v).c), some (.int (s0.row v).b), some (.int ((s0.row v).s + (s0.row v).l)), some (.int ((s0.row v).l + (xs.length : Int))), none, none, none, none] H := by
      intro hdue D hD
      refine ⟨m, a, xa, d, s0, (s0.row v).c, (s0.row v).b, (s0.row v).l, v, sw g, none, none, none, none, rfl, hm, ha, hxa, hx6, B.rows, hpk _ _ _ rfl h2 (B.blk _), fun σ' H' d' m' c' => hD _ _ (k H' d' ?_ c')⟩
      have e : MS.ext pol n g v xs s0 = ((s0.view ⟨(s0.row v).s, (s0.row v).l + (xs.length : Int), (s0.row v).c, (s0.row v).b⟩).puts (s0.row v).b n ((s0.row v).s + (s0.row v).l) xs) := by
        unfold MS.ext
        exact if_neg (by rw [hdue]; exact Bool.false_ne_true)
      rw [e]
      exact m'
    clear hs1
    rw [← hlen] at yes no ⊢
    cases g with
    | true =>
      have ha : H a = some (.tup [.str "grow", .int v, .ref xa]) := ha
      walk_at "gs"
      exact yes rfl
    | false =>
      have ha : H a = some (.tup [.str "append", .int v, .ref xa]) := ha
      cases hc : (s0.row v).c with
      | none =>
        rw [hc] at hrow no
        walk_at "gs"
        exact no rfl _ fun _ _ h => h
      | some c =>
        rw [hc] at hrow no yes
        have hrow : H ra = some (.tup [.int (s0.row v).s, .int (s0.row v).l, .int c, .int (s0.row v).b]) := hrow
        walk_at "gs"
        refine iteD (fun q => ?_) (fun q => ?_)
        · walk_at "gs"
          exact yes q
        · walk_at "gs"
          exact no q _ fun _ _ h => h
end
end GB
set_option maxHeartbeats 4000000
/-! GM6: views, a step of a machine. -/
namespace GB
open PySem PySem.Spec PyProof.Rows L2
local macro_rules | `(tactic| walk_at "g") => `(tactic| first
  | refine ⟨_, rfl, ?_⟩
  | refine ⟨_, _, rfl, rfl, ?_⟩
  | refine ⟨_, _, _, _, rfl, rfl, SqT.of (by assumption), by rfl, ?_⟩
  | refine ⟨_, _, _, _, rfl, rfl, SqL.of (by assumption), by rfl, ?_⟩
  | refine ⟨_, _, _, _, rfl, rfl, SqL.of (by assumption), atI_nat (by assumption), ?_⟩
  | refine ⟨rfl, ⟨rfl, by decide⟩, ?_⟩
  | refine ⟨_, _, _, _, _, rfl, .ty _, .base (.tup (by assumption)), kt_tup, ?_⟩
  | refine ⟨_, _, _, _, _, rfl, .ty _, .base (.str _), kt_str, ?_⟩
  | refine ⟨_, _, rfl, .inr (SqT.of (by assumption)), ?_⟩
  | refine ⟨_, _, rfl, .inl (SqL.of (by assumption)), ?_⟩
  | refine iteT_of (by first | decide +kernel | rfl) ?_
  | refine iteF_of (by first | decide +kernel | rfl) ?_
  | refine iteT_of (btw_t (by omega)) ?_
  | refine iteF_of (by rw [btw_t (by omega)]; rfl) ?_
  | refine ⟨_, _, rfl, rfl, by assumption, ?_⟩
  | refine ⟨_, _, _, rfl, rfl, by assumption, ?_⟩
  | refine ⟨_, _, _, _, _, rfl, by assumption, Txt.cl (by assumption), by first | exact Txt.no_kept_program (by assumption) | exact Txt.no_kept_policy (by assumption) | exact Txt.no_rows (by assumption) | exact Txt.no_cells (by assumption) | exact Txt.no_makers (by assumption) | exact Txt.no_roots (by assumption) | exact Txt.no_seen (by assumption) | exact Txt.no_made (by assumption) | exact Txt.no_records (by assumption) | exact Txt.no_busy (by assumption), by rfl, ?_⟩
  | refine ⟨_, _, _, rfl, by assumption, by rfl, ?_⟩
  | refine ⟨_, _, _, rfl, ?_⟩
  | refine ⟨_, _, rfl, SqT.of (by assumption), by rfl, ?_⟩
  | refine ⟨_, _, rfl, ?_⟩
  | refine ⟨.inl (by decide), ?_⟩
  | refine ⟨.inl ⟨rfl, _, SqL.of (by assumption)⟩, ?_⟩
  | refine ⟨rfl, ?_⟩)
local macro_rules | `(tactic| walk_at "gs") => `(tactic| repeat walk_at "g")
local macro_rules | `(tactic| walk_at "b") => `(tactic| (first | decide +kernel | (simp only [decide_eq_true_eq, decide_eq_false_iff_not, List.length_map, V.int.injEq, Bool.not_eq_true', Bool.not_eq_false']; omega)))
/-- what a statement needs of the state -/
def Fit (s : MS) : Stm → Prop
  | .make _ _ => True
  | .slice v _ _ => v < s.rows.length
  | .clip v => v < s.rows.length
  | .app _ v xs => VwOk s v ∧ xs.length ≤ 6
  | .write v _ _ => VwOk s v
  | .move v _ u _ => VwOk s v ∧ VwOk s u
  | .read u _ => VwOk s u
def isVw : Stm → Prop
  | .write _ _ _ => False
  | .move _ _ _ _ => False
  | .read _ _ => False
  | _ => True
section
variable {P : Program} {w : World} {K : Frg} {mg : Str → Option Value} {base : Heap}
def sp_M_add_view : Sp := fun vs H Q E => ∃ (m : Addr) (p : V) (qa : Addr) (b : Bool) (d : MD) (s : MS) (n : Int) (a : Addr) (st : Stm) (pol : Pol), vs = [.ref m, .int n, .ref a] ∧ MA K H m p (.ref qa) b d s ∧ stV a H st ∧ isVw st ∧ Fit s st ∧ poV qa H pol ∧ ValQ pol ∧
  Bd s ∧ (∃ r, s.recs.getLast? = some r) ∧
  ∀ H' d', MA K H' m p (.ref qa) b d' (s.act pol n st) → Cr m d H H' d' → Q .non H'
theorem ok_M_add_view (T : Txt K mg) : Ok P w K mg base CX0 3 ("Machine", some "add_view") P_M_add_view (sp_M_add_view (K := K)) := by
  refine Ok.of T.f_M_add_view sc_M_add_view (fun _ _ _ _ _ _ us hl => match us, hl with | [_, _, _], _ => rfl) (fun vs H Q E h => ?_) fun f cdv A outer s H vs Q E hr h => ?_
  · obtain ⟨m, p, qa, b, d, s, n, a, st, pol, rfl, _⟩ := h
    rfl
  · obtain ⟨m, p, qa, b, d, s0, n, a, st, pol, rfl, hm, ha, hiv, hf, hpo, hvq, B, hrc, k⟩ := h
    have hi := hm.h.ins
    have hl := hm.h.lst .rows
    refine ⟨_, PSs.nox (pss_one (ps_if (pt_cmpR op_eq (pe_ix ix_tup (pv 2) pe_int (fun _ _ => rfl)) pe_str (nomark _))
       (pss_one (ps_expr (pe_bm PySem.F.plainAttrs_list PySem.F.slot_list_append PySem.F.type_list_append mt_append (pe_fld (pv 0) rfl) (pa_cons (pe_tup (pa_cons pe_int (pa_cons (pe_ix ix_tup (pv 2) pe_int (fun _ _ => rfl)) (pa_cons (pe_ix ix_tup (pv 2) pe_int (fun _ _ => rfl)) (pa_cons (pm (ok_M_add_block T) T.cl T.m_add_block hr pass0 (pv 0) (pa_cons (pv 1) (pa_cons (pv 1) (pa_cons pe_dnewK pa_nil)))) pa_nil))))) pa_nil))))
       (pss_one (ps_if (pt_cmpR op_eq (pe_ix ix_tup (pv 2) pe_int (fun _ _ => rfl)) pe_str (nomark _))
        (pss_cons (ps_asg (pe_ix ix_list (pe_fld (pv 0) rfl) (pe_ix ix_tup (pv 2) pe_int (fun _ _ => rfl)) (fun _ _ => rfl)) (pg_tup rfl (pgs_cons (pg_name (i := 3) sc_M_add_view.nd rfl (Or.inl rfl)) (pgs_cons (pg_name (i := 4) sc_M_add_view.nd rfl (Or.inl rfl)) (pgs_cons (pg_name (i := 5) sc_M_add_view.nd rfl (Or.inl rfl)) (pgs_cons (pg_name (i := 6) sc_M_add_view.nd rfl (Or.inl rfl)) pgs_nil))))))
        (pss_cons (ps_asg (pe_slice sl_tup (pv 2) (po_some pe_int) po_none) (pg_tup rfl (pgs_cons (pg_name (i := 7) sc_M_add_view.nd rfl (Or.inl rfl)) (pgs_cons (pg_name (i := 8) sc_M_add_view.nd rfl (Or.inl rfl)) pgs_nil))))
        (pss_one (ps_expr (pe_bm PySem.F.plainAttrs_list PySem.F.slot_list_append PySem.F.type_list_append mt_append (pe_fld (pv 0) rfl) (pa_cons (pe_tup (pa_cons (pe_op op_add (pv 3) (pv 7)) (pa_cons (pe_op op_sub (pv 8) (pv 7)) (pa_cons (pe_ifExp (pt_cmpR op_isN (pv 5) pe_non (nomark _)) pe_non (pe_op op_sub (pv 5) (pv 7))) (pa_cons (pv 6) pa_nil))))) pa_nil))))))
        (pss_one (ps_if (pt_cmpR op_eq (pe_ix ix_tup (pv 2) pe_int (fun _ _ => rfl)) pe_str (nomark _))
         (pss_cons (ps_asg (pe_ix ix_list (pe_fld (pv 0) rfl) (pe_ix ix_tup (pv 2) pe_int (fun _ _ => rfl)) (fun _ _ => rfl)) (pg_tup rfl (pgs_cons (pg_name (i := 3) sc_M_add_view.nd rfl (Or.inl rfl)) (pgs_cons (pg_name (i := 4) sc_M_add_view.nd rfl (Or.inl rfl)) (pgs_cons (pg_name (i := 5) sc_M_add_view.nd rfl (Or.inl rfl)) (pgs_cons (pg_name (i := 6) sc_M_add_view.nd rfl (Or.inl rfl)) pgs_nil))))))
         (pss_one (ps_expr (pe_bm PySem.F.plainAttrs_list PySem.F.slot_list_append PySem.F.type_list_append mt_append (pe_fld (pv 0) rfl) (pa_cons (pe_tup (pa_cons (pv 3) (pa_cons (pv 4) (pa_cons (pv 4) (pa_cons (pv 6) pa_nil))))) pa_nil)))))
         (pss_one (ps_expr (pm (ok_M_extend_view T) T.cl T.m_extend_view hr pass0 (pv 0) (pa_cons (pv 1) (pa_cons (pv 2) pa_nil))))))))))), ?_⟩
    cases st with
    | make l c =>
      have ha : H a = _ := ha
      walk_at "gs"
      refine fun t ht => ?_
      have sm := Same.new (o := .dK []) ht
      have m1 := hm.same sm
      have hne : ∀ e ∈ d.ds, e.1 ≠ t := fun e he z => by
        have := hm.h.dic e he
        rw [z, ht] at this
        cases this
      refine ⟨m, p, .ref qa, b, d, s0, n, n, t, [], [], rfl, m1, upd_same, trivial, hne, B.cells, B.makers, B.roots, fun H2 d2 m2 f2 ft e2 rk2 => ?_⟩
      have c2 : Cr m d H H2 d2 := ⟨⟨(Fr.of sm).trans f2 fun a h => .inl h, fun x hx => (ft x hx).imp id fun z => by rw [z]; exact ht⟩, rk2⟩
      refine ⟨szk (n := 4) (by decide), fun t2 ht2 => ?_⟩
      have sm3 := Same.new (o := .tup [.int 0, .int l, .int c, .int (s0.cells.length : Nat)]) ht2
      have m3 := m2.same sm3
      have hl3 := m3.h.lst .rows
      rw [e2] at hl3
      refine ⟨_, _, _, rfl, rfl, hl3, ?_, ?_⟩
      · rw [← e2] at hl3
        have := m3.rowsLen
        refine lt_line ?_
        rw [this]
        have := B.rows
        show s0.rows.length ≤ 1000
        omega
      · have m4 := m3.pushRows (r := ⟨0, l, some c, s0.cells.length⟩) ((rp_row _).mpr ⟨t2, rfl, upd_same⟩)
        have c4 := m3.crL .rows (d2.vl .rows ++ [.ref t2])
        rw [e2] at m4 c4
        exact k _ _ m4 (c2.trans ((Cr.same sm3).trans c4))
    | slice v lo hi' =>
      have ha : H a = _ := ha
      obtain ⟨ra, hra, hrow⟩ := hm.row hf
      walk_at "gs"
      refine ⟨a, _, rfl, SqT.of ha, show ¬ (HT.sIx 4 0 (some 2) = 0 ∧ HT.sIx 4 4 none = 4) by decide, fun t ht => ?_⟩
      have sm := Same.new (o := .tup [.int lo, .int hi']) ht
      have htt : upd H t (.tup [.int lo, .int hi']) t = _ := upd_same
      have m1 := hm.same sm
      have hx := hi
      clear hi hl
      have hi := m1.h.ins
      have hl := m1.h.lst .rows
      show gTup _ _ _ _ _ (upd H t (.tup [.int lo, .int hi'])) _
      have fin : ∀ t2, (upd H t (.tup [.int lo, .int hi'])) t2 = none → Q .non (upd (upd (upd H t (.tup [.int lo, .int hi'])) t2 (.tup [.int ((s0.row v).s + lo), .int (hi' - lo), capV ((s0.row v).c.map (· - lo)), .int (s0.row v).b])) (d.l .rows) (.lst (d.vl .rows ++ [.ref t2]))) := fun t2 ht2 => by
        have sm3 := Same.new (o := .tup [.int ((s0.row v).s + lo), .int (hi' - lo), capV ((s0.row v).c.map (· - lo)), .int (s0.row v).b]) ht2
        have m3 := m1.same sm3
        have m4 := m3.pushRows (r := ⟨(s0.row v).s + lo, hi' - lo, (s0.row v).c.map (· - lo), (s0.row v).b⟩) ((rp_row _).mpr ⟨t2, rfl, upd_same⟩)
        exact k _ _ m4 ((Cr.same sm).trans ((Cr.same sm3).trans (m3.crL .rows _)))
      have hz : (d.vl .rows).length < sizeLine := lt_line (by rw [hm.rowsLen]; have := B.rows; omega)
      cases hc : (s0.row v).c with
      | none =>
        rw [hc] at fin hrow
        walk_at "gs"
        refine ⟨szk (n := 4) (by decide), fun t2 ht2 => ?_⟩
        have sm3 := Same.new (o := .tup [.int ((s0.row v).s + lo), .int (hi' - lo), .non, .int (s0.row v).b]) ht2
        exact ⟨_, _, _, rfl, rfl, sm3 _ _ hl, hz, fin t2 ht2⟩
      | some c =>
        rw [hc] at fin hrow
        walk_at "gs"
        refine ⟨szk (n := 4) (by decide), fun t2 ht2 => ?_⟩
        have sm3 := Same.new (o := .tup [.int ((s0.row v).s + lo), .int (hi' - lo), .int (c - lo), .int (s0.row v).b]) ht2
        exact ⟨_, _, _, rfl, rfl, sm3 _ _ hl, hz, fin t2 ht2⟩
    | clip v =>
      have ha : H a = _ := ha
      obtain ⟨ra, hra, hrow⟩ := hm.row hf
      walk_at "gs"
      refine ⟨szk (n := 4) (by decide), fun t2 ht2 => ?_⟩
      have sm3 := Same.new (o := .tup [.int (s0.row v).s, .int (s0.row v).l, .int (s0.row v).l, .int (s0.row v).b]) ht2
      have m3 := hm.same sm3
      refine ⟨_, _, _, rfl, rfl, sm3 _ _ hl, lt_line (by rw [hm.rowsLen]; have := B.rows; omega), ?_⟩
      have m4 := m3.pushRows (r := ⟨(s0.row v).s, (s0.row v).l, some (s0.row v).l, (s0.row v).b⟩) ((rp_row _).mpr ⟨t2, rfl, upd_same⟩)
      exact k _ _ m4 ((Cr.same sm3).trans (m3.crL .rows _))
    | app g v xs =>
      obtain ⟨xa, h1, h2⟩ := ha
      cases g <;> walk_at "gs"
      · exact ⟨m, p, qa, b, d, s0, n, a, false, v, xs, pol, rfl, hm, ⟨xa, h1, h2⟩, hpo, hvq, hf.1, hf.2, B, hrc, k⟩
      · exact ⟨m, p, qa, b, d, s0, n, a, true, v, xs, pol, rfl, hm, ⟨xa, h1, h2⟩, hpo, hvq, hf.1, hf.2, B, hrc, k⟩
    | write v i x => cases hiv
    | move v i u j => cases hiv
    | read u j => cases hiv
/-- a new record -/
theorem MA.pushRec {H : Hp} {m : Addr} {p q : V} {b : Bool} {d : MD} {s : MS} (x : MA K H m p q b d s) {t c : Addr} (ht : H t = some (.tup [.int s.rows.length, .int s.cells.length, .int s.seen.length, .int s.made.length, .ref c])) (hc : H c = some (.lst [])) (hn : ∀ e ∈ d.cs, e.1 ≠ c) (hl : ∀ f, c ≠ d.l f) :
    MA K (upd H (d.l .recs) (.lst (d.vl .recs ++ [.ref t]))) m p q b { d with vl := upL d.vl .recs (d.vl .recs ++ [.ref t]), cs := d.cs ++ [(c, [])] } s.mark := by
  have tp := x.tpL .recs (d.vl .recs ++ [.ref t])
  have y := x.v.tp tp
  have hcl : c ≠ d.l .recs := hl .recs
  refine ⟨(x.h.putL .recs _).newC (xs := []) (by rw [upd_ne hcl]; exact hc) hn hl, y.rows, y.cells, y.dics, y.makers, y.roots, y.seen, y.made, ?_⟩
  exact RcA.snoc (c := (c, [])) (r := ⟨s.rows.length, s.cells.length, s.seen.length, s.made.length, []⟩) (tp _ _ ht) RpA.nil y.recs
theorem Bd.mark {s : MS} (B : Bd s) (h : s.recs.length ≤ 60) : Bd s.mark where
  rows := B.rows
  cells := B.cells
  makers := B.makers
  roots := B.roots
  seen := B.seen
  made := B.made
  recs := by
    show (s.recs ++ [_]).length ≤ 900
    rw [List.length_append]
    exact Nat.le_trans (Nat.add_le_add_right h 1) (by decide)
  nd := B.nd
  blk := B.blk
  ch := fun r hr => by
    have hr : (s.recs ++ [_]).getLast? = some r := hr
    rw [List.getLast?_concat] at hr
    cases hr
    exact Nat.zero_le _
def tellV : Option Int → V
  | none => .non
  | some x => .int x
theorem mark_last (s : MS) : s.mark.recs.getLast? = some ⟨s.rows.length, s.cells.length, s.seen.length, s.made.length, []⟩ := List.getLast?_concat
/-- all records and lists of changes stay -/
def Rk1 (d d' : MD) : Prop := (∃ t, d'.vl .recs = d.vl .recs ++ t) ∧ ∃ t, d'.cs = d.cs ++ t
theorem Rk1.refl (d : MD) : Rk1 d d := ⟨⟨[], by rw [List.append_nil]⟩, ⟨[], by rw [List.append_nil]⟩⟩
theorem Rk1.trans {d d1 d2 : MD} (f : Rk1 d d1) (g : Rk1 d1 d2) : Rk1 d d2 := by
  obtain ⟨⟨t, e1⟩, ⟨u, e2⟩⟩ := f
  obtain ⟨⟨t', f1⟩, ⟨u', f2⟩⟩ := g
  exact ⟨⟨t ++ t', by rw [f1, e1, List.append_assoc]⟩, ⟨u ++ u', by rw [f2, e2, List.append_assoc]⟩⟩
theorem rk1_of {d d2 d3 : MD} {x : V} {e : Addr × List V} (e7 : d2.vl .recs = d.vl .recs ++ [x]) (e8 : d2.cs = d.cs ++ [e]) (r : Rk d2 d3) : Rk1 d d3 := by
  obtain ⟨⟨t, f1⟩, ⟨u, f2⟩, _⟩ := r
  refine ⟨⟨[x] ++ t, by rw [f1, e7, List.append_assoc]⟩, ⟨u, by rw [f2, e8, List.dropLast_concat]⟩⟩
def sp_M_advance : Sp := fun vs H Q E => ∃ (m pa qa : Addr) (b : Bool) (d : MD) (s : MS) (prog : List Stm) (st : Stm) (pol : Pol), vs = [.ref m] ∧ MA K H m (.ref pa) (.ref qa) b d s ∧ PrV pa H prog ∧ prog[s.recs.length]? = some st ∧ Fit s st ∧ poV qa H pol ∧ ValQ pol ∧
  Bd s ∧ s.recs.length ≤ 60 ∧
  ∀ H' d', MA K H' m (.ref pa) (.ref qa) b d' (s.step pol st) → Ch m d H H' d' → Rk1 d d' → Q (tellV (s.tells st)) H'
theorem ok_M_advance (T : Txt K mg) : Ok P w K mg base CX0 4 ("Machine", some "advance") P_M_advance (sp_M_advance (K := K)) := by
  refine Ok.of T.f_M_advance sc_M_advance (fun _ _ _ _ _ _ us hl => match us, hl with | [_], _ => rfl) (fun vs H Q E h => ?_) fun f cdv A outer s H vs Q E hr h => ?_
  · obtain ⟨m, pa, qa, b, d, s, prog, st, pol, rfl, _⟩ := h
    rfl
  · obtain ⟨m, pa, qa, b, d, s0, prog, st, pol, rfl, hm, hp, hst, hf, hpo, hvq, B, hr60, k⟩ := h
    obtain ⟨ws, hp1, hp2⟩ := hp
    obtain ⟨wv, hw, rw_⟩ := hp2.get (i := s0.recs.length) (d := stD st) (by rw [List.getElem?_map, hst] <;> rfl)
    obtain ⟨a, rfl, ha⟩ := (rp_st st).mp rw_
    have hi := hm.h.ins
    have hl := hm.h.lst
    have l1 := hl .recs
    have l2 := hl .rows
    have l3 := hl .cells
    have l4 := hl .seen
    have l5 := hl .made
    refine ⟨_, PSs.nox (pss_cons (ps_set (i := 1) sc_M_advance.nd rfl (Or.inl rfl) (pe_callB call_len_seq rfl T.bi.len (by decide +kernel) (pa_cons (pe_fld (pv 0) rfl) pa_nil)))
      (pss_cons (ps_set (i := 2) sc_M_advance.nd rfl (Or.inl rfl) (pe_ix ix_tup (pe_fld (pv 0) rfl) (pv 1) (fun _ _ => rfl)))
      (pss_cons (ps_expr (pe_bm PySem.F.plainAttrs_list PySem.F.slot_list_append PySem.F.type_list_append mt_append (pe_fld (pv 0) rfl) (pa_cons (pe_tup (pa_cons (pe_callB call_len_seq rfl T.bi.len (by decide +kernel) (pa_cons (pe_fld (pv 0) rfl) pa_nil)) (pa_cons (pe_callB call_len_seq rfl T.bi.len (by decide +kernel) (pa_cons (pe_fld (pv 0) rfl) pa_nil)) (pa_cons (pe_callB call_len_seq rfl T.bi.len (by decide +kernel) (pa_cons (pe_fld (pv 0) rfl) pa_nil)) (pa_cons (pe_callB call_len_seq rfl T.bi.len (by decide +kernel) (pa_cons (pe_fld (pv 0) rfl) pa_nil)) (pa_cons (pe_lst pa_nil) pa_nil)))))) pa_nil)))
      (pss_cons (ps_set (i := 3) sc_M_advance.nd rfl (Or.inl rfl) pe_non)
      (pss_cons (ps_if (pt_cmpR op_eq (pe_ix ix_tup (pv 2) pe_int (fun _ _ => rfl)) pe_str (nomark _))
       (pss_one (ps_set (i := 3) sc_M_advance.nd rfl (Or.inl rfl) (pm (ok_M_read_cell T) T.cl T.m_read_cell hr pass0 (pv 0) (pa_cons (pe_ix ix_tup (pv 2) pe_int (fun _ _ => rfl)) (pa_cons (pe_ix ix_tup (pv 2) pe_int (fun _ _ => rfl)) pa_nil)))))
       (pss_one (ps_if (pt_cmpR op_eq (pe_ix ix_tup (pv 2) pe_int (fun _ _ => rfl)) pe_str (nomark _))
        (pss_cons (ps_set (i := 3) sc_M_advance.nd rfl (Or.inl rfl) (pm (ok_M_read_cell T) T.cl T.m_read_cell hr pass0 (pv 0) (pa_cons (pe_ix ix_tup (pv 2) pe_int (fun _ _ => rfl)) (pa_cons (pe_ix ix_tup (pv 2) pe_int (fun _ _ => rfl)) pa_nil))))
        (pss_one (ps_expr (pm (ok_M_write_cell T) T.cl T.m_write_cell hr pass0 (pv 0) (pa_cons (pv 1) (pa_cons (pv 2) (pa_cons (pv 3) pa_nil)))))))
        (pss_one (ps_if (pt_cmpR op_eq (pe_ix ix_tup (pv 2) pe_int (fun _ _ => rfl)) pe_str (nomark _))
         (pss_one (ps_expr (pm (ok_M_write_cell T) T.cl T.m_write_cell hr pass0 (pv 0) (pa_cons (pv 1) (pa_cons (pv 2) (pa_cons (pe_ix ix_tup (pv 2) pe_int (fun _ _ => rfl)) pa_nil))))))
         (pss_one (ps_expr (pm (ok_M_add_view T) T.cl T.m_add_view hr pass0 (pv 0) (pa_cons (pv 1) (pa_cons (pv 2) pa_nil))))))))))
      (pss_one (ps_ret (pv 3)))))))), ?_⟩
    walk_at "gs"
    rw [hm.v.recs.lengths.1]
    refine ⟨_, _, _, _, rfl, rfl, SqT.of hp1, atI_nat hw, ?_⟩
    walk_at "gs"
    refine ⟨szk (n := 0) (by decide), fun c hc => ?_⟩
    have sm1 := Same.new (o := .lst []) hc
    refine ⟨szk (n := 5) (by decide), fun t ht => ?_⟩
    have sm2 := Same.new (o := .tup [.int (d.vl .rows).length, .int (d.vl .cells).length, .int (d.vl .seen).length, .int (d.vl .made).length, .ref c]) ht
    have sm := Same.trans sm1 sm2
    have e2 : (d.vl .rows).length = s0.rows.length := hm.rowsLen
    have e3 : (d.vl .cells).length = s0.cells.length := by rw [hm.v.cells, List.length_map, hm.v.dics.length]
    have e4 : (d.vl .seen).length = s0.seen.length := by rw [hm.v.seen.length, List.length_map]
    have e5 : (d.vl .made).length = s0.made.length := by rw [hm.v.made.length, List.length_map]
    rw [e2, e3, e4, e5] at sm2 sm ⊢
    have m1 := hm.same sm
    have n1 : ∀ x o, H x = some o → x ≠ c := fun x o h z => by rw [z, hc] at h; cases h
    refine ⟨_, _, _, rfl, rfl, sm _ _ l1, lt_line (by rw [hm.v.recs.lengths.1]; omega), ?_⟩
    have hcc : upd (upd H c (.lst [])) t (.tup [.int s0.rows.length, .int s0.cells.length, .int s0.seen.length, .int s0.made.length, .ref c]) c = some (.lst []) := sm2 _ _ upd_same
    have m2 := m1.pushRec (t := t) (c := c) upd_same hcc (fun e he => n1 _ _ (hm.h.chs e he)) (fun f => Ne.symm (n1 _ _ (hm.h.lst f)))
    have c1 : Ch m d _ _ _ := m1.chL .recs (d.vl .recs ++ [.ref t])
    have c2 : Ch m d H (upd (upd (upd H c (.lst [])) t (.tup [.int s0.rows.length, .int s0.cells.length, .int s0.seen.length, .int s0.made.length, .ref c])) (d.l .recs) (.lst (d.vl .recs ++ [.ref t]))) { d with vl := upL d.vl .recs (d.vl .recs ++ [.ref t]), cs := d.cs ++ [(c, [])] } := ⟨(Fr.of sm).trans (And.left c1) fun a h => .inl h, fun x hx => by
      rcases hx with h | ⟨g, h⟩ | h | h
      · exact .inl (.inl h)
      · exact .inl (.inr (.inl ⟨g, h⟩))
      · exact .inl (.inr (.inr (.inl h)))
      · have h : x ∈ (d.cs ++ [(c, ([] : List V))]).map (fun e : Addr × List V => e.1) := h
        rw [List.map_append] at h
        rcases List.mem_append.mp h with z | z
        · exact .inl (.inr (.inr (.inr z)))
        · have z : x = c := by simpa using z
          rw [z]
          exact .inr hc⟩
    generalize upd (upd (upd H c (.lst [])) t (.tup [.int s0.rows.length, .int s0.cells.length, .int s0.seen.length, .int s0.made.length, .ref c])) (d.l .recs) (.lst (d.vl .recs ++ [.ref t])) = H2 at m2 c2 ⊢
    obtain ⟨d2, hd2⟩ : ∃ d2, d2 = ({ d with vl := upL d.vl .recs (d.vl .recs ++ [.ref t]), cs := d.cs ++ [(c, [])] } : MD) := ⟨_, rfl⟩
    have e7 : d2.vl .recs = d.vl .recs ++ [.ref t] := by rw [hd2] <;> rfl
    have e8 : d2.cs = d.cs ++ [(c, [])] := by rw [hd2] <;> rfl
    rw [← hd2] at m2 c2
    clear hd2
    have ha2 := ha.tp c2.tp
    have B2 := B.mark hr60
    have hlast := mark_last s0
    clear l1 l2 l3 l4 l5 hi hl
    have hi := m2.h.ins
    cases st with
    | make l cc =>
      have ha3 : H2 a = _ := ha2
      walk_at "gs"
      exact ⟨m, .ref pa, qa, b, d2, s0.mark, _, a, .make l cc, pol, rfl, m2, ha2, trivial, trivial, hpo.tp c2.tp, hvq, B2, ⟨_, hlast⟩, fun H3 d3 m3 c3 => ⟨_, rfl, k _ _ m3 (c2.trans c3.1) (rk1_of e7 e8 c3.2)⟩⟩
    | slice v lo hi' =>
      have ha3 : H2 a = _ := ha2
      walk_at "gs"
      exact ⟨m, .ref pa, qa, b, d2, s0.mark, _, a, .slice v lo hi', pol, rfl, m2, ha2, trivial, hf, hpo.tp c2.tp, hvq, B2, ⟨_, hlast⟩, fun H3 d3 m3 c3 => ⟨_, rfl, k _ _ m3 (c2.trans c3.1) (rk1_of e7 e8 c3.2)⟩⟩
    | clip v =>
      have ha3 : H2 a = _ := ha2
      walk_at "gs"
      exact ⟨m, .ref pa, qa, b, d2, s0.mark, _, a, .clip v, pol, rfl, m2, ha2, trivial, hf, hpo.tp c2.tp, hvq, B2, ⟨_, hlast⟩, fun H3 d3 m3 c3 => ⟨_, rfl, k _ _ m3 (c2.trans c3.1) (rk1_of e7 e8 c3.2)⟩⟩
    | app g v xs =>
      obtain ⟨xa, h1, h2⟩ := ha2
      cases g
      · have h1 : H2 a = some (.tup [.str "append", .int v, .ref xa]) := h1
        walk_at "gs"
        exact ⟨m, .ref pa, qa, b, d2, s0.mark, _, a, .app false v xs, pol, rfl, m2, ⟨xa, h1, h2⟩, trivial, hf, hpo.tp c2.tp, hvq, B2, ⟨_, hlast⟩, fun H3 d3 m3 c3 => ⟨_, rfl, k _ _ m3 (c2.trans c3.1) (rk1_of e7 e8 c3.2)⟩⟩
      · have h1 : H2 a = some (.tup [.str "grow", .int v, .ref xa]) := h1
        walk_at "gs"
        exact ⟨m, .ref pa, qa, b, d2, s0.mark, _, a, .app true v xs, pol, rfl, m2, ⟨xa, h1, h2⟩, trivial, hf, hpo.tp c2.tp, hvq, B2, ⟨_, hlast⟩, fun H3 d3 m3 c3 => ⟨_, rfl, k _ _ m3 (c2.trans c3.1) (rk1_of e7 e8 c3.2)⟩⟩
    | write v i x =>
      have ha3 : H2 a = _ := ha2
      walk_at "gs"
      refine ⟨m, .ref pa, .ref qa, b, d2, s0.mark, _, a, _, v, i, [.int x], x, _, rfl, m2, ha2, hf, hlast, Nat.zero_le _, Nat.le_trans (B2.blk _) (by decide), fun H3 d3 m3 c3 => ?_⟩
      walk_at "gs"
      exact k _ _ m3 (c2.trans c3.1) (rk1_of e7 e8 c3.2)
    | move v i u j =>
      have ha3 : H2 a = _ := ha2
      walk_at "gs"
      refine ⟨m, .ref pa, .ref qa, b, d2, s0.mark, u, j, rfl, m2, hf.2, B2.seen, fun H3 d3 m3 c3 => ?_⟩
      have ha4 : H3 a = _ := c3.tp _ _ ha3
      have hi3 := m3.h.ins
      walk_at "gs"
      refine ⟨m, .ref pa, .ref qa, b, d3, s0.mark.see (s0.mark.look u j), _, a, _, v, i, [.int u, .int j], _, _, rfl, m3, ha4, hf.1, hlast, Nat.zero_le _, Nat.le_trans (B2.blk _) (by decide), fun H4 d4 m4 c4 => ?_⟩
      walk_at "gs"
      exact k _ _ m4 (c2.trans (c3.1.trans c4.1)) (rk1_of e7 e8 (c3.2.trans c4.2))
    | read u j =>
      have ha3 : H2 a = _ := ha2
      walk_at "gs"
      refine ⟨m, .ref pa, .ref qa, b, d2, s0.mark, u, j, rfl, m2, hf, B2.seen, fun H3 d3 m3 c3 => ?_⟩
      walk_at "gs"
      exact k _ _ m3 (c2.trans c3.1) (rk1_of e7 e8 c3.2)
def sp_M_step : Sp := fun vs H Q E => ∃ (m pa qa : Addr) (d : MD) (s : MS) (prog : List Stm) (st : Stm) (pol : Pol), vs = [.ref m] ∧ MA K H m (.ref pa) (.ref qa) false d s ∧ PrV pa H prog ∧ prog[s.recs.length]? = some st ∧ Fit s st ∧ poV qa H pol ∧ ValQ pol ∧
  Bd s ∧ s.recs.length ≤ 60 ∧
  ∀ H' d', MA K H' m (.ref pa) (.ref qa) false d' (s.step pol st) → Ch m d H H' d' → Q (tellV (s.tells st)) H'
theorem ok_M_step (T : Txt K mg) : Ok P w K mg base CX0 5 ("Machine", some "step") P_M_step (sp_M_step (K := K)) := by
  refine Ok.of T.f_M_step sc_M_step (fun _ _ _ _ _ _ us hl => match us, hl with | [_], _ => rfl) (fun vs H Q E h => ?_) fun f cdv A outer s H vs Q E hr h => ?_
  · obtain ⟨m, pa, qa, d, s, prog, st, pol, rfl, _⟩ := h
    rfl
  · obtain ⟨m, pa, qa, d, s0, prog, st, pol, rfl, hm, hp, hst, hf, hpo, hvq, B, hr60, k⟩ := h
    obtain ⟨ws, hp1, hp2⟩ := hp
    have hi := hm.h.ins
    have l1 := hm.h.lst .recs
    refine ⟨_, PSs.nox (pss_cons (ps_expr (pm0 (ok_M_need_rest T) T.cl T.m_need_rest hr pass0 (pv 0)))
      (pss_cons (ps_if (pt_cmpR op_eq (pe_callB call_len_seq rfl T.bi.len (by decide +kernel) (pa_cons (pe_fld (pv 0) rfl) pa_nil)) (pe_callB call_len_seq rfl T.bi.len (by decide +kernel) (pa_cons (pe_fld (pv 0) rfl) pa_nil)) (nomark _))
       (pss_one ps_never)
       pss_nil)
      (pss_one (ps_ret (pm0 (ok_M_advance T) T.cl T.m_advance hr pass0 (pv 0)))))), ?_⟩
    walk_at "gs"
    refine ⟨m, _, _, d, rfl, hm.h, ?_⟩
    walk_at "gs"
    rw [hm.v.recs.lengths.1]
    have hlt : s0.recs.length < ws.length := by
      rw [hp2.length, List.length_map]
      exact (List.getElem?_eq_some_iff.mp hst).1
    refine iteF_of (decide_eq_false fun z => by injection z; omega) ?_
    walk_at "gs"
    exact ⟨m, pa, qa, false, d, s0, prog, st, pol, rfl, hm, ⟨ws, hp1, hp2⟩, hst, hf, hpo, hvq, B, hr60, fun H' d' x y _ => k H' d' x y⟩
end
end GB
set_option maxHeartbeats 4000000
/-! GEq: a list against the empty list. -/
namespace GB
open PySem PySem.Spec PyProof.Rows L2
section
variable {X : Cx}
def rEqE (K : PySem.W.Frag) : R2 := fun x y H Q => ∃ a b xs, x = .ref a ∧ y = .ref b ∧ SqL K H a xs ∧ SqL K H b [] ∧ Q (.bl xs.isEmpty) H
def rNeE (K : PySem.W.Frag) : R2 := fun x y H Q => ∃ a b xs, x = .ref a ∧ y = .ref b ∧ SqL K H a xs ∧ SqL K H b [] ∧ Q (.bl (!xs.isEmpty)) H
theorem op_eqE (hu : X.A.units + 64 < cLine) : OpR X (compareOp .Eq) (rEqE X.K) := by
  intro pins s σ H x y v u Q I rx ry h
  obtain ⟨a, b, xs, rfl, rfl, ha, hb, q⟩ := h
  cases xs with
  | nil => exact op_eqD hu pins s σ H _ _ v u Q I rx ry ⟨.list [], .list [], .lst ha .nil, .lst hb .nil, by decide, by decide, q⟩
  | cons z zs =>
    obtain rfl : v = Value.ref a := rx
    obtain rfl : u = Value.ref b := ry
    obtain ⟨ia, ra, pa, _⟩ := I.list ha
    obtain ⟨ib, rb, pb, _⟩ := I.list hb
    have l1 : ia.length = zs.length + 1 := by rw [← ra.length] <;> rfl
    have l2 : ib.length = 0 := by rw [← rb.length] <;> rfl
    exact SeqAt.RcAt.lists_lengths pa.isList pb.isList (by simp [l1, l2]) (by omega) _ _ _ _ ⟨.bl false, H, I, rfl, q⟩
theorem op_neE (hu : X.A.units + 64 < cLine) : OpR X (compareOp .NotEq) (rNeE X.K) := by
  intro pins s σ H x y v u Q I rx ry h
  obtain ⟨a, b, xs, rfl, rfl, ha, hb, q⟩ := h
  cases xs with
  | nil => exact op_neD hu pins s σ H _ _ v u Q I rx ry ⟨.list [], .list [], .lst ha .nil, .lst hb .nil, by decide, by decide, q⟩
  | cons z zs =>
    obtain rfl : v = Value.ref a := rx
    obtain rfl : u = Value.ref b := ry
    obtain ⟨ia, ra, pa, _⟩ := I.list ha
    obtain ⟨ib, rb, pb, _⟩ := I.list hb
    have l1 : ia.length = zs.length + 1 := by rw [← ra.length] <;> rfl
    have l2 : ib.length = 0 := by rw [← rb.length] <;> rfl
    exact SeqAt.RcNeAt.lists_lengths pa.isList pb.isList (by simp [l1, l2]) (by omega) _ _ _ _ ⟨.bl true, H, I, rfl, q⟩
end
end GB
set_option maxHeartbeats 4000000
/-! GDel: the deletion of a list's tail, del xs[k:], several in one statement. -/
namespace GB
open PySem PySem.Spec PyProof.Rows L2
section
variable {prog : Program} {w : World} {A : Around} {E : Value → Shared → Prop} {s : Shared}
theorem bounds_tail {k n : Nat} (h : k ≤ n) : sliceBounds (some (k : Int)) none none n = ((k : Int), (n : Int), 1) := by
  simp only [sliceBounds, Option.getD_none]
  have h1 : ¬ ((k : Int) < 0) := by omega
  simp only [h1, if_false, show (1 : Int) > 0 by decide, if_true]
  congr 1
  omega
theorem keep_zip {α : Type} (f : Nat → Bool) (k : Nat) : ∀ (xs : List α) (j : Nat), (∀ i, j ≤ i → i < j + xs.length → f i = decide (k ≤ i)) → ((xs.zipIdx j).filterMap fun x => if f x.2 = true then none else some x.1) = xs.take (k - j)
  | [], j, _ => by simp
  | x :: r, j, h => by
    have ih := keep_zip f k r (j + 1) fun i h1 h2 => h i (by omega) (by rw [List.length_cons]; omega)
    have h0 := h j (Nat.le_refl _) (by rw [List.length_cons]; omega)
    rw [List.zipIdx_cons, List.filterMap_cons]
    by_cases c : k ≤ j
    · have e : f j = true := by rw [h0]; exact decide_eq_true c
      have z : k - j = 0 := by omega
      have z1 : k - (j + 1) = 0 := by omega
      rw [z1] at ih
      simp only [e, if_true, z, ih, List.take_zero]
    · have e : f j = false := by rw [h0]; exact decide_eq_false c
      have z : k - j = (k - (j + 1)) + 1 := by omega
      simp only [e, Bool.false_eq_true, if_false, z, List.take_succ_cons, ih]
set_option maxRecDepth 100000 in
/-- list.__delitem__ at a slice k: .. -/
theorem del_tail {l sl : Addr} {its : List Value} {n k : Nat} {vl : Value} {Q : Unit → Shared → Prop} (e : s.heap.get? l = some { cls := .type "list", data := .seq its.toArray n })
    (hs : s.heap.IsSliceOf sl vl .none .none) (pl : IsPart vl (some (k : Int))) (hk : k ≤ its.length) (hsz : its.length ≤ sizeLine)
    (h : ∀ F : Array Value → Array Value, F its.toArray = (its.take k).toArray → Q () { s with heap := s.heap.update l (Obj.mapSeq F) }) :
    wpAny (model prog w) A (delItem (.ref l) (.ref sl)) Q E s := by
  have hT : s.TypeIs (.ref l) "list" := ⟨_, e, rfl⟩
  obtain ⟨os, hos, hcs, hds⟩ := id hs
  have hTs : s.TypeIs (.ref sl) "slice" := ⟨os, hos, hcs⟩
  refine wpAny_delItem_slot hT (by decide) F.slot_list_delitem (wpAny_call_entry F.slot_list_delitem hT F.entry_list_delitem ?_ (F.args_list_delitem_2 _ _))
  show wpAny _ _ (Builtin.List.listSubscript? (.ref sl) >>= _) _ _ s
  refine wpAny_bind ?_
  unfold Builtin.List.listSubscript?
  refine wpAny_bind (wpAny_specialOf hTs slice_no_index ?_)
  simp only [Option.isNone_none, if_true]
  refine wpAny_pure ?_
  show wpAny _ _ (typeOf (.ref sl) >>= _) _ _ s
  refine wpAny_bind (wpAny_typeOf hTs ?_)
  rw [if_neg (by decide)]
  rw [listSliceParts_eq]
  refine wpAny_bind (wpAny_bind (wpAny_field hos hds (x := .none) rfl (wpAny_bind (wpAny_listPart .none ?_))))
  rw [if_neg (show ¬ ((rawPart none == rawInt 0) = true) from Bool.false_ne_true)]
  refine wpAny_bind (wpAny_field hos hds (x := vl) rfl (wpAny_bind (wpAny_listPart pl ?_)))
  refine wpAny_bind (wpAny_field hos hds (x := .none) rfl (wpAny_bind (wpAny_listPart .none (wpAny_pure ?_))))
  refine wpAny_bind (wpAny_bind (wpAny_seqItems e rfl (wpAny_pure ?_)))
  have hb : sliceBounds (some (k : Int)) none none its.toArray.size = ((k : Int), (its.length : Int), 1) := by rw [List.size_toArray]; exact bounds_tail hk
  refine wpAny_bind (wpAny_of_eq ((sliceIndices_raw (some (k : Int)) none none its.toArray.size (by simp)).trans (congrArg (pure : Int × Int × Int → Sem (Int × Int × Int)) hb)) ?_)
  refine wpAny_bind (wpAny_rule ?_)
  have hF : ∀ i, 0 ≤ i → i < 0 + its.length → (fun i : Nat => (if (1 : Int) > 0 then decide ((k : Int) ≤ (i : Int)) && decide ((i : Int) < (its.length : Int)) && ((i : Int) - (k : Int)) % 1 == 0 else false)) i = decide (k ≤ i) := fun i _ h2 => by
    show (if (1 : Int) > 0 then decide ((k : Int) ≤ (i : Int)) && decide ((i : Int) < (its.length : Int)) && ((i : Int) - (k : Int)) % 1 == 0 else false) = _
    rw [if_pos (by decide), Int.emod_one]
    by_cases c : k ≤ i
    · rw [decide_eq_true c, decide_eq_true (show (k : Int) ≤ (i : Int) by omega), decide_eq_true (show (i : Int) < (its.length : Int) by omega)]
      rfl
    · rw [decide_eq_false c, decide_eq_false (show ¬ (k : Int) ≤ (i : Int) by omega)]
      rfl
  have key := keep_zip _ k its 0 hF
  rw [Nat.sub_zero] at key
  refine wpAny_bind (wpAny_updateSeq (hz := by rw [List.size_toArray]; exact hsz) (_hz' := ?z) e rfl (wpAny_bind (wpAny_letGo ?g)))
  case z =>
    refine Nat.le_trans (Nat.le_of_eq (congrArg Array.size (show _ = (its.take k).toArray from congrArg List.toArray key))) ?_
    rw [List.size_toArray, List.length_take]
    omega
  case g => exact wpAny_pure ⟨.none, rfl, h _ (congrArg List.toArray key)⟩
end
/-- one target of a del -/
structure PDl (X : Cx) (tg : Expr) (t : (L2.St → Hp → Prop) → L2.St → Hp → Prop) : Prop where
  run : ∀ (pins : List (Addr × Obj)) (s : Shared) (σ : L2.St) (H : Hp) (Q : L2.St → Hp → Prop), Inv X pins σ H s → t Q σ H →
    wpAny (model X.prog X.w) X.A (delete tg X.env) (fun _ s' => ∃ σ' H', Inv X pins σ' H' s' ∧ Q σ' H') X.xe s
structure PDls (X : Cx) (tgs : List Expr) (t : (L2.St → Hp → Prop) → L2.St → Hp → Prop) : Prop where
  run : ∀ (pins : List (Addr × Obj)) (s : Shared) (σ : L2.St) (H : Hp) (Q : L2.St → Hp → Prop), Inv X pins σ H s → t Q σ H →
    wpAny (model X.prog X.w) X.A (deleteEach tgs X.env) (fun _ s' => ∃ σ' H', Inv X pins σ' H' s' ∧ Q σ' H') X.xe s
section
variable {X : Cx} {o lo tg : Expr} {tgs : List Expr} {to tl : TE} {p2 pos : Pos} {t u : (L2.St → Hp → Prop) → L2.St → Hp → Prop}
/-- del xs[k:] -/
def tTail (to tl : TE) : (L2.St → Hp → Prop) → L2.St → Hp → Prop := fun Q σ H => to σ H fun x H1 => tl σ H1 fun y H2 => ∃ i, y = .int i ∧ ∃ (l : Addr) (xs : List V) (k : Nat), x = .ref l ∧ some i = some (k : Int) ∧ H2 l = some (.lst xs) ∧ k ≤ xs.length ∧ Q σ (upd H2 l (.lst (xs.take k)))
theorem pd_tail (ho : PE X o to) (hl : PE X lo tl) : PDl X (.Subscript o (.Slice (some lo) none none p2) pos) (tTail to tl) := by
  refine ⟨fun pins s σ H Q I h => ?_⟩
  refine wpAny_delete_Subscript (thn (ho.run pins s σ H _ I h) fun u s1 ⟨x, H1, I1, rx, q1⟩ => ?_)
  refine wpAny_Slice (thn ((po_some hl).run pins s1 σ H1 (fun r H2 => ∃ (l : Addr) (xs : List V) (k : Nat), x = .ref l ∧ r = some (k : Int) ∧ H2 l = some (.lst xs) ∧ k ≤ xs.length ∧ Q σ (upd H2 l (.lst (xs.take k)))) I1 q1) fun vl s2 ⟨r, H2, I2, pl, l, xs, k, ex, er, hH, hk, q2⟩ => ?_)
  subst ex er
  rw [evalPart_none]
  refine wpAny_pure (wpAny_pure ?_)
  cases (show u = Value.ref l from rx)
  obtain ⟨z, its, n, r, hl2, e⟩ := I2.lstM hH
  have e' : (s2.heap.push { cls := .type "slice", data := .fields #[vl, .none, .none] }).get? l = some { cls := .type "list", data := .seq its.toArray n } := Heap.get?_push_of_some _ e
  have I3 : Inv X pins σ H2 { s2 with heap := s2.heap.push { cls := .type "slice", data := .fields #[vl, .none, .none] } } := I2.kept (t' := s2.toks) fun b ob q => Heap.get?_push_of_some _ q
  refine del_tail (k := k) e' (Heap.IsSliceOf.new ..) pl (by omega) (by omega) fun F hF => ⟨σ, _, I3.lset (its' := its.take k) (t' := s2.toks) hH e' hF (r.take k) ?_, q2⟩
  rw [List.length_take]
  omega
def tDels (t u : (L2.St → Hp → Prop) → L2.St → Hp → Prop) : (L2.St → Hp → Prop) → L2.St → Hp → Prop := fun Q => t (u Q)
theorem pds_nil : PDls X [] (fun Q => Q) := ⟨fun pins s σ H Q I h => wpAny_deleteEach_nil ⟨σ, H, I, h⟩⟩
theorem pds_cons (h1 : PDl X tg t) (h2 : PDls X tgs u) : PDls X (tg :: tgs) (tDels t u) := ⟨fun pins s σ H Q I h =>
  wpAny_deleteEach_cons (thn (h1.run pins s σ H _ I h) fun _ s1 ⟨σ1, H1, I1, q1⟩ => h2.run pins s1 σ1 H1 Q I1 q1)⟩
theorem ps_del (h : PDls X tgs t) : PS X (.Delete tgs pos) (fun D σ H => t D.nx σ H) := ⟨fun pins s σ H D I q =>
  wpAny_Delete (thn (h.run pins s σ H D.nx I q) fun _ s1 ⟨σ1, H1, I1, q1⟩ => ⟨σ1, H1, I1, q1⟩)⟩
end
end GB
set_option maxHeartbeats 4000000
/-! GM7: a step of a machine is undone. -/
namespace GB
open PySem PySem.Spec PyProof.Rows L2
local macro_rules | `(tactic| walk_at "g") => `(tactic| first
  | refine ⟨_, rfl, ?_⟩
  | refine ⟨_, _, rfl, rfl, ?_⟩
  | refine ⟨_, _, _, _, rfl, rfl, SqT.of (by assumption), by rfl, ?_⟩
  | refine ⟨_, _, _, _, rfl, rfl, SqL.of (by assumption), by rfl, ?_⟩
  | refine ⟨_, _, _, _, rfl, rfl, SqL.of (by assumption), atI_nat (by assumption), ?_⟩
  | refine ⟨rfl, ⟨rfl, by decide⟩, ?_⟩
  | refine ⟨_, _, _, _, _, rfl, .ty _, .base (.tup (by assumption)), kt_tup, ?_⟩
  | refine ⟨_, _, _, _, _, rfl, .ty _, .base (.str _), kt_str, ?_⟩
  | refine ⟨_, _, rfl, .inr (SqT.of (by assumption)), ?_⟩
  | refine ⟨_, _, rfl, .inl (SqL.of (by assumption)), ?_⟩
  | refine iteT_of (by first | decide +kernel | rfl) ?_
  | refine iteF_of (by first | decide +kernel | rfl) ?_
  | refine iteT_of (btw_t (by omega)) ?_
  | refine iteF_of (by rw [btw_t (by omega)]; rfl) ?_
  | refine ⟨_, _, rfl, rfl, by assumption, ?_⟩
  | refine ⟨_, _, _, rfl, rfl, by assumption, ?_⟩
  | refine ⟨_, _, _, _, _, rfl, by assumption, Txt.cl (by assumption), by first | exact Txt.no_kept_program (by assumption) | exact Txt.no_kept_policy (by assumption) | exact Txt.no_rows (by assumption) | exact Txt.no_cells (by assumption) | exact Txt.no_makers (by assumption) | exact Txt.no_roots (by assumption) | exact Txt.no_seen (by assumption) | exact Txt.no_made (by assumption) | exact Txt.no_records (by assumption) | exact Txt.no_busy (by assumption), by rfl, ?_⟩
  | refine ⟨_, _, _, rfl, by assumption, by rfl, ?_⟩
  | refine ⟨_, _, _, rfl, ?_⟩
  | refine ⟨_, _, rfl, SqT.of (by assumption), by rfl, ?_⟩
  | refine ⟨_, _, rfl, ?_⟩
  | refine ⟨.inl (by decide), ?_⟩
  | refine ⟨.inl ⟨rfl, _, SqL.of (by assumption)⟩, ?_⟩
  | refine ⟨rfl, ?_⟩)
local macro_rules | `(tactic| walk_at "gs") => `(tactic| repeat walk_at "g")
local macro_rules | `(tactic| walk_at "b") => `(tactic| (first | decide +kernel | (simp only [decide_eq_true_eq, decide_eq_false_iff_not, List.length_map, V.int.injEq, Bool.not_eq_true', Bool.not_eq_false']; omega)))
section
variable {K : Frg} {H : Hp} {m : Addr} {p q : V} {b : Bool} {d : MD} {s : MS}
theorem MA.takeRows (x : MA K H m p q b d s) (k : Nat) : MA K (upd H (d.l .rows) (.lst ((d.vl .rows).take k))) m p q b { d with vl := upL d.vl .rows ((d.vl .rows).take k) } { s with rows := s.rows.take k } := by
  have y := x.v.tp (x.tpL .rows ((d.vl .rows).take k))
  refine ⟨x.h.putL .rows _, ?_, y.cells, y.dics, y.makers, y.roots, y.seen, y.made, y.recs⟩
  show RpA _ ((d.vl .rows).take k) ((s.rows.take k).map rowD)
  rw [List.map_take]
  exact y.rows.take k
theorem MA.takeSeen (x : MA K H m p q b d s) (k : Nat) : MA K (upd H (d.l .seen) (.lst ((d.vl .seen).take k))) m p q b { d with vl := upL d.vl .seen ((d.vl .seen).take k) } { s with seen := s.seen.take k } := by
  have y := x.v.tp (x.tpL .seen ((d.vl .seen).take k))
  refine ⟨x.h.putL .seen _, y.rows, y.cells, y.dics, y.makers, y.roots, ?_, y.made, y.recs⟩
  show RpA _ ((d.vl .seen).take k) ((s.seen.take k).map ctD)
  rw [List.map_take]
  exact y.seen.take k
theorem MA.takeMade (x : MA K H m p q b d s) (k : Nat) : MA K (upd H (d.l .made) (.lst ((d.vl .made).take k))) m p q b { d with vl := upL d.vl .made ((d.vl .made).take k) } { s with made := s.made.take k } := by
  have y := x.v.tp (x.tpL .made ((d.vl .made).take k))
  refine ⟨x.h.putL .made _, y.rows, y.cells, y.dics, y.makers, y.roots, y.seen, ?_, y.recs⟩
  show RpA _ ((d.vl .made).take k) ((s.made.take k).map mdD)
  rw [List.map_take]
  exact y.made.take k
theorem MA.takeMakers (x : MA K H m p q b d s) (k : Nat) : MA K (upd H (d.l .makers) (.lst ((d.vl .makers).take k))) m p q b { d with vl := upL d.vl .makers ((d.vl .makers).take k) } { s with makers := s.makers.take k } := by
  have y := x.v.tp (x.tpL .makers ((d.vl .makers).take k))
  refine ⟨x.h.putL .makers _, y.rows, y.cells, y.dics, ?_, y.roots, y.seen, y.made, y.recs⟩
  show (d.vl .makers).take k = (s.makers.take k).map .int
  rw [List.map_take, y.makers]
theorem MA.takeRoots (x : MA K H m p q b d s) (k : Nat) : MA K (upd H (d.l .roots) (.lst ((d.vl .roots).take k))) m p q b { d with vl := upL d.vl .roots ((d.vl .roots).take k) } { s with roots := s.roots.take k } := by
  have y := x.v.tp (x.tpL .roots ((d.vl .roots).take k))
  refine ⟨x.h.putL .roots _, y.rows, y.cells, y.dics, y.makers, ?_, y.seen, y.made, y.recs⟩
  show (d.vl .roots).take k = (s.roots.take k).map .int
  rw [List.map_take, y.roots]
theorem MH.takeD (h : MH K H m p q b d) (k : Nat) : MH K H m p q b { d with ds := d.ds.take k } where
  ins := h.ins
  lst := h.lst
  inj := h.inj
  dic := fun e he => h.dic e (List.mem_of_mem_take he)
  dnd := by
    show ((d.ds.take k).map (·.1)).Nodup
    rw [List.map_take]
    exact (List.take_sublist _ _).nodup h.dnd
  chs := h.chs
  cnd := h.cnd
  cl := h.cl
theorem MH.initC (h : MH K H m p q b d) : MH K H m p q b { d with cs := d.cs.dropLast } where
  ins := h.ins
  lst := h.lst
  inj := h.inj
  dic := h.dic
  dnd := h.dnd
  chs := fun e he => h.chs e ((List.dropLast_sublist _).subset he)
  cnd := by
    show ((d.cs.dropLast).map (·.1)).Nodup
    exact ((List.dropLast_sublist _).map _).nodup h.cnd
  cl := fun e he f => h.cl e ((List.dropLast_sublist _).subset he) f
theorem MA.takeCells (x : MA K H m p q b d s) (k : Nat) : MA K (upd H (d.l .cells) (.lst ((d.vl .cells).take k))) m p q b { d with vl := upL d.vl .cells ((d.vl .cells).take k), ds := d.ds.take k } { s with cells := s.cells.take k } := by
  have y := x.v.tp (x.tpL .cells ((d.vl .cells).take k))
  refine ⟨(x.h.putL .cells _).takeD k, y.rows, ?_, y.dics.take k, y.makers, y.roots, y.seen, y.made, y.recs⟩
  show (d.vl .cells).take k = (d.ds.take k).map fun e => .ref e.1
  rw [List.map_take, y.cells]
theorem MA.cutRows (x : MA K H m p q b d s) (k : Nat) : ∃ H', H' = upd H (d.l .rows) (.lst ((d.vl .rows).take k)) ∧ ∃ d', MA K H' m p q b d' { s with rows := s.rows.take k } ∧ Ch m d H H' d' := ⟨_, rfl, _, x.takeRows k, x.chL .rows _⟩
theorem MA.cutSeen (x : MA K H m p q b d s) (k : Nat) : ∃ H', H' = upd H (d.l .seen) (.lst ((d.vl .seen).take k)) ∧ ∃ d', MA K H' m p q b d' { s with seen := s.seen.take k } ∧ Ch m d H H' d' := ⟨_, rfl, _, x.takeSeen k, x.chL .seen _⟩
theorem MA.cutMade (x : MA K H m p q b d s) (k : Nat) : ∃ H', H' = upd H (d.l .made) (.lst ((d.vl .made).take k)) ∧ ∃ d', MA K H' m p q b d' { s with made := s.made.take k } ∧ Ch m d H H' d' := ⟨_, rfl, _, x.takeMade k, x.chL .made _⟩
theorem MA.cutMakers (x : MA K H m p q b d s) (k : Nat) : ∃ H', H' = upd H (d.l .makers) (.lst ((d.vl .makers).take k)) ∧ ∃ d', MA K H' m p q b d' { s with makers := s.makers.take k } ∧ Ch m d H H' d' := ⟨_, rfl, _, x.takeMakers k, x.chL .makers _⟩
theorem MA.cutRoots (x : MA K H m p q b d s) (k : Nat) : ∃ H', H' = upd H (d.l .roots) (.lst ((d.vl .roots).take k)) ∧ ∃ d', MA K H' m p q b d' { s with roots := s.roots.take k } ∧ Ch m d H H' d' := ⟨_, rfl, _, x.takeRoots k, x.chL .roots _⟩
theorem MA.cutCells (x : MA K H m p q b d s) (k : Nat) : ∃ H', H' = upd H (d.l .cells) (.lst ((d.vl .cells).take k)) ∧ ∃ d', MA K H' m p q b d' { s with cells := s.cells.take k } ∧ Ch m d H H' d' := ⟨_, rfl, _, x.takeCells k, And.left (x.chL .cells ((d.vl .cells).take k) : Ch m d _ _ _), fun a h => by
  rcases h with h | ⟨g, h⟩ | h | h
  · exact .inl (.inl h)
  · exact .inl (.inr (.inl ⟨g, h⟩))
  · exact .inl (.inr (.inr (.inl (((List.take_sublist _ _).map _).subset h))))
  · exact .inl (.inr (.inr (.inr h)))⟩
/-- a content goes -/
theorem MA.dropBlk (x : MA K H m p q b d s) {i : Nat} {e : Addr × List (Key × V)} (he : d.ds[i]? = some e) (pl : Int) :
    MA K (upd H e.1 (.dK (dropK e.2 (.inl pl)))) m p q b { d with ds := d.ds.set i (e.1, dropK e.2 (.inl pl)) } { s with cells := s.cells.set i (gdrop (s.blk i) pl) } ∧
      Ch m d H (upd H e.1 (.dK (dropK e.2 (.inl pl)))) { d with ds := d.ds.set i (e.1, dropK e.2 (.inl pl)) } := by
  have hm := List.mem_of_getElem? he
  have t : Tp H (upd H e.1 (.dK (dropK e.2 (.inl pl)))) := tp_put (x.h.dic e hm) fun _ z => by cases z
  have y := x.v.tp t
  have he' : d.ds[i]? = some (e.1, e.2) := he
  refine ⟨⟨x.h.putD he' _, y.rows, ?_, ?_, y.makers, y.roots, y.seen, y.made, y.recs⟩, ?_⟩
  · show d.vl .cells = (d.ds.set i (e.1, dropK e.2 (.inl pl))).map fun e => .ref e.1
    rw [y.cells]
    have := set_fst (z := dropK e.2 (.inl pl)) he'
    have h2 := congrArg (List.map V.ref) this
    rw [List.map_map, List.map_map] at h2
    exact h2.symm
  · exact y.dics.set ((x.v.dics.at_ he).drop pl |>.tp t) i
  · exact Ch.put (.inr (.inr (.inl (List.mem_map.mpr ⟨e, hm, rfl⟩)))) (x.h.dic e hm) (fun _ z => by cases z) fun a h => (foot_ds he').mp h
/-- the last record is taken out -/
theorem MA.popRec (x : MA K H m p q b d s) {r : Rc} (hr : s.recs.getLast? = some r) : ∃ (a c : Addr) (ws : List V), (d.vl .recs)[(d.vl .recs).length - 1]? = some (.ref a) ∧ H a = some (.tup [.int r.rows, .int r.cells, .int r.seen, .int r.made, .ref c]) ∧ H c = some (.lst ws) ∧ RpA H ws (r.ch.map chD) ∧ (∀ f, c ≠ d.l f) ∧
    MA K (upd H (d.l .recs) (.lst (d.vl .recs).dropLast)) m p q b { d with vl := upL d.vl .recs (d.vl .recs).dropLast, cs := d.cs.dropLast } { s with recs := s.recs.dropLast } := by
  obtain ⟨vi, ci, a, c, e1, e2, e3, e4, e5, e6⟩ := x.v.recs.last hr
  have hmem : c ∈ d.cs := by rw [e2]; simp
  have y := x.v.tp (x.tpL .recs (d.vl .recs).dropLast)
  refine ⟨a, c.1, c.2, by rw [e1]; simp, e5, x.h.chs c hmem, e6, fun f => x.h.cl c hmem f, ((x.h.putL .recs _).initC), y.rows, y.cells, y.dics, y.makers, y.roots, y.seen, y.made, ?_⟩
  show RcA _ ((d.vl .recs).dropLast) (d.cs.dropLast) (s.recs.dropLast)
  have h1 : (d.vl .recs).dropLast = vi := by rw [e1]; simp
  have h2 : d.cs.dropLast = ci := by rw [e2]; simp
  have h3 := e4.tp (x.tpL .recs (d.vl .recs).dropLast)
  rw [h2]
  rw [h1] at h3 ⊢
  exact h3
end
/-- the changes can be taken back one by one -/
def BOk : List Dic → List Chg → Prop
  | _, [] => True
  | cs, x :: r => x.b < cs.length ∧ (cs.getD x.b []).length ≤ 900 ∧ (x.o = none → (gget (cs.getD x.b []) x.p).isSome = true) ∧ BOk (back1 cs x) r
theorem bok_at : ∀ {xs : List Chg} {cs : List Dic} {i : Nat} {x : Chg}, BOk cs xs → xs[i]? = some x → x.b < ((xs.take i).foldl back1 cs).length ∧ (((xs.take i).foldl back1 cs).getD x.b []).length ≤ 900 ∧ (x.o = none → (gget (((xs.take i).foldl back1 cs).getD x.b []) x.p).isSome = true)
  | [], _, i, _, _, h => by simp at h
  | y :: r, cs, 0, x, ⟨h1, h2, h3, _⟩, h => by
    have h : y = x := by simpa using h
    subst h
    exact ⟨h1, h2, h3⟩
  | y :: r, cs, i + 1, x, ⟨_, _, _, h4⟩, h => bok_at (i := i) h4 (by simpa using h)
theorem back1_len (cs : List Dic) (x : Chg) : (back1 cs x).length = cs.length := by
  unfold back1
  cases x.o <;> simp
theorem backs_len : ∀ (xs : List Chg) (cs : List Dic), (xs.foldl back1 cs).length = cs.length
  | [], _ => rfl
  | x :: r, cs => by rw [List.foldl_cons, backs_len r, back1_len]
section
variable {P : Program} {w : World} {K : Frg} {mg : Str → Option Value} {base : Heap}
def sp_M_back : Sp := fun vs H Q E => ∃ (m : Addr) (p q : V) (d : MD) (s : MS) (r : Rc), vs = [.ref m] ∧ MA K H m p q false d s ∧ s.recs.getLast? = some r ∧ BOk s.cells r.ch.reverse ∧ s.recs.length ≤ 900 ∧
  r.rows ≤ s.rows.length ∧ r.cells ≤ s.cells.length ∧ r.cells ≤ s.makers.length ∧ r.cells ≤ s.roots.length ∧ r.seen ≤ s.seen.length ∧ r.made ≤ s.made.length ∧
  ∀ H' d', MA K H' m p q false d' s.back → Ch m d H H' d' → Q .non H'
theorem ok_M_back (T : Txt K mg) : Ok P w K mg base CX0 2 ("Machine", some "back") P_M_back (sp_M_back (K := K)) := by
  refine Ok.of T.f_M_back sc_M_back (fun _ _ _ _ _ _ us hl => match us, hl with | [_], _ => rfl) (fun vs H Q E h => ?_) fun f cdv A outer s H vs Q E hr h => ?_
  · obtain ⟨m, p, q, d, s, r, rfl, _⟩ := h
    rfl
  · obtain ⟨m, p, q, d, s0, r, rfl, hm, hlr, hbk, hz, b1, b2, b3, b4, b5, b6, k⟩ := h
    have hi := hm.h.ins
    have l1 := hm.h.lst .recs
    refine ⟨_, PSs.nox (pss_cons (ps_expr (pm0 (ok_M_need_rest T) T.cl T.m_need_rest hr pass0 (pv 0)))
      (pss_cons (ps_if (pt_cmpR (op_eqE hr.units) (pe_fld (pv 0) rfl) (pe_lst pa_nil) (nomark _))
       (pss_one ps_never)
       pss_nil)
      (pss_cons (ps_asg (pe_bm0 PySem.F.plainAttrs_list PySem.F.slot_list_pop PySem.F.type_list_pop mt_pop (pe_fld (pv 0) rfl)) (pg_tup rfl (pgs_cons (pg_name (i := 1) sc_M_back.nd rfl (Or.inl rfl)) (pgs_cons (pg_name (i := 2) sc_M_back.nd rfl (Or.inl rfl)) (pgs_cons (pg_name (i := 3) sc_M_back.nd rfl (Or.inl rfl)) (pgs_cons (pg_name (i := 4) sc_M_back.nd rfl (Or.inl rfl)) (pgs_cons (pg_name (i := 5) sc_M_back.nd rfl (Or.inl rfl)) pgs_nil)))))))
      (pss_cons (ps_for PassesOwn.never rfl (RT.pi_revA rfl T.bi.reversed (pv 5)) (pg_tup rfl (pgs_cons (pg_name (i := 6) sc_M_back.nd rfl (Or.inl rfl)) (pgs_cons (pg_name (i := 7) sc_M_back.nd rfl (Or.inl rfl)) (pgs_cons (pg_name (i := 8) sc_M_back.nd rfl (Or.inl rfl)) pgs_nil))))
       (pss_one (ps_if (pt_cmpR op_isN (pv 8) pe_non (nomark _))
        (pss_one (ps_ddel (pe_ix ix_list (pe_fld (pv 0) rfl) (pv 6) (fun _ _ => rfl)) (pv 7)))
        (pss_one (ps_dput (hu_of hr) (pe_ix ix_list (pe_fld (pv 0) rfl) (pv 6) (fun _ _ => rfl)) (pv 7) (pv 8) rfl)))))
      (pss_cons (ps_del (pds_cons (pd_tail (pe_fld (pv 0) rfl) (pv 1)) (pds_cons (pd_tail (pe_fld (pv 0) rfl) (pv 3)) (pds_cons (pd_tail (pe_fld (pv 0) rfl) (pv 4)) pds_nil))))
      (pss_one (ps_del (pds_cons (pd_tail (pe_fld (pv 0) rfl) (pv 2)) (pds_cons (pd_tail (pe_fld (pv 0) rfl) (pv 2)) (pds_cons (pd_tail (pe_fld (pv 0) rfl) (pv 2)) pds_nil)))))))))), ?_⟩
    walk_at "gs"
    refine ⟨m, _, _, d, rfl, hm.h, ?_⟩
    walk_at "gs"
    refine ⟨szk (n := 0) (by decide), fun t ht => ?_⟩
    have sm := Same.new (o := .lst []) ht
    refine ⟨_, _, _, rfl, rfl, SqL.of (sm _ _ l1), SqL.of upd_same, _, rfl, ?_⟩
    have hne : (d.vl .recs).isEmpty = false := by
      have := hm.v.recs.lengths.1
      have h2 : s0.recs.length ≠ 0 := fun z => by
        rw [List.length_eq_zero_iff.mp z] at hlr
        cases hlr
      cases e : d.vl .recs with
      | nil => rw [e] at this; exact absurd this.symm h2
      | cons => rfl
    refine iteF_of hne ?_
    have m0 := hm.same sm
    obtain ⟨a, c, ws, g1, g2, g3, g4, g5, m1⟩ := m0.popRec hlr
    clear hi l1
    have hi := m0.h.ins
    have l1 := m0.h.lst .recs
    walk_at "gs"
    refine ⟨_, _, _, rfl, rfl, l1, g1, ?_⟩
    have c1 : Ch m d H (upd (upd H t (.lst [])) (d.l .recs) (.lst (d.vl .recs).dropLast)) { d with vl := upL d.vl .recs (d.vl .recs).dropLast, cs := d.cs.dropLast } := ⟨(Fr.of sm).trans (And.left (m0.chL .recs (d.vl .recs).dropLast : Ch m d _ _ _)) fun a h => .inl h, fun x hx => by
      rcases hx with h | ⟨g, h⟩ | h | h
      · exact .inl (.inl h)
      · exact .inl (.inr (.inl ⟨g, h⟩))
      · exact .inl (.inr (.inr (.inl h)))
      · exact .inl (.inr (.inr (.inr (((List.dropLast_sublist _).map _).subset h))))⟩
    have g2' := (m0.tpL .recs (d.vl .recs).dropLast) _ _ g2
    have g3' : upd (upd H t (.lst [])) (d.l .recs) (.lst (d.vl .recs).dropLast) c = some (.lst ws) := by rw [upd_ne (g5 .recs)]; exact g3
    have g4' := RpA.tp (m0.tpL .recs (d.vl .recs).dropLast) g4
    generalize upd (upd H t (.lst [])) (d.l .recs) (.lst (d.vl .recs).dropLast) = H1 at m1 c1 g2' g3' g4' ⊢
    generalize ({ d with vl := upL d.vl .recs (d.vl .recs).dropLast, cs := d.cs.dropLast } : MD) = d1 at m1 c1
    clear hi l1
    have hi := m1.h.ins
    walk_at "gs"
    obtain ⟨cs', hcs⟩ : ∃ f : Nat → List Dic, f = fun i => (r.ch.reverse.take i).foldl back1 s0.cells := ⟨_, rfl⟩
    have hwl : ws.length = r.ch.length := by rw [g4'.length, List.length_map]
    refine ⟨c, ws, rfl, .inl ⟨SqL.of g3', ?_⟩⟩
    refine RT.for_Itv (xs := ws) (fun i σ H' => ∃ d2 x6 x7 x8, σ = [some (.ref m), some (.int r.rows), some (.int r.cells), some (.int r.seen), some (.int r.made), some (.ref c), x6, x7, x8] ∧
      MA K H' m p q false d2 { s0 with recs := s0.recs.dropLast, cells := cs' i } ∧ Ch m d1 H1 H' d2 ∧ H' c = some (.lst ws)) ⟨d1, none, none, none, rfl, ?_, Ch.refl _ _ _, g3'⟩ (fun i σ H' pv => ?_) (fun i x σ H' hlt hx pv => ?_) fun σ H' pv => ?_
    · rw [hcs]
      exact m1
    · obtain ⟨d2, x6, x7, x8, _, _, _, h⟩ := pv
      exact SqL.of h
    · obtain ⟨d2, x6, x7, x8, rfl, m2, c2, hc⟩ := pv
      obtain ⟨dd, hdd, rx⟩ := g4'.getV hx
      obtain ⟨y, hy, rfl⟩ : ∃ y, r.ch[ws.length - 1 - i]? = some y ∧ chD y = dd := by simpa using hdd
      have hyr : r.ch.reverse[i]? = some y := by rw [List.getElem?_reverse (by omega), ← hwl]; exact hy
      obtain ⟨ta, us, rfl, hta, hus⟩ := rp_t.mp rx
      obtain ⟨v1, r1, rfl, hv1, hus⟩ := rpa_cons.mp hus
      obtain ⟨v2, r2, rfl, hv2, hus⟩ := rpa_cons.mp hus
      obtain ⟨v3, r3, rfl, hv3, hus⟩ := rpa_cons.mp hus
      obtain rfl := rpa_nil.mp hus
      obtain rfl := rp_i.mp hv1
      obtain rfl := rp_i.mp hv2
      have hta2 := c2.tp _ _ hta
      have hv3' := Rp.tp c2.tp hv3
      obtain ⟨q1, q2, q3⟩ := bok_at hbk hyr
      have hci : cs' i = (r.ch.reverse.take i).foldl back1 s0.cells := by rw [hcs]
      rw [← hci] at q1 q2 q3
      obtain ⟨e, he, hex, hed, hek⟩ := m2.dic (i := y.b) q1
      have hcn : cs' (i + 1) = back1 (cs' i) y := by
        rw [hcs]
        show (r.ch.reverse.take (i + 1)).foldl back1 s0.cells = _
        rw [List.take_succ, hyr]
        show (r.ch.reverse.take i ++ [y]).foldl back1 s0.cells = _
        rw [List.foldl_append] <;> rfl
      have hi2 := m2.h.ins
      have hl2 := m2.h.lst .cells
      have hce : c ≠ e.1 := ne_of hc hed lst_ne_dK
      cases ho : y.o with
      | none =>
        rw [ho] at hv3'
        obtain rfl := rp_n.mp hv3'
        obtain ⟨m3, c3⟩ := m2.dropBlk he y.p
        walk_at "gs"
        refine ⟨_, _, .inl y.p, rfl, hed, rfl, ?_, _, _, _, _, rfl, ?_, c2.trans c3, by rw [upd_ne hce]; exact hc⟩
        · have z := hek.get y.p
          obtain ⟨o, ho2⟩ := Option.isSome_iff_exists.mp (q3 ho)
          have ho2 : gget (MS.blk { s0 with recs := s0.recs.dropLast, cells := cs' i } y.b) y.p = some o := ho2
          rw [ho2] at z
          obtain ⟨v, hv, _⟩ := z
          rw [hv] <;> rfl
        · rw [hcn]
          unfold back1
          rw [ho]
          exact m3
      | some o =>
        rw [ho] at hv3'
        obtain ⟨oa, rfl, hoa⟩ := (rp_ct o).mp hv3'
        obtain ⟨m3, c3, _⟩ := m2.putBlk he y.p hv3'
        walk_at "gs"
        refine ⟨_, _, rfl, .inl ⟨_, .inl y.p, hed, rfl, lt_line (by rw [hek.length]; exact Nat.le_trans q2 (by decide)), rfl⟩, _, _, _, _, rfl, ?_, c2.trans c3, by rw [upd_ne hce]; exact hc⟩
        rw [hcn]
        unfold back1
        rw [ho]
        exact m3
    · obtain ⟨d2, x6, x7, x8, rfl, m2, c2, hc⟩ := pv
      have hfin : cs' ws.length = r.ch.reverse.foldl back1 s0.cells := by
        rw [hcs]
        show (r.ch.reverse.take ws.length).foldl back1 s0.cells = _
        rw [List.take_of_length_le (by rw [List.length_reverse]; omega)]
      have hcl : (cs' ws.length).length = s0.cells.length := by rw [hfin, backs_len]
      have hi2 := m2.h.ins
      have hl2 := m2.h.lst .rows
      walk_at "gs"
      refine ⟨by rw [m2.rowsLen]; exact b1, ?_⟩
      obtain ⟨H3, e3, d3, m3, c3⟩ := m2.cutRows r.rows
      rw [← e3]
      have hi3 := m3.h.ins
      have hl3 := m3.h.lst .seen
      walk_at "gs"
      refine ⟨by rw [m3.v.seen.length, List.length_map]; exact b5, ?_⟩
      obtain ⟨H4, e4, d4, m4, c4⟩ := m3.cutSeen r.seen
      rw [← e4]
      have hi4 := m4.h.ins
      have hl4 := m4.h.lst .made
      walk_at "gs"
      refine ⟨by rw [m4.v.made.length, List.length_map]; exact b6, ?_⟩
      obtain ⟨H5, e5, d5, m5, c5⟩ := m4.cutMade r.made
      rw [← e5]
      have hi5 := m5.h.ins
      have hl5 := m5.h.lst .cells
      walk_at "gs"
      refine ⟨by rw [m5.v.cells, List.length_map, m5.v.dics.length]; show _ ≤ (cs' ws.length).length; rw [hcl]; exact b2, ?_⟩
      obtain ⟨H6, e6, d6, m6, c6⟩ := m5.cutCells r.cells
      rw [← e6]
      have hi6 := m6.h.ins
      have hl6 := m6.h.lst .makers
      walk_at "gs"
      refine ⟨by rw [m6.v.makers, List.length_map]; exact b3, ?_⟩
      obtain ⟨H7, e7, d7, m7, c7⟩ := m6.cutMakers r.cells
      rw [← e7]
      have hi7 := m7.h.ins
      have hl7 := m7.h.lst .roots
      walk_at "gs"
      refine ⟨by rw [m7.v.roots, List.length_map]; exact b4, ?_⟩
      obtain ⟨H8, e8, d8, m8, c8⟩ := m7.cutRoots r.cells
      rw [← e8]
      refine k H8 d8 ?_ (c1.trans (c2.trans (c3.trans (c4.trans (c5.trans (c6.trans (c7.trans c8)))))))
      unfold MS.back
      rw [hlr]
      show MA K H8 m p q false d8 ⟨s0.rows.take r.rows, (r.ch.reverse.foldl back1 s0.cells).take r.cells, s0.makers.take r.cells, s0.roots.take r.cells, s0.seen.take r.seen, s0.made.take r.made, s0.recs.dropLast⟩
      rw [← hfin]
      exact m8
end
end GB
set_option maxHeartbeats 4000000
/-! GKw: defs with keyword-only parameters, all of them written. -/
namespace GB
open PySem PySem.Spec PyProof.Rows L2
def OkK (P : Program) (w : World) (K : Frg) (mg : Str → Option Value) (base : Heap) (CX : CXT) (k : Nat) (at_ : Str × Option Str) (ps : List Str) (n : Nat) (ks : List Str) (sp : Sp) : Prop :=
  ∃ fd, KBn K fd ps n ks (fun us ws => us ++ ws) (fun vs zs => vs ++ zs) ∧ FnOk P w K mg base CX k (He.fAd K at_) fd ps sp
theorem OkK.of {P : Program} {w : World} {K : Frg} {mg : Str → Option Value} {base : Heap} {CX : CXT} {k : Nat} {x qual : Str} {params : Arguments} {body : List Stmt} {scope : Scope} {at_ : Str × Option Str} {N ps : List Str} {n : Nat} {ks : List Str} {sp : Sp}
    (F : ∃ fd, FunD K x qual params body scope [] [] (He.fAd K at_) fd) (S : FnScope N ps scope)
    (hb : ∀ (kV doc pm : Value) (an : Option Addr) (cdv ct : Value) (us ws : List Value), us.length = n → ws.length = ks.length → bindArgs (PySem.W.fnOf x qual params body scope .none kV doc pm an cdv ct) ⟨us, ks.zip ws⟩ = pure (ps.zip (us ++ ws)))
    (len : ∀ vs H Q E, sp vs H Q E → vs.length = ps.length)
    (hbody : ∀ (f : Addr) (cdv : Value) (A : Around) (outer : List Env) (s : Shared) (H : Hp) (vs : List V) (Q : VK) (E : XK), Room k (A.deeper (envOfC qual scope s.heap.objs.size f cdv)) → sp vs H Q E →
      ∃ t, PSs (cxOf CX P w K mg base N qual scope f cdv A outer s H E) body t ∧ t { nx := fun _ H' => Q .non H', rt := Q } (start N vs) H) : OkK P w K mg base CX (k + 1) at_ ps n ks sp := by
  obtain ⟨fd, F⟩ := F
  refine ⟨fd, ?_, F.ok S len fun cdv A outer s H vs Q E hr h => hbody _ cdv A outer s H vs Q E hr h⟩
  obtain ⟨oc, od, dV, kV, doc, pm, an, cdv, ct, osl, rfl, lk, hcd, hD, hK⟩ := F.ex
  rcases hD with ⟨_, rfl⟩ | ⟨e, _⟩
  · exact ⟨fun s us ws X l1 l2 => BindsTo.of_eq (hb kV doc pm an cdv ct us ws l1 l2), fun r1 r2 => r1.append r2⟩
  · exact absurd rfl e
section
variable {X : Cx} {CX : CXT} {j k n : Nat} {ps ks : List Str} {sp : Sp} {E : XK} {m : Str} {p pos apos : Pos} {e o : Expr} {es : List Expr} {kws : List Keyword} {ta : TE} {t tk : TA}
/-- Machine(e, k = v) -/
theorem pmkK (O : OkK X.prog X.w X.K X.mg X.base CX k ("Machine", some "__init__") ps (n + 1) ks sp) (G : Gf X.K X.mg "Machine") (M : Mk X.K (CM X.K) (He.ma X.K (CM X.K) "__init__")) (hr : Room (k + 1) X.A) (hg : Gl X "Machine") (hx : Passes CX X E) (ha : PA X (e :: es) t) (hkw : PK X kws tk)
    (hall : (backToKw pos (keywordEach kws X.env)).all (·.1.isSome) = true := by rfl) (hks : (backToKw pos (keywordEach kws X.env)).filterMap (·.1) = ks := by rfl) 
    (he : starEach (e :: es) X.env = (false, eval e X.env) :: starEach es X.env := by rfl) (hpl : ((backTo pos (starEach (e :: es) X.env)).any (·.1) || (backToKw pos (keywordEach kws X.env)).any (·.1.isNone)) = false := by rfl) :
    PE X (.Call (.Name "Machine" p) (e :: es) kws pos) (tMakeK (CM X.K) n ks.length sp (fun vs zs => vs ++ zs) E t tk) := by
  obtain ⟨fd, b, f⟩ := O
  exact pe_makeK M f hr hg G.g b hx ha hkw hall hks (by decide) he hpl
end
end GB
set_option maxHeartbeats 4000000
/-! GM8: reads told, a machine made. -/
namespace GB
open PySem PySem.Spec PyProof.Rows L2
local macro_rules | `(tactic| walk_at "g") => `(tactic| first
  | refine ⟨_, rfl, ?_⟩
  | refine ⟨_, _, rfl, rfl, ?_⟩
  | refine ⟨_, _, _, _, rfl, rfl, SqT.of (by assumption), by rfl, ?_⟩
  | refine ⟨_, _, _, _, rfl, rfl, SqL.of (by assumption), by rfl, ?_⟩
  | refine ⟨_, _, _, _, rfl, rfl, SqL.of (by assumption), atI_nat (by assumption), ?_⟩
  | refine ⟨rfl, ⟨rfl, by decide⟩, ?_⟩
  | refine ⟨_, _, _, _, _, rfl, .ty _, .base (.tup (by assumption)), kt_tup, ?_⟩
  | refine ⟨_, _, _, _, _, rfl, .ty _, .base (.str _), kt_str, ?_⟩
  | refine ⟨_, _, rfl, .inr (SqT.of (by assumption)), ?_⟩
  | refine ⟨_, _, rfl, .inl (SqL.of (by assumption)), ?_⟩
  | refine iteT_of (by first | decide +kernel | rfl) ?_
  | refine iteF_of (by first | decide +kernel | rfl) ?_
  | refine iteT_of (btw_t (by omega)) ?_
  | refine iteF_of (by rw [btw_t (by omega)]; rfl) ?_
  | refine ⟨_, _, rfl, rfl, by assumption, ?_⟩
  | refine ⟨_, _, _, rfl, rfl, by assumption, ?_⟩
  | refine ⟨_, _, _, _, _, rfl, by assumption, Txt.cl (by assumption), by first | exact Txt.no_kept_program (by assumption) | exact Txt.no_kept_policy (by assumption) | exact Txt.no_rows (by assumption) | exact Txt.no_cells (by assumption) | exact Txt.no_makers (by assumption) | exact Txt.no_roots (by assumption) | exact Txt.no_seen (by assumption) | exact Txt.no_made (by assumption) | exact Txt.no_records (by assumption) | exact Txt.no_busy (by assumption), by rfl, ?_⟩
  | refine ⟨_, _, _, rfl, by assumption, by rfl, ?_⟩
  | refine ⟨_, _, _, rfl, ?_⟩
  | refine ⟨_, _, rfl, SqT.of (by assumption), by rfl, ?_⟩
  | refine ⟨_, _, rfl, ?_⟩
  | refine ⟨.inl (by decide), ?_⟩
  | refine ⟨.inl ⟨rfl, _, SqL.of (by assumption)⟩, ?_⟩
  | refine ⟨rfl, ?_⟩)
local macro_rules | `(tactic| walk_at "gs") => `(tactic| repeat walk_at "g")
local macro_rules | `(tactic| walk_at "b") => `(tactic| (first | decide +kernel | (simp only [decide_eq_true_eq, decide_eq_false_iff_not, List.length_map, V.int.injEq, Bool.not_eq_true', Bool.not_eq_false']; omega)))
section
variable {P : Program} {w : World} {K : Frg} {mg : Str → Option Value} {base : Heap}
def sp_M_read_values : Sp := fun vs H Q E => ∃ (m : Addr) (p q : V) (b : Bool) (d : MD) (s : MS), vs = [.ref m] ∧ MA K H m p q b d s ∧ s.seen.length ≤ 900 ∧ ∀ l H', Same H H' → H l = none → H' l = some (.lst (s.seen.map fun c => .int c.2)) → Q (.ref l) H'
theorem ok_M_read_values (T : Txt K mg) : Ok P w K mg base CX0 1 ("Machine", some "read_values") P_M_read_values (sp_M_read_values (K := K)) := by
  refine Ok.of T.f_M_read_values sc_M_read_values (fun _ _ _ _ _ _ us hl => match us, hl with | [_], _ => rfl) (fun vs H Q E h => ?_) fun f cdv A outer s H vs Q E hr h => ?_
  · obtain ⟨m, p, q, b, d, s, rfl, _⟩ := h
    rfl
  · obtain ⟨m, p, q, b, d, s0, rfl, hm, hz, k⟩ := h
    have hi := hm.h.ins
    have hl := hm.h.lst .seen
    refine ⟨_, PSs.nox (pss_one (ps_ret (pe_lc (own := [("origin", 1), ("value", 2)]) rfl sc_M_read_values.nd (pi_list (pe_fld (pv 0) rfl)) (blkOk_by rfl) (fun _ _ _ _ _ => (pg_tupK (K := K) (n := 2) rfl rfl (pgs_cons (pg_name (i := 1) sc_M_read_values.nd rfl (Or.inl rfl) (.inr rfl)) (pgs_cons (pg_name (i := 2) sc_M_read_values.nd rfl (Or.inl rfl) (.inr rfl)) pgs_nil)) rfl rfl)) (fun _ _ _ _ _ => pts_nil) (fun _ _ _ _ _ => (pv 2))))), ?_⟩
    walk_at "gs"
    refine ⟨⟨_, SqL.of hl⟩, fun D hD => ?_⟩
    have hlen : (d.vl .seen).length = s0.seen.length := by rw [hm.v.seen.length, List.length_map]
    refine lc_list (xs := d.vl .seen) (fun i H' => Same H H' ∧ H' D = some (.lst ((s0.seen.take i).map fun c => .int c.2))) ⟨Same.new hD, upd_same⟩ (fun i H' _ pv => SqL.of (pv.1 _ _ hl)) (fun i x H' hx pv => ?_) fun H' pv => ?_
    · obtain ⟨sm, hDD⟩ := pv
      obtain ⟨dd, hdd, rx⟩ := hm.v.seen.getV hx
      obtain ⟨c, hc, rfl⟩ : ∃ c, s0.seen[i]? = some c ∧ ctD c = dd := by simpa using hdd
      obtain ⟨ta, rfl, hta⟩ := (rp_ct c).mp rx
      have hta2 := sm _ _ hta
      walk_at "gs"
      refine ⟨_, hDD, lt_line ?_, fun a o h => ?_, ?_⟩
      · rw [List.length_map, List.length_take]; omega
      · rw [upd_ne (ne_of_none h hD)]; exact sm _ _ h
      · rw [upd_same, List.take_succ, hc, List.map_append] <;> rfl
    · obtain ⟨sm, hDD⟩ := pv
      rw [hlen, List.take_length] at hDD
      exact k D H' sm hD hDD
def sp_M_origins : Sp := fun vs H Q E => ∃ (m : Addr) (p q : V) (b : Bool) (d : MD) (s : MS), vs = [.ref m] ∧ MA K H m p q b d s ∧ s.seen.length ≤ 900 ∧ ∀ l H', Same H H' → H l = none → H' l = some (.lst (s.seen.map fun c => .int c.1)) → Q (.ref l) H'
theorem ok_M_origins (T : Txt K mg) : Ok P w K mg base CX0 1 ("Machine", some "origins") P_M_origins (sp_M_origins (K := K)) := by
  refine Ok.of T.f_M_origins sc_M_origins (fun _ _ _ _ _ _ us hl => match us, hl with | [_], _ => rfl) (fun vs H Q E h => ?_) fun f cdv A outer s H vs Q E hr h => ?_
  · obtain ⟨m, p, q, b, d, s, rfl, _⟩ := h
    rfl
  · obtain ⟨m, p, q, b, d, s0, rfl, hm, hz, k⟩ := h
    have hi := hm.h.ins
    have hl := hm.h.lst .seen
    refine ⟨_, PSs.nox (pss_one (ps_ret (pe_lc (own := [("origin", 1), ("value", 2)]) rfl sc_M_origins.nd (pi_list (pe_fld (pv 0) rfl)) (blkOk_by rfl) (fun _ _ _ _ _ => (pg_tupK (K := K) (n := 2) rfl rfl (pgs_cons (pg_name (i := 1) sc_M_origins.nd rfl (Or.inl rfl) (.inr rfl)) (pgs_cons (pg_name (i := 2) sc_M_origins.nd rfl (Or.inl rfl) (.inr rfl)) pgs_nil)) rfl rfl)) (fun _ _ _ _ _ => pts_nil) (fun _ _ _ _ _ => (pv 1))))), ?_⟩
    walk_at "gs"
    refine ⟨⟨_, SqL.of hl⟩, fun D hD => ?_⟩
    have hlen : (d.vl .seen).length = s0.seen.length := by rw [hm.v.seen.length, List.length_map]
    refine lc_list (xs := d.vl .seen) (fun i H' => Same H H' ∧ H' D = some (.lst ((s0.seen.take i).map fun c => .int c.1))) ⟨Same.new hD, upd_same⟩ (fun i H' _ pv => SqL.of (pv.1 _ _ hl)) (fun i x H' hx pv => ?_) fun H' pv => ?_
    · obtain ⟨sm, hDD⟩ := pv
      obtain ⟨dd, hdd, rx⟩ := hm.v.seen.getV hx
      obtain ⟨c, hc, rfl⟩ : ∃ c, s0.seen[i]? = some c ∧ ctD c = dd := by simpa using hdd
      obtain ⟨ta, rfl, hta⟩ := (rp_ct c).mp rx
      have hta2 := sm _ _ hta
      walk_at "gs"
      refine ⟨_, hDD, lt_line ?_, fun a o h => ?_, ?_⟩
      · rw [List.length_map, List.length_take]; omega
      · rw [upd_ne (ne_of_none h hD)]; exact sm _ _ h
      · rw [upd_same, List.take_succ, hc, List.map_append] <;> rfl
    · obtain ⟨sm, hDD⟩ := pv
      rw [hlen, List.take_length] at hDD
      exact k D H' sm hD hDD
def sp_M_allocations : Sp := fun vs H Q E => ∃ (m : Addr) (p q : V) (b : Bool) (d : MD) (s : MS), vs = [.ref m] ∧ MA K H m p q b d s ∧ ∀ l H' xs, Same H H' → H l = none → H' l = some (.lst xs) → RpA H' xs (s.made.map mdD) → Q (.ref l) H'
theorem ok_M_allocations (T : Txt K mg) : Ok P w K mg base CX0 1 ("Machine", some "allocations") P_M_allocations (sp_M_allocations (K := K)) := by
  refine Ok.of T.f_M_allocations sc_M_allocations (fun _ _ _ _ _ _ us hl => match us, hl with | [_], _ => rfl) (fun vs H Q E h => ?_) fun f cdv A outer s H vs Q E hr h => ?_
  · obtain ⟨m, p, q, b, d, s, rfl, _⟩ := h
    rfl
  · obtain ⟨m, p, q, b, d, s0, rfl, hm, k⟩ := h
    have hi := hm.h.ins
    have hl := hm.h.lst .made
    refine ⟨_, PSs.nox (pss_one (ps_ret (pe_callTy call_list_of rfl T.bi.list (by decide +kernel) (pa_cons (pe_fld (pv 0) rfl) pa_nil)))), ?_⟩
    walk_at "gs"
    refine fun t ht => ?_
    have sm := Same.new (o := .lst (d.vl .made)) ht
    exact k t _ _ sm ht upd_same (RpA.tp (Same.tp sm) hm.v.made)
theorem plt {f : Str} {v : V} {n : Nat} : ∀ {fs : List (Str × V)}, fs.length < n → (putF f v fs).length < n + 1
  | [], h => Nat.succ_lt_succ h
  | (g, x) :: r, h => by
    unfold putF
    split
    · exact Nat.lt_succ_of_lt h
    · cases n with
      | zero => exact absurd h (Nat.not_lt_zero _)
      | succ n => exact Nat.succ_lt_succ (plt (fs := r) (Nat.lt_of_succ_lt_succ h))
/-- a machine in the making -/
structure Mkg (K : Frg) (H0 H : Hp) (m dx : Addr) (fs : List (Str × V)) (ls : List Addr) : Prop where
  ins : H m = some (.ins (CM K) dx fs)
  lst : ∀ l ∈ ls, H l = some (.lst []) ∧ H0 l = none
  nd : ls.Nodup
  fr : Fr (fun a => a = m) H0 H
  hm : H0 m ≠ none
theorem Mkg.setF {H0 H : Hp} {m dx : Addr} {fs : List (Str × V)} {ls : List Addr} (x : Mkg K H0 H m dx fs ls) (fs' : List (Str × V)) : Mkg K H0 (upd H m (.ins (CM K) dx fs')) m dx fs' ls where
  ins := upd_same
  lst := fun l hl => ⟨by rw [upd_ne (ne_of (x.lst l hl).1 x.ins lst_ne_ins)]; exact (x.lst l hl).1, (x.lst l hl).2⟩
  nd := x.nd
  fr := x.fr.trans (W' := fun a => a = m) (Fr.put rfl x.ins (fun _ z => (by cases z))) fun a h => .inl h
  hm := x.hm
theorem Mkg.newL {H0 H : Hp} {m dx : Addr} {fs : List (Str × V)} {ls : List Addr} (x : Mkg K H0 H m dx fs ls) {l : Addr} (hl : H l = none) : Mkg K H0 (upd H l (.lst [])) m dx fs (l :: ls) where
  ins := by rw [upd_ne (ne_of_none x.ins hl)]; exact x.ins
  lst := fun k hk => by
    rcases List.mem_cons.mp hk with rfl | hk
    · refine ⟨upd_same, ?_⟩
      cases e : H0 k with
      | none => rfl
      | some o =>
        have := x.fr.at_ e (fun z => by rw [z, x.ins] at hl; cases hl)
        rw [hl] at this
        cases this
    · rw [upd_ne (ne_of_none (x.lst k hk).1 hl)]
      exact x.lst k hk
  nd := List.nodup_cons.mpr ⟨fun h => (by rw [(x.lst l h).1] at hl; cases hl), x.nd⟩
  fr := x.fr.trans (W' := fun a => a = m) (Fr.new hl) fun a h => .inl h
  hm := x.hm
def lOf (l1 l2 l3 l4 l5 l6 l7 : Addr) : Fl → Addr
  | .rows => l1 | .cells => l2 | .makers => l3 | .roots => l4 | .seen => l5 | .made => l6 | .recs => l7
theorem Mkg.ma {H0 H : Hp} {m dx : Addr} {l1 l2 l3 l4 l5 l6 l7 : Addr} {p q : V} (x : Mkg K H0 H m dx (mfs p q (lOf l1 l2 l3 l4 l5 l6 l7) false) [l7, l6, l5, l4, l3, l2, l1]) :
    MA K H m p q false ⟨dx, lOf l1 l2 l3 l4 l5 l6 l7, fun _ => [], [], []⟩ MS.zero ∧ ∀ a, foot m ⟨dx, lOf l1 l2 l3 l4 l5 l6 l7, fun _ => [], [], []⟩ a → a = m ∨ H0 a = none := by
  refine ⟨⟨⟨x.ins, fun f => ?_, fun f g e => ?_, fun e he => (by cases he), List.nodup_nil, fun e he => (by cases he), List.nodup_nil, fun e he => (by cases he)⟩, RpA.nil, rfl, trivial, rfl, rfl, RpA.nil, RpA.nil, trivial⟩, fun a h => ?_⟩
  · cases f <;> exact (x.lst _ (by simp [lOf])).1
  · have nd := x.nd
    simp only [List.nodup_cons, List.mem_cons, List.not_mem_nil, or_false, not_or] at nd
    cases f <;> cases g <;> first | rfl | (exfalso; simp only [lOf] at e; simp_all)
  · rcases h with h | ⟨f, h⟩ | h | h
    · exact .inl h
    · right
      rw [h]
      cases f <;> exact (x.lst _ (by simp [lOf])).2
    · cases h
    · cases h
def sp_M_init : Sp := fun vs H Q E => ∃ (m pa qa dx : Addr) (prog : List Stm) (pol : Pol), vs = [.ref m, .ref pa, .ref qa] ∧ H m = some (.ins (CM K) dx []) ∧ PrV pa H prog ∧ ValP prog ∧ prog.length ≤ 60 ∧ poV qa H pol ∧ ValQ pol ∧
  ∀ H' d', MA K H' m (.ref pa) (.ref qa) false d' MS.zero → Fr (fun a => a = m) H H' → (∀ x, foot m d' x → x = m ∨ H x = none) → Q .non H'
theorem ok_M_init (T : Txt K mg) (Z : Siz K w) : OkK P w K mg base CX0 8 ("Machine", some "__init__") P_M_init 2 ["policy"] (sp_M_init (K := K)) := by
  refine OkK.of T.f_M_init sc_M_init (fun _ _ _ _ _ _ us ws hl hl2 => match us, hl, ws, hl2 with | [_, _], _, [_], _ => rfl) (fun vs H Q E h => ?_) fun f cdv A outer s H vs Q E hr h => ?_
  · obtain ⟨m, pa, qa, dx, prog, pol, rfl, _⟩ := h
    rfl
  · obtain ⟨m, pa, qa, dx, prog, pol, rfl, hm, hp, hv, h60, hpo, hvq, k⟩ := h
    refine ⟨_, PSs.nox (pss_cons (ps_expr (pf (ok_need_program T Z) T.g_need_program hr rfl pass0 (pa_cons (pv 1) pa_nil)))
      (pss_cons (ps_expr (pf (ok_need_policy T) T.g_need_policy hr rfl pass0 (pa_cons (pv 2) pa_nil)))
      (pss_cons (ps_fld (pv 0) (pv 1) rfl)
      (pss_cons (ps_fld (pv 0) (pv 2) rfl)
      (pss_cons (ps_fld (pv 0) (pe_lst pa_nil) rfl)
      (pss_cons (ps_fld (pv 0) (pe_lst pa_nil) rfl)
      (pss_cons (ps_fld (pv 0) (pe_lst pa_nil) rfl)
      (pss_cons (ps_fld (pv 0) (pe_lst pa_nil) rfl)
      (pss_cons (ps_fld (pv 0) (pe_lst pa_nil) rfl)
      (pss_cons (ps_fld (pv 0) (pe_lst pa_nil) rfl)
      (pss_cons (ps_fld (pv 0) (pe_lst pa_nil) rfl)
      (pss_one (ps_fld (pv 0) pe_bl rfl))))))))))))), ?_⟩
    walk_at "gs"
    refine ⟨pa, prog, rfl, hp, hv, h60, fun H1 sm1 => ?_⟩
    walk_at "gs"
    refine ⟨qa, pol, rfl, hpo.tp (Same.tp sm1), hvq, fun H2 sm2 => ?_⟩
    have sm := Same.trans sm1 sm2
    have hm2 := sm _ _ hm
    walk_at "gs"
    refine ⟨_, _, _, _, rfl, hm2, T.cl, T.no_kept_program, by decide, ?_⟩
    have x0 : Mkg K H H2 m dx [] [] := ⟨hm2, fun _ h => (by cases h), List.nodup_nil, Fr.of sm, by rw [hm]; simp⟩
    have x := x0.setF (putF "kept_program" (.ref pa) [])
    have hi := x.ins
    walk_at "gs"
    refine ⟨_, _, _, _, rfl, x.ins, T.cl, T.no_kept_policy, by (repeat refine plt ?_); exact (Nat.succ_pos _), ?_⟩
    have x := x.setF (putF "kept_policy" (.ref qa) (putF "kept_program" (.ref pa) []))
    clear hi
    walk_at "gs"
    refine ⟨szk (n := 0) (by decide), fun l1 h1 => ?_⟩
    have x := x.newL h1
    have hi := x.ins
    walk_at "gs"
    refine ⟨_, _, _, _, rfl, hi, T.cl, T.no_rows, by (repeat refine plt ?_); exact (Nat.succ_pos _), ?_⟩
    have x := x.setF (putF "rows" (.ref l1) (putF "kept_policy" (.ref qa) (putF "kept_program" (.ref pa) [])))
    clear hi
    walk_at "gs"
    refine ⟨szk (n := 0) (by decide), fun l2 h2 => ?_⟩
    have x := x.newL h2
    have hi := x.ins
    walk_at "gs"
    refine ⟨_, _, _, _, rfl, hi, T.cl, T.no_cells, by (repeat refine plt ?_); exact (Nat.succ_pos _), ?_⟩
    have x := x.setF (putF "cells" (.ref l2) (putF "rows" (.ref l1) (putF "kept_policy" (.ref qa) (putF "kept_program" (.ref pa) []))))
    clear hi
    walk_at "gs"
    refine ⟨szk (n := 0) (by decide), fun l3 h3 => ?_⟩
    have x := x.newL h3
    have hi := x.ins
    walk_at "gs"
    refine ⟨_, _, _, _, rfl, hi, T.cl, T.no_makers, by (repeat refine plt ?_); exact (Nat.succ_pos _), ?_⟩
    have x := x.setF (putF "makers" (.ref l3) (putF "cells" (.ref l2) (putF "rows" (.ref l1) (putF "kept_policy" (.ref qa) (putF "kept_program" (.ref pa) [])))))
    clear hi
    walk_at "gs"
    refine ⟨szk (n := 0) (by decide), fun l4 h4 => ?_⟩
    have x := x.newL h4
    have hi := x.ins
    walk_at "gs"
    refine ⟨_, _, _, _, rfl, hi, T.cl, T.no_roots, by (repeat refine plt ?_); exact (Nat.succ_pos _), ?_⟩
    have x := x.setF (putF "roots" (.ref l4) (putF "makers" (.ref l3) (putF "cells" (.ref l2) (putF "rows" (.ref l1) (putF "kept_policy" (.ref qa) (putF "kept_program" (.ref pa) []))))))
    clear hi
    walk_at "gs"
    refine ⟨szk (n := 0) (by decide), fun l5 h5 => ?_⟩
    have x := x.newL h5
    have hi := x.ins
    walk_at "gs"
    refine ⟨_, _, _, _, rfl, hi, T.cl, T.no_seen, by (repeat refine plt ?_); exact (Nat.succ_pos _), ?_⟩
    have x := x.setF (putF "seen" (.ref l5) (putF "roots" (.ref l4) (putF "makers" (.ref l3) (putF "cells" (.ref l2) (putF "rows" (.ref l1) (putF "kept_policy" (.ref qa) (putF "kept_program" (.ref pa) [])))))))
    clear hi
    walk_at "gs"
    refine ⟨szk (n := 0) (by decide), fun l6 h6 => ?_⟩
    have x := x.newL h6
    have hi := x.ins
    walk_at "gs"
    refine ⟨_, _, _, _, rfl, hi, T.cl, T.no_made, by (repeat refine plt ?_); exact (Nat.succ_pos _), ?_⟩
    have x := x.setF (putF "made" (.ref l6) (putF "seen" (.ref l5) (putF "roots" (.ref l4) (putF "makers" (.ref l3) (putF "cells" (.ref l2) (putF "rows" (.ref l1) (putF "kept_policy" (.ref qa) (putF "kept_program" (.ref pa) []))))))))
    clear hi
    walk_at "gs"
    refine ⟨szk (n := 0) (by decide), fun l7 h7 => ?_⟩
    have x := x.newL h7
    have hi := x.ins
    walk_at "gs"
    refine ⟨_, _, _, _, rfl, hi, T.cl, T.no_records, by (repeat refine plt ?_); exact (Nat.succ_pos _), ?_⟩
    have x := x.setF (putF "records" (.ref l7) (putF "made" (.ref l6) (putF "seen" (.ref l5) (putF "roots" (.ref l4) (putF "makers" (.ref l3) (putF "cells" (.ref l2) (putF "rows" (.ref l1) (putF "kept_policy" (.ref qa) (putF "kept_program" (.ref pa) [])))))))))
    clear hi
    walk_at "gs"
    refine ⟨_, _, _, _, rfl, x.ins, T.cl, T.no_busy, by (repeat refine plt ?_); exact (Nat.succ_pos _), ?_⟩
    have x := x.setF (mfs (.ref pa) (.ref qa) (lOf l1 l2 l3 l4 l5 l6 l7) false)
    obtain ⟨y1, y2⟩ := x.ma
    exact k _ _ y1 x.fr y2
end
end GB
set_option maxHeartbeats 4000000
/-! GM9: a machine made by call, its twin. -/
namespace GB
open PySem PySem.Spec PyProof.Rows L2
local macro_rules | `(tactic| walk_at "g") => `(tactic| first
  | refine ⟨_, rfl, ?_⟩
  | refine ⟨_, _, rfl, rfl, ?_⟩
  | refine ⟨_, _, _, _, rfl, rfl, SqT.of (by assumption), by rfl, ?_⟩
  | refine ⟨_, _, _, _, rfl, rfl, SqL.of (by assumption), by rfl, ?_⟩
  | refine ⟨_, _, _, _, rfl, rfl, SqL.of (by assumption), atI_nat (by assumption), ?_⟩
  | refine ⟨rfl, ⟨rfl, by decide⟩, ?_⟩
  | refine ⟨_, _, _, _, _, rfl, .ty _, .base (.tup (by assumption)), kt_tup, ?_⟩
  | refine ⟨_, _, _, _, _, rfl, .ty _, .base (.str _), kt_str, ?_⟩
  | refine ⟨_, _, rfl, .inr (SqT.of (by assumption)), ?_⟩
  | refine ⟨_, _, rfl, .inl (SqL.of (by assumption)), ?_⟩
  | refine iteT_of (by first | decide +kernel | rfl) ?_
  | refine iteF_of (by first | decide +kernel | rfl) ?_
  | refine iteT_of (btw_t (by omega)) ?_
  | refine iteF_of (by rw [btw_t (by omega)]; rfl) ?_
  | refine ⟨_, _, rfl, rfl, by assumption, ?_⟩
  | refine ⟨_, _, _, rfl, rfl, by assumption, ?_⟩
  | refine ⟨_, _, _, _, _, rfl, by assumption, Txt.cl (by assumption), by first | exact Txt.no_kept_program (by assumption) | exact Txt.no_kept_policy (by assumption) | exact Txt.no_rows (by assumption) | exact Txt.no_cells (by assumption) | exact Txt.no_makers (by assumption) | exact Txt.no_roots (by assumption) | exact Txt.no_seen (by assumption) | exact Txt.no_made (by assumption) | exact Txt.no_records (by assumption) | exact Txt.no_busy (by assumption), by rfl, ?_⟩
  | refine ⟨_, _, _, rfl, by assumption, by rfl, ?_⟩
  | refine ⟨_, _, _, rfl, ?_⟩
  | refine ⟨_, _, rfl, SqT.of (by assumption), by rfl, ?_⟩
  | refine ⟨_, _, rfl, ?_⟩
  | refine ⟨.inl (by decide), ?_⟩
  | refine ⟨.inl ⟨rfl, _, SqL.of (by assumption)⟩, ?_⟩
  | refine ⟨rfl, ?_⟩)
local macro_rules | `(tactic| walk_at "gs") => `(tactic| repeat walk_at "g")
local macro_rules | `(tactic| walk_at "b") => `(tactic| (first | decide +kernel | (simp only [decide_eq_true_eq, decide_eq_false_iff_not, List.length_map, V.int.injEq, Bool.not_eq_true', Bool.not_eq_false']; omega)))
section
variable {P : Program} {w : World} {K : Frg} {mg : Str → Option Value} {base : Heap}
theorem mkM {H : Hp} {pa qa : Addr} {prog : List Stm} {pol : Pol} {Q : VK} (hp : PrV pa H prog) (hv : ValP prog) (h60 : prog.length ≤ 60) (hpo : poV qa H pol) (hvq : ValQ pol)
    {x dx : Addr} (hx : H x = none) (hd : H dx = none) (hne : dx ≠ x)
    (k : ∀ H' d, MA K H' x (.ref pa) (.ref qa) false d MS.zero → Same H H' → (∀ y, foot x d y → H y = none) → Q .non H') :
    sp_M_init (K := K) [.ref x, .ref pa, .ref qa] (upd (upd H dx (.own x)) x (.ins (CM K) dx [])) Q E0 := by
  have s1 := Same.new (o := .own x) hd
  have hx1 : upd H dx (.own x) x = none := by rw [upd_ne (Ne.symm hne)]; exact hx
  have s2 := Same.trans s1 (Same.new (o := .ins (CM K) dx []) hx1)
  refine ⟨x, pa, qa, dx, prog, pol, rfl, upd_same, hp.tp (Same.tp s2), hv, h60, hpo.tp (Same.tp s2), hvq, fun H' d' m1 f1 ft => k H' d' m1 (fun a o h => f1.at_ (s2 a o h) fun z => ?_) fun y hy => ?_⟩
  · rw [z, hx] at h
    cases h
  · rcases ft y hy with z | z
    · rw [z]; exact hx
    · cases e : H y with
      | none => rfl
      | some o =>
        rw [s2 y o e] at z
        cases z
def sp_M_twin : Sp := fun vs H Q E => ∃ (m pa qa : Addr) (b : Bool) (d : MD) (s : MS) (prog : List Stm) (pol : Pol), vs = [.ref m] ∧ MA K H m (.ref pa) (.ref qa) b d s ∧ s.recs = [] ∧ PrV pa H prog ∧ ValP prog ∧ prog.length ≤ 60 ∧ poV qa H pol ∧ ValQ pol ∧
  ∀ m' H' d', MA K H' m' (.ref pa) (.ref qa) false d' MS.zero → Same H H' → (∀ x, foot m' d' x → H x = none) → Q (.ref m') H'
theorem ok_M_twin (T : Txt K mg) (Z : Siz K w) : Ok P w K mg base CX0 10 ("Machine", some "twin") P_M_twin (sp_M_twin (K := K)) := by
  refine Ok.of T.f_M_twin sc_M_twin (fun _ _ _ _ _ _ us hl => match us, hl with | [_], _ => rfl) (fun vs H Q E h => ?_) fun f cdv A outer s H vs Q E hr h => ?_
  · obtain ⟨m, pa, qa, b, d, s, prog, pol, rfl, _⟩ := h
    rfl
  · obtain ⟨m, pa, qa, b, d, s0, prog, pol, rfl, hm, h0, hp, hv, h60, hpo, hvq, k⟩ := h
    have hi := hm.h.ins
    have hl := hm.h.lst .recs
    refine ⟨_, PSs.nox (pss_cons (ps_set (i := 1) sc_M_twin.nd rfl (Or.inl rfl) (pmkK (ok_M_init T Z) T.g_Machine T.mak hr rfl pass0 (pa_cons (pe_fld (pv 0) rfl) pa_nil) (pk_cons (pe_fld (pv 0) rfl) pk_nil)))
      (pss_cons (ps_for PassesOwn.never rfl (pi_range1 rfl T.bi.range (pa_cons (pe_callB call_len_seq rfl T.bi.len (by decide +kernel) (pa_cons (pe_fld (pv 0) rfl) pa_nil)) pa_nil)) (pg_name (i := 2) sc_M_twin.nd rfl (Or.inl rfl))
       (pss_one (ps_expr (pm0 (ok_M_step T) T.cl T.m_step hr pass0 (pv 1)))))
      (pss_one (ps_ret (pv 1))))), ?_⟩
    walk_at "gs"
    intro m2 dx hx hd hne
    refine mkM hp hv h60 hpo hvq hx hd hne fun H2 d2 mm sm fresh => ⟨rfl, ?_⟩
    have hm2 := hm.same sm
    clear hi hl
    have hi := hm2.h.ins
    have hl := hm2.h.lst .recs
    have hz : (d.vl .recs).length = 0 := by rw [hm.v.recs.lengths.1, h0] <;> rfl
    walk_at "gs"
    rw [hz]
    refine ⟨by decide, by decide, ?_⟩
    refine for_range (n := 0) (fun _ σ H' => σ = [some (.ref m), some (.ref m2), none] ∧ H' = H2) ⟨rfl, rfl⟩ (fun i _ _ hi0 => absurd hi0 (Nat.not_lt_zero _)) fun σ H' pv => ?_
    obtain ⟨rfl, rfl⟩ := pv
    walk_at "gs"
    exact k m2 _ d2 mm sm fresh
end
end GB
set_option maxHeartbeats 4000000
/-! GHot: targets that are attributes; a tuple taken apart while an exception is handled; three names set at once. -/
namespace GB
open PySem PySem.Spec PyProof.Rows L2 L2H HotX
section
variable {prog : Program} {w : World} {A : Around} {E : Value → Shared → Prop} {s : Shared}
/-- the end of a tuple's iterator, while an exception is handled -/
theorem tupEnd_hot {it t x1 : Addr} {i : Nat} {items : Array Value} {Q : Option Value → Shared → Prop} (hot : HotAt A x1 s.heap)
    (hit : IsTupIter s.heap it t i) (ht : IsTup s.heap t items) (hx : items[i]? = none) (hne : x1 ≠ it)
    (hQ : ∀ h', Heap.ExtBut it s.heap h' → Q none { s with heap := h' }) : wpAny (model prog w) A (pyNext (.ref it)) Q E s := by
  obtain ⟨o, ho, hc, hd⟩ := id hit
  obtain ⟨ol, hol, _, nl, hdl⟩ := ht
  obtain ⟨hh, o1, vs1, h1, d1, c1⟩ := hot
  unfold pyNext
  refine wpAny_bind (wpAny_attempt (wpAny_callSpecial?_slot (name := Str.ofString "__next__") hit.typeIs slot_tupleiter_next
    (wpAny_call_entry slot_tupleiter_next hit.typeIs entry_tupleiter_next ?_ (args_tupleiter_next _))))
  show wpAny _ _ (field (.ref it) 0 >>= _) _ _ s
  refine wpAny_bind (wpAny_field ho hd (x := .ref t) rfl ?_)
  show wpAny _ _ (if (Value.ref t == Value.none) = true then _ else _) _ _ s
  rw [if_neg (show ¬ ((Value.ref t == Value.none) = true) from Bool.false_ne_true)]
  show wpAny _ _ (field (.ref it) 1 >>= _) _ _ s
  refine wpAny_bind (wpAny_field ho hd (x := .int i 0) rfl ?_)
  show wpAny _ _ (seqItems? (.ref t) >>= _) _ _ s
  refine wpAny_bind (wpAny_seqItems hol hdl ?_)
  simp only [Int.toNat_natCast, hx]
  refine wpAny_bind (wpAny_rule (wpAny_bind (wpAny_setField ho hd (by simp) ?_)))
  show wpAny _ _ (newExc (.type "StopIteration") [] >>= _) _ _ _
  refine wpAny_bind ?_
  simp only [newExc, newTuple]
  refine wpAny_bind (wpAny_newObj_type ?_ (by size_fits))
  refine wpAny_bind (m := firstArgMember _ _) (wpAny_of_eq (a := Value.none) (by first | rfl | (simp only [firstArgMember]; rfl)) ?_)
  refine wpAny_newObj_type ?_ (by size_fits)
  have sb := Heap.SameBut.update s.heap it (Obj.mapFields (·.setIfInBounds 0 .none))
  have g1 : (s.heap.update it (Obj.mapFields (·.setIfInBounds 0 .none))).get? x1 = some o1 := by rw [Heap.get?_update_other _ _ (Ne.symm hne)]; exact h1
  refine raiseNew_hot ⟨hh, o1, vs1, Heap.get?_push_of_some _ (Heap.get?_push_of_some _ g1), d1, c1⟩ (Nat.ne_of_lt (Heap.lt_size (Heap.get?_push_of_some _ g1))) (Heap.get?_push_size _ rfl) rfl (by first | (simp; done) | (simp; omega) | (simp only [Array.size_append]; simp; omega)) ?_
  refine wpAny_bind (wpAny_isInstance (T := "StopIteration") (b := true) ⟨_, Heap.get?_update_self _ (Heap.get?_push_size _ rfl) rfl, rfl⟩ isSubtype_stop ?_)
  refine wpAny_pure (hQ _ fun b o hb e => ?_)
  have e2 : (s.heap.update it (Obj.mapFields (·.setIfInBounds 0 .none))).get? b = some o := by rw [Heap.get?_update_other _ _ (Ne.symm hb)]; exact e
  rw [Heap.get?_update_other _ _ (Nat.ne_of_gt (Heap.lt_size (Heap.get?_push_of_some _ e2)))]
  exact Heap.get?_push_of_some _ (Heap.get?_push_of_some _ e2)
theorem hotAt_mono {x1 : Addr} {h h' : Heap} (hot : HotAt A x1 h) (k : ∀ o, h.get? x1 = some o → h'.get? x1 = some o) : HotAt A x1 h' := by
  obtain ⟨hh, o, vs, h1, d, c⟩ := hot
  exact ⟨hh, o, vs, k o h1, d, c⟩
theorem hotAt_there {x1 : Addr} {h : Heap} (hot : HotAt A x1 h) : x1 < h.objs.size := by
  obtain ⟨_, o, _, h1, _⟩ := hot
  exact Heap.lt_size h1
/-- a tuple taken apart while an exception is handled -/
theorem apart_hot {t x1 : Addr} {items : Array Value} {Q : List Value → Shared → Prop} (hot : HotAt A x1 s.heap) (ht : IsTup s.heap t items)
    (hQ : ∀ h', Heap.ExtBut s.heap.objs.size s.heap h' → Q items.toList { s with heap := h' }) : wpAny (model prog w) A (unpackItems (.ref t) items.size none) Q E s := by
  have hlt : t ≠ s.heap.objs.size := by obtain ⟨o, ho, _⟩ := ht; exact Nat.ne_of_lt (Heap.lt_size ho)
  have hx := hotAt_there hot
  unfold unpackItems
  refine wpAny_bind ?_
  unfold notIterableAtAll
  refine wpAny_bind (wpAny_specialOf ht.typeIs slot_tuple_iter.lookup ?_)
  refine wpAny_pure ?_
  simp only [Bool.false_eq_true, if_false]
  refine wpAny_bind (wpAny_holding (iter_tuple ht ?_))
  refine wpAny_bind (wpAny_holding (draw_tuple hlt items.size 0 _ _ ⟨_, Heap.get?_push_size _ rfl, rfl, rfl⟩ (ht.push _) (by omega) fun h₁ hit₁ hs₁ => ?_))
  have hall : List.take items.size (List.drop 0 items.toList) = items.toList := by
    rw [List.drop_zero]; exact List.take_of_length_le (by simp)
  rw [hall]
  rw [if_neg (by simp)]
  have ht₁ : IsTup h₁ t items := (ht.push _).extBut hs₁.extBut hlt
  have hot₁ : HotAt A x1 h₁ := hotAt_mono hot fun o e => hs₁.extBut x1 o (Nat.ne_of_lt hx) (Heap.get?_push_of_some _ e)
  refine wpAny_bind (wpAny_holding (tupEnd_hot hot₁ hit₁ ht₁ (by simp) (Nat.ne_of_lt hx) fun h₂ he₂ => ?_))
  simp only [Option.isSome_none, Bool.false_eq_true, if_false]
  exact wpAny_pure (hQ h₂ fun b o hb e => he₂ b o hb (hs₁.extBut b o hb (Heap.get?_push_of_some _ e)))
end
section
variable {X : Cx} {pos : Pos}
theorem pg_tupH {es : List Expr} {k : Nat} {t : TGs} {n : Nat} (hc : HotC X) (h : PGs X es t)
    (hn : (assignEach es X.env).length = n := by rfl) (hst : (assignEach es X.env).findIdx? (·.1) = none := by rfl) : PG X (.Tuple es k pos) (gTup X.K n t) := by
  refine ⟨fun pins s σ H v u Q I r hw => ?_⟩
  obtain ⟨a, xs, e1, hq, hl, hw⟩ := hw
  subst e1
  cases r
  obtain ⟨its, rv, ht, hz⟩ := I.tuple hq
  obtain ⟨x1, hot⟩ := hc.at I
  rw [assign_Tuple]
  refine wpAny_bind (wpAny_standAt ?_)
  unfold unpack
  have e : (assignEach es X.env).length = its.toArray.size := by rw [hn, List.size_toArray, ← rv.length, hl]
  rw [e, hst]
  refine wpAny_bind (wpAny_holding (apart_hot hot ht fun h' hx => ?_))
  have I1 : Inv X pins σ H { s with heap := h' } := I.kept (t' := s.toks) fun b o e => hx b o (Nat.ne_of_lt (Heap.lt_size e)) e
  exact h.run pins _ σ H xs _ Q I1 (by simpa using rv) hw
/-- o.f as a target -/
def gFld (K : PySem.W.Frag) (ta : TE) (f : Str) : TG := fun v σ H Q => ta σ H fun x H2 => ∃ a C dx fs, x = .ref a ∧ H2 a = some (.ins C dx fs) ∧ Cls K C ∧ NoAttr K C f ∧ fs.length < 1000 ∧ Q σ (upd H2 a (.ins C dx (putF f v fs)))
theorem pg_fld {o : Expr} {f : Str} {ta : TE} (ha : PE X o ta)
    (hs : ∀ v, assign (.Attribute o f pos) X.env v = (do
      let ov ← holding [v] (eval o X.env)
      standAt pos.atName
      holding [v, ov] (setAttr ov f v)
      release [v, ov] []) := by intro _; rfl) : PG X (.Attribute o f pos) (gFld X.K ta f) := by
  refine ⟨fun pins s σ H v u Q I r h => ?_⟩
  rw [hs]
  refine wpAny_bind (wpAny_holding (thn (ha.run pins s σ H _ I h) fun ov s1 ⟨x, H2, I2, rx, a, C, dx, fs, ex, ea, c, n, l, q2⟩ => ?_))
  subst ex
  obtain rfl : ov = Value.ref a := rx
  refine wpAny_bind (wpAny_standAt (wpAny_bind (wpAny_holding (setattr_ok I2 ea c n l r fun s3 I3 => ?_))))
  exact wpAny_release ⟨σ, _, I3, q2⟩
/-- a, b, c = x, y, z with plain local names -/
def tPar3 (i j l : Nat) (ta : TA) : TS := fun D σ H => ta σ H fun vs H1 => ∃ v w y, vs = [v, w, y] ∧ D.nx (((σ.set l (some y)).set j (some w)).set i (some v)) H1
theorem ps_par3 {i j l : Nat} {x y z : Str} {a b c : Expr} {ta : TA} {px py pz pt : Pos} {kt k2 pt2} (hc : X.calm = true) (hN : X.N.Nodup) (hi : X.N[i]? = some x) (hj : X.N[j]? = some y) (hl : X.N[l]? = some z)
    (hx : X.env.scope.names.lookup x = some .local) (hy : X.env.scope.names.lookup y = some .local) (hz : X.env.scope.names.lookup z = some .local) (ha : PA X [a, b, c] ta)
    (hw : swappedStores [.Tuple [.Name x px, .Name y py, .Name z pz] kt pt] (.Tuple [a, b, c] k2 pt2) X.env = pure (some [x, y, z]))
    (hs : swapsWithSole [.Tuple [.Name x px, .Name y py, .Name z pz] kt pt] (.Tuple [a, b, c] k2 pt2) pos.line X.env = pure false := by rfl) :
    PS X (.Assign [.Tuple [.Name x px, .Name y py, .Name z pz] kt pt] (.Tuple [a, b, c] k2 pt2) pos) (tPar3 i j l ta) := by
  refine ⟨fun pins s σ H D I h => ?_⟩
  rw [exec_Assign_arm]
  refine wpAny_bind (wpAny_standAt ?_)
  rw [hs]
  refine wpAny_bind (wpAny_pure ?_)
  rw [if_neg (by decide)]
  refine wpAny_bind (Tuple_ (thn (ha.run _ pins s σ H _ I h) fun us s1 ⟨vs, H1, I1, r1, q1⟩ => ?_))
  obtain ⟨v, w, y1, e1, q1⟩ := q1
  subst e1
  obtain ⟨u1, u2, u3, rfl, rv, rw', ry⟩ : ∃ u1 u2 u3, us = [u1, u2, u3] ∧ RelV v u1 ∧ RelV w u2 ∧ RelV y1 u3 := by
    cases r1 with
    | cons p q =>
      cases q with
      | cons p' q' =>
        cases q' with
        | cons p2 q2 =>
          cases q2
          exact ⟨_, _, _, rfl, p, p', p2⟩
  refine wpAny_newObj_type ?_ (by show 3 ≤ sizeLine; decide)
  have I2 : Inv X pins σ H1 { s1 with heap := s1.heap.push { cls := .type "tuple", data := .seq [u1, u2, u3].toArray } } := I1.kept (t' := s1.toks) fun b o e => Heap.get?_push_of_some _ e
  rw [hw]
  refine wpAny_bind (wpAny_pure ?_)
  show wpAny (model X.prog X.w) X.A (do rule "assign.swapped-stores"; let items ← unpackItems (.ref s1.heap.objs.size) 3 none; assignInOrder [fun v => bindName X.env z v, fun v => bindName X.env y v, fun v => bindName X.env x v] items.reverse; pure Flow.next) _ _ _
  refine wpAny_bind (wpAny_rule (wpAny_bind (unpackItems_tuple (items := #[u1, u2, u3]) (I.ok.hd hc) (IsTup.new s1.heap _) fun h' hx' => ?_)))
  have I3 := I2.kept (h' := h') (t' := s1.toks) fun b o e => hx' b o (Nat.ne_of_lt (Heap.lt_size e)) e
  show wpAny _ _ (assignInOrder [fun v => bindName X.env z v, fun v => bindName X.env y v, fun v => bindName X.env x v] [u3, u2, u1] >>= fun _ => pure Flow.next) _ _ _
  refine wpAny_bind (assignInOrder_cons (wpAny_bindName (store_ok I3 hN hl (.inl hz) ry (fun s2 I4 => ?_) (.inr hz))))
  refine assignInOrder_cons (wpAny_bindName (store_ok I4 hN hj (.inl hy) rw' (fun s3 I5 => ?_) (.inr hy)))
  refine assignInOrder_cons (wpAny_bindName (store_ok I5 hN hi (.inl hx) rv (fun s4 I6 => assignInOrder_nil (wpAny_pure ?_)) (.inr hx)))
  exact ⟨_, H1, I6, q1⟩
end
end GB
set_option maxHeartbeats 4000000
/-! GFin: try: body / finally: suite, where the body may raise; the suite knows that the exception's context is None. -/
namespace GB
open PySem PySem.Spec PyProof.Rows L2 L2H HotX
section
variable {X : Cx} {body : List Stmt} {f₀ : Stmt} {fs : List Stmt} {pos : Pos} {tb : WX → TS} {tf tfs : TS} {Wout : WX}
/-- an exception of the body meets the finally -/
theorem fin_excN {pins : List (Addr × Obj)} {D : Ends} {u : Value} {s' : Shared} (hs : X.stack = X.env :: X.outer) (hf : X.env.frame = some X.env.locals) (hex : X.ex = []) (ok : X.Ok) (tk : L2N.Takes X Wout)
    (hsu : ∀ (a : Addr) (oe : Obj) (pn : List (Addr × Obj)), (∃ vs : Array Value, oe.data = .fields vs ∧ vs[2]? = some .none) → PSs (X.suite a ((a, oe) :: pn)) (f₀ :: fs) tfs)
    (xx : L2N.XE (X.tr (X.pn ++ pins) (fun x s₁ => wpAny (model X.prog X.w) X.A (noteFrame x X.env) (fun _ s₂ => FinallyRaised X.prog X.w X.A X.xe X.env (f₀ :: fs) (SP X pins D) x s₂) (FinallyRaised X.prog X.w X.A X.xe X.env (f₀ :: fs) (SP X pins D)) s₁)) (wFin tfs Wout) u s') :
    wpAny (model X.prog X.w) X.A (noteFrame u X.env) (fun _ s₂ => FinallyRaised X.prog X.w X.A X.xe X.env (f₀ :: fs) (SP X pins D) u s₂) (FinallyRaised X.prog X.w X.A X.xe X.env (f₀ :: fs) (SP X pins D)) s' := by
  have hfr : X.A.frames = some (X.env :: X.outer) := by rw [ok.frames, hs]
  obtain ⟨a, B, sI, pins', σ', H', cls, d, rfl, J', nb, up, sky, na, os, ag, hw⟩ := xx
  have J : Inv X pins σ' H' sI := J'.ofTry ok
  have sky' : Sky B (X.env :: X.outer) a (L2N.Zn cls d) X.env.locals s'.heap := by rw [← hs]; exact sky
  -- behind the first note
  have fin : ∀ h1, HandSPX.HeldZ B (X.env :: X.outer) a (L2N.Zn cls d) X.env.locals h1 → s'.heap.UpToSlots h1 → FinallyRaised X.prog X.w X.A X.xe X.env (f₀ :: fs) (SP X pins D) (.ref a) { s' with heap := h1 } := fun h1 hh1 up1 => by
    refine ⟨ref_ne_byPass a, HandSPX.againZ hf hh1.2.2.2 (HandSPX.landsZ hh1 fun h3 fl3 up3 => ?_)⟩
    have J3 : Inv X pins σ' H' { s' with heap := h3 } := J.landed nb fl3.1 ((up.trans up1).trans up3) os ag
    obtain ⟨k1, k2, k3, oe, vs, T, oT, ts, he3, hz, hd, hv1, hnT, hTe, hT, hdT, ht3⟩ := id fl3
    have nT : H' T = none := (J.inGround nb).gone hnT
    have notFr : ∀ (b : Addr) (o : Obj) (fv : Array Value), h3.get? b = some o → o.data = .fields fv → b ∉ frs (X.env :: X.outer) := fun b o fv e dd hm => by
      obtain ⟨_, o', e', hnf⟩ := k3.mem hm
      have eo : o = o' := Option.some.inj (e.symm.trans e')
      rw [← eo] at hnf
      exact hnf _ dd
    have locF : X.env.locals ∈ frs (X.env :: X.outer) := List.mem_filterMap.mpr ⟨X.env, List.mem_cons_self, hf⟩
    have fsF : ∀ b, b ∈ X.fs → b ∈ frs (X.env :: X.outer) := fun b hm => by
      obtain ⟨e, he, q⟩ := List.mem_filterMap.mp hm
      exact List.mem_filterMap.mpr ⟨e, List.mem_cons_of_mem _ he, q⟩
    have fa := notFr a oe vs he3 hd
    have fT := notFr T oT ts hT hdT
    have S3 : Inv (X.suite a ((a, oe) :: (T, oT) :: (X.pn ++ pins))) [] σ' H' { s' with heap := h3 } :=
      ⟨J3.ok.suite _ _, J3.os, J3.bare, J3.base, J3.loc, J3.cell, J3.free, J3.freeC, fun p hp => by
        rw [List.append_nil] at hp
        rcases List.mem_cons.mp hp with z | hp
        · rw [z]
          exact ⟨he3, na, fun z2 => fa (by rw [show a = X.env.locals from z2]; exact locF), fun z2 => fa (fsF _ z2), fun v z2 => by
            have z3 : oe.data = .cell v := z2
            rw [hd] at z3
            cases z3⟩
        · rcases List.mem_cons.mp hp with z | hp
          · rw [z]
            exact ⟨hT, nT, fun z2 => fT (by rw [show T = X.env.locals from z2]; exact locF), fun z2 => fT (fsF _ z2), fun v z2 => by
              have z3 : oT.data = .cell v := z2
              rw [hdT] at z3
              cases z3⟩
          · exact J3.pin p hp, J3.hok, J3.len⟩
    refine wpAny_mono ((hsu a oe ((T, oT) :: (X.pn ++ pins)) ⟨vs, hd, hz.2.2 vs hd⟩).run [] { s' with heap := h3 } σ' H' { nx := fun σ2 H2 => Wout cls d σ2 H2, rt := fun _ _ => False } S3 hw) (fun g s6 hsp => ?_) fun _ _ z => False.elim z
    cases g with
    | ret u =>
      obtain ⟨_, _, _, _, _, q⟩ := hsp
      exact False.elim q
    | brk =>
      obtain ⟨_, _, _, q⟩ := hsp
      exact False.elim q
    | cont =>
      obtain ⟨_, _, _, q⟩ := hsp
      exact False.elim q
    | next =>
      obtain ⟨σ6, H6, S6, q6⟩ := hsp
      have J6 : Inv X pins σ6 H6 s6 := ⟨ok, S6.os, S6.bare, S6.base, S6.loc, S6.cell, S6.free, S6.freeC, fun p hp => S6.pin p (List.mem_append_left _ (List.mem_cons_of_mem _ (List.mem_cons_of_mem _ hp))), S6.hok, S6.len⟩
      have pa := S6.pin (a, oe) (List.mem_append_left _ List.mem_cons_self)
      have pT := S6.pin (T, oT) (List.mem_append_left _ (List.mem_cons_of_mem _ List.mem_cons_self))
      have ga : s6.heap.get? a = some oe := pa.1
      have gT : s6.heap.get? T = some oT := pT.1
      have na6 : H6 a = none := pa.2.1
      have nT6 : H6 T = none := pT.2.1
      -- what is not the exception's
      have far : ∀ b o, sI.heap.get? b = some o → b ≠ a ∧ b ≠ T := fun b o e => by
        by_cases hb : b ∈ frs X.stack
        · rw [hs] at hb
          exact ⟨fun z => fa (by rw [← z]; exact hb), fun z => fT (by rw [← z]; exact hb)⟩
        · have q := nb b o e hb
          exact ⟨fun z => by
            rw [z, k2] at q
            exact (nomatch q), fun z => by
            rw [z, hnT] at q
            cases q⟩
      have far0 : ∀ b o, X.s_0.heap.get? b = some o → b ≠ a ∧ b ≠ T := fun b o e => by
        obtain ⟨o', q⟩ := J.base.there b o e (by rw [hex]; simp)
        exact far b o' q
      have farP : ∀ p ∈ X.pn ++ pins, p.1 ≠ a ∧ p.1 ≠ T := fun p hp => far p.1 p.2 (J.pin p hp).1
      obtain ⟨G, g1, g2⟩ := restrict s6.heap fun b => !(decide (b = a) || decide (b = T))
      have gIn : ∀ b o, G.get? b = some o → s6.heap.get? b = some o ∧ b ≠ a ∧ b ≠ T := fun b o e => by
        cases q : (!(decide (b = a) || decide (b = T))) with
        | false =>
          rw [g2 b q] at e
          cases e
        | true =>
          rw [g1 b q] at e
          simp only [Bool.not_eq_true', Bool.or_eq_false_iff, decide_eq_false_iff_not] at q
          exact ⟨e, q.1, q.2⟩
      have gOf : ∀ b o, b ≠ a → b ≠ T → s6.heap.get? b = some o → G.get? b = some o := fun b o h1 h2 e => by
        rw [g1 b (by simp [h1, h2])]
        exact e
      have I6 : Inv X pins σ6 H6 { s6 with heap := G } := J6.less (fun b o e => (gIn b o e).1) gOf ⟨oe, vs, ga, hd⟩ ⟨oT, ts, gT, hdT⟩ na6 nT6 far0 farP
      -- the ground behind the suite
      have B6in : ∀ b o, (PySem.W.hideAll G (frs X.stack)).get? b = some o → s6.heap.get? b = some o := fun b o e => (gIn b o (PySem.W.of_hideAll _ e)).1
      have Bno : ∀ b, (b = a ∨ b = T) → (PySem.W.hideAll G (frs X.stack)).get? b = none := fun b hb => by
        cases q : (PySem.W.hideAll G (frs X.stack)).get? b with
        | none => rfl
        | some o =>
          obtain ⟨_, n1, n2⟩ := gIn b o (PySem.W.of_hideAll _ q)
          rcases hb with z | z
          · exact absurd z n1
          · exact absurd z n2
      have fl6 : HandSPX.FlyingZ (PySem.W.hideAll G (frs X.stack)) (X.env :: X.outer) a (L2N.Zn cls d) s6.heap := by
        refine ⟨B6in, Bno a (.inl rfl), ?_, oe, vs, T, oT, ts, ga, hz, hd, hv1, Bno T (.inr rfl), hTe, gT, hdT, ht3⟩
        have ff := funFrames_none (B := PySem.W.hideAll G (frs X.stack)) J6.stack fun b hb => PySem.W.hideAll_none _ hb
        rw [← hs]
        exact ff
      show wpAny (model X.prog X.w) X.A (PySem.passOn "try.finally" (.ref a) X.env) (SP X pins D) X.xe s6
      unfold PySem.passOn
      refine wpAny_bind (wpAny_field ga hd hv1 ?_)
      rw [if_neg (show ¬ ((Value.ref T == Value.none) = true) from by simp)]
      have goOn : wpAny (model X.prog X.w) X.A (setFlight (.ref a) X.env.frame) (fun _ s7 => wpAny (model X.prog X.w) X.A (throw (.ref a) : Sem Flow) (SP X pins D) X.xe s7) X.xe s6 := by
        rw [hf]
        refine HandSPX.setFlight_upZ fl6 fun h7 hh7 up7 => wpAny_throw (tk _ _ ?_)
        refine ⟨a, PySem.W.hideAll G (frs X.stack), { s6 with heap := G }, pins, σ6, H6, cls, d, rfl, I6, fun b o e hb => PySem.W.hideAll_get _ e hb, ?_, .inr (.inr (by rw [← hs] at hh7; exact hh7)), na6, rfl, J6.bare, q6⟩
        exact Heap.UpToSlots.trans (Heap.UpToSlots.of_keeps fun b o e => (gIn b o e).1) up7
      first
        | exact wpAny_bind (wpAny_pure (wpAny_bind goOn))
        | exact wpAny_bind goOn
  show wpAny (model X.prog X.w) X.A (noteFrame (.ref a) X.env) _ _ _
  rcases sky' with ⟨hB, hn, hl, oe, vs, he0, hz, hd, hv1⟩ | fl | hh
  · exact PXN.look_newZ L2N.Zn.steady hfr hl hf he0 hB hn hd hv1 hz fin
  · exact PXN.looks_onZ L2N.Zn.steady hfr hf fl fin
  · exact HandSPX.againZ hf hh.2.2.2 (fin s'.heap hh (Heap.UpToSlots.refl _))
def tFin (tb : WX → TS) (tf tfs : TS) (Wout : WX) : TS := fun D σ H => tb (wFin tfs Wout) { nx := fun σ1 H1 => tf D σ1 H1, rt := fun _ _ => False } σ H
/-- try: body / finally: suite; the body ends by its own way, or raises -/
theorem ps_fin (hs : X.stack = X.env :: X.outer) (hf : X.env.frame = some X.env.locals) (hex : X.ex = []) (tk : L2N.Takes X Wout)
    (hb : ∀ (W : WX) (pn : List (Addr × Obj)) (xe : Value → Shared → Prop), L2N.Takes (X.tr pn xe) W → PassesOwn (model X.prog X.w) X.A X.env xe → PSs (X.tr pn xe) body (tb W))
    (hfin : PSs X.nox (f₀ :: fs) tf)
    (hsu : ∀ (a : Addr) (oe : Obj) (pn : List (Addr × Obj)), (∃ vs : Array Value, oe.data = .fields vs ∧ vs[2]? = some .none) → PSs (X.suite a ((a, oe) :: pn)) (f₀ :: fs) tfs) : PS X (.Try body [] [] (f₀ :: fs) pos) (tFin tb tf tfs Wout) := by
  refine ⟨fun pins s σ H D I h => ?_⟩
  have ok := I.ok
  refine wpAny_Try_finally ?_
  refine wpAny_mono ((hb (wFin tfs Wout) (X.pn ++ pins) (fun x s₁ => wpAny (model X.prog X.w) X.A (noteFrame x X.env) (fun _ s₂ => FinallyRaised X.prog X.w X.A X.xe X.env (f₀ :: fs) (SP X pins D) x s₂) (FinallyRaised X.prog X.w X.A X.xe X.env (f₀ :: fs) (SP X pins D)) s₁)
    (fun u s' xx => ?_) PassesOwn.looking).run [] s σ H { nx := fun σ1 H1 => tf D σ1 H1, rt := fun _ _ => False } (I.toTry _) h) (fun g s1 z => ?_) (fun x s1 hx => hx)
  · exact fin_excN hs hf hex ok tk hsu xx
  · cases g with
    | next =>
      obtain ⟨σ1, H1, I1, q1⟩ := z
      refine wpAny_execs_nil ?_
      refine wpAny_mono (hfin.run pins s1 σ1 H1 D ((I1.ofTry ok).wish _) q1) (fun g s2 q => ?_) fun _ _ z => False.elim z
      have q' : SP X pins D g s2 := q.unwish
      cases g with
      | next => exact q'
      | ret w2 => exact q'
      | brk => exact q'
      | cont => exact q'
    | ret u =>
      obtain ⟨_, _, _, _, _, q⟩ := z
      exact False.elim q
    | brk =>
      obtain ⟨_, _, _, q⟩ := z
      exact False.elim q
    | cont =>
      obtain ⟨_, _, _, q⟩ := z
      exact False.elim q
end
end GB
set_option maxHeartbeats 4000000
/-! GClo: a closure over one name that is handed out of its def, and called elsewhere. -/
namespace GB
open PySem PySem.Spec PyProof.Rows L2 LamX NdefX
/-- a cell that holds v -/
def CellO (c : Addr) (v : V) : HO := .ext fun h => ∃ u, RelV v u ∧ h.IsCell c (some u)
theorem cellO_ok {P : Program} {w : World} {H : Hp} {h : Heap} {c : Addr} {v : V} {u : Value} (r : RelV v u) (z : h.IsCell c (some u)) : ObjOk P w H h c (CellO c v) := by
  obtain ⟨o, ho, hd⟩ := z
  exact ⟨⟨u, r, o, ho, hd⟩, ⟨o, ho⟩, fun h1 h2 ⟨u, r, o, e, d⟩ k => ⟨u, r, o, k _ e, d⟩⟩
/-- c is forgotten -/
def era (H : Hp) (c : Addr) : Hp := fun b => if b = c then none else H b
theorem era_same {H : Hp} {c : Addr} : era H c c = none := if_pos rfl
theorem era_ne {H : Hp} {b c : Addr} (h : b ≠ c) : era H c b = H b := if_neg h
/-- the closure: the function, its code, its one cell -/
structure CloAt (H : Hp) (f : Addr) (F : NF) (y : Str) (c : Addr) (v : V) : Prop where
  fn : H f = some (FnO f F)
  co : H F.c = some (CodeO F.c F.qual)
  cell : F.cl.lookup y = some c
  only : ∀ x a, F.cl.lookup x = some a → x = y ∧ a = c
  val : H c = some (CellO c v)
  nf : f ≠ c
  nc : F.c ≠ c
theorem CloAt.ext {H H' : Hp} {f c : Addr} {F : NF} {y : Str} {v : V} (C : CloAt H f F y c v) (e : ∀ b o, H b = some o → (∀ ps, o ≠ .tbl ps) → b = f ∨ b = F.c ∨ b = c → H' b = some o) : CloAt H' f F y c v :=
  ⟨e _ _ C.fn fnO_ne (.inl rfl), e _ _ C.co codeO_ne (.inr (.inl rfl)), C.cell, C.only, e _ _ C.val (fun ps z => by unfold CellO at z; cases z) (.inr (.inr rfl)), C.nf, C.nc⟩
theorem ext_own {φ : Heap → Prop} {x : Addr} : HO.ext φ ≠ .own x := fun z => by cases z
theorem ext_tup {φ : Heap → Prop} {xs : List V} : HO.ext φ ≠ .tup xs := fun z => by cases z
theorem ext_frz {φ : Heap → Prop} {o : Obj} {u : HO} : HO.ext φ ≠ .frz o u := fun z => by cases z
theorem ext_tbl {φ : Heap → Prop} {ps : Array Value} : HO.ext φ ≠ .tbl ps := fun z => by cases z
section
variable {P : Program} {w : World} {H : Hp} {h : Heap} {c : Addr} {φ : Heap → Prop}
theorem HOk.era (x : HOk P w H h) (hc : H c = some (.ext φ)) : HOk P w (era H c) h := fun b o e => by
  by_cases hb : b = c
  · rw [hb, era_same] at e; cases e
  · rw [era_ne hb] at e
    exact (x b o e).stay (fun _ _ _ q => q) (fun d q => by rw [era_ne (at_ne hc q ext_own)]; exact q) fun d xs q => by rw [era_ne (at_ne hc q ext_tup)]; exact q
theorem HOk.put {o : HO} (x : HOk P w H h) (hn : H c = none) (new : ObjOk P w (upd H c o) h c o) : HOk P w (upd H c o) h := fun b u e => by
  by_cases hb : b = c
  · subst hb; rw [upd_same] at e; cases e; exact new
  · rw [upd_ne hb] at e
    exact (x b u e).stay (fun _ _ _ q => q) (fun d q => by rw [upd_ne (ne_of_none q hn)]; exact q) fun d xs q => by rw [upd_ne (ne_of_none q hn)]; exact q
end
section
variable {X : Cx} {mk : List (Str × Addr) → Addr → NF} {ps : List Str} {y x : Str} {i j k : Nat} {sp : List (Option V) → Sp} {E : XK} {t : TA} {e : Expr} {es : List Expr} {p pos : Pos}
theorem run_clo {pins : List (Addr × Obj)} {σ : L2.St} {H : Hp} {s : Shared} {Q : VK} {f c : Addr} {F : NF} {v : V} {us : List Value} {vs : List V} (Fn : NOk X.prog X.w X.K X.mg X.base (L2N.CX X.prog X.w) k f F ps [y] sp) (hr : Room j X.A) (hk : k ≤ j)
    (hx : PassesAt (L2N.CX X.prog X.w) X σ E) (I : L2.Inv X pins σ H s) (C : CloAt H f F y c v) (r : Vals vs us)
    (q : sp [some v] vs (era H c) (fun v' H' => Q v' (upd H' c (CellO c v))) (fun cls d H' => E cls d (upd H' c (CellO c v)))) : wpAny (model X.prog X.w) X.A (call (.ref f) us) (EP X pins σ Q) X.xe s := by
  obtain ⟨⟨u0, r0, oc, hoc, hdc⟩, _, _⟩ := I.hok c _ C.val
  have hfr : c ∉ frs X.stack := fun z => by
    have q := I.stkFree c z
    rw [C.val] at q; cases q
  have hne : ∀ {b : Addr}, H b = none → b ≠ c := fun n z => by
    rw [z, C.val] at n; cases n
  have e0 := I.env0
  have e1 : Env0 X.prog X.w X.K X.mg X.base X.A X.stack s (era H c) := ⟨e0.frames, e0.mod, fun b o e => ⟨(e0.bs b o e).1, by rw [era_ne (hne (e0.bs b o e).2)]; exact (e0.bs b o e).2⟩, e0.bsz, e0.funs,
    fun b hb => by rw [era_ne (hne (e0.frf b hb))]; exact e0.frf b hb, HOk.era e0.hok C.val, e0.bare⟩
  have hcl : CellsAt F.cl [y] [some v] s.heap (era H c) := ⟨rfl, fun x a ea => by
      obtain ⟨_, rfl⟩ := C.only x a ea
      exact ⟨era_same, some u0, oc, hoc, hdc⟩, fun x x' a e1 e2 => by rw [(C.only x a e1).1, (C.only x' a e2).1], fun i x ei => by
      cases i with
      | zero =>
        have z : y = x := Option.some.inj ei
        subst z
        exact ⟨c, C.cell, fun v' ev => by cases ev; exact ⟨u0, r0, oc, hoc, hdc⟩⟩
      | succ i => simp at ei⟩
  refine wpAny_call (codeAny_mono (Fn.run X.A X.stack s (era H c) us vs [some v] _ _ (hr.mono hk) e1 (by rw [era_ne C.nf]; exact C.fn) (by rw [era_ne C.nc]; exact C.co) hcl r q) fun r s' hq => ?_)
  cases r with
  | error e =>
    refine hx pins H s e s' I ?_
    obtain ⟨a, B, H', cls, d, rfl, fl, hok, ub, na, os, ag, hE⟩ := hq
    have bc : B.get? c = some oc := ub.keep c oc hoc era_same hfr
    have nc : H' c = none := ub.free c oc hoc era_same
    have hac : a ≠ c := fun z => by
      have q := fl.2.1
      rw [z, bc] at q; cases q
    have tr : ∀ {b : Addr} {o : HO}, H b = some o → b ≠ c → era H c b = some o := fun e n => by rw [era_ne n]; exact e
    refine ⟨a, B, upd H' c (CellO c v), cls, d, rfl, fl, HOk.put hok nc (cellO_ok r0 ⟨oc, bc, hdc⟩), ⟨fun b o e n hb => ub.keep b o e (by rw [era_ne (hne n)]; exact n) hb, ub.slot, fun b o e n => ?_, ub.there, fun b xs q => ?_, fun b o xs q => ?_, fun b ps q => ?_⟩, by rw [upd_ne hac]; exact na, os, ag, hE⟩
    · rw [upd_ne (hne n)]
      exact ub.free b o e (by rw [era_ne (hne n)]; exact n)
    · have hb : b ≠ c := at_ne C.val q ext_tup
      rw [upd_ne hb]; exact ub.tups b xs (tr q hb)
    · have hb : b ≠ c := at_ne C.val q ext_frz
      rw [upd_ne hb]; exact ub.frzs b o xs (tr q hb)
    · have hb : b ≠ c := at_ne C.val q ext_tbl
      obtain ⟨m, z⟩ := ub.tbls b ps (tr q hb)
      exact ⟨m, by rw [upd_ne hb]; exact z⟩
  | ok fl =>
    cases fl with
    | ret u =>
      obtain ⟨v', H', os, bare, un, hok, rv, hQ⟩ := hq
      have bc : s'.heap.get? c = some oc := un.keep c oc hoc era_same hfr (by simp)
      have nc : H' c = none := un.free c oc hoc era_same (by simp)
      have tr : ∀ {b : Addr} {o : HO}, H b = some o → b ≠ c → era H c b = some o := fun e n => by rw [era_ne n]; exact e
      refine I.after (Q := Q) ⟨v', upd H' c (CellO c v), os, bare, ⟨fun b o e n hb hx => un.keep b o e (by rw [era_ne (hne n)]; exact n) hb hx, fun b o e n hb hx => un.slot b o e (by rw [era_ne (hne n)]; exact n) hb hx, fun b o e n hx => ?_, un.there, fun b xs q => ?_, fun b o xs q => ?_, fun b ps q => ?_⟩, HOk.put hok nc (cellO_ok r0 ⟨oc, bc, hdc⟩), rv, hQ⟩
      · rw [upd_ne (hne n)]
        exact un.free b o e (by rw [era_ne (hne n)]; exact n) hx
      · have hb : b ≠ c := at_ne C.val q ext_tup
        rw [upd_ne hb]; exact un.tups b xs (tr q hb)
      · have hb : b ≠ c := at_ne C.val q ext_frz
        rw [upd_ne hb]; exact un.frzs b o xs (tr q hb)
      · have hb : b ≠ c := at_ne C.val q ext_tbl
        obtain ⟨m, z⟩ := un.tbls b ps (tr q hb)
        exact ⟨m, by rw [upd_ne hb]; exact z⟩
    | next => exact False.elim hq
    | brk => exact False.elim hq
    | cont => exact False.elim hq
/-- x(e, ..), the slot i holds such a closure -/
def tClo (mk : List (Str × Addr) → Addr → NF) (y : Str) (i : Nat) (sp : List (Option V) → Sp) (E : L2.St → XK) (t : TA) : TE := fun σ H Q => ∃ (f c' c : Addr) (cl : List (Str × Addr)) (v : V), σ[i]? = some (some (.ref f)) ∧ CloAt H f (mk cl c') y c v ∧
  t σ H fun vs H1 => CloAt H1 f (mk cl c') y c v ∧ sp [some v] vs (era H1 c) (fun v' H' => Q v' (upd H' c (CellO c v))) (fun cls d H' => E σ cls d (upd H' c (CellO c v)))
theorem pe_clo {E : L2.St → XK} (Fn : ∀ f cl c', NOk X.prog X.w X.K X.mg X.base (L2N.CX X.prog X.w) k f (mk cl c') ps [y] sp) (hr : Room j X.A) (hx : ∀ σ, PassesAt (L2N.CX X.prog X.w) X σ (E σ)) (hN : X.N[i]? = some x) (hv : Vis X.env.scope x) (ha : PA X (e :: es) t) (hk : k ≤ j := by decide)
    (hd : (x == ("__debug__" : Str)) = false := by decide) (hcd : (x == ("__classdict__" : Str)) = false := by decide)
    (he : starEach (e :: es) X.env = (false, eval e X.env) :: starEach es X.env := by rfl) (hpl : (backTo pos (starEach es X.env)).any (·.1) = false := by rfl) :
    PE X (.Call (.Name x p) (e :: es) [] pos) (tClo mk y i sp E t) := by
  refine ⟨fun pins s σ H Q I h => ?_⟩
  obtain ⟨f, c', c, cl, v, hs, C, ht⟩ := h
  refine wpAny_Call_Name_kw (thn ((pe_var (pos := p) hN hv hd hcd).run pins s σ H (fun v H1 => v = .ref f ∧ H1 = H) I ⟨.ref f, hs, rfl, rfl⟩) fun u s1 ⟨v', H1, I1, r1, q1⟩ => ?_)
  obtain ⟨ev, eH⟩ := q1
  subst ev
  rw [eH] at I1
  obtain rfl : u = Value.ref f := r1
  refine PySem.W.callWith_F (first := []) (fnAt_of I1 C.fn) (thn (ha.run pos pins s1 σ H _ I1 ht) fun us s2 ⟨vs, H2, I2, r, C2, q⟩ => ⟨fnAt_of I2 C2.fn, ?_⟩) he hpl
  exact run_clo (Fn f cl c') hr hk (hx σ) I2 C2 r q
end
end GB
set_option maxHeartbeats 4000000
/-! GClo2: _law_ending hands out its watch. -/
namespace GB
open PySem PySem.Spec PyProof.Rows L2 LamX NdefX
abbrev st_look : Stmt := (defBody s_l_ending).headD (.Pass ⟨0, 0, 0, 0⟩)
abbrev q_look : Str := "_law_ending.<locals>._law_look"
abbrev mkLook (cl : List (Str × Addr)) (c' : Addr) : NF := NF.of st_look "_law_look" q_look cl c'
theorem st_look_eq : st_look = .FunctionDef "_law_look" (C8.fnArgs st_look) (C8.fnBody st_look) [] none [] (C8.fnScope st_look) none "_law_look" ⟨(match st_look with | .FunctionDef _ _ _ _ _ _ _ _ _ p => p | _ => ⟨0, 0, 0, 0⟩).line, (match st_look with | .FunctionDef _ _ _ _ _ _ _ _ _ p => p | _ => ⟨0, 0, 0, 0⟩).col, (match st_look with | .FunctionDef _ _ _ _ _ _ _ _ _ p => p | _ => ⟨0, 0, 0, 0⟩).endLine, (match st_look with | .FunctionDef _ _ _ _ _ _ _ _ _ p => p | _ => ⟨0, 0, 0, 0⟩).endCol⟩ := rfl
/-- the tables of code objects, each with its one name -/
abbrev toN (T : List (Addr × Str)) : List NTab := T.map fun p => (p.1, fun _ _ => p.2)
theorem toN_of {T : List (Addr × Str)} {H : Hp} (h : Tabs T H) : TabsN (toN T) H := fun p hp => by
  obtain ⟨q, hq, e⟩ := List.mem_map.mp hp
  subst e
  exact h q hq
theorem toN_to {T : List (Addr × Str)} {H : Hp} (h : TabsN (toN T) H) : Tabs T H := fun p hp => h (p.1, fun _ _ => p.2) (List.mem_map.mpr ⟨p, hp, rfl⟩)
/-- _law_ending gives a watch -/
def sp_l_ending (T : List (Addr × Str)) : Sp := fun vs H Q _ => ∃ z : Int, vs = [.int z] ∧ Tabs T H ∧ ∀ (f c' c : Addr) (cl : List (Str × Addr)) (H' : Hp), ExtN H H' → Tabs T H' → CloAt H' f (mkLook cl c') "_law_last" c (.int z) → Q (.ref f) H'
theorem body_ending : defBody s_l_ending = [st_look, .Return (some (.Name "_law_look" (match (defBody s_l_ending).getD 1 (.Pass ⟨0,0,0,0⟩) with | .Return (some (.Name _ p)) _ => p | _ => ⟨0,0,0,0⟩))) (match (defBody s_l_ending).getD 1 (.Pass ⟨0,0,0,0⟩) with | .Return _ p => p | _ => ⟨0,0,0,0⟩)] := rfl
theorem q_look_eq : q_look = ("_law_ending.<locals>." : Str) ++ "_law_look" := by decide +kernel
theorem look_names : ∀ y ∈ (C8.fnScope st_look).names, y.2 = .free → y.1 = "_law_last" := by decide +kernel
theorem look_has : ((("_law_last" : Str), NameKind.free)) ∈ (C8.fnScope st_look).names := by decide +kernel
section
variable {P : Program} {w : World} {K : Frg} {mg : Str → Option Value} {base : Heap} {CX : CXT} {T : List (Addr × Str)}
theorem ok_l_ending (F : F_l_ending K) (TB : TabB base mg (He.cT K d_l_ending.at_).1 (He.cT K d_l_ending.at_).2) (hm : ((He.cT K d_l_ending.at_).2, q_look) ∈ T) (hu : ∀ p ∈ T, p.1 = (He.cT K d_l_ending.at_).2 → p.2 = q_look) :
    Ok P w K mg base CX 2 ("_law_ending", none) P_l_ending (sp_l_ending T) := by
  obtain ⟨fd, F⟩ := F
  refine ⟨fd, F.bindsN fun _ _ _ _ _ _ us hl => match us, hl with | [_], _ => rfl, ⟨fun vs H Q E h => ?_, fun A outer s H args us vs Q E hr e0 hb r hsp => ?_⟩⟩
  · obtain ⟨z, rfl, _⟩ := h
    rfl
  obtain ⟨oc, od, dV, kV, doc, pm, an, cdv, ct, osl, rfl, lk, hcd, _, _⟩ := F.ex
  obtain ⟨c0, rfl⟩ := He.codeIn_ref hcd
  have ec : He.codeOf K d_l_ending.at_ = c0 := He.codeOf_eq lk rfl
  have TB : TabB base mg c0 (He.cT K d_l_ending.at_).2 := by
    have z := TB
    rw [show (He.cT K d_l_ending.at_).1 = c0 from ec] at z
    exact z
  obtain ⟨z, rfl, hT, hq⟩ := hsp
  have S := sc_l_ending
  have KX : K.In s.heap := e0.mod.kin.keeps fun b o e => (e0.bs b o e).1
  have lim : s.heap.NoLimit := e0.mod.nolimit.keeps fun b o e => (e0.bs b o e).1
  have hkind : ∀ y ∈ P_l_ending.zip us, d_l_ending.scope.names.lookup y.1 = some .local ∨ (d_l_ending.scope.names.lookup y.1 = some .cell ∧ ((cellsFrom (s.heap.objs.size + 1) d_l_ending.scope.names []).lookup y.1).isSome = true) := fun ⟨n, v⟩ hy => by
    rcases S.par n (List.of_mem_zip hy).1 with q | q
    · exact .inl q
    · exact .inr ⟨q, PySem.W.cellsFrom_some _ _ _ (.inl q)⟩
  refine codeAny_call_function hr.depth (KX _ _ lk) rfl S.co S.gen rfl (PySem.W.codeRec_of KX hcd) (hb _ _ _ _ ?_)
  refine wpAny_newFunctionEnv_cells S.kind hkind fun env he s1 x => ?_
  subst he
  refine ⟨lim.keeps x.toInCall.keep, codeAny_func ?_⟩
  have I : L2.Inv (cxOf CX P w K mg base N_l_ending d_l_ending.qual d_l_ending.scope (He.fAd K d_l_ending.at_) (.ref c0) A outer s H E) [] (L2.start N_l_ending [.int z]) H s1 := inv_start S hr.hd e0 rfl r x
  show wpAny _ _ (execs (defBody s_l_ending) _) _ _ _
  rw [body_ending]
  refine wpAny_execs_cons (thn ((ps_ndefMS (X := cxOf CX P w K mg base N_l_ending d_l_ending.qual d_l_ending.scope (He.fAd K d_l_ending.at_) (.ref c0) A outer s H E) (nm := fun _ _ => q_look) (T := toN T) (i := 1) st_look_eq TB rfl
    (List.mem_map.mpr ⟨_, hm, rfl⟩) q_look_eq (fun p hp e => by
      obtain ⟨q, hq, e2⟩ := List.mem_map.mp hp
      subst e2
      show (fun _ _ => q.2) = fun _ _ => q_look
      rw [hu q hq e]) (ndef_free (sc := defScope s_l_ending) (fr := ["_law_last"]) (by decide +kernel)) rfl rfl rfl S.nd rfl (Or.inl rfl) (.inl rfl)).run [] s1 (L2.start N_l_ending [.int z]) H
      { nx := fun σ' H' => ∃ f c' : Addr, σ' = (L2.start N_l_ending [.int z]).set 1 (some (.ref f)) ∧ ExtN H H' ∧ TabsN (toN T) H' ∧ H' f = some (FnO f (mkLook (cloFrom (cellsFrom (s.heap.objs.size + 1) d_l_ending.scope.names []) (C8.fnScope st_look).names []) c')) ∧ H' c' = some (CodeO c' q_look), rt := fun _ _ => False } I
      ⟨toN_of hT, fun f c' H1 eN _ T1 _ f1 c1 => ⟨f, c', rfl, eN, T1, f1, c1⟩⟩) fun fl s2 hsp => ?_)
  cases fl with
  | ret u =>
    obtain ⟨_, _, _, _, _, q⟩ := hsp
    exact q.elim
  | brk =>
    obtain ⟨_, _, _, q⟩ := hsp
    exact q.elim
  | cont =>
    obtain ⟨_, _, _, q⟩ := hsp
    exact q.elim
  | next =>
    obtain ⟨σ2, H2, I2, f, c', rfl, eN, T1, f1, c1⟩ := hsp
    refine wpAny_execs_cons (wpAny_Return_some (thn ((pe_var (X := cxOf CX P w K mg base N_l_ending d_l_ending.qual d_l_ending.scope (He.fAd K d_l_ending.at_) (.ref c0) A outer s H E) (i := 1) rfl (.inl rfl)).run [] s2 _ H2 (fun v H3 => v = .ref f ∧ H3 = H2) I2 ⟨.ref f, rfl, rfl, rfl⟩) fun u s3 ⟨v, H3, J, rv, ev, eH⟩ => ?_))
    subst ev eH
    have hfree : ∀ y ∈ (C8.fnScope st_look).names, y.2 = .free → ∃ c, (cellsFrom (s.heap.objs.size + 1) d_l_ending.scope.names []).lookup y.1 = some c := fun y hy e => by
      rcases ndef_free (sc := defScope s_l_ending) (nsc := C8.fnScope st_look) (fr := ["_law_last"]) (by decide +kernel) y hy e with k | k
      · exact J.ok.has _ (.inl k)
      · exact J.ok.has _ (.inr k)
    obtain ⟨m, hn, hl⟩ := id J.loc
    obtain ⟨u0, r0, lk0⟩ := hl 0 "_law_last" (.int z) rfl rfl (.inr (.inl rfl))
    rcases lk0 with ⟨k, _⟩ | ⟨_, c, hc, hcell⟩
    · cases k
    have nc : H3 c = none := J.freeC _ c hc
    obtain ⟨oc, hoc, hdc⟩ := id hcell
    have n0 : ∀ o, s.heap.get? c ≠ some o := fun o e => absurd (Nat.lt_of_lt_of_le (Heap.lt_size e) (J.ok.cab _ c rfl hc)) (Nat.lt_irrefl _)
    have C : CloAt (upd H3 c (CellO c (.int z))) f (mkLook (cloFrom (cellsFrom (s.heap.objs.size + 1) d_l_ending.scope.names []) (C8.fnScope st_look).names []) c') "_law_last" c (.int z) := {
      fn := by rw [upd_ne (ne_of_none f1 nc)]; exact f1
      co := by
        show upd H3 c (CellO c (.int z)) c' = some (CodeO c' q_look)
        rw [upd_ne (ne_of_none c1 nc)]; exact c1
      cell := clo_has hfree look_has hc
      only := fun x a ea => by
        have e1 := clo_cm hfree ea
        rcases cloFrom_mem (PySem.mem_of_lookup ea) with hm | ⟨h1, _⟩
        · cases hm
        · have e2 := look_names _ h1 rfl
          have e2 : x = "_law_last" := e2
          subst e2
          exact ⟨rfl, Option.some.inj (e1.symm.trans hc)⟩
      val := upd_same
      nf := ne_of_none f1 nc
      nc := ne_of_none c1 nc }
    show CE outer P w H s Q u s3
    refine ⟨.ref f, upd H3 c (CellO c (.int z)), J.os, J.bare, ⟨J.base.keep, J.base.slot, fun b o e n hx => ?_, J.base.there, fun b xs q => ?_, fun b o xs q => ?_, fun b ps q => ?_⟩, HOk.put J.hok nc (cellO_ok r0 hcell), rv, hq f c' c _ _ (fun b o e n => ?_) (toN_to (T1.ext fun b o e => ?_)) C⟩
    · rw [upd_ne (fun z => n0 o (by rw [← z]; exact e))]
      exact J.base.free b o e n hx
    · have q := J.base.tups b xs q
      rw [upd_ne (ne_of_none q nc)]; exact q
    · have q := J.base.frzs b o xs q
      rw [upd_ne (ne_of_none q nc)]; exact q
    · obtain ⟨m, q⟩ := J.base.tbls b ps q
      exact ⟨m, by rw [upd_ne (ne_of_none q nc)]; exact q⟩
    · have q := eN b o e n
      rw [upd_ne (ne_of_none q nc)]; exact q
    · rw [upd_ne (ne_of_none e nc)]; exact e
end
end GB
set_option maxHeartbeats 4000000
/-! GClo3: the watch. -/
namespace GB
open PySem PySem.Spec PyProof.Rows L2 LamX NdefX
section
variable {X : Cx} {T N I x : String} {e : Expr} {es : List Expr} {t : TA} {p pos : Pos}
/-- KeyError(e, ..): its context is None -/
theorem pmk_excN {nm : Str} (hc : ExcClass T N I) (ty : typeOf (.type T) = pure (.type "type")) (hg : Gl X nm) (hm : X.mg nm = none) (hv : bootBuiltins nm = some (.type T)) (ha : PA X (e :: es) t) (hn : nm ≠ "__name__" := by decide) (hdb : (nm == ("__debug__" : Str)) = false := by decide)
    (he : starEach (e :: es) X.env = (false, eval e X.env) :: starEach es X.env := by rfl) (hpl : (backTo pos (starEach es X.env)).any (·.1) = false := by rfl) :
    L2N.PMk X (.Call (.Name nm p) (e :: es) [] pos) (fun σ H Q => t σ H fun vs H1 => vs.length ≤ sizeLine ∧ ∀ d, Q (.type T) d H1) := by
  intro pins s σ H Q J h
  refine wpAny_Call_Name_kw (ld_blt J hg hm hv ?_ hn hdb)
  refine PyProof.Rows.callWith_type1 (thn (ha.run pos pins s σ H _ J h) fun us s1 hh => ?_) he hpl
  obtain ⟨vs, H1, I1, r1, q0, q1⟩ := hh
  refine PyProof.Rows.call_exc hc (fun h' a mk => ?_) (Nat.le_trans (Nat.le_of_eq r1.length.symm) q0)
  obtain ⟨ob, t0, ha', hcls, hd⟩ := mk.there
  exact ⟨a, ob, _, s1, H1, .type T, ob.dict, rfl, I1, mk.keeps, mk.new, ha', ⟨hcls, rfl, fun vs e => by rw [hd] at e; cases e; rfl⟩, hd, rfl, I1.hok.gone mk.new, rfl, I1.bare, (fun _ _ _ => ⟨PySem.W.Looks.of_pure hc.base, PySem.W.Looks.of_pure ty⟩), q1 ob.dict⟩
end
abbrev N_look : List Str := ["_law_mark", "_law_number", "_law_value_here", "_law_last"]
abbrev P_look : List Str := ["_law_mark", "_law_number", "_law_value_here"]
theorem sc_look : NScope N_look P_look ["_law_last"] (C8.fnScope st_look) := nscope_by (by decide +kernel)
/-- the watch raises KeyError from that mark on -/
def sp_look : List (Option V) → Sp := fun ws vs H Q E => ∃ l m n v : Int, ws = [some (.int l)] ∧ vs = [.int m, .int n, .int v] ∧ (l ≤ m → ∀ d, E (.type "KeyError") d H) ∧ (¬ l ≤ m → Q .non H)
section
variable {P : Program} {w : World} {K : Frg} {mg : Str → Option Value} {base : Heap}
theorem ok_look (T : Txt K mg) (f : Addr) (cl : List (Str × Addr)) (c' : Addr) : NOk P w K mg base (L2N.CX P w) 1 f (mkLook cl c') P_look ["_law_last"] sp_look := by
  refine nok_of (N := N_look) sc_look (fun doc pm ctv us hl => match us, hl with | [_, _, _], _ => rfl) (fun ws vs H Q E h => ?_) (fun A outer s H vs ws Q E hr hf hc hl h => ?_)
  · obtain ⟨l, m, n, v, _, rfl, _⟩ := h
    rfl
  · obtain ⟨l, m, n, v, rfl, rfl, h1, h2⟩ := h
    have tk : L2N.Takes (ncx (L2N.CX P w) P w K mg base N_look (mkLook cl c') f A outer s H E) (fun cls d _ H => E cls d H) := L2N.takes_of rfl rfl rfl rfl
    refine ⟨_, pss_one (ps_if (pt_cmpR op_ge (pe_var (i := 0) rfl (.inl rfl)) (pe_var (i := 3) rfl (.inr (.inr rfl))) (nomark _))
      (pss_one (L2N.ps_raise rfl tk (pmk_excN excClass_KeyError ty_KeyError rfl T.bi.KeyError boot_KeyError (pa_cons (pe_var (i := 0) rfl (.inl rfl)) pa_nil)))) pss_nil), ?_⟩
    refine ⟨_, rfl, _, rfl, _, _, rfl, rfl, _, rfl, ?_⟩
    refine iteD (fun c => ?_) fun c => ?_
    · exact ⟨_, rfl, szk (n := 1) (by decide), h1 (of_decide_eq_true c)⟩
    · exact h2 (of_decide_eq_false c)
end
end GB
set_option maxHeartbeats 4000000
/-! GSn: a copy of a machine's lists, kept while the machine runs; the states of a machine by the number of statements. -/
namespace GB
open PySem PySem.Spec PyProof.Rows L2 LamX NdefX
/-- the state after k statements -/
def GS (pol : Pol) (prog : List Stm) (k : Nat) : MS := run pol (prog.take k)
theorem GS_succ {pol : Pol} {prog : List Stm} {k : Nat} {st : Stm} (h : prog[k]? = some st) : GS pol prog (k + 1) = (GS pol prog k).step pol st := by
  unfold GS run
  rw [List.take_succ, h]
  show (prog.take k ++ [st]).foldl (MS.step pol) MS.zero = _
  rw [List.foldl_append] <;> rfl
/-- what the code needs of program and policy -/
structure Gd (pol : Pol) (prog : List Stm) : Prop where
  vp : ValP prog
  h60 : prog.length ≤ 60
  vq : ValQ pol
  fit : ∀ k st, prog[k]? = some st → Fit (GS pol prog k) st
  bd : ∀ k, Bd (GS pol prog k)
  recs : ∀ k, k ≤ prog.length → (GS pol prog k).recs.length = k
  bok : ∀ k r, k ≤ prog.length → (GS pol prog k).recs.getLast? = some r → BOk (GS pol prog k).cells r.ch.reverse ∧ r.rows ≤ (GS pol prog k).rows.length ∧ r.cells ≤ (GS pol prog k).cells.length ∧ r.cells ≤ (GS pol prog k).makers.length ∧ r.cells ≤ (GS pol prog k).roots.length ∧
    r.seen ≤ (GS pol prog k).seen.length ∧ r.made ≤ (GS pol prog k).made.length
  seen : ∀ k, k < prog.length → (GS pol prog (k + 1)).seen.length = (GS pol prog k).seen.length ∨ (GS pol prog (k + 1)).seen.length = (GS pol prog k).seen.length + 1
  back : ∀ k, k + 1 ≤ prog.length → (GS pol prog (k + 1)).back = GS pol prog k
theorem Gd.mono {pol : Pol} {prog : List Stm} (G : Gd pol prog) {j : Nat} : ∀ {n : Nat}, j + n ≤ prog.length → (GS pol prog j).seen.length ≤ (GS pol prog (j + n)).seen.length
  | 0, _ => Nat.le_refl _
  | n + 1, h => by
    have h1 := G.mono (j := j) (n := n) (by omega)
    have h2 := G.seen (j + n) (by omega)
    rw [← Nat.add_assoc]
    omega
section
variable {K : Frg} {H H' : Hp} {m : Addr} {p q : V} {b b' : Bool} {d d1 d2 : MD} {s s1 : MS} {l' : Fl → Addr} {ds' : List (Addr × List (Key × V))}
def vl' (d : MD) (ds' : List (Addr × List (Key × V))) : Fl → List V := upL d.vl .cells (ds'.map fun e => .ref e.1)
def SnF (l' : Fl → Addr) (ds' : List (Addr × List (Key × V))) (a : Addr) : Prop := (∃ f, a = l' f) ∨ a ∈ ds'.map (·.1)
/-- the copy -/
structure Sn (H : Hp) (d : MD) (l' : Fl → Addr) (ds' : List (Addr × List (Key × V))) : Prop where
  lst : ∀ f, H (l' f) = some (.lst (vl' d ds' f))
  inj : ∀ f g, l' f = l' g → f = g
  dic : ∀ e ∈ ds', H e.1 = some (.dK e.2)
  dnd : (ds'.map (·.1)).Nodup
  con : ds'.map (·.2) = d.ds.map (·.2)
def Far (m : Addr) (d1 : MD) (l' : Fl → Addr) (ds' : List (Addr × List (Key × V))) : Prop := ∀ a, SnF l' ds' a → ¬ foot m d1 a
theorem Sn.there (x : Sn H d l' ds') {a : Addr} (h : SnF l' ds' a) : H a ≠ none := by
  rcases h with ⟨f, rfl⟩ | h
  · rw [x.lst f]; simp
  · obtain ⟨e, he, rfl⟩ := List.mem_map.mp h
    rw [x.dic e he]; simp
theorem Sn.keep (x : Sn H d l' ds') (f : Far m d1 l' ds') (c : Ch m d1 H H' d2) : Sn H' d l' ds' ∧ Far m d2 l' ds' :=
  ⟨⟨fun g => c.1.at_ (x.lst g) (f _ (.inl ⟨g, rfl⟩)), x.inj, fun e he => c.1.at_ (x.dic e he) (f _ (.inr (List.mem_map.mpr ⟨e, he, rfl⟩))), x.dnd, x.con⟩, fun a ha hf => by
    rcases c.2 a hf with z | z
    · exact f a ha z
    · exact x.there ha z⟩
theorem Sn.same (x : Sn H d l' ds') (f : Same H H') : Sn H' d l' ds' := ⟨fun g => f _ _ (x.lst g), x.inj, fun e he => f _ _ (x.dic e he), x.dnd, x.con⟩
theorem DsA.snd : ∀ {l l2 : List (Addr × List (Key × V))} {c : List Dic}, DsA H l c → l2.map (·.2) = l.map (·.2) → DsA H l2 c
  | [], [], [], _, _ => trivial
  | e :: r, e2 :: r2, c :: t, ⟨h1, h2⟩, z => by
    rw [List.map_cons, List.map_cons] at z
    injection z with z1 z2
    exact ⟨by rw [z1]; exact h1, h2.snd z2⟩
  | [], _ :: _, _, _, z => by simp at z
  | _ :: _, [], _, _, z => by simp at z
  | [], [], _ :: _, h, _ => h.elim
  | _ :: _, _ :: _, [], h, _ => h.elim
/-- the machine set back to the copy -/
theorem Sn.back {H2 : Hp} {dx : Addr} (x : Sn H' d l' ds') (far : Far m d1 l' ds') (m0 : MA K H m p q b d s) (tp : Tp H H') (m1 : MA K H' m p q b' d1 s1) (rk : Rk1 d d1) (h2 : H2 m = some (.ins (CM K) dx (mfs p q l' false))) (hk : ∀ a o, a ≠ m → H' a = some o → H2 a = some o) :
    MA K H2 m p q false ⟨dx, l', vl' d ds', ds', d.cs⟩ s ∧ ∀ a, foot m ⟨dx, l', vl' d ds', ds', d.cs⟩ a → foot m d1 a ∨ SnF l' ds' a := by
  have hi := m1.h.ins
  obtain ⟨_, ⟨t, ht⟩⟩ := rk
  have hcs : ∀ e ∈ d.cs, e ∈ d1.cs := fun e he => by rw [ht]; exact List.mem_append_left _ he
  have hmn : ∀ a o, H' a = some o → (∀ C dx fs, o ≠ .ins C dx fs) → H2 a = some o := fun a o h n => hk a o (ne_of h hi (n _ _ _)) h
  have tp2 : Tp H H2 := fun a xs h => hmn _ _ (tp _ _ h) fun _ _ _ z => by cases z
  have y := m0.v.tp tp2
  refine ⟨⟨⟨h2, fun f => hmn _ _ (x.lst f) (fun _ _ _ z => by cases z), x.inj, fun e he => hmn _ _ (x.dic e he) (fun _ _ _ z => by cases z), x.dnd, fun e he => hmn _ _ (m1.h.chs e (hcs e he)) (fun _ _ _ z => by cases z), m0.h.cnd, fun e he f z => ?_⟩, y.rows, rfl, y.dics.snd x.con, y.makers, y.roots, y.seen, y.made, y.recs⟩, fun a ha => ?_⟩
  · exact far _ (.inl ⟨f, rfl⟩) (.inr (.inr (.inr (List.mem_map.mpr ⟨e, hcs e he, z⟩))))
  · rcases ha with h | ⟨g, h⟩ | h | h
    · exact .inl (.inl h)
    · exact .inr (.inl ⟨g, h⟩)
    · exact .inr (.inr h)
    · obtain ⟨e, he, rfl⟩ := List.mem_map.mp h
      exact .inl (.inr (.inr (.inr (List.mem_map.mpr ⟨e, hcs e he, rfl⟩))))
/-- a closure is none of the machine's own objects -/
theorem MH.clo {f c : Addr} {F : NF} {y : Str} {v : V} (h : MH K H m p q b d) (C : CloAt H f F y c v) {a : Addr} (ha : a = f ∨ a = F.c ∨ a = c) : ¬ foot m d a := fun hf => by
  have e1 : ∃ φ, H a = some (.ext φ) := by
    rcases ha with rfl | rfl | rfl
    · exact ⟨_, C.fn⟩
    · exact ⟨_, C.co⟩
    · exact ⟨_, C.val⟩
  obtain ⟨φ, e1⟩ := e1
  rcases hf with rfl | ⟨f, rfl⟩ | ha | ha
  · rw [h.ins] at e1; cases e1
  · rw [h.lst f] at e1; cases e1
  · obtain ⟨e, he, rfl⟩ := List.mem_map.mp ha
    rw [h.dic e he] at e1; cases e1
  · obtain ⟨e, he, rfl⟩ := List.mem_map.mp ha
    rw [h.chs e he] at e1; cases e1
theorem MH.cloKeep {f c : Addr} {F : NF} {y : Str} {v : V} (h : MH K H m p q b d) (C : CloAt H f F y c v) (k : Fr (foot m d) H H') : CloAt H' f F y c v :=
  C.ext fun b o e _ hb => k.at_ e (h.clo C hb)
end
end GB
set_option maxHeartbeats 4000000
/-! GRun: a machine is run. -/
namespace GB
open PySem PySem.Spec PyProof.Rows L2 LamX NdefX
local macro_rules | `(tactic| walk_at "g") => `(tactic| first
  | refine ⟨_, rfl, ?_⟩
  | refine ⟨_, _, rfl, rfl, ?_⟩
  | refine ⟨_, _, _, _, rfl, rfl, SqT.of (by assumption), by rfl, ?_⟩
  | refine ⟨_, _, _, _, rfl, rfl, SqL.of (by assumption), by rfl, ?_⟩
  | refine ⟨_, _, _, _, rfl, rfl, SqL.of (by assumption), atI_nat (by assumption), ?_⟩
  | refine ⟨rfl, ⟨rfl, by decide⟩, ?_⟩
  | refine ⟨_, _, _, _, _, rfl, .ty _, .base (.tup (by assumption)), kt_tup, ?_⟩
  | refine ⟨_, _, _, _, _, rfl, .ty _, .base (.str _), kt_str, ?_⟩
  | refine ⟨_, _, rfl, .inr (SqT.of (by assumption)), ?_⟩
  | refine ⟨_, _, rfl, .inl (SqL.of (by assumption)), ?_⟩
  | refine iteT_of (by first | decide +kernel | rfl) ?_
  | refine iteF_of (by first | decide +kernel | rfl) ?_
  | refine iteT_of (btw_t (by omega)) ?_
  | refine iteF_of (by rw [btw_t (by omega)]; rfl) ?_
  | refine ⟨_, _, rfl, rfl, by assumption, ?_⟩
  | refine ⟨_, _, _, rfl, rfl, by assumption, ?_⟩
  | refine ⟨_, _, _, _, _, rfl, by assumption, Txt.cl (by assumption), by first | exact Txt.no_kept_program (by assumption) | exact Txt.no_kept_policy (by assumption) | exact Txt.no_rows (by assumption) | exact Txt.no_cells (by assumption) | exact Txt.no_makers (by assumption) | exact Txt.no_roots (by assumption) | exact Txt.no_seen (by assumption) | exact Txt.no_made (by assumption) | exact Txt.no_records (by assumption) | exact Txt.no_busy (by assumption), by rfl, ?_⟩
  | refine ⟨_, _, _, rfl, by assumption, by rfl, ?_⟩
  | refine ⟨_, _, _, rfl, ?_⟩
  | refine ⟨_, _, rfl, SqT.of (by assumption), by rfl, ?_⟩
  | refine ⟨_, _, rfl, ?_⟩
  | refine ⟨.inl (by decide), ?_⟩
  | refine ⟨.inl ⟨rfl, _, SqL.of (by assumption)⟩, ?_⟩
  | refine ⟨rfl, ?_⟩)
local macro_rules | `(tactic| walk_at "gs") => `(tactic| repeat walk_at "g")
local macro_rules | `(tactic| walk_at "b") => `(tactic| (first | decide +kernel | (simp only [decide_eq_true_eq, decide_eq_false_iff_not, List.length_map, V.int.injEq, Bool.not_eq_true', Bool.not_eq_false']; omega)))
section
variable {P : Program} {w : World} {K : Frg} {mg : Str → Option Value} {base : Heap}
/-- no read of the run has a mark from l on -/
def Calm (pol : Pol) (prog : List Stm) (k j : Nat) (l : Int) : Prop := (GS pol prog j).seen.length ≤ (GS pol prog k).seen.length ∨ ((GS pol prog j).seen.length : Int) ≤ l
def sp_M_run : Sp := fun vs H Q E => ∃ (m pa qa wf c' c : Addr) (cl : List (Str × Addr)) (l : Int) (d : MD) (prog : List Stm) (pol : Pol) (k : Nat), vs = [.ref m, .ref wf] ∧ MA K H m (.ref pa) (.ref qa) false d (GS pol prog k) ∧ PrV pa H prog ∧ poV qa H pol ∧ Gd pol prog ∧ k ≤ prog.length ∧
  CloAt H wf (mkLook cl c') "_law_last" c (.int l) ∧
  (Calm pol prog k prog.length l → ∀ H' d', MA K H' m (.ref pa) (.ref qa) false d' (GS pol prog prog.length) → Ch m d H H' d' → Q (.int ((prog.length : Int) - (k : Nat))) H') ∧
  (¬ Calm pol prog k prog.length l → ∀ H' d' dd, MA K H' m (.ref pa) (.ref qa) false d' (GS pol prog k) → Ch m d H H' d' → E (.type "KeyError") dd H')
/-- behind the copies -/
def tlR (K : Frg) (H0 : Hp) (m pa qa wf c' c : Addr) (cl : List (Str × Addr)) (l : Int) (d : MD) (prog : List Stm) (pol : Pol) (k : Nat) (E : XK) : TS := fun D σ H => ∃ (l' : Fl → Addr) (ds' : List (Addr × List (Key × V))) (d1 : MD),
  σ = [some (.ref m), some (.ref wf), some (.int k), some (.ref (l' .rows)), some (.ref (l' .seen)), some (.ref (l' .made)), some (.ref (l' .recs)), some (.ref (l' .cells)), some (.ref (l' .makers)), some (.ref (l' .roots)), none, none, none, none, none] ∧
  Same H0 H ∧ Sn H d l' ds' ∧ (∀ a, SnF l' ds' a → H0 a = none) ∧
  (Calm pol prog k prog.length l → ∀ H' d', MA K H' m (.ref pa) (.ref qa) false d' (GS pol prog prog.length) → Ch m d H0 H' d' → D.rt (.int ((prog.length : Int) - (k : Nat))) H') ∧
  (¬ Calm pol prog k prog.length l → ∀ H' d' dd, MA K H' m (.ref pa) (.ref qa) false d' (GS pol prog k) → Ch m d H0 H' d' → E (.type "KeyError") dd H')
def tlB (K : Frg) (H0 : Hp) (m pa qa wf c' c : Addr) (cl : List (Str × Addr)) (l : Int) (d : MD) (prog : List Stm) (pol : Pol) (k : Nat) (W : WX) : TS := fun D σ H => ∃ (l' : Fl → Addr) (ds' : List (Addr × List (Key × V))),
  σ = [some (.ref m), some (.ref wf), some (.int k), some (.ref (l' .rows)), some (.ref (l' .seen)), some (.ref (l' .made)), some (.ref (l' .recs)), some (.ref (l' .cells)), some (.ref (l' .makers)), some (.ref (l' .roots)), some .non, none, none, none, none] ∧
  Same H0 H ∧ Sn H d l' ds' ∧ (∀ a, SnF l' ds' a → H0 a = none) ∧
  (Calm pol prog k prog.length l → ∀ σ' H' d' y1 y2 y3 y4, σ' = [some (.ref m), some (.ref wf), some (.int k), some (.ref (l' .rows)), some (.ref (l' .seen)), some (.ref (l' .made)), some (.ref (l' .recs)), some (.ref (l' .cells)), some (.ref (l' .makers)), some (.ref (l' .roots)), some (.bl true), y1, y2, y3, y4] →
    MA K H' m (.ref pa) (.ref qa) false d' (GS pol prog prog.length) → Ch m d H0 H' d' → D.nx σ' H') ∧
  (¬ Calm pol prog k prog.length l → ∀ σ' H' d' dd j y1 y2 y3 y4, σ' = [some (.ref m), some (.ref wf), some (.int k), some (.ref (l' .rows)), some (.ref (l' .seen)), some (.ref (l' .made)), some (.ref (l' .recs)), some (.ref (l' .cells)), some (.ref (l' .makers)), some (.ref (l' .roots)), some .non, y1, y2, y3, y4] →
    MA K H' m (.ref pa) (.ref qa) true d' (GS pol prog j) → Ch m d H0 H' d' → Rk1 d d' → Sn H' d l' ds' → Far m d' l' ds' → W (.type "KeyError") dd σ' H')
theorem era_back {H : Hp} {c : Addr} {o : HO} (h : H c = some o) : upd (era H c) c o = H := by
  funext b
  by_cases z : b = c
  · rw [z, upd_same, h]
  · rw [upd_ne z, era_ne z]
/-- places that stand, all of them different -/
structure Tr (H0 H : Hp) (L : List Addr) : Prop where
  th : ∀ x ∈ L, H x ≠ none ∧ H0 x = none
  nd : L.Nodup
theorem Tr.new {H0 H : Hp} {L : List Addr} (x : Tr H0 H L) (sm : Same H0 H) {a : Addr} (ha : H a = none) (o : HO) : Tr H0 (upd H a o) (a :: L) where
  th := fun y hy => by
    rcases List.mem_cons.mp hy with rfl | hy
    · refine ⟨by rw [upd_same]; simp, ?_⟩
      cases e : H0 y with
      | none => rfl
      | some o => rw [sm _ _ e] at ha; cases ha
    · refine ⟨?_, (x.th y hy).2⟩
      have := (x.th y hy).1
      cases e : H y with
      | none => exact absurd e this
      | some o => rw [Same.new ha _ _ e]; simp
  nd := List.nodup_cons.mpr ⟨fun h => (x.th a h).1 ha, x.nd⟩
theorem Tr.same {H0 H H' : Hp} {L : List Addr} (x : Tr H0 H L) (f : Same H H') : Tr H0 H' L := ⟨fun y hy => ⟨by
  have := (x.th y hy).1
  cases e : H y with
  | none => exact absurd e this
  | some o => rw [f _ _ e]; simp, (x.th y hy).2⟩, x.nd⟩
theorem kU {G : Hp} {m a : Addr} {o u : HO} (ha : a ≠ m) (h : G a = some o) : upd G m u a = some o := by rw [upd_ne ha]; exact h
theorem kT {G : Hp} {t a : Addr} {o u : HO} (ht : G t = none) (h : G a = some o) : upd G t u a = some o := Same.new ht _ _ h
/-- the finally suite behind an exception -/
def tlS (K : Frg) (m : Addr) (p q : V) : TS := fun D σ H' => ∃ (x1 x2 y1 y2 y3 y4 : Option V) (l' l1 : Fl → Addr) (dx : Addr) (b : Bool), σ = [some (.ref m), x1, x2, some (.ref (l' .rows)), some (.ref (l' .seen)), some (.ref (l' .made)), some (.ref (l' .recs)), some (.ref (l' .cells)), some (.ref (l' .makers)), some (.ref (l' .roots)), some .non, y1, y2, y3, y4] ∧
  H' m = some (.ins (CM K) dx (mfs p q l1 b)) ∧ ∀ σ2 H2, H2 m = some (.ins (CM K) dx (mfs p q l' false)) → (∀ a o, a ≠ m → H' a = some o → H2 a = some o) → D.nx σ2 H2
theorem ok_M_run (T : Txt K mg) : OkK P w K mg base (L2N.CX P w) 6 ("Machine", some "run") P_M_run 1 ["watch"] (sp_M_run (K := K)) := by
  refine OkK.of T.f_M_run sc_M_run (fun _ _ _ _ _ _ us ws hl hl2 => match us, hl, ws, hl2 with | [_], _, [_], _ => rfl) (fun vs H Q E h => ?_) fun f cdv A outer s H vs Q E hr h => ?_
  · obtain ⟨m, pa, qa, wf, c', c, cl, l, d, prog, pol, k, rfl, _⟩ := h
    rfl
  · obtain ⟨m, pa, qa, wf, c', c, cl, l, d, prog, pol, k, rfl, hm, hp, hpo, G, hk, hclo, kN, kE⟩ := h
    have tk : L2N.Takes (cxOf (L2N.CX P w) P w K mg base N_M_run d_M_run.qual d_M_run.scope f cdv A outer s H E) (fun cls d _ H => E cls d H) := L2N.takes_of rfl rfl rfl rfl
    have hi := hm.h.ins
    have l1 := hm.h.lst .recs
    have l2 := hm.h.lst .rows
    have l3 := hm.h.lst .seen
    have l4 := hm.h.lst .made
    refine ⟨_, (pss_cons (ps_expr (pm0 (ok_M_need_rest T) T.cl T.m_need_rest hr pass0 (pv 0)))
      (pss_cons (ps_set (i := 2) sc_M_run.nd rfl (Or.inl rfl) (pe_callB call_len_seq rfl T.bi.len (by decide +kernel) (pa_cons (pe_fld (pv 0) rfl) pa_nil)))
      (pss_cons (ps_asg (pe_tup (pa_cons (pe_callTy call_list_of rfl T.bi.list (by decide +kernel) (pa_cons (pe_fld (pv 0) rfl) pa_nil)) (pa_cons (pe_callTy call_list_of rfl T.bi.list (by decide +kernel) (pa_cons (pe_fld (pv 0) rfl) pa_nil)) (pa_cons (pe_callTy call_list_of rfl T.bi.list (by decide +kernel) (pa_cons (pe_fld (pv 0) rfl) pa_nil)) (pa_cons (pe_callTy call_list_of rfl T.bi.list (by decide +kernel) (pa_cons (pe_fld (pv 0) rfl) pa_nil)) pa_nil))))) (pg_tup rfl (pgs_cons (pg_name (i := 3) sc_M_run.nd rfl (Or.inl rfl)) (pgs_cons (pg_name (i := 4) sc_M_run.nd rfl (Or.inl rfl)) (pgs_cons (pg_name (i := 5) sc_M_run.nd rfl (Or.inl rfl)) (pgs_cons (pg_name (i := 6) sc_M_run.nd rfl (Or.inl rfl)) pgs_nil))))))
      (pss_cons (ps_par3 (i := 7) (j := 8) (l := 9) rfl sc_M_run.nd rfl rfl rfl rfl rfl rfl (pa_cons (pe_lc (own := [("one", 14)]) rfl sc_M_run.nd (pi_list (pe_fld (pv 0) rfl)) (blkOk_by rfl) (fun _ _ _ _ _ => (pg_name (i := 14) sc_M_run.nd rfl (Or.inl rfl) (.inr rfl))) (fun _ _ _ _ _ => pts_nil) (fun _ _ _ _ _ => (pe_callTy call_dictD rfl T.bi.dict (by decide +kernel) (pa_cons (pv 14) pa_nil)))) (pa_cons (pe_callTy call_list_of rfl T.bi.list (by decide +kernel) (pa_cons (pe_fld (pv 0) rfl) pa_nil)) (pa_cons (pe_callTy call_list_of rfl T.bi.list (by decide +kernel) (pa_cons (pe_fld (pv 0) rfl) pa_nil)) pa_nil))) rfl)
      (PSs.weak (t' := (tlR K H m pa qa wf c' c cl l d prog pol k E)) (pss_cons (ps_set (i := 10) sc_M_run.nd rfl (Or.inl rfl) pe_non)
      (pss_cons (ps_fin rfl rfl rfl tk (fun W pn xe tkW hpa => PSs.weak (t' := (tlB K H m pa qa wf c' c cl l d prog pol k) W) (pss_cons (ps_while hpa (pt_cmpR op_lt (pe_callB call_len_seq rfl T.bi.len (by decide +kernel) (pa_cons (pe_fld (pv 0) rfl) pa_nil)) (pe_callB call_len_seq rfl T.bi.len (by decide +kernel) (pa_cons (pe_fld (pv 0) rfl) pa_nil)) (nomark _))
         (pss_cons (ps_set (i := 11) sc_M_run.nd rfl (Or.inl rfl) (pe_callB call_len_seq rfl T.bi.len (by decide +kernel) (pa_cons (pe_fld (pv 0) rfl) pa_nil)))
         (pss_cons (ps_expr (pm0 (ok_M_advance T) T.cl T.m_advance hr pass0 (pv 0)))
         (pss_one (ps_if (PW.pt (pw_and (pt_cmpR op_notN (pv 1) pe_non (nomark _)) (pw_and1 (pt_cmpR op_gt (pe_callB call_len_seq rfl T.bi.len (by decide +kernel) (pa_cons (pe_fld (pv 0) rfl) pa_nil)) (pv 11) (nomark _)))))
          (pss_cons (ps_asg (pe_ix ix_list (pe_fld (pv 0) rfl) (pe_un un_neg pe_int) (fun _ _ => rfl)) (pg_tup rfl (pgs_cons (pg_name (i := 12) sc_M_run.nd rfl (Or.inl rfl)) (pgs_cons (pg_name (i := 13) sc_M_run.nd rfl (Or.inl rfl)) pgs_nil))))
          (pss_cons (ps_fld (pv 0) pe_bl rfl)
          (pss_cons (ps_expr (pe_clo (i := 1) (fun f cl c' => ok_look T f cl c') hr (fun σ => L2N.passAt tkW σ) rfl (.inl rfl) (pa_cons (pv 11) (pa_cons (pv 12) (pa_cons (pv 13) pa_nil)))))
          (pss_one (ps_fld (pv 0) pe_bl rfl)))))
          pss_nil)))))
        (pss_one (ps_set (i := 10) sc_M_run.nd rfl (Or.inl rfl) pe_bl))) ?bd)
       (pss_cons (ps_fld (pv 0) pe_bl rfl)
        (pss_one (ps_if (pt_cmpR op_isN (pv 10) pe_non (nomark _))
         (pss_cons (ps_asg (pe_tup (pa_cons (pv 3) (pa_cons (pv 4) (pa_cons (pv 5) (pa_cons (pv 6) pa_nil))))) (pg_tup rfl (pgs_cons (pg_fld (pv 0)) (pgs_cons (pg_fld (pv 0)) (pgs_cons (pg_fld (pv 0)) (pgs_cons (pg_fld (pv 0)) pgs_nil))))))
         (pss_one (ps_asg (pe_tup (pa_cons (pv 7) (pa_cons (pv 8) (pa_cons (pv 9) pa_nil)))) (pg_tup rfl (pgs_cons (pg_fld (pv 0)) (pgs_cons (pg_fld (pv 0)) (pgs_cons (pg_fld (pv 0)) pgs_nil)))))))
         pss_nil)))
       (fun a oe pn hv => PSs.weak (t' := (tlS K m (.ref pa) (.ref qa))) (pss_cons (ps_fld (pv 0) pe_bl rfl)
        (pss_one (ps_if (pt_cmpR op_isN (pv 10) pe_non (nomark _))
         (pss_cons (ps_asg (pe_tup (pa_cons (pv 3) (pa_cons (pv 4) (pa_cons (pv 5) (pa_cons (pv 6) pa_nil))))) (pg_tupH ⟨(a, oe), ⟨rfl, hv⟩, List.mem_cons_self⟩ (pgs_cons (pg_fld (pv 0)) (pgs_cons (pg_fld (pv 0)) (pgs_cons (pg_fld (pv 0)) (pgs_cons (pg_fld (pv 0)) pgs_nil))))))
         (pss_one (ps_asg (pe_tup (pa_cons (pv 7) (pa_cons (pv 8) (pa_cons (pv 9) pa_nil)))) (pg_tupH ⟨(a, oe), ⟨rfl, hv⟩, List.mem_cons_self⟩ (pgs_cons (pg_fld (pv 0)) (pgs_cons (pg_fld (pv 0)) (pgs_cons (pg_fld (pv 0)) pgs_nil)))))))
         pss_nil))) ?fs))
      (pss_one (ps_ret (pe_op op_sub (pe_callB call_len_seq rfl T.bi.len (by decide +kernel) (pa_cons (pe_fld (pv 0) rfl) pa_nil)) (pv 2)))))) ?tl4))))), ?_⟩
    case bd =>
      intro D σ H1 hh
      obtain ⟨l', ds', rfl, sm, sn, fresh, kN, kE⟩ := hh
      clear hi l1 l2 l3 l4
      refine ⟨fun n σ H' => ∃ j d1 y1 y2 y3 y4, n = prog.length - j ∧ k ≤ j ∧ j ≤ prog.length ∧ σ = [some (.ref m), some (.ref wf), some (.int k), some (.ref (l' .rows)), some (.ref (l' .seen)), some (.ref (l' .made)), some (.ref (l' .recs)), some (.ref (l' .cells)), some (.ref (l' .makers)), some (.ref (l' .roots)), some .non, y1, y2, y3, y4] ∧
        MA K H' m (.ref pa) (.ref qa) false d1 (GS pol prog j) ∧ Ch m d H H' d1 ∧ Rk1 d d1 ∧ Sn H' d l' ds' ∧ Far m d1 l' ds' ∧ Calm pol prog k j l,
        ⟨_, k, d, none, none, none, none, rfl, Nat.le_refl _, hk, rfl, hm.same sm, Ch.same sm, Rk1.refl d, sn, fun a ha hf => ?_, .inl (Nat.le_refl _)⟩, ?_⟩
      · obtain ⟨o, e, _⟩ := hm.h.get hf
        rw [fresh a ha] at e
        cases e
      rintro n σ H' ⟨j, d1, y1, y2, y3, y4, rfl, hkj, hj, rfl, m1, c1, r1, sn1, far1, calm⟩
      obtain ⟨ws, hp1, hp2⟩ := hp.tp c1.tp
      have hwl : ws.length = prog.length := by rw [hp2.length, List.length_map]
      have hi := m1.h.ins
      have l1 := m1.h.lst .recs
      have l2 := m1.h.lst .seen
      walk_at "gs"
      have hrl : (d1.vl .recs).length = j := by rw [m1.v.recs.lengths.1, G.recs j hj]
      have hsl : (d1.vl .seen).length = (GS pol prog j).seen.length := by rw [m1.v.seen.length, List.length_map]
      rw [hrl, hwl]
      refine iteD (fun q => ?_) (fun q => ?_)
      · have hlt : j < prog.length := by simpa using q
        obtain ⟨st, hst⟩ : ∃ st, prog[j]? = some st := ⟨prog[j], List.getElem?_eq_getElem hlt⟩
        refine ⟨fun σ' H2 => ∃ d2 y1 y2 y3 y4, σ' = [some (.ref m), some (.ref wf), some (.int k), some (.ref (l' .rows)), some (.ref (l' .seen)), some (.ref (l' .made)), some (.ref (l' .recs)), some (.ref (l' .cells)), some (.ref (l' .makers)), some (.ref (l' .roots)), some .non, y1, y2, y3, y4] ∧
          MA K H2 m (.ref pa) (.ref qa) false d2 (GS pol prog (j + 1)) ∧ Ch m d H H2 d2 ∧ Rk1 d d2 ∧ Sn H2 d l' ds' ∧ Far m d2 l' ds' ∧ Calm pol prog k (j + 1) l,
          fun σ' H2 ⟨d2, z1, z2, z3, z4, e, m2, c2, r2, sn2, far2, calm2⟩ => ⟨prog.length - (j + 1), by omega, j + 1, d2, z1, z2, z3, z4, rfl, by omega, hlt, e, m2, c2, r2, sn2, far2, calm2⟩, ?_⟩
        walk_at "gs"
        refine ⟨m, pa, qa, false, d1, GS pol prog j, prog, st, pol, rfl, m1, ⟨ws, hp1, hp2⟩, by rw [G.recs j hj]; exact hst, G.fit j st hst, hpo.tp c1.tp, G.vq, G.bd j, by rw [G.recs j hj]; exact Nat.le_trans hj G.h60, fun H2 d2 m2 c2 r2 => ?_⟩
        rw [← GS_succ hst] at m2
        have c12 := c1.trans c2
        have r12 := r1.trans r2
        obtain ⟨sn2, far2⟩ := sn1.keep far1 c2
        have hs2 : (d2.vl .seen).length = (GS pol prog (j + 1)).seen.length := by rw [m2.v.seen.length, List.length_map]
        clear hi l1 l2
        have hi := m2.h.ins
        have l2 := m2.h.lst .seen
        walk_at "gs"
        rw [hs2, hsl]
        have hL : (mfs (.ref pa) (.ref qa) d2.l false).length < 1000 := by show (10 : Nat) < 1000; decide
        have hL2 : (mfs (.ref pa) (.ref qa) d2.l true).length < 1000 := by show (10 : Nat) < 1000; decide
        have hse := G.seen j hlt
        have hmk := G.mono (j := k) (n := j - k) (by omega)
        rw [show k + (j - k) = j by omega] at hmk
        have hmn := G.mono (j := j + 1) (n := prog.length - (j + 1)) (by omega)
        rw [show j + 1 + (prog.length - (j + 1)) = prog.length by omega] at hmn
        refine iteD (fun q2 => ?_) (fun q2 => ?_)
        · have q3 : (GS pol prog j).seen.length < (GS pol prog (j + 1)).seen.length := by simpa using q2
          have hgt : (GS pol prog (j + 1)).seen.length = (GS pol prog j).seen.length + 1 := by omega
          obtain ⟨v, hv⟩ : ∃ v, (d2.vl .seen)[(d2.vl .seen).length - 1]? = some v := ⟨_, List.getElem?_eq_getElem (by omega)⟩
          obtain ⟨dd0, hdd, rv⟩ := m2.v.seen.getV hv
          obtain ⟨ct, _, rfl⟩ := Option.map_eq_some_iff.mp (by rw [List.getElem?_map] at hdd; exact hdd)
          obtain ⟨ta, rfl, hta⟩ := (rp_ct ct).mp rv
          walk_at "gs"
          refine ⟨_, _, _, _, rfl, rfl, SqL.of l2, atI_lastq (by rw [List.getLast?_eq_getElem?]; exact hv), ?_⟩
          walk_at "gs"
          refine ⟨_, _, _, _, rfl, m2.h.ins, T.cl, T.no_busy, hL, ?_⟩
          have m3 : MA K (upd H2 m (.ins (CM K) d2.dx (mfs (.ref pa) (.ref qa) d2.l true))) m (.ref pa) (.ref qa) true d2 (GS pol prog (j + 1)) := ⟨m2.h.busy true, m2.v.tp (tp_put m2.h.ins fun _ z => by cases z)⟩
          have c3 : Ch m d2 H2 (upd H2 m (.ins (CM K) d2.dx (mfs (.ref pa) (.ref qa) d2.l true))) d2 := Ch.put (.inl rfl) m2.h.ins (fun _ z => by cases z) fun _ h => h
          obtain ⟨sn3, far3⟩ := sn2.keep far2 c3
          have clo3 := hm.h.cloKeep hclo (c12.trans c3).1
          refine ⟨wf, c', c, cl, .int l, rfl, clo3, ?_⟩
          walk_at "gs"
          refine ⟨clo3, l, _, _, _, rfl, rfl, fun hl dd => ?_, fun hl => ?_⟩
          · show W _ dd _ (upd (era (upd H2 m (.ins (CM K) d2.dx (mfs (.ref pa) (.ref qa) d2.l true))) c) c (CellO c (.int l)))
            rw [era_back clo3.val]
            refine kE (fun z => ?_) _ _ d2 dd (j + 1) _ _ _ _ rfl m3 (c12.trans c3) r12 sn3 far3
            rcases z with z | z
            · omega
            · omega
          · have hG : (upd (era (upd H2 m (.ins (CM K) d2.dx (mfs (.ref pa) (.ref qa) d2.l true))) c) c (CellO c (.int l))) = (upd H2 m (.ins (CM K) d2.dx (mfs (.ref pa) (.ref qa) d2.l true))) := era_back clo3.val
            have hiG : (upd (era (upd H2 m (.ins (CM K) d2.dx (mfs (.ref pa) (.ref qa) d2.l true))) c) c (CellO c (.int l))) m = _ := (congrFun hG m).trans m3.h.ins
            have m4 : MA K (upd (upd H2 m (.ins (CM K) d2.dx (mfs (.ref pa) (.ref qa) d2.l true))) m (.ins (CM K) d2.dx (mfs (.ref pa) (.ref qa) d2.l false))) m (.ref pa) (.ref qa) false d2 (GS pol prog (j + 1)) := ⟨m3.h.busy false, m3.v.tp (tp_put m3.h.ins fun _ z => by cases z)⟩
            have c4 : Ch m d2 (upd H2 m (.ins (CM K) d2.dx (mfs (.ref pa) (.ref qa) d2.l true))) (upd (upd H2 m (.ins (CM K) d2.dx (mfs (.ref pa) (.ref qa) d2.l true))) m (.ins (CM K) d2.dx (mfs (.ref pa) (.ref qa) d2.l false))) d2 := Ch.put (.inl rfl) m3.h.ins (fun _ z => by cases z) fun _ h => h
            obtain ⟨sn4, far4⟩ := sn3.keep far3 c4
            have c5 := (c12.trans c3).trans c4
            rw [← hG] at m4 c5 sn4
            walk_at "gs"
            exact ⟨_, _, _, _, rfl, hiG, T.cl, T.no_busy, hL2, d2, _, _, _, _, rfl, m4, c5, r12, sn4, far4, .inr (by omega)⟩
        · have q3 : ¬ (GS pol prog j).seen.length < (GS pol prog (j + 1)).seen.length := by simpa using q2
          have heq : (GS pol prog (j + 1)).seen.length = (GS pol prog j).seen.length := by omega
          refine ⟨d2, _, _, _, _, rfl, m2, c12, r12, sn2, far2, ?_⟩
          unfold Calm
          rw [heq]
          exact calm
      · have e : j = prog.length := by
          have : ¬ j < prog.length := by simpa using q
          omega
        subst e
        walk_at "gs"
        exact kN calm _ H' d1 _ _ _ _ rfl m1 c1
    case fs =>
      intro D σ H1 hh
      obtain ⟨x1, x2, y1, y2, y3, y4, l', l0, dx, bb, rfl, hx, k⟩ := hh
      walk_at "gs"
      refine ⟨_, _, _, _, rfl, hx, T.cl, T.no_busy, (by show (10 : Nat) < 1000; decide), ?_⟩
      walk_at "gs"
      refine ⟨szk (n := 4) (by decide), fun t1 h1 => ?_⟩
      refine ⟨_, _, rfl, SqT.of upd_same, by rfl, ?_⟩
      walk_at "gs"
      refine ⟨_, _, _, _, rfl, kT h1 upd_same, T.cl, T.no_rows, (by show (10 : Nat) < 1000; decide), ?_⟩
      walk_at "gs"
      refine ⟨_, _, _, _, rfl, upd_same, T.cl, T.no_seen, (by show (10 : Nat) < 1000; decide), ?_⟩
      walk_at "gs"
      refine ⟨_, _, _, _, rfl, upd_same, T.cl, T.no_made, (by show (10 : Nat) < 1000; decide), ?_⟩
      walk_at "gs"
      refine ⟨_, _, _, _, rfl, upd_same, T.cl, T.no_records, (by show (10 : Nat) < 1000; decide), ?_⟩
      walk_at "gs"
      refine ⟨szk (n := 3) (by decide), fun t2 h2 => ?_⟩
      refine ⟨_, _, rfl, SqT.of upd_same, by rfl, ?_⟩
      walk_at "gs"
      refine ⟨_, _, _, _, rfl, kT h2 upd_same, T.cl, T.no_cells, (by show (10 : Nat) < 1000; decide), ?_⟩
      walk_at "gs"
      refine ⟨_, _, _, _, rfl, upd_same, T.cl, T.no_makers, (by show (10 : Nat) < 1000; decide), ?_⟩
      walk_at "gs"
      refine ⟨_, _, _, _, rfl, upd_same, T.cl, T.no_roots, (by show (10 : Nat) < 1000; decide), ?_⟩
      walk_at "gs"
      exact k _ _ upd_same fun a o ha h => kU ha (kU ha (kU ha (kT h2 (kU ha (kU ha (kU ha (kU ha (kT h1 (kU ha h)))))))))
    case tl4 =>
      intro D σ H1 hh
      obtain ⟨l', ds', d1, rfl, sm, sn, fresh, kN, kE⟩ := hh
      clear hi l1 l2 l3 l4
      refine ⟨l', ds', rfl, sm, sn, fresh, fun hc σ2 H2 d2 y1 y2 y3 y4 e2 m2 c2 => ?_, fun hc σ2 H2 d2 dd j y1 y2 y3 y4 e2 m2 c2 rk sn2 far2 => ?_⟩
      · subst e2
        walk_at "gs"
        refine ⟨_, _, _, _, rfl, m2.h.ins, T.cl, T.no_busy, (by show (10 : Nat) < 1000; decide), ?_⟩
        have m3 : MA K (upd H2 m (.ins (CM K) d2.dx (mfs (.ref pa) (.ref qa) d2.l false))) m (.ref pa) (.ref qa) false d2 (GS pol prog prog.length) := ⟨m2.h.busy false, m2.v.tp (tp_put m2.h.ins fun _ z => by cases z)⟩
        have c3 : Ch m d2 H2 (upd H2 m (.ins (CM K) d2.dx (mfs (.ref pa) (.ref qa) d2.l false))) d2 := Ch.put (.inl rfl) m2.h.ins (fun _ z => by cases z) fun _ h => h
        have hi := m3.h.ins
        have l1 := m3.h.lst .recs
        walk_at "gs"
        rw [m3.v.recs.lengths.1, G.recs _ (Nat.le_refl _)]
        exact kN hc _ d2 m3 (c2.trans c3)
      · subst e2
        refine ⟨_, _, _, _, _, _, l', d2.l, d2.dx, true, rfl, m2.h.ins, fun σ3 H3 h3 k3 => ?_⟩
        obtain ⟨mb, fb⟩ := sn2.back far2 hm c2.tp m2 rk h3 k3
        refine kE hc H3 _ dd mb ⟨fun a o ha hw => k3 a o (fun z => ?_) (c2.1 a o ha hw), fun a ha => ?_⟩
        · rw [z, hm.h.ins] at ha
          obtain ⟨xs, e⟩ := hw (.inl z)
          rw [e] at ha
          cases ha
        · rcases fb a ha with z | z
          · exact c2.2 a z
          · exact .inr (fresh a z)
    walk_at "gs"
    refine ⟨m, _, _, d, rfl, hm.h, ?_⟩
    have sm0 := Same.refl H
    have tr0 : Tr H H [] := ⟨fun _ h => (by cases h), List.nodup_nil⟩
    have l5 := hm.h.lst .cells
    have l6 := hm.h.lst .makers
    have l7 := hm.h.lst .roots
    walk_at "gs"
    intro a1 h1
    have sm1 := Same.trans sm0 (Same.new (o := .lst (d.vl .rows)) h1)
    have tr1 := tr0.new sm0 h1 (.lst (d.vl .rows))
    have hi1 := sm1 _ _ hi
    have l31 := sm1 _ _ l3
    walk_at "gs"
    intro a2 h2
    have sm2 := Same.trans sm1 (Same.new (o := .lst (d.vl .seen)) h2)
    have tr2 := tr1.new sm1 h2 (.lst (d.vl .seen))
    have hi2 := sm2 _ _ hi
    have l42 := sm2 _ _ l4
    walk_at "gs"
    intro a3 h3
    have sm3 := Same.trans sm2 (Same.new (o := .lst (d.vl .made)) h3)
    have tr3 := tr2.new sm2 h3 (.lst (d.vl .made))
    have hi3 := sm3 _ _ hi
    have l13 := sm3 _ _ l1
    walk_at "gs"
    intro a4 h4
    have sm4 := Same.trans sm3 (Same.new (o := .lst (d.vl .recs)) h4)
    have tr4 := tr3.new sm3 h4 (.lst (d.vl .recs))
    have b4 := upd_same (H := upd (upd (upd H a1 (.lst (d.vl .rows))) a2 (.lst (d.vl .seen))) a3 (.lst (d.vl .made))) (a := a4) (o := .lst (d.vl .recs))
    have b3 := Same.new (o := .lst (d.vl .recs)) h4 _ _ (upd_same (H := upd (upd H a1 (.lst (d.vl .rows))) a2 (.lst (d.vl .seen))) (a := a3) (o := .lst (d.vl .made)))
    have b2 := Same.new (o := .lst (d.vl .recs)) h4 _ _ (Same.new (o := .lst (d.vl .made)) h3 _ _ (upd_same (H := upd H a1 (.lst (d.vl .rows))) (a := a2) (o := .lst (d.vl .seen))))
    have b1 := Same.new (o := .lst (d.vl .recs)) h4 _ _ (Same.new (o := .lst (d.vl .made)) h3 _ _ (Same.new (o := .lst (d.vl .seen)) h2 _ _ (upd_same (H := H) (a := a1) (o := .lst (d.vl .rows)))))
    generalize upd (upd (upd (upd H a1 (.lst (d.vl .rows))) a2 (.lst (d.vl .seen))) a3 (.lst (d.vl .made))) a4 (.lst (d.vl .recs)) = H4 at sm4 tr4 b1 b2 b3 b4 ⊢
    walk_at "gs"
    refine ⟨szk (n := 4) (by decide), fun t ht => ?_⟩
    have st := Same.new (o := .tup [.ref a1, .ref a2, .ref a3, .ref a4]) ht
    have sm5 := Same.trans sm4 st
    have tr5 := tr4.same st
    have e5 := upd_same (H := H4) (a := t) (o := .tup [.ref a1, .ref a2, .ref a3, .ref a4])
    replace b1 := st _ _ b1
    replace b2 := st _ _ b2
    replace b3 := st _ _ b3
    replace b4 := st _ _ b4
    generalize upd H4 t (.tup [.ref a1, .ref a2, .ref a3, .ref a4]) = H5 at sm5 tr5 b1 b2 b3 b4 e5 ⊢
    clear tr0 tr1 tr2 tr3 sm1 sm2 sm3 h1 h2 h3 h4 hi1 hi2 hi3 l31 l42 l13
    have hi5 := sm5 _ _ hi
    have l55 := sm5 _ _ l5
    walk_at "gs"
    have hdl : (d.vl .cells).length = d.ds.length := by rw [hm.v.cells, List.length_map]
    have hdz : d.ds.length ≤ 900 := by rw [hm.v.dics.length]; exact (G.bd k).cells
    refine ⟨⟨_, SqL.of l55⟩, fun D hD => ?_⟩
    refine lc_list (xs := d.vl .cells) (fun i H' => Same H5 H' ∧ ∃ ds1 : List (Addr × List (Key × V)), ds1.length = i ∧ H' D = some (.lst (ds1.map fun e => .ref e.1)) ∧ (∀ e ∈ ds1, H' e.1 = some (.dK e.2)) ∧ Tr H H' (D :: ds1.map (·.1)) ∧ ds1.map (·.2) = (d.ds.take i).map (·.2)) ⟨Same.new hD, [], rfl, upd_same, fun e he => (by cases he), ?_, rfl⟩ (fun i H' _ pv => SqL.of (pv.1 _ _ l55)) (fun i x H' hx pv => ?_) fun H' pv => ?_
    · exact (Tr.mk (H0 := H) (H := H5) (L := []) (fun _ h => (by cases h)) List.nodup_nil).new sm5 hD (.lst [])
    · obtain ⟨sm, ds1, hl1, hDD, hds, tr, hcon⟩ := pv
      rw [hm.v.cells, List.getElem?_map] at hx
      obtain ⟨e, he, rfl⟩ := Option.map_eq_some_iff.mp hx
      have hed := sm _ _ (sm5 _ _ (hm.h.dic e (List.mem_of_getElem? he)))
      have hil := (List.getElem?_eq_some_iff.mp he).1
      walk_at "gs"
      refine ⟨e.1, e.2, rfl, .inl hed, fun p hp => ?_⟩
      have sp := Same.new (o := .dK e.2) hp
      have smA := Same.trans sm5 sm
      have tr2 := tr.new smA hp (.dK e.2)
      have hDp := sp _ _ hDD
      walk_at "gs"
      have nD : ∀ a o, upd H' p (.dK e.2) a = some o → (∀ xs, o ≠ .lst xs) → upd (upd H' p (.dK e.2)) D (.lst (ds1.map (fun e => .ref e.1) ++ [.ref p])) a = some o := fun a o h n => by
        rw [upd_ne (ne_of h hDp (n _))]; exact h
      refine ⟨_, hDp, lt_line (by rw [List.length_map, hl1]; omega), fun a o h => ?_, ds1 ++ [(p, e.2)], by rw [List.length_append, hl1] <;> rfl, by rw [upd_same, List.map_append] <;> rfl, fun x hx => ?_, ?_, ?_⟩
      · rw [upd_ne (ne_of_none h hD)]
        exact sp _ _ (sm _ _ h)
      · rcases List.mem_append.mp hx with z | z
        · exact nD _ _ (sp _ _ (hds x z)) fun _ z => by cases z
        · rw [List.mem_singleton.mp z]
          exact nD _ _ upd_same fun _ z => by cases z
      · refine ⟨fun y hy => ?_, ?_⟩
        · have hy2 : y ∈ p :: D :: ds1.map (·.1) := by
            rcases List.mem_cons.mp hy with z | z
            · rw [z]; simp
            · rw [List.map_append] at z
              rcases List.mem_append.mp z with z | z
              · exact List.mem_cons_of_mem _ (List.mem_cons_of_mem _ z)
              · have z : y = p := by simpa using z
                rw [z]; simp
          obtain ⟨q1, q2⟩ := tr2.th y hy2
          refine ⟨?_, q2⟩
          by_cases z : y = D
          · rw [z, upd_same]; simp
          · rw [upd_ne z]; exact q1
        · have nd := tr2.nd
          rw [List.map_append]
          have h1 := (List.nodup_cons.mp nd).1
          have h2 := (List.nodup_cons.mp nd).2
          refine List.nodup_cons.mpr ⟨fun z => ?_, List.nodup_append.mpr ⟨(List.nodup_cons.mp h2).2, by simp, fun a ha b hb z => ?_⟩⟩
          · rcases List.mem_append.mp z with z | z
            · exact (List.nodup_cons.mp h2).1 z
            · have z : D = p := by simpa using z
              exact h1 (by rw [z]; simp)
          · have hb : b = p := by simpa using hb
            exact h1 (by rw [← hb, ← z]; exact List.mem_cons_of_mem _ ha)
      · rw [List.map_append, hcon, List.take_succ, he, List.map_append] <;> rfl
    · obtain ⟨sm, ds1, hl1, hDD, hds, tr, hcon⟩ := pv
      rw [hdl, List.take_length] at hcon
      have smA := Same.trans sm5 sm
      have hi6 := smA _ _ hi
      have l66 := smA _ _ l6
      walk_at "gs"
      have trD : Tr H H' [D, a4, a3, a2, a1] := ⟨fun y hy => by
        rcases List.mem_cons.mp hy with rfl | hy
        · refine ⟨by rw [hDD]; simp, ?_⟩
          cases e : H y with
          | none => rfl
          | some o => rw [sm5 _ _ e] at hD; cases hD
        · exact (tr5.same sm).th y hy, (tr5.new sm5 hD (.lst [])).nd⟩
      intro a6 h6
      have s6 := Same.new (o := .lst (d.vl .makers)) h6
      have tr6 := trD.new smA h6 (.lst (d.vl .makers))
      have hi7 := s6 _ _ hi6
      have l77 := s6 _ _ (smA _ _ l7)
      walk_at "gs"
      intro a7 h7
      have s7 := Same.new (o := .lst (d.vl .roots)) h7
      have s67 := Same.trans s6 s7
      have tr7 := tr6.new (Same.trans smA s6) h7 (.lst (d.vl .roots))
      walk_at "gs"
      have hk2 : ((d.vl .recs).length : Int) = k := by rw [hm.v.recs.lengths.1, G.recs k hk]
      have smf := Same.trans smA s67
      have c6 := s7 _ _ (upd_same (H := H') (a := a6) (o := .lst (d.vl .makers)))
      have c7 := upd_same (H := upd H' a6 (.lst (d.vl .makers))) (a := a7) (o := .lst (d.vl .roots))
      have cD := s67 _ _ hDD
      have d1' := s67 _ _ (sm _ _ b1)
      have d2' := s67 _ _ (sm _ _ b2)
      have d3' := s67 _ _ (sm _ _ b3)
      have d4' := s67 _ _ (sm _ _ b4)
      refine ⟨lOf a1 D a6 a7 a2 a3 a4, ds1, d, by rw [← hk2] <;> rfl, smf, ⟨fun f => ?_, fun f g e => ?_, fun e he => s67 _ _ (hds e he), ?_, hcon⟩, fun a ha => ?_, kN, kE⟩
      · cases f
        · exact d1'
        · exact cD
        · exact c6
        · exact c7
        · exact d2'
        · exact d3'
        · exact d4'
      · have nd := tr7.nd
        simp only [List.nodup_cons, List.mem_cons, List.not_mem_nil, or_false, not_or] at nd
        cases f <;> cases g <;> first | rfl | (exfalso; simp only [lOf] at e; simp_all)
      · exact (List.nodup_cons.mp tr.nd).2
      · rcases ha with ⟨f, rfl⟩ | ha
        · cases f <;> exact (tr7.th _ (by simp [lOf])).2
        · exact (tr.th a (List.mem_cons_of_mem _ ha)).2
end
end GB
set_option maxHeartbeats 4000000
/-! GL1: the law's pen: draws. -/
namespace GB
open PySem PySem.Spec PyProof.Rows L2
local macro_rules | `(tactic| walk_at "g") => `(tactic| first
  | refine ⟨_, rfl, ?_⟩
  | refine ⟨_, _, rfl, rfl, ?_⟩
  | refine ⟨_, _, _, _, rfl, rfl, SqT.of (by assumption), by rfl, ?_⟩
  | refine ⟨_, _, _, _, rfl, rfl, SqL.of (by assumption), by rfl, ?_⟩
  | refine ⟨_, _, _, _, rfl, rfl, SqL.of (by assumption), atI_nat (by assumption), ?_⟩
  | refine ⟨rfl, ⟨rfl, by decide⟩, ?_⟩
  | refine ⟨_, _, _, _, _, rfl, .ty _, .base (.tup (by assumption)), kt_tup, ?_⟩
  | refine ⟨_, _, _, _, _, rfl, .ty _, .base (.str _), kt_str, ?_⟩
  | refine ⟨_, _, rfl, .inr (SqT.of (by assumption)), ?_⟩
  | refine ⟨_, _, rfl, .inl (SqL.of (by assumption)), ?_⟩
  | refine iteT_of (by first | decide +kernel | rfl) ?_
  | refine iteF_of (by first | decide +kernel | rfl) ?_
  | refine iteT_of (btw_t (by omega)) ?_
  | refine iteF_of (by rw [btw_t (by omega)]; rfl) ?_
  | refine ⟨_, _, rfl, rfl, by assumption, ?_⟩
  | refine ⟨_, _, _, rfl, rfl, by assumption, ?_⟩
  | refine ⟨_, _, _, _, _, rfl, by assumption, Txt.cl (by assumption), by first | exact Txt.no_kept_program (by assumption) | exact Txt.no_kept_policy (by assumption) | exact Txt.no_rows (by assumption) | exact Txt.no_cells (by assumption) | exact Txt.no_makers (by assumption) | exact Txt.no_roots (by assumption) | exact Txt.no_seen (by assumption) | exact Txt.no_made (by assumption) | exact Txt.no_records (by assumption) | exact Txt.no_busy (by assumption), by rfl, ?_⟩
  | refine ⟨_, _, _, rfl, by assumption, by rfl, ?_⟩
  | refine ⟨_, _, _, rfl, ?_⟩
  | refine ⟨_, _, rfl, SqT.of (by assumption), by rfl, ?_⟩
  | refine ⟨_, _, rfl, ?_⟩
  | refine ⟨.inl (by decide), ?_⟩
  | refine ⟨.inl ⟨rfl, _, SqL.of (by assumption)⟩, ?_⟩
  | refine ⟨rfl, ?_⟩)
local macro_rules | `(tactic| walk_at "gs") => `(tactic| repeat walk_at "g")
local macro_rules | `(tactic| walk_at "b") => `(tactic| (first | decide +kernel | (simp only [decide_eq_true_eq, decide_eq_false_iff_not, List.length_map, V.int.injEq, Bool.not_eq_true', Bool.not_eq_false']; omega)))
/-- the pen at a: at most n turns -/
def Pn (H : Hp) (a : Addr) (n : Nat) : Prop := ∃ (xa : Addr) (xs : List Int) (t r : Int), H a = some (.lst [.ref xa, .int t, .int r]) ∧ H xa = some (.lst (xs.map .int)) ∧ xa ≠ a ∧ xs.length ≤ 63 ∧ 0 ≤ t ∧ t ≤ n ∧ 0 ≤ r
theorem Pn.mono {H : Hp} {a : Addr} {n k : Nat} (h : Pn H a n) (z : n ≤ k) : Pn H a k := by
  obtain ⟨xa, xs, t, r, h1, h2, h3, h4, h5, h6, h7⟩ := h
  exact ⟨xa, xs, t, r, h1, h2, h3, h4, h5, by omega, h7⟩
theorem Pn.same {H H' : Hp} {a : Addr} {n : Nat} (h : Pn H a n) (f : Same H H') : Pn H' a n := by
  obtain ⟨xa, xs, t, r, h1, h2, h3⟩ := h
  exact ⟨xa, xs, t, r, f _ _ h1, f _ _ h2, h3⟩
/-- all stays but what stands at a; the pen's script is the same one -/
def Fa (a : Addr) (H H' : Hp) : Prop := Fr (fun x => x = a) H H' ∧ ∀ xa t r, H a = some (.lst [.ref xa, .int t, .int r]) → ∃ t' r', H' a = some (.lst [.ref xa, .int t', .int r'])
theorem Fa.trans {a : Addr} {H H1 H2 : Hp} (f : Fa a H H1) (g : Fa a H1 H2) : Fa a H H2 := ⟨Fr.trans f.1 (W' := fun x => x = a) g.1 fun _ h => .inl h, fun xa t r e => by
  obtain ⟨t', r', e'⟩ := f.2 xa t r e
  exact g.2 xa t' r' e'⟩
theorem Fa.of {a : Addr} {H H1 : Hp} (f : Same H H1) : Fa a H H1 := ⟨Fr.of f, fun xa t r e => ⟨t, r, f _ _ e⟩⟩
theorem Fa.at_ {a b : Addr} {H H1 : Hp} {o : HO} (f : Fa a H H1) (h : H b = some o) (n : b ≠ a) : H1 b = some o := Fr.at_ f.1 h n
theorem Fa.tp {a : Addr} {H H1 : Hp} (f : Fa a H H1) : Tp H H1 := Fr.tp f.1
theorem Fa.mk {a xa : Addr} {t r t' r' : Int} {H H1 : Hp} (f : Fr (fun x => x = a) H H1) (h : H a = some (.lst [.ref xa, .int t, .int r])) (h' : H1 a = some (.lst [.ref xa, .int t', .int r'])) : Fa a H H1 := ⟨f, fun ya u v e => by
  rw [h] at e
  cases e
  exact ⟨_, _, h'⟩⟩
/-- a new object is written over: the pen does not care -/
theorem Pn.upd {H H2 : Hp} {a c : Addr} {n k : Nat} (h : Pn H a n) (f : Fa a H H2) (p : Pn H2 a k) (hc : H c = none) (o : HO) : Pn (L2.upd H2 c o) a k := by
  obtain ⟨xa, xs, t, r, h1, h2, h3, _⟩ := h
  obtain ⟨t', r', e⟩ := f.2 xa t r h1
  obtain ⟨ya, ys, u, v, g1, g2, g3, g4⟩ := p
  rw [e] at g1
  cases g1
  have n1 : a ≠ c := fun z => by rw [z, hc] at h1; cases h1
  have n2 : xa ≠ c := fun z => by rw [z, hc] at h2; cases h2
  exact ⟨xa, ys, _, _, by rw [upd_ne n1]; exact e, by rw [upd_ne n2]; exact g2, g3, g4⟩
theorem Fa.upd {H H2 : Hp} {a c : Addr} (f : Fa a H H2) (hc : H c = none) (hac : a ≠ c) (o : HO) : Fa a H (L2.upd H2 c o) := ⟨fun b u e hw => by
  rw [upd_ne (ne_of_none e hc)]
  exact f.1 b u e hw, fun xa t r e => by
  obtain ⟨t', r', e'⟩ := f.2 xa t r e
  exact ⟨t', r', by rw [upd_ne hac]; exact e'⟩⟩
section
variable {P : Program} {w : World} {K : Frg} {mg : Str → Option Value} {base : Heap}
def sp_l_pen : Sp := fun vs H Q _ => ∃ (a : Addr) (xs : List Int), vs = [.ref a] ∧ H a = some (.lst (xs.map .int)) ∧ ∀ b H', Same H H' → H b = none → Pn H' b 0 → Q (.ref b) H'
theorem ok_l_pen (T : Txt K mg) : Ok P w K mg base CX0 1 ("_law_pen", none) P_l_pen sp_l_pen := by
  refine Ok.of T.f_l_pen sc_l_pen (fun _ _ _ _ _ _ us hl => match us, hl with | [_], _ => rfl) (fun vs H Q E h => ?_) fun f cdv A outer s H vs Q E hr h => ?_
  · obtain ⟨a, xs, rfl, _⟩ := h
    rfl
  · obtain ⟨a, xs, rfl, ha, k⟩ := h
    refine ⟨_, PSs.nox (pss_one (ps_ret (pe_lst (pa_cons (pe_callTy call_list_of rfl T.bi.list (by decide +kernel) (pa_cons (pe_slice sl_list (pv 0) po_none (po_some pe_int)) pa_nil)) (pa_cons pe_int (pa_cons pe_int pa_nil)))))), ?_⟩
    walk_at "gs"
    refine ⟨a, _, rfl, SqL.of ha, fun p1 h1 => ?_⟩
    have s1 := Same.new (o := .lst (cutV (xs.map .int) none (some 63))) h1
    have e1 : upd H p1 (.lst (cutV (xs.map .int) none (some 63))) p1 = _ := upd_same
    walk_at "gs"
    refine fun p2 h2 => ?_
    have s2 := Same.new (o := .lst (cutV (xs.map .int) none (some 63))) h2
    refine ⟨szk (n := 3) (by decide), fun b hb => ?_⟩
    have s3 := Same.new (o := .lst [.ref p2, .int 0, .int 0]) hb
    have hc : ∃ ys : List Int, cutV (xs.map .int) none (some 63) = ys.map .int ∧ ys.length ≤ 63 := by
      refine ⟨(xs.drop (HT.sIx (xs.map V.int).length 0 none)).take (HT.sIx (xs.map V.int).length (xs.map V.int).length (some 63) - HT.sIx (xs.map V.int).length 0 none), by unfold cutV; rw [List.map_take, List.map_drop], ?_⟩
      rw [List.length_take]
      refine Nat.le_trans (Nat.min_le_left _ _) (Nat.le_trans (Nat.sub_le _ _) ?_)
      unfold HT.sIx
      simp
      omega
    obtain ⟨ys, hy, hl⟩ := hc
    have hbn : H b = none := by
      cases e : H b with
      | none => rfl
      | some o => rw [s2 _ _ (s1 _ _ e)] at hb; cases hb
    have hp2 := s3 _ _ (upd_same (H := upd H p1 (.lst (cutV (xs.map .int) none (some 63)))) (a := p2) (o := .lst (cutV (xs.map .int) none (some 63))))
    exact k b _ (Same.trans s1 (Same.trans s2 s3)) hbn ⟨p2, ys, 0, 0, upd_same, by rw [hp2, hy], (fun z => (by rw [z] at hp2; rw [z, upd_same] at hb; cases hb)), hl, by omega, by omega, by omega⟩
/-- the law's draw, the cell known -/
def tlD (H0 : Hp) (a xa : Addr) (xs : List Int) (t r z : Int) (n : Nat) : TS := fun D σ H => ∃ c : Int, σ = [some (.ref a), some (.int z), none, some (.int t), some (.int c), none, none] ∧ H a = some (.lst [.ref xa, .int (t + 1), .int r]) ∧ H xa = some (.lst (xs.map .int)) ∧ Fr (fun x => x = a) H0 H ∧
  ∀ d H', 0 ≤ d → d < z → Fa a H0 H' → Pn H' a (n + 1) → D.rt (.int d) H'
theorem mixA {c t : Int} (h0 : 0 ≤ t) (h1 : t ≤ 100000) : CPow (c % 2147483477 + 138043 * t + 291) 5 := by
  have a1 := Int.emod_nonneg c (show (2147483477 : Int) ≠ 0 by decide)
  have a2 := Int.emod_lt_of_pos c (show (0 : Int) < 2147483477 by decide)
  refine ⟨by decide, by decide, ?_⟩
  omega
theorem mixB {x t : Int} (h0 : 0 ≤ t) (h1 : t ≤ 100000) (x0 : 0 ≤ x) (x1 : x < 2147483647) : CPow (x * (t + 34653) + 72135 * t * t) 3 := by
  refine ⟨by decide, by decide, ?_⟩
  have b1 : 0 ≤ x * (t + 34653) := Int.mul_nonneg x0 (by omega)
  have b2 : x * (t + 34653) ≤ 2147483647 * 134653 := Int.mul_le_mul (by omega) (by omega) (by omega) (by decide)
  have b3 : 0 ≤ 72135 * t * t := Int.mul_nonneg (by omega) h0
  have b4 : 72135 * t * t ≤ 7213500000 * 100000 := Int.mul_le_mul (by omega) h1 h0 (by decide)
  omega
def sp_l_draw : Sp := fun vs H Q _ => ∃ (a : Addr) (z : Int) (n : Nat), vs = [.ref a, .int z] ∧ Pn H a n ∧ n ≤ 100000 ∧ 0 < z ∧ z < 1073741824 ∧ ∀ d H', 0 ≤ d → d < z → Fa a H H' → Pn H' a (n + 1) → Q (.int d) H'
theorem ok_l_draw (T : Txt K mg) : Ok P w K mg base CX0 1 ("_law_draw", none) P_l_draw sp_l_draw := by
  refine Ok.of T.f_l_draw sc_l_draw (fun _ _ _ _ _ _ us hl => match us, hl with | [_, _], _ => rfl) (fun vs H Q E h => ?_) fun f cdv A outer s H vs Q E hr h => ?_
  · obtain ⟨a, z, n, rfl, _⟩ := h
    rfl
  · obtain ⟨a, z, n, rfl, ⟨xa, xs, t, r, h1, h2, h3, h4, h5, h6, h7⟩, hn, hz, hz2, k⟩ := h
    refine ⟨_, PSs.nox (pss_cons (ps_if (pt_cmpR op_gt (pe_ix ix_list (pv 0) pe_int (fun _ _ => rfl)) pe_int (nomark _))
       (pss_cons (ps_set (i := 2) sc_l_draw.nd rfl (Or.inl rfl) (pe_op op_mod (pe_ix ix_list (pv 0) pe_int (fun _ _ => rfl)) (pv 1)))
       (pss_cons (ps_asg (pe_op op_fdiv (pe_ix ix_list (pv 0) pe_int (fun _ _ => rfl)) (pv 1)) (pg_sub (pv 0) pe_int set_list))
       (pss_one (ps_ret (pv 2)))))
       pss_nil)
      (pss_cons (ps_set (i := 3) sc_l_draw.nd rfl (Or.inl rfl) (pe_ix ix_list (pv 0) pe_int (fun _ _ => rfl)))
      (pss_cons (ps_asg (pe_op op_add (pv 3) pe_int) (pg_sub (pv 0) pe_int set_list))
      (pss_cons (ps_set (i := 4) sc_l_draw.nd rfl (Or.inl rfl) (pe_op op_add (pe_op op_mul pe_int (pv 3)) pe_int))
      (pss_cons (ps_if (pt_cmpR (op_neE hr.units) (pe_ix ix_list (pv 0) pe_int (fun _ _ => rfl)) (pe_lst pa_nil) (nomark _))
       (pss_one (ps_set (i := 4) sc_l_draw.nd rfl (Or.inl rfl) (pe_ix ix_list (pe_ix ix_list (pv 0) pe_int (fun _ _ => rfl)) (pe_op op_mod (pv 3) (pe_callB call_len_seq rfl T.bi.len (by decide +kernel) (pa_cons (pe_ix ix_list (pv 0) pe_int (fun _ _ => rfl)) pa_nil))) (fun _ _ => rfl))))
       pss_nil)
      (PSs.weak (t' := (tlD H a xa xs t r z n)) (pss_cons (ps_if (PW.pt (pw_and (pt_cmpR op_lt (pv 3) (pe_callB call_len_seq rfl T.bi.len (by decide +kernel) (pa_cons (pe_ix ix_list (pv 0) pe_int (fun _ _ => rfl)) pa_nil)) (nomark _)) (pw_and1 (pt_cmpR op_ge (pe_callB call_abs rfl T.bi.abs (by decide +kernel) (pa_cons (pv 4) pa_nil)) (pe_op op_pow pe_int pe_int) (nomark _)))))
       (pss_cons (ps_set (i := 5) sc_l_draw.nd rfl (Or.inl rfl) (pe_op op_add (pe_op op_mul pe_int (pe_callB call_abs rfl T.bi.abs (by decide +kernel) (pa_cons (pv 4) pa_nil))) (pe_callTy call_int1 rfl T.bi.int (by decide +kernel) (pa_cons (pe_cmpR op_lt (pv 4) pe_int (nomark _)) pa_nil))))
       (pss_cons (ps_asg (pe_op op_fdiv (pv 5) (pv 1)) (pg_sub (pv 0) pe_int set_list))
       (pss_one (ps_ret (pe_op op_mod (pv 5) (pv 1))))))
       pss_nil)
      (PSs.weak (t' := (tlD H a xa xs t r z n)) (pss_cons (ps_set (i := 6) sc_l_draw.nd rfl (Or.inl rfl) (pe_op op_mod (pe_op op_pow (pe_op op_add (pe_op op_add (pe_op op_mod (pv 4) pe_int) (pe_op op_mul pe_int (pv 3))) pe_int) pe_int) pe_int))
      (pss_cons (ps_set (i := 6) sc_l_draw.nd rfl (Or.inl rfl) (pe_op op_mod (pe_op op_pow (pe_op op_add (pe_op op_mul (pv 6) (pe_op op_add (pv 3) pe_int)) (pe_op op_mul (pe_op op_mul pe_int (pv 3)) (pv 3))) pe_int) pe_int))
      (pss_one (ps_ret (pe_op op_mod (pe_op op_fdiv (pv 6) pe_int) (pv 1)))))) ?tl6)) ?tl5)))))), ?_⟩
    case tl5 =>
      intro D σ H' hh
      obtain ⟨c, rfl, g1, g2, fr, k⟩ := hh
      have ht : t ≤ 100000 := by omega
      walk_at "gs"
      refine iteD (fun q1 => ?_) (fun q1 => ?_)
      · walk_at "gs"
        refine ⟨⟨by decide, by decide, by decide⟩, ?_⟩
        walk_at "gs"
        refine iteD (fun q2 => ?_) (fun q2 => ?_)
        · walk_at "gs"
          refine .inr ⟨_, rfl, ?_⟩
          walk_at "gs"
          refine ⟨⟨hz, hz2⟩, ?_⟩
          walk_at "gs"
          refine ⟨_, _, _, 2, rfl, rfl, g1, rfl, ?_⟩
          walk_at "gs"
          refine ⟨hz, ?_⟩
          have q0 : 0 ≤ 2 * (if c < 0 then -c else c) + (if decide (c < 0) = true then 1 else 0) := by
            split <;> split <;> omega
          exact k _ _ (Int.emod_nonneg _ (by omega)) (Int.emod_lt_of_pos _ hz) (Fa.mk (fr.trans (W' := fun x => x = a) (Fr.put rfl g1 fun _ z => by cases z) fun _ h => .inl h) h1 upd_same) ⟨xa, xs, t + 1, _, upd_same, by rw [upd_ne h3]; exact g2, h3, h4, by omega, by omega, Int.ediv_nonneg q0 (by omega)⟩
        · walk_at "gs"
          exact ⟨g1, g2, fr, k⟩
      · walk_at "gs"
        exact ⟨g1, g2, fr, k⟩
    case tl6 =>
      intro D σ H' hh
      obtain ⟨c, rfl, g1, g2, fr, k⟩ := hh
      have ht : t ≤ 100000 := by omega
      walk_at "gs"
      refine ⟨(by show (0 : Int) < 2147483477; decide), ?_⟩
      walk_at "gs"
      refine ⟨mixA h5 ht, ?_⟩
      walk_at "gs"
      refine ⟨(by show (0 : Int) < 2147483647; decide), ?_⟩
      walk_at "gs"
      refine ⟨.inr ⟨by omega, by omega⟩, ?_⟩
      walk_at "gs"
      refine ⟨.inr ⟨by omega, by omega⟩, ?_⟩
      walk_at "gs"
      refine ⟨mixB h5 ht (Int.emod_nonneg _ (by decide)) (Int.emod_lt_of_pos _ (by decide)), ?_⟩
      walk_at "gs"
      refine ⟨(by show (0 : Int) < 2147483563; decide), ?_⟩
      walk_at "gs"
      refine ⟨⟨by decide, by decide⟩, ?_⟩
      walk_at "gs"
      refine ⟨hz, ?_⟩
      exact k _ _ (Int.emod_nonneg _ (by omega)) (Int.emod_lt_of_pos _ hz) (Fa.mk fr h1 g1) ⟨xa, xs, t + 1, r, g1, g2, h3, h4, by omega, by omega, h7⟩
    walk_at "gs"
    have hx1 := h1
    refine iteD (fun q => ?_) (fun q => ?_)
    · walk_at "gs"
      refine ⟨hz, ?_⟩
      walk_at "gs"
      refine ⟨⟨hz, hz2⟩, ?_⟩
      walk_at "gs"
      refine ⟨_, _, _, 2, rfl, rfl, h1, rfl, ?_⟩
      walk_at "gs"
      have q0 : 0 < r := of_decide_eq_true q
      exact k _ _ (Int.emod_nonneg _ (by omega)) (Int.emod_lt_of_pos _ hz) (Fa.mk (Fr.put rfl h1 fun _ z => by cases z) h1 upd_same) ⟨xa, xs, t, r / z, upd_same, by rw [upd_ne h3]; exact h2, h3, h4, h5, by omega, Int.ediv_nonneg (by omega) (by omega)⟩
    · walk_at "gs"
      refine ⟨_, _, _, 1, rfl, rfl, h1, rfl, ?_⟩
      have fr1 : Fr (fun x => x = a) H (upd H a (.lst [.ref xa, .int (t + 1), .int r])) := Fr.put rfl h1 fun _ z => by cases z
      have g1 : upd H a (.lst [.ref xa, .int (t + 1), .int r]) a = some (.lst [.ref xa, .int (t + 1), .int r]) := upd_same
      have g2 : upd H a (.lst [.ref xa, .int (t + 1), .int r]) xa = some (.lst (xs.map .int)) := by rw [upd_ne h3]; exact h2
      clear h1 h2 hx1
      walk_at "gs"
      refine ⟨szk (n := 0) (by decide), fun p hp => ?_⟩
      have sp := Same.new (o := .lst []) hp
      have f1 := sp _ _ g1
      have f2 := sp _ _ g2
      have fr2 : Fr (fun x => x = a) H (upd (upd H a (.lst [.ref xa, .int (t + 1), .int r])) p (.lst [])) := fr1.trans (W' := fun x => x = a) (Fr.of sp) fun _ h => .inl h
      refine ⟨_, _, _, rfl, rfl, SqL.of f2, SqL.of upd_same, _, rfl, ?_⟩
      cases hxs : xs with
      | nil =>
        rw [hxs] at f2
        walk_at "gs"
        exact ⟨f1, f2, fr2, k⟩
      | cons x0 xr =>
        rw [← hxs]
        refine iteT_of (by rw [hxs] <;> rfl) ?_
        have hl0 : 0 < ((xs.map V.int).length : Int) := by rw [hxs, List.map_cons, List.length_cons]; omega
        walk_at "gs"
        refine ⟨hl0, ?_⟩
        obtain ⟨v, hv⟩ : ∃ v, xs[(t % ((xs.map V.int).length : Int)).toNat]? = some v := by
          refine ⟨_, List.getElem?_eq_getElem ?_⟩
          have e1 := Int.emod_lt_of_pos t hl0
          have e2 := Int.emod_nonneg t (show ((xs.map V.int).length : Int) ≠ 0 by omega)
          rw [List.length_map] at e1 e2 ⊢
          omega
        refine ⟨_, _, _, .int v, rfl, rfl, SqL.of f2, ?_, ?_⟩
        · have e2 := Int.emod_nonneg t (show ((xs.map V.int).length : Int) ≠ 0 by omega)
          obtain ⟨u, hu⟩ := Int.eq_ofNat_of_zero_le e2
          show atI (xs.map V.int) (t % ((xs.map V.int).length : Int)) = _
          rw [hu] at hv ⊢
          exact atI_nat (by rw [List.getElem?_map]; simpa using congrArg (Option.map V.int) hv)
        · walk_at "gs"
          exact ⟨f1, f2, fr2, k⟩
end
end GB
set_option maxHeartbeats 4000000
/-! GL2: values, indices, slices drawn. -/
namespace GB
open PySem PySem.Spec PyProof.Rows L2
local macro_rules | `(tactic| walk_at "g") => `(tactic| first
  | refine ⟨_, rfl, ?_⟩
  | refine ⟨_, _, rfl, rfl, ?_⟩
  | refine ⟨_, _, _, _, rfl, rfl, SqT.of (by assumption), by rfl, ?_⟩
  | refine ⟨_, _, _, _, rfl, rfl, SqL.of (by assumption), by rfl, ?_⟩
  | refine ⟨_, _, _, _, rfl, rfl, SqL.of (by assumption), atI_nat (by assumption), ?_⟩
  | refine ⟨rfl, ⟨rfl, by decide⟩, ?_⟩
  | refine ⟨_, _, _, _, _, rfl, .ty _, .base (.tup (by assumption)), kt_tup, ?_⟩
  | refine ⟨_, _, _, _, _, rfl, .ty _, .base (.str _), kt_str, ?_⟩
  | refine ⟨_, _, rfl, .inr (SqT.of (by assumption)), ?_⟩
  | refine ⟨_, _, rfl, .inl (SqL.of (by assumption)), ?_⟩
  | refine iteT_of (by first | decide +kernel | rfl) ?_
  | refine iteF_of (by first | decide +kernel | rfl) ?_
  | refine iteT_of (btw_t (by omega)) ?_
  | refine iteF_of (by rw [btw_t (by omega)]; rfl) ?_
  | refine ⟨_, _, rfl, rfl, by assumption, ?_⟩
  | refine ⟨_, _, _, rfl, rfl, by assumption, ?_⟩
  | refine ⟨_, _, _, _, _, rfl, by assumption, Txt.cl (by assumption), by first | exact Txt.no_kept_program (by assumption) | exact Txt.no_kept_policy (by assumption) | exact Txt.no_rows (by assumption) | exact Txt.no_cells (by assumption) | exact Txt.no_makers (by assumption) | exact Txt.no_roots (by assumption) | exact Txt.no_seen (by assumption) | exact Txt.no_made (by assumption) | exact Txt.no_records (by assumption) | exact Txt.no_busy (by assumption), by rfl, ?_⟩
  | refine ⟨_, _, _, rfl, by assumption, by rfl, ?_⟩
  | refine ⟨_, _, _, rfl, ?_⟩
  | refine ⟨_, _, rfl, SqT.of (by assumption), by rfl, ?_⟩
  | refine ⟨_, _, rfl, ?_⟩
  | refine ⟨.inl (by decide), ?_⟩
  | refine ⟨.inl ⟨rfl, _, SqL.of (by assumption)⟩, ?_⟩
  | refine ⟨rfl, ?_⟩)
local macro_rules | `(tactic| walk_at "gs") => `(tactic| repeat walk_at "g")
local macro_rules | `(tactic| walk_at "b") => `(tactic| (first | decide +kernel | (simp only [decide_eq_true_eq, decide_eq_false_iff_not, List.length_map, V.int.injEq, Bool.not_eq_true', Bool.not_eq_false']; omega)))
theorem pick3 {x y z : V} {d : Int} (h0 : 0 ≤ d) (h3 : d < 3) : ∃ v, atI [x, y, z] d = some v ∧ (v = x ∨ v = y ∨ v = z) := by
  rcases (show d = 0 ∨ d = 1 ∨ d = 2 by omega) with rfl | rfl | rfl
  · exact ⟨x, rfl, .inl rfl⟩
  · exact ⟨y, rfl, .inr (.inl rfl)⟩
  · exact ⟨z, rfl, .inr (.inr rfl)⟩
theorem pick2 {x y : V} {d : Int} (h0 : 0 ≤ d) (h3 : d < 2) : ∃ v, atI [x, y] d = some v ∧ (v = x ∨ v = y) := by
  rcases (show d = 0 ∨ d = 1 by omega) with rfl | rfl
  · exact ⟨x, rfl, .inl rfl⟩
  · exact ⟨y, rfl, .inr rfl⟩
theorem Pn.ne {H : Hp} {a p : Addr} {n : Nat} (h : Pn H a n) (hp : H p = none) : p ≠ a := by
  obtain ⟨xa, xs, t, r, h1, _⟩ := h
  intro z
  rw [z, h1] at hp
  cases hp
section
variable {P : Program} {w : World} {K : Frg} {mg : Str → Option Value} {base : Heap}
def sp_l_value : Sp := fun vs H Q _ => ∃ (a : Addr) (n : Nat), vs = [.ref a] ∧ Pn H a n ∧ n ≤ 90000 ∧ ∀ x H', Vv x → Fa a H H' → Pn H' a (n + 4) → Q (.int x) H'
theorem ok_l_value (T : Txt K mg) : Ok P w K mg base CX0 2 ("_law_value", none) P_l_value sp_l_value := by
  refine Ok.of T.f_l_value sc_l_value (fun _ _ _ _ _ _ us hl => match us, hl with | [_], _ => rfl) (fun vs H Q E h => ?_) fun f cdv A outer s H vs Q E hr h => ?_
  · obtain ⟨a, n, rfl, _⟩ := h
    rfl
  · obtain ⟨a, n, rfl, pn, hn, k⟩ := h
    refine ⟨_, PSs.nox (pss_one (ps_ret (pe_ix ix_list (pe_lst (pa_cons (pf (ok_l_draw T) T.g_l_draw hr rfl pass0 (pa_cons (pv 0) (pa_cons pe_int pa_nil))) (pa_cons (pe_op op_sub pe_int (pf (ok_l_draw T) T.g_l_draw hr rfl pass0 (pa_cons (pv 0) (pa_cons pe_int pa_nil)))) (pa_cons (pe_op op_sub (pe_op op_sub (pe_op op_pow pe_int pe_int) pe_int) (pf (ok_l_draw T) T.g_l_draw hr rfl pass0 (pa_cons (pv 0) (pa_cons pe_int pa_nil)))) pa_nil)))) (pf (ok_l_draw T) T.g_l_draw hr rfl pass0 (pa_cons (pv 0) (pa_cons pe_int pa_nil))) (fun _ _ => rfl)))), ?_⟩
    walk_at "gs"
    refine ⟨a, _, n, rfl, pn, by omega, by decide, by decide, fun d1 H1 a1 b1 f1 p1 => ?_⟩
    walk_at "gs"
    refine ⟨a, _, _, rfl, p1, by omega, by decide, by decide, fun d2 H2 a2 b2 f2 p2 => ?_⟩
    walk_at "gs"
    refine ⟨⟨by decide, by decide, by decide⟩, ?_⟩
    walk_at "gs"
    refine ⟨a, _, _, rfl, p2, by omega, by decide, by decide, fun d3 H3 a3 b3 f3 p3 => ?_⟩
    walk_at "gs"
    refine ⟨szk (n := 3) (by decide), fun p hp => ?_⟩
    have sp := Same.new (o := .lst [.int d1, .int (0 - d2), .int (10 ^ 30 - 1 - d3)]) hp
    walk_at "gs"
    refine ⟨a, _, _, rfl, p3.same sp, by omega, by decide, by decide, fun d4 H4 a4 b4 f4 p4 => ?_⟩
    obtain ⟨v, hv, hvv⟩ := pick3 (x := .int d1) (y := .int (0 - d2)) (z := .int (10 ^ 30 - 1 - d3)) a4 b4
    have hp4 := f4.at_ (upd_same (H := H3) (a := p) (o := .lst [.int d1, .int (0 - d2), .int (10 ^ 30 - 1 - d3)])) (p3.ne hp)
    refine ⟨_, _, _, v, rfl, rfl, SqL.of hp4, hv, ?_⟩
    have ff := Fa.trans f1 (Fa.trans f2 (Fa.trans f3 (Fa.trans (Fa.of sp) f4)))
    rcases hvv with rfl | rfl | rfl
    · exact k d1 _ ⟨by show 1 - (10 : Int) ^ 30 ≤ d1; omega, by show d1 ≤ (10 : Int) ^ 30 - 1; omega⟩ ff p4
    · exact k (0 - d2) _ ⟨by show 1 - (10 : Int) ^ 30 ≤ (0 - d2); omega, by show (0 - d2) ≤ (10 : Int) ^ 30 - 1; omega⟩ ff p4
    · exact k (10 ^ 30 - 1 - d3) _ ⟨by show 1 - (10 : Int) ^ 30 ≤ (10 ^ 30 - 1 - d3); omega, by show (10 ^ 30 - 1 - d3) ≤ (10 : Int) ^ 30 - 1; omega⟩ ff p4
def sp_l_index : Sp := fun vs H Q _ => ∃ (a : Addr) (z : Int) (n : Nat), vs = [.ref a, .int z] ∧ Pn H a n ∧ n ≤ 90000 ∧ 0 < z ∧ ∀ x H', 0 ≤ x → x < z → Fa a H H' → Pn H' a (n + 2) → Q (.int x) H'
theorem ok_l_index (T : Txt K mg) : Ok P w K mg base CX0 2 ("_law_index", none) P_l_index sp_l_index := by
  refine Ok.of T.f_l_index sc_l_index (fun _ _ _ _ _ _ us hl => match us, hl with | [_, _], _ => rfl) (fun vs H Q E h => ?_) fun f cdv A outer s H vs Q E hr h => ?_
  · obtain ⟨a, z, n, rfl, _⟩ := h
    rfl
  · obtain ⟨a, z, n, rfl, pn, hn, hz, k⟩ := h
    refine ⟨_, PSs.nox (pss_one (ps_ret (pe_ix ix_list (pe_lst (pa_cons pe_int (pa_cons (pe_op op_sub (pv 1) pe_int) (pa_cons (pf (ok_l_draw T) T.g_l_draw hr rfl pass0 (pa_cons (pv 0) (pa_cons (pe_callB (call_min2 rfl) rfl T.bi.min (by decide +kernel) (pa_cons (pv 1) (pa_cons pe_int pa_nil))) pa_nil))) pa_nil)))) (pf (ok_l_draw T) T.g_l_draw hr rfl pass0 (pa_cons (pv 0) (pa_cons pe_int pa_nil))) (fun _ _ => rfl)))), ?_⟩
    walk_at "gs"
    refine ⟨a, _, n, rfl, pn, by omega, ?_, ?_, fun d1 H1 a1 b1 f1 p1 => ?_⟩
    · show 0 < if 6 < z then 6 else z
      split <;> omega
    · show (if 6 < z then 6 else z) < 1073741824
      split <;> omega
    walk_at "gs"
    refine ⟨szk (n := 3) (by decide), fun p hp => ?_⟩
    have sp := Same.new (o := .lst [.int 0, .int (z - 1), .int d1]) hp
    walk_at "gs"
    refine ⟨a, _, _, rfl, p1.same sp, by omega, by decide, by decide, fun d4 H4 a4 b4 f4 p4 => ?_⟩
    obtain ⟨v, hv, hvv⟩ := pick3 (x := .int 0) (y := .int (z - 1)) (z := .int d1) a4 b4
    have hp4 := f4.at_ (upd_same (H := H1) (a := p) (o := .lst [.int 0, .int (z - 1), .int d1])) (p1.ne hp)
    refine ⟨_, _, _, v, rfl, rfl, SqL.of hp4, hv, ?_⟩
    have ff := Fa.trans f1 (Fa.trans (Fa.of sp) f4)
    have b2 : d1 < z := by
      have b1 : d1 < if 6 < z then 6 else z := b1
      split at b1 <;> omega
    rcases hvv with rfl | rfl | rfl
    · exact k _ _ (by omega) (by omega) ff p4
    · exact k _ _ (by omega) (by omega) ff p4
    · exact k _ _ (by omega) (by omega) ff p4
def sp_l_slice : Sp := fun vs H Q _ => ∃ (a : Addr) (e z : Int) (n : Nat), vs = [.ref a, .int e, .int z] ∧ Pn H a n ∧ n ≤ 90000 ∧ 0 ≤ z ∧ ∀ t lo hi H', 0 ≤ lo → lo ≤ hi → hi ≤ z → Fa a H H' → Pn H' a (n + 4) → H' t = some (.tup [.str "slice", .int e, .int lo, .int hi]) → Q (.ref t) H'
theorem ok_l_slice (T : Txt K mg) : Ok P w K mg base CX0 2 ("_law_slice", none) P_l_slice sp_l_slice := by
  refine Ok.of T.f_l_slice sc_l_slice (fun _ _ _ _ _ _ us hl => match us, hl with | [_, _, _], _ => rfl) (fun vs H Q E h => ?_) fun f cdv A outer s H vs Q E hr h => ?_
  · obtain ⟨a, e, z, n, rfl, _⟩ := h
    rfl
  · obtain ⟨a, e, z, n, rfl, pn, hn, hz, k⟩ := h
    refine ⟨_, PSs.nox (pss_cons (ps_set (i := 3) sc_l_slice.nd rfl (Or.inl rfl) (pe_ix ix_list (pe_lst (pa_cons (pv 2) (pa_cons (pf (ok_l_draw T) T.g_l_draw hr rfl pass0 (pa_cons (pv 0) (pa_cons (pe_op op_add (pe_callB (call_min2 rfl) rfl T.bi.min (by decide +kernel) (pa_cons (pv 2) (pa_cons pe_int pa_nil))) pe_int) pa_nil))) pa_nil))) (pf (ok_l_draw T) T.g_l_draw hr rfl pass0 (pa_cons (pv 0) (pa_cons pe_int pa_nil))) (fun _ _ => rfl)))
      (pss_cons (ps_set (i := 4) sc_l_slice.nd rfl (Or.inl rfl) (pe_ix ix_list (pe_lst (pa_cons pe_int (pa_cons (pv 3) (pa_cons (pf (ok_l_draw T) T.g_l_draw hr rfl pass0 (pa_cons (pv 0) (pa_cons (pe_op op_add (pe_callB (call_min2 rfl) rfl T.bi.min (by decide +kernel) (pa_cons (pv 3) (pa_cons pe_int pa_nil))) pe_int) pa_nil))) pa_nil)))) (pf (ok_l_draw T) T.g_l_draw hr rfl pass0 (pa_cons (pv 0) (pa_cons pe_int pa_nil))) (fun _ _ => rfl)))
      (pss_one (ps_ret (pe_tup (pa_cons pe_str (pa_cons (pv 1) (pa_cons (pv 4) (pa_cons (pv 3) pa_nil))))))))), ?_⟩
    walk_at "gs"
    refine ⟨a, _, n, rfl, pn, by omega, ?_, ?_, fun d1 H1 a1 b1 f1 p1 => ?_⟩
    · show 0 < (if 8 < z then 8 else z) + 1
      split <;> omega
    · show (if 8 < z then 8 else z) + 1 < 1073741824
      split <;> omega
    have b1 : d1 ≤ z := by
      have b1 : d1 < (if 8 < z then 8 else z) + 1 := b1
      split at b1 <;> omega
    walk_at "gs"
    refine ⟨szk (n := 2) (by decide), fun p hp => ?_⟩
    have sp := Same.new (o := .lst [.int z, .int d1]) hp
    walk_at "gs"
    refine ⟨a, _, _, rfl, p1.same sp, by omega, by decide, by decide, fun d2 H2 a2 b2 f2 p2 => ?_⟩
    have hp4 := f2.at_ (upd_same (H := H1) (a := p) (o := .lst [.int z, .int d1])) (p1.ne hp)
    obtain ⟨hi, h0, hh, hv⟩ : ∃ hi, 0 ≤ hi ∧ hi ≤ z ∧ atI [V.int z, V.int d1] d2 = some (.int hi) := by
      obtain ⟨v, hv, hvv⟩ := pick2 (x := .int z) (y := .int d1) a2 b2
      rcases hvv with rfl | rfl
      · exact ⟨z, hz, by omega, hv⟩
      · exact ⟨d1, a1, b1, hv⟩
    refine ⟨_, _, _, .int hi, rfl, rfl, SqL.of hp4, hv, ?_⟩
    walk_at "gs"
    refine ⟨a, _, _, rfl, p2, by omega, ?_, ?_, fun d3 H3 a3 b3 f3 p3 => ?_⟩
    · show 0 < (if 5 < hi then 5 else hi) + 1
      split <;> omega
    · show (if 5 < hi then 5 else hi) + 1 < 1073741824
      split <;> omega
    have b3 : d3 ≤ hi := by
      have b3 : d3 < (if 5 < hi then 5 else hi) + 1 := b3
      split at b3 <;> omega
    walk_at "gs"
    refine ⟨szk (n := 3) (by decide), fun q hq => ?_⟩
    have sq := Same.new (o := .lst [.int 0, .int hi, .int d3]) hq
    walk_at "gs"
    refine ⟨a, _, _, rfl, p3.same sq, by omega, by decide, by decide, fun d4 H4 a4 b4 f4 p4 => ?_⟩
    have hq4 := f4.at_ (upd_same (H := H3) (a := q) (o := .lst [.int 0, .int hi, .int d3])) (p3.ne hq)
    obtain ⟨lo, l0, ll, hv2⟩ : ∃ lo, 0 ≤ lo ∧ lo ≤ hi ∧ atI [V.int 0, V.int hi, V.int d3] d4 = some (.int lo) := by
      obtain ⟨v, hv, hvv⟩ := pick3 (x := .int 0) (y := .int hi) (z := .int d3) a4 b4
      rcases hvv with rfl | rfl | rfl
      · exact ⟨0, by omega, h0, hv⟩
      · exact ⟨hi, h0, by omega, hv⟩
      · exact ⟨d3, a3, b3, hv⟩
    refine ⟨_, _, _, .int lo, rfl, rfl, SqL.of hq4, hv2, ?_⟩
    walk_at "gs"
    refine ⟨szk (n := 4) (by decide), fun t ht => ?_⟩
    have st := Same.new (o := .tup [.str "slice", .int e, .int lo, .int hi]) ht
    exact k t lo hi _ l0 ll hh (Fa.trans f1 (Fa.trans (Fa.of sp) (Fa.trans f2 (Fa.trans f3 (Fa.trans (Fa.of sq) (Fa.trans f4 (Fa.of st))))))) (p4.same st) upd_same
end
end GB
set_option maxHeartbeats 4000000
/-! GL3: the law's known spans. -/
namespace GB
open PySem PySem.Spec PyProof.Rows L2
local macro_rules | `(tactic| walk_at "g") => `(tactic| first
  | refine ⟨_, rfl, ?_⟩
  | refine ⟨_, _, rfl, rfl, ?_⟩
  | refine ⟨_, _, _, _, rfl, rfl, SqT.of (by assumption), by rfl, ?_⟩
  | refine ⟨_, _, _, _, rfl, rfl, SqL.of (by assumption), by rfl, ?_⟩
  | refine ⟨_, _, _, _, rfl, rfl, SqL.of (by assumption), atI_nat (by assumption), ?_⟩
  | refine ⟨rfl, ⟨rfl, by decide⟩, ?_⟩
  | refine ⟨_, _, _, _, _, rfl, .ty _, .base (.tup (by assumption)), kt_tup, ?_⟩
  | refine ⟨_, _, _, _, _, rfl, .ty _, .base (.str _), kt_str, ?_⟩
  | refine ⟨_, _, rfl, .inr (SqT.of (by assumption)), ?_⟩
  | refine ⟨_, _, rfl, .inl (SqL.of (by assumption)), ?_⟩
  | refine iteT_of (by first | decide +kernel | rfl) ?_
  | refine iteF_of (by first | decide +kernel | rfl) ?_
  | refine iteT_of (btw_t (by omega)) ?_
  | refine iteF_of (by rw [btw_t (by omega)]; rfl) ?_
  | refine ⟨_, _, rfl, rfl, by assumption, ?_⟩
  | refine ⟨_, _, _, rfl, rfl, by assumption, ?_⟩
  | refine ⟨_, _, _, _, _, rfl, by assumption, Txt.cl (by assumption), by first | exact Txt.no_kept_program (by assumption) | exact Txt.no_kept_policy (by assumption) | exact Txt.no_rows (by assumption) | exact Txt.no_cells (by assumption) | exact Txt.no_makers (by assumption) | exact Txt.no_roots (by assumption) | exact Txt.no_seen (by assumption) | exact Txt.no_made (by assumption) | exact Txt.no_records (by assumption) | exact Txt.no_busy (by assumption), by rfl, ?_⟩
  | refine ⟨_, _, _, rfl, by assumption, by rfl, ?_⟩
  | refine ⟨_, _, _, rfl, ?_⟩
  | refine ⟨_, _, rfl, SqT.of (by assumption), by rfl, ?_⟩
  | refine ⟨_, _, rfl, ?_⟩
  | refine ⟨.inl (by decide), ?_⟩
  | refine ⟨.inl ⟨rfl, _, SqL.of (by assumption)⟩, ?_⟩
  | refine ⟨rfl, ?_⟩)
local macro_rules | `(tactic| walk_at "gs") => `(tactic| repeat walk_at "g")
local macro_rules | `(tactic| walk_at "b") => `(tactic| (first | decide +kernel | (simp only [decide_eq_true_eq, decide_eq_false_iff_not, List.length_map, V.int.injEq, Bool.not_eq_true', Bool.not_eq_false']; omega)))
/-- a list of spans -/
def KnL (H : Hp) (a : Addr) (sp : List Span) : Prop := ∃ ws, H a = some (.lst ws) ∧ RpA H ws (sp.map spD)
theorem KnL.same {H H' : Hp} {a : Addr} {sp : List Span} (h : KnL H a sp) (f : Same H H') : KnL H' a sp := by
  obtain ⟨ws, h1, h2⟩ := h
  exact ⟨ws, f _ _ h1, RpA.tp (Same.tp f) h2⟩
theorem KnL.fr {H H' : Hp} {a b : Addr} {sp : List Span} (h : KnL H a sp) (f : Fa b H H') (n : a ≠ b) : KnL H' a sp := by
  obtain ⟨ws, h1, h2⟩ := h
  exact ⟨ws, f.at_ h1 n, RpA.tp f.tp h2⟩
section
variable {P : Program} {w : World} {K : Frg} {mg : Str → Option Value} {base : Heap}
def sp_l_known : Sp := fun vs H Q _ => ∃ (a b : Addr) (st : Stm) (sp : List Span), vs = [.ref a, .ref b] ∧ stV a H st ∧ KnL H b sp ∧ Val sp st ∧ sp.length ≤ 900 ∧ ∀ c H', Same H H' → (c = b ∨ H c = none) → KnL H' c (after sp st) → Q (.ref c) H'
theorem ok_l_known (T : Txt K mg) : Ok P w K mg base CX0 1 ("_law_known", none) P_l_known sp_l_known := by
  refine Ok.of T.f_l_known sc_l_known (fun _ _ _ _ _ _ us hl => match us, hl with | [_, _], _ => rfl) (fun vs H Q E h => ?_) fun f cdv A outer s H vs Q E hr h => ?_
  · obtain ⟨a, b, st, sp, rfl, _⟩ := h
    rfl
  · obtain ⟨a, b, st, sp, rfl, ha, ⟨ws, hb, hws⟩, hv, hz, k⟩ := h
    have hwl : ws.length = sp.length := by rw [hws.length, List.length_map]
    have at_ : ∀ {v : Nat} {p : Span}, sp[v]? = some p → ∃ t, ws[v]? = some (.ref t) ∧ H t = some (.tup [.int p.1, .int p.2]) := fun {v p} h => by
      obtain ⟨x, hx, rx⟩ := hws.get (i := v) (d := spD p) (by rw [List.getElem?_map, h] <;> rfl)
      obtain ⟨t, rfl, ht⟩ := (rp_sp p).mp rx
      exact ⟨t, hx, ht⟩
    have fin : ∀ (x : V) (q : Span) (l c : Addr) (H1 : Hp), Same H H1 → Rp H1 x (spD q) → spanOf sp st = some q → H1 l = none → ∀ H2, H2 = upd H1 l (.lst [x]) → H2 c = none → Q (.ref c) (upd H2 c (.lst (ws ++ [x]))) := fun x q l c H1 sm rx e hl H2 e2 hc => by
      subst e2
      have s2 := Same.new (o := .lst [x]) hl
      have s3 := Same.new (o := .lst (ws ++ [x])) hc
      have sf := Same.trans sm (Same.trans s2 s3)
      refine k c _ sf (.inr ?_) ⟨ws ++ [x], upd_same, ?_⟩
      · cases z : H c with
        | none => rfl
        | some o => rw [s2 _ _ (sm _ _ z)] at hc; cases hc
      · unfold after
        rw [e]
        show RpA _ (ws ++ [x]) ((sp ++ [q]).map spD)
        rw [List.map_append]
        exact (RpA.tp (Same.tp sf) hws).snoc (Rp.tp (Same.tp (Same.trans s2 s3)) rx)
    have fin2 : ∀ (x : V) (q : Span) (H1 : Hp), Same H H1 → Rp H1 x (spD q) → spanOf sp st = some q → [x].length ≤ sizeLine ∧ ∀ p, H1 p = none → rCat (.ref b) (.ref p) (upd H1 p (.lst [x])) Q := fun x q H1 sm rx e => by
      refine ⟨szk (n := 1) (by decide), fun l hl => ⟨b, l, ws, [x], rfl, rfl, Same.new hl _ _ (sm _ _ hb), upd_same, szk (by rw [hwl, List.length_singleton]; omega), fun c hc => fin x q l c H1 sm rx e hl _ rfl hc⟩⟩
    refine ⟨_, PSs.nox (pss_cons (ps_if (pt_cmpR op_eq (pe_ix ix_tup (pv 0) pe_int (fun _ _ => rfl)) pe_str (nomark _))
       (pss_one (ps_ret (pe_op op_cat (pv 1) (pe_lst (pa_cons (pe_tup (pa_cons pe_int (pa_cons (pe_ix ix_tup (pv 0) pe_int (fun _ _ => rfl)) pa_nil))) pa_nil)))))
       pss_nil)
      (pss_cons (ps_if (pt_cmpR op_eq (pe_ix ix_tup (pv 0) pe_int (fun _ _ => rfl)) pe_str (nomark _))
       (pss_one (ps_ret (pe_op op_cat (pv 1) (pe_lst (pa_cons (pe_tup (pa_cons (pe_op op_add (pe_ix ix_tup (pe_ix ix_list (pv 1) (pe_ix ix_tup (pv 0) pe_int (fun _ _ => rfl)) (fun _ _ => rfl)) pe_int (fun _ _ => rfl)) (pe_ix ix_tup (pv 0) pe_int (fun _ _ => rfl))) (pa_cons (pe_op op_sub (pe_ix ix_tup (pv 0) pe_int (fun _ _ => rfl)) (pe_ix ix_tup (pv 0) pe_int (fun _ _ => rfl))) pa_nil))) pa_nil)))))
       pss_nil)
      (pss_cons (ps_if (pt_cmpR op_eq (pe_ix ix_tup (pv 0) pe_int (fun _ _ => rfl)) pe_str (nomark _))
       (pss_one (ps_ret (pe_op op_cat (pv 1) (pe_lst (pa_cons (pe_ix ix_list (pv 1) (pe_ix ix_tup (pv 0) pe_int (fun _ _ => rfl)) (fun _ _ => rfl)) pa_nil)))))
       pss_nil)
      (pss_cons (ps_if (pt_lit (pe_ix ix_tup (pv 0) pe_int (fun _ _ => rfl)) (pa_cons pe_str (pa_cons pe_str pa_nil)))
       (pss_one (ps_ret (pe_op op_cat (pv 1) (pe_lst (pa_cons (pe_tup (pa_cons (pe_ix ix_tup (pe_ix ix_list (pv 1) (pe_ix ix_tup (pv 0) pe_int (fun _ _ => rfl)) (fun _ _ => rfl)) pe_int (fun _ _ => rfl)) (pa_cons (pe_op op_add (pe_ix ix_tup (pe_ix ix_list (pv 1) (pe_ix ix_tup (pv 0) pe_int (fun _ _ => rfl)) (fun _ _ => rfl)) pe_int (fun _ _ => rfl)) (pe_callB call_len_seq rfl T.bi.len (by decide +kernel) (pa_cons (pe_ix ix_tup (pv 0) pe_int (fun _ _ => rfl)) pa_nil))) pa_nil))) pa_nil)))))
       pss_nil)
      (pss_one (ps_ret (pv 1))))))), ?_⟩
    cases st with
    | make l c =>
      have ha : H a = _ := ha
      walk_at "gs"
      refine ⟨szk (n := 2) (by decide), fun t ht => ?_⟩
      exact fin2 (.ref t) (0, l) _ (Same.new ht) ((rp_sp _).mpr ⟨t, rfl, upd_same⟩) rfl
    | slice v lo hi =>
      have ha : H a = _ := ha
      obtain ⟨p, hp, _⟩ := hv
      obtain ⟨tp, htp, hpp⟩ := at_ hp
      have hg : sp.getD v (0, 0) = p := getD_of hp
      walk_at "gs"
      refine ⟨szk (n := 2) (by decide), fun t ht => ?_⟩
      exact fin2 (.ref t) (p.1 + lo, hi - lo) _ (Same.new ht) ((rp_sp _).mpr ⟨t, rfl, upd_same⟩) (by show some ((sp.getD v (0, 0)).1 + lo, hi - lo) = _; rw [hg])
    | clip v =>
      have ha : H a = _ := ha
      obtain ⟨p, hp⟩ := hv
      obtain ⟨tp, htp, hpp⟩ := at_ hp
      have hg : sp.getD v (0, 0) = p := getD_of hp
      walk_at "gs"
      exact fin2 (.ref tp) p _ (Same.refl H) ((rp_sp _).mpr ⟨tp, rfl, hpp⟩) (by show some (sp.getD v (0, 0)) = _; rw [hg])
    | app g v xs =>
      obtain ⟨xa, h1, h2⟩ := ha
      obtain ⟨⟨p, hp⟩, _⟩ := hv
      obtain ⟨tp, htp, hpp⟩ := at_ hp
      have hg : sp.getD v (0, 0) = p := getD_of hp
      have fx : ∀ t, H t = none → [V.ref t].length ≤ sizeLine ∧ ∀ q, (upd H t (.tup [.int p.1, .int (p.2 + ((xs.map V.int).length : Int))])) q = none → rCat (.ref b) (.ref q) (upd (upd H t (.tup [.int p.1, .int (p.2 + ((xs.map V.int).length : Int))])) q (.lst [.ref t])) Q := fun t ht => by
        rw [List.length_map]
        exact fin2 (.ref t) (p.1, p.2 + (xs.length : Int)) _ (Same.new ht) ((rp_sp _).mpr ⟨t, rfl, upd_same⟩) (by show some ((sp.getD v (0, 0)).1, (sp.getD v (0, 0)).2 + (xs.length : Int)) = _; rw [hg])
      cases g
      · have h1 : H a = some (.tup [.str "append", .int v, .ref xa]) := h1
        walk_at "gs"
        refine ⟨szk (n := 2) (by decide), fun t ht => ?_⟩
        exact fx t ht
      · have h1 : H a = some (.tup [.str "grow", .int v, .ref xa]) := h1
        walk_at "gs"
        refine ⟨szk (n := 2) (by decide), fun t ht => ?_⟩
        exact fx t ht
    | write v i x =>
      have ha : H a = _ := ha
      walk_at "gs"
      exact k b H (Same.refl H) (.inl rfl) ⟨ws, hb, by unfold after spanOf; simpa using hws⟩
    | move v i u j =>
      have ha : H a = _ := ha
      walk_at "gs"
      exact k b H (Same.refl H) (.inl rfl) ⟨ws, hb, by unfold after spanOf; simpa using hws⟩
    | read u j =>
      have ha : H a = _ := ha
      walk_at "gs"
      exact k b H (Same.refl H) (.inl rfl) ⟨ws, hb, by unfold after spanOf; simpa using hws⟩
end
end GB
set_option maxHeartbeats 4000000
/-! GL4: a deed drawn. -/
namespace GB
open PySem PySem.Spec PyProof.Rows L2
local macro_rules | `(tactic| walk_at "g") => `(tactic| first
  | refine ⟨_, rfl, ?_⟩
  | refine ⟨_, _, rfl, rfl, ?_⟩
  | refine ⟨_, _, _, _, rfl, rfl, SqT.of (by assumption), by rfl, ?_⟩
  | refine ⟨_, _, _, _, rfl, rfl, SqL.of (by assumption), by rfl, ?_⟩
  | refine ⟨_, _, _, _, rfl, rfl, SqL.of (by assumption), atI_nat (by assumption), ?_⟩
  | refine ⟨rfl, ⟨rfl, by decide⟩, ?_⟩
  | refine ⟨_, _, _, _, _, rfl, .ty _, .base (.tup (by assumption)), kt_tup, ?_⟩
  | refine ⟨_, _, _, _, _, rfl, .ty _, .base (.str _), kt_str, ?_⟩
  | refine ⟨_, _, rfl, .inr (SqT.of (by assumption)), ?_⟩
  | refine ⟨_, _, rfl, .inl (SqL.of (by assumption)), ?_⟩
  | refine iteT_of (by first | decide +kernel | rfl) ?_
  | refine iteF_of (by first | decide +kernel | rfl) ?_
  | refine iteT_of (btw_t (by omega)) ?_
  | refine iteF_of (by rw [btw_t (by omega)]; rfl) ?_
  | refine ⟨_, _, rfl, rfl, by assumption, ?_⟩
  | refine ⟨_, _, _, rfl, rfl, by assumption, ?_⟩
  | refine ⟨_, _, _, _, _, rfl, by assumption, Txt.cl (by assumption), by first | exact Txt.no_kept_program (by assumption) | exact Txt.no_kept_policy (by assumption) | exact Txt.no_rows (by assumption) | exact Txt.no_cells (by assumption) | exact Txt.no_makers (by assumption) | exact Txt.no_roots (by assumption) | exact Txt.no_seen (by assumption) | exact Txt.no_made (by assumption) | exact Txt.no_records (by assumption) | exact Txt.no_busy (by assumption), by rfl, ?_⟩
  | refine ⟨_, _, _, rfl, by assumption, by rfl, ?_⟩
  | refine ⟨_, _, _, rfl, ?_⟩
  | refine ⟨_, _, rfl, SqT.of (by assumption), by rfl, ?_⟩
  | refine ⟨_, _, rfl, ?_⟩
  | refine ⟨.inl (by decide), ?_⟩
  | refine ⟨.inl ⟨rfl, _, SqL.of (by assumption)⟩, ?_⟩
  | refine ⟨rfl, ?_⟩)
local macro_rules | `(tactic| walk_at "gs") => `(tactic| repeat walk_at "g")
local macro_rules | `(tactic| walk_at "b") => `(tactic| (first | decide +kernel | (simp only [decide_eq_true_eq, decide_eq_false_iff_not, List.length_map, V.int.injEq, Bool.not_eq_true', Bool.not_eq_false']; omega)))
theorem ix_listK {X : Cx} {K : Frg} (h : X.K = K) : IxR X (rIxL K) := by subst h; exact ix_list
theorem ix_tupK {X : Cx} {K : Frg} (h : X.K = K) : IxR X (rIxT K) := by subst h; exact ix_tup
theorem pickN : ∀ {xs : List V} {d : Int}, 0 ≤ d → d < xs.length → ∃ v, atI xs d = some v ∧ v ∈ xs := fun {xs d} h0 h1 => by
  obtain ⟨u, rfl⟩ := Int.eq_ofNat_of_zero_le h0
  have hu : u < xs.length := by omega
  exact ⟨xs[u], atI_nat (List.getElem?_eq_getElem hu), List.getElem_mem hu⟩
section
variable {P : Program} {w : World} {K : Frg} {mg : Str → Option Value} {base : Heap}
def sp_l_deed : Sp := fun vs H Q _ => ∃ (a b : Addr) (n : Nat) (sp : List Span), vs = [.ref a, .ref b] ∧ Pn H a n ∧ n ≤ 80000 ∧ KnL H b sp ∧ b ≠ a ∧ sp.length ≤ 100 ∧ (∀ p ∈ sp, 0 ≤ p.2) ∧ ∀ t st H', Val sp st → stV t H' st → Fa a H H' → Pn H' a (n + 60) → Q (.ref t) H'
/-- the view known -/
def tlQ (H0 : Hp) (a b : Addr) (n : Nat) (sp : List Span) (k : Nat) : TS := fun D σ H' => ∃ (wy : Int) (e : Nat) (p : Span) (m : Nat) (x3 x6 x7 : Option V), σ = [some (.ref a), some (.ref b), some (.int wy), x3, some (.int e), some (.int p.2), x6, x7, none, none, none, none] ∧ sp[e]? = some p ∧ 0 ≤ p.2 ∧ (k = 1 → 0 < p.2) ∧
  Fa a H0 H' ∧ Pn H' a m ∧ m ≤ n + 20 ∧ KnL H' b sp ∧ ∀ t st H2, Val sp st → stV t H2 st → Fa a H0 H2 → Pn H2 a (n + 60) → D.rt (.ref t) H2
def tlMk (H0 : Hp) (a b : Addr) (n : Nat) (sp : List Span) : TS := fun D σ H' => ∃ (wy : Int) (m : Nat), σ = [some (.ref a), some (.ref b), some (.int wy), none, none, none, none, none, none, none, none, none] ∧
  Fa a H0 H' ∧ Pn H' a m ∧ m ≤ n + 20 ∧ ∀ t st H2, Val sp st → stV t H2 st → Fa a H0 H2 → Pn H2 a (n + 60) → D.rt (.ref t) H2
theorem ok_l_deed (T : Txt K mg) : Ok P w K mg base CX0 3 ("_law_deed", none) P_l_deed sp_l_deed := by
  refine Ok.of T.f_l_deed sc_l_deed (fun _ _ _ _ _ _ us hl => match us, hl with | [_, _], _ => rfl) (fun vs H Q E h => ?_) fun f cdv A outer s H vs Q E hr h => ?_
  · obtain ⟨a, b, n, sp, rfl, _⟩ := h
    rfl
  · obtain ⟨a, b, n, sp, rfl, pn, hn, ⟨ws, hb, hws⟩, hba, hz, hpos, k⟩ := h
    have hwl : ws.length = sp.length := by rw [hws.length, List.length_map]
    refine ⟨_, PSs.nox (pss_cons (ps_set (i := 2) sc_l_deed.nd rfl (Or.inl rfl) (pf (ok_l_draw T) T.g_l_draw hr rfl pass0 (pa_cons (pv 0) (pa_cons pe_int pa_nil))))
      (pss_cons (ps_if (PW.pt (pw_or (pt_cmpR (op_eqE hr.units) (pv 1) (pe_lst pa_nil) (nomark _)) (pw_or1 (pt_cmpR op_eq (pv 2) pe_int (nomark _)))))
      (PSs.weak (t' := (tlMk H a b n sp)) (pss_cons (ps_set (i := 3) sc_l_deed.nd rfl (Or.inl rfl) (pe_ix ix_list (pe_lst (pa_cons pe_int (pa_cons pe_int (pa_cons pe_int (pa_cons pe_int (pa_cons pe_int (pa_cons (pe_op op_pow pe_int pe_int) (pa_cons pe_int pa_nil)))))))) (pf (ok_l_draw T) T.g_l_draw hr rfl pass0 (pa_cons (pv 0) (pa_cons pe_int pa_nil))) (fun _ _ => rfl)))
      (pss_one (ps_ret (pe_tup (pa_cons pe_str (pa_cons (pe_ix ix_list (pe_lst (pa_cons (pv 3) (pa_cons pe_int (pa_cons (pf (ok_l_draw T) T.g_l_draw hr rfl pass0 (pa_cons (pv 0) (pa_cons (pe_op op_add (pe_callB (call_min2 rfl) rfl T.bi.min (by decide +kernel) (pa_cons (pv 3) (pa_cons pe_int pa_nil))) pe_int) pa_nil))) pa_nil)))) (pf (ok_l_draw T) T.g_l_draw hr rfl pass0 (pa_cons (pv 0) (pa_cons pe_int pa_nil))) (fun _ _ => rfl)) (pa_cons (pv 3) pa_nil))))))) ?br1)
      pss_nil)
      (pss_cons (ps_set (i := 4) sc_l_deed.nd rfl (Or.inl rfl) (pe_ix ix_list (pe_lst (pa_cons (pe_op op_sub (pe_callB call_len_seq rfl T.bi.len (by decide +kernel) (pa_cons (pv 1) pa_nil)) pe_int) (pa_cons (pf (ok_l_draw T) T.g_l_draw hr rfl pass0 (pa_cons (pv 0) (pa_cons (pe_callB call_len_seq rfl T.bi.len (by decide +kernel) (pa_cons (pv 1) pa_nil)) pa_nil))) (pa_cons pe_int pa_nil)))) (pf (ok_l_draw T) T.g_l_draw hr rfl pass0 (pa_cons (pv 0) (pa_cons pe_int pa_nil))) (fun _ _ => rfl)))
      (pss_cons (ps_set (i := 5) sc_l_deed.nd rfl (Or.inl rfl) (pe_ix ix_tup (pe_ix ix_list (pv 1) (pv 4) (fun _ _ => rfl)) pe_int (fun _ _ => rfl)))
      (PSs.weak (t' := (tlQ H a b n sp 0)) (pss_cons (ps_if (pt_cmpR op_lt (pv 2) pe_int (nomark _))
       (pss_one (ps_ret (pf (ok_l_slice T) T.g_l_slice hr rfl pass0 (pa_cons (pv 0) (pa_cons (pv 4) (pa_cons (pv 5) pa_nil))))))
       pss_nil)
      (pss_cons (ps_if (pt_cmpR op_eq (pv 2) pe_int (nomark _))
       (pss_one (ps_ret (pe_tup (pa_cons pe_str (pa_cons (pv 4) pa_nil)))))
       pss_nil)
      (pss_cons (ps_if (PW.pt (pw_or (pt_cmpR op_lt (pv 2) pe_int (nomark _)) (pw_or1 (pt_cmpR op_eq (pv 5) pe_int (nomark _)))))
      (PSs.weak (t' := (tlQ H a b n sp 2)) (pss_cons (ps_set (i := 6) sc_l_deed.nd rfl (Or.inl rfl) (pe_ix ix_list (pe_lst (pa_cons pe_str (pa_cons pe_str (pa_cons pe_str (pa_cons pe_str pa_nil))))) (pf (ok_l_draw T) T.g_l_draw hr rfl pass0 (pa_cons (pv 0) (pa_cons pe_int pa_nil))) (fun _ _ => rfl)))
      (pss_cons (ps_set (i := 7) sc_l_deed.nd rfl (Or.inl rfl) (pe_op op_add pe_int (pf (ok_l_draw T) T.g_l_draw hr rfl pass0 (pa_cons (pv 0) (pa_cons (pe_ix ix_list (pe_lst (pa_cons pe_int (pa_cons pe_int pa_nil))) (pf (ok_l_draw T) T.g_l_draw hr rfl pass0 (pa_cons (pv 0) (pa_cons pe_int pa_nil))) (fun _ _ => rfl)) pa_nil)))))
      (pss_one (ps_ret (pe_tup (pa_cons (pv 6) (pa_cons (pv 4) (pa_cons (pe_callTy call_tuple_of rfl T.bi.tuple (by decide +kernel) (pa_cons (pe_lc (own := [("_law_k", 11)]) rfl sc_l_deed.nd (pi_range1 rfl T.bi.range (pa_cons (pv 7) pa_nil)) (blkOk_by rfl) (fun _ _ _ _ _ => (pg_name (i := 11) sc_l_deed.nd rfl (Or.inl rfl) (.inr rfl))) (fun _ _ _ _ _ => pts_nil) (fun _ _ _ _ _ => (pf (ok_l_value T) T.g_l_value hr rfl pass0 (pa_cons (pv 0) pa_nil)))) pa_nil)) pa_nil)))))))) ?br6)
      pss_nil)
      (PSs.weak (t' := (tlQ H a b n sp 1)) (pss_cons (ps_set (i := 8) sc_l_deed.nd rfl (Or.inl rfl) (pf (ok_l_index T) T.g_l_index hr rfl pass0 (pa_cons (pv 0) (pa_cons (pv 5) pa_nil))))
      (pss_cons (ps_if (pt_cmpR op_lt (pv 2) pe_int (nomark _))
       (pss_one (ps_ret (pe_tup (pa_cons pe_str (pa_cons (pv 4) (pa_cons (pv 8) (pa_cons (pf (ok_l_value T) T.g_l_value hr rfl pass0 (pa_cons (pv 0) pa_nil)) pa_nil)))))))
       pss_nil)
      (pss_cons (ps_setLc (i := 9) (own := [("_law_k", 11)]) rfl sc_l_deed.nd rfl rfl (sw_true rfl rfl rfl rfl) (pi_range1 rfl T.bi.range (pa_cons (pe_callB call_len_seq rfl T.bi.len (by decide +kernel) (pa_cons (pv 1) pa_nil)) pa_nil)) (blkOk_by rfl) (fun _ _ _ _ _ => (pg_name (i := 11) sc_l_deed.nd rfl (Or.inl rfl) (.inr rfl))) (fun _ _ _ _ _ => pts_one (pt_cmpR op_gt (pe_ix (ix_tupK (K := K) rfl) (pe_ix (ix_listK (K := K) rfl) (pv 1) (pv 11) (fun _ _ => rfl)) pe_int (fun _ _ => rfl)) pe_int (nomark _))) (fun _ _ _ _ _ => (pv 11)))
      (pss_cons (ps_set (i := 10) sc_l_deed.nd rfl (Or.inl rfl) (pe_ix ix_list (pv 9) (pf (ok_l_draw T) T.g_l_draw hr rfl pass0 (pa_cons (pv 0) (pa_cons (pe_callB call_len_seq rfl T.bi.len (by decide +kernel) (pa_cons (pv 9) pa_nil)) pa_nil))) (fun _ _ => rfl)))
      (pss_cons (ps_if (pt_cmpR op_eq (pv 2) pe_int (nomark _))
       (pss_one (ps_ret (pe_tup (pa_cons pe_str (pa_cons (pv 4) (pa_cons (pv 8) (pa_cons (pv 10) (pa_cons (pf (ok_l_index T) T.g_l_index hr rfl pass0 (pa_cons (pv 0) (pa_cons (pe_ix ix_tup (pe_ix ix_list (pv 1) (pv 10) (fun _ _ => rfl)) pe_int (fun _ _ => rfl)) pa_nil))) pa_nil))))))))
       pss_nil)
      (pss_one (ps_ret (pe_tup (pa_cons pe_str (pa_cons (pv 10) (pa_cons (pf (ok_l_index T) T.g_l_index hr rfl pass0 (pa_cons (pv 0) (pa_cons (pe_ix ix_tup (pe_ix ix_list (pv 1) (pv 10) (fun _ _ => rfl)) pe_int (fun _ _ => rfl)) pa_nil))) pa_nil))))))))))) ?tl7)))) ?tl4))))), ?_⟩
    case br6 =>
      intro D σ H1 hh
      obtain ⟨wy, e, p, m, x3, x6, x7, rfl, hp, h0, _, F1, P1, hm, KN, k⟩ := hh
      clear hb hws
      walk_at "gs"
      refine ⟨szk (n := 4) (by decide), fun l1 hl1 => ?_⟩
      have s1 := Same.new (o := .lst [.str "append", .str "append", .str "append", .str "grow"]) hl1
      walk_at "gs"
      refine ⟨a, _, _, rfl, P1.same s1, by omega, by decide, by decide, fun d2 H2 a2 b2 f2 p2 => ?_⟩
      have hl2 := f2.at_ (upd_same (H := H1) (a := l1) (o := .lst [.str "append", .str "append", .str "append", .str "grow"])) (P1.ne hl1)
      obtain ⟨g, hg⟩ : ∃ g : Bool, atI [V.str "append", V.str "append", V.str "append", V.str "grow"] d2 = some (.str (sw g)) := by
        obtain ⟨v, hv, hm⟩ := pickN (xs := [V.str "append", V.str "append", V.str "append", V.str "grow"]) a2 b2
        simp only [List.mem_cons, List.not_mem_nil, or_false] at hm
        rcases hm with rfl | rfl | rfl | rfl
        · exact ⟨false, hv⟩
        · exact ⟨false, hv⟩
        · exact ⟨false, hv⟩
        · exact ⟨true, hv⟩
      refine ⟨_, _, _, .str (sw g), rfl, rfl, SqL.of hl2, hg, ?_⟩
      walk_at "gs"
      refine ⟨szk (n := 2) (by decide), fun l3 hl3 => ?_⟩
      have s3 := Same.new (o := .lst [.int 2, .int 6]) hl3
      walk_at "gs"
      refine ⟨a, _, _, rfl, p2.same s3, by omega, by decide, by decide, fun d4 H4 a4 b4 f4 p4 => ?_⟩
      have hl4 := f4.at_ (upd_same (H := H2) (a := l3) (o := .lst [.int 2, .int 6])) (p2.ne hl3)
      obtain ⟨z, z0, z1, hz2⟩ : ∃ z : Int, 0 < z ∧ z ≤ 6 ∧ atI [V.int 2, V.int 6] d4 = some (.int z) := by
        obtain ⟨v, hv, hvv⟩ := pick2 (x := .int 2) (y := .int 6) a4 b4
        rcases hvv with rfl | rfl
        · exact ⟨2, by decide, by decide, hv⟩
        · exact ⟨6, by decide, by decide, hv⟩
      refine ⟨_, _, _, .int z, rfl, rfl, SqL.of hl4, hz2, ?_⟩
      walk_at "gs"
      refine ⟨a, _, _, rfl, p4, by omega, z0, by omega, fun d5 H5 a5 b5 f5 p5 => ?_⟩
      walk_at "gs"
      have F5 : Fa a H H5 := Fa.trans F1 (Fa.trans (Fa.of s1) (Fa.trans f2 (Fa.trans (Fa.of s3) (Fa.trans f4 f5))))
      have hD5 : ∀ c, H5 c = none → H c = none := fun c hc => by
        cases e : H c with
        | none => rfl
        | some o =>
          have := F5.at_ e (p5.ne hc)
          rw [hc] at this
          cases this
      refine ⟨by omega, by omega, fun D0 hD => ?_⟩
      have nD := p5.ne hD
      have fD : Fa a H5 (upd H5 D0 (.lst [])) := Fa.of (Same.new hD)
      refine lc_range (n := (1 + d5).toNat) (lo := 0) (fun i H' => ∃ xs : List Int, xs.length = i ∧ (∀ x ∈ xs, Vv x) ∧ H' D0 = some (.lst (xs.map .int)) ∧ Fa a H5 H' ∧ Pn H' a (m + 3 + 4 * i)) ⟨[], rfl, fun _ h => (by cases h), upd_same, fD, (p5.same (Same.new hD)).mono (by omega)⟩ (fun i H' hi' pv => ?_) fun H' pv => ?_
      · obtain ⟨xs, hl, hv, hDD, fr, pp⟩ := pv
        walk_at "gs"
        refine ⟨a, _, rfl, pp, by omega, fun x H6 hx f6 p6 => ?_⟩
        have hD6 := f6.at_ hDD nD
        refine ⟨_, hD6, lt_line (by rw [List.length_map]; omega), xs ++ [x], by rw [List.length_append, hl] <;> rfl, fun y hy => ?_, by rw [upd_same, List.map_append] <;> rfl, Fa.upd (Fa.trans fr f6) hD (Ne.symm nD) _, (Pn.upd p5 (Fa.trans fr f6) p6 hD _).mono (by omega)⟩
        rcases List.mem_append.mp hy with z | z
        · exact hv y z
        · rw [List.mem_singleton.mp z]; exact hx
      · obtain ⟨xs, hl, hv, hDD, fr, pp⟩ := pv
        walk_at "gs"
        refine ⟨_, _, rfl, .inl ⟨SqL.of hDD, fun tx htx => ?_⟩⟩
        have sx := Same.new (o := .tup (xs.map .int)) htx
        walk_at "gs"
        refine ⟨szk (n := 3) (by decide), fun t ht => ?_⟩
        have st := Same.new (o := .tup [.str (sw g), .int e, .ref tx]) ht
        have fin := Fa.trans F5 (Fa.trans fr (Fa.trans (Fa.of sx) (Fa.of st)))
        exact k t (.app g e xs) _ ⟨⟨p, hp⟩, by omega, by omega, hv⟩ ⟨tx, upd_same, st _ _ upd_same⟩ fin (((pp.same sx).same st).mono (by omega))
    case br1 =>
      intro D σ H1 hh
      obtain ⟨wy, m, rfl, F1, P1, hm, k⟩ := hh
      walk_at "gs"
      refine ⟨⟨by decide, by decide, by decide⟩, ?_⟩
      walk_at "gs"
      refine ⟨szk (n := 7) (by decide), fun p hp => ?_⟩
      have s1 := Same.new (o := .lst [.int 2, .int 1, .int 0, .int 3, .int 6, .int (10 ^ 30), .int 4]) hp
      walk_at "gs"
      refine ⟨a, _, _, rfl, P1.same s1, by omega, by decide, by decide, fun d2 H2 a2 b2 f2 p2 => ?_⟩
      have hp2 := f2.at_ (upd_same (H := H1) (a := p) (o := .lst [.int 2, .int 1, .int 0, .int 3, .int 6, .int (10 ^ 30), .int 4])) (P1.ne hp)
      obtain ⟨r, r0, r1, hr⟩ : ∃ r : Int, 0 ≤ r ∧ r ≤ 10 ^ 30 ∧ atI [V.int 2, V.int 1, V.int 0, V.int 3, V.int 6, V.int (10 ^ 30), V.int 4] d2 = some (.int r) := by
        obtain ⟨v, hv, hm⟩ := pickN (xs := [V.int 2, V.int 1, V.int 0, V.int 3, V.int 6, V.int (10 ^ 30), V.int 4]) a2 b2
        simp only [List.mem_cons, List.not_mem_nil, or_false] at hm
        rcases hm with rfl | rfl | rfl | rfl | rfl | rfl | rfl
        · exact ⟨2, by decide, by decide, hv⟩
        · exact ⟨1, by decide, by decide, hv⟩
        · exact ⟨0, by decide, by decide, hv⟩
        · exact ⟨3, by decide, by decide, hv⟩
        · exact ⟨6, by decide, by decide, hv⟩
        · exact ⟨10 ^ 30, by decide, by decide, hv⟩
        · exact ⟨4, by decide, by decide, hv⟩
      refine ⟨_, _, _, .int r, rfl, rfl, SqL.of hp2, hr, ?_⟩
      walk_at "gs"
      refine ⟨a, _, _, rfl, p2, by omega, ?_, ?_, fun d3 H3 a3 b3 f3 p3 => ?_⟩
      · show 0 < (if 9 < r then 9 else r) + 1
        split <;> omega
      · show (if 9 < r then 9 else r) + 1 < 1073741824
        split <;> omega
      have b3 : d3 ≤ r := by
        have b3 : d3 < (if 9 < r then 9 else r) + 1 := b3
        split at b3 <;> omega
      walk_at "gs"
      refine ⟨szk (n := 3) (by decide), fun q hq => ?_⟩
      have s3 := Same.new (o := .lst [.int r, .int 0, .int d3]) hq
      walk_at "gs"
      refine ⟨a, _, _, rfl, p3.same s3, by omega, by decide, by decide, fun d4 H4 a4 b4 f4 p4 => ?_⟩
      have hq4 := f4.at_ (upd_same (H := H3) (a := q) (o := .lst [.int r, .int 0, .int d3])) (p3.ne hq)
      obtain ⟨l, l0, l1, hl⟩ : ∃ l : Int, 0 ≤ l ∧ l ≤ r ∧ atI [V.int r, V.int 0, V.int d3] d4 = some (.int l) := by
        obtain ⟨v, hv, hvv⟩ := pick3 (x := .int r) (y := .int 0) (z := .int d3) a4 b4
        rcases hvv with rfl | rfl | rfl
        · exact ⟨r, r0, by omega, hv⟩
        · exact ⟨0, by omega, r0, hv⟩
        · exact ⟨d3, a3, b3, hv⟩
      refine ⟨_, _, _, .int l, rfl, rfl, SqL.of hq4, hl, ?_⟩
      walk_at "gs"
      refine ⟨szk (n := 3) (by decide), fun t ht => ?_⟩
      have st := Same.new (o := .tup [.str "make", .int l, .int r]) ht
      exact k t (.make l r) _ ⟨l0, l1, r1⟩ upd_same (Fa.trans F1 (Fa.trans (Fa.of s1) (Fa.trans f2 (Fa.trans f3 (Fa.trans (Fa.of s3) (Fa.trans f4 (Fa.of st))))))) ((p4.same st).mono (by omega))
    case tl7 =>
      intro D σ H1 hh
      obtain ⟨wy, e, p, m, x3, x6, x7, rfl, hp, h0, h01, F1, P1, hm, KN, k⟩ := hh
      have hp1 := h01 rfl
      clear hb hws
      walk_at "gs"
      refine ⟨a, p.2, m, rfl, P1, by omega, hp1, fun i H2 i0 i1 f2 p2 => ?_⟩
      have F2 := Fa.trans F1 f2
      have K2 := KN.fr f2 hba
      walk_at "gs"
      refine iteD (fun q1 => ?_) (fun q1 => ?_)
      · walk_at "gs"
        refine ⟨a, _, rfl, p2, by omega, fun x H3 hx f3 p3 => ?_⟩
        walk_at "gs"
        refine ⟨szk (n := 4) (by decide), fun t ht => ?_⟩
        have st := Same.new (o := .tup [.str "write", .int e, .int i, .int x]) ht
        exact k t (.write e i x) _ ⟨⟨p, hp, i0, i1⟩, hx⟩ upd_same (Fa.trans F2 (Fa.trans f3 (Fa.of st))) ((p3.same st).mono (by omega))
      obtain ⟨us, hb2, hus⟩ := K2
      have hul : us.length = sp.length := by rw [hus.length, List.length_map]
      walk_at "gs"
      refine ⟨by omega, by omega, fun D0 hD => ?_⟩
      have nD := p2.ne hD
      refine lc_range (n := ((us.length : Int)).toNat) (lo := 0) (fun j H' => ∃ fs : List Int, fs.length ≤ j ∧ (∀ x ∈ fs, ∃ (u : Nat) (r : Span), x = u ∧ sp[u]? = some r ∧ 0 < r.2) ∧ (e < j → fs ≠ []) ∧ H' D0 = some (.lst (fs.map .int)) ∧ Same H2 H') ⟨[], Nat.le_refl _, fun _ h => (by cases h), fun h => absurd h (Nat.not_lt_zero _), upd_same, Same.new hD⟩ (fun j H' hj pv => ?_) fun H' pv => ?_
      · obtain ⟨fs, hl, hf, hne, hDD, sm⟩ := pv
        have hju : j < us.length := by omega
        have hb3 := sm _ _ hb2
        obtain ⟨dd, hdd, rx⟩ := hus.getV (List.getElem?_eq_getElem hju)
        obtain ⟨pp, hpp, rfl⟩ : ∃ pp, sp[j]? = some pp ∧ spD pp = dd := by simpa using hdd
        obtain ⟨tp, htp, hpt⟩ := (rp_sp pp).mp rx
        have hpt2 := sm _ _ hpt
        have hwe : us[j]? = some (.ref tp) := by rw [List.getElem?_eq_getElem hju, htp]
        have hat : atI us (0 + (j : Nat)) = some (.ref tp) := by rw [Int.zero_add]; exact atI_nat hwe
        walk_at "gs"
        refine ⟨_, _, _, _, rfl, rfl, SqL.of hb3, hat, ?_⟩
        walk_at "gs"
        refine iteD (fun q2 => ?_) (fun q2 => ?_)
        · walk_at "gs"
          refine ⟨_, hDD, lt_line (by rw [List.length_map]; omega), fs ++ [(j : Int)], by rw [List.length_append, List.length_singleton]; omega, fun x hx => ?_, fun _ z => by simp at z, by rw [upd_same, List.map_append, Int.zero_add] <;> rfl, fun b o h => by rw [upd_ne (ne_of_none h hD)]; exact sm _ _ h⟩
          rcases List.mem_append.mp hx with z | z
          · exact hf x z
          · exact ⟨j, pp, List.mem_singleton.mp z, hpp, of_decide_eq_true q2⟩
        · refine ⟨fs, by omega, hf, fun he => ?_, hDD, sm⟩
          by_cases z : e = j
          · have q3 : ¬ 0 < pp.2 := of_decide_eq_false q2
            rw [← z, hp] at hpp
            cases hpp
            exact absurd hp1 q3
          · exact hne (by omega)
      · obtain ⟨fs, hl, hf, hne, hDD, sm⟩ := pv
        have hfs : 0 < fs.length := by
          have he := (List.getElem?_eq_some_iff.mp hp).1
          have := hne (by omega)
          exact List.length_pos_iff.mpr this
        have F3 := Fa.trans F2 (Fa.of sm)
        have p3 := p2.same sm
        walk_at "gs"
        refine ⟨a, _, _, rfl, p3, by omega, by rw [List.length_map]; omega, by rw [List.length_map]; omega, fun d4 H4 a4 b4 f4 p4 => ?_⟩
        have hD4 := f4.at_ hDD nD
        obtain ⟨v, hv, hvm⟩ := pickN (xs := fs.map V.int) a4 b4
        obtain ⟨x, hx, rfl⟩ := List.mem_map.mp hvm
        obtain ⟨u, r, rfl, hu, hr⟩ := hf x hx
        refine ⟨_, _, _, .int u, rfl, rfl, SqL.of hD4, hv, ?_⟩
        have hb4 := f4.at_ (sm _ _ hb2) hba
        have F4 := Fa.trans F3 f4
        obtain ⟨y, hy, ry⟩ := hus.get (i := u) (d := spD r) (by rw [List.getElem?_map, hu] <;> rfl)
        obtain ⟨tr, rfl, hty⟩ := (rp_sp r).mp ry
        have hty4 := f4.tp _ _ (sm _ _ hty)
        walk_at "gs"
        refine iteD (fun q2 => ?_) (fun q2 => ?_)
        · walk_at "gs"
          refine ⟨a, r.2, _, rfl, p4, by omega, hr, fun j H5 j0 j1 f5 p5 => ?_⟩
          walk_at "gs"
          refine ⟨szk (n := 5) (by decide), fun t ht => ?_⟩
          have st := Same.new (o := .tup [.str "move", .int e, .int i, .int u, .int j]) ht
          exact k t (.move e i u j) _ ⟨⟨p, hp, i0, i1⟩, ⟨r, hu, j0, j1⟩⟩ upd_same (Fa.trans F4 (Fa.trans f5 (Fa.of st))) ((p5.same st).mono (by omega))
        · walk_at "gs"
          refine ⟨a, r.2, _, rfl, p4, by omega, hr, fun j H5 j0 j1 f5 p5 => ?_⟩
          walk_at "gs"
          refine ⟨szk (n := 3) (by decide), fun t ht => ?_⟩
          have st := Same.new (o := .tup [.str "read", .int u, .int j]) ht
          exact k t (.read u j) _ ⟨r, hu, j0, j1⟩ upd_same (Fa.trans F4 (Fa.trans f5 (Fa.of st))) ((p5.same st).mono (by omega))
    case tl4 =>
      intro D σ H1 hh
      obtain ⟨wy, e, p, m, x3, x6, x7, rfl, hp, h0, _, F1, P1, hm, KN, k⟩ := hh
      clear hb hws
      walk_at "gs"
      refine iteD (fun q => ?_) (fun q => ?_)
      · walk_at "gs"
        refine ⟨a, e, p.2, m, rfl, P1, by omega, h0, fun t lo hi H2 l0 l1 l2 f2 p2 ht => ?_⟩
        exact k t (.slice e lo hi) H2 ⟨p, hp, l0, l1, l2⟩ ht (Fa.trans F1 f2) (p2.mono (by omega))
      walk_at "gs"
      refine iteD (fun q2 => ?_) (fun q2 => ?_)
      · walk_at "gs"
        refine ⟨szk (n := 2) (by decide), fun t ht => ?_⟩
        have st := Same.new (o := .tup [.str "clip", .int e]) ht
        exact k t (.clip e) _ ⟨p, hp⟩ upd_same (Fa.trans F1 (Fa.of st)) ((P1.same st).mono (by omega))
      walk_at "gs"
      refine iteD (fun q3 => ?_) (fun q3 => ?_)
      · exact ⟨wy, e, p, m, x3, x6, x7, rfl, hp, h0, fun z => absurd z (by decide), F1, P1, hm, KN, k⟩
      walk_at "gs"
      refine iteD (fun q4 => ?_) (fun q4 => ?_)
      · exact ⟨wy, e, p, m, x3, x6, x7, rfl, hp, h0, fun z => absurd z (by decide), F1, P1, hm, KN, k⟩
      have q5 : p.2 ≠ 0 := fun z => by simp [z] at q4
      exact ⟨wy, e, p, m, x3, x6, x7, rfl, hp, h0, fun _ => by omega, F1, P1, hm, KN, k⟩
    walk_at "gs"
    refine ⟨a, _, n, rfl, pn, by omega, by decide, by decide, fun d1 H1 a1 b1 f1 p1 => ?_⟩
    have hb1 := f1.at_ hb hba
    walk_at "gs"
    refine ⟨szk (n := 0) (by decide), fun p0 hp0 => ?_⟩
    have s0 := Same.new (o := .lst []) hp0
    have hb2 := s0 _ _ hb1
    refine ⟨_, _, _, rfl, rfl, SqL.of hb2, SqL.of upd_same, _, rfl, ?_⟩
    have F2 : Fa a H (upd H1 p0 (.lst [])) := Fa.trans f1 (Fa.of s0)
    have P2 := p1.same s0
    generalize upd H1 p0 (.lst []) = H2 at F2 P2 hb2 ⊢
    refine iteD (fun q => ?_) (fun q => ?_)
    · exact ⟨d1, n + 1, rfl, F2, P2, by omega, k⟩
    walk_at "gs"
    refine iteD (fun q2 => ?_) (fun q2 => ?_)
    · exact ⟨d1, n + 1, rfl, F2, P2, by omega, k⟩
    have hw0 : 0 < ws.length := by
      cases ws with
      | nil => cases q
      | cons => simp
    walk_at "gs"
    refine ⟨a, _, _, rfl, P2, by omega, by omega, by omega, fun d3 H3 a3 b3 f3 p3 => ?_⟩
    have hb3 := f3.at_ hb2 hba
    walk_at "gs"
    refine ⟨szk (n := 3) (by decide), fun p hp => ?_⟩
    have sp3 := Same.new (o := .lst [.int ((ws.length : Int) - 1), .int d3, .int 0]) hp
    walk_at "gs"
    refine ⟨a, _, _, rfl, p3.same sp3, by omega, by decide, by decide, fun d4 H4 a4 b4 f4 p4 => ?_⟩
    have hb4 := f4.at_ (sp3 _ _ hb3) hba
    have hp4 := f4.at_ (upd_same (H := H3) (a := p) (o := .lst [.int ((ws.length : Int) - 1), .int d3, .int 0])) (p3.ne hp)
    have F4 : Fa a H H4 := Fa.trans F2 (Fa.trans f3 (Fa.trans (Fa.of sp3) f4))
    obtain ⟨e, he, hv⟩ : ∃ e : Nat, e < ws.length ∧ atI [V.int ((ws.length : Int) - 1), V.int d3, V.int 0] d4 = some (.int e) := by
      obtain ⟨v, hv, hvv⟩ := pick3 (x := .int ((ws.length : Int) - 1)) (y := .int d3) (z := .int 0) a4 b4
      rcases hvv with rfl | rfl | rfl
      · exact ⟨ws.length - 1, by omega, by rw [hv, show ((ws.length - 1 : Nat) : Int) = (ws.length : Int) - 1 by omega]⟩
      · exact ⟨d3.toNat, by omega, by rw [hv, Int.toNat_of_nonneg a3]⟩
      · exact ⟨0, hw0, hv⟩
    refine ⟨_, _, _, .int e, rfl, rfl, SqL.of hp4, hv, ?_⟩
    obtain ⟨dd, hdd, rx⟩ := hws.getV (List.getElem?_eq_getElem he)
    obtain ⟨pp, hpp, rfl⟩ : ∃ pp, sp[e]? = some pp ∧ spD pp = dd := by simpa using hdd
    obtain ⟨tp, htp, hpt⟩ := (rp_sp pp).mp rx
    have hwe : ws[e]? = some (.ref tp) := by rw [List.getElem?_eq_getElem he, htp]
    have hpt4 := F4.tp _ _ hpt
    walk_at "gs"
    exact ⟨d1, e, pp, n + 1 + 1 + 1, none, none, none, rfl, hpp, hpos pp (List.mem_of_getElem? hpp), fun z => absurd z (by decide), F4, p4, by omega, ⟨ws, hb4, RpA.tp F4.tp hws⟩, k⟩
end
end GB
set_option maxHeartbeats 4000000
/-! GL5: a draft drawn. -/
namespace GB
open PySem PySem.Spec PyProof.Rows L2
local macro_rules | `(tactic| walk_at "g") => `(tactic| first
  | refine ⟨_, rfl, ?_⟩
  | refine ⟨_, _, rfl, rfl, ?_⟩
  | refine ⟨_, _, _, _, rfl, rfl, SqT.of (by assumption), by rfl, ?_⟩
  | refine ⟨_, _, _, _, rfl, rfl, SqL.of (by assumption), by rfl, ?_⟩
  | refine ⟨_, _, _, _, rfl, rfl, SqL.of (by assumption), atI_nat (by assumption), ?_⟩
  | refine ⟨rfl, ⟨rfl, by decide⟩, ?_⟩
  | refine ⟨_, _, _, _, _, rfl, .ty _, .base (.tup (by assumption)), kt_tup, ?_⟩
  | refine ⟨_, _, _, _, _, rfl, .ty _, .base (.str _), kt_str, ?_⟩
  | refine ⟨_, _, rfl, .inr (SqT.of (by assumption)), ?_⟩
  | refine ⟨_, _, rfl, .inl (SqL.of (by assumption)), ?_⟩
  | refine iteT_of (by first | decide +kernel | rfl) ?_
  | refine iteF_of (by first | decide +kernel | rfl) ?_
  | refine iteT_of (btw_t (by omega)) ?_
  | refine iteF_of (by rw [btw_t (by omega)]; rfl) ?_
  | refine ⟨_, _, rfl, rfl, by assumption, ?_⟩
  | refine ⟨_, _, _, rfl, rfl, by assumption, ?_⟩
  | refine ⟨_, _, _, _, _, rfl, by assumption, Txt.cl (by assumption), by first | exact Txt.no_kept_program (by assumption) | exact Txt.no_kept_policy (by assumption) | exact Txt.no_rows (by assumption) | exact Txt.no_cells (by assumption) | exact Txt.no_makers (by assumption) | exact Txt.no_roots (by assumption) | exact Txt.no_seen (by assumption) | exact Txt.no_made (by assumption) | exact Txt.no_records (by assumption) | exact Txt.no_busy (by assumption), by rfl, ?_⟩
  | refine ⟨_, _, _, rfl, by assumption, by rfl, ?_⟩
  | refine ⟨_, _, _, rfl, ?_⟩
  | refine ⟨_, _, rfl, SqT.of (by assumption), by rfl, ?_⟩
  | refine ⟨_, _, rfl, ?_⟩
  | refine ⟨.inl (by decide), ?_⟩
  | refine ⟨.inl ⟨rfl, _, SqL.of (by assumption)⟩, ?_⟩
  | refine ⟨rfl, ?_⟩)
local macro_rules | `(tactic| walk_at "gs") => `(tactic| repeat walk_at "g")
local macro_rules | `(tactic| walk_at "b") => `(tactic| (first | decide +kernel | (simp only [decide_eq_true_eq, decide_eq_false_iff_not, List.length_map, V.int.injEq, Bool.not_eq_true', Bool.not_eq_false']; omega)))
theorem spans_app (p : List Stm) (st : Stm) : spans (p ++ [st]) = after (spans p) st := by
  unfold spans
  rw [List.foldl_append] <;> rfl
theorem ValP.snoc {p : List Stm} {st : Stm} (h : ValP p) (v : Val (spans p) st) : ValP (p ++ [st]) := fun k x hx => by
  by_cases z : k < p.length
  · rw [List.getElem?_append_left z] at hx
    rw [List.take_append_of_le_length (Nat.le_of_lt z)]
    exact h k x hx
  · have hk : k = p.length := by
      have := (List.getElem?_eq_some_iff.mp hx).1
      rw [List.length_append, List.length_singleton] at this
      omega
    subst hk
    rw [List.getElem?_concat_length] at hx
    cases hx
    rw [List.take_append_of_le_length (Nat.le_refl _), List.take_length]
    exact v
theorem after_pos {sp : List Span} {st : Stm} (h : ∀ p ∈ sp, 0 ≤ p.2) (v : Val sp st) : ∀ p ∈ after sp st, 0 ≤ p.2 := by
  intro p hp
  unfold after at hp
  rcases List.mem_append.mp hp with z | z
  · exact h p z
  · have gd : ∀ {v : Nat} {q : Span}, sp[v]? = some q → sp.getD v (0, 0) = q := fun e => by rw [List.getD_eq_getElem?_getD, e] <;> rfl
    cases st with
    | make l c =>
      have z : p = (0, l) := by simpa [spanOf] using z
      rw [z]; exact v.1
    | slice e lo hi =>
      obtain ⟨q, hq, h1, h2, h3⟩ := v
      have z : p = ((sp.getD e (0, 0)).1 + lo, hi - lo) := by simpa [spanOf] using z
      rw [z]
      show 0 ≤ hi - lo
      omega
    | clip e =>
      obtain ⟨q, hq⟩ := v
      have z : p = sp.getD e (0, 0) := by simpa [spanOf] using z
      rw [z, gd hq]
      exact h q (List.mem_of_getElem? hq)
    | app g e xs =>
      obtain ⟨⟨q, hq⟩, _⟩ := v
      have z : p = ((sp.getD e (0, 0)).1, (sp.getD e (0, 0)).2 + (xs.length : Int)) := by simpa [spanOf] using z
      rw [z, gd hq]
      have := h q (List.mem_of_getElem? hq)
      show 0 ≤ q.2 + (xs.length : Int)
      omega
    | write _ _ _ => simp [spanOf] at z
    | move _ _ _ _ => simp [spanOf] at z
    | read _ _ => simp [spanOf] at z
theorem after_len (sp : List Span) (st : Stm) : (after sp st).length ≤ sp.length + 1 := by
  unfold after
  rw [List.length_append]
  cases spanOf sp st <;> simp
section
variable {P : Program} {w : World} {K : Frg} {mg : Str → Option Value} {base : Heap}
def sp_l_tail : Sp := fun vs H Q _ => ∃ (a : Addr) (n most : Nat), vs = [.ref a, .int most] ∧ Pn H a n ∧ n ≤ 1000 ∧ most ≤ 24 ∧ ∀ t prog H', ValP prog → prog.length = most + 1 → prog[0]? = some (.make 2 4) → PrV t H' prog → Fa a H H' → Pn H' a (n + 60 * most) → Q (.ref t) H'
theorem ok_l_tail (T : Txt K mg) : Ok P w K mg base CX0 4 ("_law_tail", none) P_l_tail sp_l_tail := by
  refine Ok.of T.f_l_tail sc_l_tail (fun _ _ _ _ _ _ us hl => match us, hl with | [_, _], _ => rfl) (fun vs H Q E h => ?_) fun f cdv A outer s H vs Q E hr h => ?_
  · obtain ⟨a, n, most, rfl, _⟩ := h
    rfl
  · obtain ⟨a, n, most, rfl, pn, hn, hm, k⟩ := h
    refine ⟨_, PSs.nox (pss_cons (ps_set (i := 2) sc_l_tail.nd rfl (Or.inl rfl) (pe_lst (pa_cons (pe_tup (pa_cons pe_str (pa_cons pe_int (pa_cons pe_int pa_nil)))) pa_nil)))
      (pss_cons (ps_set (i := 3) sc_l_tail.nd rfl (Or.inl rfl) (pe_lst (pa_cons (pe_tup (pa_cons pe_int (pa_cons pe_int pa_nil))) pa_nil)))
      (pss_cons (ps_for PassesOwn.never rfl (pi_range1 rfl T.bi.range (pa_cons (pv 1) pa_nil)) (pg_name (i := 4) sc_l_tail.nd rfl (Or.inl rfl))
       (pss_cons (ps_set (i := 5) sc_l_tail.nd rfl (Or.inl rfl) (pf (ok_l_deed T) T.g_l_deed hr rfl pass0 (pa_cons (pv 0) (pa_cons (pv 3) pa_nil))))
       (pss_cons (ps_set (i := 3) sc_l_tail.nd rfl (Or.inl rfl) (pf (ok_l_known T) T.g_l_known hr rfl pass0 (pa_cons (pv 5) (pa_cons (pv 3) pa_nil))))
       (pss_one (ps_expr (pe_bm PySem.F.plainAttrs_list PySem.F.slot_list_append PySem.F.type_list_append mt_append (pv 2) (pa_cons (pv 5) pa_nil)))))))
      (pss_one (ps_ret (pe_callTy call_tuple_of rfl T.bi.tuple (by decide +kernel) (pa_cons (pv 2) pa_nil))))))), ?_⟩
    walk_at "gs"
    refine ⟨szk (n := 3) (by decide), fun t0 ht0 => ?_⟩
    have s0 := Same.new (o := .tup [.str "make", .int 2, .int 4]) ht0
    refine ⟨szk (n := 1) (by decide), fun fa hfa => ?_⟩
    have s1 := Same.new (o := .lst [.ref t0]) hfa
    walk_at "gs"
    refine ⟨szk (n := 2) (by decide), fun t1 ht1 => ?_⟩
    have s2 := Same.new (o := .tup [.int 0, .int 2]) ht1
    refine ⟨szk (n := 1) (by decide), fun kb hkb => ?_⟩
    have s3 := Same.new (o := .lst [.ref t1]) hkb
    walk_at "gs"
    refine ⟨by omega, by omega, ?_⟩
    have s23 := Same.trans s2 s3
    have s03 := Same.trans s0 (Same.trans s1 s23)
    have hf0 : H fa = none := by
      cases e : H fa with
      | none => rfl
      | some o => rw [s0 _ _ e] at hfa; cases hfa
    have naf : a ≠ fa := fun z => (pn.ne hf0) z.symm
    have efa := s23 _ _ (upd_same (H := upd H t0 (.tup [.str "make", .int 2, .int 4])) (a := fa) (o := .lst [.ref t0]))
    have et0 := s23 _ _ (s1 _ _ (upd_same (H := H) (a := t0) (o := .tup [.str "make", .int 2, .int 4])))
    have et1 := s3 _ _ (upd_same (H := upd (upd H t0 (.tup [.str "make", .int 2, .int 4])) fa (.lst [.ref t0])) (a := t1) (o := .tup [.int 0, .int 2]))
    have nkf : kb ≠ fa := fun z => by
      rw [z, s2 _ _ upd_same] at hkb
      cases hkb
    refine for_range (n := most) (fun i σ H' => ∃ (prog : List Stm) (ws : List V) (kc : Addr) (x4 x5 : Option V), σ = [some (.ref a), some (.int most), some (.ref fa), some (.ref kc), x4, x5] ∧ ValP prog ∧ prog.length = i + 1 ∧ prog[0]? = some (.make 2 4) ∧ (∀ p ∈ spans prog, 0 ≤ p.2) ∧ (spans prog).length ≤ i + 1 ∧
      H' fa = some (.lst ws) ∧ RpA H' ws (prog.map stD) ∧ KnL H' kc (spans prog) ∧ kc ≠ fa ∧ kc ≠ a ∧ Fa a H H' ∧ Pn H' a (n + 60 * i)) ⟨[.make 2 4], [.ref t0], kb, none, none, rfl, ?_, rfl, rfl, ?_, by decide, efa, ?_, ?_, nkf, ?_, Fa.of s03, pn.same s03⟩ (fun i σ H' hi pv => ?_) fun σ H' pv => ?_
    · intro j x hx
      cases j with
      | zero =>
        have hx : Stm.make 2 4 = x := by simpa using hx
        subst hx
        exact ⟨by decide, by decide, by decide⟩
      | succ j => simp at hx
    · intro q hq
      have hq : q ∈ [((0 : Int), (2 : Int))] := hq
      rw [List.mem_singleton.mp hq]
      show (0 : Int) ≤ 2
      decide
    · exact RpA.cons ((rp_st (.make 2 4)).mpr ⟨t0, rfl, et0⟩) RpA.nil
    · exact ⟨[.ref t1], upd_same, RpA.cons ((rp_sp (0, 2)).mpr ⟨t1, rfl, et1⟩) RpA.nil⟩
    · exact fun z => (pn.same (Same.trans s0 (Same.trans s1 s2))).ne hkb z
    · obtain ⟨prog, ws, kc, x4, x5, rfl, vp, hl, h0, hps, hsl, hfa', hws, hkc, n1, n2, F, P⟩ := pv
      walk_at "gs"
      refine ⟨a, kc, _, _, rfl, P, by omega, hkc, n2, by omega, hps, fun t st H2 hv ht f2 p2 => ?_⟩
      walk_at "gs"
      refine ⟨t, kc, st, spans prog, rfl, ht, hkc.fr f2 n2, hv, by omega, fun c H3 sm hc hk3 => ?_⟩
      have hfa2 := f2.at_ hfa' (Ne.symm naf)
      have hfa3 := sm _ _ hfa2
      have hwl : ws.length = i + 1 := by rw [hws.length, List.length_map, hl]
      have F3 := Fa.trans F (Fa.trans f2 (Fa.of sm))
      have ncf : c ≠ fa := by
        rcases hc with z | z
        · rw [z]; exact n1
        · exact fun e => by rw [e, hfa2] at z; cases z
      have nca : c ≠ a := by
        rcases hc with z | z
        · rw [z]; exact n2
        · exact p2.ne z
      walk_at "gs"
      have tp : Tp H3 (upd H3 fa (.lst (ws ++ [.ref t]))) := tp_put hfa3 fun _ z => by cases z
      obtain ⟨kw, hkw, hkr⟩ := hk3
      refine ⟨lt_line (by omega), prog ++ [st], ws ++ [.ref t], c, _, _, rfl, vp.snoc hv, by rw [List.length_append, List.length_singleton]; omega, by rw [List.getElem?_append_left (by omega)]; exact h0, ?_, ?_, upd_same, ?_, ?_, ncf, nca, Fa.upd F3 hf0 naf _, (Pn.upd pn F3 (p2.same sm) hf0 _).mono (by omega)⟩
      · rw [spans_app]
        exact after_pos hps hv
      · rw [spans_app]
        have := after_len (spans prog) st
        omega
      · rw [List.map_append]
        refine RpA.snoc (RpA.tp (fun b xs h => tp _ _ (Same.tp sm _ _ (f2.tp _ _ h))) hws) ((rp_st st).mpr ⟨t, rfl, ?_⟩)
        exact ht.tp fun b xs h => tp _ _ (Same.tp sm _ _ h)
      · rw [spans_app]
        exact ⟨kw, by rw [upd_ne ncf]; exact hkw, RpA.tp tp hkr⟩
    · obtain ⟨prog, ws, kc, x4, x5, rfl, vp, hl, h0, hps, hsl, hfa', hws, hkc, n1, n2, F, P⟩ := pv
      walk_at "gs"
      refine ⟨fa, ws, rfl, .inl ⟨SqL.of hfa', fun t ht => ?_⟩⟩
      have st := Same.new (o := .tup ws) ht
      exact k t prog _ vp hl h0 ⟨ws, upd_same, RpA.tp (Same.tp st) hws⟩ (Fa.trans F (Fa.of st)) (P.same st)
end
end GB
set_option maxHeartbeats 4000000
/-! GL6: a policy drawn. -/
namespace GB
open PySem PySem.Spec PyProof.Rows L2
local macro_rules | `(tactic| walk_at "g") => `(tactic| first
  | refine ⟨_, rfl, ?_⟩
  | refine ⟨_, _, rfl, rfl, ?_⟩
  | refine ⟨_, _, _, _, rfl, rfl, SqT.of (by assumption), by rfl, ?_⟩
  | refine ⟨_, _, _, _, rfl, rfl, SqL.of (by assumption), by rfl, ?_⟩
  | refine ⟨_, _, _, _, rfl, rfl, SqL.of (by assumption), atI_nat (by assumption), ?_⟩
  | refine ⟨rfl, ⟨rfl, by decide⟩, ?_⟩
  | refine ⟨_, _, _, _, _, rfl, .ty _, .base (.tup (by assumption)), kt_tup, ?_⟩
  | refine ⟨_, _, _, _, _, rfl, .ty _, .base (.str _), kt_str, ?_⟩
  | refine ⟨_, _, rfl, .inr (SqT.of (by assumption)), ?_⟩
  | refine ⟨_, _, rfl, .inl (SqL.of (by assumption)), ?_⟩
  | refine iteT_of (by first | decide +kernel | rfl) ?_
  | refine iteF_of (by first | decide +kernel | rfl) ?_
  | refine iteT_of (btw_t (by omega)) ?_
  | refine iteF_of (by rw [btw_t (by omega)]; rfl) ?_
  | refine ⟨_, _, rfl, rfl, by assumption, ?_⟩
  | refine ⟨_, _, _, rfl, rfl, by assumption, ?_⟩
  | refine ⟨_, _, _, _, _, rfl, by assumption, Txt.cl (by assumption), by first | exact Txt.no_kept_program (by assumption) | exact Txt.no_kept_policy (by assumption) | exact Txt.no_rows (by assumption) | exact Txt.no_cells (by assumption) | exact Txt.no_makers (by assumption) | exact Txt.no_roots (by assumption) | exact Txt.no_seen (by assumption) | exact Txt.no_made (by assumption) | exact Txt.no_records (by assumption) | exact Txt.no_busy (by assumption), by rfl, ?_⟩
  | refine ⟨_, _, _, rfl, by assumption, by rfl, ?_⟩
  | refine ⟨_, _, _, rfl, ?_⟩
  | refine ⟨_, _, rfl, SqT.of (by assumption), by rfl, ?_⟩
  | refine ⟨_, _, rfl, ?_⟩
  | refine ⟨.inl (by decide), ?_⟩
  | refine ⟨.inl ⟨rfl, _, SqL.of (by assumption)⟩, ?_⟩
  | refine ⟨rfl, ?_⟩)
local macro_rules | `(tactic| walk_at "gs") => `(tactic| repeat walk_at "g")
local macro_rules | `(tactic| walk_at "b") => `(tactic| (first | decide +kernel | (simp only [decide_eq_true_eq, decide_eq_false_iff_not, List.length_map, V.int.injEq, Bool.not_eq_true', Bool.not_eq_false']; omega)))
theorem Ents.snoc {x c : Int} (h2 : x ≤ 59) (h3 : 0 ≤ c) (h4 : c ≤ 10 ^ 40 - 1) : ∀ {es : List (Int × Int)} {m : Int}, Ents m es → (∀ e ∈ es, e.1 < x) → m ≤ x → Ents m (es ++ [(x, c)])
  | [], m, _, _, hm => ⟨hm, h2, h3, h4, trivial⟩
  | e :: r, m, ⟨e1, e2, e3, e4, e5⟩, hl, hm => ⟨e1, e2, e3, e4, Ents.snoc h2 h3 h4 e5 (fun y hy => hl y (List.mem_cons_of_mem _ hy)) (by have := hl e List.mem_cons_self; omega)⟩
section
variable {P : Program} {w : World} {K : Frg} {mg : Str → Option Value} {base : Heap}
def sp_l_policy : Sp := fun vs H Q _ => ∃ (a : Addr) (n : Nat), vs = [.ref a] ∧ Pn H a n ∧ n ≤ 5000 ∧ ∀ t pol H', ValQ pol → poV t H' pol → Fa a H H' → Pn H' a (n + 400) → Q (.ref t) H'
theorem ok_l_policy (T : Txt K mg) : Ok P w K mg base CX0 2 ("_law_policy", none) P_l_policy sp_l_policy := by
  refine Ok.of T.f_l_policy sc_l_policy (fun _ _ _ _ _ _ us hl => match us, hl with | [_], _ => rfl) (fun vs H Q E h => ?_) fun f cdv A outer s H vs Q E hr h => ?_
  · obtain ⟨a, n, rfl, _⟩ := h
    rfl
  · obtain ⟨a, n, rfl, pn, hn, k⟩ := h
    refine ⟨_, PSs.nox (pss_cons (ps_set (i := 1) sc_l_policy.nd rfl (Or.inl rfl) (pf (ok_l_draw T) T.g_l_draw hr rfl pass0 (pa_cons (pv 0) (pa_cons pe_int pa_nil))))
      (pss_cons (ps_if (pt_cmpR op_eq (pv 1) pe_int (nomark _))
       (pss_one (ps_ret (pe_tup (pa_cons pe_str pa_nil))))
       pss_nil)
      (pss_cons (ps_if (pt_cmpR op_eq (pv 1) pe_int (nomark _))
       (pss_one (ps_ret (pe_tup (pa_cons pe_str pa_nil))))
       pss_nil)
      (pss_cons (ps_if (pt_cmpR op_eq (pv 1) pe_int (nomark _))
       (pss_one (ps_ret (pe_tup (pa_cons pe_str (pa_cons (pe_ix ix_list (pe_lst (pa_cons pe_int (pa_cons pe_int (pa_cons pe_int (pa_cons pe_int (pa_cons (pf (ok_l_draw T) T.g_l_draw hr rfl pass0 (pa_cons (pv 0) (pa_cons pe_int pa_nil))) (pa_cons (pe_op op_pow pe_int pe_int) pa_nil))))))) (pf (ok_l_draw T) T.g_l_draw hr rfl pass0 (pa_cons (pv 0) (pa_cons pe_int pa_nil))) (fun _ _ => rfl)) pa_nil)))))
       pss_nil)
      (pss_cons (ps_if (pt_cmpR op_eq (pv 1) pe_int (nomark _))
       (pss_cons (ps_set (i := 2) sc_l_policy.nd rfl (Or.inl rfl) (pe_op op_add pe_int (pf (ok_l_draw T) T.g_l_draw hr rfl pass0 (pa_cons (pv 0) (pa_cons (pe_ix ix_list (pe_lst (pa_cons pe_int (pa_cons pe_int pa_nil))) (pf (ok_l_draw T) T.g_l_draw hr rfl pass0 (pa_cons (pv 0) (pa_cons pe_int pa_nil))) (fun _ _ => rfl)) pa_nil)))))
       (pss_cons (ps_set (i := 3) sc_l_policy.nd rfl (Or.inl rfl) (pe_op op_fdiv (pe_op op_add (pe_op op_mul pe_int (pv 2)) pe_int) pe_int))
       (pss_one (ps_ret (pe_tup (pa_cons pe_str (pa_cons (pe_callB (call_min2 rfl) rfl T.bi.min (by decide +kernel) (pa_cons pe_int (pa_cons (pe_op op_add (pv 3) (pf (ok_l_draw T) T.g_l_draw hr rfl pass0 (pa_cons (pv 0) (pa_cons (pe_ix ix_list (pe_lst (pa_cons pe_int (pa_cons pe_int (pa_cons pe_int pa_nil)))) (pf (ok_l_draw T) T.g_l_draw hr rfl pass0 (pa_cons (pv 0) (pa_cons pe_int pa_nil))) (fun _ _ => rfl)) pa_nil)))) pa_nil))) (pa_cons (pv 2) pa_nil))))))))
       pss_nil)
      (pss_cons (ps_set (i := 4) sc_l_policy.nd rfl (Or.inl rfl) (pe_lst pa_nil))
      (pss_cons (ps_set (i := 5) sc_l_policy.nd rfl (Or.inl rfl) (pf (ok_l_draw T) T.g_l_draw hr rfl pass0 (pa_cons (pv 0) (pa_cons pe_int pa_nil))))
      (pss_cons (ps_for PassesOwn.never rfl (pi_range1 rfl T.bi.range (pa_cons (pe_ix ix_list (pe_lst (pa_cons pe_int (pa_cons pe_int (pa_cons pe_int (pa_cons pe_int pa_nil))))) (pf (ok_l_draw T) T.g_l_draw hr rfl pass0 (pa_cons (pv 0) (pa_cons pe_int pa_nil))) (fun _ _ => rfl)) pa_nil)) (pg_name (i := 6) sc_l_policy.nd rfl (Or.inl rfl))
       (pss_cons (ps_if (pt_cmpR op_lt (pv 5) pe_int (nomark _))
        (pss_one (ps_expr (pe_bm PySem.F.plainAttrs_list PySem.F.slot_list_append PySem.F.type_list_append mt_append (pv 4) (pa_cons (pe_tup (pa_cons (pv 5) (pa_cons (pe_ix ix_list (pe_lst (pa_cons pe_int (pa_cons pe_int (pa_cons pe_int (pa_cons pe_int (pa_cons (pf (ok_l_draw T) T.g_l_draw hr rfl pass0 (pa_cons (pv 0) (pa_cons pe_int pa_nil))) (pa_cons (pe_op op_sub (pe_op op_pow pe_int pe_int) pe_int) pa_nil))))))) (pf (ok_l_draw T) T.g_l_draw hr rfl pass0 (pa_cons (pv 0) (pa_cons pe_int pa_nil))) (fun _ _ => rfl)) pa_nil))) pa_nil))))
        pss_nil)
       (pss_one (ps_set (i := 5) sc_l_policy.nd rfl (Or.inl rfl) (pe_op op_add (pe_op op_add (pv 5) pe_int) (pf (ok_l_draw T) T.g_l_draw hr rfl pass0 (pa_cons (pv 0) (pa_cons pe_int pa_nil))))))))
      (pss_one (ps_ret (pe_tup (pa_cons pe_str (pa_cons (pe_callTy call_tuple_of rfl T.bi.tuple (by decide +kernel) (pa_cons (pv 4) pa_nil)) pa_nil))))))))))))), ?_⟩
    walk_at "gs"
    refine ⟨a, _, n, rfl, pn, by omega, by decide, by decide, fun d1 H1 a1 b1 f1 p1 => ?_⟩
    walk_at "gs"
    refine iteD (fun q => ?_) (fun q => ?_)
    · walk_at "gs"
      refine ⟨szk (n := 1) (by decide), fun t ht => ?_⟩
      have st := Same.new (o := .tup [.str "exact"]) ht
      exact k t .exact _ trivial upd_same (Fa.trans f1 (Fa.of st)) ((p1.same st).mono (by omega))
    walk_at "gs"
    refine iteD (fun q => ?_) (fun q => ?_)
    · walk_at "gs"
      refine ⟨szk (n := 1) (by decide), fun t ht => ?_⟩
      have st := Same.new (o := .tup [.str "endless"]) ht
      exact k t .endless _ trivial upd_same (Fa.trans f1 (Fa.of st)) ((p1.same st).mono (by omega))
    walk_at "gs"
    refine iteD (fun q => ?_) (fun q => ?_)
    · walk_at "gs"
      refine ⟨a, _, _, rfl, p1, by omega, by decide, by decide, fun d2 H2 a2 b2 f2 p2 => ?_⟩
      walk_at "gs"
      refine ⟨⟨by decide, by decide, by decide⟩, ?_⟩
      walk_at "gs"
      refine ⟨szk (n := 6) (by decide), fun l hl => ?_⟩
      have s2 := Same.new (o := .lst [.int 0, .int 1, .int 2, .int 3, .int d2, .int (10 ^ 30)]) hl
      walk_at "gs"
      refine ⟨a, _, _, rfl, p2.same s2, by omega, by decide, by decide, fun d3 H3 a3 b3 f3 p3 => ?_⟩
      have hl3 := f3.at_ (upd_same (H := H2) (a := l) (o := .lst [.int 0, .int 1, .int 2, .int 3, .int d2, .int (10 ^ 30)])) (p2.ne hl)
      obtain ⟨e, e0, e1, he⟩ : ∃ e : Int, 0 ≤ e ∧ e ≤ 10 ^ 30 ∧ atI [V.int 0, V.int 1, V.int 2, V.int 3, V.int d2, V.int (10 ^ 30)] d3 = some (.int e) := by
        obtain ⟨v, hv, hm⟩ := pickN (xs := [V.int 0, V.int 1, V.int 2, V.int 3, V.int d2, V.int (10 ^ 30)]) a3 b3
        simp only [List.mem_cons, List.not_mem_nil, or_false] at hm
        rcases hm with rfl | rfl | rfl | rfl | rfl | rfl
        · exact ⟨0, by decide, by decide, hv⟩
        · exact ⟨1, by decide, by decide, hv⟩
        · exact ⟨2, by decide, by decide, hv⟩
        · exact ⟨3, by decide, by decide, hv⟩
        · exact ⟨d2, a2, by omega, hv⟩
        · exact ⟨10 ^ 30, by decide, by decide, hv⟩
      refine ⟨_, _, _, .int e, rfl, rfl, SqL.of hl3, he, ?_⟩
      walk_at "gs"
      refine ⟨szk (n := 2) (by decide), fun t ht => ?_⟩
      have st := Same.new (o := .tup [.str "step", .int e]) ht
      exact k t (.step e) _ ⟨e0, e1⟩ upd_same (Fa.trans f1 (Fa.trans f2 (Fa.trans (Fa.of s2) (Fa.trans f3 (Fa.of st))))) ((p3.same st).mono (by omega))
    walk_at "gs"
    refine iteD (fun q => ?_) (fun q => ?_)
    · walk_at "gs"
      refine ⟨szk (n := 2) (by decide), fun l hl => ?_⟩
      have s2 := Same.new (o := .lst [.int 3, .int 80]) hl
      walk_at "gs"
      refine ⟨a, _, _, rfl, p1.same s2, by omega, by decide, by decide, fun d3 H3 a3 b3 f3 p3 => ?_⟩
      have hl3 := f3.at_ (upd_same (H := H1) (a := l) (o := .lst [.int 3, .int 80])) (p1.ne hl)
      obtain ⟨z, z0, z1, hz⟩ : ∃ z : Int, 0 < z ∧ z ≤ 80 ∧ atI [V.int 3, V.int 80] d3 = some (.int z) := by
        obtain ⟨v, hv, hvv⟩ := pick2 (x := .int 3) (y := .int 80) a3 b3
        rcases hvv with rfl | rfl
        · exact ⟨3, by decide, by decide, hv⟩
        · exact ⟨80, by decide, by decide, hv⟩
      refine ⟨_, _, _, .int z, rfl, rfl, SqL.of hl3, hz, ?_⟩
      walk_at "gs"
      refine ⟨a, _, _, rfl, p3, by omega, z0, by omega, fun d4 H4 a4 b4 f4 p4 => ?_⟩
      walk_at "gs"
      refine ⟨⟨by decide, by decide⟩, ?_⟩
      walk_at "gs"
      refine ⟨szk (n := 3) (by decide), fun l2 hl2 => ?_⟩
      have s4 := Same.new (o := .lst [.int 1, .int 2, .int 40]) hl2
      walk_at "gs"
      refine ⟨a, _, _, rfl, p4.same s4, by omega, by decide, by decide, fun d5 H5 a5 b5 f5 p5 => ?_⟩
      have hl5 := f5.at_ (upd_same (H := H4) (a := l2) (o := .lst [.int 1, .int 2, .int 40])) (p4.ne hl2)
      obtain ⟨y, y0, y1, hy⟩ : ∃ y : Int, 0 < y ∧ y ≤ 40 ∧ atI [V.int 1, V.int 2, V.int 40] d5 = some (.int y) := by
        obtain ⟨v, hv, hvv⟩ := pick3 (x := .int 1) (y := .int 2) (z := .int 40) a5 b5
        rcases hvv with rfl | rfl | rfl
        · exact ⟨1, by decide, by decide, hv⟩
        · exact ⟨2, by decide, by decide, hv⟩
        · exact ⟨40, by decide, by decide, hv⟩
      refine ⟨_, _, _, .int y, rfl, rfl, SqL.of hl5, hy, ?_⟩
      walk_at "gs"
      refine ⟨a, _, _, rfl, p5, by omega, y0, by omega, fun d6 H6 a6 b6 f6 p6 => ?_⟩
      walk_at "gs"
      refine ⟨szk (n := 3) (by decide), fun t ht => ?_⟩
      have st := Same.new (o := .tup [.str "factor", .int (if (5 * (1 + d4) + 3) / 4 + d6 < 100 then (5 * (1 + d4) + 3) / 4 + d6 else 100), .int (1 + d4)]) ht
      refine k t (.factor (if (5 * (1 + d4) + 3) / 4 + d6 < 100 then (5 * (1 + d4) + 3) / 4 + d6 else 100) (1 + d4)) _ ?_ upd_same (Fa.trans f1 (Fa.trans (Fa.of s2) (Fa.trans f3 (Fa.trans f4 (Fa.trans (Fa.of s4) (Fa.trans f5 (Fa.trans f6 (Fa.of st)))))))) ((p6.same st).mono (by omega))
      show 1 ≤ _ ∧ _ ∧ _
      split
      · exact ⟨by omega, by omega, by omega, by omega, by omega⟩
      · exact ⟨by omega, by omega, by omega, by omega, by omega⟩
    refine ⟨szk (n := 0) (by decide), fun fa hfa => ?_⟩
    have s2 := Same.new (o := .lst []) hfa
    have hf0 : H fa = none := by
      cases e : H fa with
      | none => rfl
      | some o =>
        have := f1.at_ e (p1.ne hfa)
        rw [hfa] at this
        cases this
    have nfa := p1.ne hfa
    walk_at "gs"
    refine ⟨a, _, _, rfl, p1.same s2, by omega, by decide, by decide, fun d2 H2 a2 b2 f2 p2 => ?_⟩
    have e2 := f2.at_ (upd_same (H := H1) (a := fa) (o := .lst [])) nfa
    walk_at "gs"
    refine ⟨szk (n := 4) (by decide), fun l hl => ?_⟩
    have s3 := Same.new (o := .lst [.int 0, .int 1, .int 3, .int 60]) hl
    walk_at "gs"
    refine ⟨a, _, _, rfl, p2.same s3, by omega, by decide, by decide, fun d3 H3 a3 b3 f3 p3 => ?_⟩
    have e3 := f3.at_ (s3 _ _ e2) nfa
    have hl3 := f3.at_ (upd_same (H := H2) (a := l) (o := .lst [.int 0, .int 1, .int 3, .int 60])) (p2.ne hl)
    obtain ⟨z, z1, hz⟩ : ∃ z : Nat, z ≤ 60 ∧ atI [V.int 0, V.int 1, V.int 3, V.int 60] d3 = some (.int z) := by
      obtain ⟨v, hv, hm⟩ := pickN (xs := [V.int 0, V.int 1, V.int 3, V.int 60]) a3 b3
      simp only [List.mem_cons, List.not_mem_nil, or_false] at hm
      rcases hm with rfl | rfl | rfl | rfl
      · exact ⟨0, by decide, hv⟩
      · exact ⟨1, by decide, hv⟩
      · exact ⟨3, by decide, hv⟩
      · exact ⟨60, by decide, hv⟩
    refine ⟨_, _, _, .int z, rfl, rfl, SqL.of hl3, hz, ?_⟩
    have F3 : Fa a H H3 := Fa.trans f1 (Fa.trans (Fa.of s2) (Fa.trans f2 (Fa.trans (Fa.of s3) f3)))
    walk_at "gs"
    refine ⟨by omega, by omega, ?_⟩
    refine for_range (n := z) (fun i σ H' => ∃ (es : List (Int × Int)) (ws : List V) (lt : Int) (x6 : Option V), σ = [some (.ref a), some (.int d1), none, none, some (.ref fa), some (.int lt), x6] ∧ Ents 0 es ∧ (∀ e ∈ es, e.1 < lt) ∧ es.length ≤ i ∧ 0 ≤ lt ∧
      H' fa = some (.lst ws) ∧ RpA H' ws (es.map enD) ∧ Fa a H H' ∧ Pn H' a (n + 3 + 3 * i)) ⟨[], [], d2, none, rfl, trivial, fun _ h => (by cases h), Nat.le_refl _, a2, e3, RpA.nil, F3, p3⟩ (fun i σ H' hi pv => ?_) fun σ H' pv => ?_
    · obtain ⟨es, ws, lt, x6, rfl, he, hlt, hel, l0, hfa', hws, F, P⟩ := pv
      have hwl : ws.length = es.length := by rw [hws.length, List.length_map]
      have naf : a ≠ fa := fun e => nfa e.symm
      walk_at "gs"
      refine iteD (fun q5 => ?_) (fun q5 => ?_)
      · have lt60 : lt < 60 := of_decide_eq_true q5
        walk_at "gs"
        refine ⟨a, _, _, rfl, P, by omega, by decide, by decide, fun d6 H6 a6 b6 f6 p6 => ?_⟩
        have e6 := f6.at_ hfa' nfa
        walk_at "gs"
        refine ⟨⟨by decide, by decide, by decide⟩, ?_⟩
        walk_at "gs"
        refine ⟨szk (n := 6) (by decide), fun l7 hl7 => ?_⟩
        have s7 := Same.new (o := .lst [.int 0, .int 1, .int 4, .int 7, .int d6, .int (10 ^ 40 - 1)]) hl7
        walk_at "gs"
        refine ⟨a, _, _, rfl, p6.same s7, by omega, by decide, by decide, fun d8 H8 a8 b8 f8 p8 => ?_⟩
        have e8 := f8.at_ (s7 _ _ e6) nfa
        have hl8 := f8.at_ (upd_same (H := H6) (a := l7) (o := .lst [.int 0, .int 1, .int 4, .int 7, .int d6, .int (10 ^ 40 - 1)])) (p6.ne hl7)
        obtain ⟨c, c0, c1, hc⟩ : ∃ c : Int, 0 ≤ c ∧ c ≤ 10 ^ 40 - 1 ∧ atI [V.int 0, V.int 1, V.int 4, V.int 7, V.int d6, V.int (10 ^ 40 - 1)] d8 = some (.int c) := by
          obtain ⟨v, hv, hm⟩ := pickN (xs := [V.int 0, V.int 1, V.int 4, V.int 7, V.int d6, V.int (10 ^ 40 - 1)]) a8 b8
          simp only [List.mem_cons, List.not_mem_nil, or_false] at hm
          rcases hm with rfl | rfl | rfl | rfl | rfl | rfl
          · exact ⟨0, by decide, by decide, hv⟩
          · exact ⟨1, by decide, by decide, hv⟩
          · exact ⟨4, by decide, by decide, hv⟩
          · exact ⟨7, by decide, by decide, hv⟩
          · exact ⟨d6, a6, by omega, hv⟩
          · exact ⟨10 ^ 40 - 1, by decide, by decide, hv⟩
        refine ⟨_, _, _, .int c, rfl, rfl, SqL.of hl8, hc, ?_⟩
        walk_at "gs"
        refine ⟨szk (n := 2) (by decide), fun t ht => ?_⟩
        have st := Same.new (o := .tup [.int lt, .int c]) ht
        have e9 := st _ _ e8
        refine ⟨fa, ws, _, rfl, rfl, e9, lt_line (by omega), ?_⟩
        have F9 : Fa a H (upd H8 t (.tup [.int lt, .int c])) := Fa.trans F (Fa.trans f6 (Fa.trans (Fa.of s7) (Fa.trans f8 (Fa.of st))))
        have tp : Tp (upd H8 t (.tup [.int lt, .int c])) (upd (upd H8 t (.tup [.int lt, .int c])) fa (.lst (ws ++ [.ref t]))) := tp_put e9 fun _ z => by cases z
        have F10 := Fa.upd F9 hf0 naf (.lst (ws ++ [.ref t]))
        have P10 := Pn.upd pn F9 (p8.same st) hf0 (.lst (ws ++ [.ref t]))
        have e10 : upd (upd H8 t (.tup [.int lt, .int c])) fa (.lst (ws ++ [.ref t])) fa = some (.lst (ws ++ [.ref t])) := upd_same
        have w10 : RpA (upd (upd H8 t (.tup [.int lt, .int c])) fa (.lst (ws ++ [.ref t]))) (ws ++ [.ref t]) ((es ++ [(lt, c)]).map enD) := by
          rw [List.map_append]
          refine RpA.snoc (RpA.tp (fun b xs h => tp _ _ (Same.tp st _ _ (f8.tp _ _ (Same.tp s7 _ _ (f6.tp _ _ h))))) hws) ((rp_en (lt, c)).mpr ⟨t, rfl, tp _ _ upd_same⟩)
        walk_at "gs"
        refine ⟨a, _, _, rfl, P10, by omega, by decide, by decide, fun d5 H5 a5 b5 f5 p5 => ?_⟩
        walk_at "gs"
        refine ⟨es ++ [(lt, c)], ws ++ [.ref t], lt + 1 + d5, _, rfl, Ents.snoc (by omega) c0 c1 he hlt l0, fun y hy => ?_, by rw [List.length_append, List.length_singleton]; omega, by omega, f5.at_ e10 nfa, RpA.tp f5.tp w10, Fa.trans F10 f5, p5.mono (by omega)⟩
        rcases List.mem_append.mp hy with z | z
        · have := hlt y z; omega
        · rw [List.mem_singleton.mp z]; show lt < lt + 1 + d5; omega
      · walk_at "gs"
        refine ⟨a, _, _, rfl, P, by omega, by decide, by decide, fun d5 H5 a5 b5 f5 p5 => ?_⟩
        walk_at "gs"
        exact ⟨es, ws, lt + 1 + d5, _, rfl, he, fun y hy => by have := hlt y hy; omega, by omega, by omega, f5.at_ hfa' nfa, RpA.tp f5.tp hws, Fa.trans F f5, p5.mono (by omega)⟩
    · obtain ⟨es, ws, lt, x6, rfl, he, hlt, hel, l0, hfa', hws, F, P⟩ := pv
      walk_at "gs"
      refine ⟨fa, ws, rfl, .inl ⟨SqL.of hfa', fun tx htx => ?_⟩⟩
      have sx := Same.new (o := .tup ws) htx
      walk_at "gs"
      refine ⟨szk (n := 2) (by decide), fun t ht => ?_⟩
      have st := Same.new (o := .tup [.str "table", .ref tx]) ht
      exact k t (.table es) _ ⟨he, by omega⟩ ⟨tx, ws, upd_same, st _ _ upd_same, RpA.tp (Same.tp (Same.trans sx st)) hws⟩ (Fa.trans F (Fa.trans (Fa.of sx) (Fa.of st))) (((P.same sx).same st).mono (by omega))
end
end GB
set_option maxHeartbeats 4000000
/-! GCeil: a plain fact for _law_chosen. -/
namespace GB
theorem ceil_eq (a b : Int) (hb : 0 < b) : 0 - (0 - a) / b = (a + b - 1) / b := by
  have e1 := Int.emod_add_mul_ediv (a + b - 1) b
  have e2 := Int.emod_add_mul_ediv (0 - a) b
  have r1 := Int.emod_nonneg (a + b - 1) (show b ≠ 0 by omega)
  have r2 := Int.emod_lt_of_pos (a + b - 1) hb
  have r3 := Int.emod_nonneg (0 - a) (show b ≠ 0 by omega)
  have r4 := Int.emod_lt_of_pos (0 - a) hb
  generalize (a + b - 1) / b = q at *
  generalize (0 - a) / b = q' at *
  generalize (a + b - 1) % b = r at *
  generalize (0 - a) % b = r' at *
  have hs : b * (q + q') = b - 1 - r - r' := by rw [Int.mul_add]; omega
  have h0 : q + q' = 0 := by
    rcases Int.lt_trichotomy (q + q') 0 with h | h | h
    · have : b * (q + q') ≤ b * (-1) := Int.mul_le_mul_of_nonneg_left (by omega) (by omega)
      omega
    · exact h
    · have : b * 1 ≤ b * (q + q') := Int.mul_le_mul_of_nonneg_left (by omega) (by omega)
      omega
  omega
end GB
set_option maxHeartbeats 4000000
/-! GL7: the law's own reckoning, small parts. -/
namespace GB
open PySem PySem.Spec PyProof.Rows L2
local macro_rules | `(tactic| walk_at "g") => `(tactic| first
  | refine ⟨_, rfl, ?_⟩
  | refine ⟨_, _, rfl, rfl, ?_⟩
  | refine ⟨_, _, _, _, rfl, rfl, SqT.of (by assumption), by rfl, ?_⟩
  | refine ⟨_, _, _, _, rfl, rfl, SqL.of (by assumption), by rfl, ?_⟩
  | refine ⟨_, _, _, _, rfl, rfl, SqL.of (by assumption), atI_nat (by assumption), ?_⟩
  | refine ⟨rfl, ⟨rfl, by decide⟩, ?_⟩
  | refine ⟨_, _, _, _, _, rfl, .ty _, .base (.tup (by assumption)), kt_tup, ?_⟩
  | refine ⟨_, _, _, _, _, rfl, .ty _, .base (.str _), kt_str, ?_⟩
  | refine ⟨_, _, rfl, .inr (SqT.of (by assumption)), ?_⟩
  | refine ⟨_, _, rfl, .inl (SqL.of (by assumption)), ?_⟩
  | refine iteT_of (by first | decide +kernel | rfl) ?_
  | refine iteF_of (by first | decide +kernel | rfl) ?_
  | refine iteT_of (btw_t (by omega)) ?_
  | refine iteF_of (by rw [btw_t (by omega)]; rfl) ?_
  | refine ⟨_, _, rfl, rfl, by assumption, ?_⟩
  | refine ⟨_, _, _, rfl, rfl, by assumption, ?_⟩
  | refine ⟨_, _, _, _, _, rfl, by assumption, Txt.cl (by assumption), by first | exact Txt.no_kept_program (by assumption) | exact Txt.no_kept_policy (by assumption) | exact Txt.no_rows (by assumption) | exact Txt.no_cells (by assumption) | exact Txt.no_makers (by assumption) | exact Txt.no_roots (by assumption) | exact Txt.no_seen (by assumption) | exact Txt.no_made (by assumption) | exact Txt.no_records (by assumption) | exact Txt.no_busy (by assumption), by rfl, ?_⟩
  | refine ⟨_, _, _, rfl, by assumption, by rfl, ?_⟩
  | refine ⟨_, _, _, rfl, ?_⟩
  | refine ⟨_, _, rfl, SqT.of (by assumption), by rfl, ?_⟩
  | refine ⟨_, _, rfl, ?_⟩
  | refine ⟨.inl (by decide), ?_⟩
  | refine ⟨.inl ⟨rfl, _, SqL.of (by assumption)⟩, ?_⟩
  | refine ⟨rfl, ?_⟩)
local macro_rules | `(tactic| walk_at "gs") => `(tactic| repeat walk_at "g")
local macro_rules | `(tactic| walk_at "b") => `(tactic| (first | decide +kernel | (simp only [decide_eq_true_eq, decide_eq_false_iff_not, List.length_map, V.int.injEq, Bool.not_eq_true', Bool.not_eq_false']; omega)))
theorem entMax_skip {k need : Int} : ∀ {es : List (Int × Int)}, (∀ e ∈ es, e.1 = k → e.2 ≤ need) → entMax es k need = need
  | [], _ => rfl
  | e :: r, h => by
    have h1 : (if e.1 = k then max need e.2 else need) = need := by
      split
      · rename_i z
        have := h e List.mem_cons_self z
        omega
      · rfl
    show entMax r k (if e.1 = k then max need e.2 else need) = need
    rw [h1]
    exact entMax_skip fun x hx => h x (List.mem_cons_of_mem _ hx)
theorem ents_gt {k : Int} : ∀ {es : List (Int × Int)} {m : Int}, Ents m es → k < m → ∀ e ∈ es, e.1 ≠ k
  | [], _, _, _, _, h => by cases h
  | x :: r, m, ⟨h1, _, _, _, h5⟩, hk, e, he => by
    rcases List.mem_cons.mp he with rfl | z
    · omega
    · exact ents_gt h5 (by omega) e z
theorem entMax_hit {k need : Int} : ∀ {es : List (Int × Int)} {m : Int} {i : Nat} {e : Int × Int}, Ents m es → es[i]? = some e → e.1 = k → need < e.2 → entMax es k need = e.2
  | [], _, i, e, _, h, _, _ => by simp at h
  | x :: r, m, 0, e, ⟨_, _, _, _, h5⟩, h, hk, hn => by
    have h : x = e := by simpa using h
    subst h
    show entMax r k (if x.1 = k then max need x.2 else need) = x.2
    rw [if_pos hk, show max need x.2 = x.2 by omega]
    exact entMax_skip fun y hy z => absurd z (ents_gt h5 (by omega) y hy)
  | x :: r, m, i + 1, e, ⟨_, _, _, _, h5⟩, h, hk, hn => by
    have hx : x.1 ≠ k := fun z => by
      have he : e ∈ r := List.mem_of_getElem? (by simpa using h)
      exact ents_gt h5 (show k < x.1 + 1 by omega) e he hk
    show entMax r k (if x.1 = k then max need x.2 else need) = e.2
    rw [if_neg hx]
    exact entMax_hit (i := i) h5 (by simpa using h) hk hn
section
variable {P : Program} {w : World} {K : Frg} {mg : Str → Option Value} {base : Heap}
def sp_l_chosen : Sp := fun vs H Q _ => ∃ (a : Addr) (pl : Pol) (k need : Int), vs = [.ref a, .int k, .int need] ∧ poV a H pl ∧ ValQ pl ∧ Q (capV (chosenQ pl k need)) H
theorem ok_l_chosen (T : Txt K mg) : Ok P w K mg base CX0 1 ("_law_chosen", none) P_l_chosen sp_l_chosen := by
  refine Ok.of T.f_l_chosen sc_l_chosen (fun _ _ _ _ _ _ us hl => match us, hl with | [_, _, _], _ => rfl) (fun vs H Q E h => ?_) fun f cdv A outer s H vs Q E hr h => ?_
  · obtain ⟨a, pl, k, need, rfl, _⟩ := h
    rfl
  · obtain ⟨a, pl, k, need, rfl, hpl, hv, q⟩ := h
    refine ⟨_, PSs.nox (pss_cons (ps_if (pt_cmpR op_eq (pe_ix ix_tup (pv 0) pe_int (fun _ _ => rfl)) pe_str (nomark _))
       (pss_one (ps_ret pe_non))
       pss_nil)
      (pss_cons (ps_if (pt_cmpR op_eq (pe_ix ix_tup (pv 0) pe_int (fun _ _ => rfl)) pe_str (nomark _))
       (pss_one (ps_ret (pe_op op_add (pv 2) (pe_ix ix_tup (pv 0) pe_int (fun _ _ => rfl)))))
       pss_nil)
      (pss_cons (ps_if (pt_cmpR op_eq (pe_ix ix_tup (pv 0) pe_int (fun _ _ => rfl)) pe_str (nomark _))
       (pss_one (ps_ret (pe_op op_sub pe_int (pe_op op_fdiv (pe_op op_sub pe_int (pe_op op_mul (pv 2) (pe_ix ix_tup (pv 0) pe_int (fun _ _ => rfl)))) (pe_ix ix_tup (pv 0) pe_int (fun _ _ => rfl))))))
       pss_nil)
      (pss_cons (ps_if (pt_cmpR op_eq (pe_ix ix_tup (pv 0) pe_int (fun _ _ => rfl)) pe_str (nomark _))
       (pss_one (ps_for PassesOwn.never rfl (pi_tup (pe_ix ix_tup (pv 0) pe_int (fun _ _ => rfl))) (pg_name (i := 3) sc_l_chosen.nd rfl (Or.inl rfl))
        (pss_one (ps_if (PW.pt (pw_and (pt_cmpR op_eq (pe_ix ix_tup (pv 3) pe_int (fun _ _ => rfl)) (pv 1) (nomark _)) (pw_and1 (pt_cmpR op_gt (pe_ix ix_tup (pv 3) pe_int (fun _ _ => rfl)) (pv 2) (nomark _)))))
         (pss_one (ps_ret (pe_ix ix_tup (pv 3) pe_int (fun _ _ => rfl))))
         pss_nil))))
       pss_nil)
      (pss_one (ps_ret (pv 2))))))), ?_⟩
    cases pl with
    | exact =>
      have hpl : H a = _ := hpl
      walk_at "gs"
      exact q
    | endless =>
      have hpl : H a = _ := hpl
      walk_at "gs"
      exact q
    | step e =>
      have hpl : H a = _ := hpl
      walk_at "gs"
      exact q
    | factor t b =>
      have hpl : H a = _ := hpl
      obtain ⟨t0, t1, b0, b1, _⟩ := hv
      walk_at "gs"
      refine ⟨.inr ⟨by omega, by omega⟩, ?_⟩
      walk_at "gs"
      refine ⟨⟨by omega, by omega⟩, ?_⟩
      walk_at "gs"
      show Q (.int (0 - (0 - need * t) / b)) H
      rw [ceil_eq _ _ (by omega)]
      exact q
    | table es =>
      obtain ⟨b, ws, ha, hb, hws⟩ := hpl
      walk_at "gs"
      refine ⟨⟨ws, SqT.of hb⟩, ?_⟩
      refine for_tup (xs := ws) (fun i σ H' => H' = H ∧ (∃ x, σ = [some (.ref a), some (.int k), some (.int need), x]) ∧ ∀ (j : Nat) (e : Int × Int), j < i → es[j]? = some e → e.1 = k → e.2 ≤ need) ⟨rfl, ⟨none, rfl⟩, fun j e h => absurd h (Nat.not_lt_zero _)⟩ (fun i σ H' _ pv => by rw [pv.1]; exact SqT.of hb) (fun i x σ H' hx pv => ?_) fun σ H' pv => ?_
      · obtain ⟨rfl, ⟨x3, rfl⟩, hp⟩ := pv
        obtain ⟨dd, hdd, rx⟩ := hws.getV hx
        obtain ⟨e, he, rfl⟩ : ∃ e, es[i]? = some e ∧ enD e = dd := by simpa using hdd
        obtain ⟨te, rfl, hte⟩ := (rp_en e).mp rx
        have nx : (e.1 = k → e.2 ≤ need) → ∀ (j : Nat) (y : Int × Int), j < i + 1 → es[j]? = some y → y.1 = k → y.2 ≤ need := fun h j y hj hy => by
          by_cases z : j = i
          · rw [z, he] at hy
            cases hy
            exact h
          · exact hp j y (by omega) hy
        walk_at "gs"
        refine iteD (fun q1 => ?_) (fun q1 => ?_)
        · have k1 : e.1 = k := by simpa using q1
          walk_at "gs"
          refine iteD (fun q2 => ?_) (fun q2 => ?_)
          · walk_at "gs"
            have h2 : entMax es k need = e.2 := entMax_hit hv.1 he k1 (of_decide_eq_true q2)
            have q : Q (.int (entMax es k need)) _ := q
            rw [h2] at q
            exact q
          · exact ⟨rfl, ⟨_, rfl⟩, nx fun _ => by have := of_decide_eq_false q2; omega⟩
        · exact ⟨rfl, ⟨_, rfl⟩, nx fun z => absurd z (by simpa using q1)⟩
      · obtain ⟨rfl, ⟨x3, rfl⟩, hp⟩ := pv
        walk_at "gs"
        have h2 : entMax es k need = need := entMax_skip fun e he h1 => by
          obtain ⟨j, hj⟩ := List.mem_iff_getElem?.mp he
          exact hp j e (by
            have := (List.getElem?_eq_some_iff.mp hj).1
            rw [hws.length, List.length_map]
            exact this) hj h1
        have q : Q (.int (entMax es k need)) _ := q
        rw [h2] at q
        exact q
end
end GB
set_option maxHeartbeats 4000000
/-! GL8: the law's state. -/
namespace GB
open PySem PySem.Spec PyProof.Rows L2
local macro_rules | `(tactic| walk_at "g") => `(tactic| first
  | refine ⟨_, rfl, ?_⟩
  | refine ⟨_, _, rfl, rfl, ?_⟩
  | refine ⟨_, _, _, _, rfl, rfl, SqT.of (by assumption), by rfl, ?_⟩
  | refine ⟨_, _, _, _, rfl, rfl, SqL.of (by assumption), by rfl, ?_⟩
  | refine ⟨_, _, _, _, rfl, rfl, SqL.of (by assumption), atI_nat (by assumption), ?_⟩
  | refine ⟨rfl, ⟨rfl, by decide⟩, ?_⟩
  | refine ⟨_, _, _, _, _, rfl, .ty _, .base (.tup (by assumption)), kt_tup, ?_⟩
  | refine ⟨_, _, _, _, _, rfl, .ty _, .base (.str _), kt_str, ?_⟩
  | refine ⟨_, _, rfl, .inr (SqT.of (by assumption)), ?_⟩
  | refine ⟨_, _, rfl, .inl (SqL.of (by assumption)), ?_⟩
  | refine iteT_of (by first | decide +kernel | rfl) ?_
  | refine iteF_of (by first | decide +kernel | rfl) ?_
  | refine iteT_of (btw_t (by omega)) ?_
  | refine iteF_of (by rw [btw_t (by omega)]; rfl) ?_
  | refine ⟨_, _, rfl, rfl, by assumption, ?_⟩
  | refine ⟨_, _, _, rfl, rfl, by assumption, ?_⟩
  | refine ⟨_, _, _, _, _, rfl, by assumption, Txt.cl (by assumption), by first | exact Txt.no_kept_program (by assumption) | exact Txt.no_kept_policy (by assumption) | exact Txt.no_rows (by assumption) | exact Txt.no_cells (by assumption) | exact Txt.no_makers (by assumption) | exact Txt.no_roots (by assumption) | exact Txt.no_seen (by assumption) | exact Txt.no_made (by assumption) | exact Txt.no_records (by assumption) | exact Txt.no_busy (by assumption), by rfl, ?_⟩
  | refine ⟨_, _, _, rfl, by assumption, by rfl, ?_⟩
  | refine ⟨_, _, _, rfl, ?_⟩
  | refine ⟨_, _, rfl, SqT.of (by assumption), by rfl, ?_⟩
  | refine ⟨_, _, rfl, ?_⟩
  | refine ⟨.inl (by decide), ?_⟩
  | refine ⟨.inl ⟨rfl, _, SqL.of (by assumption)⟩, ?_⟩
  | refine ⟨rfl, ?_⟩)
local macro_rules | `(tactic| walk_at "gs") => `(tactic| repeat walk_at "g")
local macro_rules | `(tactic| walk_at "b") => `(tactic| (first | decide +kernel | (simp only [decide_eq_true_eq, decide_eq_false_iff_not, List.length_map, V.int.injEq, Bool.not_eq_true', Bool.not_eq_false']; omega)))
structure LM where
  rows : List Row
  dict : List ((Int × Int) × Ct)
  makers : List Int
  roots : List Int
  seen : List Ct
  made : List (Int × Option Int)
def LM.zero : LM := ⟨[], [], [], [], [], []⟩
def DtA (H : Hp) : List (List Key × V) → List ((Int × Int) × Ct) → Prop
  | [], [] => True
  | e :: r, c :: t => e.1 = [.inl c.1.1, .inl c.1.2] ∧ Rp H e.2 (ctD c.2) ∧ DtA H r t
  | _, _ => False
/-- where the parts of a state stand -/
structure LA where
  r : Addr
  d : Addr
  mr : Addr
  rt : Addr
  se : Addr
  ma : Addr
structure LSA (H : Hp) (a : Addr) (p : LA) (x : LM) : Prop where
  top : H a = some (.lst [.ref p.r, .ref p.d, .ref p.mr, .ref p.rt, .ref p.se, .ref p.ma])
  rows : ∃ ws, H p.r = some (.lst ws) ∧ RpA H ws (x.rows.map rowD)
  dict : ∃ kvs, H p.d = some (.dT kvs) ∧ DtA H kvs x.dict
  makers : H p.mr = some (.lst (x.makers.map .int))
  roots : H p.rt = some (.lst (x.roots.map .int))
  seen : ∃ ws, H p.se = some (.lst ws) ∧ RpA H ws (x.seen.map ctD)
  made : ∃ ws, H p.ma = some (.lst ws) ∧ RpA H ws (x.made.map mdD)
  nd : [a, p.r, p.mr, p.rt, p.se, p.ma].Nodup
section
variable {P : Program} {w : World} {K : Frg} {mg : Str → Option Value} {base : Heap}
def sp_l_fresh : Sp := fun vs H Q _ => vs = [] ∧ ∀ a p H', LSA H' a p LM.zero → Same H H' → (∀ x ∈ [a, p.r, p.d, p.mr, p.rt, p.se, p.ma], H x = none) → Q (.ref a) H'
theorem ok_l_fresh (T : Txt K mg) : Ok P w K mg base CX0 1 ("_law_fresh", none) P_l_fresh sp_l_fresh := by
  refine Ok.of T.f_l_fresh sc_l_fresh (fun _ _ _ _ _ _ us hl => match us, hl with | [], _ => rfl) (fun vs H Q E h => ?_) fun f cdv A outer s H vs Q E hr h => ?_
  · obtain ⟨rfl, _⟩ := h
    rfl
  · obtain ⟨rfl, k⟩ := h
    refine ⟨_, PSs.nox (pss_one (ps_ret (pe_lst (pa_cons (pe_lst pa_nil) (pa_cons pe_dnewT (pa_cons (pe_lst pa_nil) (pa_cons (pe_lst pa_nil) (pa_cons (pe_lst pa_nil) (pa_cons (pe_lst pa_nil) pa_nil))))))))), ?_⟩
    refine ⟨szk (n := 0) (by decide), fun r h1 => ?_⟩
    have s1 := Same.new (o := .lst []) h1
    have t1 := (Tr.mk (H0 := H) (H := H) (L := []) (fun _ h => (by cases h)) List.nodup_nil).new (Same.refl H) h1 (.lst [])
    refine fun d h2 => ?_
    have s2 := Same.new (o := .dT []) h2
    have S2 := Same.trans s1 s2
    have t2 := t1.new s1 h2 (.dT [])
    refine ⟨szk (n := 0) (by decide), fun mk h3 => ?_⟩
    have s3 := Same.new (o := .lst []) h3
    have S3 := Same.trans S2 s3
    have t3 := t2.new S2 h3 (.lst [])
    refine ⟨szk (n := 0) (by decide), fun rt h4 => ?_⟩
    have s4 := Same.new (o := .lst []) h4
    have S4 := Same.trans S3 s4
    have t4 := t3.new S3 h4 (.lst [])
    refine ⟨szk (n := 0) (by decide), fun se h5 => ?_⟩
    have s5 := Same.new (o := .lst []) h5
    have S5 := Same.trans S4 s5
    have t5 := t4.new S4 h5 (.lst [])
    refine ⟨szk (n := 0) (by decide), fun ma h6 => ?_⟩
    have s6 := Same.new (o := .lst []) h6
    have S6 := Same.trans S5 s6
    have t6 := t5.new S5 h6 (.lst [])
    refine ⟨szk (n := 6) (by decide), fun a h7 => ?_⟩
    have s7 := Same.new (o := .lst [.ref r, .ref d, .ref mk, .ref rt, .ref se, .ref ma]) h7
    have S7 := Same.trans S6 s7
    have t7 := t6.new S6 h7 (.lst [.ref r, .ref d, .ref mk, .ref rt, .ref se, .ref ma])
    have nd := t7.nd
    simp only [List.nodup_cons, List.mem_cons, List.not_mem_nil, or_false, not_or] at nd
    refine k a ⟨r, d, mk, rt, se, ma⟩ _ ⟨upd_same, ⟨[], s7 _ _ (s6 _ _ (s5 _ _ (s4 _ _ (s3 _ _ (s2 _ _ upd_same))))), RpA.nil⟩, ⟨[], s7 _ _ (s6 _ _ (s5 _ _ (s4 _ _ (s3 _ _ upd_same)))), trivial⟩, s7 _ _ (s6 _ _ (s5 _ _ (s4 _ _ upd_same))), s7 _ _ (s6 _ _ (s5 _ _ upd_same)), ⟨[], s7 _ _ (s6 _ _ upd_same), RpA.nil⟩, ⟨[], s7 _ _ upd_same, RpA.nil⟩, ?_⟩ S7 fun x hx => (t7.th x ?_).2
    · simp only [List.nodup_cons, List.mem_cons, List.not_mem_nil, or_false, not_or, List.nodup_nil, not_false_eq_true, and_true]
      simp_all [eq_comm]
    · rcases List.mem_cons.mp hx with h | hx
      · rw [h]; simp
      rcases List.mem_cons.mp hx with h | hx
      · rw [h]; simp
      rcases List.mem_cons.mp hx with h | hx
      · rw [h]; simp
      rcases List.mem_cons.mp hx with h | hx
      · rw [h]; simp
      rcases List.mem_cons.mp hx with h | hx
      · rw [h]; simp
      rcases List.mem_cons.mp hx with h | hx
      · rw [h]; simp
      rcases List.mem_cons.mp hx with h | hx
      · rw [h]; simp
      cases hx
end
end GB
set_option maxHeartbeats 4000000
/-! GL9: the law's state is asked. -/
namespace GB
open PySem PySem.Spec PyProof.Rows L2
local macro_rules | `(tactic| walk_at "g") => `(tactic| first
  | refine ⟨_, rfl, ?_⟩
  | refine ⟨_, _, rfl, rfl, ?_⟩
  | refine ⟨_, _, _, _, rfl, rfl, SqT.of (by assumption), by rfl, ?_⟩
  | refine ⟨_, _, _, _, rfl, rfl, SqL.of (by assumption), by rfl, ?_⟩
  | refine ⟨_, _, _, _, rfl, rfl, SqL.of (by assumption), atI_nat (by assumption), ?_⟩
  | refine ⟨rfl, ⟨rfl, by decide⟩, ?_⟩
  | refine ⟨_, _, _, _, _, rfl, .ty _, .base (.tup (by assumption)), kt_tup, ?_⟩
  | refine ⟨_, _, _, _, _, rfl, .ty _, .base (.str _), kt_str, ?_⟩
  | refine ⟨_, _, rfl, .inr (SqT.of (by assumption)), ?_⟩
  | refine ⟨_, _, rfl, .inl (SqL.of (by assumption)), ?_⟩
  | refine iteT_of (by first | decide +kernel | rfl) ?_
  | refine iteF_of (by first | decide +kernel | rfl) ?_
  | refine iteT_of (btw_t (by omega)) ?_
  | refine iteF_of (by rw [btw_t (by omega)]; rfl) ?_
  | refine ⟨_, _, rfl, rfl, by assumption, ?_⟩
  | refine ⟨_, _, _, rfl, rfl, by assumption, ?_⟩
  | refine ⟨_, _, _, _, _, rfl, by assumption, Txt.cl (by assumption), by first | exact Txt.no_kept_program (by assumption) | exact Txt.no_kept_policy (by assumption) | exact Txt.no_rows (by assumption) | exact Txt.no_cells (by assumption) | exact Txt.no_makers (by assumption) | exact Txt.no_roots (by assumption) | exact Txt.no_seen (by assumption) | exact Txt.no_made (by assumption) | exact Txt.no_records (by assumption) | exact Txt.no_busy (by assumption), by rfl, ?_⟩
  | refine ⟨_, _, _, rfl, by assumption, by rfl, ?_⟩
  | refine ⟨_, _, _, rfl, ?_⟩
  | refine ⟨_, _, rfl, SqT.of (by assumption), by rfl, ?_⟩
  | refine ⟨_, _, rfl, ?_⟩
  | refine ⟨.inl (by decide), ?_⟩
  | refine ⟨.inl ⟨rfl, _, SqL.of (by assumption)⟩, ?_⟩
  | refine ⟨rfl, ?_⟩)
local macro_rules | `(tactic| walk_at "gs") => `(tactic| repeat walk_at "g")
local macro_rules | `(tactic| walk_at "b") => `(tactic| (first | decide +kernel | (simp only [decide_eq_true_eq, decide_eq_false_iff_not, List.length_map, V.int.injEq, Bool.not_eq_true', Bool.not_eq_false']; omega)))
abbrev ky (k : Int × Int) : List Key := [.inl k.1, .inl k.2]
theorem ky_inj {k l : Int × Int} : ky k = ky l ↔ k = l := by
  constructor
  · intro h
    injection h with h1 h2
    injection h2 with h3 _
    exact Prod.ext (Sum.inl.inj h1) (Sum.inl.inj h3)
  · intro h; rw [h]
theorem DtA.get {H : Hp} : ∀ {kvs : List (List Key × V)} {d : List ((Int × Int) × Ct)} (k : Int × Int), DtA H kvs d → match gget d k with
    | none => valV kvs (ky k) = none
    | some c => ∃ v, valV kvs (ky k) = some v ∧ Rp H v (ctD c)
  | [], [], _, _ => rfl
  | e :: r, c :: t, k, ⟨h1, h2, h3⟩ => by
    have h1 : e.1 = ky c.1 := h1
    by_cases z : c.1 = k
    · rw [gget_pos z]
      exact ⟨e.2, valV_pos (by rw [h1, z]), h2⟩
    · rw [gget_neg z, valV_neg (fun q => z (ky_inj.mp (h1.symm.trans q)))]
      exact h3.get k
  | [], _ :: _, _, h => h.elim
  | _ :: _, [], _, h => h.elim
def LM.at_ (x : LM) (b : Nat) (p : Int) : Ct := (gget x.dict ((b : Int), p)).getD (x.roots.getD b 0, 0)
section
variable {P : Program} {w : World} {K : Frg} {mg : Str → Option Value} {base : Heap}
def sp_l_at : Sp := fun vs H Q _ => ∃ (a : Addr) (p : LA) (x : LM) (b : Nat) (pl : Int), vs = [.ref a, .int b, .int pl] ∧ LSA H a p x ∧ b < x.roots.length ∧ ∀ v H', Same H H' → Rp H' v (ctD (x.at_ b pl)) → Q v H'
theorem ok_l_at (T : Txt K mg) : Ok P w K mg base CX0 1 ("_law_at", none) P_l_at sp_l_at := by
  refine Ok.of T.f_l_at sc_l_at (fun _ _ _ _ _ _ us hl => match us, hl with | [_, _, _], _ => rfl) (fun vs H Q E h => ?_) fun f cdv A outer s H vs Q E hr h => ?_
  · obtain ⟨a, p, x, b, pl, rfl, _⟩ := h
    rfl
  · obtain ⟨a, p, x, b, pl, rfl, hs, hb, k⟩ := h
    have h0 := hs.top
    have h3 := hs.roots
    obtain ⟨kvs, hd, hk⟩ := hs.dict
    refine ⟨_, PSs.nox (pss_one (ps_ret (pe_dget2 (hu_of hr) (pe_ix ix_list (pv 0) pe_int (fun _ _ => rfl)) (pe_tup (pa_cons (pv 1) (pa_cons (pv 2) pa_nil))) (pe_tup (pa_cons (pe_ix ix_list (pe_ix ix_list (pv 0) pe_int (fun _ _ => rfl)) (pv 1) (fun _ _ => rfl)) (pa_cons pe_int pa_nil))) ⟨rfl, rfl, rfl, rfl⟩))), ?_⟩
    walk_at "gs"
    refine ⟨.inr ⟨_, .inl hd⟩, ?_⟩
    walk_at "gs"
    refine ⟨szk (n := 2) (by decide), fun t1 ht1 => ?_⟩
    have s1 := Same.new (o := .tup [.int b, .int pl]) ht1
    have h01 := s1 _ _ h0
    have h31 := s1 _ _ h3
    have hr1 : (x.roots.map V.int)[b]? = some (.int (x.roots.getD b 0)) := by
      rw [List.getElem?_map, List.getElem?_eq_getElem hb, List.getD_eq_getElem?_getD, List.getElem?_eq_getElem hb] <;> rfl
    walk_at "gs"
    refine ⟨szk (n := 2) (by decide), fun t2 ht2 => ?_⟩
    have s2 := Same.new (o := .tup [.int (x.roots.getD b 0), .int 0]) ht2
    have ss := Same.trans s1 s2
    refine ⟨_, DGet.t (k := ky ((b : Int), pl)) (ss _ _ hd) (s2 _ _ upd_same), ?_⟩
    have z := hk.get ((b : Int), pl)
    have e1 : x.at_ b pl = (gget x.dict ((b : Int), pl)).getD (x.roots.getD b 0, 0) := rfl
    cases g : gget x.dict ((b : Int), pl) with
    | none =>
      rw [g] at z e1
      rw [z]
      refine k _ _ ss ?_
      rw [e1]
      exact (rp_ct _).mpr ⟨t2, rfl, upd_same⟩
    | some c =>
      rw [g] at z e1
      obtain ⟨v, hv, rv⟩ := z
      rw [hv]
      refine k _ _ ss ?_
      rw [e1]
      exact Rp.tp (Same.tp ss) rv
end
end GB
set_option maxHeartbeats 4000000
/-! GSim: the law's state stands for a machine's. -/
namespace GB
open PySem
section
variable {κ α : Type} [DecidableEq κ]
theorem gget_map (k : κ) (c : α) (l : κ) : ∀ d : List (κ × α), gget (d.map fun kv => if kv.1 = k then (kv.1, c) else kv) l = if l = k then (gget d k).map (fun _ => c) else gget d l
  | [] => by split <;> rfl
  | p :: r => by
    have ih := gget_map k c l r
    rw [List.map_cons]
    by_cases h : p.1 = k
    · rw [if_pos h, gget_pos h]
      by_cases z : l = k
      · rw [if_pos z, gget_pos (show (p.1, c).1 = l by rw [z]; exact h)] <;> rfl
      · rw [if_neg z, gget_neg (show ¬ (p.1, c).1 = l from fun e => z (e.symm.trans h)), gget_neg (fun e => z (e.symm.trans h)), ih, if_neg z]
    · rw [if_neg h, gget_neg h]
      by_cases z : p.1 = l
      · rw [gget_pos z, gget_pos z, if_neg (fun e => h (z.trans e))]
      · rw [gget_neg z, gget_neg z, ih]
theorem gget_put (d : List (κ × α)) (k : κ) (c : α) (l : κ) : gget (gput d k c) l = if l = k then some c else gget d l := by
  cases e : gget d k with
  | none =>
    rw [gput_new e]
    by_cases z : l = k
    · rw [if_pos z, z]
      unfold gget at e ⊢
      rw [List.find?_append, Option.map_eq_none_iff.mp e]
      simp
    · rw [if_neg z]
      unfold gget
      rw [List.find?_append]
      cases f : d.find? fun kv => decide (kv.1 = l) with
      | some x => rfl
      | none => simp [Ne.symm z]
  | some o =>
    rw [gput_old e]
    rw [gget_map, e] <;> rfl
end
/-- the law's state x stands for the machine's s -/
structure Sim (x : LM) (s : MS) : Prop where
  rows : x.rows = s.rows
  makers : x.makers = s.makers
  roots : x.roots = s.roots
  seen : x.seen = s.seen
  made : x.made = s.made
  cm : s.cells.length = s.makers.length
  cr : s.cells.length = s.roots.length
  get : ∀ (b : Nat) (p : Int), gget x.dict ((b : Int), p) = gget (s.blk b) p
  key : ∀ e ∈ x.dict, ∃ b : Nat, e.1.1 = (b : Int) ∧ b < s.cells.length
  nd : NdK x.dict
theorem Sim.found {x : LM} {s : MS} (h : Sim x s) (b : Nat) (p : Int) : x.at_ b p = s.found b p := by
  unfold LM.at_ MS.found
  rw [h.get, h.roots]
theorem gput_keys {κ α : Type} [DecidableEq κ] {d : List (κ × α)} {k : κ} {c : α} {e : κ × α} (h : e ∈ gput d k c) : e.1 = k ∨ ∃ e' ∈ d, e'.1 = e.1 := by
  unfold gput at h
  split at h
  · obtain ⟨y, hy, rfl⟩ := List.mem_map.mp h
    refine .inr ⟨y, hy, ?_⟩
    split <;> rfl
  · rcases List.mem_append.mp h with z | z
    · exact .inr ⟨e, z, rfl⟩
    · exact .inl (by rw [List.mem_singleton.mp z])
theorem blk_cells_set (cs : List Dic) (b : Nat) (d : Dic) (j : Nat) : (cs.set b d).getD j [] = if j = b ∧ b < cs.length then d else cs.getD j [] := by
  rw [List.getD_eq_getElem?_getD, List.getD_eq_getElem?_getD, List.getElem?_set]
  by_cases z : b = j
  · subst z
    by_cases y : b < cs.length
    · rw [if_pos rfl, if_pos y, if_pos ⟨rfl, y⟩] <;> rfl
    · rw [if_pos rfl, if_neg y, if_neg (fun q => y q.2), List.getElem?_eq_none (by omega)]
  · rw [if_neg z, if_neg (fun q => z q.1.symm)]
/-- a content is written on both sides -/
theorem Sim.put {x : LM} {s : MS} (h : Sim x s) (b : Nat) (p : Int) (c : Ct) (hb : b < s.cells.length) : Sim { x with dict := gput x.dict ((b : Int), p) c } (s.set b p c) where
  rows := h.rows
  makers := h.makers
  roots := h.roots
  seen := h.seen
  made := h.made
  cm := by
    show (s.cells.set b _).length = _
    rw [List.length_set]; exact h.cm
  cr := by
    show (s.cells.set b _).length = _
    rw [List.length_set]; exact h.cr
  get := fun j q => by
    show gget (gput x.dict ((b : Int), p) c) ((j : Int), q) = gget ((s.cells.set b (gput (s.blk b) p c)).getD j []) q
    rw [gget_put, blk_cells_set]
    by_cases z : j = b
    · subst z
      rw [show (if j = j ∧ j < s.cells.length then gput (s.blk j) p c else s.cells.getD j []) = gput (s.blk j) p c from if_pos ⟨rfl, hb⟩, gget_put]
      by_cases y : q = p
      · rw [if_pos y, if_pos (by rw [y])]
      · rw [if_neg y, if_neg (fun e => y (Prod.mk.inj e).2)]
        exact h.get j q
    · rw [if_neg (show ¬ (((j : Int), q) = ((b : Int), p)) from fun e => z (by have := (Prod.mk.inj e).1; omega)), if_neg (show ¬ (j = b ∧ b < s.cells.length) from fun q => z q.1)]
      exact h.get j q
  key := fun e he => by
    show ∃ j : Nat, e.1.1 = (j : Int) ∧ j < (s.cells.set b _).length
    rw [List.length_set]
    rcases gput_keys he with z | ⟨y, hy, z⟩
    · exact ⟨b, by rw [z], hb⟩
    · obtain ⟨j, h1, h2⟩ := h.key y hy
      exact ⟨j, by rw [← z]; exact h1, h2⟩
  nd := h.nd.put _ _
end GB
set_option maxHeartbeats 4000000
/-! GSim2: a block copied, on both sides. -/
namespace GB
open PySem
theorem gget_keep (lo hi q : Int) : ∀ d : Dic, gget (keepIn lo hi d) q = if lo ≤ q ∧ q < hi then gget d q else none
  | [] => by split <;> rfl
  | e :: r => by
    have ih := gget_keep lo hi q r
    unfold keepIn at ih ⊢
    by_cases c : lo ≤ e.1 ∧ e.1 < hi
    · rw [List.filter_cons_of_pos (by simpa using c)]
      by_cases z : e.1 = q
      · rw [gget_pos z, gget_pos z, if_pos (by rw [← z]; exact c)]
      · rw [gget_neg z, gget_neg z, ih]
    · rw [List.filter_cons_of_neg (by simpa using c), ih]
      by_cases z : e.1 = q
      · rw [if_neg (by rw [← z]; exact c), if_neg (by rw [← z]; exact c)]
      · rw [gget_neg z]
abbrev TD := List ((Int × Int) × Ct)
/-- one key of the copy -/
def cpy1 (b nb lo hi : Int) (D : TD) (e : (Int × Int) × Ct) : TD := if e.1.1 = b ∧ lo ≤ e.1.2 ∧ e.1.2 < hi then gput D (nb, e.1.2) e.2 else D
def cpy (b nb lo hi : Int) (d0 : TD) (es : TD) : TD := es.foldl (cpy1 b nb lo hi) d0
theorem cpy_get {b nb lo hi : Int} : ∀ (es : TD) (D : TD) (j q : Int), NdK es → gget (cpy b nb lo hi D es) (j, q) = if j = nb ∧ lo ≤ q ∧ q < hi ∧ (gget es (b, q)).isSome = true then gget es (b, q) else gget D (j, q)
  | [], D, j, q, _ => by
    rw [if_neg (fun h => by have := h.2.2.2; simp [gget] at this)] <;> rfl
  | e :: r, D, j, q, nd => by
    have nd' : (e.1 :: r.map (·.1)).Nodup := nd
    obtain ⟨n1, n2⟩ := List.nodup_cons.mp nd'
    have ih := cpy_get (b := b) (nb := nb) (lo := lo) (hi := hi) r (cpy1 b nb lo hi D e) j q n2
    show gget (cpy b nb lo hi (cpy1 b nb lo hi D e) r) (j, q) = _
    rw [ih]
    by_cases z : e.1 = (b, q)
    · have hr : gget r (b, q) = none := gget_none.mpr fun p hp h => n1 (by rw [z, ← h]; exact List.mem_map_of_mem hp)
      rw [hr, gget_pos z]
      rw [if_neg (fun h => by have := h.2.2.2; simp at this)]
      unfold cpy1
      by_cases c : e.1.1 = b ∧ lo ≤ e.1.2 ∧ e.1.2 < hi
      · rw [if_pos c, gget_put]
        have hq : e.1.2 = q := by rw [z]
        by_cases y : j = nb
        · rw [if_pos (by rw [y, hq]), if_pos ⟨y, by rw [← hq]; exact c.2.1, by rw [← hq]; exact c.2.2, rfl⟩]
        · rw [if_neg (fun h => y (Prod.mk.inj h).1), if_neg (fun h => y h.1)]
      · rw [if_neg c, if_neg (fun h => c ⟨by rw [z], by rw [z]; exact h.2.1, by rw [z]; exact h.2.2.1⟩)]
    · rw [gget_neg z]
      by_cases y : j = nb ∧ lo ≤ q ∧ q < hi ∧ (gget r (b, q)).isSome = true
      · rw [if_pos y, if_pos y]
      · rw [if_neg y, if_neg y]
        unfold cpy1
        by_cases c : e.1.1 = b ∧ lo ≤ e.1.2 ∧ e.1.2 < hi
        · rw [if_pos c, gget_put, if_neg (fun h => z (Prod.ext c.1 (Prod.mk.inj h).2.symm))]
        · rw [if_neg c]
end GB
set_option maxHeartbeats 4000000
/-! GPf: a machine's states are well formed, a step can be undone; in plain Lean. -/
namespace GB
open PySem
/-- well formed: k bounds the lists, n each block -/
structure Wf (k n : Nat) (s : MS) : Prop where
  rows : s.rows.length ≤ k
  cells : s.cells.length ≤ k
  seen : s.seen.length ≤ k
  made : s.made.length ≤ k
  cm : s.makers.length = s.cells.length
  cr : s.roots.length = s.cells.length
  rb : ∀ r ∈ s.rows, r.b < s.cells.length
  nd : ∀ i, NdK (s.blk i)
  blk : ∀ i, (s.blk i).length ≤ n
/-- what has been done since s0 can be undone -/
structure Und (s0 s : MS) : Prop where
  rows : s0.rows <+: s.rows
  makers : s0.makers <+: s.makers
  roots : s0.roots <+: s.roots
  seen : s0.seen <+: s.seen
  made : s0.made <+: s.made
  len : s0.cells.length ≤ s.cells.length
  rc : ∃ ch : List Chg, s.recs = s0.recs ++ [⟨s0.rows.length, s0.cells.length, s0.seen.length, s0.made.length, ch⟩] ∧ (ch.reverse.foldl back1 s.cells).take s0.cells.length = s0.cells ∧ BOk s.cells ch.reverse
structure WU (s0 : MS) (k n c : Nat) (s : MS) : Prop where
  w : Wf k n s
  u : Und s0 s
  ch : ∀ r, s.recs.getLast? = some r → r.ch.length ≤ c
theorem getD_app {cs ds : List Dic} {i : Nat} (h : i < cs.length) : (cs ++ ds).getD i [] = cs.getD i [] := by
  rw [List.getD_eq_getElem?_getD, List.getD_eq_getElem?_getD, List.getElem?_append_left h]
theorem back1_app {cs ds : List Dic} {x : Chg} (h : x.b < cs.length) : back1 (cs ++ ds) x = back1 cs x ++ ds := by
  unfold back1
  rw [getD_app h]
  cases x.o <;> simp [List.set_append_left _ _ h]
theorem bok_app {ds : List Dic} : ∀ {xs : List Chg} {cs : List Dic}, BOk cs xs → BOk (cs ++ ds) xs ∧ xs.foldl back1 (cs ++ ds) = xs.foldl back1 cs ++ ds
  | [], _, _ => ⟨trivial, rfl⟩
  | x :: r, cs, ⟨h1, h2, h3, h4⟩ => by
    have e := back1_app (ds := ds) h1
    obtain ⟨g1, g2⟩ := bok_app (ds := ds) h4
    refine ⟨⟨by rw [List.length_append]; omega, by rw [getD_app h1]; exact h2, by rw [getD_app h1]; exact h3, by rw [e]; exact g1⟩, ?_⟩
    show r.foldl back1 (back1 (cs ++ ds) x) = r.foldl back1 (back1 cs x) ++ ds
    rw [e, g2]
theorem bok_len : ∀ {xs : List Chg} {cs : List Dic}, (xs.foldl back1 cs).length = cs.length
  | [], _ => rfl
  | x :: r, cs => by
    show (r.foldl back1 (back1 cs x)).length = _
    rw [bok_len, back1_len]
theorem pre_snoc {α : Type} {a b : List α} (h : a <+: b) (c : List α) : a <+: b ++ c := h.trans (List.prefix_append b c)
section
variable {s0 s : MS} {k n c : Nat}
theorem Wf.mono {k' n' : Nat} (h : Wf k n s) (h1 : k ≤ k') (h2 : n ≤ n') : Wf k' n' s := ⟨Nat.le_trans h.rows h1, Nat.le_trans h.cells h1, Nat.le_trans h.seen h1, Nat.le_trans h.made h1, h.cm, h.cr, h.rb, h.nd, fun i => Nat.le_trans (h.blk i) h2⟩
theorem WU.mono {k' n' c' : Nat} (h : WU s0 k n c s) (h1 : k ≤ k') (h2 : n ≤ n') (h3 : c ≤ c') : WU s0 k' n' c' s := ⟨h.w.mono h1 h2, h.u, fun r hr => Nat.le_trans (h.ch r hr) h3⟩
theorem WU.view (h : WU s0 k n c s) (r : Row) (hb : r.b < s.cells.length) : WU s0 (k + 1) n c (s.view r) where
  w := { rows := by show (s.rows ++ [r]).length ≤ k + 1; rw [List.length_append]; exact Nat.add_le_add_right h.w.rows 1
         cells := Nat.le_succ_of_le h.w.cells
         seen := Nat.le_succ_of_le h.w.seen
         made := Nat.le_succ_of_le h.w.made
         cm := h.w.cm
         cr := h.w.cr
         rb := fun x hx => (List.mem_append.mp hx).elim (h.w.rb x) fun z => by rw [List.mem_singleton.mp z]; exact hb
         nd := h.w.nd
         blk := h.w.blk }
  u := { rows := pre_snoc h.u.rows _, makers := h.u.makers, roots := h.u.roots, seen := h.u.seen, made := h.u.made, len := h.u.len, rc := h.u.rc }
  ch := h.ch
theorem WU.see (h : WU s0 k n c s) (x : Ct) : WU s0 (k + 1) n c (s.see x) where
  w := { rows := Nat.le_succ_of_le h.w.rows
         cells := Nat.le_succ_of_le h.w.cells
         seen := by show (s.seen ++ [x]).length ≤ k + 1; rw [List.length_append]; exact Nat.add_le_add_right h.w.seen 1
         made := Nat.le_succ_of_le h.w.made
         cm := h.w.cm
         cr := h.w.cr
         rb := h.w.rb
         nd := h.w.nd
         blk := h.w.blk }
  u := { rows := h.u.rows, makers := h.u.makers, roots := h.u.roots, seen := pre_snoc h.u.seen _, made := h.u.made, len := h.u.len, rc := h.u.rc }
  ch := h.ch
theorem WU.mad (h : WU s0 k n c s) (x : Int × Option Int) : WU s0 (k + 1) n c { s with made := s.made ++ [x] } where
  w := { rows := Nat.le_succ_of_le h.w.rows
         cells := Nat.le_succ_of_le h.w.cells
         seen := Nat.le_succ_of_le h.w.seen
         made := by show (s.made ++ [x]).length ≤ k + 1; rw [List.length_append]; exact Nat.add_le_add_right h.w.made 1
         cm := h.w.cm
         cr := h.w.cr
         rb := h.w.rb
         nd := h.w.nd
         blk := h.w.blk }
  u := { rows := h.u.rows, makers := h.u.makers, roots := h.u.roots, seen := h.u.seen, made := pre_snoc h.u.made _, len := h.u.len, rc := h.u.rc }
  ch := h.ch
theorem blk_app (s : MS) (m r : Int) (d : Dic) (i : Nat) : (s.block m r d).blk i = if i < s.cells.length then s.blk i else if i = s.cells.length then d else [] := by
  show (s.cells ++ [d]).getD i [] = _
  by_cases h : i < s.cells.length
  · rw [if_pos h, getD_app h] <;> rfl
  · rw [if_neg h, List.getD_eq_getElem?_getD, List.getElem?_append_right (by omega)]
    by_cases z : i = s.cells.length
    · rw [if_pos z, z, Nat.sub_self] <;> rfl
    · rw [if_neg z, List.getElem?_eq_none (by rw [List.length_singleton]; omega)] <;> rfl
theorem WU.block (h : WU s0 k n c s) (m r : Int) (d : Dic) (hd : NdK d) (hn : d.length ≤ n) : WU s0 (k + 1) n c (s.block m r d) where
  w := { rows := Nat.le_succ_of_le h.w.rows
         cells := by show (s.cells ++ [d]).length ≤ k + 1; rw [List.length_append]; exact Nat.add_le_add_right h.w.cells 1
         seen := Nat.le_succ_of_le h.w.seen
         made := Nat.le_succ_of_le h.w.made
         cm := by show (s.makers ++ [m]).length = (s.cells ++ [d]).length; rw [List.length_append, List.length_append, h.w.cm] <;> rfl
         cr := by show (s.roots ++ [r]).length = (s.cells ++ [d]).length; rw [List.length_append, List.length_append, h.w.cr] <;> rfl
         rb := fun x hx => by
           show x.b < (s.cells ++ [d]).length
           rw [List.length_append]
           exact Nat.lt_of_lt_of_le (h.w.rb x hx) (Nat.le_add_right _ _)
         nd := fun i => by
           rw [blk_app]
           split
           · exact h.w.nd i
           · split
             · exact hd
             · exact NdK.nil
         blk := fun i => by
           rw [blk_app]
           split
           · exact h.w.blk i
           · split
             · exact hn
             · exact Nat.zero_le _ }
  u := { rows := h.u.rows, makers := pre_snoc h.u.makers _, roots := pre_snoc h.u.roots _, seen := h.u.seen, made := h.u.made
         len := by show _ ≤ (s.cells ++ [d]).length; rw [List.length_append]; exact Nat.le_trans h.u.len (Nat.le_add_right _ _)
         rc := by
           obtain ⟨ch, e1, e2, e3⟩ := h.u.rc
           obtain ⟨g1, g2⟩ := bok_app (ds := [d]) e3
           refine ⟨ch, e1, ?_, g1⟩
           show (ch.reverse.foldl back1 (s.cells ++ [d])).take _ = _
           rw [g2, List.take_append_of_le_length (by rw [bok_len]; exact h.u.len)]
           exact e2 }
  ch := h.ch
theorem blk_set' (s : MS) (b : Nat) (p : Int) (x : Ct) (i : Nat) : (s.set b p x).blk i = if i = b ∧ b < s.cells.length then gput (s.blk b) p x else s.blk i := by
  show (s.cells.set b (gput (s.blk b) p x)).getD i [] = _
  rw [List.getD_eq_getElem?_getD, List.getElem?_set]
  by_cases z : b = i
  · subst z
    by_cases y : b < s.cells.length
    · rw [if_pos rfl, if_pos y, if_pos ⟨rfl, y⟩] <;> rfl
    · rw [if_pos rfl, if_neg y, if_neg (fun q => y q.2)]
      show [] = s.cells.getD b []
      rw [List.getD_eq_getElem?_getD, List.getElem?_eq_none (by omega)] <;> rfl
  · rw [if_neg z, if_neg (fun q => z q.1.symm)]
    show _ = s.cells.getD i []
    rw [List.getD_eq_getElem?_getD]
theorem WU.set (h : WU s0 k n c s) (b : Nat) (p : Int) (x : Ct) (hb : b < s.cells.length) (hn : n < 900) : WU s0 k (n + 1) (c + 1) (s.set b p x) where
  w := { rows := h.w.rows
         cells := by show (s.cells.set b _).length ≤ k; rw [List.length_set]; exact h.w.cells
         seen := h.w.seen
         made := h.w.made
         cm := by show s.makers.length = (s.cells.set b _).length; rw [List.length_set]; exact h.w.cm
         cr := by show s.roots.length = (s.cells.set b _).length; rw [List.length_set]; exact h.w.cr
         rb := fun y hy => by show y.b < (s.cells.set b _).length; rw [List.length_set]; exact h.w.rb y hy
         nd := fun i => by
           rw [blk_set']
           split
           · exact (h.w.nd b).put p x
           · exact h.w.nd i
         blk := fun i => by
           rw [blk_set']
           split
           · exact Nat.le_trans (gput_length _ _ _) (Nat.add_le_add_right (h.w.blk b) 1)
           · exact Nat.le_succ_of_le (h.w.blk i) }
  u := { rows := h.u.rows, makers := h.u.makers, roots := h.u.roots, seen := h.u.seen, made := h.u.made
         len := by show _ ≤ (s.cells.set b _).length; rw [List.length_set]; exact h.u.len
         rc := by
           obtain ⟨ch, e1, e2, e3⟩ := h.u.rc
           have hc : (s.cells.set b (gput (s.blk b) p x)).getD b [] = gput (s.blk b) p x := by
             rw [List.getD_eq_getElem?_getD, List.getElem?_set_self hb] <;> rfl
           have hbk : s.cells.set b (s.blk b) = s.cells := by
             have : s.blk b = s.cells[b] := by
               show s.cells.getD b [] = _
               rw [List.getD_eq_getElem?_getD, List.getElem?_eq_getElem hb] <;> rfl
             rw [this, List.set_getElem_self]
           have hu : back1 (s.cells.set b (gput (s.blk b) p x)) ⟨b, p, gget (s.blk b) p⟩ = s.cells := by
             unfold back1
             cases e : gget (s.blk b) p with
             | none =>
               show (s.cells.set b (gput (s.blk b) p x)).set b (gdrop ((s.cells.set b (gput (s.blk b) p x)).getD b []) p) = s.cells
               rw [hc, List.set_set, gdrop_gput e]
               exact hbk
             | some o =>
               show (s.cells.set b (gput (s.blk b) p x)).set b (gput ((s.cells.set b (gput (s.blk b) p x)).getD b []) p o) = s.cells
               rw [hc, List.set_set, gput_back (h.w.nd b) e]
               exact hbk
           refine ⟨ch ++ [⟨b, p, gget (s.blk b) p⟩], ?_, ?_, ?_⟩
           · show addCh s.recs _ = _
             unfold addCh
             rw [e1, List.dropLast_concat, List.getLast?_concat]
           · rw [List.reverse_append]
             show (ch.reverse.foldl back1 (back1 (s.cells.set b (gput (s.blk b) p x)) ⟨b, p, gget (s.blk b) p⟩)).take _ = _
             rw [hu]
             exact e2
           · rw [List.reverse_append]
             refine ⟨by show b < (s.cells.set b _).length; rw [List.length_set]; exact hb, ?_, fun e => ?_, ?_⟩
             · show ((s.cells.set b (gput (s.blk b) p x)).getD b []).length ≤ 900
               rw [hc]
               exact Nat.le_trans (gput_length _ _ _) (by have := h.w.blk b; omega)
             · have e : gget (s.blk b) p = none := e
               show (gget ((s.cells.set b (gput (s.blk b) p x)).getD b []) p).isSome = true
               rw [hc, gput_new e]
               rw [← gget_any]
               simp
             · show BOk (back1 (s.cells.set b (gput (s.blk b) p x)) ⟨b, p, gget (s.blk b) p⟩) ch.reverse
               rw [hu]
               exact e3 }
  ch := fun r hr => by
    obtain ⟨ch, e1, e2, e3⟩ := h.u.rc
    have hl : s.recs.getLast? = some ⟨s0.rows.length, s0.cells.length, s0.seen.length, s0.made.length, ch⟩ := by rw [e1, List.getLast?_concat]
    have z := addCh_last hl ⟨b, p, gget (s.blk b) p⟩
    have hr : (addCh s.recs ⟨b, p, gget (s.blk b) p⟩).getLast? = some r := hr
    rw [z] at hr
    cases hr
    show (ch ++ [_]).length ≤ c + 1
    rw [List.length_append]
    exact Nat.add_le_add_right (h.ch _ hl) 1
theorem puts_len (b : Nat) (m : Int) : ∀ (xs : List Int) (e : Int) (s : MS), (s.puts b m e xs).cells.length = s.cells.length
  | [], _, _ => rfl
  | x :: r, e, s => by
    show ((s.set b e (m, x)).puts b m (e + 1) r).cells.length = _
    rw [puts_len b m r]
    show (s.cells.set b _).length = _
    rw [List.length_set]
theorem WU.puts (b : Nat) (m : Int) : ∀ {xs : List Int} {e : Int} {s : MS} {n c : Nat}, WU s0 k n c s → b < s.cells.length → n + xs.length ≤ 900 → WU s0 k (n + xs.length) (c + xs.length) (s.puts b m e xs)
  | [], _, _, _, _, h, _, _ => h
  | x :: r, e, s, n, c, h, hb, hn => by
    have hn : n + (r.length + 1) ≤ 900 := hn
    have z := WU.puts b m (xs := r) (e := e + 1) (h.set b e (m, x) hb (by omega)) (by show b < (s.cells.set b _).length; rw [List.length_set]; exact hb) (by omega)
    rw [List.length_cons, show n + (r.length + 1) = n + 1 + r.length by omega, show c + (r.length + 1) = c + 1 + r.length by omega]
    exact z
theorem Wf.mark (h : Wf k n s) : WU s k n 0 s.mark where
  w := ⟨h.rows, h.cells, h.seen, h.made, h.cm, h.cr, h.rb, h.nd, h.blk⟩
  u := ⟨List.prefix_refl _, List.prefix_refl _, List.prefix_refl _, List.prefix_refl _, List.prefix_refl _, Nat.le_refl _, [], rfl, List.take_length, trivial⟩
  ch := fun r hr => by
    have hr : (s.recs ++ [_]).getLast? = some r := hr
    rw [List.getLast?_concat] at hr
    cases hr
    exact Nat.le_refl _
theorem Wf.row (h : Wf k n s) {v : Nat} (hv : v < s.rows.length) : (s.row v).b < s.cells.length := by
  refine h.rb _ ?_
  show s.rows.getD v row0 ∈ s.rows
  rw [List.getD_eq_getElem?_getD, List.getElem?_eq_getElem hv]
  exact List.getElem_mem hv
theorem keep_len (lo hi : Int) (d : Dic) : (keepIn lo hi d).length ≤ d.length := List.length_filter_le _ _
/-- a step -/
theorem Wf.step (h : Wf k n s) (q : Pol) {st : Stm} (f : Fit s st) (hn : n + 6 ≤ 800) : WU s (k + 3) (n + 6) 6 (s.step q st) := by
  have m := h.mark
  have hn2 : n + 6 ≤ 900 := by omega
  show WU s (k + 3) (n + 6) 6 (MS.act q (s.recs.length : Int) s.mark st)
  generalize (s.recs.length : Int) = num
  cases st with
  | make l c =>
    exact ((m.block num num [] NdK.nil (Nat.zero_le _)).view _ (by show s.mark.cells.length < (s.mark.cells ++ [[]]).length; simp)).mono (by omega) (by omega) (by omega)
  | slice v lo hi => exact WU.mono (k := k + 1) (n := n) (c := 0) (m.view _ (h.row f)) (by omega) (by omega) (by omega)
  | clip v => exact WU.mono (k := k + 1) (n := n) (c := 0) (m.view _ (h.row f)) (by omega) (by omega) (by omega)
  | app g v xs =>
    obtain ⟨⟨f1, f2, f3⟩, f4⟩ := f
    show WU s (k + 3) (n + 6) 6 (MS.ext q num g v xs s.mark)
    unfold MS.ext
    simp only []
    split
    · refine WU.mono (WU.puts _ _ (n := n) (c := 0) (k := k + 3) (WU.view (WU.block (m.mad _) _ _ _ ((h.nd _).filter _) (Nat.le_trans (keep_len _ _ _) (h.blk _))) _ ?_) ?_ (by omega)) (by omega) (by omega) (by omega)
      · show s.mark.cells.length < (s.mark.cells ++ [_]).length
        simp
      · show s.mark.cells.length < (s.mark.cells ++ [_]).length
        simp
    · exact WU.mono (WU.puts _ _ (n := n) (c := 0) (k := k + 1) (m.view _ f2) f2 (by omega)) (by omega) (by omega) (by omega)
  | write v i x => exact (m.set _ _ _ f.2.1 (by omega)).mono (by omega) (by omega) (by omega)
  | move v i u j => exact ((m.see _).set _ _ _ f.1.2.1 (by omega)).mono (by omega) (by omega) (by omega)
  | read u j => exact (m.see _).mono (by omega) (by omega) (by omega)
theorem take_pre {α : Type} {a b : List α} (h : a <+: b) : b.take a.length = a := (List.prefix_iff_eq_take.mp h).symm
theorem Und.back (u : Und s0 s) (h : Wf k n s0) : s.back = s0 := by
  obtain ⟨ch, e1, e2, _⟩ := u.rc
  unfold MS.back
  rw [e1, List.getLast?_concat]
  show (⟨s.rows.take s0.rows.length, (ch.reverse.foldl back1 s.cells).take s0.cells.length, s.makers.take s0.cells.length, s.roots.take s0.cells.length, s.seen.take s0.seen.length, s.made.take s0.made.length, (s0.recs ++ [_]).dropLast⟩ : MS) = s0
  rw [take_pre u.rows, e2, ← h.cm, take_pre u.makers, h.cm, ← h.cr, take_pre u.roots, take_pre u.seen, take_pre u.made, List.dropLast_concat]
end
/-- the rows tell the spans -/
def Spn (s : MS) (sp : List Span) : Prop := s.rows.map (fun r => (r.s, r.l)) = sp
theorem puts_rows (b : Nat) (m : Int) : ∀ (xs : List Int) (e : Int) (s : MS), (s.puts b m e xs).rows = s.rows
  | [], _, _ => rfl
  | x :: r, e, s => by
    show ((s.set b e (m, x)).puts b m (e + 1) r).rows = _
    rw [puts_rows b m r] <;> rfl
theorem puts_seen (b : Nat) (m : Int) : ∀ (xs : List Int) (e : Int) (s : MS), (s.puts b m e xs).seen = s.seen
  | [], _, _ => rfl
  | x :: r, e, s => by
    show ((s.set b e (m, x)).puts b m (e + 1) r).seen = _
    rw [puts_seen b m r] <;> rfl
theorem Spn.at_ {s : MS} {sp : List Span} (h : Spn s sp) (v : Nat) : sp.getD v (0, 0) = ((s.row v).s, (s.row v).l) := by
  unfold Spn at h
  subst h
  show (s.rows.map _).getD v (0, 0) = ((s.rows.getD v row0).s, (s.rows.getD v row0).l)
  rw [List.getD_eq_getElem?_getD, List.getD_eq_getElem?_getD, List.getElem?_map]
  cases s.rows[v]? <;> rfl
theorem Spn.len {s : MS} {sp : List Span} (h : Spn s sp) : s.rows.length = sp.length := by rw [← h, List.length_map]
theorem Spn.view {s : MS} {sp : List Span} (h : Spn s sp) (r : Row) : Spn (s.view r) (sp ++ [(r.s, r.l)]) := by
  show (s.rows ++ [r]).map _ = _
  rw [List.map_append, h] <;> rfl
theorem Spn.step {s : MS} {sp : List Span} (h : Spn s sp) (q : Pol) (st : Stm) : Spn (s.step q st) (after sp st) := by
  have h0 : Spn s.mark sp := h
  show Spn (MS.act q (s.recs.length : Int) s.mark st) (after sp st)
  generalize (s.recs.length : Int) = num
  unfold after
  cases st with
  | make l c => exact h0.view ⟨0, l, some c, _⟩
  | slice v lo hi =>
    show Spn _ (sp ++ [((sp.getD v (0, 0)).1 + lo, hi - lo)])
    rw [h0.at_ v]
    exact h0.view _
  | clip v =>
    show Spn _ (sp ++ [sp.getD v (0, 0)])
    rw [h0.at_ v]
    exact h0.view _
  | app g v xs =>
    show Spn (MS.ext q num g v xs s.mark) (sp ++ [((sp.getD v (0, 0)).1, (sp.getD v (0, 0)).2 + (xs.length : Int))])
    rw [h0.at_ v]
    unfold MS.ext Spn
    simp only []
    split
    · rw [puts_rows]
      exact h0.view ⟨_, _, _, _⟩
    · rw [puts_rows]
      exact h0.view _
  | write v i x =>
    show Spn _ (sp ++ [])
    rw [List.append_nil]
    exact h0
  | move v i u j =>
    show Spn _ (sp ++ [])
    rw [List.append_nil]
    exact h0
  | read u j =>
    show Spn _ (sp ++ [])
    rw [List.append_nil]
    exact h0
theorem step_seen (s : MS) (q : Pol) (st : Stm) : (s.step q st).seen.length = s.seen.length ∨ (s.step q st).seen.length = s.seen.length + 1 := by
  show (MS.act q (s.recs.length : Int) s.mark st).seen.length = _ ∨ _
  generalize (s.recs.length : Int) = num
  cases st with
  | app g v xs =>
    left
    show (MS.ext q num g v xs s.mark).seen.length = _
    unfold MS.ext
    simp only []
    split <;> rw [puts_seen] <;> rfl
  | read u j => right; show (s.seen ++ [_]).length = _; simp
  | move v i u j => right; show (s.seen ++ [_]).length = _; simp
  | _ => left; rfl
theorem fit_of {s : MS} {sp : List Span} {k n : Nat} (h : Spn s sp) (w : Wf k n s) {st : Stm} (v : Val sp st) : Fit s st := by
  have lt : ∀ {v : Nat} {p : Span}, sp[v]? = some p → v < s.rows.length := fun e => by rw [h.len]; exact (List.getElem?_eq_some_iff.mp e).1
  have ok : ∀ {v : Nat} {p : Span}, sp[v]? = some p → VwOk s v := fun e => ⟨lt e, w.row (lt e), by rw [w.cr]; exact w.row (lt e)⟩
  cases st with
  | make l c => trivial
  | slice e lo hi => obtain ⟨p, hp, _⟩ := v; exact lt hp
  | clip e => obtain ⟨p, hp⟩ := v; exact lt hp
  | app g e xs => obtain ⟨⟨p, hp⟩, _, h6, _⟩ := v; exact ⟨ok hp, h6⟩
  | write e i x => obtain ⟨⟨p, hp, _⟩, _⟩ := v; exact ok hp
  | move e i u j => obtain ⟨⟨p, hp, _⟩, ⟨p2, hp2, _⟩⟩ := v; exact ⟨ok hp, ok hp2⟩
  | read u j => obtain ⟨p, hp, _⟩ := v; exact ok hp
theorem Wf.zero : Wf 0 0 MS.zero := ⟨Nat.le_refl _, Nat.le_refl _, Nat.le_refl _, Nat.le_refl _, rfl, rfl, fun _ h => (by cases h), fun _ => NdK.nil, fun _ => Nat.le_refl _⟩
/-- the state after k statements -/
theorem gs_ok {pol : Pol} {prog : List Stm} (vp : ValP prog) (h60 : prog.length ≤ 60) : ∀ k, k ≤ prog.length → Wf (3 * k) (6 * k) (GS pol prog k) ∧ Spn (GS pol prog k) (spans (prog.take k)) ∧ (GS pol prog k).recs.length = k ∧ ∀ r, (GS pol prog k).recs.getLast? = some r → r.ch.length ≤ 6
  | 0, _ => ⟨Wf.zero, rfl, rfl, fun r h => (by cases h)⟩
  | k + 1, hk => by
    obtain ⟨w, sp, hl, _⟩ := gs_ok vp h60 k (by omega)
    have hst : prog[k]? = some prog[k] := List.getElem?_eq_getElem hk
    rw [GS_succ hst]
    have f := fit_of sp w (vp k _ hst)
    have wu := w.step pol f (by omega)
    refine ⟨wu.w.mono (by omega) (by omega), ?_, ?_, wu.ch⟩
    · rw [List.take_succ, hst]
      show Spn _ (spans (prog.take k ++ [prog[k]]))
      rw [spans_app]
      exact sp.step _ _
    · obtain ⟨ch, e, _⟩ := wu.u.rc
      rw [e, List.length_append, hl] <;> rfl
theorem gd_of {pol : Pol} {prog : List Stm} (vp : ValP prog) (h60 : prog.length ≤ 60) (vq : ValQ pol) : Gd pol prog where
  vp := vp
  h60 := h60
  vq := vq
  fit := fun k st h => by
    obtain ⟨w, sp, _⟩ := gs_ok (pol := pol) vp h60 k (Nat.le_of_lt (List.getElem?_eq_some_iff.mp h).1)
    exact fit_of sp w (vp k st h)
  bd := fun k => by
    have e : GS pol prog k = GS pol prog (min k prog.length) := by
      unfold GS
      by_cases h : k ≤ prog.length
      · rw [Nat.min_eq_left h]
      · rw [Nat.min_eq_right (by omega), List.take_length, List.take_of_length_le (by omega)]
    rw [e]
    obtain ⟨w, sp, hl, hc⟩ := gs_ok (pol := pol) vp h60 (min k prog.length) (Nat.min_le_right _ _)
    have hz : min k prog.length ≤ 60 := Nat.le_trans (Nat.min_le_right _ _) h60
    exact ⟨Nat.le_trans w.rows (by omega), Nat.le_trans w.cells (by omega), by rw [w.cm]; exact Nat.le_trans w.cells (by omega), by rw [w.cr]; exact Nat.le_trans w.cells (by omega), Nat.le_trans w.seen (by omega), Nat.le_trans w.made (by omega), by omega, w.nd, fun i => Nat.le_trans (w.blk i) (by omega), fun r h => Nat.le_trans (hc r h) (by omega)⟩
  recs := fun k h => (gs_ok vp h60 k h).2.2.1
  bok := fun k r hk hr => by
    cases k with
    | zero => cases hr
    | succ k =>
      have hst : prog[k]? = some prog[k] := List.getElem?_eq_getElem hk
      obtain ⟨w, sp, hl, _⟩ := gs_ok (pol := pol) vp h60 k (by omega)
      rw [GS_succ hst] at hr ⊢
      have wu := w.step pol (fit_of sp w (vp k _ hst)) (by omega)
      obtain ⟨ch, e, _, e3⟩ := wu.u.rc
      rw [e, List.getLast?_concat] at hr
      cases hr
      exact ⟨e3, wu.u.rows.length_le, wu.u.len, by rw [wu.w.cm]; exact wu.u.len, by rw [wu.w.cr]; exact wu.u.len, wu.u.seen.length_le, wu.u.made.length_le⟩
  seen := fun k hk => by
    rw [GS_succ (List.getElem?_eq_getElem hk)]
    exact step_seen _ _ _
  back := fun k hk => by
    have hst : prog[k]? = some prog[k] := List.getElem?_eq_getElem hk
    obtain ⟨w, sp, hl, _⟩ := gs_ok (pol := pol) vp h60 k (by omega)
    rw [GS_succ hst]
    exact (w.step pol (fit_of sp w (vp k _ hst)) (by omega)).u.back w
end GB
set_option maxHeartbeats 4000000
/-! GSim3: the machine's small changes, on both sides; how many keys a copy makes. -/
namespace GB
open PySem
theorem nodup_le {α : Type} [DecidableEq α] : ∀ {l m : List α}, l.Nodup → (∀ x ∈ l, x ∈ m) → l.length ≤ m.length
  | [], _, _, _ => Nat.zero_le _
  | a :: t, m, nd, h => by
    obtain ⟨n1, n2⟩ := List.nodup_cons.mp nd
    have ha : a ∈ m := h a List.mem_cons_self
    have ih := nodup_le (l := t) (m := m.erase a) n2 fun x hx => (List.mem_erase_of_ne (fun e => n1 (by rw [← e]; exact hx))).mpr (h x (List.mem_cons_of_mem _ hx))
    rw [List.length_erase_of_mem ha] at ih
    have := List.length_pos_of_mem ha
    rw [List.length_cons]
    omega
abbrev inB (b : Int) (e : (Int × Int) × Ct) : Bool := decide (e.1.1 = b)
theorem cpy_len (b nb lo hi : Int) : ∀ (es D : TD), (cpy b nb lo hi D es).length ≤ D.length + (es.filter (inB b)).length
  | [], D => Nat.le_add_right _ _
  | e :: r, D => by
    have ih := cpy_len b nb lo hi r (cpy1 b nb lo hi D e)
    show (cpy b nb lo hi (cpy1 b nb lo hi D e) r).length ≤ _
    unfold cpy1 at ih ⊢
    by_cases c : e.1.1 = b
    · rw [show List.filter (inB b) (e :: r) = e :: List.filter (inB b) r from List.filter_cons_of_pos (decide_eq_true c), List.length_cons]
      split at ih
      · rename_i h
        rw [if_pos h]
        have := gput_length D (nb, e.1.2) e.2
        omega
      · rename_i h
        rw [if_neg h]
        omega
    · rw [show List.filter (inB b) (e :: r) = List.filter (inB b) r from List.filter_cons_of_neg (by simpa using c)]
      rw [if_neg (fun z => c z.1)] at ih ⊢
      exact ih
theorem cpy_nd {b nb lo hi : Int} : ∀ {es D : TD}, NdK D → NdK (cpy b nb lo hi D es)
  | [], _, h => h
  | e :: r, D, h => by
    refine cpy_nd (es := r) ?_
    unfold cpy1
    split
    · exact h.put _ _
    · exact h
theorem cpy_key {b nb lo hi : Int} : ∀ {es D : TD} {e : (Int × Int) × Ct}, e ∈ cpy b nb lo hi D es → e.1.1 = nb ∨ ∃ e' ∈ D, e'.1 = e.1
  | [], _, e, h => .inr ⟨e, h, rfl⟩
  | x :: r, D, e, h => by
    rcases cpy_key (es := r) h with z | ⟨y, hy, z⟩
    · exact .inl z
    · unfold cpy1 at hy
      split at hy
      · rcases gput_keys hy with u | ⟨v, hv, u⟩
        · left; rw [← z, u]
        · exact .inr ⟨v, hv, u.trans z⟩
      · exact .inr ⟨y, hy, z⟩
theorem cpy_snoc (b nb lo hi : Int) (D es : TD) (e : (Int × Int) × Ct) : cpy b nb lo hi D (es ++ [e]) = cpy1 b nb lo hi (cpy b nb lo hi D es) e := by
  unfold cpy
  rw [List.foldl_append] <;> rfl
section
variable {x : LM} {s : MS}
theorem Sim.count (h : Sim x s) (b : Nat) : (x.dict.filter (inB b)).length ≤ (s.blk b).length := by
  have h1 : ((x.dict.filter (inB b)).map (·.1.2)).length ≤ ((s.blk b).map (·.1)).length := by
    refine nodup_le ?_ fun q hq => ?_
    · have nd := h.nd.filter (inB b)
      unfold NdK at nd
      have e : (x.dict.filter (inB b)).map (·.1) = ((x.dict.filter (inB b)).map (·.1.2)).map fun q => ((b : Int), q) := by
        rw [List.map_map]
        refine List.map_congr_left fun e he => ?_
        have z : e.1.1 = (b : Int) := of_decide_eq_true (List.mem_filter.mp he).2
        show e.1 = ((b : Int), e.1.2)
        rw [← z]
      rw [e] at nd
      exact (List.pairwise_map.mp nd).imp fun h z => h (by rw [z])
    · obtain ⟨e, he, rfl⟩ := List.mem_map.mp hq
      obtain ⟨h2, h3⟩ := List.mem_filter.mp he
      have z : e.1.1 = (b : Int) := of_decide_eq_true h3
      have g : gget x.dict ((b : Int), e.1.2) = some e.2 := by
        rw [← z]
        exact gget_mem h.nd h2
      rw [h.get] at g
      exact List.mem_map_of_mem (f := (·.1)) (gget_some g)
  rw [List.length_map, List.length_map] at h1
  exact h1
theorem Sim.mark (h : Sim x s) : Sim x s.mark := ⟨h.rows, h.makers, h.roots, h.seen, h.made, h.cm, h.cr, h.get, h.key, h.nd⟩
theorem Sim.view (h : Sim x s) (r : Row) : Sim { x with rows := x.rows ++ [r] } (s.view r) := ⟨by show x.rows ++ [r] = s.rows ++ [r]; rw [h.rows], h.makers, h.roots, h.seen, h.made, h.cm, h.cr, h.get, h.key, h.nd⟩
theorem Sim.see (h : Sim x s) (c : Ct) : Sim { x with seen := x.seen ++ [c] } (s.see c) := ⟨h.rows, h.makers, h.roots, by show x.seen ++ [c] = s.seen ++ [c]; rw [h.seen], h.made, h.cm, h.cr, h.get, h.key, h.nd⟩
theorem Sim.mad (h : Sim x s) (c : Int × Option Int) : Sim { x with made := x.made ++ [c] } { s with made := s.made ++ [c] } := ⟨h.rows, h.makers, h.roots, h.seen, by show x.made ++ [c] = s.made ++ [c]; rw [h.made], h.cm, h.cr, h.get, h.key, h.nd⟩
/-- a block is added: the dict has what it is to hold -/
theorem Sim.block (h : Sim x s) (n r : Int) (d : Dic) (D : TD) (hg : ∀ j q, gget D (j, q) = if j = (s.cells.length : Int) then gget d q else gget x.dict (j, q)) (hk : ∀ e ∈ D, e.1.1 = (s.cells.length : Int) ∨ ∃ e' ∈ x.dict, e'.1 = e.1) (hn : NdK D) :
    Sim { x with dict := D, makers := x.makers ++ [n], roots := x.roots ++ [r] } (s.block n r d) where
  rows := h.rows
  makers := by show x.makers ++ [n] = s.makers ++ [n]; rw [h.makers]
  roots := by show x.roots ++ [r] = s.roots ++ [r]; rw [h.roots]
  seen := h.seen
  made := h.made
  cm := by show (s.cells ++ [d]).length = (s.makers ++ [n]).length; rw [List.length_append, List.length_append, h.cm] <;> rfl
  cr := by show (s.cells ++ [d]).length = (s.roots ++ [r]).length; rw [List.length_append, List.length_append, h.cr] <;> rfl
  get := fun j q => by
    show gget D ((j : Int), q) = _
    rw [hg, blk_app]
    by_cases z : j = s.cells.length
    · rw [if_pos (by rw [z]), if_neg (by omega), if_pos z]
    · rw [if_neg (by omega), if_neg z]
      split
      · exact h.get j q
      · rw [h.get]
        show gget (s.cells.getD j []) q = none
        rw [List.getD_eq_getElem?_getD, List.getElem?_eq_none (by omega)] <;> rfl
  key := fun e he => by
    show ∃ j : Nat, e.1.1 = (j : Int) ∧ j < (s.cells ++ [d]).length
    rw [List.length_append]
    rcases hk e he with z | ⟨y, hy, z⟩
    · exact ⟨s.cells.length, z, by simp⟩
    · obtain ⟨j, h1, h2⟩ := h.key y hy
      exact ⟨j, by rw [← z]; exact h1, by omega⟩
  nd := hn
theorem Sim.nokey (h : Sim x s) (q : Int) : gget x.dict ((s.cells.length : Int), q) = none := by
  rw [h.get]
  show gget (s.cells.getD s.cells.length []) q = none
  rw [List.getD_eq_getElem?_getD, List.getElem?_eq_none (Nat.le_refl _)] <;> rfl
theorem Sim.make (h : Sim x s) (n : Int) : Sim { x with makers := x.makers ++ [n], roots := x.roots ++ [n] } (s.block n n []) :=
  h.block n n [] x.dict (fun j q => by
    split
    · rename_i z
      rw [z, h.nokey] <;> rfl
    · rfl) (fun e he => .inr ⟨e, he, rfl⟩) h.nd
theorem Sim.copy (h : Sim x s) (n r : Int) (b : Nat) (lo hi : Int) : Sim { x with dict := cpy b (s.cells.length : Int) lo hi x.dict x.dict, makers := x.makers ++ [n], roots := x.roots ++ [r] } (s.block n r (keepIn lo hi (s.blk b))) := by
  refine h.block n r (keepIn lo hi (s.blk b)) (cpy b (s.cells.length : Int) lo hi x.dict x.dict) (fun j q => ?_) (fun e he => cpy_key he) (cpy_nd h.nd)
  rw [cpy_get _ _ _ _ h.nd, gget_keep, ← h.get b q]
  by_cases z : j = (s.cells.length : Int)
  · rw [if_pos z]
    by_cases y : lo ≤ q ∧ q < hi
    · rw [if_pos y]
      by_cases w : (gget x.dict ((b : Int), q)).isSome = true
      · rw [if_pos ⟨z, y.1, y.2, w⟩]
      · rw [if_neg (fun t => w t.2.2.2), z, h.nokey]
        cases e : gget x.dict ((b : Int), q) with
        | none => rfl
        | some v => rw [e] at w; exact absurd rfl w
    · rw [if_neg y, if_neg (fun t => y ⟨t.2.1, t.2.2.1⟩), z, h.nokey]
  · rw [if_neg z, if_neg (fun t => z t.1)]
/-- the values of an append or grow -/
def putsD (b : Nat) (n : Int) : Int → List Int → TD → TD
  | _, [], d => d
  | e, x :: r, d => putsD b n (e + 1) r (gput d ((b : Int), e) (n, x))
theorem putsD_snoc (b : Nat) (n y : Int) : ∀ (e : Int) (xs : List Int) (d : TD), putsD b n e (xs ++ [y]) d = gput (putsD b n e xs d) ((b : Int), e + (xs.length : Nat)) (n, y)
  | e, [], d => by show gput d ((b : Int), e) (n, y) = gput d ((b : Int), e + 0) (n, y); rw [Int.add_zero]
  | e, z :: r, d => by
    show putsD b n (e + 1) (r ++ [y]) _ = _
    rw [putsD_snoc b n y (e + 1) r, List.length_cons, show e + 1 + (r.length : Nat) = e + ((r.length + 1 : Nat) : Int) by omega] <;> rfl
theorem putsD_len (b : Nat) (n : Int) : ∀ (xs : List Int) (e : Int) (d : TD), (putsD b n e xs d).length ≤ d.length + xs.length
  | [], _, _ => Nat.le_refl _
  | x :: r, e, d => by
    have := putsD_len b n r (e + 1) (gput d ((b : Int), e) (n, x))
    have := gput_length d ((b : Int), e) (n, x)
    show (putsD b n (e + 1) r _).length ≤ d.length + (r.length + 1)
    omega
theorem Sim.puts (b : Nat) (n : Int) : ∀ {xs : List Int} {e : Int} {x : LM} {s : MS}, Sim x s → b < s.cells.length → Sim { x with dict := putsD b n e xs x.dict } (s.puts b n e xs)
  | [], _, _, _, h, _ => h
  | y :: r, e, x, s, h, hb => Sim.puts b n (xs := r) (e := e + 1) (h.put b e (n, y) hb) (by show b < (s.cells.set b _).length; rw [List.length_set]; exact hb)
end
end GB
set_option maxHeartbeats 4000000
/-! GL10: the law's state is written. -/
namespace GB
open PySem PySem.Spec PyProof.Rows L2
/-! ### dicts with tuple keys -/
section
variable {H H' : Hp}
theorem DtA.tp (f : Tp H H') : ∀ {kvs : List (List Key × V)} {d : TD}, DtA H kvs d → DtA H' kvs d
  | [], [], _ => trivial
  | _ :: _, _ :: _, ⟨h1, h2, h3⟩ => ⟨h1, Rp.tp f h2, h3.tp f⟩
  | [], _ :: _, h => h
  | _ :: _, [], h => h
theorem DtA.length : ∀ {kvs : List (List Key × V)} {d : TD}, DtA H kvs d → kvs.length = d.length
  | [], [], _ => rfl
  | _ :: _, _ :: _, ⟨_, _, h⟩ => by rw [List.length_cons, List.length_cons, h.length]
  | [], _ :: _, h => h.elim
  | _ :: _, [], h => h.elim
theorem DtA.any : ∀ {kvs : List (List Key × V)} {d : TD} (p : Int × Int), DtA H kvs d → (kvs.any fun kv => decide (kv.1 = ky p)) = d.any fun kv => decide (kv.1 = p)
  | [], [], _, _ => rfl
  | e :: r, c :: t, p, ⟨h1, _, h3⟩ => by
    have h1 : e.1 = ky c.1 := h1
    rw [List.any_cons, List.any_cons, h3.any p, h1]
    congr 1
    by_cases z : c.1 = p
    · rw [decide_eq_true z, decide_eq_true (by rw [z])]
    · rw [decide_eq_false z, decide_eq_false (fun q => z (ky_inj.mp q))]
  | [], _ :: _, _, h => h.elim
  | _ :: _, [], _, h => h.elim
theorem DtA.snoc {v : V} {c : (Int × Int) × Ct} : ∀ {kvs : List (List Key × V)} {d : TD}, DtA H kvs d → Rp H v (ctD c.2) → DtA H (kvs ++ [(ky c.1, v)]) (d ++ [c])
  | [], [], _, h => ⟨rfl, h, trivial⟩
  | _ :: _, _ :: _, ⟨h1, h2, h3⟩, h => ⟨h1, h2, h3.snoc h⟩
  | [], _ :: _, h, _ => h.elim
  | _ :: _, [], h, _ => h.elim
theorem DtA.mapPut {v : V} {p : Int × Int} {c : Ct} (hv : Rp H v (ctD c)) : ∀ {kvs : List (List Key × V)} {d : TD}, DtA H kvs d → DtA H (kvs.map fun kv => if kv.1 = ky p then (kv.1, v) else kv) (d.map fun kv => if kv.1 = p then (kv.1, c) else kv)
  | [], [], _ => trivial
  | e :: r, x :: t, ⟨h1, h2, h3⟩ => by
    have h1 : e.1 = ky x.1 := h1
    rw [List.map_cons, List.map_cons]
    refine ⟨?_, ?_, h3.mapPut hv⟩
    · by_cases z : x.1 = p
      · rw [if_pos z, if_pos (by rw [h1, z])]; exact h1
      · rw [if_neg z, if_neg (fun q => z (ky_inj.mp (h1.symm.trans q)))]; exact h1
    · by_cases z : x.1 = p
      · rw [if_pos z, if_pos (by rw [h1, z])]; exact hv
      · rw [if_neg z, if_neg (fun q => z (ky_inj.mp (h1.symm.trans q)))]; exact h2
  | [], _ :: _, h => h.elim
  | _ :: _, [], h => h.elim
theorem DtA.put {kvs : List (List Key × V)} {d : TD} (h : DtA H kvs d) (p : Int × Int) {v : V} {c : Ct} (hv : Rp H v (ctD c)) : DtA H (putK kvs (ky p) v) (gput d p c) := by
  unfold putK gput
  rw [h.any p]
  by_cases z : (d.any fun kv => decide (kv.1 = p)) = true
  · rw [if_pos z, if_pos z]; exact h.mapPut hv
  · rw [if_neg z, if_neg z]; exact h.snoc (c := (p, c)) hv
theorem DtA.at : ∀ {kvs : List (List Key × V)} {d : TD} {i : Nat} {e : List Key × V}, DtA H kvs d → kvs[i]? = some e → ∃ c, d[i]? = some c ∧ e.1 = ky c.1 ∧ Rp H e.2 (ctD c.2)
  | [], [], i, _, _, h => by simp at h
  | e :: r, c :: t, 0, x, ⟨h1, h2, _⟩, h => by
    have h : e = x := by simpa using h
    subst h
    exact ⟨c, rfl, h1, h2⟩
  | e :: r, c :: t, i + 1, x, ⟨_, _, h3⟩, h => by
    obtain ⟨c, e1, e2⟩ := h3.at (i := i) (by simpa using h)
    exact ⟨c, by simpa using e1, e2⟩
  | [], _ :: _, _, _, h, _ => h.elim
  | _ :: _, [], _, _, h, _ => h.elim
/-- the tuple of a key, by its place -/
theorem isKeys_at : ∀ {kvs : List (List Key × V)} {bs : List Addr} {i : Nat} {b : Addr}, IsKeys H kvs bs → bs[i]? = some b → ∃ e, kvs[i]? = some e ∧ H b = some (.tup (e.1.map kV)) := fun {kvs bs i b} h e => by
  unfold IsKeys at h
  induction h generalizing i with
  | nil => simp at e
  | @cons x y xs ys h1 _ ih =>
    cases i with
    | zero =>
      have e : y = b := by simpa using e
      subst e
      exact ⟨x, rfl, h1⟩
    | succ i =>
      obtain ⟨q, a1, a2⟩ := ih (i := i) (by simpa using e)
      exact ⟨q, by simpa using a1, a2⟩
theorem isKeys_len {kvs : List (List Key × V)} {bs : List Addr} (h : IsKeys H kvs bs) : bs.length = kvs.length := (Paired.length h).symm
end
/-! ### a state's parts -/
def ft (a : Addr) (p : LA) (y : Addr) : Prop := y = a ∨ y = p.r ∨ y = p.d ∨ y = p.mr ∨ y = p.rt ∨ y = p.se ∨ y = p.ma
theorem lst_ne_dT {xs : List V} {kvs : List (List Key × V)} : HO.lst xs ≠ HO.dT kvs := fun z => by cases z
section
variable {H H' : Hp} {a : Addr} {p : LA} {x : LM}
theorem LSA.get (h : LSA H a p x) {y : Addr} (hy : ft a p y) : ∃ o, H y = some o ∧ ∀ xs, o ≠ .tup xs := by
  obtain ⟨ws, h1, _⟩ := h.rows
  obtain ⟨kvs, h2, _⟩ := h.dict
  obtain ⟨ss, h3, _⟩ := h.seen
  obtain ⟨ms, h4, _⟩ := h.made
  rcases hy with rfl | rfl | rfl | rfl | rfl | rfl | rfl
  · exact ⟨_, h.top, fun xs z => by cases z⟩
  · exact ⟨_, h1, fun xs z => by cases z⟩
  · exact ⟨_, h2, fun xs z => by cases z⟩
  · exact ⟨_, h.makers, fun xs z => by cases z⟩
  · exact ⟨_, h.roots, fun xs z => by cases z⟩
  · exact ⟨_, h3, fun xs z => by cases z⟩
  · exact ⟨_, h4, fun xs z => by cases z⟩
theorem LSA.keep (h : LSA H a p x) (t : Tp H H') (f : ∀ y, ft a p y → H' y = H y) : LSA H' a p x := by
  obtain ⟨ws, h1, r1⟩ := h.rows
  obtain ⟨kvs, h2, r2⟩ := h.dict
  obtain ⟨ss, h3, r3⟩ := h.seen
  obtain ⟨ms, h4, r4⟩ := h.made
  exact ⟨by rw [f a (.inl rfl)]; exact h.top, ⟨ws, by rw [f p.r (.inr (.inl rfl))]; exact h1, RpA.tp t r1⟩, ⟨kvs, by rw [f p.d (.inr (.inr (.inl rfl)))]; exact h2, r2.tp t⟩,
    by rw [f p.mr (.inr (.inr (.inr (.inl rfl))))]; exact h.makers, by rw [f p.rt (.inr (.inr (.inr (.inr (.inl rfl)))))]; exact h.roots,
    ⟨ss, by rw [f p.se (.inr (.inr (.inr (.inr (.inr (.inl rfl))))))]; exact h3, RpA.tp t r3⟩, ⟨ms, by rw [f p.ma (.inr (.inr (.inr (.inr (.inr (.inr rfl))))))]; exact h4, RpA.tp t r4⟩, h.nd⟩
theorem LSA.fr {W : Addr → Prop} (h : LSA H a p x) (f : Fr W H H') (n : ∀ y, ft a p y → ¬ W y) : LSA H' a p x := h.keep f.tp fun y hy => by
  obtain ⟨o, e, _⟩ := h.get hy
  rw [e]
  exact f.at_ e (n y hy)
theorem LSA.same (h : LSA H a p x) (f : Same H H') : LSA H' a p x := h.keep (Same.tp f) fun y hy => by
  obtain ⟨o, e, _⟩ := h.get hy
  rw [e]
  exact f y o e
theorem LSA.ne (h : LSA H a p x) : (a ≠ p.r ∧ a ≠ p.mr ∧ a ≠ p.rt ∧ a ≠ p.se ∧ a ≠ p.ma) ∧ (p.r ≠ p.mr ∧ p.r ≠ p.rt ∧ p.r ≠ p.se ∧ p.r ≠ p.ma) ∧ (p.mr ≠ p.rt ∧ p.mr ≠ p.se ∧ p.mr ≠ p.ma) ∧ (p.rt ≠ p.se ∧ p.rt ≠ p.ma) ∧ p.se ≠ p.ma := by
  have nd := h.nd
  simp only [List.nodup_cons, List.mem_cons, List.not_mem_nil, or_false, not_or, List.nodup_nil, and_true, not_false_eq_true] at nd
  exact nd
theorem LSA.frt (h : LSA H a p x) {y : Addr} (hy : ft a p y) {o : HO} : Fr (ft a p) H (upd H y o) := by
  obtain ⟨u, e, n⟩ := h.get hy
  exact Fr.put hy e n
theorem LSA.tpt (h : LSA H a p x) {y : Addr} (hy : ft a p y) {o : HO} : Tp H (upd H y o) := (h.frt hy).tp
theorem LSA.nd_d (h : LSA H a p x) : a ≠ p.d ∧ p.r ≠ p.d ∧ p.mr ≠ p.d ∧ p.rt ≠ p.d ∧ p.se ≠ p.d ∧ p.ma ≠ p.d := by
  obtain ⟨ws, h1, _⟩ := h.rows
  obtain ⟨kvs, h2, _⟩ := h.dict
  obtain ⟨ss, h3, _⟩ := h.seen
  obtain ⟨ms, h4, _⟩ := h.made
  exact ⟨ne_of h.top h2 lst_ne_dT, ne_of h1 h2 lst_ne_dT, ne_of h.makers h2 lst_ne_dT, ne_of h.roots h2 lst_ne_dT, ne_of h3 h2 lst_ne_dT, ne_of h4 h2 lst_ne_dT⟩
theorem LSA.putDict (h : LSA H a p x) {kvs : List (List Key × V)} {d : TD} (hk : DtA H kvs d) : LSA (upd H p.d (.dT kvs)) a p { x with dict := d } := by
  have t : Tp H (upd H p.d (.dT kvs)) := h.tpt (.inr (.inr (.inl rfl)))
  obtain ⟨ws, h1, r1⟩ := h.rows
  obtain ⟨ss, h3, r3⟩ := h.seen
  obtain ⟨ms, h4, r4⟩ := h.made
  obtain ⟨n1, n2, n3, n4, n5, n6⟩ := h.nd_d
  exact ⟨by rw [upd_ne n1]; exact h.top, ⟨ws, by rw [upd_ne n2]; exact h1, RpA.tp t r1⟩, ⟨kvs, upd_same, hk.tp t⟩, by rw [upd_ne n3]; exact h.makers, by rw [upd_ne n4]; exact h.roots, ⟨ss, by rw [upd_ne n5]; exact h3, RpA.tp t r3⟩, ⟨ms, by rw [upd_ne n6]; exact h4, RpA.tp t r4⟩, h.nd⟩
theorem LSA.pushRow (h : LSA H a p x) {ws : List V} {v : V} {r : Row} (hw : H p.r = some (.lst ws)) (rv : Rp H v (rowD r)) : LSA (upd H p.r (.lst (ws ++ [v]))) a p { x with rows := x.rows ++ [r] } := by
  have t : Tp H (upd H p.r (.lst (ws ++ [v]))) := h.tpt (.inr (.inl rfl))
  obtain ⟨ws', h1, r1⟩ := h.rows
  rw [hw] at h1
  cases h1
  obtain ⟨kvs, h2, r2⟩ := h.dict
  obtain ⟨ss, h3, r3⟩ := h.seen
  obtain ⟨ms, h4, r4⟩ := h.made
  obtain ⟨⟨a1, a2, a3, a4, a5⟩, ⟨b1, b2, b3, b4⟩, _⟩ := h.ne
  obtain ⟨_, n2, _⟩ := h.nd_d
  refine ⟨by rw [upd_ne a1]; exact h.top, ⟨_, upd_same, ?_⟩, ⟨kvs, by rw [upd_ne (Ne.symm n2)]; exact h2, r2.tp t⟩, by rw [upd_ne (Ne.symm b1)]; exact h.makers, by rw [upd_ne (Ne.symm b2)]; exact h.roots, ⟨ss, by rw [upd_ne (Ne.symm b3)]; exact h3, RpA.tp t r3⟩, ⟨ms, by rw [upd_ne (Ne.symm b4)]; exact h4, RpA.tp t r4⟩, h.nd⟩
  show RpA _ (ws ++ [v]) ((x.rows ++ [r]).map rowD)
  rw [List.map_append]
  exact (RpA.tp t r1).snoc (Rp.tp t rv)
theorem LSA.pushMaker (h : LSA H a p x) (n : Int) : LSA (upd H p.mr (.lst (x.makers.map .int ++ [.int n]))) a p { x with makers := x.makers ++ [n] } := by
  have t : Tp H (upd H p.mr (.lst (x.makers.map .int ++ [.int n]))) := h.tpt (.inr (.inr (.inr (.inl rfl))))
  obtain ⟨ws, h1, r1⟩ := h.rows
  obtain ⟨kvs, h2, r2⟩ := h.dict
  obtain ⟨ss, h3, r3⟩ := h.seen
  obtain ⟨ms, h4, r4⟩ := h.made
  obtain ⟨⟨a1, a2, a3, a4, a5⟩, ⟨b1, b2, b3, b4⟩, ⟨c1, c2, c3⟩, _⟩ := h.ne
  obtain ⟨_, _, n3, _⟩ := h.nd_d
  refine ⟨by rw [upd_ne a2]; exact h.top, ⟨ws, by rw [upd_ne b1]; exact h1, RpA.tp t r1⟩, ⟨kvs, by rw [upd_ne (Ne.symm n3)]; exact h2, r2.tp t⟩, ?_, by rw [upd_ne (Ne.symm c1)]; exact h.roots, ⟨ss, by rw [upd_ne (Ne.symm c2)]; exact h3, RpA.tp t r3⟩, ⟨ms, by rw [upd_ne (Ne.symm c3)]; exact h4, RpA.tp t r4⟩, h.nd⟩
  show upd H p.mr _ p.mr = some (.lst ((x.makers ++ [n]).map .int))
  rw [upd_same, List.map_append] <;> rfl
theorem LSA.pushRoot (h : LSA H a p x) (n : Int) : LSA (upd H p.rt (.lst (x.roots.map .int ++ [.int n]))) a p { x with roots := x.roots ++ [n] } := by
  have t : Tp H (upd H p.rt (.lst (x.roots.map .int ++ [.int n]))) := h.tpt (.inr (.inr (.inr (.inr (.inl rfl)))))
  obtain ⟨ws, h1, r1⟩ := h.rows
  obtain ⟨kvs, h2, r2⟩ := h.dict
  obtain ⟨ss, h3, r3⟩ := h.seen
  obtain ⟨ms, h4, r4⟩ := h.made
  obtain ⟨⟨a1, a2, a3, a4, a5⟩, ⟨b1, b2, b3, b4⟩, ⟨c1, c2, c3⟩, ⟨d1, d2⟩, _⟩ := h.ne
  obtain ⟨_, _, _, n4, _⟩ := h.nd_d
  refine ⟨by rw [upd_ne a3]; exact h.top, ⟨ws, by rw [upd_ne b2]; exact h1, RpA.tp t r1⟩, ⟨kvs, by rw [upd_ne (Ne.symm n4)]; exact h2, r2.tp t⟩, by rw [upd_ne c1]; exact h.makers, ?_, ⟨ss, by rw [upd_ne (Ne.symm d1)]; exact h3, RpA.tp t r3⟩, ⟨ms, by rw [upd_ne (Ne.symm d2)]; exact h4, RpA.tp t r4⟩, h.nd⟩
  show upd H p.rt _ p.rt = some (.lst ((x.roots ++ [n]).map .int))
  rw [upd_same, List.map_append] <;> rfl
theorem LSA.pushSeen (h : LSA H a p x) {ws : List V} {v : V} {c : Ct} (hw : H p.se = some (.lst ws)) (rv : Rp H v (ctD c)) : LSA (upd H p.se (.lst (ws ++ [v]))) a p { x with seen := x.seen ++ [c] } := by
  have t : Tp H (upd H p.se (.lst (ws ++ [v]))) := h.tpt (.inr (.inr (.inr (.inr (.inr (.inl rfl))))))
  obtain ⟨rs, h1, r1⟩ := h.rows
  obtain ⟨kvs, h2, r2⟩ := h.dict
  obtain ⟨ss, h3, r3⟩ := h.seen
  rw [hw] at h3
  cases h3
  obtain ⟨ms, h4, r4⟩ := h.made
  obtain ⟨⟨a1, a2, a3, a4, a5⟩, ⟨b1, b2, b3, b4⟩, ⟨c1, c2, c3⟩, ⟨d1, d2⟩, e1⟩ := h.ne
  obtain ⟨_, _, _, _, n5, _⟩ := h.nd_d
  refine ⟨by rw [upd_ne a4]; exact h.top, ⟨rs, by rw [upd_ne b3]; exact h1, RpA.tp t r1⟩, ⟨kvs, by rw [upd_ne (Ne.symm n5)]; exact h2, r2.tp t⟩, by rw [upd_ne c2]; exact h.makers, by rw [upd_ne d1]; exact h.roots, ⟨_, upd_same, ?_⟩, ⟨ms, by rw [upd_ne (Ne.symm e1)]; exact h4, RpA.tp t r4⟩, h.nd⟩
  show RpA _ (ws ++ [v]) ((x.seen ++ [c]).map ctD)
  rw [List.map_append]
  exact (RpA.tp t r3).snoc (Rp.tp t rv)
theorem LSA.pushMade (h : LSA H a p x) {ws : List V} {v : V} {c : Int × Option Int} (hw : H p.ma = some (.lst ws)) (rv : Rp H v (mdD c)) : LSA (upd H p.ma (.lst (ws ++ [v]))) a p { x with made := x.made ++ [c] } := by
  have t : Tp H (upd H p.ma (.lst (ws ++ [v]))) := h.tpt (.inr (.inr (.inr (.inr (.inr (.inr rfl))))))
  obtain ⟨rs, h1, r1⟩ := h.rows
  obtain ⟨kvs, h2, r2⟩ := h.dict
  obtain ⟨ss, h3, r3⟩ := h.seen
  obtain ⟨ms, h4, r4⟩ := h.made
  rw [hw] at h4
  cases h4
  obtain ⟨⟨a1, a2, a3, a4, a5⟩, ⟨b1, b2, b3, b4⟩, ⟨c1, c2, c3⟩, ⟨d1, d2⟩, e1⟩ := h.ne
  obtain ⟨_, _, _, _, _, n6⟩ := h.nd_d
  refine ⟨by rw [upd_ne a5]; exact h.top, ⟨rs, by rw [upd_ne b4]; exact h1, RpA.tp t r1⟩, ⟨kvs, by rw [upd_ne (Ne.symm n6)]; exact h2, r2.tp t⟩, by rw [upd_ne c3]; exact h.makers, by rw [upd_ne d2]; exact h.roots, ⟨ss, by rw [upd_ne e1]; exact h3, RpA.tp t r3⟩, ⟨_, upd_same, ?_⟩, h.nd⟩
  show RpA _ (ws ++ [v]) ((x.made ++ [c]).map mdD)
  rw [List.map_append]
  exact (RpA.tp t r4).snoc (Rp.tp t rv)
theorem LSA.rowAt (h : LSA H a p x) {i : Nat} {r : Row} (e : x.rows[i]? = some r) : ∃ (ws : List V) (ra : Addr), H p.r = some (.lst ws) ∧ ws[i]? = some (.ref ra) ∧ H ra = some (.tup [.int r.s, .int r.l, capV r.c, .int r.b]) ∧ ws.length = x.rows.length := by
  obtain ⟨ws, h1, r1⟩ := h.rows
  obtain ⟨v, hv, rv⟩ := r1.get (i := i) (d := rowD r) (by rw [List.getElem?_map, e] <;> rfl)
  obtain ⟨ra, rfl, hra⟩ := (rp_row _).mp rv
  exact ⟨ws, ra, h1, hv, hra, by rw [r1.length, List.length_map]⟩
end
end GB
set_option maxHeartbeats 4000000
/-! GL11: the law's append. -/
namespace GB
open PySem PySem.Spec PyProof.Rows L2
local macro_rules | `(tactic| walk_at "g") => `(tactic| first
  | refine ⟨_, rfl, ?_⟩
  | refine ⟨_, _, rfl, rfl, ?_⟩
  | refine ⟨_, _, _, _, rfl, rfl, SqT.of (by assumption), by rfl, ?_⟩
  | refine ⟨_, _, _, _, rfl, rfl, SqL.of (by assumption), by rfl, ?_⟩
  | refine ⟨_, _, _, _, rfl, rfl, SqL.of (by assumption), atI_nat (by assumption), ?_⟩
  | refine ⟨rfl, ⟨rfl, by decide⟩, ?_⟩
  | refine ⟨_, _, _, _, _, rfl, .ty _, .base (.tup (by assumption)), kt_tup, ?_⟩
  | refine ⟨_, _, _, _, _, rfl, .ty _, .base (.str _), kt_str, ?_⟩
  | refine ⟨_, _, rfl, .inr (SqT.of (by assumption)), ?_⟩
  | refine ⟨_, _, rfl, .inl (SqL.of (by assumption)), ?_⟩
  | refine iteT_of (by first | decide +kernel | rfl) ?_
  | refine iteF_of (by first | decide +kernel | rfl) ?_
  | refine iteT_of (btw_t (by omega)) ?_
  | refine iteF_of (by rw [btw_t (by omega)]; rfl) ?_
  | refine ⟨_, _, rfl, rfl, by assumption, ?_⟩
  | refine ⟨_, _, _, rfl, rfl, by assumption, ?_⟩
  | refine ⟨_, _, _, _, _, rfl, by assumption, Txt.cl (by assumption), by first | exact Txt.no_kept_program (by assumption) | exact Txt.no_kept_policy (by assumption) | exact Txt.no_rows (by assumption) | exact Txt.no_cells (by assumption) | exact Txt.no_makers (by assumption) | exact Txt.no_roots (by assumption) | exact Txt.no_seen (by assumption) | exact Txt.no_made (by assumption) | exact Txt.no_records (by assumption) | exact Txt.no_busy (by assumption), by rfl, ?_⟩
  | refine ⟨_, _, _, rfl, by assumption, by rfl, ?_⟩
  | refine ⟨_, _, _, rfl, ?_⟩
  | refine ⟨_, _, rfl, SqT.of (by assumption), by rfl, ?_⟩
  | refine ⟨_, _, rfl, ?_⟩
  | refine ⟨.inl (by decide), ?_⟩
  | refine ⟨.inl ⟨rfl, _, SqL.of (by assumption)⟩, ?_⟩
  | refine ⟨rfl, ?_⟩)
local macro_rules | `(tactic| walk_at "gs") => `(tactic| repeat walk_at "g")
local macro_rules | `(tactic| walk_at "b") => `(tactic| (first | decide +kernel | (simp only [decide_eq_true_eq, decide_eq_false_iff_not, List.length_map, V.int.injEq, Bool.not_eq_true', Bool.not_eq_false']; omega)))
theorem PSs.weak' {X : Cx} {st : List Stmt} {t t' : TS} (h : PSs X st t) (w : ∀ D σ H, t' D σ H → t D σ H) : PSs X st t' := PSs.weak h w
theorem lt_line2 {n : Nat} (h : n ≤ 10000000) : n < sizeLine := by
  rw [sizeLine_eq]
  omega
/-- bounds of a state, for the law's own -/
structure LBd (s : MS) : Prop where
  rows : s.rows.length ≤ 900
  cells : s.cells.length ≤ 900
  seen : s.seen.length ≤ 900
  made : s.made.length ≤ 900
  blk : ∀ i, (s.blk i).length ≤ 800
theorem Bd.l {s : MS} (h : Bd s) : LBd s := ⟨h.rows, h.cells, h.seen, h.made, h.blk⟩
theorem LBd.mark {s : MS} (h : LBd s) : LBd s.mark := ⟨h.rows, h.cells, h.seen, h.made, h.blk⟩
section
variable {P : Program} {w : World} {K : Frg} {mg : Str → Option Value} {base : Heap}
/-- the row pushed, the values written -/
def tlA (td qa a : Addr) (n : Nat) (p : LA) (wd : Str) (v : Nat) (xa : Addr) (st e need : Int) (xs : List Int) : TS := fun D σ H => ∃ (ta : Addr) (x : LM) (s : MS) (cap : Option Int) (bk : Nat) (len : Int) (x11 : Option V) (M : Nat), σ = [some (.ref ta), some (.ref qa), some (.int n), some (.ref a), some (.ref td), some (.int st), some (.int len), some (capV cap), some (.int bk), some (.int e), some (.int need), x11, none] ∧
  LSA H a p x ∧ Sim x s ∧ H td = some (.tup [.str wd, .int v, .ref xa]) ∧ H xa = some (.tup (xs.map .int)) ∧ xs.length ≤ 6 ∧ x.rows.length ≤ 900 ∧ bk < s.cells.length ∧ x.dict.length ≤ M ∧ M ≤ 2000000 ∧
  ∀ σ' H' x', LSA H' a p x' → Sim x' ((s.view ⟨st, need, cap, bk⟩).puts bk n e xs) → x'.dict.length ≤ M + 6 → Fr (ft a p) H H' → D.nx σ' H'
/-- a copy -/
def tlC (H0 : Hp) (ta td qa a : Addr) (n : Nat) (p : LA) (r : Row) (need : Int) (cap : Option Int) (s1 : MS) (nb M : Nat) : TS := fun D σ H => H = H0 ∧ ∃ c : V, σ = [some (.ref ta), some (.ref qa), some (.int n), some (.ref a), some (.ref td), some (.int r.s), some (.int r.l), some c, some (.int r.b), some (.int (r.s + r.l)), some (.int need), none, none] ∧
  ∀ σ2 H2 x2 x11, σ2 = [some (.ref ta), some (.ref qa), some (.int n), some (.ref a), some (.ref td), some (.int r.s), some (.int r.l), some (capV cap), some (.int nb), some (.int (r.s + r.l)), some (.int need), x11, none] → LSA H2 a p x2 → Sim x2 s1 → x2.dict.length ≤ M → Fr (ft a p) H0 H2 → D.nx σ2 H2
def sp_l_append : Sp := fun vs H Q _ => ∃ (ta qa a : Addr) (p : LA) (x : LM) (s : MS) (prog : List Stm) (pol : Pol) (n : Nat) (g : Bool) (v : Nat) (xs : List Int) (M : Nat), vs = [.ref ta, .ref qa, .int n, .ref a] ∧ LSA H a p x ∧ Sim x s ∧ PrV ta H prog ∧ prog[n]? = some (.app g v xs) ∧ poV qa H pol ∧ ValQ pol ∧
  VwOk s v ∧ xs.length ≤ 6 ∧ LBd s ∧ x.dict.length ≤ M ∧ M ≤ 1000000 ∧ ∀ H' x', LSA H' a p x' → Sim x' (s.ext pol n g v xs) → x'.dict.length ≤ M + 806 → Fr (ft a p) H H' → Q .non H'
theorem ok_l_append (T : Txt K mg) : Ok P w K mg base CX0 2 ("_law_append", none) P_l_append sp_l_append := by
  refine Ok.of T.f_l_append sc_l_append (fun _ _ _ _ _ _ us hl => match us, hl with | [_, _, _, _], _ => rfl) (fun vs H Q E h => ?_) fun f cdv A outer s H vs Q E hr h => ?_
  · obtain ⟨ta, qa, a, p, x, s, prog, pol, n, g, v, xs, M, rfl, _⟩ := h
    rfl
  · obtain ⟨ta, qa, a, p, x, s0, prog, pol, n, g, v, xs, M, rfl, hs, hm, ⟨pw, hta, hpw⟩, hst, hpo, hvq, ⟨h1, h2, h3⟩, hx6, B, hM, hM2, k⟩ := h
    have h0 := hs.top
    obtain ⟨vd, hpn, rvd⟩ := hpw.get (i := n) (d := stD (.app g v xs)) (by rw [List.getElem?_map, hst] <;> rfl)
    obtain ⟨td, rfl, xa, htd, hxa⟩ := (rp_st _).mp rvd
    have hrv : x.rows[v]? = some (s0.row v) := by
      rw [hm.rows]
      show _ = some (s0.rows.getD v row0)
      rw [List.getD_eq_getElem?_getD, List.getElem?_eq_getElem h1] <;> rfl
    obtain ⟨ws, ra, hw, hwv, hra, hwl⟩ := hs.rowAt hrv
    obtain ⟨s1, hs1⟩ : ∃ s1, s1 = ({ s0 with made := s0.made ++ [((n : Int), chosenQ pol n ((s0.row v).l + (xs.length : Int)))] }.block n (s0.roots.getD (s0.row v).b 0) (keepIn (s0.row v).s ((s0.row v).s + (s0.row v).l) (s0.blk (s0.row v).b)) : MS) := ⟨_, rfl⟩
    refine ⟨_, PSs.nox (pss_cons (ps_set (i := 4) sc_l_append.nd rfl (Or.inl rfl) (pe_ix ix_tup (pv 0) (pv 2) (fun _ _ => rfl)))
      (pss_cons (ps_asg (pe_ix ix_list (pe_ix ix_list (pv 3) pe_int (fun _ _ => rfl)) (pe_ix ix_tup (pv 4) pe_int (fun _ _ => rfl)) (fun _ _ => rfl)) (pg_tup rfl (pgs_cons (pg_name (i := 5) sc_l_append.nd rfl (Or.inl rfl)) (pgs_cons (pg_name (i := 6) sc_l_append.nd rfl (Or.inl rfl)) (pgs_cons (pg_name (i := 7) sc_l_append.nd rfl (Or.inl rfl)) (pgs_cons (pg_name (i := 8) sc_l_append.nd rfl (Or.inl rfl)) pgs_nil))))))
      (pss_cons (ps_set (i := 9) sc_l_append.nd rfl (Or.inl rfl) (pe_op op_add (pv 5) (pv 6)))
      (pss_cons (ps_set (i := 10) sc_l_append.nd rfl (Or.inl rfl) (pe_op op_add (pv 6) (pe_callB call_len_seq rfl T.bi.len (by decide +kernel) (pa_cons (pe_ix ix_tup (pv 4) pe_int (fun _ _ => rfl)) pa_nil))))
      (pss_cons (ps_if (PW.pt (pw_or (pt_cmpR op_eq (pe_ix ix_tup (pv 4) pe_int (fun _ _ => rfl)) pe_str (nomark _)) (pw_or1 (PW.pt (pw_and (pt_cmpR op_notN (pv 7) pe_non (nomark _)) (pw_and1 (pt_cmpR op_lt (pv 7) (pv 10) (nomark _))))))))
      (PSs.weak (t' := (tlC H ta td qa a n p (s0.row v) ((s0.row v).l + (xs.length : Int)) (chosenQ pol n ((s0.row v).l + (xs.length : Int))) s1 s0.cells.length (M + 800))) (pss_cons (ps_set (i := 7) sc_l_append.nd rfl (Or.inl rfl) (pf (ok_l_chosen T) T.g_l_chosen hr rfl pass0 (pa_cons (pv 1) (pa_cons (pv 2) (pa_cons (pv 10) pa_nil)))))
      (pss_cons (ps_for PassesOwn.never rfl (pi_list (pe_callTy (call_list_dT rfl) rfl T.bi.list (by decide +kernel) (pa_cons (pe_ix ix_list (pv 3) pe_int (fun _ _ => rfl)) pa_nil))) (pg_name (i := 11) sc_l_append.nd rfl (Or.inl rfl))
       (pss_one (ps_if (PW.pt (pw_and (pt_cmpR op_eq (pe_ix ix_tup (pv 11) pe_int (fun _ _ => rfl)) (pv 8) (nomark _)) (pw_and1 (pt_chain op_le op_lt (pv 5) (pe_ix ix_tup (pv 11) pe_int (fun _ _ => rfl)) (pv 9)))))
        (pss_one (ps_dput (hu_of hr) (pe_ix ix_list (pv 3) pe_int (fun _ _ => rfl)) (pe_tup (pa_cons (pe_callB call_len_seq rfl T.bi.len (by decide +kernel) (pa_cons (pe_ix ix_list (pv 3) pe_int (fun _ _ => rfl)) pa_nil)) (pa_cons (pe_ix ix_tup (pv 11) pe_int (fun _ _ => rfl)) pa_nil))) (pe_dget (hu_of hr) (pe_ix ix_list (pv 3) pe_int (fun _ _ => rfl)) (pv 11) (fun _ _ => rfl)) rfl))
        pss_nil)))
      (pss_cons (ps_expr (pe_bm PySem.F.plainAttrs_list PySem.F.slot_list_append PySem.F.type_list_append mt_append (pe_ix ix_list (pv 3) pe_int (fun _ _ => rfl)) (pa_cons (pe_ix ix_list (pe_ix ix_list (pv 3) pe_int (fun _ _ => rfl)) (pv 8) (fun _ _ => rfl)) pa_nil)))
      (pss_cons (ps_set (i := 8) sc_l_append.nd rfl (Or.inl rfl) (pe_callB call_len_seq rfl T.bi.len (by decide +kernel) (pa_cons (pe_ix ix_list (pv 3) pe_int (fun _ _ => rfl)) pa_nil)))
      (pss_cons (ps_expr (pe_bm PySem.F.plainAttrs_list PySem.F.slot_list_append PySem.F.type_list_append mt_append (pe_ix ix_list (pv 3) pe_int (fun _ _ => rfl)) (pa_cons (pv 2) pa_nil)))
      (pss_one (ps_expr (pe_bm PySem.F.plainAttrs_list PySem.F.slot_list_append PySem.F.type_list_append mt_append (pe_ix ix_list (pv 3) pe_int (fun _ _ => rfl)) (pa_cons (pe_tup (pa_cons (pv 2) (pa_cons (pv 7) pa_nil))) pa_nil))))))))) ?br4)
      pss_nil)
      (PSs.weak (t' := (tlA td qa a n p (sw g) v xa (s0.row v).s ((s0.row v).s + (s0.row v).l) ((s0.row v).l + (xs.length : Int)) xs)) (pss_cons (ps_expr (pe_bm PySem.F.plainAttrs_list PySem.F.slot_list_append PySem.F.type_list_append mt_append (pe_ix ix_list (pv 3) pe_int (fun _ _ => rfl)) (pa_cons (pe_tup (pa_cons (pv 5) (pa_cons (pv 10) (pa_cons (pv 7) (pa_cons (pv 8) pa_nil))))) pa_nil)))
      (pss_one (ps_for PassesOwn.never rfl (pi_range1 rfl T.bi.range (pa_cons (pe_callB call_len_seq rfl T.bi.len (by decide +kernel) (pa_cons (pe_ix ix_tup (pv 4) pe_int (fun _ _ => rfl)) pa_nil)) pa_nil)) (pg_name (i := 12) sc_l_append.nd rfl (Or.inl rfl))
       (pss_one (ps_dput (hu_of hr) (pe_ix ix_list (pv 3) pe_int (fun _ _ => rfl)) (pe_tup (pa_cons (pv 8) (pa_cons (pe_op op_add (pv 9) (pv 12)) pa_nil))) (pe_tup (pa_cons (pv 2) (pa_cons (pe_ix ix_tup (pe_ix ix_tup (pv 4) pe_int (fun _ _ => rfl)) (pv 12) (fun _ _ => rfl)) pa_nil))) rfl))))) ?tl5)))))), ?_⟩
    case br4 =>
      intro D σ H' hh
      obtain ⟨rfl, c, rfl, k⟩ := hh
      walk_at "gs"
      refine ⟨qa, pol, n, _, rfl, hpo, hvq, ?_⟩
      obtain ⟨kvs, hd, hk⟩ := hs.dict
      walk_at "gs"
      refine ⟨_, kvs, rfl, .inl hd, fun L bs hL hks => ?_⟩
      have sm1 := Same.new (o := .lst (bs.map V.ref)) hL
      have hbl : bs.length = x.dict.length := by rw [isKeys_len hks, hk.length]
      have hcm : ((x.makers.map V.int).length : Int) = (s0.cells.length : Int) := by rw [List.length_map, hm.makers, hm.cm]
      walk_at "gs"
      refine ⟨⟨_, SqL.of upd_same⟩, ?_⟩
      refine for_list (xs := bs.map V.ref) (fun i σ H2 => ∃ x11, σ = [some (.ref ta), some (.ref qa), some (.int n), some (.ref a), some (.ref td), some (.int (s0.row v).s), some (.int (s0.row v).l), some (capV (chosenQ pol n ((s0.row v).l + (xs.length : Int)))), some (.int (s0.row v).b), some (.int ((s0.row v).s + (s0.row v).l)), some (.int ((s0.row v).l + (xs.length : Int))), x11, none] ∧
        LSA H2 a p { x with dict := cpy (s0.row v).b (s0.cells.length : Int) (s0.row v).s ((s0.row v).s + (s0.row v).l) x.dict (x.dict.take i) } ∧ Fr (ft a p) H' H2 ∧ H2 L = some (.lst (bs.map V.ref))) ⟨none, rfl, hs.same sm1, Fr.of sm1, upd_same⟩ (fun i σ H2 _ pv => ?_) (fun i y σ H2 hy pv => ?_) fun σ H2 pv => ?_
      · obtain ⟨_, _, _, _, h⟩ := pv
        exact SqL.of h
      · obtain ⟨x11, rfl, hs2, f2, hL2⟩ := pv
        obtain ⟨bi, hbi, rfl⟩ : ∃ bi, bs[i]? = some bi ∧ V.ref bi = y := by simpa using hy
        obtain ⟨e, hke, hbt⟩ := isKeys_at hks hbi
        obtain ⟨c, hxc, he, _⟩ := hk.at hke
        have hb2 : H2 bi = some (.tup [.int c.1.1, .int c.1.2]) := by
          rw [he] at hbt
          exact f2.tup hbt
        have skip : ¬ (c.1.1 = ((s0.row v).b : Int) ∧ (s0.row v).s ≤ c.1.2 ∧ c.1.2 < (s0.row v).s + (s0.row v).l) → cpy (s0.row v).b (s0.cells.length : Int) (s0.row v).s ((s0.row v).s + (s0.row v).l) x.dict (x.dict.take (i + 1)) = cpy (s0.row v).b (s0.cells.length : Int) (s0.row v).s ((s0.row v).s + (s0.row v).l) x.dict (x.dict.take i) := fun z => by
          rw [List.take_succ, hxc]
          show cpy _ _ _ _ _ (_ ++ [c]) = _
          rw [cpy_snoc]
          exact if_neg z
        clear h0
        have h0 := hs2.top
        have hmk := hs2.makers
        walk_at "gs"
        refine iteD (fun q1 => ?_) (fun q1 => ?_)
        · have c1 : c.1.1 = ((s0.row v).b : Int) := by simpa using q1
          walk_at "gs"
          refine iteD (fun q2 => ?_) (fun q2 => ?_)
          · walk_at "gs"
            refine iteD (fun q3 => ?_) (fun q3 => ?_)
            · obtain ⟨kv2, hd2, hk2⟩ := hs2.dict
              have g2 := hk2.get c.1
              have g3 : gget (cpy (s0.row v).b (s0.cells.length : Int) (s0.row v).s ((s0.row v).s + (s0.row v).l) x.dict (x.dict.take i)) c.1 = some c.2 := by
                have hnd : NdK (x.dict.take i) := by
                  unfold NdK
                  rw [List.map_take]
                  exact (List.take_sublist _ _).nodup hm.nd
                have := cpy_get (b := ((s0.row v).b : Int)) (nb := (s0.cells.length : Int)) (lo := (s0.row v).s) (hi := (s0.row v).s + (s0.row v).l) (x.dict.take i) x.dict c.1.1 c.1.2 hnd
                rw [if_neg (fun z => by have := z.1; omega)] at this
                exact this.trans (gget_mem hm.nd (List.mem_of_getElem? hxc))
              have g3' : gget (LM.dict { x with dict := cpy (s0.row v).b (s0.cells.length : Int) (s0.row v).s ((s0.row v).s + (s0.row v).l) x.dict (x.dict.take i) }) c.1 = some c.2 := g3
              rw [g3'] at g2
              obtain ⟨cv, hcv, rcv⟩ := g2
              walk_at "gs"
              refine ⟨_, cv, rfl, by rw [← hcv]; exact DGet.t (k := ky c.1) hd2 hb2, ?_⟩
              walk_at "gs"
              refine ⟨szk (n := 2) (by decide), fun t ht => ?_⟩
              have s3 := Same.new (o := .tup [.int (s0.cells.length : Int), .int c.1.2]) ht
              rw [hcm] at *
              have hs3 := hs2.same s3
              refine ⟨_, _, rfl, DPut.t (k := ky ((s0.cells.length : Int), c.1.2)) (s3 _ _ hd2) upd_same (lt_line2 ?_), ?_⟩
              · have z1 := hk2.length
                have z2 := cpy_len ((s0.row v).b : Int) (s0.cells.length : Int) (s0.row v).s ((s0.row v).s + (s0.row v).l) (x.dict.take i) x.dict
                have z3 : ((x.dict.take i).filter (inB ((s0.row v).b : Int))).length ≤ (x.dict.take i).length := List.length_filter_le _ _
                have z4 : (x.dict.take i).length ≤ x.dict.length := by rw [List.length_take]; omega
                have z1 : kv2.length = (cpy (s0.row v).b (s0.cells.length : Int) (s0.row v).s ((s0.row v).s + (s0.row v).l) x.dict (x.dict.take i)).length := z1
                omega
              · have hs4 := hs3.putDict ((hk2.tp (Same.tp s3)).put ((s0.cells.length : Int), c.1.2) (Rp.tp (Same.tp s3) rcv))
                refine ⟨_, rfl, ?_, (f2.trans (Fr.of (W := ft a p) s3) fun _ h => .inl h).trans (hs3.frt (.inr (.inr (.inl rfl)))) fun _ h => .inl h, ?_⟩
                · rw [List.take_succ, hxc]
                  show LSA _ a p { x with dict := cpy _ _ _ _ _ (_ ++ [c]) }
                  rw [cpy_snoc]
                  have e1 : cpy1 ((s0.row v).b : Int) (s0.cells.length : Int) (s0.row v).s ((s0.row v).s + (s0.row v).l) (cpy (s0.row v).b (s0.cells.length : Int) (s0.row v).s ((s0.row v).s + (s0.row v).l) x.dict (x.dict.take i)) c = gput (cpy (s0.row v).b (s0.cells.length : Int) (s0.row v).s ((s0.row v).s + (s0.row v).l) x.dict (x.dict.take i)) ((s0.cells.length : Int), c.1.2) c.2 := if_pos ⟨c1, of_decide_eq_true q2, of_decide_eq_true q3⟩
                  rw [e1]
                  exact hs4
                · rw [upd_ne (ne_of (s3 _ _ hL2) (s3 _ _ hd2) lst_ne_dT)]
                  exact s3 _ _ hL2
            · exact ⟨_, rfl, by rw [skip fun z => of_decide_eq_false q3 z.2.2]; exact hs2, f2, hL2⟩
          · walk_at "gs"
            exact ⟨by rw [skip fun z => of_decide_eq_false q2 z.2.1]; exact hs2, f2, hL2⟩
        · walk_at "gs"
          exact ⟨by rw [skip fun z => by have := of_decide_eq_false q1; simp at this; exact this z.1]; exact hs2, f2, hL2⟩
      · obtain ⟨x11, rfl, hs2, f2, hL2⟩ := pv
        rw [List.length_map, hbl, List.take_length] at hs2
        clear h0 hw
        have h0 := hs2.top
        have hrt := hs2.roots
        have hrg : (x.roots.map V.int)[(s0.row v).b]? = some (.int (s0.roots.getD (s0.row v).b 0)) := by
          rw [hm.roots, List.getElem?_map, List.getElem?_eq_getElem h3, List.getD_eq_getElem?_getD, List.getElem?_eq_getElem h3] <;> rfl
        walk_at "gs"
        refine ⟨lt_line (by show (x.roots.map V.int).length ≤ _; rw [List.length_map, hm.roots, ← hm.cr]; have := B.cells; omega), ?_⟩
        have hs3 := hs2.pushRoot (s0.roots.getD (s0.row v).b 0)
        have f3 := f2.trans (hs2.frt (y := p.rt) (o := .lst (x.roots.map .int ++ [.int (s0.roots.getD (s0.row v).b 0)])) (.inr (.inr (.inr (.inr (.inl rfl)))))) fun _ h => .inl h
        have e3 : (LM.roots { x with dict := cpy (s0.row v).b (s0.cells.length : Int) (s0.row v).s ((s0.row v).s + (s0.row v).l) x.dict x.dict }) = x.roots := rfl
        rw [e3] at *
        generalize upd H2 p.rt (.lst (x.roots.map .int ++ [.int (s0.roots.getD (s0.row v).b 0)])) = H3 at hs3 f3 ⊢
        clear h0 hrt hs2 hL2 f2
        have h0 := hs3.top
        have hmk := hs3.makers
        have e4 : (LM.makers { x with dict := cpy (s0.row v).b (s0.cells.length : Int) (s0.row v).s ((s0.row v).s + (s0.row v).l) x.dict x.dict, roots := x.roots ++ [s0.roots.getD (s0.row v).b 0] }) = x.makers := rfl
        rw [e4] at hmk
        walk_at "gs"
        refine ⟨lt_line (by rw [List.length_map, hm.makers, ← hm.cm]; have := B.cells; omega), ?_⟩
        have hs4 := hs3.pushMaker (n : Int)
        have f4 := f3.trans (hs3.frt (y := p.mr) (o := .lst (x.makers.map .int ++ [.int (n : Int)])) (.inr (.inr (.inr (.inl rfl))))) fun _ h => .inl h
        rw [e4] at *
        generalize upd H3 p.mr (.lst (x.makers.map .int ++ [.int (n : Int)])) = H4 at hs4 f4 ⊢
        clear h0 hmk hs3 f3
        have h0 := hs4.top
        obtain ⟨mw, hma4, hmw⟩ := id hs4.made
        walk_at "gs"
        refine ⟨szk (n := 2) (by decide), fun t ht => ?_⟩
        have s5 := Same.new (o := .tup [.int (n : Int), capV (chosenQ pol n ((s0.row v).l + (xs.length : Int)))]) ht
        have hs5 := hs4.same s5
        have f5 := f4.trans (Fr.of (W := ft a p) s5) fun _ h => .inl h
        have hma := s5 _ _ hma4
        refine ⟨p.ma, mw, _, rfl, rfl, hma, lt_line (by rw [hmw.length, List.length_map]; show x.made.length ≤ _; rw [hm.made]; have := B.made; omega), ?_⟩
        have hs6 := hs5.pushMade (c := ((n : Int), chosenQ pol n ((s0.row v).l + (xs.length : Int)))) hma ((rp_md _).mpr ⟨t, rfl, upd_same⟩)
        have f6 := f5.trans (hs5.frt (y := p.ma) (o := .lst (mw ++ [.ref t])) (.inr (.inr (.inr (.inr (.inr (.inr rfl))))))) fun _ h => .inl h
        refine k _ _ _ _ (by rw [hcm] <;> rfl) hs6 ?_ ?_ f6
        · have z := (hm.mad ((n : Int), chosenQ pol n ((s0.row v).l + (xs.length : Int)))).copy (n : Int) (s0.roots.getD (s0.row v).b 0) (s0.row v).b (s0.row v).s ((s0.row v).s + (s0.row v).l)
          rw [hs1]
          exact z
        · have z2 := cpy_len ((s0.row v).b : Int) (s0.cells.length : Int) (s0.row v).s ((s0.row v).s + (s0.row v).l) x.dict x.dict
          have z3 := hm.count (s0.row v).b
          have z4 := B.blk (s0.row v).b
          show (cpy _ _ _ _ _ _).length ≤ _
          omega
    case tl5 =>
      intro D σ H' hh
      obtain ⟨ta2, x2, s2, cap, bk, len, x11, M2, rfl, hs2, hm2, htd2, hxa2, hx62, hrz, hbk, hMM, hMb, k⟩ := hh
      clear h0
      have h0 := hs2.top
      obtain ⟨rw2, hrw2, hrr2⟩ := id hs2.rows
      walk_at "gs"
      refine ⟨szk (n := 4) (by decide), fun t ht => ?_⟩
      have s3 := Same.new (o := .tup [.int (s0.row v).s, .int ((s0.row v).l + (xs.length : Int)), capV cap, .int bk]) ht
      have hs3 := hs2.same s3
      have htd3 := s3 _ _ htd2
      have hxa3 := s3 _ _ hxa2
      refine ⟨p.r, rw2, _, rfl, rfl, s3 _ _ hrw2, lt_line (by rw [hrr2.length, List.length_map]; omega), ?_⟩
      have hs4 := hs3.pushRow (r := ⟨(s0.row v).s, (s0.row v).l + (xs.length : Int), cap, bk⟩) (s3 _ _ hrw2) ((rp_row _).mpr ⟨t, rfl, upd_same⟩)
      have f4 := (Fr.of (W := ft a p) s3).trans (hs3.frt (y := p.r) (o := .lst (rw2 ++ [.ref t])) (.inr (.inl rfl))) fun _ h => .inl h
      have htd4 := f4.tup htd2
      have hxa4 := f4.tup hxa2
      have hm4 := hm2.view ⟨(s0.row v).s, (s0.row v).l + (xs.length : Int), cap, bk⟩
      generalize upd (upd H' t (.tup [.int (s0.row v).s, .int ((s0.row v).l + (xs.length : Int)), capV cap, .int bk])) p.r (.lst (rw2 ++ [.ref t])) = H4 at hs4 f4 htd4 hxa4 ⊢
      clear h0 hs3 htd3 hxa3
      have h0 := hs4.top
      walk_at "gs"
      have hxl : ((xs.map V.int).length : Int) = (xs.length : Int) := by rw [List.length_map]
      refine ⟨by rw [hxl]; omega, by rw [hxl]; omega, ?_⟩
      rw [show (xs.map V.int).length = xs.length from List.length_map _]
      obtain ⟨sv, hsv⟩ : ∃ sv, sv = s2.view ⟨(s0.row v).s, (s0.row v).l + (xs.length : Int), cap, bk⟩ := ⟨_, rfl⟩
      rw [← hsv] at hm4 k
      have hbk4 : bk < sv.cells.length := by rw [hsv]; exact hbk
      refine for_range (n := xs.length) (fun i σ H5 => ∃ x12, σ = [some (.ref ta2), some (.ref qa), some (.int n), some (.ref a), some (.ref td), some (.int (s0.row v).s), some (.int len), some (capV cap), some (.int bk), some (.int ((s0.row v).s + (s0.row v).l)), some (.int ((s0.row v).l + (xs.length : Int))), x11, x12] ∧
        LSA H5 a p { x2 with rows := x2.rows ++ [⟨(s0.row v).s, (s0.row v).l + (xs.length : Int), cap, bk⟩], dict := putsD bk n ((s0.row v).s + (s0.row v).l) (xs.take i) x2.dict } ∧ Fr (ft a p) H4 H5) ⟨none, rfl, hs4, Fr.refl _ _⟩ (fun i σ H5 hi pv => ?_) fun σ H5 pv => ?_
      · obtain ⟨x12, rfl, hs5, f5⟩ := pv
        have hxi : xs[i]? = some xs[i] := List.getElem?_eq_getElem hi
        have hxv : (xs.map V.int)[i]? = some (.int xs[i]) := by rw [List.getElem?_map, hxi] <;> rfl
        have htd5 := f5.tup htd4
        have hxa5 := f5.tup hxa4
        clear h0
        have h0 := hs5.top
        walk_at "gs"
        rw [Int.zero_add]
        refine ⟨xa, _, _, .int xs[i], rfl, rfl, SqT.of hxa5, atI_nat hxv, ?_⟩
        walk_at "gs"
        refine ⟨szk (n := 2) (by decide), fun t6 ht6 => ?_⟩
        have s6 := Same.new (o := .tup [.int (n : Int), .int xs[i]]) ht6
        have hs6 := hs5.same s6
        clear h0
        have h0 := hs6.top
        obtain ⟨kv6, hd6, hk6⟩ := id hs6.dict
        walk_at "gs"
        refine ⟨szk (n := 2) (by decide), fun t7 ht7 => ?_⟩
        have s7 := Same.new (o := .tup [.int (bk : Int), .int ((s0.row v).s + (s0.row v).l + (i : Int))]) ht7
        have hs7 := hs6.same s7
        have f7 := (f5.trans (Fr.of (W := ft a p) (Same.trans s6 s7)) fun _ h => .inl h)
        refine ⟨_, _, rfl, DPut.t (k := ky ((bk : Int), (s0.row v).s + (s0.row v).l + (i : Int))) (s7 _ _ hd6) upd_same (lt_line2 ?_), ?_⟩
        · have z1 := hk6.length
          have z2 := putsD_len bk n (xs.take i) ((s0.row v).s + (s0.row v).l) x2.dict
          have z3 : (xs.take i).length ≤ xs.length := by rw [List.length_take]; omega
          have z1 : kv6.length = (putsD bk n ((s0.row v).s + (s0.row v).l) (xs.take i) x2.dict).length := z1
          omega
        · have hs8 := hs7.putDict ((hk6.tp (Same.tp s7)).put ((bk : Int), (s0.row v).s + (s0.row v).l + (i : Int)) (v := .ref t6) (c := ((n : Int), xs[i])) ((rp_ct _).mpr ⟨t6, rfl, s7 _ _ upd_same⟩))
          refine ⟨_, rfl, ?_, f7.trans (hs7.frt (.inr (.inr (.inl rfl)))) fun _ h => .inl h⟩
          rw [List.take_succ, hxi]
          show LSA _ a p { x2 with rows := _, dict := putsD _ _ _ (_ ++ [xs[i]]) _ }
          rw [putsD_snoc, show (xs.take i).length = i by rw [List.length_take]; omega]
          exact hs8
      · obtain ⟨x12, rfl, hs5, f5⟩ := pv
        rw [List.take_length] at hs5
        refine k _ H5 _ hs5 (hm4.puts bk n hbk4) ?_ (f4.trans f5 fun _ h => .inl h)
        have := putsD_len bk n xs ((s0.row v).s + (s0.row v).l) x2.dict
        show (putsD _ _ _ _ _).length ≤ _
        omega
    have hlen : ((xs.map V.int).length : Int) = xs.length := by rw [List.length_map]
    have yes : due g (s0.row v).c ((s0.row v).l + (xs.length : Int)) = true → ∀ σ2 H2 x2 x11, σ2 = [some (.ref ta), some (.ref qa), some (.int n), some (.ref a), some (.ref td), some (.int (s0.row v).s), some (.int (s0.row v).l), some (capV (chosenQ pol n ((s0.row v).l + (xs.length : Int)))), some (.int s0.cells.length), some (.int ((s0.row v).s + (s0.row v).l)), some (.int ((s0.row v).l + (xs.length : Int))), x11, none] → LSA H2 a p x2 → Sim x2 s1 → x2.dict.length ≤ M + 800 → Fr (ft a p) H H2 →
        tlA td qa a n p (sw g) v xa (s0.row v).s ((s0.row v).s + (s0.row v).l) ((s0.row v).l + (xs.length : Int)) xs ⟨fun _ H' => Q .non H', Q, fun _ _ => False, fun _ _ => False⟩ σ2 H2 := by
      intro hdue σ2 H2 x2 x11 e2 hs2 hm2 hl2 f2
      refine ⟨ta, x2, s1, chosenQ pol n ((s0.row v).l + (xs.length : Int)), s0.cells.length, (s0.row v).l, x11, M + 800, e2, hs2, hm2, f2.tup htd, f2.tup hxa, hx6, ?_, ?_, hl2, by omega, fun σ' H' x' hs' hm' hl' f' => k H' x' hs' ?_ (by omega) (f2.trans f' fun _ h => .inl h)⟩
      · rw [hm2.rows, hs1]; exact B.rows
      · rw [hs1]
        show _ < (s0.cells ++ [_]).length
        rw [List.length_append]
        exact Nat.lt_succ_self _
      · have e : MS.ext pol n g v xs s0 = ((s1.view ⟨(s0.row v).s, (s0.row v).l + (xs.length : Int), chosenQ pol n ((s0.row v).l + (xs.length : Int)), s0.cells.length⟩).puts s0.cells.length n ((s0.row v).s + (s0.row v).l) xs) := by
          unfold MS.ext
          rw [hs1]
          exact if_pos hdue
        rw [e]
        exact hm'
    have no : due g (s0.row v).c ((s0.row v).l + (xs.length : Int)) = false → ∀ (D : Ends), (∀ σ' H', Q .non H' → D.nx σ' H') →
        tlA td qa a n p (sw g) v xa (s0.row v).s ((s0.row v).s + (s0.row v).l) ((s0.row v).l + (xs.length : Int)) xs D [some (.ref ta), some (.ref qa), some (.int n), some (.ref a), some (.ref td), some (.int (s0.row v).s), some (.int (s0.row v).l), some (capV (s0.row v).c), some (.int (s0.row v).b), some (.int ((s0.row v).s + (s0.row v).l)), some (.int ((s0.row v).l + (xs.length : Int))), none, none] H := by
      intro hdue D hD
      refine ⟨ta, x, s0, (s0.row v).c, (s0.row v).b, (s0.row v).l, none, M, rfl, hs, hm, htd, hxa, hx6, by rw [hm.rows]; exact B.rows, h2, hM, by omega, fun σ' H' x' hs' hm' hl' f' => hD _ _ (k H' x' hs' ?_ (by omega) f')⟩
      have e : MS.ext pol n g v xs s0 = ((s0.view ⟨(s0.row v).s, (s0.row v).l + (xs.length : Int), (s0.row v).c, (s0.row v).b⟩).puts (s0.row v).b n ((s0.row v).s + (s0.row v).l) xs) := by
        unfold MS.ext
        exact if_neg (by rw [hdue]; exact Bool.false_ne_true)
      rw [e]
      exact hm'
    clear hs1
    rw [← hlen] at yes no ⊢
    walk_at "gs"
    refine ⟨_, _, _, .ref td, rfl, rfl, SqT.of hta, atI_nat hpn, ?_⟩
    cases g with
    | true =>
      have htd : H td = some (.tup [.str "grow", .int v, .ref xa]) := htd
      walk_at "gs"
      exact yes rfl
    | false =>
      have htd : H td = some (.tup [.str "append", .int v, .ref xa]) := htd
      cases hc : (s0.row v).c with
      | none =>
        rw [hc] at hra no
        walk_at "gs"
        exact no rfl _ fun _ _ h => h
      | some c =>
        rw [hc] at hra no yes
        have hra : H ra = some (.tup [.int (s0.row v).s, .int (s0.row v).l, .int c, .int (s0.row v).b]) := hra
        walk_at "gs"
        refine iteD (fun q => ?_) (fun q => ?_)
        · walk_at "gs"
          exact yes q
        · walk_at "gs"
          exact no q _ fun _ _ h => h
end
end GB
set_option maxHeartbeats 4000000
/-! GL12: the law's own step. -/
namespace GB
open PySem PySem.Spec PyProof.Rows L2
local macro_rules | `(tactic| walk_at "g") => `(tactic| first
  | refine ⟨_, rfl, ?_⟩
  | refine ⟨_, _, rfl, rfl, ?_⟩
  | refine ⟨_, _, _, _, rfl, rfl, SqT.of (by assumption), by rfl, ?_⟩
  | refine ⟨_, _, _, _, rfl, rfl, SqL.of (by assumption), by rfl, ?_⟩
  | refine ⟨_, _, _, _, rfl, rfl, SqL.of (by assumption), atI_nat (by assumption), ?_⟩
  | refine ⟨rfl, ⟨rfl, by decide⟩, ?_⟩
  | refine ⟨_, _, _, _, _, rfl, .ty _, .base (.tup (by assumption)), kt_tup, ?_⟩
  | refine ⟨_, _, _, _, _, rfl, .ty _, .base (.str _), kt_str, ?_⟩
  | refine ⟨_, _, rfl, .inr (SqT.of (by assumption)), ?_⟩
  | refine ⟨_, _, rfl, .inl (SqL.of (by assumption)), ?_⟩
  | refine iteT_of (by first | decide +kernel | rfl) ?_
  | refine iteF_of (by first | decide +kernel | rfl) ?_
  | refine iteT_of (btw_t (by omega)) ?_
  | refine iteF_of (by rw [btw_t (by omega)]; rfl) ?_
  | refine ⟨_, _, rfl, rfl, by assumption, ?_⟩
  | refine ⟨_, _, _, rfl, rfl, by assumption, ?_⟩
  | refine ⟨_, _, _, _, _, rfl, by assumption, Txt.cl (by assumption), by first | exact Txt.no_kept_program (by assumption) | exact Txt.no_kept_policy (by assumption) | exact Txt.no_rows (by assumption) | exact Txt.no_cells (by assumption) | exact Txt.no_makers (by assumption) | exact Txt.no_roots (by assumption) | exact Txt.no_seen (by assumption) | exact Txt.no_made (by assumption) | exact Txt.no_records (by assumption) | exact Txt.no_busy (by assumption), by rfl, ?_⟩
  | refine ⟨_, _, _, rfl, by assumption, by rfl, ?_⟩
  | refine ⟨_, _, _, rfl, ?_⟩
  | refine ⟨_, _, rfl, SqT.of (by assumption), by rfl, ?_⟩
  | refine ⟨_, _, rfl, ?_⟩
  | refine ⟨.inl (by decide), ?_⟩
  | refine ⟨.inl ⟨rfl, _, SqL.of (by assumption)⟩, ?_⟩
  | refine ⟨rfl, ?_⟩)
local macro_rules | `(tactic| walk_at "gs") => `(tactic| repeat walk_at "g")
local macro_rules | `(tactic| walk_at "b") => `(tactic| (first | decide +kernel | (simp only [decide_eq_true_eq, decide_eq_false_iff_not, List.length_map, V.int.injEq, Bool.not_eq_true', Bool.not_eq_false']; omega)))
section
variable {P : Program} {w : World} {K : Frg} {mg : Str → Option Value} {base : Heap}
def sp_l_execute : Sp := fun vs H Q _ => ∃ (ta qa a : Addr) (p : LA) (x : LM) (s : MS) (prog : List Stm) (pol : Pol) (n : Nat) (st : Stm) (M : Nat), vs = [.ref ta, .ref qa, .int n, .ref a] ∧ LSA H a p x ∧ Sim x s ∧ s.recs.length = n ∧ PrV ta H prog ∧ prog[n]? = some st ∧ Fit s st ∧ poV qa H pol ∧ ValQ pol ∧
  LBd s ∧ x.dict.length ≤ M ∧ M ≤ 1000000 ∧ ∀ v H' x', LSA H' a p x' → Sim x' (s.step pol st) → x'.dict.length ≤ M + 806 → Fr (ft a p) H H' → Q v H'
theorem ok_l_execute (T : Txt K mg) : Ok P w K mg base CX0 3 ("_law_execute", none) P_l_execute sp_l_execute := by
  refine Ok.of T.f_l_execute sc_l_execute (fun _ _ _ _ _ _ us hl => match us, hl with | [_, _, _, _], _ => rfl) (fun vs H Q E h => ?_) fun f cdv A outer s H vs Q E hr h => ?_
  · obtain ⟨ta, qa, a, p, x, s, prog, pol, n, st, M, rfl, _⟩ := h
    rfl
  · obtain ⟨ta, qa, a, p, x, s0, prog, pol, n, st, M, rfl, hs, hm0, hn, hp, hst, hfit, hpo, hvq, B, hM, hM2, k⟩ := h
    have hm := hm0.mark
    obtain ⟨pw, hta, hpw⟩ := id hp
    have h0 := hs.top
    obtain ⟨vd, hpn, rvd⟩ := hpw.get (i := n) (d := stD st) (by rw [List.getElem?_map, hst] <;> rfl)
    obtain ⟨td, rfl, htd⟩ := (rp_st _).mp rvd
    have hrv : ∀ {v : Nat}, v < s0.rows.length → x.rows[v]? = some (s0.row v) := fun {v} h1 => by
      rw [hm0.rows]
      show _ = some (s0.rows.getD v row0)
      rw [List.getD_eq_getElem?_getD, List.getElem?_eq_getElem h1] <;> rfl
    have k : ∀ v H' x', LSA H' a p x' → Sim x' (MS.act pol (n : Int) s0.mark st) → x'.dict.length ≤ M + 806 → Fr (ft a p) H H' → Q v H' := by
      rw [← hn]
      exact k
    obtain ⟨rws, hrws, hrr⟩ := id hs.rows
    have hrl : rws.length ≤ 900 := by
      rw [hrr.length, List.length_map, hm0.rows]
      exact B.rows
    have hcm : ((x.makers.map V.int).length : Int) = (s0.cells.length : Int) := by rw [List.length_map, hm0.makers, hm0.cm]
    refine ⟨_, PSs.nox (pss_cons (ps_set (i := 4) sc_l_execute.nd rfl (Or.inl rfl) (pe_ix ix_tup (pv 0) (pv 2) (fun _ _ => rfl)))
      (pss_cons (ps_set (i := 5) sc_l_execute.nd rfl (Or.inl rfl) pe_non)
      (pss_cons (ps_if (pt_cmpR op_eq (pe_ix ix_tup (pv 4) pe_int (fun _ _ => rfl)) pe_str (nomark _))
       (pss_cons (ps_expr (pe_bm PySem.F.plainAttrs_list PySem.F.slot_list_append PySem.F.type_list_append mt_append (pe_ix ix_list (pv 3) pe_int (fun _ _ => rfl)) (pa_cons (pe_tup (pa_cons pe_int (pa_cons (pe_ix ix_tup (pv 4) pe_int (fun _ _ => rfl)) (pa_cons (pe_ix ix_tup (pv 4) pe_int (fun _ _ => rfl)) (pa_cons (pe_callB call_len_seq rfl T.bi.len (by decide +kernel) (pa_cons (pe_ix ix_list (pv 3) pe_int (fun _ _ => rfl)) pa_nil)) pa_nil))))) pa_nil)))
       (pss_cons (ps_expr (pe_bm PySem.F.plainAttrs_list PySem.F.slot_list_append PySem.F.type_list_append mt_append (pe_ix ix_list (pv 3) pe_int (fun _ _ => rfl)) (pa_cons (pv 2) pa_nil)))
       (pss_one (ps_expr (pe_bm PySem.F.plainAttrs_list PySem.F.slot_list_append PySem.F.type_list_append mt_append (pe_ix ix_list (pv 3) pe_int (fun _ _ => rfl)) (pa_cons (pv 2) pa_nil))))))
       pss_nil)
      (pss_cons (ps_if (pt_cmpR op_eq (pe_ix ix_tup (pv 4) pe_int (fun _ _ => rfl)) pe_str (nomark _))
       (pss_cons (ps_asg (pe_ix ix_list (pe_ix ix_list (pv 3) pe_int (fun _ _ => rfl)) (pe_ix ix_tup (pv 4) pe_int (fun _ _ => rfl)) (fun _ _ => rfl)) (pg_tup rfl (pgs_cons (pg_name (i := 6) sc_l_execute.nd rfl (Or.inl rfl)) (pgs_cons (pg_name (i := 7) sc_l_execute.nd rfl (Or.inl rfl)) (pgs_cons (pg_name (i := 8) sc_l_execute.nd rfl (Or.inl rfl)) (pgs_cons (pg_name (i := 9) sc_l_execute.nd rfl (Or.inl rfl)) pgs_nil))))))
       (pss_cons (ps_if (pt_cmpR op_notN (pv 8) pe_non (nomark _))
        (pss_one (ps_set (i := 8) sc_l_execute.nd rfl (Or.inl rfl) (pe_op op_sub (pv 8) (pe_ix ix_tup (pv 4) pe_int (fun _ _ => rfl)))))
        pss_nil)
       (pss_one (ps_expr (pe_bm PySem.F.plainAttrs_list PySem.F.slot_list_append PySem.F.type_list_append mt_append (pe_ix ix_list (pv 3) pe_int (fun _ _ => rfl)) (pa_cons (pe_tup (pa_cons (pe_op op_add (pv 6) (pe_ix ix_tup (pv 4) pe_int (fun _ _ => rfl))) (pa_cons (pe_op op_sub (pe_ix ix_tup (pv 4) pe_int (fun _ _ => rfl)) (pe_ix ix_tup (pv 4) pe_int (fun _ _ => rfl))) (pa_cons (pv 8) (pa_cons (pv 9) pa_nil))))) pa_nil))))))
       pss_nil)
      (pss_cons (ps_if (pt_cmpR op_eq (pe_ix ix_tup (pv 4) pe_int (fun _ _ => rfl)) pe_str (nomark _))
       (pss_cons (ps_asg (pe_ix ix_list (pe_ix ix_list (pv 3) pe_int (fun _ _ => rfl)) (pe_ix ix_tup (pv 4) pe_int (fun _ _ => rfl)) (fun _ _ => rfl)) (pg_tup rfl (pgs_cons (pg_name (i := 6) sc_l_execute.nd rfl (Or.inl rfl)) (pgs_cons (pg_name (i := 7) sc_l_execute.nd rfl (Or.inl rfl)) (pgs_cons (pg_name (i := 8) sc_l_execute.nd rfl (Or.inl rfl)) (pgs_cons (pg_name (i := 9) sc_l_execute.nd rfl (Or.inl rfl)) pgs_nil))))))
       (pss_one (ps_expr (pe_bm PySem.F.plainAttrs_list PySem.F.slot_list_append PySem.F.type_list_append mt_append (pe_ix ix_list (pv 3) pe_int (fun _ _ => rfl)) (pa_cons (pe_tup (pa_cons (pv 6) (pa_cons (pv 7) (pa_cons (pv 7) (pa_cons (pv 9) pa_nil))))) pa_nil)))))
       pss_nil)
      (pss_cons (ps_if (pt_lit (pe_ix ix_tup (pv 4) pe_int (fun _ _ => rfl)) (pa_cons pe_str (pa_cons pe_str pa_nil)))
       (pss_one (ps_expr (pf (ok_l_append T) T.g_l_append hr rfl pass0 (pa_cons (pv 0) (pa_cons (pv 1) (pa_cons (pv 2) (pa_cons (pv 3) pa_nil)))))))
       pss_nil)
      (pss_cons (ps_if (pt_lit (pe_ix ix_tup (pv 4) pe_int (fun _ _ => rfl)) (pa_cons pe_str (pa_cons pe_str pa_nil)))
       (pss_cons (ps_asg (pe_slice sl_tup (pv 4) (po_some (pe_un un_neg pe_int)) po_none) (pg_tup rfl (pgs_cons (pg_name (i := 10) sc_l_execute.nd rfl (Or.inl rfl)) (pgs_cons (pg_name (i := 11) sc_l_execute.nd rfl (Or.inl rfl)) pgs_nil))))
       (pss_cons (ps_expr (pe_bm PySem.F.plainAttrs_list PySem.F.slot_list_append PySem.F.type_list_append mt_append (pe_ix ix_list (pv 3) pe_int (fun _ _ => rfl)) (pa_cons (pf (ok_l_at T) T.g_l_at hr rfl pass0 (pa_cons (pv 3) (pa_cons (pe_ix ix_tup (pe_ix ix_list (pe_ix ix_list (pv 3) pe_int (fun _ _ => rfl)) (pv 10) (fun _ _ => rfl)) pe_int (fun _ _ => rfl)) (pa_cons (pe_op op_add (pe_ix ix_tup (pe_ix ix_list (pe_ix ix_list (pv 3) pe_int (fun _ _ => rfl)) (pv 10) (fun _ _ => rfl)) pe_int (fun _ _ => rfl)) (pv 11)) pa_nil)))) pa_nil)))
       (pss_one (ps_set (i := 5) sc_l_execute.nd rfl (Or.inl rfl) (pe_ix ix_tup (pe_ix ix_list (pe_ix ix_list (pv 3) pe_int (fun _ _ => rfl)) (pe_un un_neg pe_int) (fun _ _ => rfl)) pe_int (fun _ _ => rfl))))))
       pss_nil)
      (pss_cons (ps_if (pt_lit (pe_ix ix_tup (pv 4) pe_int (fun _ _ => rfl)) (pa_cons pe_str (pa_cons pe_str pa_nil)))
       (pss_cons (ps_set (i := 12) sc_l_execute.nd rfl (Or.inl rfl) (pe_ix ix_list (pe_ix ix_list (pv 3) pe_int (fun _ _ => rfl)) (pe_ix ix_tup (pv 4) pe_int (fun _ _ => rfl)) (fun _ _ => rfl)))
       (pss_one (ps_dput (hu_of hr) (pe_ix ix_list (pv 3) pe_int (fun _ _ => rfl)) (pe_tup (pa_cons (pe_ix ix_tup (pv 12) pe_int (fun _ _ => rfl)) (pa_cons (pe_op op_add (pe_ix ix_tup (pv 12) pe_int (fun _ _ => rfl)) (pe_ix ix_tup (pv 4) pe_int (fun _ _ => rfl))) pa_nil))) (pe_tup (pa_cons (pv 2) (pa_cons (pe_ix ix_list (pe_lst (pa_cons (pv 5) (pa_cons (pe_ix ix_tup (pv 4) pe_int (fun _ _ => rfl)) pa_nil))) (pe_callTy call_int1 rfl T.bi.int (by decide +kernel) (pa_cons (pe_cmpR op_eq (pe_ix ix_tup (pv 4) pe_int (fun _ _ => rfl)) pe_str (nomark _)) pa_nil)) (fun _ _ => rfl)) pa_nil))) rfl)))
       pss_nil)
      (pss_one (ps_ret (pv 5))))))))))), ?_⟩
    walk_at "gs"
    refine ⟨_, _, _, .ref td, rfl, rfl, SqT.of hta, atI_nat hpn, ?_⟩
    cases st with
    | make l c =>
      have htd : H td = _ := htd
      have hmk := hs.makers
      walk_at "gs"
      refine ⟨szk (n := 4) (by decide), fun t ht => ?_⟩
      have s3 := Same.new (o := .tup [.int 0, .int l, .int c, .int ((x.makers.map V.int).length : Int)]) ht
      have hs3 := hs.same s3
      refine ⟨p.r, rws, _, rfl, rfl, s3 _ _ hrws, lt_line (by omega), ?_⟩
      have hs4 := hs3.pushRow (r := ⟨0, l, some c, s0.cells.length⟩) (s3 _ _ hrws) ((rp_row _).mpr ⟨t, rfl, by rw [← hcm]; exact upd_same⟩)
      have f4 := (Fr.of (W := ft a p) s3).trans (hs3.frt (y := p.r) (o := .lst (rws ++ [.ref t])) (.inr (.inl rfl))) fun _ h => .inl h
      generalize upd (upd H t (.tup [.int 0, .int l, .int c, .int ((x.makers.map V.int).length : Int)])) p.r (.lst (rws ++ [.ref t])) = H4 at hs4 f4 ⊢
      clear h0 hmk hs3 s3
      have h0 := hs4.top
      have hmk : H4 p.mr = some (.lst (x.makers.map .int)) := hs4.makers
      walk_at "gs"
      refine ⟨lt_line (by have := B.cells; omega), ?_⟩
      have hs5 := hs4.pushMaker (n : Int)
      have f5 := f4.trans (hs4.frt (y := p.mr) (o := .lst (x.makers.map .int ++ [.int (n : Int)])) (.inr (.inr (.inr (.inl rfl))))) fun _ h => .inl h
      have e4 : (LM.makers { x with rows := x.rows ++ [⟨0, l, some c, s0.cells.length⟩] }) = x.makers := rfl
      rw [e4] at hs5
      generalize upd H4 p.mr (.lst (x.makers.map .int ++ [.int (n : Int)])) = H5 at hs5 f5 ⊢
      clear h0 hmk hs4
      have h0 := hs5.top
      have hrt : H5 p.rt = some (.lst (x.roots.map .int)) := hs5.roots
      walk_at "gs"
      refine ⟨lt_line (by rw [List.length_map, hm0.roots, ← hm0.cr]; have := B.cells; omega), ?_⟩
      have hs6 := hs5.pushRoot (n : Int)
      have f6 := f5.trans (hs5.frt (y := p.rt) (o := .lst (x.roots.map .int ++ [.int (n : Int)])) (.inr (.inr (.inr (.inr (.inl rfl)))))) fun _ h => .inl h
      have e5 : (LM.roots { x with rows := x.rows ++ [⟨0, l, some c, s0.cells.length⟩], makers := x.makers ++ [(n : Int)] }) = x.roots := rfl
      rw [e5] at hs6
      generalize upd H5 p.rt (.lst (x.roots.map .int ++ [.int (n : Int)])) = H6 at hs6 f6 ⊢
      have htd6 := f6.tup htd
      clear h0 hrt hs5 htd
      walk_at "gs"
      exact k _ H6 _ hs6 ((hm.make (n : Int)).view ⟨0, l, some c, s0.cells.length⟩) (by show x.dict.length ≤ _; omega) f6
    | slice v lo hi =>
      have htd : H td = _ := htd
      obtain ⟨ws, ra, hw, hwv, hra, hwl⟩ := hs.rowAt (hrv hfit)
      rw [hrws] at hw
      cases hw
      cases hc : (s0.row v).c with
      | none =>
        rw [hc] at hra
        have hra : H ra = some (.tup [.int (s0.row v).s, .int (s0.row v).l, .non, .int (s0.row v).b]) := hra
        walk_at "gs"
        refine ⟨szk (n := 4) (by decide), fun t ht => ?_⟩
        have s3 := Same.new (o := .tup [.int ((s0.row v).s + lo), .int (hi - lo), .non, .int (s0.row v).b]) ht
        have hs3 := hs.same s3
        refine ⟨p.r, rws, _, rfl, rfl, s3 _ _ hrws, lt_line (by omega), ?_⟩
        have hs4 := hs3.pushRow (r := ⟨(s0.row v).s + lo, hi - lo, none, (s0.row v).b⟩) (s3 _ _ hrws) ((rp_row _).mpr ⟨t, rfl, upd_same⟩)
        have f4 := (Fr.of (W := ft a p) s3).trans (hs3.frt (y := p.r) (o := .lst (rws ++ [.ref t])) (.inr (.inl rfl))) fun _ h => .inl h
        generalize upd (upd H t (.tup [.int ((s0.row v).s + lo), .int (hi - lo), .non, .int (s0.row v).b])) p.r (.lst (rws ++ [.ref t])) = H4 at hs4 f4 ⊢
        have htd4 := f4.tup htd
        clear htd
        walk_at "gs"
        refine k _ H4 _ hs4 ?_ (by show x.dict.length ≤ _; omega) f4
        have z := hm.view ⟨(s0.row v).s + lo, hi - lo, none, (s0.row v).b⟩
        show Sim _ (s0.mark.view ⟨(s0.row v).s + lo, hi - lo, (s0.row v).c.map (· - lo), (s0.row v).b⟩)
        rw [hc]
        exact z
      | some c =>
        rw [hc] at hra
        have hra : H ra = some (.tup [.int (s0.row v).s, .int (s0.row v).l, .int c, .int (s0.row v).b]) := hra
        walk_at "gs"
        refine ⟨szk (n := 4) (by decide), fun t ht => ?_⟩
        have s3 := Same.new (o := .tup [.int ((s0.row v).s + lo), .int (hi - lo), .int (c - lo), .int (s0.row v).b]) ht
        have hs3 := hs.same s3
        refine ⟨p.r, rws, _, rfl, rfl, s3 _ _ hrws, lt_line (by omega), ?_⟩
        have hs4 := hs3.pushRow (r := ⟨(s0.row v).s + lo, hi - lo, some (c - lo), (s0.row v).b⟩) (s3 _ _ hrws) ((rp_row _).mpr ⟨t, rfl, upd_same⟩)
        have f4 := (Fr.of (W := ft a p) s3).trans (hs3.frt (y := p.r) (o := .lst (rws ++ [.ref t])) (.inr (.inl rfl))) fun _ h => .inl h
        generalize upd (upd H t (.tup [.int ((s0.row v).s + lo), .int (hi - lo), .int (c - lo), .int (s0.row v).b])) p.r (.lst (rws ++ [.ref t])) = H4 at hs4 f4 ⊢
        have htd4 := f4.tup htd
        clear htd
        walk_at "gs"
        refine k _ H4 _ hs4 ?_ (by show x.dict.length ≤ _; omega) f4
        have z := hm.view ⟨(s0.row v).s + lo, hi - lo, some (c - lo), (s0.row v).b⟩
        show Sim _ (s0.mark.view ⟨(s0.row v).s + lo, hi - lo, (s0.row v).c.map (· - lo), (s0.row v).b⟩)
        rw [hc]
        exact z
    | clip v =>
      have htd : H td = _ := htd
      obtain ⟨ws, ra, hw, hwv, hra, hwl⟩ := hs.rowAt (hrv hfit)
      rw [hrws] at hw
      cases hw
      walk_at "gs"
      refine ⟨szk (n := 4) (by decide), fun t ht => ?_⟩
      have s3 := Same.new (o := .tup [.int (s0.row v).s, .int (s0.row v).l, .int (s0.row v).l, .int (s0.row v).b]) ht
      have hs3 := hs.same s3
      refine ⟨p.r, rws, _, rfl, rfl, s3 _ _ hrws, lt_line (by omega), ?_⟩
      have hs4 := hs3.pushRow (r := ⟨(s0.row v).s, (s0.row v).l, some (s0.row v).l, (s0.row v).b⟩) (s3 _ _ hrws) ((rp_row _).mpr ⟨t, rfl, upd_same⟩)
      have f4 := (Fr.of (W := ft a p) s3).trans (hs3.frt (y := p.r) (o := .lst (rws ++ [.ref t])) (.inr (.inl rfl))) fun _ h => .inl h
      generalize upd (upd H t (.tup [.int (s0.row v).s, .int (s0.row v).l, .int (s0.row v).l, .int (s0.row v).b])) p.r (.lst (rws ++ [.ref t])) = H4 at hs4 f4 ⊢
      have htd4 := f4.tup htd
      clear htd
      walk_at "gs"
      exact k _ H4 _ hs4 (hm.view ⟨(s0.row v).s, (s0.row v).l, some (s0.row v).l, (s0.row v).b⟩) (by show x.dict.length ≤ _; omega) f4
    | app g v xs =>
      obtain ⟨xa, h1, h2⟩ := htd
      cases g
      · have h1 : H td = some (.tup [.str "append", .int v, .ref xa]) := h1
        walk_at "gs"
        refine ⟨ta, qa, a, p, x, s0.mark, prog, pol, n, false, v, xs, M, rfl, hs, hm, hp, hst, hpo, hvq, hfit.1, hfit.2, B.mark, hM, hM2, fun H4 x4 hs4 hm4 hl4 f4 => ?_⟩
        have htd4 := f4.tup h1
        clear h1
        walk_at "gs"
        exact k _ H4 _ hs4 hm4 hl4 f4
      · have h1 : H td = some (.tup [.str "grow", .int v, .ref xa]) := h1
        walk_at "gs"
        refine ⟨ta, qa, a, p, x, s0.mark, prog, pol, n, true, v, xs, M, rfl, hs, hm, hp, hst, hpo, hvq, hfit.1, hfit.2, B.mark, hM, hM2, fun H4 x4 hs4 hm4 hl4 f4 => ?_⟩
        have htd4 := f4.tup h1
        clear h1
        walk_at "gs"
        exact k _ H4 _ hs4 hm4 hl4 f4
    | write v i y =>
      have htd : H td = _ := htd
      obtain ⟨ws, ra, hw, hwv, hra, hwl⟩ := hs.rowAt (hrv hfit.1)
      rw [hrws] at hw
      cases hw
      walk_at "gs"
      refine ⟨szk (n := 2) (by decide), fun l hl => ?_⟩
      have s3 := Same.new (o := .lst [.non, .int y]) hl
      have hl3 : upd H l (.lst [.non, .int y]) l = some (.lst [.non, .int y]) := upd_same
      generalize upd H l (.lst [.non, .int y]) = H3 at s3 hl3 ⊢
      have htd3 := s3 _ _ htd
      have hra3 := s3 _ _ hra
      walk_at "gs"
      refine .inr ⟨_, rfl, ?_⟩
      walk_at "gs"
      refine ⟨szk (n := 2) (by decide), fun t4 ht4 => ?_⟩
      have s4 := Same.new (o := .tup [.int (n : Int), .int y]) ht4
      have ht4' : upd H3 t4 (.tup [.int (n : Int), .int y]) t4 = some (.tup [.int (n : Int), .int y]) := upd_same
      generalize upd H3 t4 (.tup [.int (n : Int), .int y]) = H4 at s4 ht4' ⊢
      have s34 := Same.trans s3 s4
      have hs4 := hs.same s34
      have htd4 := s34 _ _ htd
      have hra4 := s34 _ _ hra
      clear h0 htd3 hra3
      have h0 := hs4.top
      obtain ⟨kv4, hd4, hk4⟩ := id hs4.dict
      walk_at "gs"
      refine ⟨szk (n := 2) (by decide), fun t5 ht5 => ?_⟩
      have s5 := Same.new (o := .tup [.int (s0.row v).b, .int ((s0.row v).s + i)]) ht5
      have hs5 := hs4.same s5
      refine ⟨_, _, rfl, DPut.t (k := ky (((s0.row v).b : Int), (s0.row v).s + i)) (s5 _ _ hd4) upd_same (lt_line2 ?_), ?_⟩
      · have z1 : kv4.length = x.dict.length := hk4.length
        omega
      · have hs6 := hs5.putDict ((hk4.tp (Same.tp s5)).put (((s0.row v).b : Int), (s0.row v).s + i) (v := .ref t4) (c := ((n : Int), y)) ((rp_ct _).mpr ⟨t4, rfl, s5 _ _ ht4'⟩))
        have f6 := (Fr.of (W := ft a p) (Same.trans s34 s5)).trans (hs5.frt (y := p.d) (o := .dT (putK kv4 (ky (((s0.row v).b : Int), (s0.row v).s + i)) (.ref t4))) (.inr (.inr (.inl rfl)))) fun _ h => .inl h
        walk_at "gs"
        refine k _ _ _ hs6 (hm.put (s0.row v).b ((s0.row v).s + i) ((n : Int), y) hfit.2.1) ?_ f6
        have := gput_length x.dict (((s0.row v).b : Int), (s0.row v).s + i) ((n : Int), y)
        show (gput _ _ _).length ≤ _
        omega
    | move v i u j =>
      have htd : H td = _ := htd
      obtain ⟨ws, ra, hw, hwv, hra, hwl⟩ := hs.rowAt (hrv hfit.1.1)
      rw [hrws] at hw
      cases hw
      obtain ⟨ws, rb, hw, hwu, hrb, _⟩ := hs.rowAt (hrv hfit.2.1)
      rw [hrws] at hw
      cases hw
      walk_at "gs"
      refine ⟨td, _, rfl, SqT.of htd, fun z => absurd z.1 (by show ¬ ((3 : Nat) = 0); omega), fun t1 ht1 => ?_⟩
      have s1 : Same H (upd H t1 (.tup (cutV [.str "move", .int v, .int i, .int u, .int j] (some (-2)) none))) := Same.new ht1
      have ht1' : upd H t1 (.tup (cutV [.str "move", .int v, .int i, .int u, .int j] (some (-2)) none)) t1 = some (.tup [.int u, .int j]) := upd_same
      generalize upd H t1 (.tup (cutV [.str "move", .int v, .int i, .int u, .int j] (some (-2)) none)) = H1 at s1 ht1' ⊢
      have hs1 := hs.same s1
      clear h0
      have h0 := hs1.top
      have hrws1 := s1 _ _ hrws
      have hrb1 := s1 _ _ hrb
      obtain ⟨sw, hsw, hsr⟩ := id hs1.seen
      walk_at "gs"
      refine ⟨a, p, x, (s0.row u).b, (s0.row u).s + j, rfl, hs1, by rw [hm0.roots]; exact hfit.2.2.2, fun y2 H2 s2 ry => ?_⟩
      have e1 : x.at_ (s0.row u).b ((s0.row u).s + j) = s0.look u j := hm0.found _ _
      rw [e1] at ry
      have hs2 := hs1.same s2
      have hsw2 := s2 _ _ hsw
      walk_at "gs"
      refine ⟨lt_line (by rw [hsr.length, List.length_map, hm0.seen]; have := B.seen; omega), ?_⟩
      have hs3 := hs2.pushSeen hsw2 ry
      have f3 := (Fr.of (W := ft a p) (Same.trans s1 s2)).trans (hs2.frt (y := p.se) (o := .lst (sw ++ [y2])) (.inr (.inr (.inr (.inr (.inr (.inl rfl))))))) fun _ h => .inl h
      have hsw3 : upd H2 p.se (.lst (sw ++ [y2])) p.se = some (.lst (sw ++ [y2])) := upd_same
      have ry3 : Rp (upd H2 p.se (.lst (sw ++ [y2]))) y2 (ctD (s0.look u j)) := Rp.tp (hs2.tpt (.inr (.inr (.inr (.inr (.inr (.inl rfl))))))) ry
      generalize upd H2 p.se (.lst (sw ++ [y2])) = H3 at hs3 f3 hsw3 ry3 ⊢
      obtain ⟨ca, rfl, hca⟩ := (rp_ct _).mp ry3
      have htd3 := f3.tup htd
      obtain ⟨rws3, ra3, hrws3, hwv3, hra3, _⟩ := hs3.rowAt (i := v) (r := s0.row v) (hrv hfit.1.1)
      clear h0
      have h0 := hs3.top
      walk_at "gs"
      refine ⟨_, _, _, _, rfl, rfl, SqL.of hsw3, atI_last _ _, ?_⟩
      walk_at "gs"
      refine ⟨szk (n := 2) (by decide), fun l hl => ?_⟩
      have s4 := Same.new (o := .lst [.int (s0.look u j).2, .int u]) hl
      have hl4 : upd H3 l (.lst [.int (s0.look u j).2, .int u]) l = some (.lst [.int (s0.look u j).2, .int u]) := upd_same
      generalize upd H3 l (.lst [.int (s0.look u j).2, .int u]) = H4 at s4 hl4 ⊢
      have htd4 := s4 _ _ htd3
      have hra4 := s4 _ _ hra3
      clear htd3 hra3
      walk_at "gs"
      refine .inr ⟨_, rfl, ?_⟩
      walk_at "gs"
      refine ⟨szk (n := 2) (by decide), fun t4 ht4 => ?_⟩
      have s5 := Same.new (o := .tup [.int (n : Int), .int (s0.look u j).2]) ht4
      have ht4' : upd H4 t4 (.tup [.int (n : Int), .int (s0.look u j).2]) t4 = some (.tup [.int (n : Int), .int (s0.look u j).2]) := upd_same
      generalize upd H4 t4 (.tup [.int (n : Int), .int (s0.look u j).2]) = H5 at s5 ht4' ⊢
      have hs5 := hs3.same (Same.trans s4 s5)
      have htd5 := s5 _ _ htd4
      have hra5 := s5 _ _ hra4
      clear h0 htd4 hra4
      have h0 := hs5.top
      obtain ⟨kv4, hd4, hk4⟩ := id hs5.dict
      walk_at "gs"
      refine ⟨szk (n := 2) (by decide), fun t6 ht6 => ?_⟩
      have s6 := Same.new (o := .tup [.int (s0.row v).b, .int ((s0.row v).s + i)]) ht6
      have hs6 := hs5.same s6
      refine ⟨_, _, rfl, DPut.t (k := ky (((s0.row v).b : Int), (s0.row v).s + i)) (s6 _ _ hd4) upd_same (lt_line2 ?_), ?_⟩
      · have z1 : kv4.length = x.dict.length := hk4.length
        omega
      · have hs7 := hs6.putDict ((hk4.tp (Same.tp s6)).put (((s0.row v).b : Int), (s0.row v).s + i) (v := .ref t4) (c := ((n : Int), (s0.look u j).2)) ((rp_ct _).mpr ⟨t4, rfl, s6 _ _ ht4'⟩))
        have f7 := ((f3.trans (Fr.of (W := ft a p) (Same.trans s4 (Same.trans s5 s6))) fun _ h => .inl h)).trans (hs6.frt (y := p.d) (o := .dT (putK kv4 (ky (((s0.row v).b : Int), (s0.row v).s + i)) (.ref t4))) (.inr (.inr (.inl rfl)))) fun _ h => .inl h
        walk_at "gs"
        refine k _ _ _ hs7 ((hm.see (s0.look u j)).put (s0.row v).b ((s0.row v).s + i) ((n : Int), (s0.look u j).2) hfit.1.2.1) ?_ f7
        have := gput_length x.dict (((s0.row v).b : Int), (s0.row v).s + i) ((n : Int), (s0.look u j).2)
        show (gput x.dict (((s0.row v).b : Int), (s0.row v).s + i) ((n : Int), (s0.look u j).2)).length ≤ _
        omega
    | read u j =>
      have htd : H td = _ := htd
      obtain ⟨ws, rb, hw, hwu, hrb, _⟩ := hs.rowAt (hrv hfit.1)
      rw [hrws] at hw
      cases hw
      walk_at "gs"
      refine ⟨td, _, rfl, SqT.of htd, fun z => absurd z.1 (by show ¬ ((1 : Nat) = 0); omega), fun t1 ht1 => ?_⟩
      have s1 : Same H (upd H t1 (.tup (cutV [.str "read", .int u, .int j] (some (-2)) none))) := Same.new ht1
      have ht1' : upd H t1 (.tup (cutV [.str "read", .int u, .int j] (some (-2)) none)) t1 = some (.tup [.int u, .int j]) := upd_same
      generalize upd H t1 (.tup (cutV [.str "read", .int u, .int j] (some (-2)) none)) = H1 at s1 ht1' ⊢
      have hs1 := hs.same s1
      clear h0
      have h0 := hs1.top
      have hrws1 := s1 _ _ hrws
      have hrb1 := s1 _ _ hrb
      obtain ⟨sw, hsw, hsr⟩ := id hs1.seen
      walk_at "gs"
      refine ⟨a, p, x, (s0.row u).b, (s0.row u).s + j, rfl, hs1, by rw [hm0.roots]; exact hfit.2.2, fun y2 H2 s2 ry => ?_⟩
      have e1 : x.at_ (s0.row u).b ((s0.row u).s + j) = s0.look u j := hm0.found _ _
      rw [e1] at ry
      have hs2 := hs1.same s2
      have hsw2 := s2 _ _ hsw
      walk_at "gs"
      refine ⟨lt_line (by rw [hsr.length, List.length_map, hm0.seen]; have := B.seen; omega), ?_⟩
      have hs3 := hs2.pushSeen hsw2 ry
      have f3 := (Fr.of (W := ft a p) (Same.trans s1 s2)).trans (hs2.frt (y := p.se) (o := .lst (sw ++ [y2])) (.inr (.inr (.inr (.inr (.inr (.inl rfl))))))) fun _ h => .inl h
      have hsw3 : upd H2 p.se (.lst (sw ++ [y2])) p.se = some (.lst (sw ++ [y2])) := upd_same
      have ry3 : Rp (upd H2 p.se (.lst (sw ++ [y2]))) y2 (ctD (s0.look u j)) := Rp.tp (hs2.tpt (.inr (.inr (.inr (.inr (.inr (.inl rfl))))))) ry
      generalize upd H2 p.se (.lst (sw ++ [y2])) = H3 at hs3 f3 hsw3 ry3 ⊢
      obtain ⟨ca, rfl, hca⟩ := (rp_ct _).mp ry3
      have htd3 := f3.tup htd
      clear h0
      have h0 := hs3.top
      walk_at "gs"
      refine ⟨_, _, _, _, rfl, rfl, SqL.of hsw3, atI_last _ _, ?_⟩
      walk_at "gs"
      exact k _ H3 _ hs3 (hm.see (s0.look u j)) (by show x.dict.length ≤ _; omega) f3
end
end GB
set_option maxHeartbeats 4000000
/-! GL13: the law's state behind so many statements. -/
namespace GB
open PySem PySem.Spec PyProof.Rows L2
local macro_rules | `(tactic| walk_at "g") => `(tactic| first
  | refine ⟨_, rfl, ?_⟩
  | refine ⟨_, _, rfl, rfl, ?_⟩
  | refine ⟨_, _, _, _, rfl, rfl, SqT.of (by assumption), by rfl, ?_⟩
  | refine ⟨_, _, _, _, rfl, rfl, SqL.of (by assumption), by rfl, ?_⟩
  | refine ⟨_, _, _, _, rfl, rfl, SqL.of (by assumption), atI_nat (by assumption), ?_⟩
  | refine ⟨rfl, ⟨rfl, by decide⟩, ?_⟩
  | refine ⟨_, _, _, _, _, rfl, .ty _, .base (.tup (by assumption)), kt_tup, ?_⟩
  | refine ⟨_, _, _, _, _, rfl, .ty _, .base (.str _), kt_str, ?_⟩
  | refine ⟨_, _, rfl, .inr (SqT.of (by assumption)), ?_⟩
  | refine ⟨_, _, rfl, .inl (SqL.of (by assumption)), ?_⟩
  | refine iteT_of (by first | decide +kernel | rfl) ?_
  | refine iteF_of (by first | decide +kernel | rfl) ?_
  | refine iteT_of (btw_t (by omega)) ?_
  | refine iteF_of (by rw [btw_t (by omega)]; rfl) ?_
  | refine ⟨_, _, rfl, rfl, by assumption, ?_⟩
  | refine ⟨_, _, _, rfl, rfl, by assumption, ?_⟩
  | refine ⟨_, _, _, _, _, rfl, by assumption, Txt.cl (by assumption), by first | exact Txt.no_kept_program (by assumption) | exact Txt.no_kept_policy (by assumption) | exact Txt.no_rows (by assumption) | exact Txt.no_cells (by assumption) | exact Txt.no_makers (by assumption) | exact Txt.no_roots (by assumption) | exact Txt.no_seen (by assumption) | exact Txt.no_made (by assumption) | exact Txt.no_records (by assumption) | exact Txt.no_busy (by assumption), by rfl, ?_⟩
  | refine ⟨_, _, _, rfl, by assumption, by rfl, ?_⟩
  | refine ⟨_, _, _, rfl, ?_⟩
  | refine ⟨_, _, rfl, SqT.of (by assumption), by rfl, ?_⟩
  | refine ⟨_, _, rfl, ?_⟩
  | refine ⟨.inl (by decide), ?_⟩
  | refine ⟨.inl ⟨rfl, _, SqL.of (by assumption)⟩, ?_⟩
  | refine ⟨rfl, ?_⟩)
local macro_rules | `(tactic| walk_at "gs") => `(tactic| repeat walk_at "g")
local macro_rules | `(tactic| walk_at "b") => `(tactic| (first | decide +kernel | (simp only [decide_eq_true_eq, decide_eq_false_iff_not, List.length_map, V.int.injEq, Bool.not_eq_true', Bool.not_eq_false']; omega)))
theorem Sim.zero : Sim LM.zero MS.zero where
  rows := rfl
  makers := rfl
  roots := rfl
  seen := rfl
  made := rfl
  cm := rfl
  cr := rfl
  get := fun b p => rfl
  key := fun e he => by cases he
  nd := NdK.nil
theorem Same.of_fr {W : Addr → Prop} {H H1 H2 : Hp} (s : Same H H1) (f : Fr W H1 H2) (n : ∀ y, W y → H y = none) : Same H H2 := fun a o e => f.at_ (s a o e) fun z => by
  rw [n a z] at e
  cases e
section
variable {P : Program} {w : World} {K : Frg} {mg : Str → Option Value} {base : Heap}
def sp_l_state : Sp := fun vs H Q _ => ∃ (ta qa : Addr) (prog : List Stm) (pol : Pol) (n : Nat), vs = [.ref ta, .ref qa, .int n] ∧ PrV ta H prog ∧ poV qa H pol ∧ Gd pol prog ∧ n ≤ prog.length ∧
  ∀ a p x H', LSA H' a p x → Sim x (GS pol prog n) → Same H H' → (∀ y, ft a p y → H y = none) → Q (.ref a) H'
theorem ok_l_state (T : Txt K mg) : Ok P w K mg base CX0 4 ("_law_state", none) P_l_state sp_l_state := by
  refine Ok.of T.f_l_state sc_l_state (fun _ _ _ _ _ _ us hl => match us, hl with | [_, _, _], _ => rfl) (fun vs H Q E h => ?_) fun f cdv A outer s H vs Q E hr h => ?_
  · obtain ⟨ta, qa, prog, pol, n, rfl, _⟩ := h
    rfl
  · obtain ⟨ta, qa, prog, pol, n, rfl, hp, hpo, G, hn, k⟩ := h
    have h60 := G.h60
    refine ⟨_, PSs.nox (pss_cons (ps_set (i := 3) sc_l_state.nd rfl (Or.inl rfl) (pf0 (ok_l_fresh T) T.g_l_fresh hr rfl pass0))
      (pss_cons (ps_for PassesOwn.never rfl (pi_range1 rfl T.bi.range (pa_cons (pv 2) pa_nil)) (pg_name (i := 4) sc_l_state.nd rfl (Or.inl rfl))
       (pss_one (ps_expr (pf (ok_l_execute T) T.g_l_execute hr rfl pass0 (pa_cons (pv 0) (pa_cons (pv 1) (pa_cons (pv 4) (pa_cons (pv 3) pa_nil))))))))
      (pss_one (ps_ret (pv 3))))), ?_⟩
    walk_at "gs"
    refine fun a p H1 hs0 sm hno => ?_
    walk_at "gs"
    refine ⟨by omega, by omega, ?_⟩
    refine for_range (n := n) (fun i σ H2 => ∃ x4 x, σ = [some (.ref ta), some (.ref qa), some (.int n), some (.ref a), x4] ∧ LSA H2 a p x ∧ Sim x (GS pol prog i) ∧ x.dict.length ≤ 806 * i ∧ Fr (ft a p) H1 H2) ⟨none, _, rfl, hs0, Sim.zero, Nat.le_refl _, Fr.refl _ _⟩ (fun i σ H2 hi pv => ?_) fun σ H2 pv => ?_
    · obtain ⟨x4, x, rfl, hs, hm, hl, f⟩ := pv
      have hst : prog[i]? = some prog[i] := List.getElem?_eq_getElem (by omega)
      walk_at "gs"
      rw [Int.zero_add]
      refine ⟨ta, qa, a, p, x, GS pol prog i, prog, pol, i, _, 806 * i, rfl, hs, hm, G.recs i (by omega), (hp.tp (Same.tp sm)).tp f.tp, hst, G.fit i _ hst, (hpo.tp (Same.tp sm)).tp f.tp, G.vq, (G.bd i).l, hl, by omega, fun v H3 x3 hs3 hm3 hl3 f3 => ?_⟩
      refine ⟨_, x3, rfl, hs3, ?_, by omega, f.trans f3 fun _ h => .inl h⟩
      rw [GS_succ hst]
      exact hm3
    · obtain ⟨x4, x, rfl, hs, hm, hl, f⟩ := pv
      have hft : ∀ y, ft a p y → H y = none := fun y hy => hno y (by
        rcases hy with h | h | h | h | h | h | h <;> simp [h])
      walk_at "gs"
      exact k a p x H2 hs hm (Same.of_fr sm f hft) hft
end
end GB
set_option maxHeartbeats 4000000
/-! GRep: repr of nested lists and tuples of ints, where the guards are known. -/
namespace GB
open PySem PySem.Spec PyProof.Rows L2
/-- a nested datum -/
inductive T where
  | n | i (z : Int) | l (ts : List T) | u (ts : List T)
mutual
def RT (H : Hp) : V → T → Prop
  | v, .n => v = .non
  | v, .i z => v = .int z
  | v, .l ts => ∃ (a : Addr) (vs : List V), v = .ref a ∧ H a = some (.lst vs) ∧ RTA H vs ts
  | v, .u ts => ∃ (a : Addr) (vs : List V), v = .ref a ∧ H a = some (.tup vs) ∧ RTA H vs ts
def RTA (H : Hp) : List V → List T → Prop
  | vs, [] => vs = []
  | vs, d :: ds => ∃ (v : V) (r : List V), vs = v :: r ∧ RT H v d ∧ RTA H r ds
end
mutual
def T.py : T → PyData
  | .n => .none
  | .i z => .int z
  | .l ts => .list (T.pyA ts)
  | .u ts => .tuple (T.pyA ts)
def T.pyA : List T → List PyData
  | [] => []
  | t :: r => T.py t :: T.pyA r
end
mutual
/-- ints below 10^50 -/
def T.Sm : T → Prop
  | .n => True
  | .i z => z.natAbs < 10 ^ 50
  | .l ts => T.SmA ts
  | .u ts => T.SmA ts
def T.SmA : List T → Prop
  | [] => True
  | t :: r => T.Sm t ∧ T.SmA r
end
mutual
/-- how much -/
def T.wt : T → Nat
  | .n => 0
  | .i _ => 170
  | .l ts => T.wtA ts
  | .u ts => T.wtA ts
def T.wtA : List T → Nat
  | [] => 0
  | t :: r => T.wt t + 1 + T.wtA r
end
mutual
def T.dp : T → Nat
  | .n => 0
  | .i _ => 0
  | .l ts => T.dpA ts + 1
  | .u ts => T.dpA ts + 1
def T.dpA : List T → Nat
  | [] => 0
  | t :: r => max (T.dp t) (T.dpA r)
end
theorem log_of {z : Int} (h : z.natAbs < 10 ^ 50) : z.natAbs.log2 < 1920 := by
  by_cases q : z.natAbs = 0
  · rw [q]; decide
  · rw [Nat.log2_lt q]
    exact Nat.lt_trans h (by decide +kernel)
theorem sh_int {z : Int} (h : z.natAbs < 10 ^ 50) : (PyData.shown (.int z)).length ≤ 51 := by
  have := int_text_length_le10 (a := z) (k := 50) (by decide) h
  show (Str.ofString (toString z)).length ≤ 51
  rw [PySem.ofString_length]
  exact this
mutual
theorem T.show_ok : ∀ {t : T}, t.Sm → t.py.showable = true ∧ t.py.hasDict = false ∧ t.py.leavesShort 60 = true
  | .n, _ => by simp only [T.py, PyData.showable, PyData.hasDict, PyData.leavesShort, and_self]
  | .i z, h => by
    have h : z.natAbs < 10 ^ 50 := by simpa only [T.Sm] using h
    simp only [T.py, PyData.showable, PyData.hasDict, PyData.leavesShort, decide_eq_true_eq]
    exact ⟨log_of h, trivial, Nat.le_trans (sh_int h) (by decide)⟩
  | .l ts, h => by
    have h : T.SmA ts := by simpa only [T.Sm] using h
    simp only [T.py, PyData.showable, PyData.hasDict, PyData.leavesShort]
    exact T.show_okA h
  | .u ts, h => by
    have h : T.SmA ts := by simpa only [T.Sm] using h
    simp only [T.py, PyData.showable, PyData.hasDict, PyData.leavesShort]
    exact T.show_okA h
theorem T.show_okA : ∀ {ts : List T}, T.SmA ts → PyData.showableAll (T.pyA ts) = true ∧ PyData.hasDictAll (T.pyA ts) = false ∧ PyData.leavesShortAll 60 (T.pyA ts) = true
  | [], _ => by simp only [T.pyA, PyData.showableAll, PyData.hasDictAll, PyData.leavesShortAll, and_self]
  | t :: r, h => by
    obtain ⟨h1, h2⟩ : t.Sm ∧ T.SmA r := by simpa only [T.SmA] using h
    obtain ⟨a1, a2, a3⟩ := T.show_ok h1
    obtain ⟨b1, b2, b3⟩ := T.show_okA h2
    simp only [T.pyA, PyData.showableAll, PyData.hasDictAll, PyData.leavesShortAll, a1, a2, a3, b1, b2, b3, Bool.and_self, Bool.or_self, and_self]
end
mutual
theorem T.wt_py : ∀ {t : T}, t.Sm → t.py.weight ≤ t.wt
  | .n, _ => by simp only [T.py, T.wt, PyData.weight, Nat.le_refl]
  | .i z, h => by
    have h : z.natAbs < 10 ^ 50 := by simpa only [T.Sm] using h
    simp only [T.py, T.wt, PyData.weight]
    split
    · omega
    · rename_i q
      have q : z.natAbs ≠ 0 := fun e => q (by rw [Int.natAbs_eq_zero.mp e]; rfl)
      have : z.natAbs.log2 < 167 := by
        rw [Nat.log2_lt q]
        exact Nat.lt_trans h (by decide +kernel)
      omega
  | .l ts, h => by simp only [T.py, T.wt, PyData.weight]; exact T.wt_pyA (by simpa only [T.Sm] using h)
  | .u ts, h => by simp only [T.py, T.wt, PyData.weight]; exact T.wt_pyA (by simpa only [T.Sm] using h)
theorem T.wt_pyA : ∀ {ts : List T}, T.SmA ts → PyData.weightAll (T.pyA ts) ≤ T.wtA ts
  | [], _ => by simp only [T.pyA, T.wtA, PyData.weightAll, Nat.le_refl]
  | t :: r, h => by
    obtain ⟨h1, h2⟩ : t.Sm ∧ T.SmA r := by simpa only [T.SmA] using h
    have z1 := T.wt_py h1
    have z2 := T.wt_pyA h2
    simp only [T.pyA, T.wtA, PyData.weightAll]
    omega
end
mutual
theorem T.dp_py : ∀ t : T, t.py.depth = t.dp
  | .n => by simp only [T.py, T.dp, PyData.depth]
  | .i z => by simp only [T.py, T.dp, PyData.depth]
  | .l ts => by simp only [T.py, T.dp, PyData.depth, T.dp_pyA ts]
  | .u ts => by simp only [T.py, T.dp, PyData.depth, T.dp_pyA ts]
theorem T.dp_pyA : ∀ ts : List T, PyData.depthAll (T.pyA ts) = T.dpA ts
  | [] => by simp only [T.pyA, T.dpA, PyData.depthAll]
  | t :: r => by simp only [T.pyA, T.dpA, PyData.depthAll, T.dp_py t, T.dp_pyA r]
end
theorem T.fits {t : T} (h : t.Sm) (hw : t.wt ≤ 250000) : t.py.shown.length ≤ sizeLine := by
  have z := PyData.shown_le 60 (by decide) t.py (T.show_ok h).2.2
  have z2 := T.wt_py h
  rw [sizeLine_eq]
  omega
section
variable {P : Program} {w : World} {H : Hp} {h : Heap}
mutual
theorem RT.reads (ok : HOk P w H h) : ∀ {t : T} {v : V} {u : Value}, RT H v t → RelV v u → ∃ as, Reads h u t.py as
  | .n, v, u, r, q => by
    have r : v = .non := by simpa only [RT] using r
    subst r
    have q : u = .none := q
    subst q
    exact ⟨[], by simp only [T.py]; exact .none⟩
  | .i z, v, u, r, q => by
    have r : v = .int z := by simpa only [RT] using r
    subst r
    obtain ⟨t, rfl⟩ : ∃ t, u = .int z t := q
    exact ⟨[], by simp only [T.py]; exact .int z t⟩
  | .l ts, v, u, r, q => by
    obtain ⟨a, vs, rfl, ha, hs⟩ : ∃ (a : Addr) (vs : List V), v = .ref a ∧ H a = some (.lst vs) ∧ RTA H vs ts := by simpa only [RT] using r
    have q : u = .ref a := q
    subst q
    obtain ⟨_, its, n, hv, hg⟩ := (show ObjOk P w H h a (.lst vs) from ok a _ ha)
    obtain ⟨as, hr⟩ := RTA.reads ok hs hv
    exact ⟨a :: as, by simp only [T.py]; exact .list hg rfl rfl (by simpa using hr)⟩
  | .u ts, v, u, r, q => by
    obtain ⟨a, vs, rfl, ha, hs⟩ : ∃ (a : Addr) (vs : List V), v = .ref a ∧ H a = some (.tup vs) ∧ RTA H vs ts := by simpa only [RT] using r
    have q : u = .ref a := q
    subst q
    obtain ⟨_, its, hv, o, hg, hc, n, hd⟩ := (show ObjOk P w H h a (.tup vs) from ok a _ ha)
    obtain ⟨as, hr⟩ := RTA.reads ok hs hv
    exact ⟨as, by simp only [T.py]; exact .tuple hg hc hd (by simpa using hr)⟩
theorem RTA.reads (ok : HOk P w H h) : ∀ {ts : List T} {vs : List V} {us : List Value}, RTA H vs ts → Vals vs us → ∃ as, ReadsAll h us (T.pyA ts) as
  | [], vs, us, r, q => by
    have r : vs = [] := by simpa only [RTA] using r
    subst r
    cases q
    exact ⟨[], by simp only [T.pyA]; exact .nil⟩
  | t :: ts, vs, us, r, q => by
    obtain ⟨v, r', rfl, h1, h2⟩ : ∃ (v : V) (r' : List V), vs = v :: r' ∧ RT H v t ∧ RTA H r' ts := by simpa only [RTA] using r
    cases q with
    | cons q1 q2 =>
      obtain ⟨as, g1⟩ := RT.reads ok h1 q1
      obtain ⟨bs, g2⟩ := RTA.reads ok h2 q2
      exact ⟨as ++ bs, by simp only [T.pyA]; exact .cons g1 g2⟩
end
end
/-- repr(x) of such a datum -/
theorem call_reprT {X : Cx} (hg : X.A.guards = some []) (hr : ∃ k, Room k X.A) : CallR X (.builtin "repr") (fun xs H Q => ∃ (a : Addr) (t : T), xs = [.ref a] ∧ RT H (.ref a) t ∧ t.Sm ∧ t.wt ≤ 250000 ∧ t.dp ≤ 20 ∧ Q (.str t.py.shown) H) := by
  intro pins s σ H xs us Q I r h
  obtain ⟨a, t, rfl, ht, hsm, hw, hd, q⟩ := h
  obtain ⟨u, rfl, rx⟩ := r.one
  cases rx
  obtain ⟨as, rd⟩ := RT.reads I.hok ht (show RelV (.ref a) (.ref a) from rfl)
  obtain ⟨s1, s2, s3⟩ := T.show_ok hsm
  obtain ⟨k, hr⟩ := hr
  refine repr_of_reads' rd s1 (PyData.noDict_hsm s2) hg (by rw [T.dp_py]; have := hr.un; omega) (fun _ _ e => e) (fun h' u tk hk => ?_) (T.fits hsm hw)
  exact ⟨.str t.py.shown, H, I.kept (t' := tk) hk, ⟨u, rfl⟩, q⟩
end GB
set_option maxHeartbeats 4000000
/-! GG: defs that are entered where the guards are known. -/
namespace GB
open PySem PySem.Spec PyProof.Rows L2
/-- no guard is up -/
abbrev Ng (A : Around) : Prop := A.guards = some []
/-- a def's promise, entered where no guard is up -/
structure FnG (P : Program) (w : World) (K : Frg) (mg : Str → Option Value) (base : Heap) (CX : CXT) (k : Nat) (f : Addr) (fd : FuncData) (ps : List Str) (sp : Sp) : Prop where
  len : ∀ vs H Q E, sp vs H Q E → vs.length = ps.length
  run : ∀ (A : Around) (outer : List Env) (s : Shared) (H : Hp) (args : Args) (us : List Value) (vs : List V) (Q : VK) (E : XK), Room k A → Ng A →
    Env0 P w K mg base A outer s H → BindsTo s fd args (ps.zip us) → Vals vs us → sp vs H Q E → codeAny (model P w) A (.call (.ref f) args) (CR CX outer P w H s Q E) s
def OkG (P : Program) (w : World) (K : Frg) (mg : Str → Option Value) (base : Heap) (CX : CXT) (k : Nat) (at_ : Str × Option Str) (ps : List Str) (sp : Sp) : Prop :=
  ∃ fd, Binds K fd ps [] ∧ FnG P w K mg base CX k (He.fAd K at_) fd ps sp
section
variable {P : Program} {w : World} {K : Frg} {mg : Str → Option Value} {base : Heap} {CX : CXT} {k : Nat}
theorem OkG.of {x qual : Str} {params : Arguments} {body : List Stmt} {scope : Scope} {at_ : Str × Option Str} {N ps : List Str} {sp : Sp}
    (F : ∃ fd, FunD K x qual params body scope [] [] (He.fAd K at_) fd) (S : FnScope N ps scope)
    (hb : ∀ (kV doc pm : Value) (an : Option Addr) (cdv ct : Value) (us : List Value), us.length = ps.length → bindArgs (PySem.W.fnOf x qual params body scope .none kV doc pm an cdv ct) ⟨us, []⟩ = pure (ps.zip us))
    (len : ∀ vs H Q E, sp vs H Q E → vs.length = ps.length)
    (hbody : ∀ (f : Addr) (c : Addr) (A : Around) (outer : List Env) (s : Shared) (H : Hp) (vs : List V) (Q : VK) (E : XK), He.codeOf K at_ = c → Room k (A.deeper (envOfC qual scope s.heap.objs.size f (.ref c))) → Ng A → sp vs H Q E →
      ∃ t, PSs (cxOf CX P w K mg base N qual scope f (.ref c) A outer s H E) body t ∧ t { nx := fun _ H' => Q .non H', rt := Q } (start N vs) H) : OkG P w K mg base CX (k + 1) at_ ps sp := by
  obtain ⟨fd, F⟩ := F
  refine ⟨fd, F.bindsN hb, len, fun A outer s H args us vs Q E hr hgd e0 hbi r hsp => ?_⟩
  obtain ⟨oc, od, dV, kV, doc, pm, an, cdv, ct, osl, rfl, lk, hcd, _, _⟩ := F.ex
  obtain ⟨c0, rfl⟩ := He.codeIn_ref hcd
  have ec : He.codeOf K at_ = c0 := He.codeOf_eq lk rfl
  have kin : K.In s.heap := e0.mod.kin.keeps fun b o e => (e0.bs b o e).1
  have lim : s.heap.NoLimit := e0.mod.nolimit.keeps fun b o e => (e0.bs b o e).1
  have hk : ∀ y ∈ ps.zip us, scope.names.lookup y.1 = some .local ∨ (scope.names.lookup y.1 = some .cell ∧ ((cellsFrom (s.heap.objs.size + 1) scope.names []).lookup y.1).isSome = true) := by
    rintro ⟨n, v⟩ hy
    exact (S.par n (List.of_mem_zip hy).1).imp id fun q => ⟨q, PySem.W.cellsFrom_some _ _ _ (.inl q)⟩
  refine codeAny_call_function hr.depth (kin _ _ lk) rfl S.co S.gen rfl (PySem.W.codeRec_of kin hcd) (hbi _ _ _ _ (wpAny_newFunctionEnv_cells S.kind hk fun env he s1 x => ?_))
  subst he
  refine ⟨lim.keeps x.toInCall.keep, codeAny_func ?_⟩
  obtain ⟨t, ht, hq⟩ := hbody _ c0 A outer s H vs Q E ec (hr.deeper _) hgd hsp
  have J : L2.Inv (cxOf CX P w K mg base N qual scope (He.fAd K at_) (.ref c0) A outer s H E) [] (start N vs) H s1 := inv_start S hr.hd e0 (len _ _ _ _ hsp) r x
  have fin : ∀ {σ' : L2.St} {H' : Hp} {v : V} {u : Value} {s' : Shared}, L2.Inv (cxOf CX P w K mg base N qual scope (He.fAd K at_) (.ref c0) A outer s H E) [] σ' H' s' → RelV v u → Q v H' → CE outer P w H s Q u s' :=
    fun {σ' H' v u s'} I rv q => ⟨v, H', I.os, I.bare, I.base, I.hok, rv, q⟩
  refine wpAny_mono (ht.run [] s1 (start N vs) H _ J hq) (fun fl s' hs => ?_) fun e s' hs => hs
  cases fl with
  | ret u => exact let ⟨v, σ', H', I, rv, q⟩ := hs; fin I rv q
  | next => exact let ⟨σ', H', I, q⟩ := hs; fin (v := V.non) (u := Value.none) I rfl q
  | brk => exact let ⟨_, _, _, q⟩ := hs; False.elim q
  | cont => exact let ⟨_, _, _, q⟩ := hs; False.elim q
end
section
variable {X : Cx} {CX : CXT} {j k : Nat} {ps : List Str} {sp : Sp} {E : XK} {x : Str} {p pos : Pos} {e : Expr} {es : List Expr} {t : TA}
/-- f(e, ..), no guard is up -/
theorem pfG (O : OkG X.prog X.w X.K X.mg X.base CX k (x, none) ps sp) (G : Gf X.K X.mg x) (hr : Room j X.A) (hgd : Ng X.A) (hg : Gl X x) (hx : Passes CX X E) (ha : PA X (e :: es) t) (hk : k ≤ j := by decide)
    (hdb : (x == ("__debug__" : Str)) = false := by decide) (he : starEach (e :: es) X.env = (false, eval e X.env) :: starEach es X.env := by rfl) (hpl : (backTo pos (starEach es X.env)).any (·.1) = false := by rfl) :
    PE X (.Call (.Name x p) (e :: es) [] pos) (tCall sp [] E t) := by
  obtain ⟨fd, b, F⟩ := O
  refine ⟨fun pins s σ H Q I h => wpAny_Call_Name_kw (ld_glob I hg G.g ?_ hdb)⟩
  refine PySem.W.callWith_K (h₀ := X.base) I.ok.mod.kin G.k (thn (ha.run pos pins s σ H _ I h) fun us s1 ⟨vs, H1, I1, r, q⟩ => ⟨I1.kIn, ?_⟩) he hpl
  have q : sp (vs ++ []) H1 Q E := q
  have hl : (us ++ []).length = ps.length := by
    rw [← (r.append .nil).length]
    exact F.len _ _ _ _ q
  refine wpAny_call (codeAny_mono (F.run X.A X.stack s1 H1 ⟨us, []⟩ (us ++ []) (vs ++ []) Q E (hr.mono hk) hgd I1.env0 (b s1 us I1.kIn hl) (r.append .nil) q) fun r s' hq => ?_)
  cases r with
  | error e => exact hx pins σ H1 s1 e s' I1 hq
  | ok fl =>
    cases fl with
    | ret u => exact I1.after hq
    | next => exact False.elim hq
    | brk => exact False.elim hq
    | cont => exact False.elim hq
end
end GB
set_option maxHeartbeats 4000000
/-! GRep2: what a state shows, as a nested datum. -/
namespace GB
open PySem PySem.Spec PyProof.Rows L2
section
variable {H H' : Hp}
theorem rt_n {v : V} : RT H v .n ↔ v = .non := by simp only [RT]
theorem rt_i {v : V} {z : Int} : RT H v (.i z) ↔ v = .int z := by simp only [RT]
theorem rt_l {v : V} {ts : List T} : RT H v (.l ts) ↔ ∃ (a : Addr) (vs : List V), v = .ref a ∧ H a = some (.lst vs) ∧ RTA H vs ts := by simp only [RT]
theorem rt_u {v : V} {ts : List T} : RT H v (.u ts) ↔ ∃ (a : Addr) (vs : List V), v = .ref a ∧ H a = some (.tup vs) ∧ RTA H vs ts := by simp only [RT]
theorem rta_nil {vs : List V} : RTA H vs [] ↔ vs = [] := by simp only [RTA]
theorem rta_cons {vs : List V} {d : T} {ds : List T} : RTA H vs (d :: ds) ↔ ∃ (v : V) (r : List V), vs = v :: r ∧ RT H v d ∧ RTA H r ds := by simp only [RTA]
theorem RTA.nil : RTA H [] [] := rta_nil.mpr rfl
theorem RTA.cons {v : V} {vs : List V} {d : T} {ds : List T} (h : RT H v d) (r : RTA H vs ds) : RTA H (v :: vs) (d :: ds) := rta_cons.mpr ⟨v, vs, rfl, h, r⟩
mutual
theorem RT.same (f : Same H H') : ∀ {t : T} {v : V}, RT H v t → RT H' v t
  | .n, v, h => rt_n.mpr (rt_n.mp h)
  | .i z, v, h => rt_i.mpr (rt_i.mp h)
  | .l ts, v, h => by
    obtain ⟨a, vs, e, ha, hs⟩ := rt_l.mp h
    exact rt_l.mpr ⟨a, vs, e, f _ _ ha, RTA.same f hs⟩
  | .u ts, v, h => by
    obtain ⟨a, vs, e, ha, hs⟩ := rt_u.mp h
    exact rt_u.mpr ⟨a, vs, e, f _ _ ha, RTA.same f hs⟩
theorem RTA.same (f : Same H H') : ∀ {ts : List T} {vs : List V}, RTA H vs ts → RTA H' vs ts
  | [], vs, h => rta_nil.mpr (rta_nil.mp h)
  | t :: ts, vs, h => by
    obtain ⟨v, r, e, h1, h2⟩ := rta_cons.mp h
    exact rta_cons.mpr ⟨v, r, e, RT.same f h1, RTA.same f h2⟩
end
theorem RTA.append : ∀ {ds es : List T} {vs ws : List V}, RTA H vs ds → RTA H ws es → RTA H (vs ++ ws) (ds ++ es)
  | [], _, _, _, h, g => by rw [rta_nil.mp h]; exact g
  | d :: ds, _, _, _, h, g => by
    obtain ⟨v, r, e, h1, h2⟩ := rta_cons.mp h
    rw [e]
    exact RTA.cons h1 (RTA.append h2 g)
theorem RTA.snoc {ds : List T} {vs : List V} {d : T} {v : V} (h : RTA H vs ds) (g : RT H v d) : RTA H (vs ++ [v]) (ds ++ [d]) := h.append (RTA.cons g RTA.nil)
theorem RTA.length : ∀ {ds : List T} {vs : List V}, RTA H vs ds → vs.length = ds.length
  | [], _, h => by rw [rta_nil.mp h]; rfl
  | d :: ds, _, h => by
    obtain ⟨v, r, e, _, h2⟩ := rta_cons.mp h
    rw [e, List.length_cons, List.length_cons, RTA.length h2]
theorem rta_ints : ∀ (xs : List Int), RTA H (xs.map .int) (xs.map .i)
  | [] => RTA.nil
  | x :: r => RTA.cons (rt_i.mpr rfl) (rta_ints r)
theorem era_upd {fa : Addr} {o : HO} : era (upd H fa o) fa = era H fa := by
  funext b
  unfold era upd
  by_cases h : b = fa
  · rw [if_pos h, if_pos h]
  · rw [if_neg h, if_neg h, if_neg h]
theorem era_sub (H : Hp) (fa : Addr) : Same (era H fa) H := fun b o e => by
  unfold era at e
  split at e
  · cases e
  · exact e
theorem era_same2 {fa : Addr} (f : Same H H') : Same (era H fa) (era H' fa) := fun b o e => by
  unfold era at e ⊢
  split at e
  · cases e
  · rename_i h
    rw [if_neg h]
    exact f b o e
theorem era_at {fa b : Addr} {o : HO} (h : H b = some o) (n : b ≠ fa) : era H fa b = some o := by
  rw [era_ne n]
  exact h
theorem era_of_none {fa : Addr} (h : H fa = none) : Same H (era H fa) := fun b o e => by
  rw [era_ne (fun z => by rw [z, h] at e; cases e)]
  exact e
end
def capT : Option Int → T
  | none => .n
  | some z => .i z
def ctT (c : Ct) : T := .u [.i c.1, .i c.2]
def mdT (x : Int × Option Int) : T := .u [.i x.1, capT x.2]
section
variable {H : Hp} {v : V}
theorem rt_cap (c : Option Int) : RT H (capV c) (capT c) := by cases c <;> simp [capV, capT, RT]
theorem rt_ct {c : Ct} (h : Rp H v (ctD c)) : RT H v (ctT c) := by
  obtain ⟨a, rfl, ha⟩ := (rp_ct c).mp h
  exact rt_u.mpr ⟨a, _, rfl, ha, RTA.cons (rt_i.mpr rfl) (RTA.cons (rt_i.mpr rfl) RTA.nil)⟩
theorem rt_md {c : Int × Option Int} (h : Rp H v (mdD c)) : RT H v (mdT c) := by
  obtain ⟨a, rfl, ha⟩ := (rp_md c).mp h
  exact rt_u.mpr ⟨a, _, rfl, ha, RTA.cons (rt_i.mpr rfl) (RTA.cons (rt_cap _) RTA.nil)⟩
theorem rta_md : ∀ {cs : List (Int × Option Int)} {vs : List V}, RpA H vs (cs.map mdD) → RTA H vs (cs.map mdT)
  | [], vs, h => by rw [rpa_nil.mp h]; exact RTA.nil
  | c :: cs, vs, h => by
    obtain ⟨v, r, e, h1, h2⟩ := rpa_cons.mp h
    rw [e]
    exact RTA.cons (rt_md h1) (rta_md h2)
end
theorem rta_ct {H : Hp} : ∀ {cs : List Ct} {vs : List V}, RpA H vs (cs.map ctD) → RTA H vs (cs.map ctT)
  | [], vs, h => by rw [rpa_nil.mp h]; exact RTA.nil
  | c :: cs, vs, h => by
    obtain ⟨v, r, e, h1, h2⟩ := rpa_cons.mp h
    rw [e]
    exact RTA.cons (rt_ct h1) (rta_ct h2)
/-- the places that are looked at in a view of a length -/
def ks (l : Int) : List Int := [0, 1, 2, 3, l - 1].filter fun k => decide (0 ≤ k) && decide (k < l)
def rowT (s : MS) (r : Row) : T := .l [capT r.c, .i (s.makers.getD r.b 0), .l ((ks r.l).map fun k => ctT (s.found r.b (r.s + k)))]
def hdT (n : Nat) (s : MS) : List T := [.i n, .l (s.seen.map fun c => .i c.2), .l (s.seen.map fun c => .i c.1), .l (s.made.map mdT)]
def stT (n : Nat) (s : MS) : T := .l (hdT n s ++ s.rows.map (rowT s))
/-- a comprehension's list so far, one turn on -/
theorem kst {l : Int} {i : Nat} {z : Int} (h : ([0, 1, 2, 3, l - 1] : List Int)[i]? = some z) : ((([0, 1, 2, 3, l - 1] : List Int).take (i + 1)).filter fun k => decide (0 ≤ k) && decide (k < l)) = ((([0, 1, 2, 3, l - 1] : List Int).take i).filter fun k => decide (0 ≤ k) && decide (k < l)) ++ (if 0 ≤ z ∧ z < l then [z] else []) := by
  rw [List.take_succ, h, List.filter_append]
  congr 1
  show [z].filter _ = _
  by_cases c : 0 ≤ z ∧ z < l
  · rw [if_pos c, List.filter_cons_of_pos (by simpa using c)] <;> rfl
  · rw [if_neg c, List.filter_cons_of_neg (by simpa using c)] <;> rfl
theorem ks_len (l : Int) : (ks l).length ≤ 5 := List.length_filter_le _ _
theorem ks_in {l k : Int} (h : k ∈ ks l) : 0 ≤ k ∧ k < l := by
  have := (List.mem_filter.mp h).2
  simpa using this
/-- what can be shown -/
structure Shw (n : Nat) (s : MS) : Prop where
  sm : (stT n s).Sm
  wt : (stT n s).wt ≤ 250000
  dp : (stT n s).dp ≤ 20
end GB
set_option maxHeartbeats 4000000
/-! GL14: what the law's state shows. -/
namespace GB
open PySem PySem.Spec PyProof.Rows L2
local macro_rules | `(tactic| walk_at "g") => `(tactic| first
  | refine ⟨_, rfl, ?_⟩
  | refine ⟨_, _, rfl, rfl, ?_⟩
  | refine ⟨_, _, _, _, rfl, rfl, SqT.of (by assumption), by rfl, ?_⟩
  | refine ⟨_, _, _, _, rfl, rfl, SqL.of (by assumption), by rfl, ?_⟩
  | refine ⟨_, _, _, _, rfl, rfl, SqL.of (by assumption), atI_nat (by assumption), ?_⟩
  | refine ⟨rfl, ⟨rfl, by decide⟩, ?_⟩
  | refine ⟨_, _, _, _, _, rfl, .ty _, .base (.tup (by assumption)), kt_tup, ?_⟩
  | refine ⟨_, _, _, _, _, rfl, .ty _, .base (.str _), kt_str, ?_⟩
  | refine ⟨_, _, rfl, .inr (SqT.of (by assumption)), ?_⟩
  | refine ⟨_, _, rfl, .inl (SqL.of (by assumption)), ?_⟩
  | refine iteT_of (by first | decide +kernel | rfl) ?_
  | refine iteF_of (by first | decide +kernel | rfl) ?_
  | refine iteT_of (btw_t (by omega)) ?_
  | refine iteF_of (by rw [btw_t (by omega)]; rfl) ?_
  | refine ⟨_, _, rfl, rfl, by assumption, ?_⟩
  | refine ⟨_, _, _, rfl, rfl, by assumption, ?_⟩
  | refine ⟨_, _, _, _, _, rfl, by assumption, Txt.cl (by assumption), by first | exact Txt.no_kept_program (by assumption) | exact Txt.no_kept_policy (by assumption) | exact Txt.no_rows (by assumption) | exact Txt.no_cells (by assumption) | exact Txt.no_makers (by assumption) | exact Txt.no_roots (by assumption) | exact Txt.no_seen (by assumption) | exact Txt.no_made (by assumption) | exact Txt.no_records (by assumption) | exact Txt.no_busy (by assumption), by rfl, ?_⟩
  | refine ⟨_, _, _, rfl, by assumption, by rfl, ?_⟩
  | refine ⟨_, _, _, rfl, ?_⟩
  | refine ⟨_, _, rfl, SqT.of (by assumption), by rfl, ?_⟩
  | refine ⟨_, _, rfl, ?_⟩
  | refine ⟨.inl (by decide), ?_⟩
  | refine ⟨.inl ⟨rfl, _, SqL.of (by assumption)⟩, ?_⟩
  | refine ⟨rfl, ?_⟩)
local macro_rules | `(tactic| walk_at "gs") => `(tactic| repeat walk_at "g")
local macro_rules | `(tactic| walk_at "b") => `(tactic| (first | decide +kernel | (simp only [decide_eq_true_eq, decide_eq_false_iff_not, List.length_map, V.int.injEq, Bool.not_eq_true', Bool.not_eq_false']; omega)))
section
variable {P : Program} {w : World} {K : Frg} {mg : Str → Option Value} {base : Heap}
def sp_l_shown : Sp := fun vs H Q _ => ∃ (a : Addr) (p : LA) (x : LM) (s : MS) (n : Nat), vs = [.ref a, .int n] ∧ LSA H a p x ∧ Sim x s ∧ LBd s ∧ (∀ r ∈ s.rows, r.b < s.cells.length) ∧ Shw n s ∧ ∀ H', Same H H' → Q (.str (stT n s).py.shown) H'
theorem ok_l_shown (T : Txt K mg) : OkG P w K mg base CX0 2 ("_law_shown", none) P_l_shown sp_l_shown := by
  refine OkG.of T.f_l_shown sc_l_shown (fun _ _ _ _ _ _ us hl => match us, hl with | [_, _], _ => rfl) (fun vs H Q E h => ?_) fun f c A outer s H vs Q E _ hr hgd h => ?_
  · obtain ⟨a, p, x, s, n, rfl, _⟩ := h
    rfl
  · obtain ⟨a, p, x, s0, n, rfl, hs, hm, B, hrb, W, k⟩ := h
    have h0 := hs.top
    obtain ⟨sw, hsw, hsr⟩ := id hs.seen
    obtain ⟨rws, hrws, hrr⟩ := id hs.rows
    refine ⟨_, PSs.nox (pss_cons (ps_set (i := 2) sc_l_shown.nd rfl (Or.inl rfl) (pe_lst (pa_cons (pv 1) (pa_cons (pe_lc (own := [("_law_one", 8)]) rfl sc_l_shown.nd (pi_list (pe_ix ix_list (pv 0) pe_int (fun _ _ => rfl))) (blkOk_by rfl) (fun _ _ _ _ _ => (pg_name (i := 8) sc_l_shown.nd rfl (Or.inl rfl) (.inr rfl))) (fun _ _ _ _ _ => pts_nil) (fun _ _ _ _ _ => (pe_ix (ix_tupK (K := K) rfl) (pv 8) pe_int (fun _ _ => rfl)))) (pa_cons (pe_lc (own := [("_law_one", 8)]) rfl sc_l_shown.nd (pi_list (pe_ix ix_list (pv 0) pe_int (fun _ _ => rfl))) (blkOk_by rfl) (fun _ _ _ _ _ => (pg_name (i := 8) sc_l_shown.nd rfl (Or.inl rfl) (.inr rfl))) (fun _ _ _ _ _ => pts_nil) (fun _ _ _ _ _ => (pe_ix (ix_tupK (K := K) rfl) (pv 8) pe_int (fun _ _ => rfl)))) (pa_cons (pe_ix ix_list (pv 0) pe_int (fun _ _ => rfl)) pa_nil))))))
      (pss_cons (ps_for PassesOwn.never rfl (pi_list (pe_ix ix_list (pv 0) pe_int (fun _ _ => rfl))) (pg_tup rfl (pgs_cons (pg_name (i := 3) sc_l_shown.nd rfl (Or.inr rfl)) (pgs_cons (pg_name (i := 4) sc_l_shown.nd rfl (Or.inr rfl)) (pgs_cons (pg_name (i := 5) sc_l_shown.nd rfl (Or.inl rfl)) (pgs_cons (pg_name (i := 6) sc_l_shown.nd rfl (Or.inr rfl)) pgs_nil)))))
       (pss_cons (ps_setLc (i := 7) (own := [("_law_k", 9)]) rfl sc_l_shown.nd rfl rfl (sw_true rfl rfl rfl rfl) (pi_list (pe_lst (pa_cons pe_int (pa_cons pe_int (pa_cons pe_int (pa_cons pe_int (pa_cons (pe_op op_sub (pv 4) pe_int) pa_nil))))))) (blkOk_by rfl) (fun _ _ _ _ _ => (pg_name (i := 9) sc_l_shown.nd rfl (Or.inl rfl) (.inr rfl))) (fun _ _ _ _ _ => pts_one (pt_chain op_le op_lt pe_int (pv 9) (pv 4))) (fun _ _ _ _ _ => (pv 9)))
       (pss_one (ps_expr (pe_bm PySem.F.plainAttrs_list PySem.F.slot_list_append PySem.F.type_list_append mt_append (pv 2) (pa_cons (pe_lst (pa_cons (pv 5) (pa_cons (pe_ix ix_list (pe_ix ix_list (pv 0) pe_int (fun _ _ => rfl)) (pv 6) (fun _ _ => rfl)) (pa_cons (pe_lc (own := [("_law_k", 9)]) rfl sc_l_shown.nd (pi_list (pv 7)) (blkOk_by rfl) (fun _ _ _ _ _ => (pg_name (i := 9) sc_l_shown.nd rfl (Or.inl rfl) (.inr rfl))) (fun _ _ _ _ _ => pts_nil) (fun _ _ _ _ _ => (pf (ok_l_at T) T.g_l_at hr rfl pass0 (pa_cons (pv 0) (pa_cons (pv 6) (pa_cons (pe_op op_add (pv 3) (pv 9)) pa_nil)))))) pa_nil)))) pa_nil))))))
      (pss_one (ps_ret (pe_callB (call_reprT hgd ⟨_, hr⟩) rfl T.bi.repr (by decide +kernel) (pa_cons (pv 2) pa_nil)))))), ?_⟩
    walk_at "gs"
    refine ⟨⟨_, SqL.of hsw⟩, fun D hD => ?_⟩
    have hlen : sw.length = x.seen.length := by rw [hsr.length, List.length_map]
    have hsn := B.seen
    rw [← hm.seen] at hsn
    refine lc_list (xs := sw) (fun i H' => Same H H' ∧ H' D = some (.lst ((x.seen.take i).map fun c => .int c.2))) ⟨Same.new hD, upd_same⟩ (fun i H' _ pv => SqL.of (pv.1 _ _ hsw)) (fun i y H' hx pv => ?_) fun H' pv => ?_
    · obtain ⟨sm, hDD⟩ := pv
      obtain ⟨dd, hdd, rx⟩ := hsr.getV hx
      obtain ⟨c, hc, rfl⟩ : ∃ c, x.seen[i]? = some c ∧ ctD c = dd := by simpa using hdd
      obtain ⟨ta, rfl, hta⟩ := (rp_ct c).mp rx
      have hta2 := sm _ _ hta
      walk_at "gs"
      refine ⟨_, hDD, lt_line ?_, fun a o h => ?_, ?_⟩
      · rw [List.length_map, List.length_take]; omega
      · rw [upd_ne (ne_of_none h hD)]; exact sm _ _ h
      · rw [upd_same, List.take_succ, hc, List.map_append] <;> rfl
    obtain ⟨sm1, hD1⟩ := pv
    rw [hlen, List.take_length] at hD1
    have hs1 := hs.same sm1
    clear h0
    have h0 := hs1.top
    have hsw1 := sm1 _ _ hsw
    walk_at "gs"
    refine ⟨⟨_, SqL.of hsw1⟩, fun D2 hD2 => ?_⟩
    refine lc_list (xs := sw) (fun i H2 => Same H' H2 ∧ H2 D2 = some (.lst ((x.seen.take i).map fun c => .int c.1))) ⟨Same.new hD2, upd_same⟩ (fun i H' _ pv => SqL.of (pv.1 _ _ hsw1)) (fun i y H2 hx pv => ?_) fun H2 pv => ?_
    · obtain ⟨sm, hDD⟩ := pv
      obtain ⟨dd, hdd, rx⟩ := hsr.getV hx
      obtain ⟨c, hc, rfl⟩ : ∃ c, x.seen[i]? = some c ∧ ctD c = dd := by simpa using hdd
      obtain ⟨ta, rfl, hta⟩ := (rp_ct c).mp rx
      have hta2 := sm _ _ (sm1 _ _ hta)
      walk_at "gs"
      refine ⟨_, hDD, lt_line ?_, fun a o h => ?_, ?_⟩
      · rw [List.length_map, List.length_take]; omega
      · rw [upd_ne (ne_of_none h hD2)]; exact sm _ _ h
      · rw [upd_same, List.take_succ, hc, List.map_append] <;> rfl
    obtain ⟨sm2, hD3⟩ := pv
    rw [hlen, List.take_length] at hD3
    have hs2 := hs1.same sm2
    clear h0
    have h0 := hs2.top
    walk_at "gs"
    refine ⟨szk (n := 4) (by decide), fun fa hfa => ?_⟩
    have sm3 := Same.new (o := .lst [.int n, .ref D, .ref D2, .ref p.ma]) hfa
    have hfa3 : upd H2 fa (.lst [.int n, .ref D, .ref D2, .ref p.ma]) fa = some (.lst [.int n, .ref D, .ref D2, .ref p.ma]) := upd_same
    have hdr : RTA (era (upd H2 fa (.lst [.int n, .ref D, .ref D2, .ref p.ma])) fa) [.int n, .ref D, .ref D2, .ref p.ma] (hdT n s0) := by
      rw [era_upd]
      have ss := era_of_none hfa
      have z1 : H2 D = some (.lst ((s0.seen.map (·.2)).map .int)) := by
        rw [List.map_map, ← hm.seen]
        exact sm2 _ _ hD1
      have z2 : H2 D2 = some (.lst ((s0.seen.map (·.1)).map .int)) := by
        rw [List.map_map, ← hm.seen]
        exact hD3
      obtain ⟨mw, z3, z4⟩ := hs2.made
      rw [hm.made] at z4
      have e1 : (s0.seen.map fun c => GB.T.i c.2) = (s0.seen.map (·.2)).map GB.T.i := by rw [List.map_map] <;> rfl
      have e2 : (s0.seen.map fun c => GB.T.i c.1) = (s0.seen.map (·.1)).map GB.T.i := by rw [List.map_map] <;> rfl
      unfold hdT
      rw [e1, e2]
      exact RTA.same ss (RTA.cons (rt_i.mpr rfl) (RTA.cons (rt_l.mpr ⟨D, _, rfl, z1, rta_ints _⟩) (RTA.cons (rt_l.mpr ⟨D2, _, rfl, z2, rta_ints _⟩) (RTA.cons (rt_l.mpr ⟨p.ma, mw, rfl, z3, rta_md z4⟩) RTA.nil))))
    have smA : Same H (upd H2 fa (.lst [.int n, .ref D, .ref D2, .ref p.ma])) := Same.trans sm1 (Same.trans sm2 sm3)
    have hfH : H fa = none := by
      cases e : H fa with
      | none => rfl
      | some o => rw [sm2 _ _ (sm1 _ _ e)] at hfa; cases hfa
    generalize upd H2 fa (.lst [.int n, .ref D, .ref D2, .ref p.ma]) = H3 at sm3 hfa3 hdr smA ⊢
    have hs3 := hs2.same sm3
    clear h0
    have h0 := hs3.top
    have hrws3 := smA _ _ hrws
    walk_at "gs"
    refine ⟨⟨_, SqL.of hrws3⟩, ?_⟩
    have hrl : rws.length = s0.rows.length := by rw [hrr.length, List.length_map, hm.rows]
    have nfa : ∀ y, ft a p y → ¬ y = fa := fun y hy z => by
      obtain ⟨o, e, _⟩ := hs.get hy
      rw [z, hfH] at e
      cases e
    refine for_list (xs := rws) (fun i σ H4 => ∃ (y3 y4 y5 y6 y7 y8 y9 : Option V) (ws : List V), σ = [some (.ref a), some (.int n), some (.ref fa), y3, y4, y5, y6, y7, y8, y9] ∧ Fr (fun y => y = fa) H3 H4 ∧ H4 fa = some (.lst ws) ∧ RTA (era H4 fa) ws (hdT n s0 ++ (s0.rows.take i).map (rowT s0)))
      ⟨none, none, none, none, none, none, none, _, rfl, Fr.refl _ _, hfa3, by rw [List.take_zero, List.map_nil, List.append_nil]; exact hdr⟩ (fun i σ H4 _ pv => ?_) (fun i y σ H4 hy pv => ?_) fun σ H4 pv => ?_
    · obtain ⟨_, _, _, _, _, _, _, ws, _, f, _⟩ := pv
      exact SqL.of (f.at_ hrws3 (nfa _ (.inr (.inl rfl))))
    · obtain ⟨y3, y4, y5, y6, y7, y8, y9, ws, rfl, f, hfa4, hr4⟩ := pv
      obtain ⟨dd, hdd, rx⟩ := hrr.getV hy
      obtain ⟨r, hr0, rfl⟩ : ∃ r, x.rows[i]? = some r ∧ rowD r = dd := by simpa using hdd
      have hrs : s0.rows[i]? = some r := by rw [← hm.rows]; exact hr0
      have hil : i < s0.rows.length := (List.getElem?_eq_some_iff.mp hrs).1
      obtain ⟨tr, rfl, htr⟩ := (rp_row r).mp rx
      have htr4 := f.tup (smA _ _ htr)
      have hs4 := hs3.fr f nfa
      clear h0
      have h0 := hs4.top
      walk_at "gs"
      refine ⟨szk (n := 5) (by decide), fun L hL => ?_⟩
      have s5 := Same.new (o := .lst [.int 0, .int 1, .int 2, .int 3, .int (r.l - 1)]) hL
      have hL5 : upd H4 L (.lst [.int 0, .int 1, .int 2, .int 3, .int (r.l - 1)]) L = some (.lst (([0, 1, 2, 3, r.l - 1] : List Int).map .int)) := upd_same
      generalize upd H4 L (.lst [.int 0, .int 1, .int 2, .int 3, .int (r.l - 1)]) = H5 at s5 hL5 ⊢
      walk_at "gs"
      refine ⟨⟨_, SqL.of hL5⟩, fun D5 hD5 => ?_⟩
      refine lc_list (xs := ([0, 1, 2, 3, r.l - 1] : List Int).map .int) (fun j H' => Same H5 H' ∧ H' D5 = some (.lst (((([0, 1, 2, 3, r.l - 1] : List Int).take j).filter fun k => decide (0 ≤ k) && decide (k < r.l)).map .int))) ⟨Same.new hD5, upd_same⟩ (fun j H' _ pv => SqL.of (pv.1 _ _ hL5)) (fun j y H' hx pv => ?_) fun H' pv => ?_
      · obtain ⟨sm, hDD⟩ := pv
        obtain ⟨z, hz, rfl⟩ : ∃ z, ([0, 1, 2, 3, r.l - 1] : List Int)[j]? = some z ∧ V.int z = y := by
          rw [List.getElem?_map] at hx
          exact Option.map_eq_some_iff.mp hx
        have hjz := (List.length_filter_le (fun k => decide (0 ≤ k) && decide (k < r.l)) (([0, 1, 2, 3, r.l - 1] : List Int).take j))
        have hjz2 : (([0, 1, 2, 3, r.l - 1] : List Int).take j).length ≤ 5 := by rw [List.length_take]; exact Nat.min_le_right _ _
        rw [kst hz]
        walk_at "gs"
        refine iteD (fun q1 => ?_) (fun q1 => ?_)
        · walk_at "gs"
          refine iteD (fun q2 => ?_) (fun q2 => ?_)
          · walk_at "gs"
            refine ⟨_, hDD, lt_line (by rw [List.length_map]; omega), fun a o h => ?_, ?_⟩
            · rw [upd_ne (ne_of_none h hD5)]; exact sm _ _ h
            · rw [upd_same, if_pos ⟨of_decide_eq_true q1, of_decide_eq_true q2⟩, List.map_append] <;> rfl
          · rw [if_neg (fun c => of_decide_eq_false q2 c.2), List.append_nil]
            exact ⟨sm, hDD⟩
        · walk_at "gs"
          rw [if_neg (fun c => of_decide_eq_false q1 c.1), List.append_nil]
          exact ⟨sm, hDD⟩
      obtain ⟨sm6, hD6⟩ := pv
      have hD6 : H' D5 = some (.lst ((ks r.l).map .int)) := hD6
      have s46 := Same.trans s5 sm6
      have hs6 := hs4.same s46
      clear h0
      have h0 := hs6.top
      have hmk6 := hs6.makers
      have hmg : (x.makers.map V.int)[r.b]? = some (.int (s0.makers.getD r.b 0)) := by
        have hb : r.b < s0.makers.length := by rw [← hm.cm]; exact hrb r (List.mem_of_getElem? hrs)
        rw [hm.makers, List.getElem?_map, List.getElem?_eq_getElem hb, List.getD_eq_getElem?_getD, List.getElem?_eq_getElem hb] <;> rfl
      have hfa6 := s46 _ _ hfa4
      walk_at "gs"
      refine ⟨⟨_, SqL.of hD6⟩, fun D7 hD7 => ?_⟩
      refine lc_list (xs := (ks r.l).map .int) (fun j H7 => Same H' H7 ∧ ∃ us, H7 D7 = some (.lst us) ∧ RpA H7 us (((ks r.l).take j).map fun k => ctD (s0.found r.b (r.s + k)))) ⟨Same.new hD7, [], upd_same, RpA.nil⟩ (fun j H7 _ pv => SqL.of (pv.1 _ _ hD6)) (fun j y H7 hx pv => ?_) fun H7 pv => ?_
      · obtain ⟨sm, us, hDD, hus⟩ := pv
        obtain ⟨z, hz, rfl⟩ : ∃ z, (ks r.l)[j]? = some z ∧ V.int z = y := by
          rw [List.getElem?_map] at hx
          exact Option.map_eq_some_iff.mp hx
        have hs7 := hs6.same sm
        walk_at "gs"
        refine ⟨a, p, x, r.b, r.s + z, rfl, hs7, by rw [hm.roots, ← hm.cr]; exact hrb r (List.mem_of_getElem? hrs), fun v H8 s8 rv => ?_⟩
        rw [hm.found] at rv
        have hDD8 := s8 _ _ hDD
        refine ⟨us, hDD8, lt_line (by rw [hus.length, List.length_map, List.length_take]; have := ks_len r.l; omega), fun a o h => ?_, us ++ [v], upd_same, ?_⟩
        · rw [upd_ne (ne_of_none h hD7)]
          exact s8 _ _ (sm _ _ h)
        · have tp := tp_put (o := .lst (us ++ [v])) hDD8 fun _ z => by cases z
          rw [List.take_succ, hz, List.map_append]
          exact (RpA.tp (fun b xs h => tp _ _ (Same.tp s8 _ _ h)) hus).snoc (Rp.tp tp rv)
      obtain ⟨sm7, us, hD7', hus⟩ := pv
      rw [List.length_map, List.take_length] at hus
      walk_at "gs"
      refine ⟨szk (n := 3) (by decide), fun rl hrl7 => ?_⟩
      have s8 := Same.new (o := .lst [capV r.c, .int (s0.makers.getD r.b 0), .ref D7]) hrl7
      have hfa7 := sm7 _ _ hfa6
      have hfa8 := s8 _ _ hfa7
      have n1 : rl ≠ fa := Ne.symm (ne_of_none hfa7 hrl7)
      have n2 : D7 ≠ fa := Ne.symm (ne_of_none hfa6 hD7)
      have e8 : RT (era (upd H7 rl (.lst [capV r.c, .int (s0.makers.getD r.b 0), .ref D7])) fa) (.ref rl) (rowT s0 r) := by
        refine rt_l.mpr ⟨rl, _, rfl, era_at upd_same n1, RTA.cons (rt_cap _) (RTA.cons (rt_i.mpr rfl) (RTA.cons (rt_l.mpr ⟨D7, us, rfl, era_at (s8 _ _ hD7') n2, ?_⟩) RTA.nil))⟩
        have e9 : ((ks r.l).map fun k => ctT (s0.found r.b (r.s + k))) = ((ks r.l).map fun k => s0.found r.b (r.s + k)).map ctT := by rw [List.map_map] <;> rfl
        have e10 : ((ks r.l).map fun k => ctD (s0.found r.b (r.s + k))) = ((ks r.l).map fun k => s0.found r.b (r.s + k)).map ctD := by rw [List.map_map] <;> rfl
        rw [e9]
        rw [e10] at hus
        have hus8 := RpA.tp (Same.tp s8) hus
        exact rta_ct (RpA.tp (fun b xs h => era_at h fun z => by rw [z, hfa8] at h; cases h) hus8)
      refine ⟨fa, ws, _, rfl, rfl, hfa8, lt_line (by rw [hr4.length, List.length_append, List.length_map, List.length_take]; have := B.rows; show 4 + _ ≤ _; omega), ?_⟩
      refine ⟨_, _, _, _, _, _, _, _, rfl, (f.trans (Fr.of (W := fun y => y = fa) (Same.trans s46 (Same.trans sm7 s8))) fun _ h => .inl h).trans (W' := fun y => y = fa) (Fr.put rfl hfa8 fun _ z => by cases z) fun _ h => .inl h, upd_same, ?_⟩
      rw [era_upd, List.take_succ, hrs, List.map_append, ← List.append_assoc]
      exact (RTA.same (era_same2 (Same.trans s46 (Same.trans sm7 s8))) hr4).snoc e8
    · obtain ⟨y3, y4, y5, y6, y7, y8, y9, ws, rfl, f, hfa4, hr4⟩ := pv
      rw [hrl, List.take_length] at hr4
      walk_at "gs"
      exact ⟨fa, stT n s0, rfl, rt_l.mpr ⟨fa, ws, rfl, hfa4, RTA.same (era_sub _ _) hr4⟩, W.sm, W.wt, W.dp, k _ (Same.of_fr smA f fun y e => by rw [e]; exact hfH)⟩
end
end GB
set_option maxHeartbeats 4000000
/-! GL15: what a machine tells. -/
namespace GB
open PySem PySem.Spec PyProof.Rows L2
local macro_rules | `(tactic| walk_at "g") => `(tactic| first
  | refine ⟨_, rfl, ?_⟩
  | refine ⟨_, _, rfl, rfl, ?_⟩
  | refine ⟨_, _, _, _, rfl, rfl, SqT.of (by assumption), by rfl, ?_⟩
  | refine ⟨_, _, _, _, rfl, rfl, SqL.of (by assumption), by rfl, ?_⟩
  | refine ⟨_, _, _, _, rfl, rfl, SqL.of (by assumption), atI_nat (by assumption), ?_⟩
  | refine ⟨rfl, ⟨rfl, by decide⟩, ?_⟩
  | refine ⟨_, _, _, _, _, rfl, .ty _, .base (.tup (by assumption)), kt_tup, ?_⟩
  | refine ⟨_, _, _, _, _, rfl, .ty _, .base (.str _), kt_str, ?_⟩
  | refine ⟨_, _, rfl, .inr (SqT.of (by assumption)), ?_⟩
  | refine ⟨_, _, rfl, .inl (SqL.of (by assumption)), ?_⟩
  | refine iteT_of (by first | decide +kernel | rfl) ?_
  | refine iteF_of (by first | decide +kernel | rfl) ?_
  | refine iteT_of (btw_t (by omega)) ?_
  | refine iteF_of (by rw [btw_t (by omega)]; rfl) ?_
  | refine ⟨_, _, rfl, rfl, by assumption, ?_⟩
  | refine ⟨_, _, _, rfl, rfl, by assumption, ?_⟩
  | refine ⟨_, _, _, _, _, rfl, by assumption, Txt.cl (by assumption), by first | exact Txt.no_kept_program (by assumption) | exact Txt.no_kept_policy (by assumption) | exact Txt.no_rows (by assumption) | exact Txt.no_cells (by assumption) | exact Txt.no_makers (by assumption) | exact Txt.no_roots (by assumption) | exact Txt.no_seen (by assumption) | exact Txt.no_made (by assumption) | exact Txt.no_records (by assumption) | exact Txt.no_busy (by assumption), by rfl, ?_⟩
  | refine ⟨_, _, _, rfl, by assumption, by rfl, ?_⟩
  | refine ⟨_, _, _, rfl, ?_⟩
  | refine ⟨_, _, rfl, SqT.of (by assumption), by rfl, ?_⟩
  | refine ⟨_, _, rfl, ?_⟩
  | refine ⟨.inl (by decide), ?_⟩
  | refine ⟨.inl ⟨rfl, _, SqL.of (by assumption)⟩, ?_⟩
  | refine ⟨rfl, ?_⟩)
local macro_rules | `(tactic| walk_at "gs") => `(tactic| repeat walk_at "g")
local macro_rules | `(tactic| walk_at "b") => `(tactic| (first | decide +kernel | (simp only [decide_eq_true_eq, decide_eq_false_iff_not, List.length_map, V.int.injEq, Bool.not_eq_true', Bool.not_eq_false']; omega)))
/-- no exception is wanted, none comes -/
theorem passN {X : Cx} {P : Program} {w : World} : Passes (L2.CX P w) X (fun _ _ _ => False) := fun _ _ _ _ _ _ _ c => (cxF c).elim
/-- o.m(e, ..) in a comprehension's block -/
theorem pmB {X : Cx} {CX : CXT} {j k : Nat} {ps : List Str} {sp : Sp} {E : XK} {m : Str} {pos apos : Pos} {o e : Expr} {es : List Expr} {ta : TE} {t : TA} {pl : Sem Bool} {s : Shared} {H : Hp} {scope : Scope} {cenv : Env} {fp : List Addr}
    (O : Ok X.prog X.w X.K X.mg X.base CX k ("Machine", some m) ps sp) (c : Cls X.K (CM X.K)) (hm : Meth X.K (CM X.K) m (He.ma X.K (CM X.K) m)) (hr : Room j X.A) (hx : Passes CX (X.blk s H scope cenv fp) E) (ho : PE (X.blk s H scope cenv fp) o ta) (ha : PA (X.blk s H scope cenv fp) (e :: es) t) (hk : k ≤ j := by decide)
    (hst : starEach (e :: es) cenv = (false, eval e cenv) :: starEach es cenv := by rfl) (hpl : (backTo pos (starEach es cenv)).any (·.1) = false := by rfl)
    (ht : eval (.Call (.Attribute o m apos) (e :: es) [] pos) cenv = (do
      let ov ← eval o cenv
      standAt apos.atName
      let (f, first) ← holding [ov] (getMethod ov m pl)
      callWith pos f first (backTo pos (starEach (e :: es) cenv)) (backToKw pos (keywordEach [] cenv))) := by rfl) :
    PE (X.blk s H scope cenv fp) (.Call (.Attribute o m apos) (e :: es) [] pos) (tMeth (CM X.K) m sp [] E ta t) :=
  pm (X := X.blk s H scope cenv fp) O c hm hr hx ho ha hk hst hpl ht
section
variable {P : Program} {w : World} {K : Frg} {mg : Str → Option Value} {base : Heap}
def sp_l_told : Sp := fun vs H Q _ => ∃ (m b : Addr) (p q : V) (z : Bool) (d : MD) (s : MS) (n : Nat), vs = [.ref m, .ref b] ∧ MA K H m p q z d s ∧ H b = some (.lst (s.rows.map fun r => .int r.l)) ∧ s.recs.length = n ∧ LBd s ∧ (∀ r ∈ s.rows, r.b < s.cells.length) ∧ s.makers.length = s.cells.length ∧ s.roots.length = s.cells.length ∧ Shw n s ∧ ∀ H', Same H H' → Q (.str (stT n s).py.shown) H'
theorem ok_l_told (T : Txt K mg) (TX : TxX K) : OkG P w K mg base CX0 5 ("_law_told", none) P_l_told (sp_l_told (K := K)) := by
  refine OkG.of T.f_l_told sc_l_told (fun _ _ _ _ _ _ us hl => match us, hl with | [_, _], _ => rfl) (fun vs H Q E h => ?_) fun f c A outer s H vs Q E _ hr hgd h => ?_
  · obtain ⟨m, b, p, q, z, d, s, n, rfl, _⟩ := h
    rfl
  · obtain ⟨m, b, p, q, z, d, s0, n, rfl, hm, hb, hn, B, hrb, hcm, hcr, W, k⟩ := h
    refine ⟨_, PSs.nox (pss_cons (ps_set (i := 2) sc_l_told.nd rfl (Or.inl rfl) (pe_lst (pa_cons (pm0 (ok_M_position T) T.cl T.m_position hr pass0 (pv 0)) (pa_cons (pm0 (ok_M_read_values T) T.cl T.m_read_values hr pass0 (pv 0)) (pa_cons (pm0 (ok_M_origins T) T.cl T.m_origins hr pass0 (pv 0)) (pa_cons (pm0 (ok_M_allocations T) T.cl T.m_allocations hr pass0 (pv 0)) pa_nil))))))
      (pss_cons (ps_for PassesOwn.never rfl (pi_range1 rfl T.bi.range (pa_cons (pe_callB call_len_seq rfl T.bi.len (by decide +kernel) (pa_cons (pv 1) pa_nil)) pa_nil)) (pg_name (i := 3) sc_l_told.nd rfl (Or.inr rfl))
       (pss_cons (ps_setLc (i := 4) (own := [("_law_k", 6)]) rfl sc_l_told.nd rfl rfl (sw_true rfl rfl rfl rfl) (pi_list (pe_lst (pa_cons pe_int (pa_cons pe_int (pa_cons pe_int (pa_cons pe_int (pa_cons (pe_op op_sub (pe_ix ix_list (pv 1) (pv 3) (fun _ _ => rfl)) pe_int) pa_nil))))))) (blkOk_by rfl) (fun _ _ _ _ _ => (pg_name (i := 6) sc_l_told.nd rfl (Or.inl rfl) (.inr rfl))) (fun _ _ _ _ _ => pts_one (pt_chain op_le op_lt pe_int (pv 6) (pe_ix (ix_listK (K := K) rfl) (pv 1) (pv 3) (fun _ _ => rfl)))) (fun _ _ _ _ _ => (pv 6)))
       (pss_cons (ps_setLc (i := 5) (own := [("_law_k", 6)]) rfl sc_l_told.nd rfl rfl (sw_true rfl rfl rfl rfl) (pi_list (pv 4)) (blkOk_by rfl) (fun _ _ _ _ _ => (pg_name (i := 6) sc_l_told.nd rfl (Or.inl rfl) (.inr rfl))) (fun _ _ _ _ _ => pts_nil) (fun _ _ _ _ _ => (pmB (ok_M_content T TX) T.cl T.m_content hr passN (pv 0) (pa_cons (pv 3) (pa_cons (pv 6) pa_nil)))))
       (pss_one (ps_expr (pe_bm PySem.F.plainAttrs_list PySem.F.slot_list_append PySem.F.type_list_append mt_append (pv 2) (pa_cons (pe_lst (pa_cons (pm (ok_M_capacity T TX) T.cl T.m_capacity hr passN (pv 0) (pa_cons (pv 3) pa_nil)) (pa_cons (pm (ok_M_block T TX) T.cl T.m_block hr pass0 (pv 0) (pa_cons (pv 3) pa_nil)) (pa_cons (pv 5) pa_nil)))) pa_nil)))))))
      (pss_one (ps_ret (pe_callB (call_reprT hgd ⟨_, hr⟩) rfl T.bi.repr (by decide +kernel) (pa_cons (pv 2) pa_nil)))))), ?_⟩
    have hi := hm.h.ins
    walk_at "gs"
    refine ⟨m, p, q, z, d, s0, rfl, hm, ?_⟩
    walk_at "gs"
    refine ⟨m, p, q, z, d, s0, rfl, hm, B.seen, fun D1 H1 s1 hn1 hD1 => ?_⟩
    have hm1 := hm.same s1
    clear hi
    have hi := hm1.h.ins
    walk_at "gs"
    refine ⟨m, p, q, z, d, s0, rfl, hm1, B.seen, fun D2 H2 s2 hn2 hD2 => ?_⟩
    have hm2 := hm1.same s2
    clear hi
    have hi := hm2.h.ins
    walk_at "gs"
    refine ⟨m, p, q, z, d, s0, rfl, hm2, fun D3 H3 mw s3 hn3 hD3 hmw => ?_⟩
    have hm3 := hm2.same s3
    clear hi
    walk_at "gs"
    refine ⟨szk (n := 4) (by decide), fun fa hfa => ?_⟩
    have s4 := Same.new (o := .lst [.int s0.recs.length, .ref D1, .ref D2, .ref D3]) hfa
    have hfa4 : upd H3 fa (.lst [.int s0.recs.length, .ref D1, .ref D2, .ref D3]) fa = some (.lst [.int s0.recs.length, .ref D1, .ref D2, .ref D3]) := upd_same
    have hdr : RTA (era (upd H3 fa (.lst [.int s0.recs.length, .ref D1, .ref D2, .ref D3])) fa) [.int s0.recs.length, .ref D1, .ref D2, .ref D3] (hdT n s0) := by
      rw [era_upd]
      have ss := era_of_none hfa
      have z1 : H3 D1 = some (.lst ((s0.seen.map (·.2)).map .int)) := by
        rw [List.map_map]
        exact s3 _ _ (s2 _ _ hD1)
      have z2 : H3 D2 = some (.lst ((s0.seen.map (·.1)).map .int)) := by
        rw [List.map_map]
        exact s3 _ _ hD2
      have e1 : (s0.seen.map fun c => GB.T.i c.2) = (s0.seen.map (·.2)).map GB.T.i := by rw [List.map_map] <;> rfl
      have e2 : (s0.seen.map fun c => GB.T.i c.1) = (s0.seen.map (·.1)).map GB.T.i := by rw [List.map_map] <;> rfl
      unfold hdT
      rw [e1, e2]
      exact RTA.same ss (RTA.cons (rt_i.mpr (by rw [hn])) (RTA.cons (rt_l.mpr ⟨D1, _, rfl, z1, rta_ints _⟩) (RTA.cons (rt_l.mpr ⟨D2, _, rfl, z2, rta_ints _⟩) (RTA.cons (rt_l.mpr ⟨D3, mw, rfl, hD3, rta_md hmw⟩) RTA.nil))))
    have smA : Same H (upd H3 fa (.lst [.int s0.recs.length, .ref D1, .ref D2, .ref D3])) := Same.trans s1 (Same.trans s2 (Same.trans s3 s4))
    have hfH : H fa = none := by
      cases e : H fa with
      | none => rfl
      | some o => rw [s3 _ _ (s2 _ _ (s1 _ _ e))] at hfa; cases hfa
    generalize upd H3 fa (.lst [.int s0.recs.length, .ref D1, .ref D2, .ref D3]) = H4 at s4 hfa4 hdr smA ⊢
    have hm4 := hm.same smA
    have hb4 := smA _ _ hb
    have hbl : ((s0.rows.map fun r => V.int r.l).length : Int) = (s0.rows.length : Int) := by rw [List.length_map]
    have nb : b ≠ fa := fun e => by rw [e, hfH] at hb; cases hb
    have nfa : ∀ y, foot m d y → ¬ y = fa := fun y hy e => by
      obtain ⟨o, eo, _⟩ := hm.h.get hy
      rw [e, hfH] at eo
      cases eo
    walk_at "gs"
    have hr9 := B.rows
    refine ⟨by rw [hbl]; omega, by rw [hbl]; omega, ?_⟩
    rw [show (s0.rows.map fun r => V.int r.l).length = s0.rows.length from List.length_map _]
    refine for_range (n := s0.rows.length) (fun i σ H5 => ∃ (y3 y4 y5 y6 : Option V) (ws : List V), σ = [some (.ref m), some (.ref b), some (.ref fa), y3, y4, y5, y6] ∧ Fr (fun y => y = fa) H4 H5 ∧ H5 fa = some (.lst ws) ∧ RTA (era H5 fa) ws (hdT n s0 ++ (s0.rows.take i).map (rowT s0)))
      ⟨none, none, none, none, _, rfl, Fr.refl _ _, hfa4, by rw [List.take_zero, List.map_nil, List.append_nil]; exact hdr⟩ (fun i σ H5 hil pv => ?_) fun σ H5 pv => ?_
    · obtain ⟨y3, y4, y5, y6, ws, rfl, f, hfa5, hr5⟩ := pv
      have hrs : s0.rows[i]? = some s0.rows[i] := List.getElem?_eq_getElem hil
      obtain ⟨r, hr0⟩ : ∃ r, s0.rows[i]? = some r := ⟨_, hrs⟩
      have hrow : s0.row i = r := by
        show s0.rows.getD i row0 = r
        rw [List.getD_eq_getElem?_getD, hr0] <;> rfl
      have hm5 : MA K H5 m p q z d s0 := ⟨hm4.h.fr f nfa, hm4.v.tp f.tp⟩
      have hb5 := f.at_ hb4 nb
      have hbi : (s0.rows.map fun r => V.int r.l)[i]? = some (.int r.l) := by rw [List.getElem?_map, hr0] <;> rfl
      have hi := hm5.h.ins
      walk_at "gs"
      rw [Int.zero_add]
      walk_at "gs"
      refine ⟨szk (n := 5) (by decide), fun L hL => ?_⟩
      have s5 := Same.new (o := .lst [.int 0, .int 1, .int 2, .int 3, .int (r.l - 1)]) hL
      have hL5 : upd H5 L (.lst [.int 0, .int 1, .int 2, .int 3, .int (r.l - 1)]) L = some (.lst (([0, 1, 2, 3, r.l - 1] : List Int).map .int)) := upd_same
      generalize upd H5 L (.lst [.int 0, .int 1, .int 2, .int 3, .int (r.l - 1)]) = H6 at s5 hL5 ⊢
      have hb6 := s5 _ _ hb5
      walk_at "gs"
      refine ⟨⟨_, SqL.of hL5⟩, fun D5 hD5 => ?_⟩
      refine lc_list (xs := ([0, 1, 2, 3, r.l - 1] : List Int).map .int) (fun j H' => Same H6 H' ∧ H' D5 = some (.lst (((([0, 1, 2, 3, r.l - 1] : List Int).take j).filter fun k => decide (0 ≤ k) && decide (k < r.l)).map .int))) ⟨Same.new hD5, upd_same⟩ (fun j H' _ pv => SqL.of (pv.1 _ _ hL5)) (fun j y H' hx pv => ?_) fun H' pv => ?_
      · obtain ⟨sm, hDD⟩ := pv
        obtain ⟨z, hz, rfl⟩ : ∃ z, ([0, 1, 2, 3, r.l - 1] : List Int)[j]? = some z ∧ V.int z = y := by
          rw [List.getElem?_map] at hx
          exact Option.map_eq_some_iff.mp hx
        have hjz := (List.length_filter_le (fun k => decide (0 ≤ k) && decide (k < r.l)) (([0, 1, 2, 3, r.l - 1] : List Int).take j))
        have hjz2 : (([0, 1, 2, 3, r.l - 1] : List Int).take j).length ≤ 5 := by rw [List.length_take]; exact Nat.min_le_right _ _
        have hb7 := sm _ _ hb6
        rw [kst hz]
        walk_at "gs"
        refine iteD (fun q1 => ?_) (fun q1 => ?_)
        · walk_at "gs"
          refine iteD (fun q2 => ?_) (fun q2 => ?_)
          · walk_at "gs"
            refine ⟨_, hDD, lt_line (by rw [List.length_map]; omega), fun a o h => ?_, ?_⟩
            · rw [upd_ne (ne_of_none h hD5)]; exact sm _ _ h
            · rw [upd_same, if_pos ⟨of_decide_eq_true q1, of_decide_eq_true q2⟩, List.map_append] <;> rfl
          · rw [if_neg (fun c => of_decide_eq_false q2 c.2), List.append_nil]
            exact ⟨sm, hDD⟩
        · walk_at "gs"
          rw [if_neg (fun c => of_decide_eq_false q1 c.1), List.append_nil]
          exact ⟨sm, hDD⟩
      obtain ⟨sm6, hD6⟩ := pv
      have hD6 : H' D5 = some (.lst ((ks r.l).map .int)) := hD6
      have s46 := Same.trans s5 sm6
      have hm6 := hm5.same s46
      have hfa6 := s46 _ _ hfa5
      clear hi
      walk_at "gs"
      refine ⟨⟨_, SqL.of hD6⟩, fun D7 hD7 => ?_⟩
      refine lc_list (xs := (ks r.l).map .int) (fun j H7 => Same H' H7 ∧ ∃ us, H7 D7 = some (.lst us) ∧ RpA H7 us (((ks r.l).take j).map fun k => ctD (s0.found r.b (r.s + k)))) ⟨Same.new hD7, [], upd_same, RpA.nil⟩ (fun j H7 _ pv => SqL.of (pv.1 _ _ hD6)) (fun j y H7 hx pv => ?_) fun H7 pv => ?_
      · obtain ⟨sm, us, hDD, hus⟩ := pv
        obtain ⟨z2, hz, rfl⟩ : ∃ z, (ks r.l)[j]? = some z ∧ V.int z = y := by
          rw [List.getElem?_map] at hx
          exact Option.map_eq_some_iff.mp hx
        have hm7 := hm6.same sm
        have hi := hm7.h.ins
        have hzin := ks_in (List.mem_of_getElem? hz)
        walk_at "gs"
        refine ⟨m, p, q, z, d, s0, (i : Int), z2, rfl, hm7, fun h => ?_, fun i' ei hl' => ?_⟩
        · exfalso; omega
        have ei : i' = i := by omega
        subst ei
        rw [hrow]
        refine ⟨fun h => ?_, fun h1 h2 => ⟨hrb r (List.mem_of_getElem? hr0), by rw [hcr]; exact hrb r (List.mem_of_getElem? hr0), fun v H8 s8 rv => ?_⟩⟩
        · exfalso; omega
        have e1 : s0.look i' z2 = s0.found r.b (r.s + z2) := by unfold MS.look; rw [hrow]
        rw [e1] at rv
        have hDD8 := s8 _ _ hDD
        refine ⟨us, hDD8, lt_line (by rw [hus.length, List.length_map, List.length_take]; have := ks_len r.l; omega), fun a o h => ?_, us ++ [v], upd_same, ?_⟩
        · rw [upd_ne (ne_of_none h hD7)]
          exact s8 _ _ (sm _ _ h)
        · have tp := tp_put (o := .lst (us ++ [v])) hDD8 fun _ z => by cases z
          rw [List.take_succ, hz, List.map_append]
          exact (RpA.tp (fun b xs h => tp _ _ (Same.tp s8 _ _ h)) hus).snoc (Rp.tp tp rv)
      obtain ⟨sm7, us, hD7', hus⟩ := pv
      rw [List.length_map, List.take_length] at hus
      have hm7 := hm6.same sm7
      have hi := hm7.h.ins
      have hfa7 := sm7 _ _ hfa6
      walk_at "gs"
      refine ⟨m, p, q, z, d, s0, (i : Int), rfl, hm7, fun i' ei hl' => ?_, fun h => ?_⟩
      · have ei : i' = i := by omega
        subst ei
        rw [hrow]
        walk_at "gs"
        refine ⟨m, p, q, z, d, s0, i', rfl, hm7, hl', by rw [hrow, hcm]; exact hrb r (List.mem_of_getElem? hr0), ?_⟩
        rw [hrow]
        walk_at "gs"
        refine ⟨szk (n := 3) (by decide), fun rl hrl7 => ?_⟩
        have s8 := Same.new (o := .lst [capV r.c, .int (s0.makers.getD r.b 0), .ref D7]) hrl7
        have hfa8 := s8 _ _ hfa7
        have n1 : rl ≠ fa := Ne.symm (ne_of_none hfa7 hrl7)
        have n2 : D7 ≠ fa := Ne.symm (ne_of_none hfa6 hD7)
        have e8 : RT (era (upd H7 rl (.lst [capV r.c, .int (s0.makers.getD r.b 0), .ref D7])) fa) (.ref rl) (rowT s0 r) := by
          refine rt_l.mpr ⟨rl, _, rfl, era_at upd_same n1, RTA.cons (rt_cap _) (RTA.cons (rt_i.mpr rfl) (RTA.cons (rt_l.mpr ⟨D7, us, rfl, era_at (s8 _ _ hD7') n2, ?_⟩) RTA.nil))⟩
          have e9 : ((ks r.l).map fun k => ctT (s0.found r.b (r.s + k))) = ((ks r.l).map fun k => s0.found r.b (r.s + k)).map ctT := by rw [List.map_map] <;> rfl
          have e10 : ((ks r.l).map fun k => ctD (s0.found r.b (r.s + k))) = ((ks r.l).map fun k => s0.found r.b (r.s + k)).map ctD := by rw [List.map_map] <;> rfl
          rw [e9]
          rw [e10] at hus
          have hus8 := RpA.tp (Same.tp s8) hus
          exact rta_ct (RpA.tp (fun b xs h => era_at h fun z => by rw [z, hfa8] at h; cases h) hus8)
        refine ⟨fa, ws, _, rfl, rfl, hfa8, lt_line (by rw [hr5.length, List.length_append, List.length_map, List.length_take]; show 4 + _ ≤ _; omega), ?_⟩
        refine ⟨_, _, _, _, _, rfl, (f.trans (Fr.of (W := fun y => y = fa) (Same.trans s46 (Same.trans sm7 s8))) fun _ h => .inl h).trans (W' := fun y => y = fa) (Fr.put rfl hfa8 fun _ z => by cases z) fun _ h => .inl h, upd_same, ?_⟩
        rw [era_upd, List.take_succ, hr0, List.map_append, ← List.append_assoc]
        exact (RTA.same (era_same2 (Same.trans s46 (Same.trans sm7 s8))) hr5).snoc e8
      · exfalso; omega
    · obtain ⟨y3, y4, y5, y6, ws, rfl, f, hfa5, hr5⟩ := pv
      rw [List.take_length] at hr5
      walk_at "gs"
      exact ⟨fa, stT n s0, rfl, rt_l.mpr ⟨fa, ws, rfl, hfa5, RTA.same (era_sub _ _) hr5⟩, W.sm, W.wt, W.dp, k _ (Same.of_fr smA f fun y e => by rw [e]; exact hfH)⟩
end
end GB
set_option maxHeartbeats 4000000
/-! GRef0: rules for _law_refused. -/
namespace GB
open PySem PySem.Spec PyProof.Rows L2
/-- bs.count(True) -/
def rCountB (K : Frg) : V → List V → Hp → VK → Prop := fun x xs H Q => ∃ (p : Addr) (bs : List Bool), x = .ref p ∧ xs = [.bl true] ∧ SqL K H p (bs.map V.bl) ∧ Q (.int (bs.count true : Nat)) H
theorem count_bls : ∀ {bs : List Bool} {its : List Value}, Vals (bs.map V.bl) its → its.countP (eqU (.bl true)) = bs.count true
  | [], its, r => by cases r; rfl
  | b :: bs, its, r => by
    cases r with
    | cons r1 r2 =>
      rw [List.countP_cons, List.count_cons, count_bls r2, eqU_of r1 rfl]
      cases b <;> rfl
theorem mt_count {X : Cx} : MtR X "list.count" (rCountB X.K) := by
  intro pins s σ H x xs v us Q I rx rxs h
  obtain ⟨p, bs, rfl, rfl, hs, q⟩ := h
  cases rx
  obtain ⟨u, rfl, ru⟩ := rxs.one
  obtain ⟨its, rv, ⟨⟨cls, dd, data, sl⟩, n, ho, hc, hdn, hd⟩, hlen⟩ := I.list hs
  simp only at hc hd
  subst hc hd
  have fl : (bs.map V.bl).all flatV = true := by
    rw [List.all_eq_true]
    intro z hz
    obtain ⟨b, _, rfl⟩ := List.mem_map.mp hz
    rfl
  refine call_meets PySem.F.slot_list_count ⟨_, ho, rfl⟩ PySem.F.entry_list_count (PySem.F.args_list_count_2 _ _)
    (SeqAt.list_countAt p its.toArray n dd sl u (eqU (.bl true))) ⟨ho, fun y hy => mem_eqAt ru rfl rv fl y (by simpa using hy), ?_⟩
  refine ⟨.int (bs.count true : Nat), H, I.tok _, ⟨s.toks, ?_⟩, q⟩
  show Value.int ((its.toArray.toList.countP (eqU (.bl true)) : Nat) : Int) s.toks = Value.int ((bs.count true : Nat) : Int) s.toks
  rw [show its.toArray.toList = its by simp, count_bls rv]
/-- x in (c, ..), its value -/
def tLitE (ta : TE) (t : TA) : TE := fun σ H Q => ta σ H fun x H1 => t σ H1 fun vs H2 => flatV x = true ∧ (vs.all flatV = true ∧ vs.length ≤ 1000) ∧ Q (.bl (inV x vs)) H2
theorem pe_litE {X : Cx} {a : Expr} {es : List Expr} {ta : TE} {t : TA} {pos p : Pos} {x1 : Nat} (ha : PE X a ta) (ht : PA X es t) (hm : behindInMarks .In (.Tuple es x1 p) = false := by rfl) : PE X (.Compare a [.In] [.Tuple es x1 p] pos) (tLitE ta t) := by
  refine ⟨fun pins s σ H Q I h => ?_⟩
  refine wpAny_Compare1 (thn (ha.run pins s σ H _ I h) fun v s1 ⟨x, H1, I1, r1, q1⟩ => wpAny_Tuple_spliced (thn (ht.run p pins s1 σ H1 _ I1 q1) fun us s2 ⟨vs, H2, I2, r2, fx, ⟨fs, z⟩, q2⟩ => ?_)) hm
  refine ⟨by rw [← r2.length]; exact szk z, ?_⟩
  have I3 : L2.Inv X pins σ H2 { s2 with heap := s2.heap.push { cls := .type "tuple", data := .seq us.toArray } } := I2.kept (t' := s2.toks) fun b u e => Heap.get?_push_of_some _ e
  have ht : IsTup (s2.heap.push { cls := .type "tuple", data := .seq us.toArray }) s2.heap.objs.size us.toArray := ⟨_, Heap.get?_push_size _ rfl, rfl, _, rfl⟩
  refine SeqAt.in_tupleAt (eqU x) ht (fun w hw => mem_eqAt r1 fx r2 fs w (by simpa using hw)) ?_
  refine ⟨.bl _, H2, I3, ?_, q2⟩
  show Value.bool _ = Value.bool _
  rw [show us.toArray.any (eqU x) = us.any (eqU x) by simp, any_eqU r2 fs] <;> rfl
end GB
set_option maxHeartbeats 4000000
/-! GL16: the word of an error. -/
namespace GB
open PySem PySem.Spec PyProof.Rows L2 LamX SkE
local macro_rules | `(tactic| walk_at "g") => `(tactic| first
  | refine ⟨_, rfl, ?_⟩
  | refine ⟨_, _, rfl, rfl, ?_⟩
  | refine ⟨_, _, _, _, rfl, rfl, SqT.of (by assumption), by rfl, ?_⟩
  | refine ⟨_, _, _, _, rfl, rfl, SqL.of (by assumption), by rfl, ?_⟩
  | refine ⟨_, _, _, _, rfl, rfl, SqL.of (by assumption), atI_nat (by assumption), ?_⟩
  | refine ⟨rfl, ⟨rfl, by decide⟩, ?_⟩
  | refine ⟨_, _, _, _, _, rfl, .ty _, .base (.tup (by assumption)), kt_tup, ?_⟩
  | refine ⟨_, _, _, _, _, rfl, .ty _, .base (.str _), kt_str, ?_⟩
  | refine ⟨_, _, rfl, .inr (SqT.of (by assumption)), ?_⟩
  | refine ⟨_, _, rfl, .inl (SqL.of (by assumption)), ?_⟩
  | refine iteT_of (by first | decide +kernel | rfl) ?_
  | refine iteF_of (by first | decide +kernel | rfl) ?_
  | refine iteT_of (btw_t (by omega)) ?_
  | refine iteF_of (by rw [btw_t (by omega)]; rfl) ?_
  | refine ⟨_, _, rfl, rfl, by assumption, ?_⟩
  | refine ⟨_, _, _, rfl, rfl, by assumption, ?_⟩
  | refine ⟨_, _, _, _, _, rfl, by assumption, Txt.cl (by assumption), by first | exact Txt.no_kept_program (by assumption) | exact Txt.no_kept_policy (by assumption) | exact Txt.no_rows (by assumption) | exact Txt.no_cells (by assumption) | exact Txt.no_makers (by assumption) | exact Txt.no_roots (by assumption) | exact Txt.no_seen (by assumption) | exact Txt.no_made (by assumption) | exact Txt.no_records (by assumption) | exact Txt.no_busy (by assumption), by rfl, ?_⟩
  | refine ⟨_, _, _, rfl, by assumption, by rfl, ?_⟩
  | refine ⟨_, _, _, rfl, ?_⟩
  | refine ⟨_, _, rfl, SqT.of (by assumption), by rfl, ?_⟩
  | refine ⟨_, _, rfl, ?_⟩
  | refine ⟨.inl (by decide), ?_⟩
  | refine ⟨.inl ⟨rfl, _, SqL.of (by assumption)⟩, ?_⟩
  | refine ⟨rfl, ?_⟩)
local macro_rules | `(tactic| walk_at "gs") => `(tactic| repeat walk_at "g")
local macro_rules | `(tactic| walk_at "b") => `(tactic| (first | decide +kernel | (simp only [decide_eq_true_eq, decide_eq_false_iff_not, List.length_map, V.int.injEq, Bool.not_eq_true', Bool.not_eq_false']; omega)))
abbrev trySt : Stmt := (defBody s_l_refused).getD 1 (.Pass ⟨0, 0, 0, 0⟩)
def nmsOf : Stmt → List (Str × Pos)
  | .Try _ [.ExceptHandler (some (.Tuple es _ _)) _ _ _] _ _ _ => es.map fun e => match e with
    | .Name n p => (n, p)
    | _ => ("", ⟨0, 0, 0, 0⟩)
  | _ => []
def eightN (K : Frg) : List (Str × Pos × Value) := List.zipWith (fun q v => (q.1, q.2, v)) (nmsOf trySt) (eight K)
/-- the error that comes, and what is said of it -/
def ExR (K : Frg) (Q : VK) : XK := fun cls d H' => ∃ (dd : Addr) (z : Int), d = some dd ∧ z.natAbs < 10 ^ 50 ∧ ((cls = .ref (CV K) ∧ H' dd = some (.xd [("view", .int z)]) ∧ ∀ H2, Same H' H2 → Q (.str ("view " ++ Str.ofString (toString z))) H2) ∨
  (cls = .ref (CC K) ∧ H' dd = some (.xd [("index", .int z)]) ∧ ∀ H2, Same H' H2 → Q (.str ("cell " ++ Str.ofString (toString z))) H2))
/-- _law_refused(..), where an error comes -/
def TTr (K : Frg) : (XK → Hp → VK → Prop) → Hp → VK → Prop := fun tl H Q => ∀ Q', tl (ExR K Q) H Q'
section
variable {X : Cx} {K : Frg} {mg : Str → Option Value}
abbrev rcx (X : Cx) (g : Addr) (cdg : Value) (s : Shared) (H : Hp) : Cx := (cxOf C8.CX0 X.prog X.w X.K X.mg X.base N_l_refused "_law_refused" (defScope s_l_refused) g cdg X.A X.stack s H C8.E0).nox
theorem refused_names (T : Txt X.K X.mg) {g : Addr} {cdg : Value} {s : Shared} {H : Hp} : ∀ t ∈ eightN X.K, Names (rcx X g cdg s H) t.1 t.2.2 := by
  intro t ht
  have e : eightN X.K = ([("GrowError", (nmsOf trySt)[0].2, .ref (He.ga X.K "GrowError")), ("NoView", (nmsOf trySt)[1].2, .ref (CV X.K)), ("NoCell", (nmsOf trySt)[2].2, .ref (CC X.K)), ("NoRead", (nmsOf trySt)[3].2, .ref (He.ga X.K "NoRead")),
    ("NoCandidate", (nmsOf trySt)[4].2, .ref (He.ga X.K "NoCandidate")), ("NoUndo", (nmsOf trySt)[5].2, .ref (He.ga X.K "NoUndo")), ("Finished", (nmsOf trySt)[6].2, .ref (He.ga X.K "Finished")), ("Busy", (nmsOf trySt)[7].2, .ref (He.ga X.K "Busy"))] : List (Str × Pos × Value)) := rfl
  rw [e] at ht
  simp only [List.mem_cons, List.not_mem_nil, or_false] at ht
  rcases ht with rfl | rfl | rfl | rfl | rfl | rfl | rfl | rfl
  · exact ⟨rfl, by show (("GrowError" : Str) == "__debug__") = false; decide, .inl T.g_GrowError.g⟩
  · exact ⟨rfl, by show (("NoView" : Str) == "__debug__") = false; decide, .inl T.g_NoView.g⟩
  · exact ⟨rfl, by show (("NoCell" : Str) == "__debug__") = false; decide, .inl T.g_NoCell.g⟩
  · exact ⟨rfl, by show (("NoRead" : Str) == "__debug__") = false; decide, .inl T.g_NoRead.g⟩
  · exact ⟨rfl, by show (("NoCandidate" : Str) == "__debug__") = false; decide, .inl T.g_NoCandidate.g⟩
  · exact ⟨rfl, by show (("NoUndo" : Str) == "__debug__") = false; decide, .inl T.g_NoUndo.g⟩
  · exact ⟨rfl, by show (("Finished" : Str) == "__debug__") = false; decide, .inl T.g_Finished.g⟩
  · exact ⟨rfl, by show (("Busy" : Str) == "__debug__") = false; decide, .inl T.g_Busy.g⟩
theorem takes_len {X : Cx} {W : WX} (tk : L2.Takes X W) : L2.Takes X (fun cls d σ H => σ.length = X.N.length → W cls d σ H) := fun u s' ⟨a, B, sI, pins, σ, H, cls, d, e, I, nb, up, sky, na, os, ag, w⟩ =>
  tk u s' ⟨a, B, sI, pins, σ, H, cls, d, e, I, nb, up, sky, na, os, ag, w I.len⟩
/-- the reading of the try statement -/
def tTry (K : Frg) (f c' : Addr) (q : Str) (tl : XK → Hp → VK → Prop) : TS := fun D σ H => ∃ Ech : XK, (∀ cls d σ' H', σ'.length = 6 → Ech cls d H' → wTup K (eight K) 2 (fun _ _ _ => tAsg (tVar 2) (gName 1)) D cls d σ' H') ∧ σ[0]? = some (some (.ref f)) ∧ H c' = some (CodeO c' q) ∧ tl Ech H (fun _ H1 => D.nx σ H1)
theorem ps_try (T : Txt X.K X.mg) {g f c' : Addr} {cdg : Value} {s : Shared} {H : Hp} {q : Str} {tl : XK → Hp → VK → Prop}
    (act : ∀ (W : WX) (pn : List (Addr × Obj)) (xe : Value → Shared → Prop) (E : XK) (p1 p2 : Pos), Takes ((cxOf C8.CX0 X.prog X.w X.K X.mg X.base N_l_refused "_law_refused" (defScope s_l_refused) g cdg X.A X.stack s H C8.E0).tr pn xe) W → (∀ cls d σ' H', E cls d H' → W cls d σ' H') →
      PE ((cxOf C8.CX0 X.prog X.w X.K X.mg X.base N_l_refused "_law_refused" (defScope s_l_refused) g cdg X.A X.stack s H C8.E0).tr pn xe) (.Call (.Name "_law_call" p1) [] [] p2) (fun σZ HZ Q => σZ[0]? = some (some (.ref f)) ∧ HZ c' = some (CodeO c' q) ∧ tl E HZ Q)) :
    PS (rcx X g cdg s H) trySt (tTry X.K f c' q tl) := by
  refine ps_try_keep (X := rcx X g cdg s H) (l := eightN X.K) (i := 2) (ts := fun _ _ _ => tAsg (tVar 2) (gName 1))
      (tb := fun W D σ H => ∃ Ech : XK, (∀ cls d σ' H', σ'.length = 6 → Ech cls d H' → W cls d σ' H') ∧ σ[0]? = some (some (.ref f)) ∧ H c' = some (CodeO c' q) ∧ tl Ech H (fun _ H1 => D.nx σ H1))
      rfl rfl rfl sc_l_refused.nd rfl rfl (refused_names T) (by show 8 ≤ 100; decide) (fun W pn xe tk _ => ?_) (fun a oe cls d pn _ _ => pss_one (ps_set (i := 1) sc_l_refused.nd rfl (Or.inl rfl) (pv 2)))
  refine ⟨fun pins s' σ H' D I h' => ?_⟩
  obtain ⟨Ech, hW, h1, h2, h3⟩ := h'
  exact (pss_one (ps_expr (act _ pn xe Ech _ _ (takes_len tk) fun cls d σ' H' e hl => hW cls d σ' H' hl e))).run pins s' σ H' D I ⟨h1, h2, h3⟩
theorem refused_gives (T : Txt X.K X.mg) (TX : TxX X.K) {g : Addr} {cdg : Value} {q : Str} (hu : X.A.units + 100 < cLine) : GivesTo X N_l_refused "_law_refused" (defScope s_l_refused) g cdg (defBody s_l_refused) "_law_call" q (TTr X.K) := by
  intro f c' s H Q tl act hc h
  have tr := ps_try T (g := g) (cdg := cdg) act
  show ∃ t, PSs (rcx X g cdg s H) (defBody s_l_refused) t ∧ _
  · skip
    refine ⟨_, (pss_cons (ps_set (i := 1) sc_l_refused.nd rfl (Or.inl rfl) pe_non)
      (pss_cons tr
      (pss_cons (ps_if (pt_cmpR op_isN (pv 1) pe_non (nomark _))
       (pss_one (ps_ret pe_str))
       pss_nil)
      (pss_cons (ps_set (i := 3) sc_l_refused.nd rfl (Or.inl rfl) (pe_lst (pa_cons (pe_callB call_isH rfl T.bi.isinstance (by decide +kernel) (pa_cons (pv 1) (pa_cons (pe_glob (v := .ref (He.ga _ "InvalidProgram")) rfl T.g_InvalidProgram.g rfl) pa_nil))) (pa_cons (pe_callB call_isH rfl T.bi.isinstance (by decide +kernel) (pa_cons (pv 1) (pa_cons (pe_glob (v := .ref (He.ga _ "InvalidPolicy")) rfl T.g_InvalidPolicy.g rfl) pa_nil))) (pa_cons (pe_callB call_isH rfl T.bi.isinstance (by decide +kernel) (pa_cons (pv 1) (pa_cons (pe_glob (v := .ref (He.ga _ "NoView")) rfl T.g_NoView.g rfl) pa_nil))) pa_nil)))))
      (pss_cons (ps_set (i := 3) sc_l_refused.nd rfl (Or.inl rfl) (pe_op op_cat (pv 3) (pe_lst (pa_cons (pe_callB call_isH rfl T.bi.isinstance (by decide +kernel) (pa_cons (pv 1) (pa_cons (pe_glob (v := .ref (He.ga _ "NoCell")) rfl T.g_NoCell.g rfl) pa_nil))) (pa_cons (pe_callB call_isH rfl T.bi.isinstance (by decide +kernel) (pa_cons (pv 1) (pa_cons (pe_glob (v := .ref (He.ga _ "NoUndo")) rfl T.g_NoUndo.g rfl) pa_nil))) (pa_cons (pe_callB call_isH rfl T.bi.isinstance (by decide +kernel) (pa_cons (pv 1) (pa_cons (pe_glob (v := .ref (He.ga _ "Finished")) rfl T.g_Finished.g rfl) pa_nil))) pa_nil))))))
      (pss_cons (ps_set (i := 3) sc_l_refused.nd rfl (Or.inl rfl) (pe_op op_cat (pv 3) (pe_lst (pa_cons (pe_callB call_isH rfl T.bi.isinstance (by decide +kernel) (pa_cons (pv 1) (pa_cons (pe_glob (v := .ref (He.ga _ "Busy")) rfl T.g_Busy.g rfl) pa_nil))) pa_nil))))
      (pss_cons (ps_if (PW.pt (pw_or (pt_cmpR op_ne (pe_bm PySem.F.plainAttrs_list PySem.F.slot_list_count PySem.F.type_list_count mt_count (pv 3) (pa_cons pe_bl pa_nil)) pe_int (nomark _)) (pw_or1 (pt_val (pe_callB call_isHT rfl T.bi.isinstance (by decide +kernel) (pa_cons (pv 1) (pa_cons (pe_tup (pa_cons (pe_glob (v := .ref (He.ga _ "NoRead")) rfl T.g_NoRead.g rfl) (pa_cons (pe_glob (v := .ref (He.ga _ "NoCandidate")) rfl T.g_NoCandidate.g rfl) (pa_cons (pe_glob (v := .ref (He.ga _ "InvalidText")) rfl T.g_InvalidText.g rfl) (pa_cons (pe_glob (v := .ref (He.ga _ "InvalidDemand")) rfl T.g_InvalidDemand.g rfl) pa_nil))))) pa_nil)))))))
       (pss_one (ps_ret pe_str))
       pss_nil)
      (pss_cons (ps_set (i := 4) sc_l_refused.nd rfl (Or.inl rfl) (pe_bm PySem.F.plainAttrs_list PySem.F.slot_list_index PySem.F.type_list_index mt_index (pv 3) (pa_cons pe_bl pa_nil)))
      (pss_cons (ps_set (i := 5) sc_l_refused.nd rfl (Or.inl rfl) (pe_lst (pa_cons (pe_callB call_isH rfl T.bi.isinstance (by decide +kernel) (pa_cons (pv 1) (pa_cons (pe_bltn (v := .ty "ValueError") rfl T.bi.ValueError (by decide +kernel) rfl) pa_nil))) (pa_cons (pe_callB call_isH rfl T.bi.isinstance (by decide +kernel) (pa_cons (pv 1) (pa_cons (pe_bltn (v := .ty "IndexError") rfl T.bi.IndexError (by decide +kernel) rfl) pa_nil))) (pa_cons (pe_callB call_isH rfl T.bi.isinstance (by decide +kernel) (pa_cons (pv 1) (pa_cons (pe_bltn (v := .ty "RuntimeError") rfl T.bi.RuntimeError (by decide +kernel) rfl) pa_nil))) pa_nil)))))
      (pss_cons (ps_if (PW.pt (pw_or (pt_cmpR (op_neD (by show X.A.units + 3 + 64 < cLine; omega)) (pv 5) (pe_lst (pa_cons (pe_cmpR op_lt (pv 4) pe_int (nomark _)) (pa_cons (pe_litE (pv 4) (pa_cons pe_int (pa_cons pe_int pa_nil))) (pa_cons (pe_cmpR op_gt (pv 4) pe_int (nomark _)) pa_nil)))) (nomark _)) (pw_or1 (pt_cmpR op_ne (pe_callB call_isH rfl T.bi.isinstance (by decide +kernel) (pa_cons (pv 1) (pa_cons (pe_bltn (v := .ty "LookupError") rfl T.bi.LookupError (by decide +kernel) rfl) pa_nil))) (pe_chain op_le op_lt pe_int (pv 4) pe_int) (nomark _)))))
       (pss_one (ps_ret pe_str))
       pss_nil)
      (pss_cons (ps_if (pt_cmpR op_eq (pv 4) pe_int (nomark _))
       (pss_one (ps_ret (pe_op op_add_str pe_str (pe_callB call_repr_int rfl T.bi.repr (by decide +kernel) (pa_cons (pe_xh (pv 1)) pa_nil)))))
       pss_nil)
      (pss_cons (ps_if (pt_cmpR op_eq (pv 4) pe_int (nomark _))
       (pss_one (ps_ret (pe_op op_add_str pe_str (pe_callB call_repr_int rfl T.bi.repr (by decide +kernel) (pa_cons (pe_xh (pv 1)) pa_nil)))))
       pss_nil)
      (pss_cons (ps_if (pt_cmpR op_eq (pv 4) pe_int (nomark _))
       (pss_one (ps_ret (pe_op op_add_str pe_str (pe_callB call_repr_int rfl T.bi.repr (by decide +kernel) (pa_cons (pe_xh (pv 1)) pa_nil)))))
       pss_nil)
      (pss_one (ps_ret (pe_ix ix_list (pe_lst (pa_cons pe_str (pa_cons pe_str (pa_cons pe_str (pa_cons pe_str (pa_cons pe_str (pa_cons pe_str (pa_cons pe_str pa_nil)))))))) (pv 4) (fun _ _ => rfl))))))))))))))))), ?_⟩
    refine ⟨ExR X.K Q, ?_, rfl, hc, h _⟩
    intro cls d σ' H1 hl6 hx
    obtain ⟨x0, x1, x2, x3, x4, x5, rfl⟩ : ∃ x0 x1 x2 x3 x4 x5 : Option V, σ' = [x0, x1, x2, x3, x4, x5] := by
      match σ', hl6 with
      | [x0, x1, x2, x3, x4, x5], _ => exact ⟨x0, x1, x2, x3, x4, x5, rfl⟩
    obtain ⟨dd, z, rfl, hz, hx⟩ := hx
    obtain ⟨D, fI, fld, v, wd, C, hf, hwd, rfl, hdd, k⟩ : ∃ (D fI : Addr) (fld : Str) (v : Bool) (wd : Str), ClsX X.K D fI fld v (!v) ∧ fld = (if v = true then "view" else "index") ∧ wd = (if v = true then "view " else "cell ") ∧ cls = .ref D ∧ H1 dd = some (.xd [(fld, .int z)]) ∧ (∀ H2, Same H1 H2 → Q (.str (wd ++ Str.ofString (toString z))) H2) := by
      rcases hx with ⟨e, hdd, k⟩ | ⟨e, hdd, k⟩
      · exact ⟨_, _, _, true, _, TX.v, rfl, rfl, e, hdd, k⟩
      · exact ⟨_, _, _, false, _, TX.c, rfl, rfl, e, hdd, k⟩
    refine ⟨C.exm, fun a ha => ?_⟩
    have hM := C.marks
    simp only [marksOf, List.forall_mem_cons] at hM
    obtain ⟨m1, m2, m3, m4, m5, m6, m7, m8, m9, m10, m11, _⟩ := hM
    walk_at "gs"
    have s1 := Same.new (o := excO a (.ref D) (some dd)) ha
    have hd2 : upd H1 a (excO a (.ref D) (some dd)) dd = some (.xd [(fld, .int z)]) := s1 _ _ hdd
    have hb : upd H1 a (excO a (.ref D) (some dd)) a = some (excO a (.ref D) (some dd)) := upd_same
    generalize upd H1 a (excO a (.ref D) (some dd)) = H2 at hd2 s1 hb ⊢
    have hx2 : ∀ {H' : Hp}, Same H2 H' → XdOk H' (some dd) := fun f => ⟨_, f _ _ hd2⟩
    walk_at "gs"
    refine ⟨a, D, some dd, _, _, _, rfl, .own _, hb, hx2 (Same.refl _), C.ec, m1, ?_⟩
    walk_at "gs"
    refine ⟨a, D, some dd, _, _, _, rfl, .own _, hb, hx2 (Same.refl _), C.ec, m2, ?_⟩
    walk_at "gs"
    refine ⟨a, D, some dd, _, _, _, rfl, .own _, hb, hx2 (Same.refl _), C.ec, m3, ?_⟩
    refine ⟨szk (n := 3) (by decide), fun l1 n1 => ?_⟩
    have t1 := Same.new (o := .lst [.bl false, .bl false, .bl v]) n1
    have e1 : upd H2 l1 (.lst [.bl false, .bl false, .bl v]) l1 = some (.lst [.bl false, .bl false, .bl v]) := upd_same
    generalize upd H2 l1 (.lst [.bl false, .bl false, .bl v]) = H3 at t1 e1 ⊢
    walk_at "gs"
    refine ⟨a, D, some dd, _, _, _, rfl, .own _, t1 _ _ hb, hx2 t1, C.ec, m4, ?_⟩
    walk_at "gs"
    refine ⟨a, D, some dd, _, _, _, rfl, .own _, t1 _ _ hb, hx2 t1, C.ec, m5, ?_⟩
    walk_at "gs"
    refine ⟨a, D, some dd, _, _, _, rfl, .own _, t1 _ _ hb, hx2 t1, C.ec, m6, ?_⟩
    refine ⟨szk (n := 3) (by decide), fun l2 n2 => ?_⟩
    have t2 := Same.new (o := .lst [.bl (!v), .bl false, .bl false]) n2
    refine ⟨l1, l2, _, _, rfl, rfl, t2 _ _ e1, upd_same, szk (n := 6) (by decide), fun l3 n3 => ?_⟩
    have t3 := Same.trans (Same.trans t1 t2) (Same.new (o := .lst [.bl false, .bl false, .bl v, .bl (!v), .bl false, .bl false]) n3)
    have e3 : upd (upd H3 l2 (.lst [.bl (!v), .bl false, .bl false])) l3 (.lst [.bl false, .bl false, .bl v, .bl (!v), .bl false, .bl false]) l3 = some (.lst [.bl false, .bl false, .bl v, .bl (!v), .bl false, .bl false]) := upd_same
    show tSeq _ _ _ _ (upd (upd H3 l2 (.lst [.bl (!v), .bl false, .bl false])) l3 (.lst [.bl false, .bl false, .bl v, .bl (!v), .bl false, .bl false]))
    generalize upd (upd H3 l2 (.lst [.bl (!v), .bl false, .bl false])) l3 (.lst [.bl false, .bl false, .bl v, .bl (!v), .bl false, .bl false]) = H4 at t3 e3 ⊢
    walk_at "gs"
    refine ⟨a, D, some dd, _, _, _, rfl, .own _, t3 _ _ hb, hx2 t3, C.ec, m7, ?_⟩
    refine ⟨szk (n := 1) (by decide), fun l4 n4 => ?_⟩
    have t4 := Same.new (o := .lst [.bl false]) n4
    refine ⟨l3, l4, _, _, rfl, rfl, t4 _ _ e3, upd_same, szk (n := 7) (by decide), fun l5 n5 => ?_⟩
    have t5 := Same.trans (Same.trans t3 t4) (Same.new (o := .lst [.bl false, .bl false, .bl v, .bl (!v), .bl false, .bl false, .bl false]) n5)
    have e5 : upd (upd H4 l4 (.lst [.bl false])) l5 (.lst [.bl false, .bl false, .bl v, .bl (!v), .bl false, .bl false, .bl false]) l5 = some (.lst ([false, false, v, !v, false, false, false].map V.bl)) := upd_same
    show tSeq _ _ _ _ (upd (upd H4 l4 (.lst [.bl false])) l5 (.lst [.bl false, .bl false, .bl v, .bl (!v), .bl false, .bl false, .bl false]))
    generalize upd (upd H4 l4 (.lst [.bl false])) l5 (.lst [.bl false, .bl false, .bl v, .bl (!v), .bl false, .bl false, .bl false]) = H5 at t5 e5 ⊢
    walk_at "gs"
    refine ⟨_, _, rfl, rfl, SqL.of e5, ?_⟩
    have hcnt : ([false, false, v, !v, false, false, false].count true) = 1 := by cases v <;> rfl
    rw [hcnt]
    walk_at "gs"
    refine ⟨szk (n := 4) (by decide), fun tp ntp => ?_⟩
    have t6' := Same.new (o := .tup [.ref (He.ga X.K "NoRead"), .ref (He.ga X.K "NoCandidate"), .ref (He.ga X.K "InvalidText"), .ref (He.ga X.K "InvalidDemand")]) ntp
    have t6 := Same.trans t5 t6'
    refine ⟨a, D, tp, some dd, _, four X.K, false, rfl, upd_same, .cons (.own _) (.cons (.own _) (.cons (.own _) (.cons (.own _) .nil))), t6 _ _ hb, hx2 t6, C.ec, C.four, ?_⟩
    have e6 := t6' _ _ e5
    generalize upd H5 tp (.tup [.ref (He.ga X.K "NoRead"), .ref (He.ga X.K "NoCandidate"), .ref (He.ga X.K "InvalidText"), .ref (He.ga X.K "InvalidDemand")]) = H6 at t6 e6 ⊢
    walk_at "gs"
    refine ⟨l5, _, .bl true, if v = true then 2 else 3, .bl true, rfl, rfl, SqL.of e6, rfl, by cases v <;> rfl, by cases v <;> rfl, rfl, fun m z' hm hz' => ?_, ?_⟩
    · cases v
      · match m, hm with
        | 0, _ => cases hz'; rfl
        | 1, _ => cases hz'; rfl
        | 2, _ => cases hz'; rfl
      · match m, hm with
        | 0, _ => cases hz'; rfl
        | 1, _ => cases hz'; rfl
    walk_at "gs"
    refine ⟨a, D, some dd, _, _, _, rfl, .ty _, t6 _ _ hb, hx2 t6, C.ec, m8, ?_⟩
    walk_at "gs"
    refine ⟨a, D, some dd, _, _, _, rfl, .ty _, t6 _ _ hb, hx2 t6, C.ec, m9, ?_⟩
    walk_at "gs"
    refine ⟨a, D, some dd, _, _, _, rfl, .ty _, t6 _ _ hb, hx2 t6, C.ec, m10, ?_⟩
    refine ⟨szk (n := 3) (by decide), fun l6 n6 => ?_⟩
    have t7' := Same.new (o := .lst [.bl false, .bl true, .bl false]) n6
    have t7 := Same.trans t6 t7'
    have e7 : upd H6 l6 (.lst [.bl false, .bl true, .bl false]) l6 = some (.lst [.bl false, .bl true, .bl false]) := upd_same
    generalize upd H6 l6 (.lst [.bl false, .bl true, .bl false]) = H7 at t7 e7 ⊢
    have fin : ∀ {H' : Hp}, Same H7 H' → Same H1 H' := fun f => Same.trans s1 (Same.trans t7 f)
    cases v
    · subst hf hwd
      rw [show ((if false = true then 2 else 3 : Nat) : Int) = 3 from rfl]
      walk_at "gs"
      refine ⟨szk (n := 3) (by decide), fun l7 n7 => ?_⟩
      have t8 := Same.new (o := .lst [.bl (decide ((3 : Int) < 2)), .bl (inV (.int 3) [.int 2, .int 3]), .bl (decide ((4 : Int) < 3))]) n7
      have e8 : upd H7 l7 (.lst [.bl (decide ((3 : Int) < 2)), .bl (inV (.int 3) [.int 2, .int 3]), .bl (decide ((4 : Int) < 3))]) l7 = some (.lst [.bl false, .bl true, .bl false]) := upd_same
      refine ⟨.list [.bool false, .bool true, .bool false], .list [.bool false, .bool true, .bool false], .lst (SqL.of (t8 _ _ e7)) (.cons (.bl _) (.cons (.bl _) (.cons (.bl _) .nil))), .lst (SqL.of e8) (.cons (.bl _) (.cons (.bl _) (.cons (.bl _) .nil))), rfl, rfl, ?_⟩
      walk_at "gs"
      have t9 := Same.trans t7 t8
      refine ⟨a, D, some dd, _, _, _, rfl, .ty _, t9 _ _ hb, hx2 t9, C.ec, m11, ?_⟩
      walk_at "gs"
      refine ⟨a, D, dd, _, _, rfl, t9 _ _ hb, t9 _ _ hd2, rfl, C.xf, C.no, ?_⟩
      walk_at "gs"
      refine ⟨log_of hz, ?_⟩
      walk_at "gs"
      have hln : (Str.ofString (toString z)).length ≤ 51 := sh_int hz
      refine ⟨by rw [sizeLine_eq]; show 5 + (Str.ofString (toString z)).length ≤ _; omega, ?_⟩
      exact k _ (fin t8)
    · subst hf hwd
      rw [show ((if true = true then 2 else 3 : Nat) : Int) = 2 from rfl]
      walk_at "gs"
      refine ⟨szk (n := 3) (by decide), fun l7 n7 => ?_⟩
      have t8 := Same.new (o := .lst [.bl (decide ((2 : Int) < 2)), .bl (inV (.int 2) [.int 2, .int 3]), .bl (decide ((4 : Int) < 2))]) n7
      have e8 : upd H7 l7 (.lst [.bl (decide ((2 : Int) < 2)), .bl (inV (.int 2) [.int 2, .int 3]), .bl (decide ((4 : Int) < 2))]) l7 = some (.lst [.bl false, .bl true, .bl false]) := upd_same
      refine ⟨.list [.bool false, .bool true, .bool false], .list [.bool false, .bool true, .bool false], .lst (SqL.of (t8 _ _ e7)) (.cons (.bl _) (.cons (.bl _) (.cons (.bl _) .nil))), .lst (SqL.of e8) (.cons (.bl _) (.cons (.bl _) (.cons (.bl _) .nil))), rfl, rfl, ?_⟩
      walk_at "gs"
      have t9 := Same.trans t7 t8
      refine ⟨a, D, some dd, _, _, _, rfl, .ty _, t9 _ _ hb, hx2 t9, C.ec, m11, ?_⟩
      walk_at "gs"
      refine ⟨a, D, dd, _, _, rfl, t9 _ _ hb, t9 _ _ hd2, rfl, C.xf, C.no, ?_⟩
      walk_at "gs"
      refine ⟨log_of hz, ?_⟩
      walk_at "gs"
      have hln : (Str.ofString (toString z)).length ≤ 51 := sh_int hz
      refine ⟨by rw [sizeLine_eq]; show 5 + (Str.ofString (toString z)).length ≤ _; omega, ?_⟩
      exact k _ (fin t8)
end
end GB
set_option maxHeartbeats 4000000
/-! GLam: _law_refused(lambda: ..). -/
namespace GB
open PySem PySem.Spec PyProof.Rows L2 LamX
/-- a loop over enumerate(a list) -/
theorem for_eL {K : Frg} {a : Addr} {xs : List V} {g : TG} {tb : TS} {D : Ends} {σ : L2.St} {H : Hp} (Pv : Nat → L2.St → Hp → Prop) (h0 : Pv 0 σ H) (hl : ∀ i σ H, i ≤ xs.length → Pv i σ H → SqL K H a xs)
    (hs : ∀ i x σ H Z, xs[i]? = some x → Pv i σ H → H Z = none → g (.ref Z) σ (upd H Z (.tup [.int (i : Nat), x])) fun σ2 H2 => tb { D with nx := Pv (i + 1), ct := Pv (i + 1), bk := D.nx } σ2 H2) (hd : ∀ σ H, Pv xs.length σ H → D.nx σ H) :
    ∃ W : Nat → Nat → L2.St → Hp → Prop, (∃ m, W 0 m σ H) ∧ ∀ i m σ H, W i m σ H →
      ((Ite K a).stop i H ∧ D.nx σ H) ∨ ((Ite K a).go i H ∧ ∃ N : L2.St → Hp → Prop, (∀ σ' H', N σ' H' → ∃ m', m' < m ∧ W (i + 1) m' σ' H') ∧ ∀ x H', (Ite K a).yld i H x H' → g x σ H' fun σ2 H2 => tb { D with nx := N, ct := N, bk := D.nx } σ2 H2) := by
  refine ⟨fun i m σ H => m = xs.length - i ∧ i ≤ xs.length ∧ Pv i σ H, ⟨xs.length, by simp, Nat.zero_le _, h0⟩, ?_⟩
  rintro i m σ H ⟨rfl, hi, p⟩
  have q := hl i σ H hi p
  rcases Nat.lt_or_ge i xs.length with hlt | hge
  · refine .inr ⟨⟨xs, xs[i], q, by simp [hlt]⟩, Pv (i + 1), fun σ' H' p' => ⟨xs.length - (i + 1), by omega, rfl, hlt, p'⟩, fun v H' y => ?_⟩
    obtain ⟨Z, x, rfl, nZ, rfl, hx⟩ := y
    exact hs i x σ H Z (hx xs q) p nZ
  · have e : i = xs.length := by omega
    subst e
    exact .inl ⟨⟨xs, q, Nat.le_refl _⟩, hd σ H p⟩
/-- the tables of code objects that the law's defs fill -/
def Tb (K : Frg) : List (Addr × Str) := [((He.cT K d_l_stands.at_).2, "_law_stands.<locals>.<lambda>"), ((He.cT K d_l_deed_done.at_).2, "_law_deed_done.<locals>.<lambda>"), ((He.cT K d_l_ending.at_).2, q_look)]
structure TxT (K : Frg) (mg : Str → Option Value) (base : Heap) : Prop where
  t1 : TabB base mg (He.cT K d_l_stands.at_).1 (He.cT K d_l_stands.at_).2
  t2 : TabB base mg (He.cT K d_l_deed_done.at_).1 (He.cT K d_l_deed_done.at_).2
  t3 : TabB base mg (He.cT K d_l_ending.at_).1 (He.cT K d_l_ending.at_).2
  n12 : (He.cT K d_l_stands.at_).2 ≠ (He.cT K d_l_deed_done.at_).2
  n13 : (He.cT K d_l_stands.at_).2 ≠ (He.cT K d_l_ending.at_).2
  n23 : (He.cT K d_l_deed_done.at_).2 ≠ (He.cT K d_l_ending.at_).2
section
variable {K : Frg} {mg : Str → Option Value} {base : Heap}
theorem TxT.u1 (t : TxT K mg base) : ∀ p ∈ Tb K, p.1 = (He.cT K d_l_stands.at_).2 → p.2 = "_law_stands.<locals>.<lambda>" := by
  intro p hp e
  simp only [Tb, List.mem_cons, List.not_mem_nil, or_false] at hp
  rcases hp with rfl | rfl | rfl
  · rfl
  · exact absurd e.symm t.n12
  · exact absurd e.symm t.n13
theorem TxT.u2 (t : TxT K mg base) : ∀ p ∈ Tb K, p.1 = (He.cT K d_l_deed_done.at_).2 → p.2 = "_law_deed_done.<locals>.<lambda>" := by
  intro p hp e
  simp only [Tb, List.mem_cons, List.not_mem_nil, or_false] at hp
  rcases hp with rfl | rfl | rfl
  · exact absurd e t.n12
  · rfl
  · exact absurd e.symm t.n23
theorem TxT.u3 (t : TxT K mg base) : ∀ p ∈ Tb K, p.1 = (He.cT K d_l_ending.at_).2 → p.2 = q_look := by
  intro p hp e
  simp only [Tb, List.mem_cons, List.not_mem_nil, or_false] at hp
  rcases hp with rfl | rfl | rfl
  · exact absurd e t.n13
  · exact absurd e t.n23
  · rfl
end
section
variable {X : Cx} {params : Arguments} {body : Expr} {scope : Scope} {t : XK → TE} {p lpos pos : Pos} {c q : Addr}
/-- _law_refused(lambda: body) -/
theorem pe_refused (T : Txt X.K X.mg) (TX : TxX X.K) (hu0 : X.A.units + 100 < cLine) (hg : Gl X "_law_refused") (TB : TabB X.base X.mg c q) (hcode : X.env.code = .ref c) (hmT : (q, X.env.qual ++ "<lambda>") ∈ Tb X.K) (hu : ∀ p ∈ Tb X.K, p.1 = q → p.2 = X.env.qual ++ "<lambda>") (hr : Room 6 X.A) (L : LamS X.env.scope scope)
    (hdef : defaultsOf params X.env = ([], [])) (hbind : ∀ (q : Str) (cl : List (Str × Addr)) (pm cv ctv : Value), bindArgs (PySem.W.kla_fn "<lambda>" q params body scope cl pm cv ctv) ⟨[], []⟩ = pure [])
    (hbody : ∀ (A : Around) (outer : List Env) (s : Shared) (H : Hp) (E : XK) (f c' : Addr), Room 4 (A.deeper (lamEnv X scope s.heap.objs.size f c')) → PE (lamCx X A outer s H E scope f c') body (t E)) :
    PE X (.Call (.Name "_law_refused" p) [.Lambda params body scope lpos] [] pos) (tLam (Tb X.K) (TTr X.K) t) := by
  obtain ⟨fd, F⟩ := T.f_l_refused
  have hb := F.bindsN (ps := P_l_refused) (fun _ _ _ _ _ _ us hl => match us, hl with | [_], _ => rfl)
  obtain ⟨oc, od, dV, kV, doc, pm, an, cdv, ct, osl, rfl, lk, hcd, _, _⟩ := F.ex
  exact pe_lamcall (k := 4) (Ng := N_l_refused) (a := "_law_call") hg T.g_l_refused.g T.g_l_refused.k lk hcd hb sc_l_refused rfl (.inl rfl) (refused_gives T TX hu0) TB hcode hmT hu hr L hdef hbind hbody
end
/-- o.m(e, ..) in a lambda's body -/
theorem pmL {X : Cx} {j k : Nat} {ps : List Str} {sp : Sp} {m : Str} {pos apos : Pos} {o e : Expr} {es : List Expr} {ta : TE} {t : TA} {pl : Sem Bool} {A : Around} {outer : List Env} {s : Shared} {H : Hp} {E : XK} {scope : Scope} {f c' : Addr}
    (O : Ok X.prog X.w X.K X.mg X.base (L2.CX X.prog X.w) k ("Machine", some m) ps sp) (c : Cls X.K (CM X.K)) (hm : Meth X.K (CM X.K) m (He.ma X.K (CM X.K) m)) (hr : Room j (A.deeper (lamEnv X scope s.heap.objs.size f c'))) (ho : PE (lamCx X A outer s H E scope f c') o ta) (ha : PA (lamCx X A outer s H E scope f c') (e :: es) t) (hk : k ≤ j := by decide)
    (hst : starEach (e :: es) (lamEnv X scope s.heap.objs.size f c') = (false, eval e (lamEnv X scope s.heap.objs.size f c')) :: starEach es (lamEnv X scope s.heap.objs.size f c') := by rfl) (hpl : (backTo pos (starEach es (lamEnv X scope s.heap.objs.size f c'))).any (·.1) = false := by rfl)
    (ht : eval (.Call (.Attribute o m apos) (e :: es) [] pos) (lamEnv X scope s.heap.objs.size f c') = (do
      let ov ← eval o (lamEnv X scope s.heap.objs.size f c')
      standAt apos.atName
      let (f2, first) ← holding [ov] (getMethod ov m pl)
      callWith pos f2 first (backTo pos (starEach (e :: es) (lamEnv X scope s.heap.objs.size f c'))) (backToKw pos (keywordEach [] (lamEnv X scope s.heap.objs.size f c')))) := by rfl) :
    PE (lamCx X A outer s H E scope f c') (.Call (.Attribute o m apos) (e :: es) [] pos) (tMeth (CM X.K) m sp [] E ta t) :=
  pm (X := lamCx X A outer s H E scope f c') O c hm hr (L2.passes_call (L2.takes_of (X := lamCx X A outer s H E scope f c') rfl rfl rfl rfl) fun _ _ _ _ h => h) ho ha hk hst hpl ht
/-! ### all but the tables stays -/
section
variable {H H' : Hp}
theorem ExtN.tp (f : ExtN H H') : Tp H H' := fun a xs h => f a _ h fun _ z => by cases z
theorem LSA.ext {a : Addr} {p : LA} {x : LM} (h : LSA H a p x) (f : ExtN H H') : LSA H' a p x := by
  obtain ⟨ws, h1, r1⟩ := h.rows
  obtain ⟨kvs, h2, r2⟩ := h.dict
  obtain ⟨ss, h3, r3⟩ := h.seen
  obtain ⟨ms, h4, r4⟩ := h.made
  have t := ExtN.tp f
  have g : ∀ {b xs}, H b = some (.lst xs) → H' b = some (.lst xs) := fun e => f _ _ e fun _ z => by cases z
  exact ⟨g h.top, ⟨ws, g h1, RpA.tp t r1⟩, ⟨kvs, f _ _ h2 (fun _ z => by cases z), r2.tp t⟩, g h.makers, g h.roots, ⟨ss, g h3, RpA.tp t r3⟩, ⟨ms, g h4, RpA.tp t r4⟩, h.nd⟩
theorem MA.ext {K : Frg} {m : Addr} {p q : V} {b : Bool} {d : MD} {s : MS} (h : MA K H m p q b d s) (f : ExtN H H') : MA K H' m p q b d s := by
  refine ⟨⟨f _ _ h.h.ins (fun _ z => by cases z), fun g => f _ _ (h.h.lst g) (fun _ z => by cases z), h.h.inj, fun e he => f _ _ (h.h.dic e he) (fun _ z => by cases z), h.h.dnd, fun e he => f _ _ (h.h.chs e he) (fun _ z => by cases z), h.h.cnd, h.h.cl⟩, h.v.tp (ExtN.tp f)⟩
end
end GB
set_option maxHeartbeats 4000000
/-! GRd: the reads of a program, counted; in plain Lean. -/
namespace GB
open PySem
def rdSt : Stm → Bool
  | .read _ _ => true
  | .move _ _ _ _ => true
  | _ => false
def rdP (prog : List Stm) (k : Nat) : Bool := match prog[k]? with
  | some st => rdSt st
  | none => false
theorem after_pre (sp : List Span) (st : Stm) : sp <+: after sp st := List.prefix_append _ _
theorem fold_pre : ∀ (p : List Stm) (sp : List Span), sp <+: p.foldl after sp
  | [], sp => List.prefix_refl _
  | x :: r, sp => (after_pre sp x).trans (fold_pre r _)
theorem row0_ok {pol : Pol} {prog : List Stm} (vp : ValP prog) (h60 : prog.length ≤ 60) (h0 : prog[0]? = some (.make 2 4)) {n : Nat} (hn : n ≤ prog.length) (h : 0 < n) : 0 < (GS pol prog n).rows.length ∧ ((GS pol prog n).row 0).l = 2 := by
  obtain ⟨_, sp, _⟩ := gs_ok (pol := pol) vp h60 n hn
  have e : (spans (prog.take n))[0]? = some (0, 2) := by
    cases prog with
    | nil => simp at h0
    | cons x r =>
      have hx : x = .make 2 4 := by simpa using h0
      subst hx
      obtain ⟨k, rfl⟩ : ∃ k, n = k + 1 := ⟨n - 1, by omega⟩
      obtain ⟨t, ht⟩ := fold_pre (r.take k) [((0 : Int), (2 : Int))]
      show ((r.take k).foldl after [((0 : Int), (2 : Int))])[0]? = _
      rw [← ht] <;> rfl
  have hl : 0 < (spans (prog.take n)).length := (List.getElem?_eq_some_iff.mp e).1
  have z := sp.at_ 0
  rw [List.getD_eq_getElem?_getD, e] at z
  have z : ((0 : Int), (2 : Int)) = _ := z
  exact ⟨by rw [sp.len]; exact hl, (Prod.mk.inj z).2.symm⟩
theorem step_rd (s : MS) (q : Pol) (st : Stm) : (s.step q st).seen.length = s.seen.length + (if rdSt st = true then 1 else 0) := by
  show (MS.act q (s.recs.length : Int) s.mark st).seen.length = _
  generalize (s.recs.length : Int) = num
  cases st with
  | app g v xs =>
    show (MS.ext q num g v xs s.mark).seen.length = s.seen.length + 0
    unfold MS.ext
    simp only []
    split <;> rw [puts_seen] <;> rfl
  | read u j => show (s.seen ++ [_]).length = s.seen.length + 1; simp
  | move v i u j => show (s.seen ++ [_]).length = s.seen.length + 1; simp
  | _ => rfl
def marks (prog : List Stm) (k : Nat) : List Nat := (List.range k).filter (rdP prog)
theorem seen_marks (pol : Pol) (prog : List Stm) : ∀ k, k ≤ prog.length → (GS pol prog k).seen.length = (marks prog k).length
  | 0, _ => rfl
  | k + 1, h => by
    have hst : prog[k]? = some prog[k] := List.getElem?_eq_getElem h
    rw [GS_succ hst, step_rd, seen_marks pol prog k (by omega)]
    unfold marks
    rw [List.range_succ, List.filter_append, List.length_append]
    congr 1
    have e : rdP prog k = rdSt prog[k] := by unfold rdP; rw [hst]
    cases c : rdSt prog[k] with
    | true => rw [List.filter_cons_of_pos (by rw [e, c])] <;> rfl
    | false => rw [List.filter_cons_of_neg (by rw [e, c]; exact Bool.false_ne_true)] <;> rfl
def ends (prog : List Stm) (n : Nat) (l : Int) : List Nat := (List.range (marks prog prog.length).length).filter fun k => decide ((n : Int) ≤ ((marks prog prog.length).getD k 0 : Nat)) && decide (l ≤ (k : Int))
theorem marks_split (prog : List Stm) {n : Nat} (h : n ≤ prog.length) : ∃ B, marks prog prog.length = marks prog n ++ B ∧ (∀ x ∈ marks prog n, x < n) ∧ ∀ x ∈ B, n ≤ x := by
  refine ⟨((List.range (prog.length - n)).map (n + ·)).filter (rdP prog), ?_, fun x hx => ?_, fun x hx => ?_⟩
  · unfold marks
    rw [← List.filter_append, ← List.range_add, Nat.add_sub_cancel' h]
  · exact List.mem_range.mp (List.mem_filter.mp hx).1
  · obtain ⟨y, _, e⟩ := List.mem_map.mp (List.mem_filter.mp hx).1
    omega
theorem ends_calm (pol : Pol) (prog : List Stm) {n : Nat} {l : Int} (h : n ≤ prog.length) : ends prog n l = [] ↔ Calm pol prog n prog.length l := by
  obtain ⟨B, e, h1, h2⟩ := marks_split prog h
  have key : ∀ k, k < (marks prog prog.length).length → ((n : Int) ≤ ((marks prog prog.length).getD k 0 : Nat) ↔ (marks prog n).length ≤ k) := by
    intro k hk
    rw [e] at hk ⊢
    rw [List.getD_eq_getElem?_getD]
    by_cases c : k < (marks prog n).length
    · rw [List.getElem?_append_left c, List.getElem?_eq_getElem c]
      have := h1 _ (List.getElem_mem c)
      show (n : Int) ≤ ((marks prog n)[k] : Nat) ↔ _
      omega
    · rw [List.length_append] at hk
      have c2 : k - (marks prog n).length < B.length := by omega
      rw [List.getElem?_append_right (by omega), List.getElem?_eq_getElem c2]
      have := h2 _ (List.getElem_mem c2)
      show (n : Int) ≤ (B[k - (marks prog n).length] : Nat) ↔ _
      omega
  unfold Calm ends
  rw [seen_marks pol prog _ (Nat.le_refl _), seen_marks pol prog _ h, List.filter_eq_nil_iff]
  constructor
  · intro H
    rcases Nat.lt_or_ge (marks prog n).length (marks prog prog.length).length with c | c
    · right
      have hk : (marks prog prog.length).length - 1 < (marks prog prog.length).length := by omega
      have := H _ (List.mem_range.mpr hk)
      rw [Bool.and_eq_true, decide_eq_true_eq, decide_eq_true_eq, key _ hk] at this
      omega
    · exact .inl c
  · intro H k hk
    have hk := List.mem_range.mp hk
    rw [Bool.and_eq_true, decide_eq_true_eq, decide_eq_true_eq, key _ hk]
    omega
end GB
set_option maxHeartbeats 4000000
/-! GRun2: m.run(watch = ..) in a try statement. -/
namespace GB
open PySem PySem.Spec PyProof.Rows L2 LamX
/-- what is known of an exception with no context is known of one with any -/
theorem cxn_to {P : Program} {w : World} {o : List Env} {H : Hp} {s : Shared} {E : XK} {u : Value} {s' : Shared} (c : L2N.CX P w o H s E u s') : L2.CX P w o H s E u s' := by
  obtain ⟨a, B, H', cls, d, e, fl, r⟩ := c
  refine ⟨a, B, H', cls, d, e, ?_, r⟩
  obtain ⟨k1, k2, k3, oe, vs, Z, oT, ts, a1, a2, a3⟩ := fl
  exact ⟨k1, k2, k3, oe, vs, Z, oT, ts, a1, a2.zc, a3⟩
/-- o.run(watch = e), what it lets out is taken -/
def tRunW (K : Frg) (sp : Sp) (W : WX) (ta : TE) (tk : TA) : TE := fun σ H Q => ta σ H fun x H1 => ∃ (a dx : Addr) (fs : List (Str × V)), x = .ref a ∧ H1 a = some (.ins (CM K) dx fs) ∧ fs.lookup ("run" : Str) = none ∧
  tk σ H1 fun zs H2 => zs.length = 1 ∧ sp (x :: zs) H2 Q (fun cls d H' => W cls d σ H')
theorem pm_runW {X : Cx} {j k : Nat} {ps : List Str} {sp : Sp} {W : WX} {pos apos : Pos} {o : Expr} {kws : List Keyword} {ta : TE} {tk : TA} {pl : Sem Bool}
    (O : OkK X.prog X.w X.K X.mg X.base (L2N.CX X.prog X.w) k ("Machine", some "run") ps 1 ["watch"] sp) (c : Cls X.K (CM X.K)) (hm : Meth X.K (CM X.K) "run" (He.ma X.K (CM X.K) "run")) (hr : Room j X.A) (tkW : L2.Takes X W) (ho : PE X o ta) (hkw : PK X kws tk) (hk : k ≤ j := by decide)
    (hall : (backToKw pos (keywordEach kws X.env)).all (·.1.isSome) = true := by rfl) (hks : (backToKw pos (keywordEach kws X.env)).filterMap (·.1) = [("watch" : Str)] := by rfl)
    (hpl : ((backTo pos (starEach [] X.env)).any (·.1) || (backToKw pos (keywordEach kws X.env)).any (·.1.isNone)) = false := by rfl)
    (ht : eval (.Call (.Attribute o "run" apos) [] kws pos) X.env = (do
      let ov ← eval o X.env
      standAt apos.atName
      let (f, first) ← holding [ov] (getMethod ov "run" pl)
      callWith pos f first (backTo pos (starEach [] X.env)) (backToKw pos (keywordEach kws X.env))) := by rfl) :
    PE X (.Call (.Attribute o "run" apos) [] kws pos) (tRunW X.K sp W ta tk) := by
  obtain ⟨fd, b, F⟩ := O
  refine ⟨fun pins s σ H Q I h => ?_⟩
  refine PySem.W.methodCall_KW (pl := pl) (thn (ho.run pins s σ H _ I h) fun u s1 ⟨x, H1, I1, rx, a, dx, fs, ex, ea, l, q⟩ => ?_) ht
  subst ex
  obtain rfl : u = Value.ref a := rx
  refine getmeth_ok I1 ea c hm l ?_
  refine PySem.W.callWith_KW0 (first := [.ref a]) (h₀ := X.base) I1.ok.mod.kin hm.kp hall ?_ hpl
  refine thn (hkw.run pos pins s1 σ H1 _ I1 q) fun ws s2 ⟨zs, H2, I2, rz, l2, q2⟩ => ⟨I2.kIn, ?_⟩
  rw [hks]
  have l3 : ws.length = [("watch" : Str)].length := rz.length.symm.trans l2
  have r2 : Vals (.ref a :: zs) ([.ref a] ++ ws) := .cons rfl rz
  refine wpAny_call (codeAny_mono (F.run X.A X.stack s2 H2 ⟨[.ref a], [("watch" : Str)].zip ws⟩ ([.ref a] ++ ws) (.ref a :: zs) Q _ (hr.mono hk) I2.env0 (b.to s2 [.ref a] ws I2.kIn rfl l3) r2 q2) fun r s' hq => ?_)
  cases r with
  | error e => exact tkW e s' (L2.XE.of_call I2 (fun _ _ _ h => h) (cxn_to hq))
  | ok fl =>
    cases fl with
    | ret u => exact I2.after hq
    | next => exact False.elim hq
    | brk => exact False.elim hq
    | cont => exact False.elim hq
/-! ### a frame that leaves tables aside -/
def FrN (W : Addr → Prop) (H H' : Hp) : Prop := ∀ a o, H a = some o → (W a → ∃ xs, o = .tup xs) → (∀ ps, o ≠ .tbl ps) → H' a = some o
theorem FrN.refl (W : Addr → Prop) (H : Hp) : FrN W H H := fun _ _ h _ _ => h
theorem FrN.tp {W : Addr → Prop} {H H' : Hp} (f : FrN W H H') : Tp H H' := fun a xs h => f a _ h (fun _ => ⟨xs, rfl⟩) fun _ z => by cases z
theorem FrN.at_ {W : Addr → Prop} {H H' : Hp} (f : FrN W H H') {a : Addr} {o : HO} (h : H a = some o) (n : ¬ W a) (t : ∀ ps, o ≠ .tbl ps) : H' a = some o := f a o h (fun z => absurd z n) t
theorem FrN.trans {W W' : Addr → Prop} {H H1 H2 : Hp} (f : FrN W H H1) (g : FrN W' H1 H2) (h : ∀ a, W' a → W a ∨ H a = none) : FrN W H H2 := fun a o e hw t => g a o (f a o e hw t) (fun z => by
  rcases h a z with q | q
  · exact hw q
  · rw [q] at e; cases e) t
/-- nothing but a table stands there -/
def Fresh (H : Hp) (a : Addr) : Prop := ∀ o, H a = some o → ∃ ps, o = .tbl ps
theorem Fresh.of {H : Hp} {a : Addr} (h : H a = none) : Fresh H a := fun o e => by rw [h] at e; cases e
theorem Fresh.back {W : Addr → Prop} {H H' : Hp} {a : Addr} (h : Fresh H' a) (f : FrN W H H') (n : ¬ W a) : Fresh H a := fun o e => by
  by_cases t : ∃ ps, o = .tbl ps
  · exact t
  · exact h o (f.at_ e n fun ps z => t ⟨ps, z⟩)
theorem FrN.trans2 {W W' : Addr → Prop} {H H1 H2 : Hp} (f : FrN W H H1) (g : FrN W' H1 H2) (h : ∀ a, W' a → W a ∨ Fresh H a) : FrN W H H2 := fun a o e hw t => g a o (f a o e hw t) (fun z => by
  rcases h a z with q | q
  · exact hw q
  · obtain ⟨ps, z⟩ := q o e
    exact absurd z (t ps)) t
theorem FrN.of {W : Addr → Prop} {H H' : Hp} (f : Fr W H H') : FrN W H H' := fun a o e hw _ => f a o e hw
theorem FrN.ext {W : Addr → Prop} {H H' : Hp} (f : ExtN H H') : FrN W H H' := fun a o e _ t => f a o e t
theorem FrN.mono {W W' : Addr → Prop} {H H' : Hp} (f : FrN W H H') (h : ∀ a, W a → W' a) : FrN W' H H' := fun a o e hw t => f a o e (fun z => hw (h a z)) t
/-- the pen's own places -/
def PenA (H : Hp) (pa a : Addr) : Prop := a = pa ∨ ∃ t r : Int, H pa = some (.lst [.ref a, .int t, .int r])
theorem lst_nt {xs : List V} (ps : Array Value) : HO.lst xs ≠ .tbl ps := fun z => by cases z
theorem PenA.fa {H H' : Hp} {pa a : Addr} {n : Nat} (p : Pn H pa n) (f : Fa pa H H') (h : PenA H' pa a) : PenA H pa a := by
  rcases h with h | ⟨t, r, h⟩
  · exact .inl h
  · obtain ⟨xa, xs, t0, r0, h1, _⟩ := p
    obtain ⟨t1, r1, e⟩ := f.2 xa t0 r0 h1
    rw [e] at h
    cases h
    exact .inr ⟨t0, r0, h1⟩
theorem Pn.frN {W : Addr → Prop} {H H' : Hp} {pa : Addr} {n : Nat} (p : Pn H pa n) (f : FrN W H H') (h : ∀ a, PenA H pa a → ¬ W a) : Pn H' pa n ∧ ∀ a, PenA H' pa a → PenA H pa a := by
  obtain ⟨xa, xs, t, r, h1, h2, h3⟩ := p
  have e1 := f.at_ h1 (h pa (.inl rfl)) lst_nt
  have e2 := f.at_ h2 (h xa (.inr ⟨t, r, h1⟩)) lst_nt
  refine ⟨⟨xa, xs, t, r, e1, e2, h3⟩, fun a ha => ?_⟩
  rcases ha with z | ⟨t', r', z⟩
  · exact .inl z
  · rw [e1] at z
    cases z
    exact .inr ⟨t, r, h1⟩
theorem PenA.there {H : Hp} {pa a : Addr} {n : Nat} (p : Pn H pa n) (h : PenA H pa a) : H a ≠ none := by
  obtain ⟨xa, xs, t, r, h1, h2, h3⟩ := p
  rcases h with rfl | ⟨t', r', z⟩
  · rw [h1]; simp
  · rw [h1] at z
    cases z
    rw [h2]; simp
theorem MA.frN {W : Addr → Prop} {H H' : Hp} {K : Frg} {m : Addr} {p q : V} {b : Bool} {d : MD} {s : MS} (h : MA K H m p q b d s) (f : FrN W H H') (n : ∀ a, foot m d a → ¬ W a) : MA K H' m p q b d s :=
  ⟨h.h.keep fun a ha => by
    have e1 : ∃ o, H a = some o ∧ ∀ ps, o ≠ .tbl ps := by
      rcases ha with rfl | ⟨f, rfl⟩ | ha | ha
      · exact ⟨_, h.h.ins, fun xs z => by cases z⟩
      · exact ⟨_, h.h.lst f, fun xs z => by cases z⟩
      · obtain ⟨e, he, rfl⟩ := List.mem_map.mp ha
        exact ⟨_, h.h.dic e he, fun xs z => by cases z⟩
      · obtain ⟨e, he, rfl⟩ := List.mem_map.mp ha
        exact ⟨_, h.h.chs e he, fun xs z => by cases z⟩
    obtain ⟨o, e, nt⟩ := e1
    rw [e]
    exact f.at_ e (n a ha) nt, h.v.tp f.tp⟩
theorem LSA.frN {W : Addr → Prop} {H H' : Hp} {a : Addr} {p : LA} {x : LM} (h : LSA H a p x) (f : FrN W H H') (n : ∀ y, ft a p y → ¬ W y) : LSA H' a p x := h.keep f.tp fun y hy => by
  have e1 : ∃ o, H y = some o ∧ ∀ ps, o ≠ .tbl ps := by
    obtain ⟨ws, h1, _⟩ := h.rows
    obtain ⟨kvs, h2, _⟩ := h.dict
    obtain ⟨ss, h3, _⟩ := h.seen
    obtain ⟨ms, h4, _⟩ := h.made
    rcases hy with rfl | rfl | rfl | rfl | rfl | rfl | rfl
    · exact ⟨_, h.top, lst_nt⟩
    · exact ⟨_, h1, lst_nt⟩
    · exact ⟨_, h2, fun ps z => by cases z⟩
    · exact ⟨_, h.makers, lst_nt⟩
    · exact ⟨_, h.roots, lst_nt⟩
    · exact ⟨_, h3, lst_nt⟩
    · exact ⟨_, h4, lst_nt⟩
  obtain ⟨o, e, nt⟩ := e1
  rw [e]
  exact f.at_ e (n y hy) nt
/-! ### a table is none of a machine's objects, none of what a frame writes -/
theorem Tabs.fr {W : Addr → Prop} {H H' : Hp} {L : List (Addr × Str)} (t : Tabs L H) (f : Fr W H H') (n : ∀ a ps, H a = some (.tbl ps) → ¬ W a) (n2 : ∀ a q, H a = some (CodeO a q) → ¬ W a) : Tabs L H' := fun p hp => by
  obtain ⟨ps, h1, h2, h3⟩ := t p hp
  refine ⟨ps, f.at_ h1 (n _ _ h1), h2, fun pos cv hc => ?_⟩
  obtain ⟨c, e1, e2⟩ := h3 pos cv hc
  exact ⟨c, e1, f.at_ e2 (n2 _ _ e2)⟩
theorem foot_nt {K : Frg} {H : Hp} {m : Addr} {p q : V} {b : Bool} {d : MD} (h : MH K H m p q b d) {a : Addr} : (∀ ps, H a = some (.tbl ps) → ¬ foot m d a) ∧ ∀ q, H a = some (CodeO a q) → ¬ foot m d a := by
  have e1 : foot m d a → ∃ o, H a = some o ∧ (∀ ps, o ≠ .tbl ps) ∧ ∀ φ, o ≠ .ext φ := by
    intro ha
    rcases ha with rfl | ⟨f, rfl⟩ | ha | ha
    · exact ⟨_, h.ins, (fun xs z => by cases z), fun xs z => by cases z⟩
    · exact ⟨_, h.lst f, (fun xs z => by cases z), fun xs z => by cases z⟩
    · obtain ⟨e, he, rfl⟩ := List.mem_map.mp ha
      exact ⟨_, h.dic e he, (fun xs z => by cases z), fun xs z => by cases z⟩
    · obtain ⟨e, he, rfl⟩ := List.mem_map.mp ha
      exact ⟨_, h.chs e he, (fun xs z => by cases z), fun xs z => by cases z⟩
  refine ⟨fun ps e hf => ?_, fun q e hf => ?_⟩
  · obtain ⟨o, eo, n, _⟩ := e1 hf
    rw [e] at eo
    exact n ps (Option.some.inj eo).symm
  · obtain ⟨o, eo, _, n⟩ := e1 hf
    rw [e] at eo
    exact n _ (Option.some.inj eo).symm
end GB
set_option maxHeartbeats 4000000
/-! GL18: a drawn deed. -/
namespace GB
open PySem PySem.Spec PyProof.Rows L2 LamX SkE
local macro_rules | `(tactic| walk_at "g") => `(tactic| first
  | refine ⟨_, rfl, ?_⟩
  | refine ⟨_, _, rfl, rfl, ?_⟩
  | refine ⟨_, _, _, _, rfl, rfl, SqT.of (by assumption), by rfl, ?_⟩
  | refine ⟨_, _, _, _, rfl, rfl, SqL.of (by assumption), by rfl, ?_⟩
  | refine ⟨_, _, _, _, rfl, rfl, SqL.of (by assumption), atI_nat (by assumption), ?_⟩
  | refine ⟨rfl, ⟨rfl, by decide⟩, ?_⟩
  | refine ⟨_, _, _, _, _, rfl, .ty _, .base (.tup (by assumption)), kt_tup, ?_⟩
  | refine ⟨_, _, _, _, _, rfl, .ty _, .base (.str _), kt_str, ?_⟩
  | refine ⟨_, _, rfl, .inr (SqT.of (by assumption)), ?_⟩
  | refine ⟨_, _, rfl, .inl (SqL.of (by assumption)), ?_⟩
  | refine iteT_of (by first | decide +kernel | rfl) ?_
  | refine iteF_of (by first | decide +kernel | rfl) ?_
  | refine iteT_of (btw_t (by omega)) ?_
  | refine iteF_of (by rw [btw_t (by omega)]; rfl) ?_
  | refine ⟨_, _, rfl, rfl, by assumption, ?_⟩
  | refine ⟨_, _, _, rfl, rfl, by assumption, ?_⟩
  | refine ⟨_, _, _, _, _, rfl, by assumption, Txt.cl (by assumption), by first | exact Txt.no_kept_program (by assumption) | exact Txt.no_kept_policy (by assumption) | exact Txt.no_rows (by assumption) | exact Txt.no_cells (by assumption) | exact Txt.no_makers (by assumption) | exact Txt.no_roots (by assumption) | exact Txt.no_seen (by assumption) | exact Txt.no_made (by assumption) | exact Txt.no_records (by assumption) | exact Txt.no_busy (by assumption), by rfl, ?_⟩
  | refine ⟨_, _, _, rfl, by assumption, by rfl, ?_⟩
  | refine ⟨_, _, _, rfl, ?_⟩
  | refine ⟨_, _, rfl, SqT.of (by assumption), by rfl, ?_⟩
  | refine ⟨_, _, rfl, ?_⟩
  | refine ⟨.inl (by decide), ?_⟩
  | refine ⟨.inl ⟨rfl, _, SqL.of (by assumption)⟩, ?_⟩
  | refine ⟨rfl, ?_⟩)
local macro_rules | `(tactic| walk_at "gs") => `(tactic| repeat walk_at "g")
local macro_rules | `(tactic| walk_at "b") => `(tactic| (first | decide +kernel | (simp only [decide_eq_true_eq, decide_eq_false_iff_not, List.length_map, V.int.injEq, Bool.not_eq_true', Bool.not_eq_false']; omega)))
/-- the frame of a deed -/
def DeedFr (pa m : Addr) (d : MD) (H H' : Hp) (d' : MD) : Prop := FrN (fun a => a = pa ∨ foot m d a) H H' ∧ (∀ a, foot m d' a → foot m d a ∨ Fresh H a) ∧ ∀ a, PenA H' pa a → PenA H pa a
section
variable {P : Program} {w : World} {K : Frg} {mg : Str → Option Value} {base : Heap}
def sp_l_deed_done : Sp := fun vs H Q _ => ∃ (pa m ta qa : Addr) (d : MD) (prog : List Stm) (pol : Pol) (n k : Nat), vs = [.ref pa, .ref m, .int n, .ref ta] ∧ Pn H pa k ∧ k ≤ 5000 ∧ MA K H m (.ref ta) (.ref qa) false d (GS pol prog n) ∧ n ≤ prog.length ∧ (∀ a, PenA H pa a → ¬ foot m d a) ∧
  PrV ta H prog ∧ poV qa H pol ∧ Gd pol prog ∧ prog[0]? = some (.make 2 4) ∧ Tabs (Tb K) H ∧
  ∀ (n' : Nat) H' d', n' ≤ prog.length → MA K H' m (.ref ta) (.ref qa) false d' (GS pol prog n') → DeedFr pa m d H H' d' → Pn H' pa (k + 2) → Tabs (Tb K) H' → Q (.int n') H'
abbrev dcx (P : Program) (w : World) (K : Frg) (mg : Str → Option Value) (base : Heap) (f : Addr) (cdv : Value) (A : Around) (outer : List Env) (s : Shared) (H : Hp) (E : XK) : Cx := (cxOf CX0 P w K mg base N_l_deed_done d_l_deed_done.qual d_l_deed_done.scope f cdv A outer s H E).nox
abbrev tryDd : Stmt := (defBody s_l_deed_done).getD 8 (.Pass ⟨0, 0, 0, 0⟩)
/-- [-1, count][int(ends != [])] -/
def tEnds (K : Frg) : TS := tRet (tOp (rIxL K) (tLst (tCons (tUn (rU fun i => .int (-i)) (tC (.int 1))) (tCons (tVar 2) tNil))) (tCB (fun xs H Q => (∃ i, xs = [.int i] ∧ Q (.int i) H) ∨ ∃ k, xs = [.bl k] ∧ Q (.int (if k then 1 else 0)) H) (tCons (tOp (rNeE K) (tVar 8) (tLst tNil)) tNil)))
theorem ps_dd (T : Txt K mg) (TT : TxT K mg base) {f : Addr} {cdv : Value} {A : Around} {outer : List Env} {s : Shared} {H : Hp} {E : XK} (hr : Room 6 (A.deeper (envOfC d_l_deed_done.qual d_l_deed_done.scope s.heap.objs.size f cdv))) :
    PS (dcx P w K mg base f cdv A outer s H E) tryDd (fun D σ H => tDrop (tRunW K (sp_M_run (K := K)) (wOnly K (.type "KeyError") (fun _ _ _ => tEnds K) (fun _ _ _ _ => False) D) (tVar 1) (tCons (tCall (sp_l_ending (Tb K)) [] (fun _ _ _ => False) (tCons (tVar 5) tNil)) tNil)) D σ H) := by
  refine ps_try_only (X := dcx P w K mg base f cdv A outer s H E) (c := .type "KeyError") (Wout := fun _ _ _ _ => False) (ts := fun _ _ _ => tEnds K) (tb := fun W => tDrop (tRunW K (sp_M_run (K := K)) W (tVar 1) (tCons (tCall (sp_l_ending (Tb K)) [] (fun _ _ _ => False) (tCons (tVar 5) tNil)) tNil)))
    rfl rfl ⟨rfl, by decide, .inr ⟨T.bi.KeyError, boot_KeyError, by decide⟩⟩ LamX.takes0 (fun W pn xe tk _ => ?_) (fun a oe cls d pn _ _ => ?_)
  · exact pss_one (ps_expr (pm_runW (ok_M_run T) T.cl T.m_run hr tk (pv 1) (pk_cons (pf (ok_l_ending T.f_l_ending TT.t3 (List.mem_cons_of_mem _ (List.mem_cons_of_mem _ List.mem_cons_self)) TT.u3) T.g_l_ending hr rfl pass0 (pa_cons (pv 5) pa_nil)) pk_nil)))
  · exact pss_one (ps_ret (pe_ix ix_list (pe_lst (pa_cons (pe_un un_neg pe_int) (pa_cons (pv 2) pa_nil))) (pe_callTy call_int1 rfl T.bi.int (by decide +kernel) (pa_cons (pe_cmpR (op_neE (by have := hr.un; show A.units + 3 + 64 < cLine; have : A.units + 3 + 16 * 6 + 200 < cLine := hr.un; omega)) (pv 8) (pe_lst pa_nil) (nomark _)) pa_nil)) (fun _ _ => rfl)))
/-- a statement's word -/
def wdSt : Stm → Str
  | .make _ _ => "make"
  | .slice _ _ _ => "slice"
  | .clip _ => "clip"
  | .app g _ _ => sw g
  | .write _ _ _ => "write"
  | .move _ _ _ _ => "move"
  | .read _ _ => "read"
theorem stHead {a : Addr} {H : Hp} : ∀ {st : Stm}, stV a H st → ∃ r, H a = some (.tup (.str (wdSt st) :: r))
  | .make _ _, h => ⟨_, h⟩
  | .slice _ _ _, h => ⟨_, h⟩
  | .clip _, h => ⟨_, h⟩
  | .app _ _ _, ⟨_, h, _⟩ => ⟨_, h⟩
  | .write _ _ _, h => ⟨_, h⟩
  | .move _ _ _ _, h => ⟨_, h⟩
  | .read _ _, h => ⟨_, h⟩
theorem inRd : ∀ st : Stm, inV (.str (wdSt st)) [.str "read", .str "move"] = rdSt st
  | .make _ _ => (by decide +kernel : inV (.str "make") [.str "read", .str "move"] = false)
  | .slice _ _ _ => (by decide +kernel : inV (.str "slice") [.str "read", .str "move"] = false)
  | .clip _ => (by decide +kernel : inV (.str "clip") [.str "read", .str "move"] = false)
  | .app true _ _ => (by decide +kernel : inV (.str "grow") [.str "read", .str "move"] = false)
  | .app false _ _ => (by decide +kernel : inV (.str "append") [.str "read", .str "move"] = false)
  | .write _ _ _ => (by decide +kernel : inV (.str "write") [.str "read", .str "move"] = false)
  | .move _ _ _ _ => (by decide +kernel : inV (.str "move") [.str "read", .str "move"] = true)
  | .read _ _ => (by decide +kernel : inV (.str "read") [.str "read", .str "move"] = true)
theorem marks_succ (prog : List Stm) (i : Nat) : marks prog (i + 1) = if rdP prog i = true then marks prog i ++ [i] else marks prog i := by
  unfold marks
  rw [List.range_succ, List.filter_append]
  cases e : rdP prog i with
  | true => rw [List.filter_cons_of_pos e, if_pos rfl] <;> rfl
  | false => rw [List.filter_cons_of_neg (by rw [e]; exact Bool.false_ne_true), if_neg Bool.false_ne_true, List.filter_nil, List.append_nil]
/-- behind the draws -/
def tlDd (K : Frg) (pa m ta qa : Addr) (d : MD) (prog : List Stm) (pol : Pol) (n : Nat) : TS := fun D σ H2 => ∃ (d1 d2 : Int), σ = [some (.ref pa), some (.ref m), some (.int n), some (.ref ta), some (.int d1), some (.int d2), none, none, none, none] ∧ 0 ≤ d2 ∧ MA K H2 m (.ref ta) (.ref qa) false d (GS pol prog n) ∧
  PrV ta H2 prog ∧ poV qa H2 pol ∧ Tabs (Tb K) H2 ∧ ∀ (n' : Nat) H' d', n' ≤ prog.length → MA K H' m (.ref ta) (.ref qa) false d' (GS pol prog n') → FrN (foot m d) H2 H' → (∀ a, foot m d' a → foot m d a ∨ Fresh H2 a) → Tabs (Tb K) H' → D.rt (.int n') H'
theorem ok_l_deed_done (T : Txt K mg) (TX : TxX K) (TT : TxT K mg base) : OkG P w K mg base CX0 7 ("_law_deed_done", none) P_l_deed_done (sp_l_deed_done (K := K)) := by
  refine OkG.of T.f_l_deed_done sc_l_deed_done (fun _ _ _ _ _ _ us hl => match us, hl with | [_, _, _, _], _ => rfl) (fun vs H Q E h => ?_) fun f c A outer s H vs Q E ec hr hgd h => ?_
  · obtain ⟨pa, m, ta, qa, d, prog, pol, n, k, rfl, _⟩ := h
    rfl
  · obtain ⟨pa, m, ta, qa, d, prog, pol, n, k, rfl, pn, hk, hm, hn, hoff, hp, hpo, G, h00, hT, q⟩ := h
    have TB : TabB base mg c (He.cT K d_l_deed_done.at_).2 := by
      have z := TT.t2
      rw [show (He.cT K d_l_deed_done.at_).1 = c from ec] at z
      exact z
    have eq1 : ("_law_deed_done.<locals>." : Str) ++ "<lambda>" = "_law_deed_done.<locals>.<lambda>" := by decide +kernel
    have hmT : ((He.cT K d_l_deed_done.at_).2, ("_law_deed_done.<locals>." : Str) ++ "<lambda>") ∈ Tb K := by
      rw [eq1]
      exact List.mem_cons_of_mem _ List.mem_cons_self
    have huT : ∀ p ∈ Tb K, p.1 = (He.cT K d_l_deed_done.at_).2 → p.2 = ("_law_deed_done.<locals>." : Str) ++ "<lambda>" := by
      rw [eq1]
      exact TT.u2
    have hu5 : (A.deeper (envOfC d_l_deed_done.qual d_l_deed_done.scope s.heap.objs.size f (.ref c))).units + 100 < cLine := by
      have := hr.un
      omega
    have hu64 : (A.deeper (envOfC d_l_deed_done.qual d_l_deed_done.scope s.heap.objs.size f (.ref c))).units + 64 < cLine := by
      omega
    have tr := ps_dd (P := P) (w := w) (f := f) (cdv := .ref c) (A := A) (outer := outer) (s := s) (H := H) (E := E) T TT hr
    refine ⟨_, PSs.nox (pss_cons (ps_set (i := 4) sc_l_deed_done.nd rfl (Or.inl rfl) (pf (ok_l_draw T) T.g_l_draw hr rfl pass0 (pa_cons (pv 0) (pa_cons pe_int pa_nil))))
      (pss_cons (ps_set (i := 5) sc_l_deed_done.nd rfl (Or.inr rfl) (pf (ok_l_draw T) T.g_l_draw hr rfl pass0 (pa_cons (pv 0) (pa_cons pe_int pa_nil))))
      (pss_cons (ps_if (PW.pt (pw_and (pt_cmpR op_lt (pv 4) pe_int (nomark _)) (pw_and1 (pt_cmpR op_lt (pv 2) (pe_callB call_len_seq rfl T.bi.len (by decide +kernel) (pa_cons (pv 3) pa_nil)) (nomark _)))))
       (pss_cons (ps_expr (pm0 (ok_M_step T) T.cl T.m_step hr pass0 (pv 1)))
       (pss_one (ps_ret (pe_op op_add (pv 2) pe_int))))
       pss_nil)
      (PSs.weak (t' := (tlDd K pa m ta qa d prog pol n)) (pss_cons (ps_if (PW.pt (pw_and (pt_cmpR op_lt (pv 4) pe_int (nomark _)) (pw_and1 (pt_cmpR op_gt (pv 2) pe_int (nomark _)))))
       (pss_cons (ps_expr (pm0 (ok_M_back T) T.cl T.m_back hr pass0 (pv 1)))
       (pss_one (ps_ret (pe_op op_sub (pv 2) pe_int))))
       pss_nil)
      (PSs.weak (t' := (tlDd K pa m ta qa d prog pol n)) (pss_cons (ps_if (pt_cmpR op_eq (pv 4) pe_int (nomark _))
       (pss_one (ps_ret (pe_ix ix_list (pe_lst (pa_cons (pe_un un_neg pe_int) (pa_cons (pv 2) pa_nil))) (pe_callTy call_int1 rfl T.bi.int (by decide +kernel) (pa_cons (pe_cmpR op_eq (pe_refused T TX hu5 rfl TB rfl hmT huT (hr.mono (by decide)) (lamS_by (sc := defScope s_l_deed_done) (by decide +kernel)) rfl (fun _ _ _ _ _ => rfl) (fun A' outer' s' H' E' f' c' hr' => (pmL (ok_M_capacity T TX) T.cl T.m_capacity hr' (pv 1) (pa_cons (pe_un un_neg pe_int) pa_nil)))) pe_str (nomark _)) pa_nil)) (fun _ _ => rfl))))
       pss_nil)
      (pss_cons (ps_if (pt_cmpR op_eq (pv 4) pe_int (nomark _))
       (pss_cons (ps_set (i := 6) sc_l_deed_done.nd rfl (Or.inl rfl) (pe_ix ix_list (pe_lst (pa_cons pe_str (pa_cons (pe_op op_add_str pe_str (pe_callTy call_str_int rfl T.bi.str (by decide +kernel) (pa_cons (pe_op op_pow pe_int pe_int) pa_nil))) pa_nil))) (pe_callTy call_int1 rfl T.bi.int (by decide +kernel) (pa_cons (pe_cmpR op_gt (pv 2) pe_int (nomark _)) pa_nil)) (fun _ _ => rfl)))
       (pss_one (ps_ret (pe_ix ix_list (pe_lst (pa_cons (pe_un un_neg pe_int) (pa_cons (pv 2) pa_nil))) (pe_callTy call_int1 rfl T.bi.int (by decide +kernel) (pa_cons (pe_cmpR op_eq (pe_refused T TX hu5 rfl TB rfl hmT huT (hr.mono (by decide)) (lamS_by (sc := defScope s_l_deed_done) (by decide +kernel)) rfl (fun _ _ _ _ _ => rfl) (fun A' outer' s' H' E' f' c' hr' => (pmL (ok_M_content T TX) T.cl T.m_content hr' (pv 1) (pa_cons pe_int (pa_cons (pe_op op_pow pe_int pe_int) pa_nil))))) (pv 6) (nomark _)) pa_nil)) (fun _ _ => rfl)))))
       pss_nil)
      (pss_cons (ps_set (i := 7) sc_l_deed_done.nd rfl (Or.inr rfl) (pe_lc (own := [("_law_k", 9)]) rfl sc_l_deed_done.nd (pi_range1 rfl T.bi.range (pa_cons (pe_callB call_len_seq rfl T.bi.len (by decide +kernel) (pa_cons (pv 3) pa_nil)) pa_nil)) (blkOk_by rfl) (fun _ _ _ _ _ => (pg_name (i := 9) sc_l_deed_done.nd rfl (Or.inl rfl) (.inr rfl))) (fun _ _ _ _ _ => pts_one (pt_lit (pe_ix (ix_tupK (K := K) rfl) (pe_ix (ix_tupK (K := K) rfl) (pv 3) (pv 9) (fun _ _ => rfl)) pe_int (fun _ _ => rfl)) (pa_cons pe_str (pa_cons pe_str pa_nil)))) (fun _ _ _ _ _ => (pv 9))))
      (pss_cons (ps_setLc (i := 8) (own := [("_law_k", 9)]) rfl sc_l_deed_done.nd rfl rfl (sw_true rfl rfl rfl rfl) (pi_range1 rfl T.bi.range (pa_cons (pe_callB call_len_seq rfl T.bi.len (by decide +kernel) (pa_cons (pv 7) pa_nil)) pa_nil)) (blkOk_by rfl) (fun _ _ _ _ _ => (pg_name (i := 9) sc_l_deed_done.nd rfl (Or.inl rfl) (.inr rfl))) (fun _ _ _ _ _ => pts_one (PW.pt (pw_and (pt_cmpR op_ge (pe_ix (ix_listK (K := K) rfl) (pv 7) (pv 9) (fun _ _ => rfl)) (pv 2) (nomark _)) (pw_and1 (pt_cmpR op_ge (pv 9) (pv 5) (nomark _)))))) (fun _ _ _ _ _ => (pv 9)))
      (pss_cons tr
      (pss_one (ps_ret (pe_ix ix_list (pe_lst (pa_cons (pe_callB call_len_seq rfl T.bi.len (by decide +kernel) (pa_cons (pv 3) pa_nil)) (pa_cons (pe_un un_neg pe_int) pa_nil))) (pe_callTy call_int1 rfl T.bi.int (by decide +kernel) (pa_cons (pe_cmpR (op_neE hu64) (pv 8) (pe_lst pa_nil) (nomark _)) pa_nil)) (fun _ _ => rfl))))))))) ?tl4)) ?tl3)))), ?_⟩
    case tl3 =>
      intro D σ H2 hh
      obtain ⟨d1, d2, rfl, a2, hm2, hp2, hpo2, hT2, fin⟩ := id hh
      have hi := hm2.h.ins
      walk_at "gs"
      refine iteD (fun c1 => ?_) (fun c1 => ?_)
      · walk_at "gs"
        refine iteD (fun c2 => ?_) (fun c2 => ?_)
        · have c2 : 0 < n := by have := of_decide_eq_true c2; omega
          obtain ⟨n0, rfl⟩ : ∃ n0, n = n0 + 1 := ⟨n - 1, by omega⟩
          walk_at "gs"
          have h60 := G.h60
          have hrc := G.recs _ hn
          obtain ⟨r, hr0⟩ : ∃ r, (GS pol prog (n0 + 1)).recs.getLast? = some r := by
            cases e : (GS pol prog (n0 + 1)).recs.getLast? with
            | some r => exact ⟨r, rfl⟩
            | none =>
              rw [List.getLast?_eq_none_iff] at e
              rw [e] at hrc
              simp at hrc
          obtain ⟨g1, g2, g3, g4, g5, g6, g7⟩ := G.bok _ r hn hr0
          refine ⟨m, _, _, d, GS pol prog (n0 + 1), r, rfl, hm2, hr0, g1, by omega, g2, g3, g4, g5, g6, g7, fun H3 d3 hm3 ch3 => ?_⟩
          walk_at "gs"
          rw [G.back n0 hn] at hm3
          have z := fin n0 H3 d3 (by omega) hm3 (FrN.of ch3.1) (fun a h => (ch3.2 a h).imp id Fresh.of) (Tabs.fr hT2 ch3.1 (fun a ps e => (foot_nt hm2.h).1 ps e) fun a q e => (foot_nt hm2.h).2 q e)
          have e1 : (((n0 + 1 : Nat) : Int) - 1) = (n0 : Int) := by omega
          show D.rt (.int (((n0 + 1 : Nat) : Int) - 1)) H3
          rw [e1]
          exact z
        · exact hh
      · exact hh
    case tl4 =>
      intro D σ H2 hh
      obtain ⟨d1, d2, rfl, a2, hm2, hp2, hpo2, hT2, fin⟩ := hh
      have hi := hm2.h.ins
      walk_at "gs"
      refine iteD (fun c3 => ?_) (fun c3 => ?_)
      · walk_at "gs"
        refine ⟨szk (n := 2) (by decide), fun L hL => ?_⟩
        have s3 := Same.new (o := .lst [.int (-1), .int n]) hL
        have hL3 : upd H2 L (.lst [.int (-1), .int n]) L = some (.lst [.int (-1), .int n]) := upd_same
        generalize upd H2 L (.lst [.int (-1), .int n]) = H3 at s3 hL3 ⊢
        walk_at "gs"
        refine ⟨hT2.ext s3, fun H4 e4 hT4 Q' => ?_⟩
        have e24 : ExtN H2 H4 := (ExtN.of s3).trans e4
        have hm4 := hm2.ext e24
        clear hi
        have hi := hm4.h.ins
        have hL4 : H4 L = some (.lst [.int (-1), .int n]) := e4 _ _ hL3 fun _ z => by cases z
        walk_at "gs"
        refine ⟨m, _, _, _, d, GS pol prog n, -1, rfl, hm4, fun i e => ?_, fun _ dx hdx => ?_⟩
        · exfalso; omega
        refine ⟨dx, -1, rfl, by decide, .inl ⟨rfl, upd_same, fun H5 s5 => ?_⟩⟩
        have s45 := Same.trans (Same.new (o := .xd [("view", .int (-1))]) hdx) s5
        have hL5 := s45 _ _ hL4
        refine ⟨rfl, ?_⟩
        have et : ("view " ++ Str.ofString (toString (-1 : Int)) : Str) = "view -1" := by decide +kernel
        rw [et]
        walk_at "gs"
        refine .inr ⟨_, rfl, ?_⟩
        rw [decide_eq_true rfl]
        refine ⟨L, _, 1, .int n, rfl, rfl, SqL.of hL5, rfl, ?_⟩
        have e25 := e24.trans (ExtN.of s45)
        exact fin n H5 d hn (hm2.ext e25) (FrN.ext e25) (fun a h => .inl h) (hT4.ext s45)
      · walk_at "gs"
        refine iteD (fun c4 => ?_) (fun c4 => ?_)
        · have ets : ("cell " : Str).length + (Str.ofString (toString ((10 : Int) ^ (31 : Int).toNat))).length ≤ sizeLine := by decide +kernel
          have cpw : CPow 10 31 := ⟨by decide, by decide, by decide⟩
          have elg : ((10 : Int) ^ (31 : Int).toNat).natAbs.log2 < 1920 := by decide +kernel
          have ebg : ((10 : Int) ^ (31 : Int).toNat).natAbs < 10 ^ 50 := by decide +kernel
          have e2b : (2 : Int) ≤ (10 : Int) ^ (31 : Int).toNat := by decide +kernel
          walk_at "gs"
          refine ⟨cpw, ?_⟩
          walk_at "gs"
          refine ⟨elg, ?_⟩
          walk_at "gs"
          refine ⟨ets, ?_⟩
          refine ⟨szk (n := 2) (by decide), fun L hL => ?_⟩
          have s3 := Same.new (o := .lst [.str "view 0", .str (("cell " : Str) ++ Str.ofString (toString ((10 : Int) ^ (31 : Int).toNat)))]) hL
          have hL3 : upd H2 L (.lst [.str "view 0", .str (("cell " : Str) ++ Str.ofString (toString ((10 : Int) ^ (31 : Int).toNat)))]) L = some (.lst [.str "view 0", .str (("cell " : Str) ++ Str.ofString (toString ((10 : Int) ^ (31 : Int).toNat)))]) := upd_same
          generalize upd H2 L (.lst [.str "view 0", .str (("cell " : Str) ++ Str.ofString (toString ((10 : Int) ^ (31 : Int).toNat)))]) = H3 at s3 hL3 ⊢
          walk_at "gs"
          refine .inr ⟨_, rfl, ?_⟩
          obtain ⟨due, hdue, hcase⟩ : ∃ due : Str, atI [V.str "view 0", V.str (("cell " : Str) ++ Str.ofString (toString ((10 : Int) ^ (31 : Int).toNat)))] (if decide (0 < (n : Int)) = true then 1 else 0) = some (.str due) ∧ (n = 0 ∧ due = ("view " ++ Str.ofString (toString (0 : Int)) : Str) ∨ 0 < n ∧ due = ("cell " : Str) ++ Str.ofString (toString ((10 : Int) ^ (31 : Int).toNat))) := by
            rcases Nat.eq_zero_or_pos n with z | z
            · subst z
              exact ⟨"view 0", rfl, .inl ⟨rfl, by decide +kernel⟩⟩
            · exact ⟨_, by rw [if_pos (by simpa using z)] <;> rfl, .inr ⟨z, rfl⟩⟩
          refine ⟨_, _, _, .str due, rfl, rfl, SqL.of hL3, hdue, ?_⟩
          walk_at "gs"
          refine ⟨szk (n := 2) (by decide), fun L2 hL2 => ?_⟩
          have s4 := Same.trans s3 (Same.new (o := .lst [.int (-1), .int n]) hL2)
          have hL4 : upd H3 L2 (.lst [.int (-1), .int n]) L2 = some (.lst [.int (-1), .int n]) := upd_same
          generalize upd H3 L2 (.lst [.int (-1), .int n]) = H4 at s4 hL4 ⊢
          walk_at "gs"
          refine ⟨hT2.ext s4, fun H5 e5 hT5 Q' => ?_⟩
          have e25 : ExtN H2 H5 := (ExtN.of s4).trans e5
          have hm5 := hm2.ext e25
          clear hi
          have hi := hm5.h.ins
          have hL5 : H5 L2 = some (.lst [.int (-1), .int n]) := e5 _ _ hL4 fun _ z => by cases z
          walk_at "gs"
          refine ⟨cpw, ?_⟩
          walk_at "gs"
          have fin5 : ∀ {H6 : Hp}, Same H5 H6 → D.rt (.int n) H6 := fun s6 => fin n _ d hn (hm2.ext (e25.trans (ExtN.of s6))) (FrN.ext (e25.trans (ExtN.of s6))) (fun a h => .inl h) (hT5.ext s6)
          refine ⟨m, _, _, _, d, GS pol prog n, 0, (10 : Int) ^ (31 : Int).toNat, rfl, hm5, fun hr0 dx hdx => ?_, fun i ei hl => ⟨fun _ dx hdx => ?_, fun h1 h2 => ?_⟩⟩
          · have hd0 : due = ("view " ++ Str.ofString (toString (0 : Int)) : Str) := by
              rcases hcase with ⟨_, h⟩ | ⟨h, _⟩
              · exact h
              · exfalso
                have := (row0_ok (pol := pol) G.vp G.h60 h00 hn h).1
                omega
            refine ⟨dx, 0, rfl, by decide, .inl ⟨rfl, upd_same, fun H6 s6 => ?_⟩⟩
            have s56 := Same.trans (Same.new (o := .xd [("view", .int 0)]) hdx) s6
            have hL6 := s56 _ _ hL5
            rw [hd0]
            walk_at "gs"
            rw [decide_eq_true rfl]
            refine .inr ⟨_, rfl, ?_⟩
            refine ⟨L2, _, 1, .int n, rfl, rfl, SqL.of hL6, rfl, ?_⟩
            exact fin5 s56
          · have hn0 : 0 < n := by
              rcases Nat.eq_zero_or_pos n with z | z
              · subst z
                exact absurd hl (Nat.not_lt_zero _)
              · exact z
            have hd0 : due = ("cell " : Str) ++ Str.ofString (toString ((10 : Int) ^ (31 : Int).toNat)) := by
              rcases hcase with ⟨h, _⟩ | ⟨_, h⟩
              · omega
              · exact h
            refine ⟨dx, (10 : Int) ^ (31 : Int).toNat, rfl, ebg, .inr ⟨rfl, upd_same, fun H6 s6 => ?_⟩⟩
            have s56 := Same.trans (Same.new (o := .xd [("index", .int ((10 : Int) ^ (31 : Int).toNat))]) hdx) s6
            have hL6 := s56 _ _ hL5
            rw [hd0]
            walk_at "gs"
            rw [decide_eq_true rfl]
            refine .inr ⟨_, rfl, ?_⟩
            refine ⟨L2, _, 1, .int n, rfl, rfl, SqL.of hL6, rfl, ?_⟩
            exact fin5 s56
          · exfalso
            have hn0 : 0 < n := by
              rcases Nat.eq_zero_or_pos n with z | z
              · subst z
                exact absurd hl (Nat.not_lt_zero _)
              · exact z
            have e0 : i = 0 := by omega
            subst e0
            have := (row0_ok (pol := pol) G.vp G.h60 h00 hn hn0).2
            omega
        · obtain ⟨pw, hta, hpw⟩ := id hp2
          have hpwl : pw.length = prog.length := by rw [hpw.length, List.length_map]
          have h60 := G.h60
          walk_at "gs"
          refine ⟨by omega, by omega, fun D0 hD0 => ?_⟩
          refine lc_range (n := ((pw.length : Int)).toNat) (lo := 0) (fun i H' => Same H2 H' ∧ H' D0 = some (.lst ((marks prog i).map fun k => .int (k : Nat)))) ⟨Same.new hD0, upd_same⟩ (fun i H' hi' pv => ?_) fun H' pv => ?_
          · obtain ⟨sm, hDD⟩ := pv
            have hip : i < prog.length := by omega
            have hst : prog[i]? = some prog[i] := List.getElem?_eq_getElem hip
            obtain ⟨vd, hpi, rvd⟩ := hpw.get (i := i) (d := stD prog[i]) (by rw [List.getElem?_map, hst] <;> rfl)
            obtain ⟨td, rfl, htd⟩ := (rp_st _).mp rvd
            obtain ⟨rs, htd⟩ := stHead htd
            have htd1 := sm _ _ htd
            have hta1 := sm _ _ hta
            have erd : rdP prog i = rdSt prog[i] := by unfold rdP; rw [hst]
            have hml : (marks prog i).length ≤ i := by
              unfold marks
              exact Nat.le_trans (List.length_filter_le _ _) (by rw [List.length_range]; exact Nat.le_refl _)
            rw [marks_succ, erd]
            walk_at "gs"
            rw [Int.zero_add]
            refine ⟨_, _, _, .ref td, rfl, rfl, SqT.of hta1, atI_nat hpi, ?_⟩
            walk_at "gs"
            refine ⟨td, _, 0, .str (wdSt prog[i]), rfl, rfl, SqT.of htd1, atI_nat (j := 0) rfl, ?_⟩
            walk_at "gs"
            have ein : (if false = true then !inV (.str (wdSt prog[i])) [.str "read", .str "move"] else inV (.str (wdSt prog[i])) [.str "read", .str "move"]) = rdSt prog[i] := by rw [if_neg Bool.false_ne_true]; exact inRd _
            rw [ein]
            cases e : rdSt prog[i] with
            | true =>
              refine iteT_of rfl ?_
              walk_at "gs"
              refine ⟨_, hDD, lt_line (by rw [List.length_map]; omega), fun a o h => ?_, ?_⟩
              · rw [upd_ne (ne_of_none h hD0)]; exact sm _ _ h
              · rw [upd_same, if_pos rfl, List.map_append] <;> rfl
            | false =>
              refine iteF_of rfl ?_
              exact ⟨sm, hDD⟩
          obtain ⟨sm3, hD3⟩ := pv
          have e3 : ((pw.length : Int)).toNat = prog.length := by omega
          rw [e3] at hD3
          have hMl : (marks prog prog.length).length ≤ prog.length := by
            unfold marks
            exact Nat.le_trans (List.length_filter_le _ _) (by rw [List.length_range]; exact Nat.le_refl _)
          have hMi : (((marks prog prog.length).map fun k => V.int (k : Nat)).length : Int) = ((marks prog prog.length).length : Int) := by rw [List.length_map]
          walk_at "gs"
          refine ⟨by rw [hMi]; omega, by rw [hMi]; omega, fun D1 hD1 => ?_⟩
          rw [hMi, show (((marks prog prog.length).length : Int)).toNat = (marks prog prog.length).length by omega]
          refine lc_range (n := (marks prog prog.length).length) (lo := 0) (fun i H4 => Same H' H4 ∧ H4 D1 = some (.lst ((((List.range i).filter fun k => decide ((n : Int) ≤ ((marks prog prog.length).getD k 0 : Nat)) && decide (d2 ≤ (k : Int)))).map fun k => .int (k : Nat)))) ⟨Same.new hD1, upd_same⟩ (fun i H4 hi' pv => ?_) fun H4 pv => ?_
          · obtain ⟨sm, hDD⟩ := pv
            have hD31 := sm _ _ hD3
            have hmi : ((marks prog prog.length).map fun k => V.int (k : Nat))[i]? = some (.int ((marks prog prog.length).getD i 0 : Nat)) := by
              rw [List.getElem?_map, List.getElem?_eq_getElem hi', List.getD_eq_getElem?_getD, List.getElem?_eq_getElem hi'] <;> rfl
            have hfl : ((List.range i).filter fun k => decide ((n : Int) ≤ ((marks prog prog.length).getD k 0 : Nat)) && decide (d2 ≤ (k : Int))).length ≤ i := Nat.le_trans (List.length_filter_le _ _) (by rw [List.length_range]; exact Nat.le_refl _)
            have hsu : ((List.range (i + 1)).filter fun k => decide ((n : Int) ≤ ((marks prog prog.length).getD k 0 : Nat)) && decide (d2 ≤ (k : Int))) = ((List.range i).filter fun k => decide ((n : Int) ≤ ((marks prog prog.length).getD k 0 : Nat)) && decide (d2 ≤ (k : Int))) ++ (if (n : Int) ≤ ((marks prog prog.length).getD i 0 : Nat) ∧ d2 ≤ (i : Int) then [i] else []) := by
              rw [List.range_succ, List.filter_append]
              congr 1
              by_cases z : (n : Int) ≤ ((marks prog prog.length).getD i 0 : Nat) ∧ d2 ≤ (i : Int)
              · rw [if_pos z, List.filter_cons_of_pos (by simpa using z)] <;> rfl
              · rw [if_neg z, List.filter_cons_of_neg (by simpa using z)] <;> rfl
            rw [hsu]
            walk_at "gs"
            rw [Int.zero_add]
            refine ⟨_, _, _, _, rfl, rfl, SqL.of hD31, atI_nat hmi, ?_⟩
            walk_at "gs"
            refine iteD (fun q1 => ?_) (fun q1 => ?_)
            · walk_at "gs"
              refine iteD (fun q2 => ?_) (fun q2 => ?_)
              · walk_at "gs"
                refine ⟨_, hDD, lt_line (by rw [List.length_map]; omega), fun a o h => ?_, ?_⟩
                · rw [upd_ne (ne_of_none h hD1)]; exact sm _ _ h
                · rw [upd_same, if_pos ⟨of_decide_eq_true q1, of_decide_eq_true q2⟩, List.map_append] <;> rfl
              · rw [if_neg (fun c => of_decide_eq_false q2 c.2), List.append_nil]
                exact ⟨sm, hDD⟩
            · walk_at "gs"
              rw [if_neg (fun c => of_decide_eq_false q1 c.1), List.append_nil]
              exact ⟨sm, hDD⟩
          obtain ⟨sm4, hD4⟩ := pv
          have hD4 : H4 D1 = some (.lst ((ends prog n d2).map fun k => .int (k : Nat))) := hD4
          have s24 := Same.trans sm3 sm4
          have hm4 := hm2.same s24
          clear hi
          have hi := hm4.h.ins
          walk_at "gs"
          refine ⟨hT2.ext s24, fun wf c' cc cl H5 e5 hT5 clo => ?_⟩
          have e25 : ExtN H2 H5 := (ExtN.of s24).trans e5
          have hm5 := hm2.ext e25
          have hp5 := hp2.tp (ExtN.tp e25)
          have hpo5 := hpo2.tp (ExtN.tp e25)
          have hD5 : H5 D1 = some (.lst ((ends prog n d2).map fun k => .int (k : Nat))) := e5 _ _ hD4 fun _ z => by cases z
          have noD1 : ¬ foot m d D1 := fun z => by
            obtain ⟨o, eo, _⟩ := hm2.h.get z
            have := sm3 _ _ eo
            rw [hD1] at this
            cases this
          have fr : ∀ {H6 : Hp} {d6 : MD}, Ch m d H5 H6 d6 → FrN (foot m d) H2 H6 ∧ (∀ a, foot m d6 a → foot m d a ∨ Fresh H2 a) ∧ Tabs (Tb K) H6 := fun {H6 d6} ch6 => by
            refine ⟨(FrN.ext e25).trans2 (FrN.of ch6.1) fun a h => .inl h, fun a h => ?_, Tabs.fr hT5 ch6.1 (fun a ps e => (foot_nt hm5.h).1 ps e) fun a q e => (foot_nt hm5.h).2 q e⟩
            rcases ch6.2 a h with z | z
            · exact .inl z
            · exact .inr ((Fresh.of z).back (FrN.ext (W := fun _ => False) e25) id)
          walk_at "gs"
          refine ⟨m, ta, qa, wf, c', cc, cl, d2, d, prog, pol, n, rfl, hm5, hp5, hpo5, G, hn, clo, fun calm H6 d6 hm6 ch6 => ?_, fun nc H6 d6 dd hm6 ch6 => ?_⟩
          · obtain ⟨g1, g2, g3⟩ := fr ch6
            have hD6 := ch6.1.at_ hD5 noD1
            have hp6 := hp5.tp ch6.tp
            obtain ⟨pw6, hta6, hpw6⟩ := id hp6
            have hl6 : (pw6.length : Int) = (prog.length : Int) := by rw [hpw6.length, List.length_map]
            have hend := (ends_calm pol prog (l := d2) hn).mpr calm
            rw [hend] at hD6
            walk_at "gs"
            refine ⟨szk (n := 2) (by decide), fun L hL => ?_⟩
            have s7 := Same.new (o := .lst [.int pw6.length, .int (-1)]) hL
            have hL7 : upd H6 L (.lst [.int pw6.length, .int (-1)]) L = some (.lst [.int pw6.length, .int (-1)]) := upd_same
            generalize upd H6 L (.lst [.int pw6.length, .int (-1)]) = H7 at s7 hL7 ⊢
            have hD7 := s7 _ _ hD6
            walk_at "gs"
            refine ⟨szk (n := 0) (by decide), fun L2 hL2 => ?_⟩
            have s8' := Same.new (o := .lst []) hL2
            have s8 := Same.trans s7 s8'
            refine ⟨D1, L2, [], rfl, rfl, SqL.of (s8' _ _ hD7), SqL.of upd_same, ?_⟩
            walk_at "gs"
            refine .inr ⟨_, rfl, ?_⟩
            refine ⟨L, _, 0, .int pw6.length, rfl, rfl, SqL.of (s8' _ _ hL7), rfl, ?_⟩
            rw [hl6]
            exact fin prog.length _ d6 (Nat.le_refl _) (hm6.same s8) (g1.trans2 (W' := fun _ => False) (FrN.ext (ExtN.of s8)) fun a z => z.elim) g2 (g3.ext s8)
          · obtain ⟨g1, g2, g3⟩ := fr ch6
            have hD6 := ch6.1.at_ hD5 noD1
            have hend : ends prog n d2 ≠ [] := fun z => nc ((ends_calm pol prog (l := d2) hn).mp z)
            refine ⟨true, rfl, fun _ a _ => ?_, fun z => by cases z⟩
            unfold tEnds
            walk_at "gs"
            refine ⟨szk (n := 2) (by decide), fun L hL => ?_⟩
            have s7 := Same.new (o := .lst [.int (-1), .int n]) hL
            have hL7 : upd H6 L (.lst [.int (-1), .int n]) L = some (.lst [.int (-1), .int n]) := upd_same
            generalize upd H6 L (.lst [.int (-1), .int n]) = H7 at s7 hL7 ⊢
            have hD7 := s7 _ _ hD6
            walk_at "gs"
            refine ⟨szk (n := 0) (by decide), fun L2 hL2 => ?_⟩
            have s8' := Same.new (o := .lst []) hL2
            have s8 := Same.trans s7 s8'
            refine ⟨D1, L2, _, rfl, rfl, SqL.of (s8' _ _ hD7), SqL.of upd_same, ?_⟩
            walk_at "gs"
            refine .inr ⟨_, rfl, ?_⟩
            have hne : (!((ends prog n d2).map fun k => V.int (k : Nat)).isEmpty) = true := by
              cases e : ends prog n d2 with
              | nil => exact absurd e hend
              | cons x r => rfl
            rw [hne]
            refine ⟨L, _, 1, .int n, rfl, rfl, SqL.of (s8' _ _ hL7), rfl, ?_⟩
            exact fin n _ d6 hn (hm6.same s8) (g1.trans2 (W' := fun _ => False) (FrN.ext (ExtN.of s8)) fun a z => z.elim) g2 (g3.ext s8)
    walk_at "gs"
    refine ⟨pa, _, k, rfl, pn, by omega, by decide, by decide, fun d1 H1 a1 b1 f1 p1 => ?_⟩
    walk_at "gs"
    refine ⟨pa, _, _, rfl, p1, by omega, by decide, by decide, fun d2 H2 a2 b2 f2 p2 => ?_⟩
    have F := Fa.trans f1 f2
    have hm2 := hm.frN (FrN.of F.1) fun a ha e => hoff a (.inl e) ha
    have hp2 := hp.tp F.tp
    have hpo2 := hpo.tp F.tp
    have hpl : H pa ≠ none := PenA.there pn (.inl rfl)
    have hT2 : Tabs (Tb K) H2 := Tabs.fr hT F.1 (fun a ps e z => by
      obtain ⟨xa, xs, t, r, h1, _⟩ := pn
      rw [z, h1] at e
      cases e) fun a q e z => by
      obtain ⟨xa, xs, t, r, h1, _⟩ := pn
      rw [z, h1] at e
      cases e
    have hoff2 : ∀ a, PenA H2 pa a → ¬ foot m d a := fun a h => hoff a (PenA.fa pn F h)
    have fin : ∀ (n' : Nat) H' d', n' ≤ prog.length → MA K H' m (.ref ta) (.ref qa) false d' (GS pol prog n') → FrN (foot m d) H2 H' → (∀ a, foot m d' a → foot m d a ∨ Fresh H2 a) → Tabs (Tb K) H' → Q (.int n') H' := by
      intro n' H' d' hn' hm' f ft hT'
      obtain ⟨pn', pa'⟩ := p2.frN f hoff2
      refine q n' H' d' hn' hm' ⟨FrN.trans (W := fun a => a = pa ∨ foot m d a) ((FrN.of F.1).mono fun a h => .inl h) f fun a h => .inl (.inr h), fun a ha => ?_, fun a ha => PenA.fa pn F (pa' a ha)⟩ (pn'.mono (by omega)) hT'
      rcases ft a ha with z | z
      · exact .inl z
      · by_cases c : a = pa
        · subst c
          obtain ⟨xa, xs, t, r, h1, _⟩ := p2
          obtain ⟨ps, e⟩ := z _ h1
          cases e
        · exact .inr (z.back (FrN.of F.1) c)
    have hi := hm2.h.ins
    obtain ⟨pw, hta, hpw⟩ := id hp2
    have hpwl : pw.length = prog.length := by rw [hpw.length, List.length_map]
    walk_at "gs"
    refine iteD (fun c1 => ?_) (fun c1 => ?_)
    · walk_at "gs"
      refine iteD (fun c2 => ?_) (fun c2 => ?_)
      · have c2 : n < prog.length := by have := of_decide_eq_true c2; rw [hpwl] at this; omega
        walk_at "gs"
        have hst : prog[n]? = some prog[n] := List.getElem?_eq_getElem c2
        have h60 := G.h60
        have hrc := G.recs n hn
        refine ⟨m, ta, qa, d, GS pol prog n, prog, _, pol, rfl, hm2, hp2, by rw [hrc]; exact hst, G.fit n _ hst, hpo2, G.vq, G.bd n, by omega, fun H3 d3 hm3 ch3 => ?_⟩
        walk_at "gs"
        rw [← GS_succ hst] at hm3
        have z := fin (n + 1) H3 d3 (by omega) hm3 (FrN.of ch3.1) (fun a h => (ch3.2 a h).imp id Fresh.of) (Tabs.fr hT2 ch3.1 (fun a ps e => (foot_nt hm2.h).1 ps e) fun a q e => (foot_nt hm2.h).2 q e)
        exact z
      · walk_at "gs"
        exact ⟨a2, hm2, hp2, hpo2, hT2, fin⟩
    · walk_at "gs"
      exact ⟨a2, hm2, hp2, hpo2, hT2, fin⟩
end
end GB
set_option maxHeartbeats 4000000
/-! GLW: all that the law has, between two deeds. -/
namespace GB
open PySem PySem.Spec PyProof.Rows L2 LamX
abbrev StE := Addr × LA × LM
/-- a list of states -/
structure StL (H : Hp) (b : Addr) (as : List StE) (pol : Pol) (prog : List Stm) : Prop where
  lst : H b = some (.lst (as.map fun e => .ref e.1))
  len : as.length = prog.length + 1
  at_ : ∀ (k : Nat) (e : StE), as[k]? = some e → LSA H e.1 e.2.1 e.2.2 ∧ Sim e.2.2 (GS pol prog k)
def StF (b : Addr) (as : List StE) (y : Addr) : Prop := y = b ∨ ∃ e ∈ as, ft e.1 e.2.1 y
theorem LSA.nt {H : Hp} {a : Addr} {p : LA} {x : LM} (h : LSA H a p x) {y : Addr} (hy : ft a p y) : ∃ o, H y = some o ∧ ∀ ps, o ≠ .tbl ps := by
  obtain ⟨ws, h1, _⟩ := h.rows
  obtain ⟨kvs, h2, _⟩ := h.dict
  obtain ⟨ss, h3, _⟩ := h.seen
  obtain ⟨ms, h4, _⟩ := h.made
  rcases hy with rfl | rfl | rfl | rfl | rfl | rfl | rfl
  · exact ⟨_, h.top, lst_nt⟩
  · exact ⟨_, h1, lst_nt⟩
  · exact ⟨_, h2, fun ps z => by cases z⟩
  · exact ⟨_, h.makers, lst_nt⟩
  · exact ⟨_, h.roots, lst_nt⟩
  · exact ⟨_, h3, lst_nt⟩
  · exact ⟨_, h4, lst_nt⟩
theorem StL.nt {H : Hp} {b : Addr} {as : List StE} {pol : Pol} {prog : List Stm} (h : StL H b as pol prog) {y : Addr} (hy : StF b as y) : ∃ o, H y = some o ∧ ∀ ps, o ≠ .tbl ps := by
  rcases hy with rfl | ⟨e, he, hf⟩
  · exact ⟨_, h.lst, lst_nt⟩
  · obtain ⟨k, hk⟩ := List.mem_iff_getElem?.mp he
    exact (h.at_ k e hk).1.nt hf
theorem StL.frN {W : Addr → Prop} {H H' : Hp} {b : Addr} {as : List StE} {pol : Pol} {prog : List Stm} (h : StL H b as pol prog) (f : FrN W H H') (n : ∀ y, StF b as y → ¬ W y) : StL H' b as pol prog :=
  ⟨f.at_ h.lst (n b (.inl rfl)) lst_nt, h.len, fun k e he => ⟨(h.at_ k e he).1.frN f fun y hy => n y (.inr ⟨e, List.mem_of_getElem? he, hy⟩), (h.at_ k e he).2⟩⟩
theorem foot_some {K : Frg} {H : Hp} {m : Addr} {p q : V} {b : Bool} {d : MD} (h : MH K H m p q b d) {a : Addr} (ha : foot m d a) : ∃ o, H a = some o ∧ ∀ ps, o ≠ .tbl ps := by
  obtain ⟨o, e, _⟩ := h.get ha
  refine ⟨o, e, fun ps z => ?_⟩
  subst z
  exact (foot_nt h).1 ps e ha
def up1 {α : Type} (f : Nat → α) (j : Nat) (x : α) : Nat → α := fun i => if i = j then x else f i
theorem up1_same {α : Type} {f : Nat → α} {j : Nat} {x : α} : up1 f j x j = x := if_pos rfl
theorem up1_ne {α : Type} {f : Nat → α} {i j : Nat} {x : α} (h : i ≠ j) : up1 f j x i = f i := if_neg h
/-- the parts that stay where they are -/
structure LP where
  pa : Addr
  lm : Addr
  lc : Addr
  S : Addr
  ta : Addr
  ms : Nat → Addr
  qa : Nat → Addr
  pol : Nat → Pol
  prog : List Stm
  sb : Nat → Addr
  as : Nat → List StE
/-- what is read, and never written -/
def LP.Z (p : LP) (y : Addr) : Prop := y = p.lm ∨ y = p.S ∨ ∃ j, j < 2 ∧ StF (p.sb j) (p.as j) y
structure LW (K : Frg) (p : LP) (H : Hp) (ds : Nat → MD) (cs cl : Nat → Nat) (k : Nat) : Prop where
  pen : Pn H p.pa k
  lm : H p.lm = some (.lst [.ref (p.ms 0), .ref (p.ms 1), .ref (p.ms 2), .ref (p.ms 3)])
  lc : H p.lc = some (.lst [.int (cl 0), .int (cl 1), .int (cl 2), .int (cl 3)])
  S : H p.S = some (.lst [.ref (p.sb 0), .ref (p.sb 1)])
  st : ∀ j, j < 2 → StL H (p.sb j) (p.as j) (p.pol j) p.prog
  ma : ∀ i, i < 4 → MA K H (p.ms i) (.ref p.ta) (.ref (p.qa (i % 2))) false (ds i) (GS (p.pol (i % 2)) p.prog (cs i)) ∧ cs i ≤ p.prog.length
  dj : ∀ i j, i < 4 → j < 4 → i ≠ j → ∀ y, foot (p.ms i) (ds i) y → ¬ foot (p.ms j) (ds j) y
  zoff : ∀ i, i < 4 → ∀ y, p.Z y → ¬ foot (p.ms i) (ds i) y
  coff : ∀ i, i < 4 → ¬ foot (p.ms i) (ds i) p.lc
  poff : ∀ i, i < 4 → ∀ y, PenA H p.pa y → ¬ foot (p.ms i) (ds i) y
  pz : ∀ y, PenA H p.pa y → ¬ p.Z y ∧ y ≠ p.lc
  cz : ¬ p.Z p.lc
  pr : PrV p.ta H p.prog
  po : ∀ j, j < 2 → poV (p.qa j) H (p.pol j)
  tb : Tabs (Tb K) H
section
variable {K : Frg} {p : LP} {H H' : Hp} {ds : Nat → MD} {cs cl : Nat → Nat} {k : Nat}
theorem LW.znt (h : LW K p H ds cs cl k) {y : Addr} (hy : p.Z y) : ∃ o, H y = some o ∧ ∀ ps, o ≠ .tbl ps := by
  rcases hy with rfl | rfl | ⟨j, hj, hy⟩
  · exact ⟨_, h.lm, lst_nt⟩
  · exact ⟨_, h.S, lst_nt⟩
  · exact (h.st j hj).nt hy
theorem not_fresh {H : Hp} {y : Addr} (h : ∃ o, H y = some o ∧ ∀ ps, o ≠ .tbl ps) : ¬ Fresh H y := fun f => by
  obtain ⟨o, e, n⟩ := h
  obtain ⟨ps, z⟩ := f o e
  exact n ps z
theorem pen_nt {pa y : Addr} {n : Nat} (p : Pn H pa n) (h : PenA H pa y) : ∃ o, H y = some o ∧ ∀ ps, o ≠ .tbl ps := by
  obtain ⟨xa, xs, t, r, h1, h2, h3⟩ := p
  rcases h with rfl | ⟨t', r', z⟩
  · exact ⟨_, h1, lst_nt⟩
  · rw [h1] at z
    cases z
    exact ⟨_, h2, lst_nt⟩
/-- all but the tables stays -/
theorem LW.ext (h : LW K p H ds cs cl k) (f : ExtN H H') (t : Tabs (Tb K) H') : LW K p H' ds cs cl k := by
  have g : FrN (fun _ => False) H H' := FrN.ext f
  obtain ⟨p1, p2⟩ := h.pen.frN g fun a _ => id
  exact ⟨p1, g.at_ h.lm id lst_nt, g.at_ h.lc id lst_nt, g.at_ h.S id lst_nt, fun j hj => (h.st j hj).frN g fun _ _ => id, fun i hi => ⟨(h.ma i hi).1.ext f, (h.ma i hi).2⟩, h.dj, h.zoff, h.coff, fun i hi y hy => h.poff i hi y (p2 y hy), fun y hy => h.pz y (p2 y hy), h.cz, h.pr.tp g.tp, fun j hj => (h.po j hj).tp g.tp, t⟩
/-- only the pen is written -/
theorem LW.draw (h : LW K p H ds cs cl k) (f : Fa p.pa H H') {k' : Nat} (hp : Pn H' p.pa k') : LW K p H' ds cs cl k' := by
  have g : FrN (fun y => y = p.pa) H H' := FrN.of f.1
  have pa : ∀ y, PenA H' p.pa y → PenA H p.pa y := fun y hy => PenA.fa h.pen f hy
  have zp := h.pz p.pa (.inl rfl)
  have hpt : ∀ a ps, H a = some (.tbl ps) → ¬ a = p.pa := fun a ps e z => by
    obtain ⟨o, eo, n⟩ := pen_nt h.pen (y := p.pa) (.inl rfl)
    rw [z, eo] at e
    exact n ps (Option.some.inj e)
  have hpc : ∀ a q, H a = some (CodeO a q) → ¬ a = p.pa := fun a q e z => by
    obtain ⟨xa, xs, t, r, h1, _⟩ := h.pen
    rw [z, h1] at e
    cases e
  exact ⟨hp, g.at_ h.lm (fun z => zp.1 (.inl z.symm)) lst_nt, g.at_ h.lc (fun z => zp.2 z.symm) lst_nt, g.at_ h.S (fun z => zp.1 (.inr (.inl z.symm))) lst_nt, fun j hj => (h.st j hj).frN g fun y hy z => zp.1 (.inr (.inr ⟨j, hj, by rw [← z]; exact hy⟩)),
    fun i hi => ⟨(h.ma i hi).1.frN g fun y hy z => h.poff i hi y (.inl z) hy, (h.ma i hi).2⟩, h.dj, h.zoff, h.coff, fun i hi y hy => h.poff i hi y (pa y hy), fun y hy => h.pz y (pa y hy), h.cz, h.pr.tp g.tp, fun j hj => (h.po j hj).tp g.tp, Tabs.fr h.tb f.1 hpt hpc⟩
/-- a deed at the machine j -/
theorem LW.deed (h : LW K p H ds cs cl k) {j : Nat} (hj : j < 4) {n' : Nat} {d' : MD} (hn : n' ≤ p.prog.length) (m : MA K H' (p.ms j) (.ref p.ta) (.ref (p.qa (j % 2))) false d' (GS (p.pol (j % 2)) p.prog n')) (f : DeedFr p.pa (p.ms j) (ds j) H H' d') {k' : Nat} (hp : Pn H' p.pa k') (t : Tabs (Tb K) H') :
    LW K p H' (up1 ds j d') (up1 cs j n') cl k' := by
  obtain ⟨g, ftn, pa⟩ := f
  have zp := h.pz p.pa (.inl rfl)
  have zw : ∀ y, p.Z y → ¬ (y = p.pa ∨ foot (p.ms j) (ds j) y) := fun y hy z => by
    rcases z with rfl | z
    · exact zp.1 hy
    · exact h.zoff j hj y hy z
  have foots : ∀ i, i < 4 → i ≠ j → ∀ y, foot (p.ms i) (ds i) y → ¬ (y = p.pa ∨ foot (p.ms j) (ds j) y) := fun i hi hne y hy z => by
    rcases z with rfl | z
    · exact h.poff i hi _ (.inl rfl) hy
    · exact h.dj i j hi hj hne y hy z
  have newf : ∀ y, (∃ o, H y = some o ∧ ∀ ps, o ≠ .tbl ps) → ¬ foot (p.ms j) (ds j) y → ¬ foot (p.ms j) d' y := fun y hy n z => by
    rcases ftn y z with w | w
    · exact n w
    · exact not_fresh hy w
  refine ⟨hp, g.at_ h.lm (zw _ (.inl rfl)) lst_nt, g.at_ h.lc (fun z => ?_) lst_nt, g.at_ h.S (zw _ (.inr (.inl rfl))) lst_nt, fun i hi => (h.st i hi).frN g fun y hy => zw y (.inr (.inr ⟨i, hi, hy⟩)), fun i hi => ?_, fun i l hi hl hne y hy => ?_, fun i hi y hy => ?_, fun i hi => ?_, fun i hi y hy => ?_, fun y hy => h.pz y (pa y hy), h.cz, h.pr.tp g.tp, fun i hi => (h.po i hi).tp g.tp, t⟩
  · rcases z with z | z
    · exact zp.2 z.symm
    · exact h.coff j hj z
  · by_cases e : i = j
    · subst e
      rw [up1_same, up1_same]
      exact ⟨m, hn⟩
    · rw [up1_ne e, up1_ne e]
      exact ⟨(h.ma i hi).1.frN g fun y hy => foots i hi e y hy, (h.ma i hi).2⟩
  · by_cases e : i = j
    · subst e
      rw [up1_same] at hy
      rw [up1_ne (Ne.symm hne)]
      intro z
      exact newf y (foot_some (h.ma l hl).1.h z) (fun w => h.dj i l hi hl hne y w z) hy
    · rw [up1_ne e] at hy
      by_cases e2 : l = j
      · subst e2
        rw [up1_same]
        exact newf y (foot_some (h.ma i hi).1.h hy) (fun w => h.dj i l hi hl hne y hy w)
      · rw [up1_ne e2]
        exact h.dj i l hi hl hne y hy
  · by_cases e : i = j
    · subst e
      rw [up1_same]
      exact newf y (h.znt hy) (h.zoff i hi y hy)
    · rw [up1_ne e]
      exact h.zoff i hi y hy
  · by_cases e : i = j
    · subst e
      rw [up1_same]
      exact newf _ ⟨_, h.lc, lst_nt⟩ (h.coff i hi)
    · rw [up1_ne e]
      exact h.coff i hi
  · by_cases e : i = j
    · subst e
      rw [up1_same]
      exact newf y (pen_nt h.pen (pa y hy)) (h.poff i hi y (pa y hy))
    · rw [up1_ne e]
      exact h.poff i hi y (pa y hy)
/-- a count is written -/
theorem LW.count (h : LW K p H ds cs cl k) (c2 : Nat → Nat) : LW K p (upd H p.lc (.lst [.int (c2 0), .int (c2 1), .int (c2 2), .int (c2 3)])) ds cs c2 k := by
  have g0 : Fr (fun y => y = p.lc) H (upd H p.lc (.lst [.int (c2 0), .int (c2 1), .int (c2 2), .int (c2 3)])) := Fr.put rfl h.lc fun _ z => by cases z
  have g := FrN.of g0
  have poff : ∀ y, PenA H p.pa y → ¬ y = p.lc := fun y hy => (h.pz y hy).2
  obtain ⟨p1, p2⟩ := h.pen.frN g poff
  have zc : ∀ y, p.Z y → ¬ y = p.lc := fun y hy z => h.cz (by rw [← z]; exact hy)
  have hpt : ∀ a ps, H a = some (.tbl ps) → ¬ a = p.lc := fun a ps e z => by
    rw [z, h.lc] at e
    cases e
  have hpc : ∀ a q, H a = some (CodeO a q) → ¬ a = p.lc := fun a q e z => by
    rw [z, h.lc] at e
    cases e
  exact ⟨p1, g.at_ h.lm (zc _ (.inl rfl)) lst_nt, upd_same, g.at_ h.S (zc _ (.inr (.inl rfl))) lst_nt, fun i hi => (h.st i hi).frN g fun y hy => zc y (.inr (.inr ⟨i, hi, hy⟩)), fun i hi => ⟨(h.ma i hi).1.frN g fun y hy z => h.coff i hi (by rw [← z]; exact hy), (h.ma i hi).2⟩,
    h.dj, h.zoff, h.coff, fun i hi y hy => h.poff i hi y (p2 y hy), fun y hy => h.pz y (p2 y hy), h.cz, h.pr.tp g.tp, fun j hj => (h.po j hj).tp g.tp, Tabs.fr h.tb g0 hpt hpc⟩
theorem LW.same (h : LW K p H ds cs cl k) (f : Same H H') : LW K p H' ds cs cl k := h.ext (ExtN.of f) (h.tb.ext f)
end
end GB
set_option maxHeartbeats 4000000
/-! GL17: a machine stands. -/
namespace GB
open PySem PySem.Spec PyProof.Rows L2 LamX SkE
local macro_rules | `(tactic| walk_at "g") => `(tactic| first
  | refine ⟨_, rfl, ?_⟩
  | refine ⟨_, _, rfl, rfl, ?_⟩
  | refine ⟨_, _, _, _, rfl, rfl, SqT.of (by assumption), by rfl, ?_⟩
  | refine ⟨_, _, _, _, rfl, rfl, SqL.of (by assumption), by rfl, ?_⟩
  | refine ⟨_, _, _, _, rfl, rfl, SqL.of (by assumption), atI_nat (by assumption), ?_⟩
  | refine ⟨rfl, ⟨rfl, by decide⟩, ?_⟩
  | refine ⟨_, _, _, _, _, rfl, .ty _, .base (.tup (by assumption)), kt_tup, ?_⟩
  | refine ⟨_, _, _, _, _, rfl, .ty _, .base (.str _), kt_str, ?_⟩
  | refine ⟨_, _, rfl, .inr (SqT.of (by assumption)), ?_⟩
  | refine ⟨_, _, rfl, .inl (SqL.of (by assumption)), ?_⟩
  | refine iteT_of (by first | decide +kernel | rfl) ?_
  | refine iteF_of (by first | decide +kernel | rfl) ?_
  | refine iteT_of (btw_t (by omega)) ?_
  | refine iteF_of (by rw [btw_t (by omega)]; rfl) ?_
  | refine ⟨_, _, rfl, rfl, by assumption, ?_⟩
  | refine ⟨_, _, _, rfl, rfl, by assumption, ?_⟩
  | refine ⟨_, _, _, _, _, rfl, by assumption, Txt.cl (by assumption), by first | exact Txt.no_kept_program (by assumption) | exact Txt.no_kept_policy (by assumption) | exact Txt.no_rows (by assumption) | exact Txt.no_cells (by assumption) | exact Txt.no_makers (by assumption) | exact Txt.no_roots (by assumption) | exact Txt.no_seen (by assumption) | exact Txt.no_made (by assumption) | exact Txt.no_records (by assumption) | exact Txt.no_busy (by assumption), by rfl, ?_⟩
  | refine ⟨_, _, _, rfl, by assumption, by rfl, ?_⟩
  | refine ⟨_, _, _, rfl, ?_⟩
  | refine ⟨_, _, rfl, SqT.of (by assumption), by rfl, ?_⟩
  | refine ⟨_, _, rfl, ?_⟩
  | refine ⟨.inl (by decide), ?_⟩
  | refine ⟨.inl ⟨rfl, _, SqL.of (by assumption)⟩, ?_⟩
  | refine ⟨rfl, ?_⟩)
local macro_rules | `(tactic| walk_at "gs") => `(tactic| repeat walk_at "g")
local macro_rules | `(tactic| walk_at "b") => `(tactic| (first | decide +kernel | (simp only [decide_eq_true_eq, decide_eq_false_iff_not, List.length_map, V.int.injEq, Bool.not_eq_true', Bool.not_eq_false']; omega)))
section
variable {P : Program} {w : World} {K : Frg} {mg : Str → Option Value} {base : Heap}
def sp_l_stands : Sp := fun vs H Q _ => ∃ (m a : Addr) (pv qv : V) (z : Bool) (d : MD) (p : LA) (x : LM) (s : MS) (n : Nat), vs = [.ref m, .ref a, .int n] ∧ MA K H m pv qv z d s ∧ LSA H a p x ∧ Sim x s ∧ s.recs.length = n ∧ LBd s ∧ (∀ r ∈ s.rows, r.b < s.cells.length ∧ 0 ≤ r.l ∧ r.l.natAbs < 10 ^ 50) ∧ Shw n s ∧ Tabs (Tb K) H ∧
  ∀ H', ExtN H H' → Tabs (Tb K) H' → Q (.bl true) H'
theorem ok_l_stands (T : Txt K mg) (TX : TxX K) (TT : TxT K mg base) : OkG P w K mg base CX0 7 ("_law_stands", none) P_l_stands (sp_l_stands (K := K)) := by
  refine OkG.of T.f_l_stands sc_l_stands (fun _ _ _ _ _ _ us hl => match us, hl with | [_, _, _], _ => rfl) (fun vs H Q E h => ?_) fun f c A outer s H vs Q E ec hr hgd h => ?_
  · obtain ⟨m, a, p', q', z, d, p, x, s, n, rfl, _⟩ := h
    rfl
  · obtain ⟨m, a, p', q', z, d, p, x, s0, n, rfl, hm, hs, hsim, hn, B, hrb, W, hT, k⟩ := h
    have TB : TabB base mg c (He.cT K d_l_stands.at_).2 := by
      have z := TT.t1
      rw [show (He.cT K d_l_stands.at_).1 = c from ec] at z
      exact z
    have eq1 : ("_law_stands.<locals>." : Str) ++ "<lambda>" = "_law_stands.<locals>.<lambda>" := by decide +kernel
    have hmT : ((He.cT K d_l_stands.at_).2, ("_law_stands.<locals>." : Str) ++ "<lambda>") ∈ Tb K := by
      rw [eq1]
      exact List.mem_cons_self
    have huT : ∀ p ∈ Tb K, p.1 = (He.cT K d_l_stands.at_).2 → p.2 = ("_law_stands.<locals>." : Str) ++ "<lambda>" := by
      rw [eq1]
      exact TT.u1
    have hu5 : (A.deeper (envOfC d_l_stands.qual d_l_stands.scope s.heap.objs.size f (.ref c))).units + 100 < cLine := by
      have := hr.un
      omega
    have h0 := hs.top
    obtain ⟨rws, hrws, hrr⟩ := id hs.rows
    refine ⟨_, PSs.nox (pss_cons (ps_for PassesOwn.never rfl (pi_enum rfl T.bi.enumerate (pa_cons (pe_ix ix_list (pv 1) pe_int (fun _ _ => rfl)) pa_nil)) (pg_tup rfl (pgs_cons (pg_name (i := 3) sc_l_stands.nd rfl (Or.inr rfl)) (pgs_cons (pg_name (i := 4) sc_l_stands.nd rfl (Or.inr rfl)) pgs_nil)))
       (pss_one (ps_if (pt_cmpR op_ne (pe_refused T TX hu5 rfl TB rfl hmT huT (hr.mono (by decide)) (lamS_by (sc := defScope s_l_stands) (by decide +kernel)) rfl (fun _ _ _ _ _ => rfl) (fun A' outer' s' H' E' f' c' hr' => (pmL (ok_M_content T TX) T.cl T.m_content hr' (pv 0) (pa_cons (pv 3) (pa_cons (pe_ix (ix_tupK (K := K) rfl) (pv 4) pe_int (fun _ _ => rfl)) pa_nil))))) (pe_op op_add_str pe_str (pe_callB call_repr_int rfl T.bi.repr (by decide +kernel) (pa_cons (pe_ix ix_tup (pv 4) pe_int (fun _ _ => rfl)) pa_nil))) (nomark _))
        (pss_one (ps_ret pe_bl))
        pss_nil)))
      (pss_one (ps_ret (pe_cmpR op_eq (pfG (ok_l_told T TX) T.g_l_told hr hgd rfl pass0 (pa_cons (pv 0) (pa_cons (pe_lc (own := [("_law_row", 4)]) rfl sc_l_stands.nd (pi_list (pe_ix ix_list (pv 1) pe_int (fun _ _ => rfl))) (blkOk_by rfl) (fun _ _ _ _ _ => (pg_name (i := 4) sc_l_stands.nd rfl (Or.inl rfl) (.inr rfl))) (fun _ _ _ _ _ => pts_nil) (fun _ _ _ _ _ => (pe_ix (ix_tupK (K := K) rfl) (pv 4) pe_int (fun _ _ => rfl)))) pa_nil))) (pfG (ok_l_shown T) T.g_l_shown hr hgd rfl pass0 (pa_cons (pv 1) (pa_cons (pv 2) pa_nil))) (nomark _))))), ?_⟩
    walk_at "gs"
    refine ⟨_, _, rfl, SqL.of hrws, ?_⟩
    refine for_eL (xs := rws) (fun i σ H' => ∃ x3 x4 : Option V, σ = [some (.ref m), some (.ref a), some (.int n), x3, x4] ∧ ExtN H H' ∧ Tabs (Tb K) H') ⟨none, none, rfl, ExtN.refl H, hT⟩ (fun i σ H' _ pv => ?_) (fun i y σ H' Z hy pv hZ => ?_) fun σ H' pv => ?_
    · obtain ⟨_, _, _, eN, _⟩ := pv
      exact SqL.of (eN _ _ hrws fun _ z => by cases z)
    · obtain ⟨x3, x4, rfl, eN, hT1⟩ := pv
      obtain ⟨dd, hdd, rx⟩ := hrr.getV hy
      obtain ⟨r, hr0, rfl⟩ : ∃ r, x.rows[i]? = some r ∧ rowD r = dd := by simpa using hdd
      have hrs : s0.rows[i]? = some r := by rw [← hsim.rows]; exact hr0
      have hil : i < s0.rows.length := (List.getElem?_eq_some_iff.mp hrs).1
      have hrow : s0.row i = r := by
        show s0.rows.getD i row0 = r
        rw [List.getD_eq_getElem?_getD, hrs] <;> rfl
      obtain ⟨tr, rfl, htr⟩ := (rp_row r).mp rx
      have sz := Same.new (o := .tup [.int (i : Nat), .ref tr]) hZ
      have eZ : ExtN H (upd H' Z (.tup [.int (i : Nat), .ref tr])) := eN.trans (ExtN.of sz)
      have hTZ := hT1.ext sz
      refine ⟨_, _, rfl, SqT.of upd_same, rfl, ?_⟩
      walk_at "gs"
      refine ⟨hTZ, fun H1 e1 hT2 Q' => ?_⟩
      have e2 := eZ.trans e1
      have hm1 := hm.ext e2
      have hi := hm1.h.ins
      have htr1 := ExtN.tp e2 _ _ htr
      walk_at "gs"
      obtain ⟨hb1, hb2, hb3⟩ := hrb r (List.mem_of_getElem? hrs)
      refine ⟨m, p', q', z, d, s0, (i : Int), r.l, rfl, hm1, fun h => ?_, fun i' ei hl' => ?_⟩
      · exfalso; omega
      have ei : i' = i := by omega
      subst ei
      rw [hrow]
      refine ⟨fun _ dx hdx => ?_, fun h1 h2 => ?_⟩
      · refine ⟨dx, r.l, rfl, hb3, .inr ⟨rfl, upd_same, fun H2 s2 => ?_⟩⟩
        have s12 := Same.trans (Same.new (o := .xd [("index", .int r.l)]) hdx) s2
        have htr2 := s12 _ _ htr1
        walk_at "gs"
        refine ⟨log_of hb3, ?_⟩
        walk_at "gs"
        have hln : (Str.ofString (toString r.l)).length ≤ 51 := sh_int hb3
        refine ⟨by rw [sizeLine_eq]; show 5 + (Str.ofString (toString r.l)).length ≤ _; omega, ?_⟩
        refine ⟨rfl, _, rfl, ?_⟩
        refine iteF_of (by simp) ?_
        exact ⟨_, _, rfl, e2.trans (ExtN.of s12), hT2.ext s12⟩
      · exfalso; omega
    · obtain ⟨x3, x4, rfl, eN, hT1⟩ := pv
      have hs1 := hs.ext eN
      have hm1 := hm.ext eN
      clear h0
      have h0 := hs1.top
      have hrws1 : H' p.r = some (.lst rws) := eN _ _ hrws fun _ z => by cases z
      walk_at "gs"
      refine ⟨⟨_, SqL.of hrws1⟩, fun D hD => ?_⟩
      have hrl : rws.length = s0.rows.length := by rw [hrr.length, List.length_map, hsim.rows]
      have hb9 := B.rows
      refine lc_list (xs := rws) (fun i H1 => Same H' H1 ∧ H1 D = some (.lst ((s0.rows.take i).map fun r => .int r.l))) ⟨Same.new hD, upd_same⟩ (fun i H1 _ pv => SqL.of (pv.1 _ _ hrws1)) (fun i y H1 hy pv => ?_) fun H1 pv => ?_
      · obtain ⟨sm, hDD⟩ := pv
        obtain ⟨dd, hdd, rx⟩ := hrr.getV hy
        obtain ⟨r, hr0, rfl⟩ : ∃ r, x.rows[i]? = some r ∧ rowD r = dd := by simpa using hdd
        have hrs : s0.rows[i]? = some r := by rw [← hsim.rows]; exact hr0
        obtain ⟨tr, rfl, htr⟩ := (rp_row r).mp rx
        have htr1 := sm _ _ (ExtN.tp eN _ _ htr)
        walk_at "gs"
        refine ⟨_, hDD, lt_line ?_, fun a o h => ?_, ?_⟩
        · rw [List.length_map, List.length_take]; omega
        · rw [upd_ne (ne_of_none h hD)]; exact sm _ _ h
        · rw [upd_same, List.take_succ, hrs, List.map_append] <;> rfl
      obtain ⟨sm1, hD1⟩ := pv
      rw [hrl, List.take_length] at hD1
      walk_at "gs"
      refine ⟨m, D, p', q', z, d, s0, n, rfl, hm1.same sm1, hD1, hn, B, fun r hr => (hrb r hr).1, hsim.cm.symm, hsim.cr.symm, W, fun H2 s2 => ?_⟩
      walk_at "gs"
      refine ⟨a, p, x, s0, n, rfl, hs1.same (Same.trans sm1 s2), hsim, B, fun r hr => (hrb r hr).1, W, fun H3 s3 => ?_⟩
      refine ⟨rfl, ?_⟩
      rw [decide_eq_true rfl]
      have s13 := Same.trans sm1 (Same.trans s2 s3)
      exact k H3 (eN.trans (ExtN.of s13)) (hT1.ext s13)
end
end GB
set_option maxHeartbeats 4000000
/-! GPen: the pen, made of a script that is only read. -/
namespace GB
open PySem PySem.Spec PyProof.Rows L2 LamX
local macro_rules | `(tactic| walk_at "g") => `(tactic| first
  | refine ⟨_, rfl, ?_⟩
  | refine ⟨_, _, rfl, rfl, ?_⟩
  | refine ⟨_, _, _, _, rfl, rfl, SqT.of (by assumption), by rfl, ?_⟩
  | refine ⟨_, _, _, _, rfl, rfl, SqL.of (by assumption), by rfl, ?_⟩
  | refine ⟨_, _, _, _, rfl, rfl, SqL.of (by assumption), atI_nat (by assumption), ?_⟩
  | refine ⟨rfl, ⟨rfl, by decide⟩, ?_⟩
  | refine ⟨_, _, _, _, _, rfl, .ty _, .base (.tup (by assumption)), kt_tup, ?_⟩
  | refine ⟨_, _, _, _, _, rfl, .ty _, .base (.str _), kt_str, ?_⟩
  | refine ⟨_, _, rfl, .inr (SqT.of (by assumption)), ?_⟩
  | refine ⟨_, _, rfl, .inl (SqL.of (by assumption)), ?_⟩
  | refine iteT_of (by first | decide +kernel | rfl) ?_
  | refine iteF_of (by first | decide +kernel | rfl) ?_
  | refine iteT_of (btw_t (by omega)) ?_
  | refine iteF_of (by rw [btw_t (by omega)]; rfl) ?_
  | refine ⟨_, _, rfl, rfl, by assumption, ?_⟩
  | refine ⟨_, _, _, rfl, rfl, by assumption, ?_⟩
  | refine ⟨_, _, _, _, _, rfl, by assumption, Txt.cl (by assumption), by first | exact Txt.no_kept_program (by assumption) | exact Txt.no_kept_policy (by assumption) | exact Txt.no_rows (by assumption) | exact Txt.no_cells (by assumption) | exact Txt.no_makers (by assumption) | exact Txt.no_roots (by assumption) | exact Txt.no_seen (by assumption) | exact Txt.no_made (by assumption) | exact Txt.no_records (by assumption) | exact Txt.no_busy (by assumption), by rfl, ?_⟩
  | refine ⟨_, _, _, rfl, by assumption, by rfl, ?_⟩
  | refine ⟨_, _, _, rfl, ?_⟩
  | refine ⟨_, _, rfl, SqT.of (by assumption), by rfl, ?_⟩
  | refine ⟨_, _, rfl, ?_⟩
  | refine ⟨.inl (by decide), ?_⟩
  | refine ⟨.inl ⟨rfl, _, SqL.of (by assumption)⟩, ?_⟩
  | refine ⟨rfl, ?_⟩)
local macro_rules | `(tactic| walk_at "gs") => `(tactic| repeat walk_at "g")
local macro_rules | `(tactic| walk_at "b") => `(tactic| (first | decide +kernel | (simp only [decide_eq_true_eq, decide_eq_false_iff_not, List.length_map, V.int.injEq, Bool.not_eq_true', Bool.not_eq_false']; omega)))
section
variable {P : Program} {w : World} {K : Frg} {mg : Str → Option Value} {base : Heap}
def sp_l_penS (K : Frg) : Sp := fun vs H Q _ => ∃ (a : Addr) (xs : List Int), vs = [.ref a] ∧ SqL K H a (xs.map .int) ∧ ∀ b H', Same H H' → H b = none → Pn H' b 0 → Q (.ref b) H'
theorem ok_l_penS (T : Txt K mg) : Ok P w K mg base CX0 1 ("_law_pen", none) P_l_pen (sp_l_penS K) := by
  refine Ok.of T.f_l_pen sc_l_pen (fun _ _ _ _ _ _ us hl => match us, hl with | [_], _ => rfl) (fun vs H Q E h => ?_) fun f cdv A outer s H vs Q E hr h => ?_
  · obtain ⟨a, xs, rfl, _⟩ := h
    rfl
  · obtain ⟨a, xs, rfl, ha, k⟩ := h
    refine ⟨_, PSs.nox (pss_one (ps_ret (pe_lst (pa_cons (pe_callTy call_list_of rfl T.bi.list (by decide +kernel) (pa_cons (pe_slice sl_list (pv 0) po_none (po_some pe_int)) pa_nil)) (pa_cons pe_int (pa_cons pe_int pa_nil)))))), ?_⟩
    walk_at "gs"
    refine ⟨a, _, rfl, ha, fun p1 h1 => ?_⟩
    have s1 := Same.new (o := .lst (cutV (xs.map .int) none (some 63))) h1
    have e1 : upd H p1 (.lst (cutV (xs.map .int) none (some 63))) p1 = _ := upd_same
    walk_at "gs"
    refine fun p2 h2 => ?_
    have s2 := Same.new (o := .lst (cutV (xs.map .int) none (some 63))) h2
    refine ⟨szk (n := 3) (by decide), fun b hb => ?_⟩
    have s3 := Same.new (o := .lst [.ref p2, .int 0, .int 0]) hb
    have hc : ∃ ys : List Int, cutV (xs.map .int) none (some 63) = ys.map .int ∧ ys.length ≤ 63 := by
      refine ⟨(xs.drop (HT.sIx (xs.map V.int).length 0 none)).take (HT.sIx (xs.map V.int).length (xs.map V.int).length (some 63) - HT.sIx (xs.map V.int).length 0 none), by unfold cutV; rw [List.map_take, List.map_drop], ?_⟩
      rw [List.length_take]
      refine Nat.le_trans (Nat.min_le_left _ _) (Nat.le_trans (Nat.sub_le _ _) ?_)
      unfold HT.sIx
      simp
      omega
    obtain ⟨ys, hy, hl⟩ := hc
    have hbn : H b = none := by
      cases e : H b with
      | none => rfl
      | some o => rw [s2 _ _ (s1 _ _ e)] at hb; cases hb
    have hp2 := s3 _ _ (upd_same (H := upd H p1 (.lst (cutV (xs.map .int) none (some 63)))) (a := p2) (o := .lst (cutV (xs.map .int) none (some 63))))
    exact k b _ (Same.trans s1 (Same.trans s2 s3)) hbn ⟨p2, ys, 0, 0, upd_same, by rw [hp2, hy], (fun z => (by rw [z] at hp2; rw [z, upd_same] at hb; cases hb)), hl, by omega, by omega, by omega⟩
end
theorem call_len_seqK {X : Cx} {K : Frg} (hK : X.K = K) : CallR X (.builtin "len") (fun xs H Q => ∃ p ys, xs = [V.ref p] ∧ (SqL K H p ys ∨ SqT K H p ys) ∧ Q (.int ys.length) H) := by
  subst hK
  exact call_len_seq
theorem sl_tupK {X : Cx} {K : Frg} (hK : X.K = K) : SlR X (rSlT K) := by
  subst hK
  exact sl_tup
/-- what the law's walk wants of program and policy -/
structure Gs (pol : Pol) (prog : List Stm) : Prop where
  gd : Gd pol prog
  row : ∀ n, n ≤ prog.length → ∀ r ∈ (GS pol prog n).rows, r.b < (GS pol prog n).cells.length ∧ 0 ≤ r.l ∧ r.l.natAbs < 10 ^ 50
  shw : ∀ n, n ≤ prog.length → Shw n (GS pol prog n)
theorem LW.mono {K : Frg} {p : LP} {H : Hp} {ds : Nat → MD} {cs cl : Nat → Nat} {k k' : Nat} (h : LW K p H ds cs cl k) (z : k ≤ k') : LW K p H ds cs cl k' := { h with pen := h.pen.mono z }
/-- the law's world ahead of the states -/
structure LW0 (K : Frg) (p : LP) (H : Hp) (ds : Nat → MD) (k : Nat) : Prop where
  pen : Pn H p.pa k
  lm : H p.lm = some (.lst [.ref (p.ms 0), .ref (p.ms 1), .ref (p.ms 2), .ref (p.ms 3)])
  lc : H p.lc = some (.lst [.int 0, .int 0, .int 0, .int 0])
  ma : ∀ i, i < 4 → MA K H (p.ms i) (.ref p.ta) (.ref (p.qa (i % 2))) false (ds i) MS.zero
  dj : ∀ i j, i < 4 → j < 4 → i ≠ j → ∀ y, foot (p.ms i) (ds i) y → ¬ foot (p.ms j) (ds j) y
  loff : ∀ i, i < 4 → ¬ foot (p.ms i) (ds i) p.lm
  coff : ∀ i, i < 4 → ¬ foot (p.ms i) (ds i) p.lc
  poff : ∀ i, i < 4 → ∀ y, PenA H p.pa y → ¬ foot (p.ms i) (ds i) y
  pz : ∀ y, PenA H p.pa y → y ≠ p.lm ∧ y ≠ p.lc
  cz : p.lc ≠ p.lm
  pr : PrV p.ta H p.prog
  po : ∀ j, j < 2 → poV (p.qa j) H (p.pol j)
  tb : Tabs (Tb K) H
theorem LW0.same {K : Frg} {p : LP} {H H' : Hp} {ds : Nat → MD} {k : Nat} (h : LW0 K p H ds k) (f : Same H H') : LW0 K p H' ds k := by
  obtain ⟨p1, p2⟩ := h.pen.frN (W := fun _ => False) (FrN.ext (ExtN.of f)) fun a _ => id
  exact ⟨p1, f _ _ h.lm, f _ _ h.lc, fun i hi => (h.ma i hi).same f, h.dj, h.loff, h.coff, fun i hi y hy => h.poff i hi y (p2 y hy), fun y hy => h.pz y (p2 y hy), h.cz, h.pr.tp (Same.tp f), fun j hj => (h.po j hj).tp (Same.tp f), h.tb.ext f⟩
theorem LW0.done {K : Frg} {p : LP} {H H' : Hp} {ds : Nat → MD} {k : Nat} (h : LW0 K p H ds k) (f : Same H H') {S : Addr} {sb : Nat → Addr} {as : Nat → List StE} (hS : H' S = some (.lst [.ref (sb 0), .ref (sb 1)])) (hst : ∀ j, j < 2 → StL H' (sb j) (as j) (p.pol j) p.prog)
    (fr : ∀ y, (y = S ∨ ∃ j, j < 2 ∧ StF (sb j) (as j) y) → H y = none) : LW K { p with S := S, sb := sb, as := as } H' ds (fun _ => 0) (fun _ => 0) k := by
  have h' := h.same f
  have nf : ∀ {y : Addr} {o : HO}, H y = some o → ¬ (y = S ∨ ∃ j, j < 2 ∧ StF (sb j) (as j) y) := fun {y o} e z => by
    rw [fr y z] at e
    cases e
  have hz : ∀ y, LP.Z { p with S := S, sb := sb, as := as } y → y = p.lm ∨ (y = S ∨ ∃ j, j < 2 ∧ StF (sb j) (as j) y) := fun y hy => hy
  obtain ⟨p1, p2⟩ := h.pen.frN (W := fun _ => False) (FrN.ext (ExtN.of f)) fun a _ => id
  refine ⟨h'.pen, h'.lm, h'.lc, hS, hst, fun i hi => ⟨h'.ma i hi, Nat.zero_le _⟩, h.dj, fun i hi y hy hf => ?_, h.coff, h'.poff, fun y hy => ⟨fun z => ?_, (h'.pz y hy).2⟩, fun z => ?_, h'.pr, h'.po, h'.tb⟩
  · obtain ⟨o, e, _⟩ := foot_some (h.ma i hi).h hf
    rcases hz y hy with rfl | z
    · exact h.loff i hi hf
    · exact nf e z
  · rcases hz y z with rfl | z
    · exact (h'.pz _ hy).1 rfl
    · obtain ⟨o, e, _⟩ := pen_nt h.pen (p2 y hy)
      exact nf e z
  · rcases hz _ z with e | z
    · exact h.cz e
    · exact nf h.lc z
/-! ### spans as data -/
def pdE (q : Span) : PyData := .tuple [.int q.1, .int q.2]
def pdS (sp : List Span) : PyData := .list (sp.map pdE)
theorem pd_lay : ∀ sp : List Span, PyData.canLayAll0 (sp.map pdE) = true
  | [] => by simp only [List.map_nil, PyData.canLayAll0]
  | q :: r => by simp only [List.map_cons, PyData.canLayAll0, pdE, PyData.canLay0, Bool.true_and, Bool.and_true]; exact pd_lay r
theorem pd_dep : ∀ sp : List Span, PyData.depthAll (sp.map pdE) ≤ 1
  | [] => by simp only [List.map_nil, PyData.depthAll]; omega
  | q :: r => by
    have h := pd_dep r
    have e : PyData.depthAll ((q :: r).map pdE) = max (PyData.depth (pdE q)) (PyData.depthAll (r.map pdE)) := by simp only [List.map_cons, PyData.depthAll]
    have e2 : PyData.depth (pdE q) = 1 := by
      unfold pdE
      simp only [PyData.depth, PyData.depthAll]
      rfl
    rw [e, e2]
    omega
theorem pd_can (sp : List Span) : (pdS sp).canLay0 = true := by
  unfold pdS
  simp only [PyData.canLay0]
  exact pd_lay sp
theorem pd_depth (sp : List Span) : (pdS sp).depth ≤ 64 := by
  have h2 := pd_dep sp
  have e : (pdS sp).depth = PyData.depthAll (sp.map pdE) + 1 := by
    unfold pdS
    simp only [PyData.depth]
  rw [e]
  omega
theorem pd_shaped (sp : List Span) : SeqAt.shaped (pdS sp) = true := by
  unfold SeqAt.shaped
  rw [Bool.and_eq_true, decide_eq_true_eq]
  exact ⟨pd_can sp, pd_depth sp⟩
theorem pd_eqv (sp : List Span) : PyData.eqv (pdS sp) (pdS sp) = true := SeqAt.eqv_refl _ (pd_can sp)
theorem dp_spans {K : Frg} {H : Hp} : ∀ {sp : List Span} {vs : List V}, RpA H vs (sp.map spD) → DpAll K H vs (sp.map pdE)
  | [], vs, h => by rw [rpa_nil.mp h]; exact .nil
  | q :: r, vs, h => by
    obtain ⟨v, l, e, h1, h2⟩ := rpa_cons.mp h
    rw [e]
    obtain ⟨t, rfl, ht⟩ := (rp_sp q).mp h1
    exact .cons (.tup (SqT.of ht) (.cons (.int _) (.cons (.int _) .nil))) (dp_spans h2)
theorem StL.same {H H' : Hp} {b : Addr} {as : List StE} {pol : Pol} {prog : List Stm} (h : StL H b as pol prog) (f : Same H H') : StL H' b as pol prog := h.frN (W := fun _ => False) (FrN.ext (ExtN.of f)) fun _ _ => id
theorem LSA.era {H : Hp} {a D : Addr} {p : LA} {x : LM} {xs : List V} (h : LSA H a p x) (hD : H D = some (.lst xs)) (n : ∀ y, ft a p y → y ≠ D) : LSA (era H D) a p x := h.keep (fun b ys e => era_at e fun z => by rw [z, hD] at e; cases e) fun y hy => era_ne (n y hy)
theorem getD2 {α : Type} {bs : List α} (h : bs.length = 2) : ∃ a b, bs = [a, b] := by
  match bs, h with
  | [a, b], _ => exact ⟨a, b, rfl⟩
theorem pick4 {α : Type} (f : Nat → α) : ∀ {i : Nat}, i < 4 → [f 0, f 1, f 2, f 3][i]? = some (f i)
  | 0, _ => rfl
  | 1, _ => rfl
  | 2, _ => rfl
  | 3, _ => rfl
theorem set4 {α : Type} (f : Nat → α) (x : α) : ∀ {i : Nat}, i < 4 → [f 0, f 1, f 2, f 3].set i x = [up1 f i x 0, up1 f i x 1, up1 f i x 2, up1 f i x 3]
  | 0, _ => rfl
  | 1, _ => rfl
  | 2, _ => rfl
  | 3, _ => rfl
theorem set4n (f : Nat → Nat) (x : Nat) : ∀ {i : Nat}, i < 4 → ([.int (f 0), .int (f 1), .int (f 2), .int (f 3)] : List V).set i (.int x) = [.int (up1 f i x 0 : Nat), .int (up1 f i x 1 : Nat), .int (up1 f i x 2 : Nat), .int (up1 f i x 3 : Nat)]
  | 0, _ => rfl
  | 1, _ => rfl
  | 2, _ => rfl
  | 3, _ => rfl
theorem ix4 : ∀ {j : Nat}, j < 4 → ixN 4 (j : Int) = some j
  | 0, _ => rfl
  | 1, _ => rfl
  | 2, _ => rfl
  | 3, _ => rfl
theorem pick2' {α : Type} (f : Nat → α) : ∀ {i : Nat}, i < 2 → [f 0, f 1][i]? = some (f i)
  | 0, _ => rfl
  | 1, _ => rfl
end GB
set_option maxHeartbeats 4000000
/-! GL19: the law. -/
namespace GB
open PySem PySem.Spec PyProof.Rows L2 LamX
local macro_rules | `(tactic| walk_at "g") => `(tactic| first
  | refine ⟨_, rfl, ?_⟩
  | refine ⟨_, _, rfl, rfl, ?_⟩
  | refine ⟨_, _, _, _, rfl, rfl, SqT.of (by assumption), by rfl, ?_⟩
  | refine ⟨_, _, _, _, rfl, rfl, SqL.of (by assumption), by rfl, ?_⟩
  | refine ⟨_, _, _, _, rfl, rfl, SqL.of (by assumption), atI_nat (by assumption), ?_⟩
  | refine ⟨rfl, ⟨rfl, by decide⟩, ?_⟩
  | refine ⟨_, _, _, _, _, rfl, .ty _, .base (.tup (by assumption)), kt_tup, ?_⟩
  | refine ⟨_, _, _, _, _, rfl, .ty _, .base (.str _), kt_str, ?_⟩
  | refine ⟨_, _, rfl, .inr (SqT.of (by assumption)), ?_⟩
  | refine ⟨_, _, rfl, .inl (SqL.of (by assumption)), ?_⟩
  | refine iteT_of (by first | decide +kernel | rfl) ?_
  | refine iteF_of (by first | decide +kernel | rfl) ?_
  | refine iteT_of (btw_t (by omega)) ?_
  | refine iteF_of (by rw [btw_t (by omega)]; rfl) ?_
  | refine ⟨_, _, rfl, rfl, by assumption, ?_⟩
  | refine ⟨_, _, _, rfl, rfl, by assumption, ?_⟩
  | refine ⟨_, _, _, _, _, rfl, by assumption, Txt.cl (by assumption), by first | exact Txt.no_kept_program (by assumption) | exact Txt.no_kept_policy (by assumption) | exact Txt.no_rows (by assumption) | exact Txt.no_cells (by assumption) | exact Txt.no_makers (by assumption) | exact Txt.no_roots (by assumption) | exact Txt.no_seen (by assumption) | exact Txt.no_made (by assumption) | exact Txt.no_records (by assumption) | exact Txt.no_busy (by assumption), by rfl, ?_⟩
  | refine ⟨_, _, _, rfl, by assumption, by rfl, ?_⟩
  | refine ⟨_, _, _, rfl, ?_⟩
  | refine ⟨_, _, rfl, SqT.of (by assumption), by rfl, ?_⟩
  | refine ⟨_, _, rfl, ?_⟩
  | refine ⟨.inl (by decide), ?_⟩
  | refine ⟨.inl ⟨rfl, _, SqL.of (by assumption)⟩, ?_⟩
  | refine ⟨rfl, ?_⟩)
local macro_rules | `(tactic| walk_at "gs") => `(tactic| repeat walk_at "g")
local macro_rules | `(tactic| walk_at "b") => `(tactic| (first | decide +kernel | (simp only [decide_eq_true_eq, decide_eq_false_iff_not, List.length_map, V.int.injEq, Bool.not_eq_true', Bool.not_eq_false']; omega)))
def sel4 {α : Type} (a b c d : α) : Nat → α
  | 0 => a
  | 1 => b
  | 2 => c
  | _ => d
section
variable {P : Program} {w : World} {K : Frg} {mg : Str → Option Value} {base : Heap}
/-- ahead of the forty deeds -/
def tlF (K : Frg) : TS := fun D σ H => ∃ (p : LP) (ds : Nat → MD) (cs : Nat → Nat) (k : Nat) (x0 x3 x6 x7 x9 : Option V), σ = [x0, some (.ref p.pa), some (.ref p.ta), x3, some (.ref p.lm), some (.ref p.lc), x6, x7, some (.ref p.S), x9, none, none, none, none, none, none] ∧
  LW K p H ds cs cs k ∧ k ≤ 4000 ∧ (∀ j, j < 2 → Gs (p.pol j) p.prog) ∧ p.prog[0]? = some (.make 2 4) ∧ ∀ H', D.rt (.bl true) H'
/-- behind the draws -/
def tlMa (K : Frg) : TS := fun D σ H => ∃ (x0 : Option V) (pa ta rl : Addr) (qa : Nat → Addr) (prog : List Stm) (pol : Nat → Pol) (k : Nat), σ = [x0, some (.ref pa), some (.ref ta), some (.ref rl), none, none, none, none, none, none, none, none, none, none, none, none] ∧
  Pn H pa k ∧ k ≤ 4000 ∧ PrV ta H prog ∧ (∀ j, j < 2 → poV (qa j) H (pol j)) ∧ H rl = some (.lst [.ref (qa 0), .ref (qa 1)]) ∧ Tabs (Tb K) H ∧ (∀ j, j < 2 → Gs (pol j) prog) ∧ prog[0]? = some (.make 2 4) ∧ prog.length ≤ 25 ∧ ∀ H', D.rt (.bl true) H'
/-- behind the machines: the states are still to be made -/
def tlSt (K : Frg) : TS := fun D σ H => ∃ (x0 x7 : Option V) (rl kc : Addr) (p : LP) (ds : Nat → MD) (k : Nat), σ = [x0, some (.ref p.pa), some (.ref p.ta), some (.ref rl), some (.ref p.lm), some (.ref p.lc), some (.ref kc), x7, none, none, none, none, none, none, none, none] ∧
  LW0 K p H ds k ∧ k ≤ 4000 ∧ H rl = some (.lst [.ref (p.qa 0), .ref (p.qa 1)]) ∧ KnL H kc (spans p.prog) ∧ (∀ j, j < 2 → Gs (p.pol j) p.prog) ∧ p.prog[0]? = some (.make 2 4) ∧ ∀ H', D.rt (.bl true) H'
def sp_law (K : Frg) : Sp := fun vs H Q _ => ∃ (a : Addr) (xs : List Int), vs = [.ref a] ∧ SqL K H a (xs.map .int) ∧ Tabs (Tb K) H ∧ (∀ (prog : List Stm) (pol : Pol), ValP prog → prog.length ≤ 25 → ValQ pol → Gs pol prog) ∧ ∀ H', Q (.bl true) H'
theorem ok_law (T : Txt K mg) (TX : TxX K) (TT : TxT K mg base) (Z : Siz K w) : OkG P w K mg base CX0 12 ("law", none) P_law (sp_law K) := by
  refine OkG.of T.f_law sc_law (fun _ _ _ _ _ _ us hl => match us, hl with | [_], _ => rfl) (fun vs H Q E h => ?_) fun f c A outer s H vs Q E ec hr hgd h => ?_
  · obtain ⟨a, xs, rfl, _⟩ := h
    rfl
  · obtain ⟨a, xs, rfl, ha, hT, hG, k⟩ := h
    have hu64 : (A.deeper (envOfC d_law.qual d_law.scope s.heap.objs.size f (.ref c))).units + 64 < cLine := by
      have := hr.un
      omega
    refine ⟨_, PSs.nox (pss_cons (ps_set (i := 1) sc_law.nd rfl (Or.inl rfl) (pf (ok_l_penS T) T.g_l_pen hr rfl pass0 (pa_cons (pv 0) pa_nil)))
      (pss_cons (ps_set (i := 2) sc_law.nd rfl (Or.inr rfl) (pf (ok_l_tail T) T.g_l_tail hr rfl pass0 (pa_cons (pv 1) (pa_cons (pe_ix ix_list (pe_lst (pa_cons pe_int (pa_cons pe_int (pa_cons pe_int pa_nil)))) (pf (ok_l_draw T) T.g_l_draw hr rfl pass0 (pa_cons (pv 1) (pa_cons pe_int pa_nil))) (fun _ _ => rfl)) pa_nil))))
      (pss_cons (ps_set (i := 3) sc_law.nd rfl (Or.inl rfl) (pe_lst (pa_cons (pf (ok_l_policy T) T.g_l_policy hr rfl pass0 (pa_cons (pv 1) pa_nil)) (pa_cons (pf (ok_l_policy T) T.g_l_policy hr rfl pass0 (pa_cons (pv 1) pa_nil)) pa_nil))))
      (PSs.weak (t' := (tlMa K)) (pss_cons (ps_set (i := 4) sc_law.nd rfl (Or.inl rfl) (pe_lst (pa_cons (pmkK (ok_M_init T Z) T.g_Machine T.mak (hr.mono (by decide)) rfl pass0 (pa_cons (pv 2) pa_nil) (pk_cons (pe_ix ix_list (pv 3) pe_int (fun _ _ => rfl)) pk_nil)) (pa_cons (pmkK (ok_M_init T Z) T.g_Machine T.mak (hr.mono (by decide)) rfl pass0 (pa_cons (pv 2) pa_nil) (pk_cons (pe_ix ix_list (pv 3) pe_int (fun _ _ => rfl)) pk_nil)) pa_nil))))
      (pss_cons (ps_set (i := 4) sc_law.nd rfl (Or.inl rfl) (pe_op op_cat (pv 4) (pe_lst (pa_cons (pm0 (ok_M_twin T Z) T.cl T.m_twin hr pass0 (pe_ix ix_list (pv 4) pe_int (fun _ _ => rfl))) (pa_cons (pm0 (ok_M_twin T Z) T.cl T.m_twin hr pass0 (pe_ix ix_list (pv 4) pe_int (fun _ _ => rfl))) pa_nil)))))
      (pss_cons (ps_set (i := 5) sc_law.nd rfl (Or.inl rfl) (pe_lst (pa_cons pe_int (pa_cons pe_int (pa_cons pe_int (pa_cons pe_int pa_nil))))))
      (pss_cons (ps_set (i := 6) sc_law.nd rfl (Or.inl rfl) (pe_lst pa_nil))
      (pss_cons (ps_for PassesOwn.never rfl (pi_tup (pv 2)) (pg_name (i := 7) sc_law.nd rfl (Or.inl rfl))
       (pss_one (ps_set (i := 6) sc_law.nd rfl (Or.inl rfl) (pf (ok_l_known T) T.g_l_known hr rfl pass0 (pa_cons (pv 7) (pa_cons (pv 6) pa_nil))))))
      (PSs.weak (t' := (tlSt K)) (pss_cons (ps_setLc (i := 8) (own := [("_law_rule", 13)]) rfl sc_law.nd rfl rfl (sw_true rfl rfl rfl rfl) (pi_list (pv 3)) (blkOk_by rfl) (fun _ _ _ _ _ => (pg_name (i := 13) sc_law.nd rfl (Or.inr rfl) (.inl rfl))) (fun _ _ _ _ _ => pts_nil) (fun _ _ _ _ _ => (pe_lc (own := [("_law_count", 14)]) rfl sc_law.nd (pi_range1 rfl T.bi.range (pa_cons (pe_op op_add (pe_callB (call_len_seqK (K := K) rfl) rfl T.bi.len (by decide +kernel) (pa_cons (pv 2) pa_nil)) pe_int) pa_nil)) (blkOk_by rfl) (fun _ _ _ _ _ => (pg_name (i := 14) sc_law.nd rfl (Or.inl rfl) (.inr rfl))) (fun _ _ _ _ _ => pts_nil) (fun _ _ _ _ _ => (pf (ok_l_state T) T.g_l_state hr rfl pass0 (pa_cons (pv 2) (pa_cons (pv 13) (pa_cons (pv 14) pa_nil))))))))
      (pss_cons (ps_for PassesOwn.never rfl (pi_tup (pe_tup (pa_cons pe_int (pa_cons pe_int pa_nil)))) (pg_name (i := 9) sc_law.nd rfl (Or.inl rfl))
       (pss_one (ps_if (pt_cmpR (op_neD hu64) (pe_lc (own := [("_law_row", 15)]) rfl sc_law.nd (pi_list (pe_ix ix_list (pe_ix ix_list (pe_ix ix_list (pv 8) (pv 9) (fun _ _ => rfl)) (pe_un un_neg pe_int) (fun _ _ => rfl)) pe_int (fun _ _ => rfl))) (blkOk_by rfl) (fun _ _ _ _ _ => (pg_name (i := 15) sc_law.nd rfl (Or.inl rfl) (.inr rfl))) (fun _ _ _ _ _ => pts_nil) (fun _ _ _ _ _ => (pe_slice (sl_tupK (K := K) rfl) (pv 15) po_none (po_some pe_int)))) (pv 6) (nomark _))
        (pss_one (ps_ret pe_bl))
        pss_nil)))
      (PSs.weak (t' := (tlF K)) (pss_cons (ps_for PassesOwn.never rfl (pi_range1 rfl T.bi.range (pa_cons pe_int pa_nil)) (pg_name (i := 10) sc_law.nd rfl (Or.inl rfl))
       (pss_cons (ps_set (i := 11) sc_law.nd rfl (Or.inl rfl) (pf (ok_l_draw T) T.g_l_draw hr rfl pass0 (pa_cons (pv 1) (pa_cons pe_int pa_nil))))
       (pss_cons (ps_asg (pfG (ok_l_deed_done T TX TT) T.g_l_deed_done hr hgd rfl pass0 (pa_cons (pv 1) (pa_cons (pe_ix ix_list (pv 4) (pv 11) (fun _ _ => rfl)) (pa_cons (pe_ix ix_list (pv 5) (pv 11) (fun _ _ => rfl)) (pa_cons (pv 2) pa_nil))))) (pg_sub (pv 5) (pv 11) set_list))
       (pss_cons (ps_if (pt_cmpR op_lt (pe_ix ix_list (pv 5) (pv 11) (fun _ _ => rfl)) pe_int (nomark _))
        (pss_one (ps_ret pe_bl))
        pss_nil)
       (pss_one (ps_for PassesOwn.never rfl (pi_list (pe_lst (pa_cons (pv 11) (pa_cons (pe_op op_mod (pe_op op_add (pv 11) pe_int) pe_int) pa_nil)))) (pg_name (i := 12) sc_law.nd rfl (Or.inl rfl))
        (pss_one (ps_if (pt_not (pt_val (pfG (ok_l_stands T TX TT) T.g_l_stands hr hgd rfl pass0 (pa_cons (pe_ix ix_list (pv 4) (pv 12) (fun _ _ => rfl)) (pa_cons (pe_ix ix_list (pe_ix ix_list (pv 8) (pe_op op_mod (pv 12) pe_int) (fun _ _ => rfl)) (pe_ix ix_list (pv 5) (pv 12) (fun _ _ => rfl)) (fun _ _ => rfl)) (pa_cons (pe_ix ix_list (pv 5) (pv 12) (fun _ _ => rfl)) pa_nil))))))
         (pss_one (ps_ret pe_bl))
         pss_nil))))))))
      (pss_cons (ps_for PassesOwn.never rfl (pi_range1 rfl T.bi.range (pa_cons pe_int pa_nil)) (pg_name (i := 12) sc_law.nd rfl (Or.inl rfl))
       (pss_one (ps_if (pt_not (pt_val (pfG (ok_l_stands T TX TT) T.g_l_stands hr hgd rfl pass0 (pa_cons (pe_ix ix_list (pv 4) (pv 12) (fun _ _ => rfl)) (pa_cons (pe_ix ix_list (pe_ix ix_list (pv 8) (pe_op op_mod (pv 12) pe_int) (fun _ _ => rfl)) (pe_ix ix_list (pv 5) (pv 12) (fun _ _ => rfl)) (fun _ _ => rfl)) (pa_cons (pe_ix ix_list (pv 5) (pv 12) (fun _ _ => rfl)) pa_nil))))))
        (pss_one (ps_ret pe_bl))
        pss_nil)))
      (pss_one (ps_ret pe_bl)))) ?tl10))) ?tl8)))))) ?tl3)))), ?_⟩
    case tl10 =>
      intro D σ H hh
      obtain ⟨p, ds, cs, k, x0, x3, x6, x7, x9, rfl, W, hk, hG, h00, q⟩ := hh
      walk_at "gs"
      refine ⟨by decide, by decide, ?_⟩
      refine for_range (n := 40) (fun i σ H' => ∃ (ds : Nat → MD) (cs : Nat → Nat) (x10 x11 x12 : Option V), σ = [x0, some (.ref p.pa), some (.ref p.ta), x3, some (.ref p.lm), some (.ref p.lc), x6, x7, some (.ref p.S), x9, x10, x11, x12, none, none, none] ∧ LW K p H' ds cs cs (k + 10 * i)) ⟨ds, cs, none, none, none, rfl, W⟩ (fun i σ H1 hi40 pv => ?_) fun σ H1 pv => ?_
      · clear W
        obtain ⟨ds, cs, x10, x11, x12, rfl, W⟩ := pv
        walk_at "gs"
        refine ⟨p.pa, _, _, rfl, W.pen, by omega, by decide, by decide, fun d1 H2 a1 b1 f1 p1 => ?_⟩
        have W2 := W.draw f1 p1
        obtain ⟨j, rfl⟩ : ∃ j : Nat, d1 = j := ⟨d1.toNat, by omega⟩
        have hj : j < 4 := by omega
        walk_at "gs"
        refine ⟨_, _, _, .ref (p.ms j), rfl, rfl, SqL.of W2.lm, atI_nat (pick4 (fun i => V.ref (p.ms i)) hj), ?_⟩
        walk_at "gs"
        refine ⟨_, _, _, .int (cs j), rfl, rfl, SqL.of W2.lc, atI_nat (pick4 (fun i => V.int (cs i)) hj), ?_⟩
        walk_at "gs"
        have G1 := hG _ (Nat.mod_lt j (show 0 < 2 by decide))
        refine ⟨p.pa, p.ms j, p.ta, p.qa (j % 2), ds j, p.prog, p.pol (j % 2), cs j, _, rfl, W2.pen, by omega, (W2.ma j hj).1, (W2.ma j hj).2, W2.poff j hj, W2.pr, W2.po _ (Nat.mod_lt _ (by decide)), G1.gd, h00, W2.tb, fun n' H3 d' hn' hm' fr' pn' hT' => ?_⟩
        have W3 := W2.deed hj hn' hm' fr' pn' hT'
        walk_at "gs"
        refine ⟨p.lc, _, (j : Int), j, rfl, rfl, W3.lc, ix4 hj, ?_⟩
        rw [set4n cs n' hj]
        have W4 := W3.count (up1 cs j n')
        generalize upd H3 p.lc (.lst [.int (up1 cs j n' 0 : Nat), .int (up1 cs j n' 1 : Nat), .int (up1 cs j n' 2 : Nat), .int (up1 cs j n' 3 : Nat)]) = H4 at W4 ⊢
        obtain ⟨cs2, hcs2⟩ : ∃ c, c = up1 cs j n' := ⟨_, rfl⟩
        obtain ⟨ds2, hds2⟩ : ∃ d, d = up1 ds j d' := ⟨_, rfl⟩
        rw [← hcs2, ← hds2] at W4
        clear W W2 W3 hcs2 hds2 hm' fr' pn' hT'
        walk_at "gs"
        refine ⟨_, _, _, .int (cs2 j), rfl, rfl, SqL.of W4.lc, atI_nat (pick4 (fun i => V.int (cs2 i)) hj), ?_⟩
        walk_at "gs"
        refine ⟨by show (0 : Int) < 4; decide, ?_⟩
        refine ⟨szk (n := 2) (by decide), fun L hL => ?_⟩
        have e4 : ((j : Int) + 1) % 4 = (((j + 1) % 4 : Nat) : Int) := by omega
        have s5 := Same.new (o := .lst [.int j, .int (((j : Int) + 1) % 4)]) hL
        have hL5 : upd H4 L (.lst [.int j, .int (((j : Int) + 1) % 4)]) L = some (.lst [.int j, .int (((j : Int) + 1) % 4)]) := upd_same
        have W5 := W4.same s5
        generalize upd H4 L (.lst [.int j, .int (((j : Int) + 1) % 4)]) = H5 at s5 hL5 W5 ⊢
        walk_at "gs"
        refine ⟨⟨_, SqL.of hL5⟩, ?_⟩
        refine for_list (xs := [.int j, .int (((j : Int) + 1) % 4)]) (fun i2 σ H' => ∃ x12, σ = [x0, some (.ref p.pa), some (.ref p.ta), x3, some (.ref p.lm), some (.ref p.lc), x6, x7, some (.ref p.S), x9, some (.int (0 + (i : Nat))), some (.int j), x12, none, none, none] ∧ LW K p H' ds2 cs2 cs2 (k + 10 * i + 1 + 2) ∧ ExtN H5 H') ⟨x12, rfl, W5, ExtN.refl _⟩ (fun i2 σ H6 _ pv => ?_) (fun i2 y σ H6 hy pv => ?_) fun σ H6 pv => ?_
        · obtain ⟨_, _, _, eN⟩ := pv
          exact SqL.of (eN _ _ hL5 fun _ z => by cases z)
        · clear W4 W5
          obtain ⟨x12, rfl, W, eN5⟩ := pv
          obtain ⟨i0, hi0, rfl⟩ : ∃ i0 : Nat, i0 < 4 ∧ y = .int i0 := by
            match i2, hy with
            | 0, hy => exact ⟨j, hj, by cases hy; rfl⟩
            | 1, hy => exact ⟨(j + 1) % 4, by omega, by cases hy; rw [e4]⟩
            | i2 + 2, hy => simp at hy
          walk_at "gs"
          refine ⟨_, _, _, .ref (p.ms i0), rfl, rfl, SqL.of W.lm, atI_nat (pick4 (fun i => V.ref (p.ms i)) hi0), ?_⟩
          walk_at "gs"
          refine ⟨by show (0 : Int) < 2; decide, ?_⟩
          have e2 : ((i0 : Nat) : Int) % 2 = ((i0 % 2 : Nat) : Int) := by omega
          obtain ⟨e, he⟩ : ∃ e, (p.as (i0 % 2))[cs2 i0]? = some e := ⟨_, List.getElem?_eq_getElem (by rw [(W.st _ (Nat.mod_lt _ (by decide))).len]; have := (W.ma i0 hi0).2; omega)⟩
          obtain ⟨hls, hsm⟩ := (W.st _ (Nat.mod_lt _ (by decide))).at_ _ e he
          refine ⟨_, _, _, .ref (p.sb (i0 % 2)), rfl, rfl, SqL.of W.S, (by rw [e2]; exact atI_nat (pick2' (fun i => V.ref (p.sb i)) (Nat.mod_lt _ (by decide)))), ?_⟩
          walk_at "gs"
          refine ⟨_, _, _, .int (cs2 i0), rfl, rfl, SqL.of W.lc, atI_nat (pick4 (fun i => V.int (cs2 i)) hi0), ?_⟩
          refine ⟨_, _, _, .ref e.1, rfl, rfl, SqL.of (W.st _ (Nat.mod_lt _ (by decide))).lst, atI_nat (by rw [List.getElem?_map, he] <;> rfl), ?_⟩
          walk_at "gs"
          refine ⟨_, _, _, .int (cs2 i0), rfl, rfl, SqL.of W.lc, atI_nat (pick4 (fun i => V.int (cs2 i)) hi0), ?_⟩
          walk_at "gs"
          have G2 := hG _ (Nat.mod_lt i0 (show 0 < 2 by decide))
          refine ⟨p.ms i0, e.1, _, _, false, ds2 i0, e.2.1, e.2.2, GS (p.pol (i0 % 2)) p.prog (cs2 i0), cs2 i0, rfl, (W.ma i0 hi0).1, hls, hsm, G2.gd.recs _ (W.ma i0 hi0).2, (G2.gd.bd _).l, G2.row _ (W.ma i0 hi0).2, G2.shw _ (W.ma i0 hi0).2, W.tb, fun H' eN hT' => ?_⟩
          have W2 := W.ext eN hT'
          walk_at "gs"
          exact ⟨W2, eN5.trans eN⟩
        · obtain ⟨x12, rfl, W, eN5⟩ := pv
          exact ⟨ds2, cs2, _, _, _, rfl, W.mono (by omega)⟩
      · clear W
        obtain ⟨ds, cs, x10, x11, x12, rfl, W⟩ := pv
        walk_at "gs"
        refine ⟨by decide, by decide, ?_⟩
        refine for_range (n := 4) (fun i σ H' => ∃ x12, σ = [x0, some (.ref p.pa), some (.ref p.ta), x3, some (.ref p.lm), some (.ref p.lc), x6, x7, some (.ref p.S), x9, x10, x11, x12, none, none, none] ∧ LW K p H' ds cs cs (k + 10 * 40)) ⟨x12, rfl, W⟩ (fun i σ H2 hi4 pv => ?_) fun σ H2 pv => ?_
        · clear W
          obtain ⟨x12, rfl, W⟩ := pv
          walk_at "gs"
          rw [Int.zero_add]
          walk_at "gs"
          refine ⟨_, _, _, .ref (p.ms i), rfl, rfl, SqL.of W.lm, atI_nat (pick4 (fun i => V.ref (p.ms i)) hi4), ?_⟩
          walk_at "gs"
          refine ⟨by show (0 : Int) < 2; decide, ?_⟩
          have e2 : ((i : Nat) : Int) % 2 = ((i % 2 : Nat) : Int) := by omega
          obtain ⟨e, he⟩ : ∃ e, (p.as (i % 2))[cs i]? = some e := ⟨_, List.getElem?_eq_getElem (by rw [(W.st _ (Nat.mod_lt _ (by decide))).len]; have := (W.ma i hi4).2; omega)⟩
          obtain ⟨hls, hsm⟩ := (W.st _ (Nat.mod_lt _ (by decide))).at_ _ e he
          refine ⟨_, _, _, .ref (p.sb (i % 2)), rfl, rfl, SqL.of W.S, (by rw [e2]; exact atI_nat (pick2' (fun i => V.ref (p.sb i)) (Nat.mod_lt _ (by decide)))), ?_⟩
          walk_at "gs"
          refine ⟨_, _, _, .int (cs i), rfl, rfl, SqL.of W.lc, atI_nat (pick4 (fun i => V.int (cs i)) hi4), ?_⟩
          refine ⟨_, _, _, .ref e.1, rfl, rfl, SqL.of (W.st _ (Nat.mod_lt _ (by decide))).lst, atI_nat (by rw [List.getElem?_map, he] <;> rfl), ?_⟩
          walk_at "gs"
          refine ⟨_, _, _, .int (cs i), rfl, rfl, SqL.of W.lc, atI_nat (pick4 (fun i => V.int (cs i)) hi4), ?_⟩
          walk_at "gs"
          have G2 := hG _ (Nat.mod_lt i (show 0 < 2 by decide))
          refine ⟨p.ms i, e.1, _, _, false, ds i, e.2.1, e.2.2, GS (p.pol (i % 2)) p.prog (cs i), cs i, rfl, (W.ma i hi4).1, hls, hsm, G2.gd.recs _ (W.ma i hi4).2, (G2.gd.bd _).l, G2.row _ (W.ma i hi4).2, G2.shw _ (W.ma i hi4).2, W.tb, fun H' eN hT' => ?_⟩
          have W2 := W.ext eN hT'
          walk_at "gs"
          exact W2
        · obtain ⟨x12, rfl, W⟩ := pv
          walk_at "gs"
          exact q H2
    case tl8 =>
      intro D σ H hh
      obtain ⟨x0, x7, rl, kc, p, ds, k, rfl, W, hk, hrl, hkc, hG, h00, q⟩ := hh
      walk_at "gs"
      refine ⟨⟨_, SqL.of hrl⟩, fun D hD => ?_⟩
      have hprog : ∀ j, j < 2 → p.prog.length ≤ 60 := fun j hj => (hG j hj).gd.h60
      have h60 := hprog 0 (by decide)
      refine lc_list (xs := [.ref (p.qa 0), .ref (p.qa 1)]) (fun j H' => Same H H' ∧ ∃ bs : List (Addr × List StE), bs.length = j ∧ H' D = some (.lst (bs.map fun b => .ref b.1)) ∧ ∀ (i : Nat) (b : Addr × List StE), bs[i]? = some b → StL (era H' D) b.1 b.2 (p.pol i) p.prog ∧ ∀ y, StF b.1 b.2 y → H y = none)
        ⟨Same.new hD, [], rfl, upd_same, fun i b h => by simp at h⟩ (fun j H' _ pv => SqL.of (pv.1 _ _ hrl)) (fun j y H' hy pv => ?_) fun H' pv => ?_
      · obtain ⟨sm, bs, hbl, hbD, hb⟩ := pv
        have hj2 : j < 2 := (List.getElem?_eq_some_iff.mp hy).1
        have hyq : y = .ref (p.qa j) := by
          have := pick2' (fun i => V.ref (p.qa i)) hj2
          rw [hy] at this
          exact Option.some.inj this
        subst hyq
        obtain ⟨pw, hta, hpw⟩ := W.pr.tp (Same.tp sm)
        have hpwl : pw.length = p.prog.length := by rw [hpw.length, List.length_map]
        walk_at "gs"
        refine ⟨by omega, by omega, fun D2 hD2 => ?_⟩
        have hDD2 : D2 ≠ D := fun z => by rw [z, hbD] at hD2; cases hD2
        refine lc_range (n := ((pw.length : Int) + 1).toNat) (lo := 0) (fun i H2 => Same H' H2 ∧ ∃ as : List StE, as.length = i ∧ H2 D2 = some (.lst (as.map fun e => .ref e.1)) ∧ ∀ (k : Nat) (e : StE), as[k]? = some e → LSA (era H2 D2) e.1 e.2.1 e.2.2 ∧ Sim e.2.2 (GS (p.pol j) p.prog k) ∧ ∀ y, ft e.1 e.2.1 y → H' y = none)
          ⟨Same.new hD2, [], rfl, upd_same, fun i b h => by simp at h⟩ (fun i H2 hi pv => ?_) fun H2 pv => ?_
        · obtain ⟨sm2, as, hal, haD, hat⟩ := pv
          have hp2 := W.pr.tp (Same.tp (Same.trans sm sm2))
          walk_at "gs"
          rw [Int.zero_add]
          refine ⟨p.ta, p.qa j, p.prog, p.pol j, i, rfl, hp2, (W.po j hj2).tp (Same.tp (Same.trans sm sm2)), (hG j hj2).gd, by omega, fun a2 pp x2 H3 hls hsm s3 fr3 => ?_⟩
          have haD3 := s3 _ _ haD
          refine ⟨_, haD3, lt_line (by rw [List.length_map]; omega), fun b o h => ?_, as ++ [(a2, pp, x2)], by rw [List.length_append, hal] <;> rfl, by rw [upd_same, List.map_append] <;> rfl, fun k e hk => ?_⟩
          · rw [upd_ne (ne_of_none h hD2)]
            exact s3 _ _ (sm2 _ _ h)
          · rw [era_upd]
            by_cases z : k < as.length
            · rw [List.getElem?_append_left z] at hk
              obtain ⟨g1, g2, g3⟩ := hat k e hk
              exact ⟨g1.same (era_same2 s3), g2, g3⟩
            · have hk' : k = as.length := by
                have := (List.getElem?_eq_some_iff.mp hk).1
                rw [List.length_append, List.length_singleton] at this
                omega
              subst hk'
              rw [List.getElem?_concat_length] at hk
              cases hk
              refine ⟨hls.era haD3 fun y hy z => ?_, by rw [hal]; exact hsm, fun y hy => ?_⟩
              · have := fr3 y hy
                rw [z, haD] at this
                cases this
              · cases e : H' y with
                | none => rfl
                | some o =>
                  have := fr3 y hy
                  rw [sm2 _ _ e] at this
                  cases this
        · obtain ⟨sm2, as, hal, haD, hat⟩ := pv
          have hbD2 := sm2 _ _ hbD
          have hnl : as.length = p.prog.length + 1 := by omega
          walk_at "gs"
          refine ⟨_, hbD2, lt_line (by rw [List.length_map]; omega), fun b o h => ?_, bs ++ [(D2, as)], by rw [List.length_append, hbl] <;> rfl, by rw [upd_same, List.map_append] <;> rfl, fun i b hi => ?_⟩
          · rw [upd_ne (ne_of_none h hD)]
            exact sm2 _ _ (sm _ _ h)
          · rw [era_upd]
            by_cases z : i < bs.length
            · rw [List.getElem?_append_left z] at hi
              obtain ⟨g1, g2⟩ := hb i b hi
              exact ⟨g1.same (era_same2 sm2), g2⟩
            · have hi' : i = bs.length := by
                have := (List.getElem?_eq_some_iff.mp hi).1
                rw [List.length_append, List.length_singleton] at this
                omega
              subst hi'
              rw [List.getElem?_concat_length] at hi
              cases hi
              have dn : ∀ y, H' y = none → H y = none := fun y e => by
                cases z : H y with
                | none => rfl
                | some o => rw [sm _ _ z] at e; cases e
              refine ⟨⟨era_at haD hDD2, hnl, fun k e hk => ?_⟩, fun y hy => ?_⟩
              · obtain ⟨g1, g2, g3⟩ := hat k e hk
                rw [hbl]
                refine ⟨(g1.same (era_sub _ _)).era hbD2 fun y hy z => ?_, g2⟩
                have := g3 y hy
                rw [z, hbD] at this
                cases this
              · rcases hy with rfl | ⟨e, he, hf⟩
                · exact dn _ hD2
                · obtain ⟨k, hk⟩ := List.mem_iff_getElem?.mp he
                  exact dn _ ((hat k e hk).2.2 y hf)
      · obtain ⟨sm, bs, hbl, hbD, hb⟩ := pv
        obtain ⟨b0, b1, rfl⟩ := getD2 hbl
        have hS : ∀ i, i < 2 → StL H' ((fun i => if i = 0 then b0.1 else b1.1) i) ((fun i => if i = 0 then b0.2 else b1.2) i) (p.pol i) p.prog ∧ ∀ y, StF ((fun i => if i = 0 then b0.1 else b1.1) i) ((fun i => if i = 0 then b0.2 else b1.2) i) y → H y = none := by
          intro i hi
          match i, hi with
          | 0, _ => exact ⟨(hb 0 b0 rfl).1.same (era_sub _ _), (hb 0 b0 rfl).2⟩
          | 1, _ => exact ⟨(hb 1 b1 rfl).1.same (era_sub _ _), (hb 1 b1 rfl).2⟩
        have W2 := W.done sm (S := D) (sb := fun i => if i = 0 then b0.1 else b1.1) (as := fun i => if i = 0 then b0.2 else b1.2) hbD (fun j hj => (hS j hj).1) fun y hy => by
          rcases hy with rfl | ⟨j, hj, hf⟩
          · exact hD
          · exact (hS j hj).2 y hf
        obtain ⟨kw, hkw, hkr⟩ := hkc.same sm
        obtain ⟨p2, hp2⟩ : ∃ p2 : LP, p2 = { p with S := D, sb := fun i => if i = 0 then b0.1 else b1.1, as := fun i => if i = 0 then b0.2 else b1.2 } := ⟨_, rfl⟩
        rw [← hp2] at W2
        have e1 : p2.pol = p.pol := by rw [hp2]
        have e2 : p2.prog = p.prog := by rw [hp2]
        have e3 : p2.S = D := by rw [hp2]
        refine ⟨szk (n := 2) (by decide), fun tt htt => ?_⟩
        have sT := Same.new (o := .tup [.int 0, .int 1]) htt
        have htt2 : upd H' tt (.tup [.int 0, .int 1]) tt = some (.tup [.int 0, .int 1]) := upd_same
        generalize upd H' tt (.tup [.int 0, .int 1]) = Hs at sT htt2 ⊢
        have W3 := W2.same sT
        have hkw3 := sT _ _ hkw
        have hkr3 := RpA.tp (Same.tp sT) hkr
        walk_at "gs"
        refine ⟨⟨_, SqT.of htt2⟩, ?_⟩
        refine for_tup (xs := [.int 0, .int 1]) (fun i σ H2 => ∃ x9, σ = [x0, some (.ref p.pa), some (.ref p.ta), some (.ref rl), some (.ref p.lm), some (.ref p.lc), some (.ref kc), x7, some (.ref D), x9, none, none, none, none, none, none] ∧ Same Hs H2) ⟨none, rfl, Same.refl _⟩ (fun i σ H2 _ pv => SqT.of (by
          obtain ⟨_, _, sm⟩ := pv
          exact sm _ _ htt2)) (fun i y σ H2 hy pv => ?_) fun σ H2 pv => ?_
        · obtain ⟨x9, rfl, s2⟩ := pv
          have hi2 : i < 2 := (List.getElem?_eq_some_iff.mp hy).1
          have hyi : y = .int (i : Nat) := by
            match i, hi2, hy with
            | 0, _, hy => cases hy; rfl
            | 1, _, hy => cases hy; rfl
          subst hyi
          have W4 := W3.same s2
          have hst := W4.st i hi2
          rw [e2, show p2.pol i = p.pol i by rw [e1]] at hst
          obtain ⟨e, he⟩ : ∃ e, (p2.as i)[p.prog.length]? = some e := ⟨_, List.getElem?_eq_getElem (by rw [hst.len]; omega)⟩
          obtain ⟨hls, hsm⟩ := hst.at_ _ e he
          have hla : ((p2.as i).map fun e => V.ref e.1).getLast? = some (.ref e.1) := by
            rw [List.getLast?_eq_getElem?, List.length_map, hst.len, Nat.add_sub_cancel, List.getElem?_map, he] <;> rfl
          have hSS : H2 D = some (.lst [.ref (p2.sb 0), .ref (p2.sb 1)]) := by
            rw [← e3]
            exact W4.S
          obtain ⟨rws, hrws, hrr⟩ := id hls.rows
          have hlt := hls.top
          walk_at "gs"
          refine ⟨_, _, _, .ref (p2.sb i), rfl, rfl, SqL.of hSS, atI_nat (pick2' (fun i => V.ref (p2.sb i)) hi2), ?_⟩
          walk_at "gs"
          refine ⟨_, _, _, .ref e.1, rfl, rfl, SqL.of hst.lst, atI_lastq hla, ?_⟩
          walk_at "gs"
          refine ⟨⟨_, SqL.of hrws⟩, fun D3 hD3 => ?_⟩
          have hrl9 : rws.length ≤ 900 := by
            rw [hrr.length, List.length_map, hsm.rows]
            exact ((hG i hi2).gd.bd _).rows
          refine lc_list (xs := rws) (fun k H3 => Same H2 H3 ∧ ∃ us, us.length = k ∧ H3 D3 = some (.lst us) ∧ RpA H3 us ((e.2.2.rows.take k).map fun r => spD (r.s, r.l))) ⟨Same.new hD3, [], rfl, upd_same, RpA.nil⟩ (fun k H3 _ pv => SqL.of (pv.1 _ _ hrws)) (fun k y H3 hy pv => ?_) fun H3 pv => ?_
          · obtain ⟨s3, us, hul, huD, hur⟩ := pv
            obtain ⟨dd, hdd, rx⟩ := hrr.getV hy
            obtain ⟨r, hr0, rfl⟩ : ∃ r, e.2.2.rows[k]? = some r ∧ rowD r = dd := by simpa using hdd
            obtain ⟨tr, rfl, htr⟩ := (rp_row r).mp rx
            have hkl : k < rws.length := (List.getElem?_eq_some_iff.mp hy).1
            have htr3 := s3 _ _ htr
            walk_at "gs"
            refine ⟨tr, _, rfl, SqT.of htr3, fun z => absurd z.2 (by show ¬ ((2 : Nat) = 4); omega), fun t2 ht2 => ?_⟩
            have s4 : Same H3 (upd H3 t2 (.tup (cutV [.int r.s, .int r.l, capV r.c, .int r.b] none (some 2)))) := Same.new ht2
            have ht2' : upd H3 t2 (.tup (cutV [.int r.s, .int r.l, capV r.c, .int r.b] none (some 2))) t2 = some (.tup [.int r.s, .int r.l]) := upd_same
            generalize upd H3 t2 (.tup (cutV [.int r.s, .int r.l, capV r.c, .int r.b] none (some 2))) = H4 at s4 ht2' ⊢
            have huD4 := s4 _ _ huD
            refine ⟨us, huD4, lt_line (by omega), fun b o h => ?_, us ++ [.ref t2], by rw [List.length_append, hul] <;> rfl, upd_same, ?_⟩
            · rw [upd_ne (ne_of_none h hD3)]
              exact s4 _ _ (s3 _ _ h)
            · have tp := tp_put (o := .lst (us ++ [.ref t2])) huD4 fun _ z => by cases z
              rw [List.take_succ, hr0, List.map_append]
              exact (RpA.tp (fun b xs h => tp _ _ (Same.tp s4 _ _ h)) hur).snoc ((rp_sp (r.s, r.l)).mpr ⟨t2, rfl, tp _ _ ht2'⟩)
          · obtain ⟨s3, us, hul, huD, hur⟩ := pv
            have hrl : rws.length = e.2.2.rows.length := by rw [hrr.length, List.length_map]
            rw [hrl, List.take_length] at hur
            have hsp : (e.2.2.rows.map fun r => spD (r.s, r.l)) = (spans p.prog).map spD := by
              have hS := (gs_ok (pol := p.pol i) (hG i hi2).gd.vp h60 p.prog.length (Nat.le_refl _)).2.1
              unfold Spn at hS
              rw [List.take_length] at hS
              rw [hsm.rows, ← hS, List.map_map] <;> rfl
            rw [hsp] at hur
            have s23 := Same.trans s2 s3
            walk_at "gs"
            refine ⟨pdS (spans p.prog), pdS (spans p.prog), .lst (SqL.of huD) (dp_spans hur), .lst (SqL.of (s23 _ _ hkw3)) (dp_spans (RpA.tp (Same.tp s23) hkr3)), pd_shaped _, pd_shaped _, ?_⟩
            rw [pd_eqv]
            walk_at "gs"
            exact s23
        · obtain ⟨x9, rfl, s2⟩ := pv
          refine ⟨p2, ds, fun _ => 0, k, x0, some (.ref rl), some (.ref kc), x7, x9, by rw [hp2], W3.same s2, hk, fun j hj => ?_, ?_, q⟩
          · rw [e1, e2]
            exact hG j hj
          · rw [e2]
            exact h00
    case tl3 =>
      intro D σ H hh
      obtain ⟨x0, pa, ta, rl, qa, prog, pol, k, rfl, pn, hk, hp, hpo, hrl, hT, hG, h00, h25, q⟩ := hh
      have G0 := (hG 0 (by decide)).gd
      have G1 := (hG 1 (by decide)).gd
      walk_at "gs"
      intro m0 dx0 hx0 hdx0 hne0
      refine mkM hp G0.vp G0.h60 (hpo 0 (by decide)) G0.vq hx0 hdx0 hne0 fun Ha d0 M0 sa fa0 => ⟨rfl, ?_⟩
      have hrla := sa _ _ hrl
      have hpa := hp.tp (Same.tp sa)
      walk_at "gs"
      intro m1 dx1 hx1 hdx1 hne1
      refine mkM hpa G1.vp G1.h60 ((hpo 1 (by decide)).tp (Same.tp sa)) G1.vq hx1 hdx1 hne1 fun Hb d1 M1 sb fa1 => ⟨rfl, ?_⟩
      walk_at "gs"
      refine ⟨szk (n := 2) (by decide), fun ml hml => ?_⟩
      have sc := Same.new (o := .lst [.ref m0, .ref m1]) hml
      have hml2 : upd Hb ml (.lst [.ref m0, .ref m1]) ml = some (.lst [.ref m0, .ref m1]) := upd_same
      generalize upd Hb ml (.lst [.ref m0, .ref m1]) = Hc at sc hml2 ⊢
      have sac := Same.trans sb sc
      have M0c := M0.same sac
      have M1c := M1.same sc
      have shc := Same.trans sa sac
      have hi0 := M0c.h.ins
      walk_at "gs"
      refine ⟨m0, ta, qa 0, false, d0, MS.zero, prog, pol 0, rfl, M0c, rfl, hp.tp (Same.tp shc), G0.vp, G0.h60, (hpo 0 (by decide)).tp (Same.tp shc), G0.vq, fun m2 Hd d2 M2 sd fa2 => ?_⟩
      have M1d := M1c.same sd
      have hml3 := sd _ _ hml2
      have shd := Same.trans shc sd
      clear hi0
      have hi1 := M1d.h.ins
      walk_at "gs"
      refine ⟨m1, ta, qa 1, false, d1, MS.zero, prog, pol 1, rfl, M1d, rfl, hp.tp (Same.tp shd), G1.vp, G1.h60, (hpo 1 (by decide)).tp (Same.tp shd), G1.vq, fun m3 He d3 M3 se fa3 => ?_⟩
      have hml4 := se _ _ hml3
      walk_at "gs"
      refine ⟨szk (n := 2) (by decide), fun l2 hl2 => ?_⟩
      have sf := Same.new (o := .lst [.ref m2, .ref m3]) hl2
      refine ⟨ml, l2, _, _, rfl, rfl, sf _ _ hml4, upd_same, szk (n := 4) (by decide), fun lm hlm => ?_⟩
      have sg := Same.new (o := .lst [.ref m0, .ref m1, .ref m2, .ref m3]) hlm
      have hlm2 : upd (upd He l2 (.lst [.ref m2, .ref m3])) lm (.lst [.ref m0, .ref m1, .ref m2, .ref m3]) lm = some (.lst [.ref m0, .ref m1, .ref m2, .ref m3]) := upd_same
      show tSeq _ _ _ _ (upd (upd He l2 (.lst [.ref m2, .ref m3])) lm (.lst [.ref m0, .ref m1, .ref m2, .ref m3]))
      have seg := Same.trans sf sg
      have hlmE : He lm = none := by
        cases e : He lm with
        | none => rfl
        | some o => rw [sf _ _ e] at hlm; cases hlm
      generalize upd (upd He l2 (.lst [.ref m2, .ref m3])) lm (.lst [.ref m0, .ref m1, .ref m2, .ref m3]) = Hg at sg hlm2 seg ⊢
      walk_at "gs"
      refine ⟨szk (n := 4) (by decide), fun lc hlc => ?_⟩
      have sh := Same.new (o := .lst [.int 0, .int 0, .int 0, .int 0]) hlc
      have hlc2 : upd Hg lc (.lst [.int 0, .int 0, .int 0, .int 0]) lc = some (.lst [.int 0, .int 0, .int 0, .int 0]) := upd_same
      generalize upd Hg lc (.lst [.int 0, .int 0, .int 0, .int 0]) = Hh at sh hlc2 ⊢
      walk_at "gs"
      refine ⟨szk (n := 0) (by decide), fun kc hkc => ?_⟩
      have si := Same.new (o := .lst []) hkc
      have hkc2 : upd Hh kc (.lst []) kc = some (.lst []) := upd_same
      generalize upd Hh kc (.lst []) = Hi at si hkc2 ⊢
      have she : Same H He := Same.trans shd se
      have shg : Same H Hg := Same.trans she seg
      have shi : Same H Hi := Same.trans shg (Same.trans sh si)
      obtain ⟨pw, hta, hpw⟩ := hp.tp (Same.tp shi)
      have hpwl : pw.length = prog.length := by rw [hpw.length, List.length_map]
      walk_at "gs"
      refine ⟨⟨_, SqT.of hta⟩, ?_⟩
      refine for_tup (xs := pw) (fun i σ H' => ∃ kc x7, σ = [x0, some (.ref pa), some (.ref ta), some (.ref rl), some (.ref lm), some (.ref lc), some (.ref kc), x7, none, none, none, none, none, none, none, none] ∧ Same Hi H' ∧ KnL H' kc (spans (prog.take i)) ∧ (spans (prog.take i)).length ≤ i) ⟨kc, none, rfl, Same.refl _, ⟨[], hkc2, RpA.nil⟩, Nat.le_refl _⟩ (fun i σ H' _ pv => SqT.of (by
        obtain ⟨_, _, _, sm, _⟩ := pv
        exact sm _ _ hta)) (fun i y σ H' hy pv => ?_) fun σ H' pv => ?_
      · obtain ⟨kc, x7, rfl, sm, hkn, hsl⟩ := pv
        obtain ⟨dd, hdd, rx⟩ := hpw.getV hy
        obtain ⟨st, hst, rfl⟩ : ∃ st, prog[i]? = some st ∧ stD st = dd := by simpa using hdd
        obtain ⟨td, rfl, htd⟩ := (rp_st st).mp rx
        have hil : i < prog.length := (List.getElem?_eq_some_iff.mp hst).1
        walk_at "gs"
        refine ⟨td, kc, st, spans (prog.take i), rfl, htd.tp (Same.tp sm), hkn, G0.vp i st hst, by omega, fun c H2 s2 _ hk2 => ?_⟩
        have e1 : spans (prog.take (i + 1)) = after (spans (prog.take i)) st := by
          rw [List.take_succ, hst]
          exact spans_app _ _
        refine ⟨c, _, rfl, Same.trans sm s2, by rw [e1]; exact hk2, by rw [e1]; have := after_len (spans (prog.take i)) st; omega⟩
      · obtain ⟨kc, x7, rfl, sm, hkn, hsl⟩ := pv
        rw [hpwl, List.take_length] at hkn
        have shf : Same H H' := Same.trans shi sm
        have sgf : Same Hg H' := Same.trans sh (Same.trans si sm)
        have sef : Same He H' := Same.trans seg sgf
        have sdf : Same Hd H' := Same.trans se sef
        have scf : Same Hc H' := Same.trans sd sdf
        have f0 : ∀ y, foot m0 d0 y → ∃ o, Ha y = some o := fun y hy => by
          obtain ⟨o, e, _⟩ := foot_some M0.h hy
          exact ⟨o, e⟩
        have f1 : ∀ y, foot m1 d1 y → ∃ o, Hb y = some o := fun y hy => by
          obtain ⟨o, e, _⟩ := foot_some M1.h hy
          exact ⟨o, e⟩
        have f2 : ∀ y, foot m2 d2 y → ∃ o, Hd y = some o := fun y hy => by
          obtain ⟨o, e, _⟩ := foot_some M2.h hy
          exact ⟨o, e⟩
        have f3 : ∀ y, foot m3 d3 y → ∃ o, He y = some o := fun y hy => by
          obtain ⟨o, e, _⟩ := foot_some M3.h hy
          exact ⟨o, e⟩
        have no : ∀ {H1 H2 : Hp} {y : Addr}, (∃ o, H1 y = some o) → Same H1 H2 → H2 y = none → False := fun {H1 H2 y} h s e => by
          obtain ⟨o, h⟩ := h
          rw [s _ _ h] at e
          cases e
        have n01 : ∀ y, foot m0 d0 y → foot m1 d1 y → False := fun y a b => no (f0 y a) (Same.refl _) (fa1 y b)
        have n02 : ∀ y, foot m0 d0 y → foot m2 d2 y → False := fun y a b => no (f0 y a) sac (fa2 y b)
        have n12 : ∀ y, foot m1 d1 y → foot m2 d2 y → False := fun y a b => no (f1 y a) sc (fa2 y b)
        have n03 : ∀ y, foot m0 d0 y → foot m3 d3 y → False := fun y a b => no (f0 y a) (Same.trans sac sd) (fa3 y b)
        have n13 : ∀ y, foot m1 d1 y → foot m3 d3 y → False := fun y a b => no (f1 y a) (Same.trans sc sd) (fa3 y b)
        have n23 : ∀ y, foot m2 d2 y → foot m3 d3 y → False := fun y a b => no (f2 y a) (Same.refl _) (fa3 y b)
        have fe : ∀ i, i < 4 → ∀ y, foot (sel4 m0 m1 m2 m3 i) (sel4 d0 d1 d2 d3 i) y → (∃ o, He y = some o) ∧ H y = none := by
          intro i hi y hy
          have up : ∀ {H1 : Hp}, Same H1 He → (∃ o, H1 y = some o) → ∃ o, He y = some o := fun s ⟨o, e⟩ => ⟨o, s _ _ e⟩
          have dn : ∀ {H1 : Hp}, Same H H1 → H1 y = none → H y = none := fun {H1} s e => by
            cases z : H y with
            | none => rfl
            | some o => rw [s _ _ z] at e; cases e
          match i, hi with
          | 0, _ => exact ⟨up (Same.trans sac (Same.trans sd se)) (f0 y hy), fa0 y hy⟩
          | 1, _ => exact ⟨up (Same.trans sc (Same.trans sd se)) (f1 y hy), dn sa (fa1 y hy)⟩
          | 2, _ => exact ⟨up se (f2 y hy), dn shc (fa2 y hy)⟩
          | 3, _ => exact ⟨f3 y hy, dn shd (fa3 y hy)⟩
        obtain ⟨pn2, pback⟩ := pn.frN (W := fun _ => False) (FrN.ext (ExtN.of shf)) fun a _ => id
        have pen0 : ∀ y, PenA H' pa y → ∃ o, H y = some o := fun y hy => by
          obtain ⟨o, e, _⟩ := pen_nt pn (pback y hy)
          exact ⟨o, e⟩
        refine ⟨x0, x7, rl, kc, ⟨pa, lm, lc, 0, ta, sel4 m0 m1 m2 m3, qa, pol, prog, fun _ => 0, fun _ => []⟩, sel4 d0 d1 d2 d3, k, rfl, ⟨pn2, sgf _ _ hlm2, (Same.trans si sm) _ _ hlc2, fun i hi => ?_, fun i j hi hj hne y h1 h2 => ?_, fun i hi hf => ?_, fun i hi hf => ?_, fun i hi y hy hf => ?_, fun y hy => ⟨fun z => ?_, fun z => ?_⟩, fun z => ?_, hp.tp (Same.tp shf), fun j hj => (hpo j hj).tp (Same.tp shf), hT.ext shf⟩, hk, shf _ _ hrl, hkn, hG, h00, q⟩
        · match i, hi with
          | 0, _ => exact M0c.same scf
          | 1, _ => exact M1c.same scf
          | 2, _ => exact M2.same sdf
          | 3, _ => exact M3.same sef
        · match i, hi, j, hj, hne, h1, h2 with
          | 0, _, 0, _, hne, _, _ => exact absurd rfl hne
          | 1, _, 1, _, hne, _, _ => exact absurd rfl hne
          | 2, _, 2, _, hne, _, _ => exact absurd rfl hne
          | 3, _, 3, _, hne, _, _ => exact absurd rfl hne
          | 0, _, 1, _, _, h1, h2 => exact n01 y h1 h2
          | 0, _, 2, _, _, h1, h2 => exact n02 y h1 h2
          | 0, _, 3, _, _, h1, h2 => exact n03 y h1 h2
          | 1, _, 2, _, _, h1, h2 => exact n12 y h1 h2
          | 1, _, 3, _, _, h1, h2 => exact n13 y h1 h2
          | 2, _, 3, _, _, h1, h2 => exact n23 y h1 h2
          | 1, _, 0, _, _, h1, h2 => exact n01 y h2 h1
          | 2, _, 0, _, _, h1, h2 => exact n02 y h2 h1
          | 3, _, 0, _, _, h1, h2 => exact n03 y h2 h1
          | 2, _, 1, _, _, h1, h2 => exact n12 y h2 h1
          | 3, _, 1, _, _, h1, h2 => exact n13 y h2 h1
          | 3, _, 2, _, _, h1, h2 => exact n23 y h2 h1
        · exact no (fe i hi _ hf).1 (Same.refl _) hlmE
        · exact no (fe i hi _ hf).1 seg hlc
        · obtain ⟨o, e⟩ := pen0 y hy
          rw [(fe i hi y hf).2] at e
          cases e
        · have z : y = lm := z
          rw [z] at hy
          exact no (pen0 lm hy) she hlmE
        · have z : y = lc := z
          rw [z] at hy
          exact no (pen0 lc hy) shg hlc
        · have z : lc = lm := z
          rw [z] at hlc
          exact no ⟨_, hlm2⟩ (Same.refl _) hlc
    walk_at "gs"
    refine ⟨a, xs, rfl, ha, fun pa H1 s1 hpa pn0 => ?_⟩
    walk_at "gs"
    refine ⟨szk (n := 3) (by decide), fun L hL => ?_⟩
    have s2 := Same.new (o := .lst [.int 6, .int 12, .int 24]) hL
    have hL2 : upd H1 L (.lst [.int 6, .int 12, .int 24]) L = some (.lst [.int 6, .int 12, .int 24]) := upd_same
    have hLpa := pn0.ne hL
    have pn1 := pn0.same s2
    have s12 := Same.trans s1 s2
    generalize upd H1 L (.lst [.int 6, .int 12, .int 24]) = H2 at s2 hL2 pn1 s12 ⊢
    walk_at "gs"
    refine ⟨pa, _, _, rfl, pn1, by omega, by decide, by decide, fun d1 H3 a1 b1 f1 p1 => ?_⟩
    have hL3 := f1.at_ hL2 hLpa
    obtain ⟨most, hm24, hmost⟩ : ∃ most : Nat, most ≤ 24 ∧ atI [V.int 6, V.int 12, V.int 24] d1 = some (.int most) := by
      obtain ⟨v, hv, hvv⟩ := pick3 (x := .int 6) (y := .int 12) (z := .int 24) a1 b1
      rcases hvv with rfl | rfl | rfl
      · exact ⟨6, by decide, hv⟩
      · exact ⟨12, by decide, hv⟩
      · exact ⟨24, by decide, hv⟩
    refine ⟨_, _, _, .int most, rfl, rfl, SqL.of hL3, hmost, ?_⟩
    walk_at "gs"
    refine ⟨pa, _, most, rfl, p1, by omega, hm24, fun ta prog H4 vp hl h0 hp4 f2 p2 => ?_⟩
    walk_at "gs"
    refine ⟨pa, _, rfl, p2, by omega, fun q0 pol0 H5 vq0 hq0 f3 p3 => ?_⟩
    walk_at "gs"
    refine ⟨pa, _, rfl, p3, by omega, fun q1 pol1 H6 vq1 hq1 f4 p4 => ?_⟩
    walk_at "gs"
    refine ⟨szk (n := 2) (by decide), fun rl hrl => ?_⟩
    have s7 := Same.new (o := .lst [.ref q0, .ref q1]) hrl
    have hrl7 : upd H6 rl (.lst [.ref q0, .ref q1]) rl = some (.lst [.ref q0, .ref q1]) := upd_same
    generalize upd H6 rl (.lst [.ref q0, .ref q1]) = H7 at s7 hrl7 ⊢
    have F := Fa.trans f1 (Fa.trans f2 (Fa.trans f3 f4))
    have hT7 : Tabs (Tb K) H7 := by
      refine Tabs.ext (Tabs.fr (hT.ext s12) F.1 (fun a ps e z => ?_) fun a q e z => ?_) s7
      · obtain ⟨xa, ys, t, r, h1, _⟩ := pn1
        rw [z, h1] at e
        cases e
      · obtain ⟨xa, ys, t, r, h1, _⟩ := pn1
        rw [z, h1] at e
        cases e
    have h25 : prog.length ≤ 25 := by omega
    refine ⟨_, pa, ta, rl, fun j => if j = 0 then q0 else q1, prog, fun j => if j = 0 then pol0 else pol1, _, rfl, p4.same s7, by omega, hp4.tp (fun b ys h => Same.tp s7 _ _ (f4.tp _ _ (f3.tp _ _ h))), fun j hj => ?_, hrl7, hT7, fun j hj => ?_, h0, h25, k⟩
    · match j, hj with
      | 0, _ => exact hq0.tp fun b ys h => Same.tp s7 _ _ (f4.tp _ _ h)
      | 1, _ => exact hq1.tp (Same.tp s7)
    · match j, hj with
      | 0, _ => exact hG prog pol0 vp h25 vq0
      | 1, _ => exact hG prog pol1 vp h25 vq1
end
end GB
set_option maxHeartbeats 4000000
/-! GBig: bounds of all that a machine tells; in plain Lean. -/
namespace GB
open PySem
abbrev B31 : Int := 10 ^ 31
abbrev B41 : Int := 10 ^ 41
def CtB (c : Ct) : Prop := -100 ≤ c.1 ∧ c.1 ≤ 100 ∧ -top30 ≤ c.2 ∧ c.2 ≤ top30
def CpB (k : Nat) (c : Option Int) : Prop := ∀ z, c = some z → -(B41 + k * B31) ≤ z ∧ z ≤ B41 + k * B31
structure Bg (k : Nat) (s : MS) : Prop where
  row : ∀ r ∈ s.rows, 0 ≤ r.l ∧ r.l ≤ top30 + 6 * k ∧ CpB k r.c
  mkr : ∀ x ∈ s.makers, -100 ≤ x ∧ x ≤ 100
  rt : ∀ x ∈ s.roots, -100 ≤ x ∧ x ≤ 100
  ct : ∀ i, ∀ e ∈ s.blk i, CtB e.2
  seen : ∀ c ∈ s.seen, CtB c
  made : ∀ x ∈ s.made, -100 ≤ x.1 ∧ x.1 ≤ 100 ∧ CpB k x.2
theorem gput_mem {κ α : Type} [DecidableEq κ] {d : List (κ × α)} {k : κ} {c : α} {e : κ × α} (h : e ∈ gput d k c) : e.2 = c ∨ e ∈ d := by
  unfold gput at h
  split at h
  · obtain ⟨y, hy, rfl⟩ := List.mem_map.mp h
    by_cases z : y.1 = k
    · rw [if_pos z]; exact .inl rfl
    · rw [if_neg z]; exact .inr hy
  · rcases List.mem_append.mp h with z | z
    · exact .inr z
    · rw [List.mem_singleton.mp z]; exact .inl rfl
theorem CpB.mono {k j : Nat} {c : Option Int} (h : CpB k c) (z : k ≤ j) : CpB j c := fun x hx => by
  have := h x hx
  have e : (k : Int) * B31 ≤ (j : Int) * B31 := Int.mul_le_mul_of_nonneg_right (by omega) (by decide)
  omega
theorem Bg.mono {k j : Nat} {s : MS} (h : Bg k s) (z : k ≤ j) : Bg j s := ⟨fun r hr => by
  have := h.row r hr
  exact ⟨this.1, by omega, this.2.2.mono z⟩, h.mkr, h.rt, h.ct, h.seen, fun x hx => ⟨(h.made x hx).1, (h.made x hx).2.1, (h.made x hx).2.2.mono z⟩⟩
section
variable {k : Nat} {s : MS}
theorem Bg.mark (h : Bg k s) : Bg k s.mark := ⟨h.row, h.mkr, h.rt, h.ct, h.seen, h.made⟩
theorem Bg.view (h : Bg k s) {r : Row} (h1 : 0 ≤ r.l) (h2 : r.l ≤ top30 + 6 * k) (h3 : CpB k r.c) : Bg k (s.view r) := ⟨fun x hx => (List.mem_append.mp hx).elim (h.row x) fun z => by rw [List.mem_singleton.mp z]; exact ⟨h1, h2, h3⟩, h.mkr, h.rt, h.ct, h.seen, h.made⟩
theorem Bg.see (h : Bg k s) {c : Ct} (hc : CtB c) : Bg k (s.see c) := ⟨h.row, h.mkr, h.rt, h.ct, fun x hx => (List.mem_append.mp hx).elim (h.seen x) fun z => by rw [List.mem_singleton.mp z]; exact hc, h.made⟩
theorem Bg.mad (h : Bg k s) {x : Int × Option Int} (h1 : -100 ≤ x.1) (h2 : x.1 ≤ 100) (h3 : CpB k x.2) : Bg k { s with made := s.made ++ [x] } := ⟨h.row, h.mkr, h.rt, h.ct, h.seen, fun y hy => (List.mem_append.mp hy).elim (h.made y) fun z => by rw [List.mem_singleton.mp z]; exact ⟨h1, h2, h3⟩⟩
theorem Bg.block (h : Bg k s) {m r : Int} {d : Dic} (h1 : -100 ≤ m ∧ m ≤ 100) (h2 : -100 ≤ r ∧ r ≤ 100) (h3 : ∀ e ∈ d, CtB e.2) : Bg k (s.block m r d) := ⟨h.row, fun x hx => (List.mem_append.mp hx).elim (h.mkr x) fun z => by rw [List.mem_singleton.mp z]; exact h1,
  fun x hx => (List.mem_append.mp hx).elim (h.rt x) (fun z => by rw [List.mem_singleton.mp z]; exact h2), (fun i e he => by
    rw [blk_app] at he
    split at he
    · exact h.ct i e he
    · split at he
      · exact h3 e he
      · cases he), h.seen, h.made⟩
theorem Bg.set (h : Bg k s) {b : Nat} {p : Int} {c : Ct} (hc : CtB c) : Bg k (s.set b p c) := ⟨h.row, h.mkr, h.rt, (fun i e he => by
  rw [blk_set'] at he
  split at he
  · rcases gput_mem he with z | z
    · rw [z]; exact hc
    · exact h.ct b e z
  · exact h.ct i e he), h.seen, h.made⟩
theorem Bg.puts {b : Nat} {n : Int} (hn : -100 ≤ n ∧ n ≤ 100) : ∀ {xs : List Int} {e : Int} {s : MS}, Bg k s → (∀ x ∈ xs, Vv x) → Bg k (s.puts b n e xs)
  | [], _, _, h, _ => h
  | x :: r, e, s, h, hv => Bg.puts hn (xs := r) (e := e + 1) (h.set (c := (n, x)) ⟨hn.1, hn.2, by have := hv x List.mem_cons_self; unfold Vv at this; show -top30 ≤ x; omega, by have := hv x List.mem_cons_self; unfold Vv at this; show x ≤ top30; omega⟩) fun y hy => hv y (List.mem_cons_of_mem _ hy)
theorem Bg.found (h : Bg k s) (b : Nat) (p : Int) : CtB (s.found b p) := by
  unfold MS.found
  cases e : gget (s.blk b) p with
  | some c => exact h.ct b _ (gget_some e)
  | none =>
    show CtB (s.roots.getD b 0, 0)
    have : -100 ≤ s.roots.getD b 0 ∧ s.roots.getD b 0 ≤ 100 := by
      rw [List.getD_eq_getElem?_getD]
      cases e : s.roots[b]? with
      | some x => exact h.rt x (List.mem_of_getElem? e)
      | none => exact ⟨by decide, by decide⟩
    exact ⟨this.1, this.2, (by decide : -top30 ≤ (0 : Int)), (by decide : (0 : Int) ≤ top30)⟩
theorem Bg.rowAt (h : Bg k s) (v : Nat) : 0 ≤ (s.row v).l ∧ (s.row v).l ≤ top30 + 6 * k ∧ CpB k (s.row v).c := by
  unfold MS.row
  rw [List.getD_eq_getElem?_getD]
  cases e : s.rows[v]? with
  | some r => exact h.row r (List.mem_of_getElem? e)
  | none => exact ⟨by decide, by show (0 : Int) ≤ top30 + 6 * k; have : (0 : Int) ≤ top30 := (by decide); omega, fun z hz => by cases hz⟩
theorem entMax_le {n need B : Int} (hn : need ≤ B) : ∀ {es : List (Int × Int)} {m : Int}, Ents m es → (10 ^ 40 - 1 : Int) ≤ B → entMax es n need ≤ B ∧ need ≤ entMax es n need
  | [], _, _, _ => ⟨hn, Int.le_refl _⟩
  | e :: r, m, ⟨_, _, h3, h4, h5⟩, hB => by
    have h1 : (if e.1 = n then max need e.2 else need) ≤ B ∧ need ≤ (if e.1 = n then max need e.2 else need) := by
      split <;> omega
    have ih := entMax_le (n := n) h1.1 h5 hB
    exact ⟨ih.1, Int.le_trans h1.2 ih.2⟩
theorem chosen_b {q : Pol} (vq : ValQ q) {n need : Int} (h0 : 0 ≤ need) (h1 : need ≤ B31) : CpB 0 (chosenQ q n need) := by
  intro z hz
  have b1 : B31 * 100 + 200 ≤ B41 := by decide
  have b2 : top30 ≤ B31 := by decide
  have b3 : (10 ^ 40 - 1 : Int) ≤ B41 := by decide
  have b4 : (0 : Int) ≤ B31 := by decide
  rw [show ((0 : Nat) : Int) * B31 = 0 from Int.zero_mul _]
  cases q with
  | exact => cases hz; exact ⟨by omega, by omega⟩
  | endless => cases hz
  | step e =>
    obtain ⟨e0, e1⟩ := vq
    cases hz
    exact ⟨by omega, by omega⟩
  | factor t b =>
    obtain ⟨t1, t2, b1', b2', _⟩ := vq
    have hz : (need * t + b - 1) / b = z := by simpa [chosenQ] using hz
    subst hz
    have m0 : 0 ≤ need * t := Int.mul_nonneg h0 (by omega)
    have m1 : need * t ≤ B31 * 100 := Int.mul_le_mul h1 (by omega) (by omega) (by omega)
    have d0 : 0 ≤ (need * t + b - 1) / b := Int.ediv_nonneg (by omega) (by omega)
    have d1 : (need * t + b - 1) / b ≤ need * t + b - 1 := Int.ediv_le_self _ (by omega)
    exact ⟨by omega, by omega⟩
  | table es =>
    have hz : entMax es n need = z := by simpa [chosenQ] using hz
    subst hz
    have := entMax_le (n := n) (need := need) (B := B41) (by omega) vq.1 b3
    exact ⟨by omega, by omega⟩
theorem keep_mem {lo hi : Int} {d : Dic} {e : Int × Ct} (h : e ∈ keepIn lo hi d) : e ∈ d := (List.mem_filter.mp h).1
theorem Bg.step (h : Bg k s) (hk : k ≤ 60) (hr : s.recs.length ≤ 60) {sp : List Span} (hs : Spn s sp) {q : Pol} (vq : ValQ q) {st : Stm} (v : Val sp st) : Bg (k + 1) (s.step q st) := by
  have m := (h.mono (Nat.le_succ k)).mark
  have m0 := h.mark
  show Bg (k + 1) (MS.act q (s.recs.length : Int) s.mark st)
  obtain ⟨num, hnum⟩ : ∃ n : Int, n = (s.recs.length : Int) := ⟨_, rfl⟩
  rw [← hnum]
  have hn : -100 ≤ num ∧ num ≤ 100 := by omega
  have b2 : top30 + 400 ≤ B31 := by decide
  have b5 : (0 : Int) ≤ top30 := by decide
  have b6 : top30 + 400 ≤ B41 := by decide
  have b7 : (0 : Int) ≤ ((k + 1 : Nat) : Int) * B31 := Int.mul_nonneg (by omega) (by decide)
  have b8 : ((k + 1 : Nat) : Int) * B31 = (k : Int) * B31 + B31 := by rw [show ((k + 1 : Nat) : Int) = (k : Int) + 1 by omega, Int.add_mul, Int.one_mul]
  have b9 : (0 : Int) ≤ B41 := by decide
  have spn : ∀ v, sp.getD v (0, 0) = ((s.row v).s, (s.row v).l) := fun v => hs.at_ v
  have at_ : ∀ {v : Nat} {p : Span}, sp[v]? = some p → p.2 = (s.row v).l := fun {v p} e => by
    have := spn v
    rw [List.getD_eq_getElem?_getD, e] at this
    have this : p = ((s.row v).s, (s.row v).l) := this
    rw [this]
  have mrow : ∀ v, s.mark.row v = s.row v := fun _ => rfl
  have small : ∀ z : Int, 0 ≤ z → z ≤ B41 → CpB (k + 1) (some z) := fun z h0 h1 x hx => by
    cases hx
    exact ⟨by omega, by omega⟩
  cases st with
  | make l c =>
    obtain ⟨v1, v2, v3⟩ := v
    exact (m.block hn hn (fun e he => by cases he)).view (r := ⟨0, l, some c, _⟩) v1 (by show l ≤ top30 + 6 * ((k + 1 : Nat) : Int); omega) (small c (by omega) (by omega))
  | slice e lo hi =>
    obtain ⟨p, hp, v1, v2, v3⟩ := v
    have hl := at_ hp
    obtain ⟨r1, r2, r3⟩ := h.rowAt e
    refine m.view (r := ⟨(s.row e).s + lo, hi - lo, (s.row e).c.map (· - lo), (s.row e).b⟩) (by show 0 ≤ hi - lo; omega) (by show hi - lo ≤ top30 + 6 * ((k + 1 : Nat) : Int); omega) ?_
    intro z hz
    have hz : (s.row e).c.map (· - lo) = some z := hz
    cases hc : (s.row e).c with
    | none => rw [hc] at hz; cases hz
    | some c0 =>
      rw [hc] at hz
      have hz : c0 - lo = z := by simpa using hz
      have := r3 c0 hc
      show -(B41 + ((k + 1 : Nat) : Int) * B31) ≤ z ∧ z ≤ B41 + ((k + 1 : Nat) : Int) * B31
      exact ⟨by omega, by omega⟩
  | clip e =>
    obtain ⟨r1, r2, r3⟩ := h.rowAt e
    exact m.view (r := ⟨(s.row e).s, (s.row e).l, some (s.row e).l, (s.row e).b⟩) r1 (by show (s.row e).l ≤ top30 + 6 * ((k + 1 : Nat) : Int); omega) (small _ r1 (by omega))
  | app g e xs =>
    obtain ⟨_, x1, x6, hv⟩ := v
    obtain ⟨r1, r2, r3⟩ := h.rowAt e
    have n0 : 0 ≤ (s.row e).l + (xs.length : Int) := by omega
    have n1 : (s.row e).l + (xs.length : Int) ≤ B31 := by omega
    show Bg (k + 1) (MS.ext q num g e xs s.mark)
    unfold MS.ext
    simp only []
    have hc := (chosen_b vq (n := num) n0 n1).mono (Nat.zero_le (k + 1))
    have hrt : -100 ≤ s.mark.roots.getD (s.row e).b 0 ∧ s.mark.roots.getD (s.row e).b 0 ≤ 100 := by
      rw [List.getD_eq_getElem?_getD]
      cases ez : s.mark.roots[(s.row e).b]? with
      | some x => exact m.rt x (List.mem_of_getElem? ez)
      | none => exact ⟨by decide, by decide⟩
    split
    · exact Bg.puts hn (((m.mad hn.1 hn.2 hc).block hn hrt (fun x hx => m.ct _ x (keep_mem hx))).view n0 (by show (s.row e).l + (xs.length : Int) ≤ top30 + 6 * ((k + 1 : Nat) : Int); omega) hc) hv
    · exact Bg.puts hn (m.view n0 (by show (s.row e).l + (xs.length : Int) ≤ top30 + 6 * ((k + 1 : Nat) : Int); omega) (r3.mono (Nat.le_succ k))) hv
  | write e i x =>
    have hv := v.2
    unfold Vv at hv
    exact m.set (c := (num, x)) ⟨hn.1, hn.2, by show -top30 ≤ x; omega, by show x ≤ top30; omega⟩
  | move e i u j =>
    have hc : CtB (s.mark.look u j) := m.found _ _
    exact (m.see hc).set (c := (num, (s.mark.look u j).2)) ⟨hn.1, hn.2, hc.2.2.1, hc.2.2.2⟩
  | read u j => exact m.see (m.found _ _)
end
theorem Bg.zero : Bg 0 MS.zero := ⟨(fun _ h => by cases h), (fun _ h => by cases h), (fun _ h => by cases h), (fun _ _ h => by cases h), (fun _ h => by cases h), (fun _ h => by cases h)⟩
theorem gs_big {pol : Pol} {prog : List Stm} (vp : ValP prog) (h60 : prog.length ≤ 60) (vq : ValQ pol) : ∀ n, n ≤ prog.length → Bg n (GS pol prog n)
  | 0, _ => Bg.zero
  | n + 1, h => by
    have hst : prog[n]? = some prog[n] := List.getElem?_eq_getElem h
    obtain ⟨_, sp, hl, _⟩ := gs_ok (pol := pol) vp h60 n (by omega)
    rw [GS_succ hst]
    exact (gs_big vp h60 vq n (by omega)).step (by omega) (by omega) sp vq (vp n _ hst)
/-! ### what is shown -/
theorem T.SmA_all : ∀ {ts : List T}, (∀ t ∈ ts, t.Sm) → T.SmA ts
  | [], _ => by simp only [T.SmA]
  | t :: r, h => by
    simp only [T.SmA]
    exact ⟨h t List.mem_cons_self, T.SmA_all fun x hx => h x (List.mem_cons_of_mem _ hx)⟩
theorem T.wtA_le {c : Nat} : ∀ {ts : List T}, (∀ t ∈ ts, t.wt ≤ c) → T.wtA ts ≤ ts.length * (c + 1)
  | [], _ => by simp only [T.wtA]; omega
  | t :: r, h => by
    have h1 := h t List.mem_cons_self
    have h2 := T.wtA_le (c := c) (ts := r) fun x hx => h x (List.mem_cons_of_mem _ hx)
    simp only [T.wtA, List.length_cons, Nat.succ_mul, Nat.add_mul, Nat.one_mul]
    omega
theorem T.dpA_le {c : Nat} : ∀ {ts : List T}, (∀ t ∈ ts, t.dp ≤ c) → T.dpA ts ≤ c
  | [], _ => by simp only [T.dpA]; omega
  | t :: r, h => by
    have h1 := h t List.mem_cons_self
    have h2 := T.dpA_le (c := c) (ts := r) fun x hx => h x (List.mem_cons_of_mem _ hx)
    simp only [T.dpA]
    omega
/-- a datum's bounds -/
structure Tb3 (t : T) (w d : Nat) : Prop where
  sm : t.Sm
  wt : t.wt ≤ w
  dp : t.dp ≤ d
theorem Tb3.mono {t : T} {w d w' d' : Nat} (h : Tb3 t w d) (h1 : w ≤ w') (h2 : d ≤ d') : Tb3 t w' d' := ⟨h.sm, Nat.le_trans h.wt h1, Nat.le_trans h.dp h2⟩
theorem tb_n : Tb3 .n 0 0 := ⟨by simp only [T.Sm], by simp only [T.wt, Nat.le_refl], by simp only [T.dp, Nat.le_refl]⟩
theorem tb_i {z : Int} (h : -(10 ^ 45 : Int) ≤ z ∧ z ≤ 10 ^ 45) : Tb3 (.i z) 170 0 := ⟨by
  simp only [T.Sm]
  have : z.natAbs ≤ 10 ^ 45 := by omega
  exact Nat.lt_of_le_of_lt this (by decide), by simp only [T.wt, Nat.le_refl], by simp only [T.dp, Nat.le_refl]⟩
theorem tb_l {ts : List T} {w d n : Nat} (h : ∀ t ∈ ts, Tb3 t w d) (hn : ts.length ≤ n) : Tb3 (.l ts) (n * (w + 1)) (d + 1) := ⟨by simp only [T.Sm]; exact T.SmA_all fun t ht => (h t ht).sm, by
  simp only [T.wt]
  exact Nat.le_trans (T.wtA_le fun t ht => (h t ht).wt) (Nat.mul_le_mul_right _ hn), by simp only [T.dp]; exact Nat.add_le_add_right (T.dpA_le fun t ht => (h t ht).dp) 1⟩
theorem tb_u {ts : List T} {w d n : Nat} (h : ∀ t ∈ ts, Tb3 t w d) (hn : ts.length ≤ n) : Tb3 (.u ts) (n * (w + 1)) (d + 1) := ⟨by simp only [T.Sm]; exact T.SmA_all fun t ht => (h t ht).sm, by
  simp only [T.wt]
  exact Nat.le_trans (T.wtA_le fun t ht => (h t ht).wt) (Nat.mul_le_mul_right _ hn), by simp only [T.dp]; exact Nat.add_le_add_right (T.dpA_le fun t ht => (h t ht).dp) 1⟩
theorem b45 {z B : Int} (h : -B ≤ z ∧ z ≤ B) (hB : B ≤ 10 ^ 45) : -(10 ^ 45 : Int) ≤ z ∧ z ≤ 10 ^ 45 := by omega
theorem tb_cap {k : Nat} (hk : k ≤ 60) {c : Option Int} (h : CpB k c) : Tb3 (capT c) 170 0 := by
  cases c with
  | none => exact tb_n.mono (by decide) (by decide)
  | some z =>
    have := h z rfl
    refine tb_i (b45 this ?_)
    have e : (k : Int) * B31 ≤ 60 * B31 := Int.mul_le_mul_of_nonneg_right (by omega) (by decide)
    have b : B41 + 60 * B31 ≤ 10 ^ 45 := by decide
    omega
theorem tb_ct {c : Ct} (h : CtB c) : Tb3 (ctT c) 342 1 := by
  have b1 : (100 : Int) ≤ 10 ^ 45 := by decide
  have b2 : top30 ≤ 10 ^ 45 := by decide
  refine (tb_u (ts := [.i c.1, .i c.2]) (w := 170) (d := 0) (n := 2) (fun t ht => ?_) (Nat.le_refl _)).mono (by decide) (by decide)
  simp only [List.mem_cons, List.not_mem_nil, or_false] at ht
  rcases ht with rfl | rfl
  · exact tb_i (b45 ⟨h.1, h.2.1⟩ b1)
  · exact tb_i (b45 ⟨h.2.2.1, h.2.2.2⟩ b2)
theorem tb_md {k : Nat} (hk : k ≤ 60) {x : Int × Option Int} (h : -100 ≤ x.1 ∧ x.1 ≤ 100 ∧ CpB k x.2) : Tb3 (mdT x) 342 1 := by
  have b1 : (100 : Int) ≤ 10 ^ 45 := by decide
  refine (tb_u (ts := [.i x.1, capT x.2]) (w := 170) (d := 0) (n := 2) (fun t ht => ?_) (Nat.le_refl _)).mono (by decide) (by decide)
  simp only [List.mem_cons, List.not_mem_nil, or_false] at ht
  rcases ht with rfl | rfl
  · exact tb_i (b45 ⟨h.1, h.2.1⟩ b1)
  · exact tb_cap hk h.2.2
theorem tb_row {k : Nat} (hk : k ≤ 60) {s : MS} (h : Bg k s) {r : Row} (hr : r ∈ s.rows) : Tb3 (rowT s r) 2058 3 := by
  have b1 : (100 : Int) ≤ 10 ^ 45 := by decide
  have h1 := tb_cap hk (h.row r hr).2.2
  have h2 : Tb3 (.i (s.makers.getD r.b 0)) 170 0 := by
    refine tb_i (b45 (B := 100) ?_ b1)
    rw [List.getD_eq_getElem?_getD]
    cases e : s.makers[r.b]? with
    | some x => exact h.mkr x (List.mem_of_getElem? e)
    | none => exact ⟨by decide, by decide⟩
  have h3 : Tb3 (.l ((ks r.l).map fun k => ctT (s.found r.b (r.s + k)))) 1715 2 := by
    refine tb_l (w := 342) (d := 1) (n := 5) (fun t ht => ?_) ?_
    · obtain ⟨z, _, rfl⟩ := List.mem_map.mp ht
      exact tb_ct (h.found _ _)
    · rw [List.length_map]
      exact ks_len _
  refine ⟨?_, ?_, ?_⟩
  · show T.Sm (.l [capT r.c, .i (s.makers.getD r.b 0), .l ((ks r.l).map fun k => ctT (s.found r.b (r.s + k)))])
    have a1 := h1.sm
    have a2 := h2.sm
    have a3 := h3.sm
    simp only [T.Sm, T.SmA] at a1 a2 a3 ⊢
    exact ⟨a1, a2, a3, trivial⟩
  · have a1 := h1.wt
    have a2 := h2.wt
    have a3 := h3.wt
    show T.wt (.l [capT r.c, .i (s.makers.getD r.b 0), .l ((ks r.l).map fun k => ctT (s.found r.b (r.s + k)))]) ≤ 2058
    simp only [T.wt, T.wtA] at a1 a2 a3 ⊢
    omega
  · have a1 := h1.dp
    have a2 := h2.dp
    have a3 := h3.dp
    show T.dp (.l [capT r.c, .i (s.makers.getD r.b 0), .l ((ks r.l).map fun k => ctT (s.found r.b (r.s + k)))]) ≤ 3
    simp only [T.dp, T.dpA] at a1 a2 a3 ⊢
    omega
theorem T.wtA_app : ∀ {a b : List T}, T.wtA (a ++ b) = T.wtA a + T.wtA b
  | [], b => by simp only [T.wtA, List.nil_append, Nat.zero_add]
  | t :: r, b => by
    simp only [T.wtA, List.cons_append]
    rw [T.wtA_app]
    omega
theorem shw_of {k n : Nat} (hk : k ≤ 60) {s : MS} (h : Bg k s) (h1 : s.rows.length ≤ 75) (h2 : s.seen.length ≤ 75) (h3 : s.made.length ≤ 75) (hn : n ≤ 60) : Shw n s := by
  have b1 : (100 : Int) ≤ 10 ^ 45 := by decide
  have b2 : top30 ≤ 10 ^ 45 := by decide
  have a0 : Tb3 (.i (n : Int)) 170 0 := tb_i (b45 (B := 100) (by omega) b1)
  have a1 : Tb3 (.l (s.seen.map fun c => .i c.2)) 12825 1 := tb_l (w := 170) (d := 0) (n := 75) (fun t ht => by
    obtain ⟨c, hc, rfl⟩ := List.mem_map.mp ht
    exact tb_i (b45 ⟨(h.seen c hc).2.2.1, (h.seen c hc).2.2.2⟩ b2)) (by rw [List.length_map]; exact h2)
  have a2 : Tb3 (.l (s.seen.map fun c => .i c.1)) 12825 1 := tb_l (w := 170) (d := 0) (n := 75) (fun t ht => by
    obtain ⟨c, hc, rfl⟩ := List.mem_map.mp ht
    exact tb_i (b45 ⟨(h.seen c hc).1, (h.seen c hc).2.1⟩ b1)) (by rw [List.length_map]; exact h2)
  have a3 : Tb3 (.l (s.made.map mdT)) 25725 2 := tb_l (w := 342) (d := 1) (n := 75) (fun t ht => by
    obtain ⟨c, hc, rfl⟩ := List.mem_map.mp ht
    exact tb_md hk (h.made c hc)) (by rw [List.length_map]; exact h3)
  have hr : ∀ t ∈ s.rows.map (rowT s), Tb3 t 2058 3 := fun t ht => by
    obtain ⟨r, hr, rfl⟩ := List.mem_map.mp ht
    exact tb_row hk h hr
  have hall : ∀ t ∈ hdT n s ++ s.rows.map (rowT s), t.Sm ∧ t.dp ≤ 3 := fun t ht => by
    rcases List.mem_append.mp ht with z | z
    · simp only [hdT, List.mem_cons, List.not_mem_nil, or_false] at z
      rcases z with rfl | rfl | rfl | rfl
      · exact ⟨a0.sm, Nat.le_trans a0.dp (by decide)⟩
      · exact ⟨a1.sm, Nat.le_trans a1.dp (by decide)⟩
      · exact ⟨a2.sm, Nat.le_trans a2.dp (by decide)⟩
      · exact ⟨a3.sm, Nat.le_trans a3.dp (by decide)⟩
    · exact ⟨(hr t z).sm, (hr t z).dp⟩
  refine ⟨?_, ?_, ?_⟩
  · show T.Sm (.l (hdT n s ++ s.rows.map (rowT s)))
    simp only [T.Sm]
    exact T.SmA_all fun t ht => (hall t ht).1
  · show T.wt (.l (hdT n s ++ s.rows.map (rowT s))) ≤ 250000
    have e0 := a0.wt
    have e1 := a1.wt
    have e2 := a2.wt
    have e3 := a3.wt
    have e4 := T.wtA_le (c := 2058) (ts := s.rows.map (rowT s)) fun t ht => (hr t ht).wt
    rw [List.length_map] at e4
    have e5 : s.rows.length * (2058 + 1) ≤ 75 * (2058 + 1) := Nat.mul_le_mul_right _ h1
    simp only [T.wt] at e0 e1 e2 e3
    simp only [T.wt, T.wtA_app, hdT, T.wtA]
    omega
  · show T.dp (.l (hdT n s ++ s.rows.map (rowT s))) ≤ 20
    have := T.dpA_le (c := 3) (ts := hdT n s ++ s.rows.map (rowT s)) fun t ht => (hall t ht).2
    simp only [T.dp]
    omega
theorem gs_all {pol : Pol} {prog : List Stm} (vp : ValP prog) (h25 : prog.length ≤ 25) (vq : ValQ pol) : Gs pol prog where
  gd := gd_of vp (by omega) vq
  row := fun n hn r hr => by
    have b := (gs_big (pol := pol) vp (by omega) vq n hn).row r hr
    have w := (gs_ok (pol := pol) vp (by omega) n hn).1.rb r hr
    have b1 : top30 + 400 < 10 ^ 50 := by decide
    exact ⟨w, b.1, by omega⟩
  shw := fun n hn => by
    have w := (gs_ok (pol := pol) vp (by omega) n hn).1
    have h1 := w.rows
    have h2 := w.seen
    have h3 := w.made
    exact shw_of (k := n) (by omega) (gs_big vp (by omega) vq n hn) (by omega) (by omega) (by omega) (by omega)
end GB
set_option maxHeartbeats 4000000
/-! GEnd: the law's end where it is entered with no guard up and fills tables of code objects. -/
namespace GB
open PySem PySem.Spec PyProof.Rows L2 LamX
/-- a table with nothing in it; a list -/
abbrev tbO : Obj := { cls := .none, data := .fields #[] }
abbrev liO (us : List Value) : Obj := { cls := .type "list", data := .seq us.toArray }
/-- what the walk tracks at its start: the tables, the script if the written part lacks it -/
def hp0 (A : List Addr) (K : Frg) (a : Addr) (us : List Value) (ns : List Int) : Hp := fun b =>
  if b ∈ A then some (.tbl #[]) else if b = a ∧ K.lookup a = none then some (.frz (liO us) (.lst (ns.map V.int))) else none
section
variable {P : Program} {w : World} {K : Frg} {mg mb : Str → Option Value} {s : Shared} {a : Addr} {at_ : Str × Option Str} {us : List Value} {ns : List Int} {ts : List (Addr × Addr)} {A : List Addr} {k : Nat} {pn : Str} {sp : Sp}
theorem hp0_t {b : Addr} (h : b ∈ A) : hp0 A K a us ns b = some (.tbl #[]) := if_pos h
theorem hp0_of {b : Addr} {u : HO} (h : hp0 A K a us ns b = some u) : (b ∈ A ∧ u = .tbl #[]) ∨ (b = a ∧ K.lookup a = none ∧ u = .frz (liO us) (.lst (ns.map V.int))) := by
  unfold hp0 at h
  by_cases z : b ∈ A
  · rw [if_pos z] at h
    exact .inl ⟨z, (Option.some.inj h).symm⟩
  · rw [if_neg z] at h
    by_cases y : b = a ∧ K.lookup a = none
    · rw [if_pos y] at h
      exact .inr ⟨y.1, y.2, (Option.some.inj h).symm⟩
    · rw [if_neg y] at h
      cases h
/-- an object that is neither a table nor a list is not tracked -/
theorem hp0_no {b : Addr} {o : Obj} (tE : ∀ b ∈ A, s.heap.get? b = some tbO) (ha : s.heap.get? a = some (liO us)) (g : s.heap.get? b = some o) (h1 : o.data ≠ .fields #[]) (h2 : ∀ xs m, o.data ≠ .seq xs m) : hp0 A K a us ns b = none := by
  cases q : hp0 A K a us ns b with
  | none => rfl
  | some u =>
    rcases hp0_of q with ⟨z, _⟩ | ⟨z, _, _⟩
    · have e := g.symm.trans (tE b z)
      exact absurd (congrArg Obj.data (Option.some.inj e)) h1
    · rw [z] at g
      have e := g.symm.trans ha
      exact absurd (congrArg Obj.data (Option.some.inj e)) (h2 _ _)
/-- nor is what the written part holds -/
theorem hp0_K {b : Addr} {o : Obj} (tK : ∀ b ∈ A, K.lookup b = none) (g : K.lookup b = some o) : hp0 A K a us ns b = none := by
  cases q : hp0 A K a us ns b with
  | none => rfl
  | some u =>
    rcases hp0_of q with ⟨z, _⟩ | ⟨z, y, _⟩
    · rw [tK b z] at g
      cases g
    · rw [z, y] at g
      cases g
/-- the built-ins' module as the top has left it -/
abbrev BmAt (mg : Str → Option Value) (h : Heap) : Prop :=
  ∃ (m : Addr) (o : Obj), mg "__builtins__" = some (.ref m) ∧ m ≠ builtinsNs ∧ h.get? m = some o ∧ o.cls = .type "module" ∧ o.dict = some builtinsNs ∧ o.data = .plain
theorem g_end (inK : K.In s.heap) (gs : s.heap.Ns mainGlobals mg) (bs : s.heap.Ns builtinsNs mb) (bb : ∀ y : Str, y ≠ "__name__" → mb y = bootBuiltins y) (lim : s.heap.NoLimit) (g0 : s.gens = #[])
    (emp : ∀ p ∈ ts, s.heap.get? p.2 = some tbO) (out : ∀ p ∈ ts, K.lookup p.2 = none) (hd : ∀ p ∈ ts, PySem.W.CodeHd s.heap p.1 p.2) (hbm : BmAt mg s.heap)
    (ha : s.heap.get? a = some (liO us)) (hi : IntsAre us ns) (hl : ns.length ≤ sizeLine) (hr : Room k callerA)
    (F : ∀ base : Heap, K.In base → base.Ns mainGlobals mg → (∀ p ∈ ts, TabB base mg p.1 p.2) → OkG P w K mg base CX0 k at_ [pn] sp)
    (hsp : ∀ H : Hp, (∀ p ∈ ts, H p.2 = some (.tbl #[])) → SqL K H a (ns.map V.int) → sp [.ref a] H (fun v _ => v = .bl true) fun _ _ _ => False) :
    codeAny (model P w) callerA (.call (.ref (He.fAd K at_)) ⟨[.ref a], []⟩) (fun r z => r = .ok (.ret (.bool true)) ∧ OldK s.heap z.heap ∧ z.os = s.os ∧ AllBare z.gens) s := by
  have rv := vals_ints hi
  obtain ⟨A, eA⟩ : ∃ A : List Addr, A = ts.map (·.2) := ⟨_, rfl⟩
  have inA : ∀ p ∈ ts, p.2 ∈ A := fun p hp => by
    rw [eA]
    exact List.mem_map_of_mem hp
  have ofA : ∀ b ∈ A, ∃ p ∈ ts, p.2 = b := fun b hb => by
    rw [eA] at hb
    exact List.mem_map.mp hb
  have tE : ∀ b ∈ A, s.heap.get? b = some tbO := fun b hb => by
    obtain ⟨p, hp, rfl⟩ := ofA b hb
    exact emp p hp
  have tK : ∀ b ∈ A, K.lookup b = none := fun b hb => by
    obtain ⟨p, hp, rfl⟩ := ofA b hb
    exact out p hp
  have aA : a ∉ A := fun z => by
    have e := congrArg Obj.data (Option.some.inj ((tE a z).symm.trans ha))
    cases e
  obtain ⟨H, eH⟩ : ∃ H : Hp, H = hp0 A K a us ns := ⟨_, rfl⟩
  have ofH : ∀ {b : Addr} {u : HO}, H b = some u → (b ∈ A ∧ u = .tbl #[]) ∨ (b = a ∧ K.lookup a = none ∧ u = .frz (liO us) (.lst (ns.map V.int))) := fun q => hp0_of (by rw [← eH]; exact q)
  have noH : ∀ {b : Addr} {o : Obj}, s.heap.get? b = some o → o.data ≠ .fields #[] → (∀ xs m, o.data ≠ .seq xs m) → H b = none := fun g h1 h2 => by
    rw [eH]
    exact hp0_no tE ha g h1 h2
  have tH : ∀ p ∈ ts, H p.2 = some (.tbl #[]) := fun p hp => by
    rw [eH]
    exact hp0_t (inA p hp)
  have sq : SqL K H a (ns.map V.int) := by
    cases q : K.lookup a with
    | none =>
      refine .inl (.inr ⟨liO us, ?_⟩)
      rw [eH]
      exact (if_neg aA).trans (if_pos ⟨rfl, q⟩)
    | some o =>
      have e := (inK a o q).symm.trans ha
      cases e
      exact .inr ⟨_, us.toArray, _, q, rfl, rfl, rfl, by rw [List.size_toArray, hi.length]; exact hl, by simpa using rv⟩
  have ok : HOk P w H s.heap := fun b u q => by
    rcases ofH q with ⟨z, rfl⟩ | ⟨rfl, _, rfl⟩
    · exact tE b z
    · exact ⟨ha, by rw [List.length_map]; exact hl, us, _, rv, ha⟩
  -- the heap behind what is tracked
  have up : ∀ {b : Addr} {o : Obj}, s.heap.get? b = some o → H b = none → (hidT s.heap H).get? b = some o := fun g q => hidT_get g q
  have upN : ∀ {b : Addr} {m : Str → Option Value}, s.heap.Ns b m → (hidT s.heap H).Ns b m := fun {b m} ⟨o, es, n, g, dt, r⟩ =>
    ⟨o, es, n, up g (noH g (by rw [dt]; intro z; cases z) (by rw [dt]; intro _ _ z; cases z)), dt, r⟩
  have upK : K.In (hidT s.heap H) := fun b o q => up (inK b o q) (by rw [eH]; exact hp0_K tK q)
  have md : L2.Mod K mg (hidT s.heap H) := ⟨upK, upN gs, ⟨mb, upN bs, bb⟩, by
    obtain ⟨m, z1, z2⟩ := lim
    exact ⟨m, upN z1, z2⟩⟩
  have tabs : ∀ p ∈ ts, TabB (hidT s.heap H) mg p.1 p.2 := fun p hp => by
    have e0 := emp p hp
    have nG : mainGlobals ≠ p.2 := fun z => by
      obtain ⟨o, es, n, g, dt, _⟩ := gs
      rw [z, e0] at g
      rw [← Option.some.inj g] at dt
      cases dt
    refine ⟨?_, ?_, nG⟩
    · obtain ⟨o, vs, q1, q2, q3, q4, q5, q6, q7, g, r1, r2, r3, r⟩ := hd p hp
      refine ⟨o, vs, q1, q2, q3, q4, q5, q6, q7, up g (noH g ?_ ?_), r1, r2, r3, r⟩
      · rw [r2]
        intro z
        cases z
        simp at r3
      · rw [r2]
        intro _ _ z
        cases z
    · obtain ⟨m, o, b1, b2, b3, b4, b5, b6⟩ := hbm
      refine ⟨m, o, b1, b2, fun z => ?_, fun z => ?_, up b3 (noH b3 ?_ ?_), b4, b5, b6⟩
      · obtain ⟨o2, es, n, g, dt, _⟩ := gs
        rw [z, g] at b3
        rw [Option.some.inj b3, b6] at dt
        cases dt
      · rw [z, e0] at b3
        rw [← Option.some.inj b3] at b6
        cases b6
      · rw [b6]
        intro z
        cases z
      · rw [b6]
        intro _ _ z
        cases z
  have env : Env0 P w K mg (hidT s.heap H) callerA [] s H := ⟨rfl, md, fun b o g => of_hidT g, Nat.le_of_eq (hidT_size _ _), trivial, (fun b hb => by cases hb), ok, .of_eq g0⟩
  obtain ⟨fd, bi, f⟩ := F _ upK (upN gs) tabs
  refine codeAny_mono (f.run callerA [] s H ⟨[.ref a], []⟩ [.ref a] [.ref a] _ _ hr rfl env (bi s [.ref a] inK rfl) (.cons rfl .nil) (hsp H tH sq)) fun r z h => ?_
  cases r with
  | error e => exact False.elim h
  | ok fl =>
    cases fl with
    | next => exact False.elim h
    | brk => exact False.elim h
    | cont => exact False.elim h
    | ret u =>
      obtain ⟨v, H2, eo, bare, un, ok2, r2, q⟩ := h
      have q : v = .bl true := q
      subst q
      obtain rfl : u = Value.bool true := r2
      have kept : ∀ b o, b ∉ A → s.heap.get? b = some o → z.heap.get? b = some o := fun b o nA g => by
        cases q : H b with
        | none => exact un.keep b o g q (fun y => by cases y) (by simp)
        | some x =>
          rcases ofH q with ⟨y, _⟩ | ⟨rfl, _, rfl⟩
          · exact absurd y nA
          · obtain ⟨g1, _⟩ := ok2 _ _ (un.frzs _ _ _ q)
            have e := g.symm.trans ha
            rw [Option.some.inj e]
            exact g1
      have grown : ∀ p ∈ ts, ∃ vs : Array Value, z.heap.get? p.2 = some { cls := .none, data := .fields vs } := fun p hp => by
        obtain ⟨vs, y⟩ := un.tbls p.2 #[] (tH p hp)
        exact ⟨_, ok2 p.2 _ y⟩
      refine ⟨rfl, ⟨fun b o g => ?_, fun b o g => ?_⟩, eo, bare⟩
      · by_cases y : b ∈ A
        · obtain ⟨p, hp, rfl⟩ := ofA b y
          obtain ⟨vs, e⟩ := grown p hp
          have eo := g.symm.trans (emp p hp)
          cases eo
          exact .inr (.inl ⟨((hd p hp).tab (emp p hp)).isCodeTable, rfl, #[], vs, rfl, by rw [Array.empty_append]; exact e⟩)
        · exact .inl (kept b o y g)
      · by_cases y : b ∈ A
        · obtain ⟨p, hp, rfl⟩ := ofA b y
          obtain ⟨vs, e⟩ := grown p hp
          exact ⟨_, e⟩
        · exact ⟨o, kept b o y g⟩
end
end GB
set_option maxHeartbeats 0
/-! GHead: the head's facts, printed by gen_head.py. -/
namespace GB
open PySem PySem.Spec PyProof.Rows L2
section
variable {K : Frg} {mg : Str → Option Value} {h : Heap} {w : World}
theorem htxt (X : K.In h) (G : h.Ns mainGlobals mg) (c : He.SaysD hfa hfn K) : Txt K mg where
  bi := ⟨He.free_ok X G (c.fact 0 (f := .free "isinstance") rfl), He.free_ok X G (c.fact 1 (f := .free "int") rfl), He.free_ok X G (c.fact 2 (f := .free "bool") rfl), He.free_ok X G (c.fact 3 (f := .free "tuple") rfl), He.free_ok X G (c.fact 4 (f := .free "str") rfl), He.free_ok X G (c.fact 5 (f := .free "len") rfl), He.free_ok X G (c.fact 6 (f := .free "all") rfl), He.free_ok X G (c.fact 7 (f := .free "enumerate") rfl), He.free_ok X G (c.fact 8 (f := .free "max") rfl), He.free_ok X G (c.fact 9 (f := .free "min") rfl), He.free_ok X G (c.fact 10 (f := .free "list") rfl), He.free_ok X G (c.fact 11 (f := .free "dict") rfl), He.free_ok X G (c.fact 12 (f := .free "reversed") rfl), He.free_ok X G (c.fact 13 (f := .free "range") rfl), He.free_ok X G (c.fact 14 (f := .free "repr") rfl), He.free_ok X G (c.fact 15 (f := .free "abs") rfl), He.free_ok X G (c.fact 16 (f := .free "ValueError") rfl), He.free_ok X G (c.fact 17 (f := .free "IndexError") rfl), He.free_ok X G (c.fact 18 (f := .free "KeyError") rfl), He.free_ok X G (c.fact 19 (f := .free "LookupError") rfl), He.free_ok X G (c.fact 20 (f := .free "RuntimeError") rfl)⟩
  c_MOST_STATEMENTS := He.int_ok X G (c.fact 21 (f := .int "MOST_STATEMENTS" (60)) rfl)
  c_MOST_CELLS := He.int_ok X G (c.fact 22 (f := .int "MOST_CELLS" (10 ^ 30)) rfl)
  c_MOST_VALUES := He.int_ok X G (c.fact 23 (f := .int "MOST_VALUES" (6)) rfl)
  c_VALUE_LIMIT := He.int_ok X G (c.fact 24 (f := .int "VALUE_LIMIT" (10 ^ 30)) rfl)
  c_CAPACITY_LIMIT := He.int_ok X G (c.fact 25 (f := .int "CAPACITY_LIMIT" (10 ^ 40)) rfl)
  c_MOST_PART := He.int_ok X G (c.fact 26 (f := .int "MOST_PART" (100)) rfl)
  g_GrowError := ⟨He.glo_ok X G (c.fact 27 (f := .glo "GrowError") rfl), He.keep_ok (c.fact 28 (f := .keep "GrowError") rfl)⟩
  g_InvalidProgram := ⟨He.glo_ok X G (c.fact 29 (f := .glo "InvalidProgram") rfl), He.keep_ok (c.fact 30 (f := .keep "InvalidProgram") rfl)⟩
  g_InvalidPolicy := ⟨He.glo_ok X G (c.fact 31 (f := .glo "InvalidPolicy") rfl), He.keep_ok (c.fact 32 (f := .keep "InvalidPolicy") rfl)⟩
  g_InvalidDemand := ⟨He.glo_ok X G (c.fact 33 (f := .glo "InvalidDemand") rfl), He.keep_ok (c.fact 34 (f := .keep "InvalidDemand") rfl)⟩
  g_InvalidText := ⟨He.glo_ok X G (c.fact 35 (f := .glo "InvalidText") rfl), He.keep_ok (c.fact 36 (f := .keep "InvalidText") rfl)⟩
  g_NoView := ⟨He.glo_ok X G (c.fact 37 (f := .glo "NoView") rfl), He.keep_ok (c.fact 38 (f := .keep "NoView") rfl)⟩
  g_NoRead := ⟨He.glo_ok X G (c.fact 39 (f := .glo "NoRead") rfl), He.keep_ok (c.fact 40 (f := .keep "NoRead") rfl)⟩
  g_NoCell := ⟨He.glo_ok X G (c.fact 41 (f := .glo "NoCell") rfl), He.keep_ok (c.fact 42 (f := .keep "NoCell") rfl)⟩
  g_NoCandidate := ⟨He.glo_ok X G (c.fact 43 (f := .glo "NoCandidate") rfl), He.keep_ok (c.fact 44 (f := .keep "NoCandidate") rfl)⟩
  g_NoUndo := ⟨He.glo_ok X G (c.fact 45 (f := .glo "NoUndo") rfl), He.keep_ok (c.fact 46 (f := .keep "NoUndo") rfl)⟩
  g_Finished := ⟨He.glo_ok X G (c.fact 47 (f := .glo "Finished") rfl), He.keep_ok (c.fact 48 (f := .keep "Finished") rfl)⟩
  g_Busy := ⟨He.glo_ok X G (c.fact 49 (f := .glo "Busy") rfl), He.keep_ok (c.fact 50 (f := .keep "Busy") rfl)⟩
  g_SIZES := He.glo_ok X G (c.fact 51 (f := .glo "SIZES") rfl)
  g_Machine := ⟨He.glo_ok X G (c.fact 52 (f := .glo "Machine") rfl), He.keep_ok (c.fact 53 (f := .keep "Machine") rfl)⟩
  cl := He.cls_ok (c.fact 54 (f := .cls "Machine") rfl)
  mak := He.mkr_ok (c.fact 55 (f := .mkr "Machine") rfl)
  no_kept_program := He.noat_ok (c.fact 56 (f := .noat "Machine" "kept_program") rfl)
  no_kept_policy := He.noat_ok (c.fact 57 (f := .noat "Machine" "kept_policy") rfl)
  no_rows := He.noat_ok (c.fact 58 (f := .noat "Machine" "rows") rfl)
  no_cells := He.noat_ok (c.fact 59 (f := .noat "Machine" "cells") rfl)
  no_makers := He.noat_ok (c.fact 60 (f := .noat "Machine" "makers") rfl)
  no_roots := He.noat_ok (c.fact 61 (f := .noat "Machine" "roots") rfl)
  no_seen := He.noat_ok (c.fact 62 (f := .noat "Machine" "seen") rfl)
  no_made := He.noat_ok (c.fact 63 (f := .noat "Machine" "made") rfl)
  no_records := He.noat_ok (c.fact 64 (f := .noat "Machine" "records") rfl)
  no_busy := He.noat_ok (c.fact 65 (f := .noat "Machine" "busy") rfl)
  g_is_integer := ⟨He.glo_ok X G (c.fact 66 (f := .glo "is_integer") rfl), He.keep_ok (c.fact 67 (f := .keep "is_integer") rfl)⟩
  f_is_integer := c.def_ 0 (d := d_is_integer) rfl
  g_is_between := ⟨He.glo_ok X G (c.fact 68 (f := .glo "is_between") rfl), He.keep_ok (c.fact 69 (f := .keep "is_between") rfl)⟩
  f_is_between := c.def_ 1 (d := d_is_between) rfl
  g_is_value := ⟨He.glo_ok X G (c.fact 70 (f := .glo "is_value") rfl), He.keep_ok (c.fact 71 (f := .keep "is_value") rfl)⟩
  f_is_value := c.def_ 2 (d := d_is_value) rfl
  g_are_values := ⟨He.glo_ok X G (c.fact 72 (f := .glo "are_values") rfl), He.keep_ok (c.fact 73 (f := .keep "are_values") rfl)⟩
  f_are_values := c.def_ 3 (d := d_are_values) rfl
  g_is_cell := ⟨He.glo_ok X G (c.fact 74 (f := .glo "is_cell") rfl), He.keep_ok (c.fact 75 (f := .keep "is_cell") rfl)⟩
  f_is_cell := c.def_ 4 (d := d_is_cell) rfl
  g_is_statement := ⟨He.glo_ok X G (c.fact 76 (f := .glo "is_statement") rfl), He.keep_ok (c.fact 77 (f := .keep "is_statement") rfl)⟩
  f_is_statement := c.def_ 5 (d := d_is_statement) rfl
  g_span_of := ⟨He.glo_ok X G (c.fact 78 (f := .glo "span_of") rfl), He.keep_ok (c.fact 79 (f := .keep "span_of") rfl)⟩
  f_span_of := c.def_ 6 (d := d_span_of) rfl
  g_first_invalid := ⟨He.glo_ok X G (c.fact 80 (f := .glo "first_invalid") rfl), He.keep_ok (c.fact 81 (f := .keep "first_invalid") rfl)⟩
  f_first_invalid := c.def_ 7 (d := d_first_invalid) rfl
  g_need_program := ⟨He.glo_ok X G (c.fact 82 (f := .glo "need_program") rfl), He.keep_ok (c.fact 83 (f := .keep "need_program") rfl)⟩
  f_need_program := c.def_ 8 (d := d_need_program) rfl
  g_are_entries := ⟨He.glo_ok X G (c.fact 84 (f := .glo "are_entries") rfl), He.keep_ok (c.fact 85 (f := .keep "are_entries") rfl)⟩
  f_are_entries := c.def_ 9 (d := d_are_entries) rfl
  g_is_factor := ⟨He.glo_ok X G (c.fact 86 (f := .glo "is_factor") rfl), He.keep_ok (c.fact 87 (f := .keep "is_factor") rfl)⟩
  f_is_factor := c.def_ 10 (d := d_is_factor) rfl
  g_is_policy := ⟨He.glo_ok X G (c.fact 88 (f := .glo "is_policy") rfl), He.keep_ok (c.fact 89 (f := .keep "is_policy") rfl)⟩
  f_is_policy := c.def_ 11 (d := d_is_policy) rfl
  g_need_policy := ⟨He.glo_ok X G (c.fact 90 (f := .glo "need_policy") rfl), He.keep_ok (c.fact 91 (f := .keep "need_policy") rfl)⟩
  f_need_policy := c.def_ 12 (d := d_need_policy) rfl
  g_chosen := ⟨He.glo_ok X G (c.fact 92 (f := .glo "chosen") rfl), He.keep_ok (c.fact 93 (f := .keep "chosen") rfl)⟩
  f_chosen := c.def_ 13 (d := d_chosen) rfl
  f_M_init := c.def_ 14 (d := d_M_init) rfl
  m_need_rest := He.meth_ok (c.fact 94 (f := .meth "Machine" "need_rest") rfl)
  f_M_need_rest := c.def_ 15 (d := d_M_need_rest) rfl
  m_found_at := He.meth_ok (c.fact 95 (f := .meth "Machine" "found_at") rfl)
  f_M_found_at := c.def_ 16 (d := d_M_found_at) rfl
  m_set_cell := He.meth_ok (c.fact 96 (f := .meth "Machine" "set_cell") rfl)
  f_M_set_cell := c.def_ 17 (d := d_M_set_cell) rfl
  m_add_block := He.meth_ok (c.fact 97 (f := .meth "Machine" "add_block") rfl)
  f_M_add_block := c.def_ 18 (d := d_M_add_block) rfl
  m_extend_view := He.meth_ok (c.fact 98 (f := .meth "Machine" "extend_view") rfl)
  f_M_extend_view := c.def_ 19 (d := d_M_extend_view) rfl
  m_add_view := He.meth_ok (c.fact 99 (f := .meth "Machine" "add_view") rfl)
  f_M_add_view := c.def_ 20 (d := d_M_add_view) rfl
  m_read_cell := He.meth_ok (c.fact 100 (f := .meth "Machine" "read_cell") rfl)
  f_M_read_cell := c.def_ 21 (d := d_M_read_cell) rfl
  m_write_cell := He.meth_ok (c.fact 101 (f := .meth "Machine" "write_cell") rfl)
  f_M_write_cell := c.def_ 22 (d := d_M_write_cell) rfl
  m_advance := He.meth_ok (c.fact 102 (f := .meth "Machine" "advance") rfl)
  f_M_advance := c.def_ 23 (d := d_M_advance) rfl
  m_step := He.meth_ok (c.fact 103 (f := .meth "Machine" "step") rfl)
  f_M_step := c.def_ 24 (d := d_M_step) rfl
  m_back := He.meth_ok (c.fact 104 (f := .meth "Machine" "back") rfl)
  f_M_back := c.def_ 25 (d := d_M_back) rfl
  m_run := He.meth_ok (c.fact 105 (f := .meth "Machine" "run") rfl)
  f_M_run := c.def_ 26 (d := d_M_run) rfl
  m_position := He.meth_ok (c.fact 106 (f := .meth "Machine" "position") rfl)
  f_M_position := c.def_ 27 (d := d_M_position) rfl
  m_row_of := He.meth_ok (c.fact 107 (f := .meth "Machine" "row_of") rfl)
  f_M_row_of := c.def_ 28 (d := d_M_row_of) rfl
  m_capacity := He.meth_ok (c.fact 108 (f := .meth "Machine" "capacity") rfl)
  f_M_capacity := c.def_ 29 (d := d_M_capacity) rfl
  m_block := He.meth_ok (c.fact 109 (f := .meth "Machine" "block") rfl)
  f_M_block := c.def_ 30 (d := d_M_block) rfl
  m_content := He.meth_ok (c.fact 110 (f := .meth "Machine" "content") rfl)
  f_M_content := c.def_ 31 (d := d_M_content) rfl
  m_read_values := He.meth_ok (c.fact 111 (f := .meth "Machine" "read_values") rfl)
  f_M_read_values := c.def_ 32 (d := d_M_read_values) rfl
  m_origins := He.meth_ok (c.fact 112 (f := .meth "Machine" "origins") rfl)
  f_M_origins := c.def_ 33 (d := d_M_origins) rfl
  m_allocations := He.meth_ok (c.fact 113 (f := .meth "Machine" "allocations") rfl)
  f_M_allocations := c.def_ 34 (d := d_M_allocations) rfl
  m_twin := He.meth_ok (c.fact 114 (f := .meth "Machine" "twin") rfl)
  f_M_twin := c.def_ 35 (d := d_M_twin) rfl
  g_l_pen := ⟨He.glo_ok X G (c.fact 115 (f := .glo "_law_pen") rfl), He.keep_ok (c.fact 116 (f := .keep "_law_pen") rfl)⟩
  f_l_pen := c.def_ 36 (d := d_l_pen) rfl
  g_l_draw := ⟨He.glo_ok X G (c.fact 117 (f := .glo "_law_draw") rfl), He.keep_ok (c.fact 118 (f := .keep "_law_draw") rfl)⟩
  f_l_draw := c.def_ 37 (d := d_l_draw) rfl
  g_l_value := ⟨He.glo_ok X G (c.fact 119 (f := .glo "_law_value") rfl), He.keep_ok (c.fact 120 (f := .keep "_law_value") rfl)⟩
  f_l_value := c.def_ 38 (d := d_l_value) rfl
  g_l_index := ⟨He.glo_ok X G (c.fact 121 (f := .glo "_law_index") rfl), He.keep_ok (c.fact 122 (f := .keep "_law_index") rfl)⟩
  f_l_index := c.def_ 39 (d := d_l_index) rfl
  g_l_slice := ⟨He.glo_ok X G (c.fact 123 (f := .glo "_law_slice") rfl), He.keep_ok (c.fact 124 (f := .keep "_law_slice") rfl)⟩
  f_l_slice := c.def_ 40 (d := d_l_slice) rfl
  g_l_deed := ⟨He.glo_ok X G (c.fact 125 (f := .glo "_law_deed") rfl), He.keep_ok (c.fact 126 (f := .keep "_law_deed") rfl)⟩
  f_l_deed := c.def_ 41 (d := d_l_deed) rfl
  g_l_known := ⟨He.glo_ok X G (c.fact 127 (f := .glo "_law_known") rfl), He.keep_ok (c.fact 128 (f := .keep "_law_known") rfl)⟩
  f_l_known := c.def_ 42 (d := d_l_known) rfl
  g_l_draft := ⟨He.glo_ok X G (c.fact 129 (f := .glo "_law_draft") rfl), He.keep_ok (c.fact 130 (f := .keep "_law_draft") rfl)⟩
  f_l_draft := c.def_ 43 (d := d_l_draft) rfl
  g_l_tail := ⟨He.glo_ok X G (c.fact 131 (f := .glo "_law_tail") rfl), He.keep_ok (c.fact 132 (f := .keep "_law_tail") rfl)⟩
  f_l_tail := c.def_ 44 (d := d_l_tail) rfl
  g_l_policy := ⟨He.glo_ok X G (c.fact 133 (f := .glo "_law_policy") rfl), He.keep_ok (c.fact 134 (f := .keep "_law_policy") rfl)⟩
  f_l_policy := c.def_ 45 (d := d_l_policy) rfl
  g_l_chosen := ⟨He.glo_ok X G (c.fact 135 (f := .glo "_law_chosen") rfl), He.keep_ok (c.fact 136 (f := .keep "_law_chosen") rfl)⟩
  f_l_chosen := c.def_ 46 (d := d_l_chosen) rfl
  g_l_fresh := ⟨He.glo_ok X G (c.fact 137 (f := .glo "_law_fresh") rfl), He.keep_ok (c.fact 138 (f := .keep "_law_fresh") rfl)⟩
  f_l_fresh := c.def_ 47 (d := d_l_fresh) rfl
  g_l_at := ⟨He.glo_ok X G (c.fact 139 (f := .glo "_law_at") rfl), He.keep_ok (c.fact 140 (f := .keep "_law_at") rfl)⟩
  f_l_at := c.def_ 48 (d := d_l_at) rfl
  g_l_append := ⟨He.glo_ok X G (c.fact 141 (f := .glo "_law_append") rfl), He.keep_ok (c.fact 142 (f := .keep "_law_append") rfl)⟩
  f_l_append := c.def_ 49 (d := d_l_append) rfl
  g_l_execute := ⟨He.glo_ok X G (c.fact 143 (f := .glo "_law_execute") rfl), He.keep_ok (c.fact 144 (f := .keep "_law_execute") rfl)⟩
  f_l_execute := c.def_ 50 (d := d_l_execute) rfl
  g_l_state := ⟨He.glo_ok X G (c.fact 145 (f := .glo "_law_state") rfl), He.keep_ok (c.fact 146 (f := .keep "_law_state") rfl)⟩
  f_l_state := c.def_ 51 (d := d_l_state) rfl
  g_l_shown := ⟨He.glo_ok X G (c.fact 147 (f := .glo "_law_shown") rfl), He.keep_ok (c.fact 148 (f := .keep "_law_shown") rfl)⟩
  f_l_shown := c.def_ 52 (d := d_l_shown) rfl
  g_l_told := ⟨He.glo_ok X G (c.fact 149 (f := .glo "_law_told") rfl), He.keep_ok (c.fact 150 (f := .keep "_law_told") rfl)⟩
  f_l_told := c.def_ 53 (d := d_l_told) rfl
  g_l_stands := ⟨He.glo_ok X G (c.fact 151 (f := .glo "_law_stands") rfl), He.keep_ok (c.fact 152 (f := .keep "_law_stands") rfl)⟩
  f_l_stands := c.def_ 54 (d := d_l_stands) rfl
  g_l_refused := ⟨He.glo_ok X G (c.fact 153 (f := .glo "_law_refused") rfl), He.keep_ok (c.fact 154 (f := .keep "_law_refused") rfl)⟩
  f_l_refused := c.def_ 55 (d := d_l_refused) rfl
  g_l_ending := ⟨He.glo_ok X G (c.fact 155 (f := .glo "_law_ending") rfl), He.keep_ok (c.fact 156 (f := .keep "_law_ending") rfl)⟩
  f_l_ending := c.def_ 56 (d := d_l_ending) rfl
  g_l_deed_done := ⟨He.glo_ok X G (c.fact 157 (f := .glo "_law_deed_done") rfl), He.keep_ok (c.fact 158 (f := .keep "_law_deed_done") rfl)⟩
  f_l_deed_done := c.def_ 57 (d := d_l_deed_done) rfl
  g_law := ⟨He.glo_ok X G (c.fact 159 (f := .glo "law") rfl), He.keep_ok (c.fact 160 (f := .keep "law") rfl)⟩
  f_law := c.def_ 58 (d := d_law) rfl
theorem htxx (c : He.SaysX hfa hfn hts htf hex w h K) : TxX K := by
  have e : hex K = true := c.more
  obtain ⟨e1, e⟩ := He.ba e
  obtain ⟨e2, _⟩ := He.ba e
  exact ⟨clsB_ok e1, clsB_ok e2, c.t.d.def_ 59 (d := d_vi) rfl, c.t.d.def_ 60 (d := d_ci) rfl⟩
theorem hsiz (c : He.SaysX hfa hfn hts htf hex w h K) : Siz K w := by
  have e : hex K = true := c.more
  obtain ⟨_, e⟩ := He.ba e
  obtain ⟨_, e⟩ := He.ba e
  obtain ⟨e3, _⟩ := He.ba e
  exact ⟨c.t.tab 0 rfl, fun q hq => He.valsB_ok e3 (List.mem_map.mpr ⟨q, hq, rfl⟩)⟩
theorem hne (c : He.SaysX hfa hfn hts htf hex w h K) : (He.cT K d_l_stands.at_).2 ≠ (He.cT K d_l_deed_done.at_).2 ∧ (He.cT K d_l_stands.at_).2 ≠ (He.cT K d_l_ending.at_).2 ∧ (He.cT K d_l_deed_done.at_).2 ≠ (He.cT K d_l_ending.at_).2 := by
  have e : hex K = true := c.more
  obtain ⟨_, e⟩ := He.ba e
  obtain ⟨_, e⟩ := He.ba e
  obtain ⟨_, e⟩ := He.ba e
  obtain ⟨e1, e⟩ := He.ba e
  obtain ⟨e2, e3⟩ := He.ba e
  exact ⟨of_decide_eq_true e1, of_decide_eq_true e2, of_decide_eq_true e3⟩
end
end GB
set_option maxHeartbeats 0
/-! GFinal: head and walk joined. -/
namespace GB
open PySem PySem.Spec PyProof.Rows L2 LamX
theorem hlaw_name : (HandSHeadRun.topDef hR.prog 62).name = ("law" : Str) := by kernel_rfl
theorem hlaw_dfl : (HandSHeadRun.topDef hR.prog 62).params.defaults = [] := by kernel_rfl
theorem hwalk : PySem.W.WalkO hqv hnames (PySem.W.XL hqv []) hk.says hR.toRowW (HandSHeadRun.topDef hR.prog 62) [] (fun f vs => PySem.call f vs) := by
  refine Att.attach_callB (l := PySem.Challenge.rw_growblind_k22_whole_a_machine_and_its_wa) (n := 63) rfl hlaw_dfl fun w s₀ s₁ mg mb fa o pm cd doc a vs ns G Y ho hd hcd hmg hobj hints hlen hbits hg => ?_
  obtain ⟨K, KX, c⟩ := Y
  have T : Txt K mg := htxt KX G.T.g c.t.d
  have X : TxX K := htxx c
  have Z : Siz K w := hsiz c
  obtain ⟨n1, n2, n3⟩ := hne c
  rw [hlaw_name] at hmg
  have e : fa = He.ga K "law" := by
    have := hmg.symm.trans T.g_law.g
    cases this
    rfl
  subst e
  refine g_end (pn := "_law_script") (ts := htf.map (He.cT K)) (k := 12) (at_ := ("law", none)) (sp := sp_law K) KX G.T.g G.T.b G.T.builtins G.T.nolimit hg (fun p hp => ?_) (fun p hp => ?_) (fun p hp => ?_) G.T.bmain hobj hints (Nat.le_trans hlen (by decide)) ⟨rfl, by decide, by decide⟩ (fun base hB hN hT => ?_) fun H hT hS => ?_
  · obtain ⟨q, hq, rfl⟩ := List.mem_map.mp hp
    exact c.empty q hq
  · obtain ⟨q, hq, rfl⟩ := List.mem_map.mp hp
    exact c.out q hq
  · obtain ⟨q, hq, rfl⟩ := List.mem_map.mp hp
    exact PySem.W.codeHd_of_K KX (c.hd q hq)
  · exact ok_law T X ⟨hT _ (List.mem_map_of_mem (.head _)), hT _ (List.mem_map_of_mem (.tail _ (.head _))), hT _ (List.mem_map_of_mem (.tail _ (.tail _ (.head _)))), n1, n2, n3⟩ Z
  · refine ⟨a, ns, rfl, hS, fun p hp => ?_, fun prog pol vp h25 vq => gs_all vp h25 vq, fun _ => rfl⟩
    simp only [Tb, List.mem_cons, List.not_mem_nil, or_false] at hp
    rcases hp with rfl | rfl | rfl
    · exact TabS.nil (hT _ (List.mem_map_of_mem (.head _)))
    · exact TabS.nil (hT _ (List.mem_map_of_mem (.tail _ (.head _))))
    · exact TabS.nil (hT _ (List.mem_map_of_mem (.tail _ (.tail _ (.head _)))))
end GB
open PySem PySem.W PySem.Calls PyProof.Rows
theorem PySem.Challenge.cw_growblind_k22_whole_a_machine_and_its_wa_holds : PySem.Challenge.rw_growblind_k22_whole_a_machine_and_its_wa.Holds := by
  w_on; o_law
  refine HandSHeadRun.head_any (r := GB.hR) (q := GB.hqv) (H := GB.hk) (ob := GB.hob) (M := 6000) (loose := GB.hnames) (d := HandSHeadRun.topDef GB.hR.prog 62) (kwd := []) GB.hob_eq
    (by kernel_rfl) (fun s => by kernel_rfl) GB.hrun (by kernel_rfl) (by kernel_rfl) (by kernel_rfl) (by rfl) (by first | assumption | decide +kernel) (by decide +kernel) ⟨rfl, rfl, rfl, rfl, rfl, by decide +kernel⟩ ?hw ?hc
  case hw => w_witness2
  case hc => exact GB.hwalk
