import PyProof.Rows.All
import PySem.Challenge.RW_retrace_k14_whole_however_deep
import Wide.All
import OpenK.AllK
import Wide.FinOn
import HandS.Words
import HandS.Defaults
import HandS.HeadHook4
import HandS.ForMost
import HandS.Exc
import HandS.ExcOwn
import HandS.ExcCtx
import HandS.ExcIs
import HandS.IsInst
import HandS.Style
import HandS.Zip
import HandS.Strs
import HandS.WordsExc
import HandS.ClsMeth
import KE.KStateDown
import Lean
import HandS.Head0
import HandS.Head1
import HandS.Head2
import HandS.HeadEnd
import HandS.HeadHook1
import HandS.HeadHook2
import HandS.HeadHook3
import HandS.RaiseMore
import KE.KDictLaws
import KE.GoesZip
import KE.GoesMore
import HandS.ReplaceLit
import HandS.HotCalls
import HandS.SetFor
import HandS.ReplaceList
section S_RtText
set_option Elab.async false
set_option linter.all false
set_option maxRecDepth 100000
/-! The text by places: each def of the program and of the law. Printed by gen_head.py. -/
namespace Rt
open PySem L2
abbrev prg : Program := PySem.Challenge.pw_retrace_k14_whole_however_deep
def top (i : Nat) : Stmt := prg.main.body.getD i (.Pass ⟨0, 0, 0, 0⟩)
abbrev S_rows_within : Stmt := top 12
abbrev S_put_rows : Stmt := top 13
abbrev S_rows_of : Stmt := top 14
abbrev S_is_name : Stmt := top 20
abbrev S_is_number : Stmt := top 21
abbrev S_is_one_of : Stmt := top 22
abbrev S_values_in : Stmt := top 23
abbrev S_is_plain : Stmt := top 24
abbrev S_is_within : Stmt := top 25
abbrev S_is_value : Stmt := top 26
abbrev S_Scope_init : Stmt := inClass (top 35) 0
abbrev S_Part_fits : Stmt := inClass (top 36) 0
abbrev S_BoxPart_fits : Stmt := inClass (top 37) 0
abbrev S_ListPart_fits : Stmt := inClass (top 38) 0
abbrev S_DoorPart_fits : Stmt := inClass (top 39) 0
abbrev S_FunctionPart_fits : Stmt := inClass (top 40) 0
abbrev S_ValuePart_fits : Stmt := inClass (top 41) 0
abbrev S_ValuesPart_fits : Stmt := inClass (top 42) 0
abbrev S_RowsPart_fits : Stmt := inClass (top 43) 0
abbrev S_parts_of : Stmt := top 44
abbrev S_is_row : Stmt := top 45
abbrev S_are_unlike : Stmt := top 46
abbrev S_is_tuple : Stmt := top 47
abbrev S_is_pair : Stmt := top 48
abbrev S_are_numbers : Stmt := top 49
abbrev S_are_names : Stmt := top 50
abbrev S_are_stores : Stmt := top 51
abbrev S_is_function : Stmt := top 52
abbrev S_are_functions : Stmt := top 53
abbrev S_need_rows : Stmt := top 54
abbrev S_program_of : Stmt := top 55
abbrev S_number_of : Stmt := top 59
abbrev S_Words_init : Stmt := inClass (top 60) 0
abbrev S_Words_left : Stmt := inClass (top 60) 1
abbrev S_Words_next_word : Stmt := inClass (top 60) 2
abbrev S_Words_need_end : Stmt := inClass (top 60) 3
abbrev S_begun_value : Stmt := top 61
abbrev S_next_value : Stmt := top 62
abbrev S_plain_row : Stmt := top 63
abbrev S_Block_init : Stmt := inClass (top 64) 0
abbrev S_Block_turned : Stmt := inClass (top 64) 1
abbrev S_Block_closed_row : Stmt := inClass (top 64) 2
abbrev S_Block_head : Stmt := inClass (top 64) 3
abbrev S_IfBlock_init : Stmt := inClass (top 65) 0
abbrev S_IfBlock_turned : Stmt := inClass (top 65) 1
abbrev S_IfBlock_closed_row : Stmt := inClass (top 65) 2
abbrev S_WhileBlock_init : Stmt := inClass (top 66) 0
abbrev S_WhileBlock_closed_row : Stmt := inClass (top 66) 1
abbrev S_TryBlock_init : Stmt := inClass (top 67) 0
abbrev S_TryBlock_turned : Stmt := inClass (top 67) 1
abbrev S_TryBlock_closed_row : Stmt := inClass (top 67) 2
abbrev S_Lines_init : Stmt := inClass (top 68) 0
abbrev S_Lines_next_head : Stmt := inClass (top 68) 1
abbrev S_Lines_next_line : Stmt := inClass (top 68) 2
abbrev S_begun_block : Stmt := top 69
abbrev S_read_rows : Stmt := top 70
abbrev S_read_stores : Stmt := top 71
abbrev S_read_function : Stmt := top 72
abbrev S_read : Stmt := top 73
abbrev S_value_words : Stmt := top 75
abbrev S_value_text : Stmt := top 76
abbrev S_row_text : Stmt := top 77
abbrev S_lines_of : Stmt := top 78
abbrev S_function_lines : Stmt := top 79
abbrev S_written : Stmt := top 80
abbrev S_law_cell_at : Stmt := top 82
abbrev S_law_state : Stmt := top 83
abbrev S_law_next : Stmt := top 84
abbrev S_law_class : Stmt := top 85
abbrev S_law_value : Stmt := top 86
abbrev S_law_lines : Stmt := top 87
abbrev S_law_wrong : Stmt := top 88
abbrev S_law_read : Stmt := top 89
abbrev S_law : Stmt := top 90
/-! data for the head -/
def D_rows_within : He.DefD := ⟨("rows_within", none), "rows_within", "rows_within", defArgs S_rows_within, defBody S_rows_within, defScope S_rows_within, [], []⟩
def D_put_rows : He.DefD := ⟨("put_rows", none), "put_rows", "put_rows", defArgs S_put_rows, defBody S_put_rows, defScope S_put_rows, [], []⟩
def D_rows_of : He.DefD := ⟨("rows_of", none), "rows_of", "rows_of", defArgs S_rows_of, defBody S_rows_of, defScope S_rows_of, [], []⟩
def D_is_name : He.DefD := ⟨("is_name", none), "is_name", "is_name", defArgs S_is_name, defBody S_is_name, defScope S_is_name, [], []⟩
def D_is_number : He.DefD := ⟨("is_number", none), "is_number", "is_number", defArgs S_is_number, defBody S_is_number, defScope S_is_number, [], []⟩
def D_is_one_of : He.DefD := ⟨("is_one_of", none), "is_one_of", "is_one_of", defArgs S_is_one_of, defBody S_is_one_of, defScope S_is_one_of, [], []⟩
def D_values_in : He.DefD := ⟨("values_in", none), "values_in", "values_in", defArgs S_values_in, defBody S_values_in, defScope S_values_in, [], []⟩
def D_is_plain : He.DefD := ⟨("is_plain", none), "is_plain", "is_plain", defArgs S_is_plain, defBody S_is_plain, defScope S_is_plain, [], []⟩
def D_is_within : He.DefD := ⟨("is_within", none), "is_within", "is_within", defArgs S_is_within, defBody S_is_within, defScope S_is_within, [], []⟩
def D_is_value : He.DefD := ⟨("is_value", none), "is_value", "is_value", defArgs S_is_value, defBody S_is_value, defScope S_is_value, [], []⟩
def D_Scope_init : He.DefD := ⟨("Scope", some "__init__"), "__init__", "Scope.__init__", defArgs S_Scope_init, defBody S_Scope_init, defScope S_Scope_init, [], []⟩
def D_Part_fits : He.DefD := ⟨("Part", some "fits"), "fits", "Part.fits", defArgs S_Part_fits, defBody S_Part_fits, defScope S_Part_fits, [], []⟩
def D_BoxPart_fits : He.DefD := ⟨("BoxPart", some "fits"), "fits", "BoxPart.fits", defArgs S_BoxPart_fits, defBody S_BoxPart_fits, defScope S_BoxPart_fits, [], []⟩
def D_ListPart_fits : He.DefD := ⟨("ListPart", some "fits"), "fits", "ListPart.fits", defArgs S_ListPart_fits, defBody S_ListPart_fits, defScope S_ListPart_fits, [], []⟩
def D_DoorPart_fits : He.DefD := ⟨("DoorPart", some "fits"), "fits", "DoorPart.fits", defArgs S_DoorPart_fits, defBody S_DoorPart_fits, defScope S_DoorPart_fits, [], []⟩
def D_FunctionPart_fits : He.DefD := ⟨("FunctionPart", some "fits"), "fits", "FunctionPart.fits", defArgs S_FunctionPart_fits, defBody S_FunctionPart_fits, defScope S_FunctionPart_fits, [], []⟩
def D_ValuePart_fits : He.DefD := ⟨("ValuePart", some "fits"), "fits", "ValuePart.fits", defArgs S_ValuePart_fits, defBody S_ValuePart_fits, defScope S_ValuePart_fits, [], []⟩
def D_ValuesPart_fits : He.DefD := ⟨("ValuesPart", some "fits"), "fits", "ValuesPart.fits", defArgs S_ValuesPart_fits, defBody S_ValuesPart_fits, defScope S_ValuesPart_fits, [], []⟩
def D_RowsPart_fits : He.DefD := ⟨("RowsPart", some "fits"), "fits", "RowsPart.fits", defArgs S_RowsPart_fits, defBody S_RowsPart_fits, defScope S_RowsPart_fits, [], []⟩
def D_parts_of : He.DefD := ⟨("parts_of", none), "parts_of", "parts_of", defArgs S_parts_of, defBody S_parts_of, defScope S_parts_of, [], []⟩
def D_is_row : He.DefD := ⟨("is_row", none), "is_row", "is_row", defArgs S_is_row, defBody S_is_row, defScope S_is_row, [], []⟩
def D_are_unlike : He.DefD := ⟨("are_unlike", none), "are_unlike", "are_unlike", defArgs S_are_unlike, defBody S_are_unlike, defScope S_are_unlike, [], []⟩
def D_is_tuple : He.DefD := ⟨("is_tuple", none), "is_tuple", "is_tuple", defArgs S_is_tuple, defBody S_is_tuple, defScope S_is_tuple, [], []⟩
def D_is_pair : He.DefD := ⟨("is_pair", none), "is_pair", "is_pair", defArgs S_is_pair, defBody S_is_pair, defScope S_is_pair, [], []⟩
def D_are_numbers : He.DefD := ⟨("are_numbers", none), "are_numbers", "are_numbers", defArgs S_are_numbers, defBody S_are_numbers, defScope S_are_numbers, [], []⟩
def D_are_names : He.DefD := ⟨("are_names", none), "are_names", "are_names", defArgs S_are_names, defBody S_are_names, defScope S_are_names, [], []⟩
def D_are_stores : He.DefD := ⟨("are_stores", none), "are_stores", "are_stores", defArgs S_are_stores, defBody S_are_stores, defScope S_are_stores, [], []⟩
def D_is_function : He.DefD := ⟨("is_function", none), "is_function", "is_function", defArgs S_is_function, defBody S_is_function, defScope S_is_function, [], []⟩
def D_are_functions : He.DefD := ⟨("are_functions", none), "are_functions", "are_functions", defArgs S_are_functions, defBody S_are_functions, defScope S_are_functions, [], []⟩
def D_need_rows : He.DefD := ⟨("need_rows", none), "need_rows", "need_rows", defArgs S_need_rows, defBody S_need_rows, defScope S_need_rows, [], []⟩
def D_program_of : He.DefD := ⟨("program_of", none), "program_of", "program_of", defArgs S_program_of, defBody S_program_of, defScope S_program_of, [], []⟩
def D_number_of : He.DefD := ⟨("number_of", none), "number_of", "number_of", defArgs S_number_of, defBody S_number_of, defScope S_number_of, [], []⟩
def D_Words_init : He.DefD := ⟨("Words", some "__init__"), "__init__", "Words.__init__", defArgs S_Words_init, defBody S_Words_init, defScope S_Words_init, [], []⟩
def D_Words_left : He.DefD := ⟨("Words", some "left"), "left", "Words.left", defArgs S_Words_left, defBody S_Words_left, defScope S_Words_left, [], []⟩
def D_Words_next_word : He.DefD := ⟨("Words", some "next_word"), "next_word", "Words.next_word", defArgs S_Words_next_word, defBody S_Words_next_word, defScope S_Words_next_word, [], []⟩
def D_Words_need_end : He.DefD := ⟨("Words", some "need_end"), "need_end", "Words.need_end", defArgs S_Words_need_end, defBody S_Words_need_end, defScope S_Words_need_end, [], []⟩
def D_begun_value : He.DefD := ⟨("begun_value", none), "begun_value", "begun_value", defArgs S_begun_value, defBody S_begun_value, defScope S_begun_value, [], []⟩
def D_next_value : He.DefD := ⟨("next_value", none), "next_value", "next_value", defArgs S_next_value, defBody S_next_value, defScope S_next_value, [], []⟩
def D_plain_row : He.DefD := ⟨("plain_row", none), "plain_row", "plain_row", defArgs S_plain_row, defBody S_plain_row, defScope S_plain_row, [], []⟩
def D_Block_init : He.DefD := ⟨("Block", some "__init__"), "__init__", "Block.__init__", defArgs S_Block_init, defBody S_Block_init, defScope S_Block_init, [], []⟩
def D_Block_turned : He.DefD := ⟨("Block", some "turned"), "turned", "Block.turned", defArgs S_Block_turned, defBody S_Block_turned, defScope S_Block_turned, [], []⟩
def D_Block_closed_row : He.DefD := ⟨("Block", some "closed_row"), "closed_row", "Block.closed_row", defArgs S_Block_closed_row, defBody S_Block_closed_row, defScope S_Block_closed_row, [], []⟩
def D_Block_head : He.DefD := ⟨("Block", some "head"), "head", "Block.head", defArgs S_Block_head, defBody S_Block_head, defScope S_Block_head, [], []⟩
def D_IfBlock_init : He.DefD := ⟨("IfBlock", some "__init__"), "__init__", "IfBlock.__init__", defArgs S_IfBlock_init, defBody S_IfBlock_init, defScope S_IfBlock_init, [], []⟩
def D_IfBlock_turned : He.DefD := ⟨("IfBlock", some "turned"), "turned", "IfBlock.turned", defArgs S_IfBlock_turned, defBody S_IfBlock_turned, defScope S_IfBlock_turned, [], []⟩
def D_IfBlock_closed_row : He.DefD := ⟨("IfBlock", some "closed_row"), "closed_row", "IfBlock.closed_row", defArgs S_IfBlock_closed_row, defBody S_IfBlock_closed_row, defScope S_IfBlock_closed_row, [], []⟩
def D_WhileBlock_init : He.DefD := ⟨("WhileBlock", some "__init__"), "__init__", "WhileBlock.__init__", defArgs S_WhileBlock_init, defBody S_WhileBlock_init, defScope S_WhileBlock_init, [], []⟩
def D_WhileBlock_closed_row : He.DefD := ⟨("WhileBlock", some "closed_row"), "closed_row", "WhileBlock.closed_row", defArgs S_WhileBlock_closed_row, defBody S_WhileBlock_closed_row, defScope S_WhileBlock_closed_row, [], []⟩
def D_TryBlock_init : He.DefD := ⟨("TryBlock", some "__init__"), "__init__", "TryBlock.__init__", defArgs S_TryBlock_init, defBody S_TryBlock_init, defScope S_TryBlock_init, [], []⟩
def D_TryBlock_turned : He.DefD := ⟨("TryBlock", some "turned"), "turned", "TryBlock.turned", defArgs S_TryBlock_turned, defBody S_TryBlock_turned, defScope S_TryBlock_turned, [], []⟩
def D_TryBlock_closed_row : He.DefD := ⟨("TryBlock", some "closed_row"), "closed_row", "TryBlock.closed_row", defArgs S_TryBlock_closed_row, defBody S_TryBlock_closed_row, defScope S_TryBlock_closed_row, [], []⟩
def D_Lines_init : He.DefD := ⟨("Lines", some "__init__"), "__init__", "Lines.__init__", defArgs S_Lines_init, defBody S_Lines_init, defScope S_Lines_init, [], []⟩
def D_Lines_next_head : He.DefD := ⟨("Lines", some "next_head"), "next_head", "Lines.next_head", defArgs S_Lines_next_head, defBody S_Lines_next_head, defScope S_Lines_next_head, [], []⟩
def D_Lines_next_line : He.DefD := ⟨("Lines", some "next_line"), "next_line", "Lines.next_line", defArgs S_Lines_next_line, defBody S_Lines_next_line, defScope S_Lines_next_line, [], []⟩
def D_begun_block : He.DefD := ⟨("begun_block", none), "begun_block", "begun_block", defArgs S_begun_block, defBody S_begun_block, defScope S_begun_block, [], []⟩
def D_read_rows : He.DefD := ⟨("read_rows", none), "read_rows", "read_rows", defArgs S_read_rows, defBody S_read_rows, defScope S_read_rows, [], []⟩
def D_read_stores : He.DefD := ⟨("read_stores", none), "read_stores", "read_stores", defArgs S_read_stores, defBody S_read_stores, defScope S_read_stores, [], []⟩
def D_read_function : He.DefD := ⟨("read_function", none), "read_function", "read_function", defArgs S_read_function, defBody S_read_function, defScope S_read_function, [], []⟩
def D_read : He.DefD := ⟨("read", none), "read", "read", defArgs S_read, defBody S_read, defScope S_read, [], []⟩
def D_value_words : He.DefD := ⟨("value_words", none), "value_words", "value_words", defArgs S_value_words, defBody S_value_words, defScope S_value_words, [], []⟩
def D_value_text : He.DefD := ⟨("value_text", none), "value_text", "value_text", defArgs S_value_text, defBody S_value_text, defScope S_value_text, [], []⟩
def D_row_text : He.DefD := ⟨("row_text", none), "row_text", "row_text", defArgs S_row_text, defBody S_row_text, defScope S_row_text, [], []⟩
def D_lines_of : He.DefD := ⟨("lines_of", none), "lines_of", "lines_of", defArgs S_lines_of, defBody S_lines_of, defScope S_lines_of, [], []⟩
def D_function_lines : He.DefD := ⟨("function_lines", none), "function_lines", "function_lines", defArgs S_function_lines, defBody S_function_lines, defScope S_function_lines, [], []⟩
def D_written : He.DefD := ⟨("written", none), "written", "written", defArgs S_written, defBody S_written, defScope S_written, [], []⟩
def D_law_cell_at : He.DefD := ⟨("_law_cell_at", none), "_law_cell_at", "_law_cell_at", defArgs S_law_cell_at, defBody S_law_cell_at, defScope S_law_cell_at, [], []⟩
def D_law_state : He.DefD := ⟨("_law_state", none), "_law_state", "_law_state", defArgs S_law_state, defBody S_law_state, defScope S_law_state, [], []⟩
def D_law_next : He.DefD := ⟨("_law_next", none), "_law_next", "_law_next", defArgs S_law_next, defBody S_law_next, defScope S_law_next, [], []⟩
def D_law_class : He.DefD := ⟨("_law_class", none), "_law_class", "_law_class", defArgs S_law_class, defBody S_law_class, defScope S_law_class, [], []⟩
def D_law_value : He.DefD := ⟨("_law_value", none), "_law_value", "_law_value", defArgs S_law_value, defBody S_law_value, defScope S_law_value, [], []⟩
def D_law_lines : He.DefD := ⟨("_law_lines", none), "_law_lines", "_law_lines", defArgs S_law_lines, defBody S_law_lines, defScope S_law_lines, [], []⟩
def D_law_wrong : He.DefD := ⟨("_law_wrong", none), "_law_wrong", "_law_wrong", defArgs S_law_wrong, defBody S_law_wrong, defScope S_law_wrong, [], []⟩
def D_law_read : He.DefD := ⟨("_law_read", none), "_law_read", "_law_read", defArgs S_law_read, defBody S_law_read, defScope S_law_read, [], []⟩
def D_law : He.DefD := ⟨("law", none), "law", "law", defArgs S_law, defBody S_law, defScope S_law, [], []⟩
end Rt
end S_RtText

section S_RtBase
set_option Elab.async false
set_option linter.all false
set_option maxRecDepth 100000
set_option maxHeartbeats 2000000
/-! Rules of our own, the data, and how the heap bears it. -/
namespace Rt
open PySem PySem.Spec PyProof.Rows L2

/-! ### functions by their addresses -/
noncomputable def fdOf (K : PySem.W.Frag) (f : Addr) : FuncData := match K.lookup f with
  | some ⟨_, _, .func fd, _⟩ => fd
  | _ => Classical.choice ⟨PySem.W.fnOf "" "" (defArgs (.Pass ⟨0, 0, 0, 0⟩)) [] (defScope (.Pass ⟨0, 0, 0, 0⟩)) .none .none .none .none none .none .none⟩
theorem fun_of {K : PySem.W.Frag} {x qual : Str} {st : Stmt} {f : Addr} {fd : FuncData} (F : FunD K x qual (defArgs st) (defBody st) (defScope st) [] [] f fd) : Fun K x qual st f (fdOf K f) := by
  obtain ⟨⟨oc, od, dV, kV, doc, pm, an, cdv, ct, osl, e, lk, hc, hd, hk⟩, kp⟩ := F
  have e1 : fdOf K f = fd := by
    unfold fdOf
    rw [lk]
  rcases hd with ⟨h1, h2⟩ | ⟨h1, _⟩
  · subst h2
    rw [e1]
    exact ⟨⟨oc, od, kV, doc, pm, an, cdv, ct, osl, e, lk, hc⟩, kp⟩
  · exact absurd rfl h1

/-! ### what leaves a def -/
abbrev CXN (P : Program) (w : World) : CXT := L2N.CX P w
section
variable {P : Program} {w : World} {K : PySem.W.Frag} {mg : Str → Option Value} {base : Heap} {N : List Str} {qual : Str} {scope : Scope} {f : Addr} {cd : Value} {A : Around} {outer : List Env} {s : Shared} {H : Hp} {E : XK}
theorem takesE : L2N.Takes (cxOf (CXN P w) P w K mg base N qual scope f cd A outer s H E) (fun cls d _ H' => E cls d H') := L2N.takes_of rfl rfl rfl rfl
/-- a callee's exception is handed on as it comes -/
theorem passE : Passes (CXN P w) (cxOf (CXN P w) P w K mg base N qual scope f cd A outer s H E) E := L2N.passes_call takesE fun _ _ _ _ h => h
end
/-- a def that may raise, called where it does not -/
theorem passN {X : Cx} : Passes (CXN X.prog X.w) X E0 := fun _ _ _ _ _ _ _ h => by
  obtain ⟨_, _, _, _, _, _, _, _, _, _, _, _, z⟩ := h
  exact z.elim
section
variable {P : Program} {w : World} {K : PySem.W.Frag} {mg : Str → Option Value} {base : Heap}
theorem okX {x qual : Str} {st : Stmt} {f : Addr} {fd : FuncData} {N ps : List Str} {k : Nat} {sp : Sp} (F : Fun K x qual st f fd) (S : FnScope N ps (defScope st)) (len : ∀ vs H Q E, sp vs H Q E → vs.length = ps.length)
    (hbody : ∀ (cdv : Value) (A : Around) (outer : List Env) (s : Shared) (H : Hp) (vs : List V) (Q : VK) (E : XK), Room k (A.deeper (envOfC qual (defScope st) s.heap.objs.size f cdv)) → sp vs H Q E →
      ∃ t, PSs (cxOf (CXN P w) P w K mg base N qual (defScope st) f cdv A outer s H E) (defBody st) t ∧ t { nx := fun _ H' => Q .non H', rt := Q } (start N vs) H) : FnOk P w K mg base (CXN P w) (k + 1) f fd ps sp := by
  obtain ⟨oc, od, kV, doc, pm, an, cdv, ct, osl, rfl, lk, hcd⟩ := F.ex
  exact fn_of lk hcd S len fun A outer s H vs Q E hr hsp => hbody _ A outer s H vs Q E hr hsp
end

/-- what the top tells of an exception's class -/
structure ExK (K : PySem.W.Frag) (C : Addr) : Prop where
  ex : PySem.W.excIn K C He.veBase "ValueError.__new__" = true
  kp : PySem.W.keepIn K (.ref C) = true
  sb : PySem.W.subIn K (.ref C) (.type "BaseException") = some true
  ty : PySem.W.typeIn K (.ref C) = some (.type "type")
/-- raise X('..') -/
def tRaise (C : Addr) (E : XK) : TS := fun _ _ H => E (.ref C) none H
theorem ps_raiseK {X : Cx} {E : XK} {C : Addr} {x m : Str} {j : Nat} {p p2 pos pos2 : Pos} (hc : X.calm = true) (tk : L2N.Takes X (fun cls d _ H => E cls d H)) (T : ExK X.K C) (gC : X.mg x = some (.ref C)) (hg : Gl X x)
    (hdb : (x == ("__debug__" : Str)) = false := by decide) : PS X (.Raise (some (.Call (.Name x p) [.Constant (.str m) j p2] [] pos)) none pos2) (tRaise C E) :=
  L2N.ps_raise hc tk (L2N.pmk_own PySem.F.excBase_ValueError T.ex gC T.kp (raises_own T.sb T.ty) hg hdb)

/-! ### what is never reached -/
theorem pe_never {X : Cx} {e : Expr} : PE X e (fun _ _ _ => False) := ⟨fun _ _ _ _ _ _ h => h.elim⟩
theorem pt_never {X : Cx} {e : Expr} : PT X e (fun _ _ _ => False) := ⟨fun _ _ _ _ _ _ h => h.elim⟩

/-! ### o.m(..) where o's class is not fixed -/
/-- one method: the class of what it is asked of, its def, what it promises -/
structure MthV (X : Cx) (C : Addr) (m : Str) (sp : Sp) (E : XK) : Prop where
  ex : ∃ (CX : CXT) (k : Nat) (f : Addr) (fd : FuncData) (ps : List Str), Cls X.K C ∧ Meth X.K C m f ∧ FnOk X.prog X.w X.K X.mg X.base CX k f fd ps sp ∧ Room k X.A ∧ Binds X.K fd ps [] ∧ Passes CX X E
def tMethV (X : Cx) (m : Str) (E : XK) (ta : TE) (t : TA) : TE := fun σ H Q => ta σ H fun x H1 => ∃ a C dx fs sp, x = .ref a ∧ H1 a = some (.ins C dx fs) ∧ fs.lookup m = none ∧ MthV X C m sp E ∧ t σ H1 fun vs H2 => sp (x :: vs) H2 Q E
section
variable {X : Cx} {E : XK} {m : Str} {pos apos : Pos} {e o : Expr} {es : List Expr} {ta : TE} {t : TA}
theorem pe_methV {pl : Sem Bool} (he : PE X o ta) (ha : PA X (e :: es) t)
    (hst : starEach (e :: es) X.env = (false, eval e X.env) :: starEach es X.env := by rfl) (hpl : (backTo pos (starEach es X.env)).any (·.1) = false := by rfl)
    (ht : eval (.Call (.Attribute o m apos) (e :: es) [] pos) X.env = (do
      let ov ← eval o X.env
      standAt apos.atName
      let (g, first) ← holding [ov] (getMethod ov m pl)
      callWith pos g first (backTo pos (starEach (e :: es) X.env)) (backToKw pos (keywordEach [] X.env))) := by rfl) :
    PE X (.Call (.Attribute o m apos) (e :: es) [] pos) (tMethV X m E ta t) := by
  constructor
  intro pins s σ H Q I h
  refine PySem.W.methodCall_KW (pl := pl) (thn (he.run pins s σ H _ I h) ?_) ht
  rintro u s1 ⟨x, H1, I1, rx, a, C, dx, fs, sp, rfl, ea, l, ⟨CX, k, f, fd, ps, c, hm, F, hr, hb, hx⟩, q⟩
  obtain rfl : u = Value.ref a := rx
  refine getmeth_ok I1 ea c hm l ?_
  refine PySem.W.callWith_K (first := [.ref a]) (h₀ := X.base) I.ok.mod.kin hm.kp (thn (ha.run pos pins s1 σ H1 _ I1 q) ?_) hst hpl
  rintro us s2 ⟨vs, H2, I2, r, q2⟩
  exact ⟨I2.kIn, run_fn (us := .ref a :: us) (vs := .ref a :: vs) F hr hb .nil hx I2 (.cons rfl r) (by rw [List.append_nil]; exact q2)⟩
theorem pe_methV0 {pl : Sem Bool} (he : PE X o ta)
    (ht : eval (.Call (.Attribute o m apos) [] [] pos) X.env = (do
      let ov ← eval o X.env
      standAt apos.atName
      let (g, first) ← holding [ov] (getMethod ov m pl)
      callWith pos g first (backTo pos (starEach [] X.env)) (backToKw pos (keywordEach [] X.env))) := by rfl) :
    PE X (.Call (.Attribute o m apos) [] [] pos) (tMethV X m E ta tNil) := by
  constructor
  intro pins s σ H Q I h
  refine PySem.W.methodCall_KW (pl := pl) (thn (he.run pins s σ H _ I h) ?_) ht
  rintro u s1 ⟨x, H1, I1, rx, a, C, dx, fs, sp, rfl, ea, l, ⟨CX, k, f, fd, ps, c, hm, F, hr, hb, hx⟩, q⟩
  obtain rfl : u = Value.ref a := rx
  refine getmeth_ok I1 ea c hm l ?_
  exact PySem.W.callWith_K0 (first := [.ref a]) I1.kIn hm.kp (run_fn (us := [.ref a]) (vs := [.ref a]) F hr hb .nil hx I1 (.cons rfl .nil) q)
end

/-! ### C.m(..), C a class of one's own, m a def of it -/
structure ClsFn (K : PySem.W.Frag) (C : Addr) (m : Str) (f : Addr) : Prop where
  rd : PySem.W.readsIn K C (.type "type") = true
  ga : PySem.W.specialIn K (.ref C) "__getattribute__" = some (some (.builtin "type.__getattribute__"))
  at_ : PySem.W.findCls K (.ref C) (.type "type") m = some (.val (.ref f))
  kp : PySem.W.keepIn K (.ref f) = true
section
variable {X : Cx} {CX : CXT} {k : Nat} {f C : Addr} {fd : FuncData} {ps : List Str} {sp : Sp} {E : XK} {m : Str} {pos apos : Pos} {e o : Expr} {es : List Expr} {ta : TE} {t : TA}
def tClsM (C : Addr) (sp : Sp) (E : XK) (ta : TE) (t : TA) : TE := fun σ H Q => ta σ H fun x H1 => x = .ref C ∧ t σ H1 fun vs H2 => sp vs H2 Q E
theorem pe_clsM {pl : Sem Bool} (he : PE X o ta) (c : ClsFn X.K C m f) (F : FnOk X.prog X.w X.K X.mg X.base CX k f fd ps sp) (hr : Room k X.A) (hb : Binds X.K fd ps []) (hx : Passes CX X E) (ha : PA X (e :: es) t)
    (hst : starEach (e :: es) X.env = (false, eval e X.env) :: starEach es X.env := by rfl) (hpl : (backTo pos (starEach es X.env)).any (·.1) = false := by rfl)
    (ht : eval (.Call (.Attribute o m apos) (e :: es) [] pos) X.env = (do
      let ov ← eval o X.env
      standAt apos.atName
      let (g, first) ← holding [ov] (getMethod ov m pl)
      callWith pos g first (backTo pos (starEach (e :: es) X.env)) (backToKw pos (keywordEach [] X.env))) := by rfl) :
    PE X (.Call (.Attribute o m apos) (e :: es) [] pos) (tClsM C sp E ta t) := by
  constructor
  intro pins s σ H Q I h
  refine PySem.W.methodCall_KW (pl := pl) (thn (he.run pins s σ H _ I h) ?_) ht
  rintro u s1 ⟨x, H1, I1, rx, rfl, q⟩
  obtain rfl : u = Value.ref C := rx
  refine PySem.W.method_cls I1.kIn c.ga (PySem.W.cls_value I1.kIn c.rd c.at_ rfl ?_)
  have I2 := I1.tok (s1.toks + 1)
  refine PySem.W.callWith_K (first := []) (h₀ := X.base) I.ok.mod.kin c.kp (thn (ha.run pos pins _ σ H1 _ I2 q) ?_) hst hpl
  rintro us s2 ⟨vs, H2, I3, r, q2⟩
  exact ⟨I3.kIn, run_fn (us := us) (vs := vs) F hr hb .nil hx I3 r (by rw [List.append_nil]; exact q2)⟩
end

/-! ### C(), C without a first method of its own -/
structure MkP0 (K : PySem.W.Frag) (C : Addr) : Prop where
  mks : PySem.W.makesIn K C = true
  ini : PySem.W.findIn K (.ref C) "__init__" = some (some (.builtin "object.__init__"))
  kp : PySem.W.keepIn K (.ref C) = true
/-- C(): an instance without attributes -/
def tMk0 (C : Addr) : TE := fun _ H Q => ∀ x dx, H x = none → H dx = none → dx ≠ x → Q (.ref x) (upd (upd H dx (.own x)) x (.ins C dx []))
open PySem.W in
theorem run_mk0 {X : Cx} {C : Addr} {pins : List (Addr × Obj)} {σ : L2.St} {H : Hp} {s : Shared} {Q : VK} (M : MkP0 X.K C) (I : Inv X pins σ H s)
    (h : ∀ x dx, H x = none → H dx = none → dx ≠ x → Q (.ref x) (upd (upd H dx (.own x)) x (.ins C dx []))) : wpAny (model X.prog X.w) X.A (call (.ref C) []) (EP X pins σ Q) X.xe s := by
  have hq := h (s.heap.objs.size + 1) s.heap.objs.size (I.hok.fresh (Nat.le_succ _)) (I.hok.fresh (Nat.le_refl _)) (Nat.ne_of_lt (Nat.lt_succ_self _))
  have I2 := Inv.made (C := C) I
  have Y := makes_of (M := model X.prog X.w) I.kIn M.mks
  refine wpAny_call (make_map0 I.kIn M.mks M.ini (fun self => Looks.of_pure (oi_bind self)) ?_)
  have here : ((s.heap.push emptyDict).push (instObj C s.heap.objs.size)).get? (s.heap.objs.size + 1) = some (instObj C s.heap.objs.size) := by
    have z := Heap.get?_push_size (s.heap.push emptyDict) (o := instObj C s.heap.objs.size) rfl
    rw [Heap.size_push] at z
    exact z
  have look1 : Looks (model X.prog X.w) ((s.heap.push emptyDict).push (instObj C s.heap.objs.size)) (typeOf (.ref (s.heap.objs.size + 1))) (.ref C) := (Looks.ld here).andThen .now
  have look2 : Looks (model X.prog X.w) ((s.heap.push emptyDict).push (instObj C s.heap.objs.size)) (isInstance (.ref (s.heap.objs.size + 1)) (.type "object")) true :=
    look1.andThen (Y.top.keeps fun b o e => Heap.get?_push_of_some _ (Heap.get?_push_of_some _ e))
  refine codeAny_call_builtin oi_plain entry_oi (@check_slot (model X.prog X.w) _ _ _ "object.__init__" "object" "__init__" (.ref (s.heap.objs.size + 1)) [] [] _ oi_kind oi_split look2 (oi_args (.ref (s.heap.objs.size + 1))) ?_)
  rw [oi_run]
  exact wpAny_pure ⟨rfl, V.ref (s.heap.objs.size + 1), _, I2, rfl, hq⟩
theorem pe_mk0 {X : Cx} {C : Addr} {x : Str} {p pos : Pos} (M : MkP0 X.K C) (hm : X.mg x = some (.ref C)) (hg : Gl X x) (hdb : (x == ("__debug__" : Str)) = false := by decide) : PE X (.Call (.Name x p) [] [] pos) (tMk0 C) := by
  constructor
  intro pins s σ H Q I h
  refine wpAny_Call_Name_kw (ld_glob I hg hm ?_ hdb)
  exact PySem.W.callWith_K0 I.kIn M.kp (run_mk0 M I h)
end Rt
end S_RtBase

section S_RtFacts
set_option Elab.async false
set_option linter.all false
set_option maxRecDepth 100000
set_option maxHeartbeats 0
/-! The head: facts by names, one kernel run of the top. Printed by gen_head2.py. -/
namespace Rt
open PySem L2
def fa : List He.Fa := [.glo "RunError",
  .glo "NoProgram",
  .glo "NoRow",
  .glo "TooLong",
  .glo "NoWorld",
  .glo "NoText",
  .glo "NoStep",
  .glo "NoCell",
  .glo "NoDoor",
  .glo "NoWord",
  .glo "rows_within",
  .glo "put_rows",
  .glo "rows_of",
  .glo "is_name",
  .glo "is_number",
  .glo "is_one_of",
  .glo "values_in",
  .glo "is_plain",
  .glo "is_within",
  .glo "is_value",
  .glo "Scope",
  .glo "Part",
  .glo "BoxPart",
  .glo "ListPart",
  .glo "DoorPart",
  .glo "FunctionPart",
  .glo "ValuePart",
  .glo "ValuesPart",
  .glo "RowsPart",
  .glo "parts_of",
  .glo "is_row",
  .glo "are_unlike",
  .glo "is_tuple",
  .glo "is_pair",
  .glo "are_numbers",
  .glo "are_names",
  .glo "are_stores",
  .glo "is_function",
  .glo "are_functions",
  .glo "need_rows",
  .glo "program_of",
  .glo "number_of",
  .glo "Words",
  .glo "begun_value",
  .glo "next_value",
  .glo "plain_row",
  .glo "Block",
  .glo "IfBlock",
  .glo "WhileBlock",
  .glo "TryBlock",
  .glo "Lines",
  .glo "begun_block",
  .glo "read_rows",
  .glo "read_stores",
  .glo "read_function",
  .glo "read",
  .glo "value_words",
  .glo "value_text",
  .glo "row_text",
  .glo "lines_of",
  .glo "function_lines",
  .glo "written",
  .glo "_law_cell_at",
  .glo "_law_state",
  .glo "_law_next",
  .glo "_law_class",
  .glo "_law_value",
  .glo "_law_lines",
  .glo "_law_wrong",
  .glo "_law_read",
  .glo "law",
  .free "isinstance",
  .free "len",
  .free "int",
  .free "bool",
  .free "str",
  .free "tuple",
  .free "list",
  .free "dict",
  .free "set",
  .free "all",
  .free "zip",
  .free "range",
  .free "min",
  .free "ValueError",
  .str "LETTERS" "abcdefghijklmnopqrstuvwxyz",
  .int "LONGEST_NAME" 6,
  .int "GREATEST" 999999,
  .int "DEEPEST_values" 4,
  .int "MOST_BOXES" 6,
  .int "MOST_LISTS" 3,
  .int "MOST_THINGS" 12,
  .int "MOST_FUNCTIONS" 4,
  .int "MOST_NAMES" 3,
  .int "DEEPEST_programs" 5,
  .int "MOST_ROWS" 60,
  .str "FIGURES" "0123456789",
  .int "MOST_FIGURES" 6,
  .cls "Scope",
  .noat "Scope" "boxes",
  .noat "Scope" "lists",
  .noat "Scope" "functions",
  .noat "Scope" "inside",
  .cls "Part",
  .cls "BoxPart",
  .meth "BoxPart" "fits",
  .cls "ListPart",
  .cls "DoorPart",
  .cls "FunctionPart",
  .cls "ValuePart",
  .meth "ValuePart" "fits",
  .cls "ValuesPart",
  .cls "RowsPart",
  .meth "RowsPart" "fits",
  .cls "Words",
  .noat "Words" "words",
  .noat "Words" "place",
  .meth "Words" "left",
  .meth "Words" "next_word",
  .meth "Words" "need_end",
  .cls "Block",
  .noat "Block" "words",
  .noat "Block" "rows",
  .noat "Block" "value",
  .noat "Block" "opened",
  .noat "Block" "catch_box",
  .meth "Block" "turned",
  .meth "Block" "closed_row",
  .meth "Block" "head",
  .cls "IfBlock",
  .noat "IfBlock" "words",
  .noat "IfBlock" "rows",
  .noat "IfBlock" "value",
  .noat "IfBlock" "opened",
  .noat "IfBlock" "catch_box",
  .meth "IfBlock" "turned",
  .meth "IfBlock" "closed_row",
  .meth "IfBlock" "head",
  .cls "WhileBlock",
  .noat "WhileBlock" "words",
  .noat "WhileBlock" "rows",
  .noat "WhileBlock" "value",
  .noat "WhileBlock" "opened",
  .noat "WhileBlock" "catch_box",
  .meth "WhileBlock" "turned",
  .meth "WhileBlock" "closed_row",
  .meth "WhileBlock" "head",
  .cls "TryBlock",
  .noat "TryBlock" "words",
  .noat "TryBlock" "rows",
  .noat "TryBlock" "value",
  .noat "TryBlock" "opened",
  .noat "TryBlock" "catch_box",
  .meth "TryBlock" "turned",
  .meth "TryBlock" "closed_row",
  .meth "TryBlock" "head",
  .cls "Lines",
  .noat "Lines" "lines",
  .noat "Lines" "place",
  .meth "Lines" "next_head",
  .meth "Lines" "next_line",
  .mkr "Scope",
  .mkr "Words",
  .mkr "Lines",
  .mkr "Block",
  .mkr "IfBlock",
  .mkr "WhileBlock",
  .mkr "TryBlock",
  .exc "NoText",
  .exm "NoText" "RunError" true,
  .exc "NoRow",
  .exm "NoRow" "RunError" true]
def fn : List He.DefD := [D_rows_within,
  D_put_rows,
  D_rows_of,
  D_is_name,
  D_is_number,
  D_is_one_of,
  D_values_in,
  D_is_plain,
  D_is_within,
  D_is_value,
  D_Scope_init,
  D_BoxPart_fits,
  D_ValuePart_fits,
  D_RowsPart_fits,
  D_parts_of,
  D_is_row,
  D_are_unlike,
  D_is_tuple,
  D_is_pair,
  D_are_numbers,
  D_are_stores,
  D_are_functions,
  D_need_rows,
  D_program_of,
  D_number_of,
  D_Words_init,
  D_Words_left,
  D_Words_next_word,
  D_Words_need_end,
  D_begun_value,
  D_next_value,
  D_plain_row,
  D_Block_init,
  D_Block_turned,
  D_Block_closed_row,
  D_Block_head,
  D_IfBlock_init,
  D_IfBlock_turned,
  D_IfBlock_closed_row,
  D_WhileBlock_init,
  D_WhileBlock_closed_row,
  D_TryBlock_init,
  D_TryBlock_turned,
  D_TryBlock_closed_row,
  D_Lines_init,
  D_Lines_next_head,
  D_Lines_next_line,
  D_begun_block,
  D_read_rows,
  D_read_stores,
  D_read,
  D_value_words,
  D_value_text,
  D_row_text,
  D_lines_of,
  D_written,
  D_law_cell_at,
  D_law_state,
  D_law_next,
  D_law_class,
  D_law_value,
  D_law_lines,
  D_law_wrong,
  D_law_read,
  D_law]
open PySem.W in
/-- a class whose instances are made by no own first method -/
def plainMk (K : Frag) (C : Addr) : Bool := makesIn K C && (decide (findIn K (.ref C) "__init__" = some (some (.builtin "object.__init__"))) && keepIn K (.ref C))
open PySem.W in
def excCB (K : Frag) (C : Addr) : Bool := decide (findIn K (.ref C) "__getattribute__" = some (some (.builtin "BaseException.__getattribute__"))) && (decide (findIn K (.ref C) "__getattr__" = some none) && (decide (subIn K (.ref C) (.type "BaseException") = some true) && (hasDictIn K C && (decide (findIn K (.ref C) "__class__" = some (some (.builtin "object.__class__"))) && (decide (specialIn K (.builtin "object.__class__") "__get__" = some (some (.builtin "getset_descriptor.__get__"))) && (decide (takesIn K (.builtin "object.__class__") = some true) && decide (mroIn K C (.type "object") = some true)))))))
open PySem.W in
def clsFnB (K : Frag) (C : Addr) (m : Str) : Bool := readsIn K C (.type "type") && (decide (specialIn K (.ref C) "__getattribute__" = some (some (.builtin "type.__getattribute__"))) && ((match findCls K (.ref C) (.type "type") m with | some (.val (.ref f)) => decide (f = He.ma K C m) | _ => false) && keepIn K (.ref (He.ma K C m))))
def kindsB (K : PySem.W.Frag) (C : Str) : Bool := [("NoProgram" : Str), ("NoRow" : Str), ("TooLong" : Str), ("NoWorld" : Str), ("NoText" : Str), ("NoStep" : Str), ("NoCell" : Str), ("NoDoor" : Str), ("NoWord" : Str)].all fun x => decide (PySem.W.kitOne K (.ref (He.ga K C)) (.ref (He.ga K x)) = some (decide (C = x)))
def ex (K : PySem.W.Frag) : Bool := [("BoxPart" : Str), ("ListPart" : Str), ("DoorPart" : Str), ("FunctionPart" : Str), ("ValuePart" : Str), ("ValuesPart" : Str), ("RowsPart" : Str)].all (fun x => plainMk K (He.ga K x)) &&
  (clsFnB K (He.ga K "Block") "__init__" && (decide (He.ma K (He.ga K "IfBlock") "head" = He.ma K (He.ga K "Block") "head") && decide (He.ma K (He.ga K "WhileBlock") "head" = He.ma K (He.ga K "Block") "head"))) &&
  (([("NoText" : Str), ("NoRow" : Str)]).all fun x : Str => excCB K (He.ga K x) && (kindsB K x && decide (PySem.W.kitOne K (.ref (He.ga K x)) (.type "ValueError") = some true)))
/-- the part of the heap that is looked at: all that the top has left -/
def part (g : Addr → Option Obj) : PySem.W.Frag := He.frG g (List.range 840)
def Says (K : PySem.W.Frag) : Prop := He.SaysD fa fn K ∧ ex K = true
def obsR (g : Addr → Option Obj) : He.AlD × Bool := (He.obsD fa fn (part g), ex (part g))

open PySem.W in
theorem mkp0_of {K : Frag} {C : Addr} (h : plainMk K C = true) : MkP0 K C := by
  simp only [plainMk, Bool.and_eq_true, decide_eq_true_eq] at h
  exact ⟨h.1, h.2.1, h.2.2⟩
open PySem.W in
theorem excC_of {K : Frag} {C : Addr} (h : excCB K C = true) : ExcC K C := by
  simp only [excCB, Bool.and_eq_true, decide_eq_true_eq] at h
  obtain ⟨h1, h2, h3, h4, h5, h6, h7, h8⟩ := h
  exact ⟨h1, h2, h3, h4, h5, h6, h7, h8⟩
def kindNames : List Str := ["NoProgram", "NoRow", "TooLong", "NoWorld", "NoText", "NoStep", "NoCell", "NoDoor", "NoWord"]
theorem kinds_of {K : PySem.W.Frag} {C : Str} (h : kindsB K C = true) : ∀ x : Str, x ∈ kindNames → PySem.W.kitOne K (.ref (He.ga K C)) (.ref (He.ga K x)) = some (decide (C = x)) := fun x hx =>
  of_decide_eq_true (List.all_eq_true.mp h x hx)
open PySem.W in
theorem clsFn_of {K : Frag} {C : Addr} {m : Str} (h : clsFnB K C m = true) : ClsFn K C m (He.ma K C m) := by
  simp only [clsFnB, Bool.and_eq_true, decide_eq_true_eq] at h
  obtain ⟨h1, h2, h3, h4⟩ := h
  refine ⟨h1, h2, ?_, h4⟩
  cases e : findCls K (.ref C) (.type "type") m with
  | none => rw [e] at h3; cases h3
  | some r =>
    rw [e] at h3
    cases r with
    | get a b c d => cases h3
    | val v =>
      cases v with
      | ref f =>
        have q : f = He.ma K C m := of_decide_eq_true h3
        rw [q]
      | _ => cases h3
theorem ex_parts {K : PySem.W.Frag} (h : ex K = true) {x : Str} (hx : x ∈ ([("BoxPart" : Str), "ListPart", "DoorPart", "FunctionPart", "ValuePart", "ValuesPart", "RowsPart"])) : plainMk K (He.ga K x) = true := by
  unfold ex at h
  simp only [Bool.and_eq_true] at h
  exact List.all_eq_true.mp h.1.1 x hx
theorem ex_mid {K : PySem.W.Frag} (h : ex K = true) : clsFnB K (He.ga K "Block") "__init__" = true ∧ He.ma K (He.ga K "IfBlock") "head" = He.ma K (He.ga K "Block") "head" ∧ He.ma K (He.ga K "WhileBlock") "head" = He.ma K (He.ga K "Block") "head" := by
  unfold ex at h
  simp only [Bool.and_eq_true, decide_eq_true_eq] at h
  exact ⟨h.1.2.1, h.1.2.2.1, h.1.2.2.2⟩
theorem ex_exc {K : PySem.W.Frag} (h : ex K = true) {x : Str} (hx : x ∈ ([("NoText" : Str), "NoRow"])) : excCB K (He.ga K x) = true ∧ kindsB K x = true ∧ PySem.W.kitOne K (.ref (He.ga K x)) (.type "ValueError") = some true := by
  unfold ex at h
  rw [Bool.and_eq_true] at h
  have z := List.all_eq_true.mp h.2 x hx
  rw [Bool.and_eq_true, Bool.and_eq_true] at z
  exact ⟨z.1, z.2.1, of_decide_eq_true z.2.2⟩
end Rt
end S_RtFacts

section S_RtTxt
set_option Elab.async false
set_option linter.all false
set_option maxRecDepth 100000
set_option maxHeartbeats 4000000
/-! What the top tells, as one structure. Printed by gen_head2.py. -/
namespace Rt
open PySem PySem.Spec PyProof.Rows L2
abbrev C_Scope (K : PySem.W.Frag) : Addr := He.ga K "Scope"
abbrev C_Part (K : PySem.W.Frag) : Addr := He.ga K "Part"
abbrev C_BoxPart (K : PySem.W.Frag) : Addr := He.ga K "BoxPart"
abbrev C_ListPart (K : PySem.W.Frag) : Addr := He.ga K "ListPart"
abbrev C_DoorPart (K : PySem.W.Frag) : Addr := He.ga K "DoorPart"
abbrev C_FunctionPart (K : PySem.W.Frag) : Addr := He.ga K "FunctionPart"
abbrev C_ValuePart (K : PySem.W.Frag) : Addr := He.ga K "ValuePart"
abbrev C_ValuesPart (K : PySem.W.Frag) : Addr := He.ga K "ValuesPart"
abbrev C_RowsPart (K : PySem.W.Frag) : Addr := He.ga K "RowsPart"
abbrev C_Words (K : PySem.W.Frag) : Addr := He.ga K "Words"
abbrev C_Block (K : PySem.W.Frag) : Addr := He.ga K "Block"
abbrev C_IfBlock (K : PySem.W.Frag) : Addr := He.ga K "IfBlock"
abbrev C_WhileBlock (K : PySem.W.Frag) : Addr := He.ga K "WhileBlock"
abbrev C_TryBlock (K : PySem.W.Frag) : Addr := He.ga K "TryBlock"
abbrev C_Lines (K : PySem.W.Frag) : Addr := He.ga K "Lines"
abbrev C_RunError (K : PySem.W.Frag) : Addr := He.ga K "RunError"
abbrev C_NoProgram (K : PySem.W.Frag) : Addr := He.ga K "NoProgram"
abbrev C_NoRow (K : PySem.W.Frag) : Addr := He.ga K "NoRow"
abbrev C_TooLong (K : PySem.W.Frag) : Addr := He.ga K "TooLong"
abbrev C_NoWorld (K : PySem.W.Frag) : Addr := He.ga K "NoWorld"
abbrev C_NoText (K : PySem.W.Frag) : Addr := He.ga K "NoText"
abbrev C_NoStep (K : PySem.W.Frag) : Addr := He.ga K "NoStep"
abbrev C_NoCell (K : PySem.W.Frag) : Addr := He.ga K "NoCell"
abbrev C_NoDoor (K : PySem.W.Frag) : Addr := He.ga K "NoDoor"
abbrev C_NoWord (K : PySem.W.Frag) : Addr := He.ga K "NoWord"
abbrev A_rows_within (K : PySem.W.Frag) : Addr := He.ga K "rows_within"
abbrev A_put_rows (K : PySem.W.Frag) : Addr := He.ga K "put_rows"
abbrev A_rows_of (K : PySem.W.Frag) : Addr := He.ga K "rows_of"
abbrev A_is_name (K : PySem.W.Frag) : Addr := He.ga K "is_name"
abbrev A_is_number (K : PySem.W.Frag) : Addr := He.ga K "is_number"
abbrev A_is_one_of (K : PySem.W.Frag) : Addr := He.ga K "is_one_of"
abbrev A_values_in (K : PySem.W.Frag) : Addr := He.ga K "values_in"
abbrev A_is_plain (K : PySem.W.Frag) : Addr := He.ga K "is_plain"
abbrev A_is_within (K : PySem.W.Frag) : Addr := He.ga K "is_within"
abbrev A_is_value (K : PySem.W.Frag) : Addr := He.ga K "is_value"
abbrev A_Scope_init (K : PySem.W.Frag) : Addr := He.ma K (He.ga K "Scope") "__init__"
abbrev A_BoxPart_fits (K : PySem.W.Frag) : Addr := He.ma K (He.ga K "BoxPart") "fits"
abbrev A_ValuePart_fits (K : PySem.W.Frag) : Addr := He.ma K (He.ga K "ValuePart") "fits"
abbrev A_RowsPart_fits (K : PySem.W.Frag) : Addr := He.ma K (He.ga K "RowsPart") "fits"
abbrev A_parts_of (K : PySem.W.Frag) : Addr := He.ga K "parts_of"
abbrev A_is_row (K : PySem.W.Frag) : Addr := He.ga K "is_row"
abbrev A_are_unlike (K : PySem.W.Frag) : Addr := He.ga K "are_unlike"
abbrev A_is_tuple (K : PySem.W.Frag) : Addr := He.ga K "is_tuple"
abbrev A_is_pair (K : PySem.W.Frag) : Addr := He.ga K "is_pair"
abbrev A_are_numbers (K : PySem.W.Frag) : Addr := He.ga K "are_numbers"
abbrev A_are_stores (K : PySem.W.Frag) : Addr := He.ga K "are_stores"
abbrev A_are_functions (K : PySem.W.Frag) : Addr := He.ga K "are_functions"
abbrev A_need_rows (K : PySem.W.Frag) : Addr := He.ga K "need_rows"
abbrev A_program_of (K : PySem.W.Frag) : Addr := He.ga K "program_of"
abbrev A_number_of (K : PySem.W.Frag) : Addr := He.ga K "number_of"
abbrev A_Words_init (K : PySem.W.Frag) : Addr := He.ma K (He.ga K "Words") "__init__"
abbrev A_Words_left (K : PySem.W.Frag) : Addr := He.ma K (He.ga K "Words") "left"
abbrev A_Words_next_word (K : PySem.W.Frag) : Addr := He.ma K (He.ga K "Words") "next_word"
abbrev A_Words_need_end (K : PySem.W.Frag) : Addr := He.ma K (He.ga K "Words") "need_end"
abbrev A_begun_value (K : PySem.W.Frag) : Addr := He.ga K "begun_value"
abbrev A_next_value (K : PySem.W.Frag) : Addr := He.ga K "next_value"
abbrev A_plain_row (K : PySem.W.Frag) : Addr := He.ga K "plain_row"
abbrev A_Block_init (K : PySem.W.Frag) : Addr := He.ma K (He.ga K "Block") "__init__"
abbrev A_Block_turned (K : PySem.W.Frag) : Addr := He.ma K (He.ga K "Block") "turned"
abbrev A_Block_closed_row (K : PySem.W.Frag) : Addr := He.ma K (He.ga K "Block") "closed_row"
abbrev A_Block_head (K : PySem.W.Frag) : Addr := He.ma K (He.ga K "Block") "head"
abbrev A_IfBlock_init (K : PySem.W.Frag) : Addr := He.ma K (He.ga K "IfBlock") "__init__"
abbrev A_IfBlock_turned (K : PySem.W.Frag) : Addr := He.ma K (He.ga K "IfBlock") "turned"
abbrev A_IfBlock_closed_row (K : PySem.W.Frag) : Addr := He.ma K (He.ga K "IfBlock") "closed_row"
abbrev A_WhileBlock_init (K : PySem.W.Frag) : Addr := He.ma K (He.ga K "WhileBlock") "__init__"
abbrev A_WhileBlock_closed_row (K : PySem.W.Frag) : Addr := He.ma K (He.ga K "WhileBlock") "closed_row"
abbrev A_TryBlock_init (K : PySem.W.Frag) : Addr := He.ma K (He.ga K "TryBlock") "__init__"
abbrev A_TryBlock_turned (K : PySem.W.Frag) : Addr := He.ma K (He.ga K "TryBlock") "turned"
abbrev A_TryBlock_closed_row (K : PySem.W.Frag) : Addr := He.ma K (He.ga K "TryBlock") "closed_row"
abbrev A_Lines_init (K : PySem.W.Frag) : Addr := He.ma K (He.ga K "Lines") "__init__"
abbrev A_Lines_next_head (K : PySem.W.Frag) : Addr := He.ma K (He.ga K "Lines") "next_head"
abbrev A_Lines_next_line (K : PySem.W.Frag) : Addr := He.ma K (He.ga K "Lines") "next_line"
abbrev A_begun_block (K : PySem.W.Frag) : Addr := He.ga K "begun_block"
abbrev A_read_rows (K : PySem.W.Frag) : Addr := He.ga K "read_rows"
abbrev A_read_stores (K : PySem.W.Frag) : Addr := He.ga K "read_stores"
abbrev A_read (K : PySem.W.Frag) : Addr := He.ga K "read"
abbrev A_value_words (K : PySem.W.Frag) : Addr := He.ga K "value_words"
abbrev A_value_text (K : PySem.W.Frag) : Addr := He.ga K "value_text"
abbrev A_row_text (K : PySem.W.Frag) : Addr := He.ga K "row_text"
abbrev A_lines_of (K : PySem.W.Frag) : Addr := He.ga K "lines_of"
abbrev A_written (K : PySem.W.Frag) : Addr := He.ga K "written"
abbrev A_law_cell_at (K : PySem.W.Frag) : Addr := He.ga K "_law_cell_at"
abbrev A_law_state (K : PySem.W.Frag) : Addr := He.ga K "_law_state"
abbrev A_law_next (K : PySem.W.Frag) : Addr := He.ga K "_law_next"
abbrev A_law_class (K : PySem.W.Frag) : Addr := He.ga K "_law_class"
abbrev A_law_value (K : PySem.W.Frag) : Addr := He.ga K "_law_value"
abbrev A_law_lines (K : PySem.W.Frag) : Addr := He.ga K "_law_lines"
abbrev A_law_wrong (K : PySem.W.Frag) : Addr := He.ga K "_law_wrong"
abbrev A_law_read (K : PySem.W.Frag) : Addr := He.ga K "_law_read"
abbrev A_law (K : PySem.W.Frag) : Addr := He.ga K "law"
structure Txt (K : PySem.W.Frag) (mg : Str → Option Value) : Prop where
  g_RunError : mg "RunError" = some (.ref (He.ga K "RunError"))
  g_NoProgram : mg "NoProgram" = some (.ref (He.ga K "NoProgram"))
  g_NoRow : mg "NoRow" = some (.ref (He.ga K "NoRow"))
  g_TooLong : mg "TooLong" = some (.ref (He.ga K "TooLong"))
  g_NoWorld : mg "NoWorld" = some (.ref (He.ga K "NoWorld"))
  g_NoText : mg "NoText" = some (.ref (He.ga K "NoText"))
  g_NoStep : mg "NoStep" = some (.ref (He.ga K "NoStep"))
  g_NoCell : mg "NoCell" = some (.ref (He.ga K "NoCell"))
  g_NoDoor : mg "NoDoor" = some (.ref (He.ga K "NoDoor"))
  g_NoWord : mg "NoWord" = some (.ref (He.ga K "NoWord"))
  g_rows_within : mg "rows_within" = some (.ref (He.ga K "rows_within"))
  g_put_rows : mg "put_rows" = some (.ref (He.ga K "put_rows"))
  g_rows_of : mg "rows_of" = some (.ref (He.ga K "rows_of"))
  g_is_name : mg "is_name" = some (.ref (He.ga K "is_name"))
  g_is_number : mg "is_number" = some (.ref (He.ga K "is_number"))
  g_is_one_of : mg "is_one_of" = some (.ref (He.ga K "is_one_of"))
  g_values_in : mg "values_in" = some (.ref (He.ga K "values_in"))
  g_is_plain : mg "is_plain" = some (.ref (He.ga K "is_plain"))
  g_is_within : mg "is_within" = some (.ref (He.ga K "is_within"))
  g_is_value : mg "is_value" = some (.ref (He.ga K "is_value"))
  g_Scope : mg "Scope" = some (.ref (He.ga K "Scope"))
  g_Part : mg "Part" = some (.ref (He.ga K "Part"))
  g_BoxPart : mg "BoxPart" = some (.ref (He.ga K "BoxPart"))
  g_ListPart : mg "ListPart" = some (.ref (He.ga K "ListPart"))
  g_DoorPart : mg "DoorPart" = some (.ref (He.ga K "DoorPart"))
  g_FunctionPart : mg "FunctionPart" = some (.ref (He.ga K "FunctionPart"))
  g_ValuePart : mg "ValuePart" = some (.ref (He.ga K "ValuePart"))
  g_ValuesPart : mg "ValuesPart" = some (.ref (He.ga K "ValuesPart"))
  g_RowsPart : mg "RowsPart" = some (.ref (He.ga K "RowsPart"))
  g_parts_of : mg "parts_of" = some (.ref (He.ga K "parts_of"))
  g_is_row : mg "is_row" = some (.ref (He.ga K "is_row"))
  g_are_unlike : mg "are_unlike" = some (.ref (He.ga K "are_unlike"))
  g_is_tuple : mg "is_tuple" = some (.ref (He.ga K "is_tuple"))
  g_is_pair : mg "is_pair" = some (.ref (He.ga K "is_pair"))
  g_are_numbers : mg "are_numbers" = some (.ref (He.ga K "are_numbers"))
  g_are_names : mg "are_names" = some (.ref (He.ga K "are_names"))
  g_are_stores : mg "are_stores" = some (.ref (He.ga K "are_stores"))
  g_is_function : mg "is_function" = some (.ref (He.ga K "is_function"))
  g_are_functions : mg "are_functions" = some (.ref (He.ga K "are_functions"))
  g_need_rows : mg "need_rows" = some (.ref (He.ga K "need_rows"))
  g_program_of : mg "program_of" = some (.ref (He.ga K "program_of"))
  g_number_of : mg "number_of" = some (.ref (He.ga K "number_of"))
  g_Words : mg "Words" = some (.ref (He.ga K "Words"))
  g_begun_value : mg "begun_value" = some (.ref (He.ga K "begun_value"))
  g_next_value : mg "next_value" = some (.ref (He.ga K "next_value"))
  g_plain_row : mg "plain_row" = some (.ref (He.ga K "plain_row"))
  g_Block : mg "Block" = some (.ref (He.ga K "Block"))
  g_IfBlock : mg "IfBlock" = some (.ref (He.ga K "IfBlock"))
  g_WhileBlock : mg "WhileBlock" = some (.ref (He.ga K "WhileBlock"))
  g_TryBlock : mg "TryBlock" = some (.ref (He.ga K "TryBlock"))
  g_Lines : mg "Lines" = some (.ref (He.ga K "Lines"))
  g_begun_block : mg "begun_block" = some (.ref (He.ga K "begun_block"))
  g_read_rows : mg "read_rows" = some (.ref (He.ga K "read_rows"))
  g_read_stores : mg "read_stores" = some (.ref (He.ga K "read_stores"))
  g_read_function : mg "read_function" = some (.ref (He.ga K "read_function"))
  g_read : mg "read" = some (.ref (He.ga K "read"))
  g_value_words : mg "value_words" = some (.ref (He.ga K "value_words"))
  g_value_text : mg "value_text" = some (.ref (He.ga K "value_text"))
  g_row_text : mg "row_text" = some (.ref (He.ga K "row_text"))
  g_lines_of : mg "lines_of" = some (.ref (He.ga K "lines_of"))
  g_function_lines : mg "function_lines" = some (.ref (He.ga K "function_lines"))
  g_written : mg "written" = some (.ref (He.ga K "written"))
  g_law_cell_at : mg "_law_cell_at" = some (.ref (He.ga K "_law_cell_at"))
  g_law_state : mg "_law_state" = some (.ref (He.ga K "_law_state"))
  g_law_next : mg "_law_next" = some (.ref (He.ga K "_law_next"))
  g_law_class : mg "_law_class" = some (.ref (He.ga K "_law_class"))
  g_law_value : mg "_law_value" = some (.ref (He.ga K "_law_value"))
  g_law_lines : mg "_law_lines" = some (.ref (He.ga K "_law_lines"))
  g_law_wrong : mg "_law_wrong" = some (.ref (He.ga K "_law_wrong"))
  g_law_read : mg "_law_read" = some (.ref (He.ga K "_law_read"))
  g_law : mg "law" = some (.ref (He.ga K "law"))
  f_isinstance : mg "isinstance" = none
  f_len : mg "len" = none
  f_int : mg "int" = none
  f_bool : mg "bool" = none
  f_str : mg "str" = none
  f_tuple : mg "tuple" = none
  f_list : mg "list" = none
  f_dict : mg "dict" = none
  f_set : mg "set" = none
  f_all : mg "all" = none
  f_zip : mg "zip" = none
  f_range : mg "range" = none
  f_min : mg "min" = none
  f_ValueError : mg "ValueError" = none
  s_LETTERS : ∃ t, mg "LETTERS" = some (.str "abcdefghijklmnopqrstuvwxyz" t)
  i_LONGEST_NAME : ∃ t, mg "LONGEST_NAME" = some (.int 6 t)
  i_GREATEST : ∃ t, mg "GREATEST" = some (.int 999999 t)
  i_DEEPEST_values : ∃ t, mg "DEEPEST_values" = some (.int 4 t)
  i_MOST_BOXES : ∃ t, mg "MOST_BOXES" = some (.int 6 t)
  i_MOST_LISTS : ∃ t, mg "MOST_LISTS" = some (.int 3 t)
  i_MOST_THINGS : ∃ t, mg "MOST_THINGS" = some (.int 12 t)
  i_MOST_FUNCTIONS : ∃ t, mg "MOST_FUNCTIONS" = some (.int 4 t)
  i_MOST_NAMES : ∃ t, mg "MOST_NAMES" = some (.int 3 t)
  i_DEEPEST_programs : ∃ t, mg "DEEPEST_programs" = some (.int 5 t)
  i_MOST_ROWS : ∃ t, mg "MOST_ROWS" = some (.int 60 t)
  s_FIGURES : ∃ t, mg "FIGURES" = some (.str "0123456789" t)
  i_MOST_FIGURES : ∃ t, mg "MOST_FIGURES" = some (.int 6 t)
  c_Scope : Cls K (C_Scope K)
  n_Scope_boxes : NoAttr K (C_Scope K) "boxes"
  n_Scope_lists : NoAttr K (C_Scope K) "lists"
  n_Scope_functions : NoAttr K (C_Scope K) "functions"
  n_Scope_inside : NoAttr K (C_Scope K) "inside"
  c_Part : Cls K (C_Part K)
  c_BoxPart : Cls K (C_BoxPart K)
  m_BoxPart_fits : Meth K (C_BoxPart K) "fits" (He.ma K (C_BoxPart K) "fits")
  c_ListPart : Cls K (C_ListPart K)
  c_DoorPart : Cls K (C_DoorPart K)
  c_FunctionPart : Cls K (C_FunctionPart K)
  c_ValuePart : Cls K (C_ValuePart K)
  m_ValuePart_fits : Meth K (C_ValuePart K) "fits" (He.ma K (C_ValuePart K) "fits")
  c_ValuesPart : Cls K (C_ValuesPart K)
  c_RowsPart : Cls K (C_RowsPart K)
  m_RowsPart_fits : Meth K (C_RowsPart K) "fits" (He.ma K (C_RowsPart K) "fits")
  c_Words : Cls K (C_Words K)
  n_Words_words : NoAttr K (C_Words K) "words"
  n_Words_place : NoAttr K (C_Words K) "place"
  m_Words_left : Meth K (C_Words K) "left" (He.ma K (C_Words K) "left")
  m_Words_next_word : Meth K (C_Words K) "next_word" (He.ma K (C_Words K) "next_word")
  m_Words_need_end : Meth K (C_Words K) "need_end" (He.ma K (C_Words K) "need_end")
  c_Block : Cls K (C_Block K)
  n_Block_words : NoAttr K (C_Block K) "words"
  n_Block_rows : NoAttr K (C_Block K) "rows"
  n_Block_value : NoAttr K (C_Block K) "value"
  n_Block_opened : NoAttr K (C_Block K) "opened"
  n_Block_catch_box : NoAttr K (C_Block K) "catch_box"
  m_Block_turned : Meth K (C_Block K) "turned" (He.ma K (C_Block K) "turned")
  m_Block_closed_row : Meth K (C_Block K) "closed_row" (He.ma K (C_Block K) "closed_row")
  m_Block_head : Meth K (C_Block K) "head" (He.ma K (C_Block K) "head")
  c_IfBlock : Cls K (C_IfBlock K)
  n_IfBlock_words : NoAttr K (C_IfBlock K) "words"
  n_IfBlock_rows : NoAttr K (C_IfBlock K) "rows"
  n_IfBlock_value : NoAttr K (C_IfBlock K) "value"
  n_IfBlock_opened : NoAttr K (C_IfBlock K) "opened"
  n_IfBlock_catch_box : NoAttr K (C_IfBlock K) "catch_box"
  m_IfBlock_turned : Meth K (C_IfBlock K) "turned" (He.ma K (C_IfBlock K) "turned")
  m_IfBlock_closed_row : Meth K (C_IfBlock K) "closed_row" (He.ma K (C_IfBlock K) "closed_row")
  m_IfBlock_head : Meth K (C_IfBlock K) "head" (He.ma K (C_IfBlock K) "head")
  c_WhileBlock : Cls K (C_WhileBlock K)
  n_WhileBlock_words : NoAttr K (C_WhileBlock K) "words"
  n_WhileBlock_rows : NoAttr K (C_WhileBlock K) "rows"
  n_WhileBlock_value : NoAttr K (C_WhileBlock K) "value"
  n_WhileBlock_opened : NoAttr K (C_WhileBlock K) "opened"
  n_WhileBlock_catch_box : NoAttr K (C_WhileBlock K) "catch_box"
  m_WhileBlock_turned : Meth K (C_WhileBlock K) "turned" (He.ma K (C_WhileBlock K) "turned")
  m_WhileBlock_closed_row : Meth K (C_WhileBlock K) "closed_row" (He.ma K (C_WhileBlock K) "closed_row")
  m_WhileBlock_head : Meth K (C_WhileBlock K) "head" (He.ma K (C_WhileBlock K) "head")
  c_TryBlock : Cls K (C_TryBlock K)
  n_TryBlock_words : NoAttr K (C_TryBlock K) "words"
  n_TryBlock_rows : NoAttr K (C_TryBlock K) "rows"
  n_TryBlock_value : NoAttr K (C_TryBlock K) "value"
  n_TryBlock_opened : NoAttr K (C_TryBlock K) "opened"
  n_TryBlock_catch_box : NoAttr K (C_TryBlock K) "catch_box"
  m_TryBlock_turned : Meth K (C_TryBlock K) "turned" (He.ma K (C_TryBlock K) "turned")
  m_TryBlock_closed_row : Meth K (C_TryBlock K) "closed_row" (He.ma K (C_TryBlock K) "closed_row")
  m_TryBlock_head : Meth K (C_TryBlock K) "head" (He.ma K (C_TryBlock K) "head")
  c_Lines : Cls K (C_Lines K)
  n_Lines_lines : NoAttr K (C_Lines K) "lines"
  n_Lines_place : NoAttr K (C_Lines K) "place"
  m_Lines_next_head : Meth K (C_Lines K) "next_head" (He.ma K (C_Lines K) "next_head")
  m_Lines_next_line : Meth K (C_Lines K) "next_line" (He.ma K (C_Lines K) "next_line")
  mk_Scope : Mk K (C_Scope K) (He.ma K (C_Scope K) "__init__")
  mk_Words : Mk K (C_Words K) (He.ma K (C_Words K) "__init__")
  mk_Lines : Mk K (C_Lines K) (He.ma K (C_Lines K) "__init__")
  mk_Block : Mk K (C_Block K) (He.ma K (C_Block K) "__init__")
  mk_IfBlock : Mk K (C_IfBlock K) (He.ma K (C_IfBlock K) "__init__")
  mk_WhileBlock : Mk K (C_WhileBlock K) (He.ma K (C_WhileBlock K) "__init__")
  mk_TryBlock : Mk K (C_TryBlock K) (He.ma K (C_TryBlock K) "__init__")
  e_NoText : ExK K (C_NoText K)
  x_NoText : PySem.W.exmOne K (.ref (C_NoText K)) (.ref (C_RunError K)) = some true
  e_NoRow : ExK K (C_NoRow K)
  x_NoRow : PySem.W.exmOne K (.ref (C_NoRow K)) (.ref (C_RunError K)) = some true
  p_BoxPart : MkP0 K (C_BoxPart K)
  p_ListPart : MkP0 K (C_ListPart K)
  p_DoorPart : MkP0 K (C_DoorPart K)
  p_FunctionPart : MkP0 K (C_FunctionPart K)
  p_ValuePart : MkP0 K (C_ValuePart K)
  p_ValuesPart : MkP0 K (C_ValuesPart K)
  p_RowsPart : MkP0 K (C_RowsPart K)
  ec_NoText : ExcC K (C_NoText K)
  ek_NoText : ∀ x : Str, x ∈ kindNames → PySem.W.kitOne K (.ref (C_NoText K)) (.ref (He.ga K x)) = some (decide (("NoText" : Str) = x))
  ev_NoText : PySem.W.kitOne K (.ref (C_NoText K)) (.type "ValueError") = some true
  ec_NoRow : ExcC K (C_NoRow K)
  ek_NoRow : ∀ x : Str, x ∈ kindNames → PySem.W.kitOne K (.ref (C_NoRow K)) (.ref (He.ga K x)) = some (decide (("NoRow" : Str) = x))
  ev_NoRow : PySem.W.kitOne K (.ref (C_NoRow K)) (.type "ValueError") = some true
  cf_Block : ClsFn K (C_Block K) "__init__" (He.ma K (C_Block K) "__init__")
  h_IfBlock : He.ma K (C_IfBlock K) "head" = He.ma K (C_Block K) "head"
  h_WhileBlock : He.ma K (C_WhileBlock K) "head" = He.ma K (C_Block K) "head"
  d_rows_within : Fun K "rows_within" "rows_within" S_rows_within (A_rows_within K) (fdOf K (A_rows_within K))
  d_put_rows : Fun K "put_rows" "put_rows" S_put_rows (A_put_rows K) (fdOf K (A_put_rows K))
  d_rows_of : Fun K "rows_of" "rows_of" S_rows_of (A_rows_of K) (fdOf K (A_rows_of K))
  d_is_name : Fun K "is_name" "is_name" S_is_name (A_is_name K) (fdOf K (A_is_name K))
  d_is_number : Fun K "is_number" "is_number" S_is_number (A_is_number K) (fdOf K (A_is_number K))
  d_is_one_of : Fun K "is_one_of" "is_one_of" S_is_one_of (A_is_one_of K) (fdOf K (A_is_one_of K))
  d_values_in : Fun K "values_in" "values_in" S_values_in (A_values_in K) (fdOf K (A_values_in K))
  d_is_plain : Fun K "is_plain" "is_plain" S_is_plain (A_is_plain K) (fdOf K (A_is_plain K))
  d_is_within : Fun K "is_within" "is_within" S_is_within (A_is_within K) (fdOf K (A_is_within K))
  d_is_value : Fun K "is_value" "is_value" S_is_value (A_is_value K) (fdOf K (A_is_value K))
  d_Scope_init : Fun K "__init__" "Scope.__init__" S_Scope_init (A_Scope_init K) (fdOf K (A_Scope_init K))
  d_BoxPart_fits : Fun K "fits" "BoxPart.fits" S_BoxPart_fits (A_BoxPart_fits K) (fdOf K (A_BoxPart_fits K))
  d_ValuePart_fits : Fun K "fits" "ValuePart.fits" S_ValuePart_fits (A_ValuePart_fits K) (fdOf K (A_ValuePart_fits K))
  d_RowsPart_fits : Fun K "fits" "RowsPart.fits" S_RowsPart_fits (A_RowsPart_fits K) (fdOf K (A_RowsPart_fits K))
  d_parts_of : Fun K "parts_of" "parts_of" S_parts_of (A_parts_of K) (fdOf K (A_parts_of K))
  d_is_row : Fun K "is_row" "is_row" S_is_row (A_is_row K) (fdOf K (A_is_row K))
  d_are_unlike : Fun K "are_unlike" "are_unlike" S_are_unlike (A_are_unlike K) (fdOf K (A_are_unlike K))
  d_is_tuple : Fun K "is_tuple" "is_tuple" S_is_tuple (A_is_tuple K) (fdOf K (A_is_tuple K))
  d_is_pair : Fun K "is_pair" "is_pair" S_is_pair (A_is_pair K) (fdOf K (A_is_pair K))
  d_are_numbers : Fun K "are_numbers" "are_numbers" S_are_numbers (A_are_numbers K) (fdOf K (A_are_numbers K))
  d_are_stores : Fun K "are_stores" "are_stores" S_are_stores (A_are_stores K) (fdOf K (A_are_stores K))
  d_are_functions : Fun K "are_functions" "are_functions" S_are_functions (A_are_functions K) (fdOf K (A_are_functions K))
  d_need_rows : Fun K "need_rows" "need_rows" S_need_rows (A_need_rows K) (fdOf K (A_need_rows K))
  d_program_of : Fun K "program_of" "program_of" S_program_of (A_program_of K) (fdOf K (A_program_of K))
  d_number_of : Fun K "number_of" "number_of" S_number_of (A_number_of K) (fdOf K (A_number_of K))
  d_Words_init : Fun K "__init__" "Words.__init__" S_Words_init (A_Words_init K) (fdOf K (A_Words_init K))
  d_Words_left : Fun K "left" "Words.left" S_Words_left (A_Words_left K) (fdOf K (A_Words_left K))
  d_Words_next_word : Fun K "next_word" "Words.next_word" S_Words_next_word (A_Words_next_word K) (fdOf K (A_Words_next_word K))
  d_Words_need_end : Fun K "need_end" "Words.need_end" S_Words_need_end (A_Words_need_end K) (fdOf K (A_Words_need_end K))
  d_begun_value : Fun K "begun_value" "begun_value" S_begun_value (A_begun_value K) (fdOf K (A_begun_value K))
  d_next_value : Fun K "next_value" "next_value" S_next_value (A_next_value K) (fdOf K (A_next_value K))
  d_plain_row : Fun K "plain_row" "plain_row" S_plain_row (A_plain_row K) (fdOf K (A_plain_row K))
  d_Block_init : Fun K "__init__" "Block.__init__" S_Block_init (A_Block_init K) (fdOf K (A_Block_init K))
  d_Block_turned : Fun K "turned" "Block.turned" S_Block_turned (A_Block_turned K) (fdOf K (A_Block_turned K))
  d_Block_closed_row : Fun K "closed_row" "Block.closed_row" S_Block_closed_row (A_Block_closed_row K) (fdOf K (A_Block_closed_row K))
  d_Block_head : Fun K "head" "Block.head" S_Block_head (A_Block_head K) (fdOf K (A_Block_head K))
  d_IfBlock_init : Fun K "__init__" "IfBlock.__init__" S_IfBlock_init (A_IfBlock_init K) (fdOf K (A_IfBlock_init K))
  d_IfBlock_turned : Fun K "turned" "IfBlock.turned" S_IfBlock_turned (A_IfBlock_turned K) (fdOf K (A_IfBlock_turned K))
  d_IfBlock_closed_row : Fun K "closed_row" "IfBlock.closed_row" S_IfBlock_closed_row (A_IfBlock_closed_row K) (fdOf K (A_IfBlock_closed_row K))
  d_WhileBlock_init : Fun K "__init__" "WhileBlock.__init__" S_WhileBlock_init (A_WhileBlock_init K) (fdOf K (A_WhileBlock_init K))
  d_WhileBlock_closed_row : Fun K "closed_row" "WhileBlock.closed_row" S_WhileBlock_closed_row (A_WhileBlock_closed_row K) (fdOf K (A_WhileBlock_closed_row K))
  d_TryBlock_init : Fun K "__init__" "TryBlock.__init__" S_TryBlock_init (A_TryBlock_init K) (fdOf K (A_TryBlock_init K))
  d_TryBlock_turned : Fun K "turned" "TryBlock.turned" S_TryBlock_turned (A_TryBlock_turned K) (fdOf K (A_TryBlock_turned K))
  d_TryBlock_closed_row : Fun K "closed_row" "TryBlock.closed_row" S_TryBlock_closed_row (A_TryBlock_closed_row K) (fdOf K (A_TryBlock_closed_row K))
  d_Lines_init : Fun K "__init__" "Lines.__init__" S_Lines_init (A_Lines_init K) (fdOf K (A_Lines_init K))
  d_Lines_next_head : Fun K "next_head" "Lines.next_head" S_Lines_next_head (A_Lines_next_head K) (fdOf K (A_Lines_next_head K))
  d_Lines_next_line : Fun K "next_line" "Lines.next_line" S_Lines_next_line (A_Lines_next_line K) (fdOf K (A_Lines_next_line K))
  d_begun_block : Fun K "begun_block" "begun_block" S_begun_block (A_begun_block K) (fdOf K (A_begun_block K))
  d_read_rows : Fun K "read_rows" "read_rows" S_read_rows (A_read_rows K) (fdOf K (A_read_rows K))
  d_read_stores : Fun K "read_stores" "read_stores" S_read_stores (A_read_stores K) (fdOf K (A_read_stores K))
  d_read : Fun K "read" "read" S_read (A_read K) (fdOf K (A_read K))
  d_value_words : Fun K "value_words" "value_words" S_value_words (A_value_words K) (fdOf K (A_value_words K))
  d_value_text : Fun K "value_text" "value_text" S_value_text (A_value_text K) (fdOf K (A_value_text K))
  d_row_text : Fun K "row_text" "row_text" S_row_text (A_row_text K) (fdOf K (A_row_text K))
  d_lines_of : Fun K "lines_of" "lines_of" S_lines_of (A_lines_of K) (fdOf K (A_lines_of K))
  d_written : Fun K "written" "written" S_written (A_written K) (fdOf K (A_written K))
  d_law_cell_at : Fun K "_law_cell_at" "_law_cell_at" S_law_cell_at (A_law_cell_at K) (fdOf K (A_law_cell_at K))
  d_law_state : Fun K "_law_state" "_law_state" S_law_state (A_law_state K) (fdOf K (A_law_state K))
  d_law_next : Fun K "_law_next" "_law_next" S_law_next (A_law_next K) (fdOf K (A_law_next K))
  d_law_class : Fun K "_law_class" "_law_class" S_law_class (A_law_class K) (fdOf K (A_law_class K))
  d_law_value : Fun K "_law_value" "_law_value" S_law_value (A_law_value K) (fdOf K (A_law_value K))
  d_law_lines : Fun K "_law_lines" "_law_lines" S_law_lines (A_law_lines K) (fdOf K (A_law_lines K))
  d_law_wrong : Fun K "_law_wrong" "_law_wrong" S_law_wrong (A_law_wrong K) (fdOf K (A_law_wrong K))
  d_law_read : Fun K "_law_read" "_law_read" S_law_read (A_law_read K) (fdOf K (A_law_read K))
  d_law : Fun K "law" "law" S_law (A_law K) (fdOf K (A_law K))
theorem def_ok {K : PySem.W.Frag} {x qual : Str} {st : Stmt} {f : Addr} (h : ∃ fd, FunD K x qual (defArgs st) (defBody st) (defScope st) [] [] f fd) : Fun K x qual st f (fdOf K f) := let ⟨_, F⟩ := h; fun_of F
theorem txt_of {K : PySem.W.Frag} {h : Heap} {mg : Str → Option Value} (X : K.In h) (G : h.Ns mainGlobals mg) (c : Says K) : Txt K mg where
  g_RunError := He.glo_ok X G (c.1.fact 0)
  g_NoProgram := He.glo_ok X G (c.1.fact 1)
  g_NoRow := He.glo_ok X G (c.1.fact 2)
  g_TooLong := He.glo_ok X G (c.1.fact 3)
  g_NoWorld := He.glo_ok X G (c.1.fact 4)
  g_NoText := He.glo_ok X G (c.1.fact 5)
  g_NoStep := He.glo_ok X G (c.1.fact 6)
  g_NoCell := He.glo_ok X G (c.1.fact 7)
  g_NoDoor := He.glo_ok X G (c.1.fact 8)
  g_NoWord := He.glo_ok X G (c.1.fact 9)
  g_rows_within := He.glo_ok X G (c.1.fact 10)
  g_put_rows := He.glo_ok X G (c.1.fact 11)
  g_rows_of := He.glo_ok X G (c.1.fact 12)
  g_is_name := He.glo_ok X G (c.1.fact 13)
  g_is_number := He.glo_ok X G (c.1.fact 14)
  g_is_one_of := He.glo_ok X G (c.1.fact 15)
  g_values_in := He.glo_ok X G (c.1.fact 16)
  g_is_plain := He.glo_ok X G (c.1.fact 17)
  g_is_within := He.glo_ok X G (c.1.fact 18)
  g_is_value := He.glo_ok X G (c.1.fact 19)
  g_Scope := He.glo_ok X G (c.1.fact 20)
  g_Part := He.glo_ok X G (c.1.fact 21)
  g_BoxPart := He.glo_ok X G (c.1.fact 22)
  g_ListPart := He.glo_ok X G (c.1.fact 23)
  g_DoorPart := He.glo_ok X G (c.1.fact 24)
  g_FunctionPart := He.glo_ok X G (c.1.fact 25)
  g_ValuePart := He.glo_ok X G (c.1.fact 26)
  g_ValuesPart := He.glo_ok X G (c.1.fact 27)
  g_RowsPart := He.glo_ok X G (c.1.fact 28)
  g_parts_of := He.glo_ok X G (c.1.fact 29)
  g_is_row := He.glo_ok X G (c.1.fact 30)
  g_are_unlike := He.glo_ok X G (c.1.fact 31)
  g_is_tuple := He.glo_ok X G (c.1.fact 32)
  g_is_pair := He.glo_ok X G (c.1.fact 33)
  g_are_numbers := He.glo_ok X G (c.1.fact 34)
  g_are_names := He.glo_ok X G (c.1.fact 35)
  g_are_stores := He.glo_ok X G (c.1.fact 36)
  g_is_function := He.glo_ok X G (c.1.fact 37)
  g_are_functions := He.glo_ok X G (c.1.fact 38)
  g_need_rows := He.glo_ok X G (c.1.fact 39)
  g_program_of := He.glo_ok X G (c.1.fact 40)
  g_number_of := He.glo_ok X G (c.1.fact 41)
  g_Words := He.glo_ok X G (c.1.fact 42)
  g_begun_value := He.glo_ok X G (c.1.fact 43)
  g_next_value := He.glo_ok X G (c.1.fact 44)
  g_plain_row := He.glo_ok X G (c.1.fact 45)
  g_Block := He.glo_ok X G (c.1.fact 46)
  g_IfBlock := He.glo_ok X G (c.1.fact 47)
  g_WhileBlock := He.glo_ok X G (c.1.fact 48)
  g_TryBlock := He.glo_ok X G (c.1.fact 49)
  g_Lines := He.glo_ok X G (c.1.fact 50)
  g_begun_block := He.glo_ok X G (c.1.fact 51)
  g_read_rows := He.glo_ok X G (c.1.fact 52)
  g_read_stores := He.glo_ok X G (c.1.fact 53)
  g_read_function := He.glo_ok X G (c.1.fact 54)
  g_read := He.glo_ok X G (c.1.fact 55)
  g_value_words := He.glo_ok X G (c.1.fact 56)
  g_value_text := He.glo_ok X G (c.1.fact 57)
  g_row_text := He.glo_ok X G (c.1.fact 58)
  g_lines_of := He.glo_ok X G (c.1.fact 59)
  g_function_lines := He.glo_ok X G (c.1.fact 60)
  g_written := He.glo_ok X G (c.1.fact 61)
  g_law_cell_at := He.glo_ok X G (c.1.fact 62)
  g_law_state := He.glo_ok X G (c.1.fact 63)
  g_law_next := He.glo_ok X G (c.1.fact 64)
  g_law_class := He.glo_ok X G (c.1.fact 65)
  g_law_value := He.glo_ok X G (c.1.fact 66)
  g_law_lines := He.glo_ok X G (c.1.fact 67)
  g_law_wrong := He.glo_ok X G (c.1.fact 68)
  g_law_read := He.glo_ok X G (c.1.fact 69)
  g_law := He.glo_ok X G (c.1.fact 70)
  f_isinstance := He.free_ok X G (c.1.fact 71)
  f_len := He.free_ok X G (c.1.fact 72)
  f_int := He.free_ok X G (c.1.fact 73)
  f_bool := He.free_ok X G (c.1.fact 74)
  f_str := He.free_ok X G (c.1.fact 75)
  f_tuple := He.free_ok X G (c.1.fact 76)
  f_list := He.free_ok X G (c.1.fact 77)
  f_dict := He.free_ok X G (c.1.fact 78)
  f_set := He.free_ok X G (c.1.fact 79)
  f_all := He.free_ok X G (c.1.fact 80)
  f_zip := He.free_ok X G (c.1.fact 81)
  f_range := He.free_ok X G (c.1.fact 82)
  f_min := He.free_ok X G (c.1.fact 83)
  f_ValueError := He.free_ok X G (c.1.fact 84)
  s_LETTERS := He.str_ok X G (c.1.fact 85)
  i_LONGEST_NAME := He.int_ok X G (c.1.fact 86)
  i_GREATEST := He.int_ok X G (c.1.fact 87)
  i_DEEPEST_values := He.int_ok X G (c.1.fact 88)
  i_MOST_BOXES := He.int_ok X G (c.1.fact 89)
  i_MOST_LISTS := He.int_ok X G (c.1.fact 90)
  i_MOST_THINGS := He.int_ok X G (c.1.fact 91)
  i_MOST_FUNCTIONS := He.int_ok X G (c.1.fact 92)
  i_MOST_NAMES := He.int_ok X G (c.1.fact 93)
  i_DEEPEST_programs := He.int_ok X G (c.1.fact 94)
  i_MOST_ROWS := He.int_ok X G (c.1.fact 95)
  s_FIGURES := He.str_ok X G (c.1.fact 96)
  i_MOST_FIGURES := He.int_ok X G (c.1.fact 97)
  c_Scope := He.cls_ok (c.1.fact 98)
  n_Scope_boxes := He.noat_ok (c.1.fact 99)
  n_Scope_lists := He.noat_ok (c.1.fact 100)
  n_Scope_functions := He.noat_ok (c.1.fact 101)
  n_Scope_inside := He.noat_ok (c.1.fact 102)
  c_Part := He.cls_ok (c.1.fact 103)
  c_BoxPart := He.cls_ok (c.1.fact 104)
  m_BoxPart_fits := He.meth_ok (c.1.fact 105)
  c_ListPart := He.cls_ok (c.1.fact 106)
  c_DoorPart := He.cls_ok (c.1.fact 107)
  c_FunctionPart := He.cls_ok (c.1.fact 108)
  c_ValuePart := He.cls_ok (c.1.fact 109)
  m_ValuePart_fits := He.meth_ok (c.1.fact 110)
  c_ValuesPart := He.cls_ok (c.1.fact 111)
  c_RowsPart := He.cls_ok (c.1.fact 112)
  m_RowsPart_fits := He.meth_ok (c.1.fact 113)
  c_Words := He.cls_ok (c.1.fact 114)
  n_Words_words := He.noat_ok (c.1.fact 115)
  n_Words_place := He.noat_ok (c.1.fact 116)
  m_Words_left := He.meth_ok (c.1.fact 117)
  m_Words_next_word := He.meth_ok (c.1.fact 118)
  m_Words_need_end := He.meth_ok (c.1.fact 119)
  c_Block := He.cls_ok (c.1.fact 120)
  n_Block_words := He.noat_ok (c.1.fact 121)
  n_Block_rows := He.noat_ok (c.1.fact 122)
  n_Block_value := He.noat_ok (c.1.fact 123)
  n_Block_opened := He.noat_ok (c.1.fact 124)
  n_Block_catch_box := He.noat_ok (c.1.fact 125)
  m_Block_turned := He.meth_ok (c.1.fact 126)
  m_Block_closed_row := He.meth_ok (c.1.fact 127)
  m_Block_head := He.meth_ok (c.1.fact 128)
  c_IfBlock := He.cls_ok (c.1.fact 129)
  n_IfBlock_words := He.noat_ok (c.1.fact 130)
  n_IfBlock_rows := He.noat_ok (c.1.fact 131)
  n_IfBlock_value := He.noat_ok (c.1.fact 132)
  n_IfBlock_opened := He.noat_ok (c.1.fact 133)
  n_IfBlock_catch_box := He.noat_ok (c.1.fact 134)
  m_IfBlock_turned := He.meth_ok (c.1.fact 135)
  m_IfBlock_closed_row := He.meth_ok (c.1.fact 136)
  m_IfBlock_head := He.meth_ok (c.1.fact 137)
  c_WhileBlock := He.cls_ok (c.1.fact 138)
  n_WhileBlock_words := He.noat_ok (c.1.fact 139)
  n_WhileBlock_rows := He.noat_ok (c.1.fact 140)
  n_WhileBlock_value := He.noat_ok (c.1.fact 141)
  n_WhileBlock_opened := He.noat_ok (c.1.fact 142)
  n_WhileBlock_catch_box := He.noat_ok (c.1.fact 143)
  m_WhileBlock_turned := He.meth_ok (c.1.fact 144)
  m_WhileBlock_closed_row := He.meth_ok (c.1.fact 145)
  m_WhileBlock_head := He.meth_ok (c.1.fact 146)
  c_TryBlock := He.cls_ok (c.1.fact 147)
  n_TryBlock_words := He.noat_ok (c.1.fact 148)
  n_TryBlock_rows := He.noat_ok (c.1.fact 149)
  n_TryBlock_value := He.noat_ok (c.1.fact 150)
  n_TryBlock_opened := He.noat_ok (c.1.fact 151)
  n_TryBlock_catch_box := He.noat_ok (c.1.fact 152)
  m_TryBlock_turned := He.meth_ok (c.1.fact 153)
  m_TryBlock_closed_row := He.meth_ok (c.1.fact 154)
  m_TryBlock_head := He.meth_ok (c.1.fact 155)
  c_Lines := He.cls_ok (c.1.fact 156)
  n_Lines_lines := He.noat_ok (c.1.fact 157)
  n_Lines_place := He.noat_ok (c.1.fact 158)
  m_Lines_next_head := He.meth_ok (c.1.fact 159)
  m_Lines_next_line := He.meth_ok (c.1.fact 160)
  mk_Scope := He.mkr_ok (c.1.fact 161)
  mk_Words := He.mkr_ok (c.1.fact 162)
  mk_Lines := He.mkr_ok (c.1.fact 163)
  mk_Block := He.mkr_ok (c.1.fact 164)
  mk_IfBlock := He.mkr_ok (c.1.fact 165)
  mk_WhileBlock := He.mkr_ok (c.1.fact 166)
  mk_TryBlock := He.mkr_ok (c.1.fact 167)
  e_NoText := (fun z => ⟨z.1, z.2.1, z.2.2.1, z.2.2.2⟩) (He.exc_ok (c.1.fact 168))
  x_NoText := He.exm_ok (c.1.fact 169)
  e_NoRow := (fun z => ⟨z.1, z.2.1, z.2.2.1, z.2.2.2⟩) (He.exc_ok (c.1.fact 170))
  x_NoRow := He.exm_ok (c.1.fact 171)
  p_BoxPart := mkp0_of (ex_parts c.2 (by decide +kernel))
  p_ListPart := mkp0_of (ex_parts c.2 (by decide +kernel))
  p_DoorPart := mkp0_of (ex_parts c.2 (by decide +kernel))
  p_FunctionPart := mkp0_of (ex_parts c.2 (by decide +kernel))
  p_ValuePart := mkp0_of (ex_parts c.2 (by decide +kernel))
  p_ValuesPart := mkp0_of (ex_parts c.2 (by decide +kernel))
  p_RowsPart := mkp0_of (ex_parts c.2 (by decide +kernel))
  ec_NoText := excC_of (ex_exc c.2 (by decide +kernel)).1
  ek_NoText := kinds_of (ex_exc c.2 (by decide +kernel)).2.1
  ev_NoText := (ex_exc c.2 (by decide +kernel)).2.2
  ec_NoRow := excC_of (ex_exc c.2 (by decide +kernel)).1
  ek_NoRow := kinds_of (ex_exc c.2 (by decide +kernel)).2.1
  ev_NoRow := (ex_exc c.2 (by decide +kernel)).2.2
  cf_Block := clsFn_of (ex_mid c.2).1
  h_IfBlock := (ex_mid c.2).2.1
  h_WhileBlock := (ex_mid c.2).2.2
  d_rows_within := def_ok (c.1.def_ 0)
  d_put_rows := def_ok (c.1.def_ 1)
  d_rows_of := def_ok (c.1.def_ 2)
  d_is_name := def_ok (c.1.def_ 3)
  d_is_number := def_ok (c.1.def_ 4)
  d_is_one_of := def_ok (c.1.def_ 5)
  d_values_in := def_ok (c.1.def_ 6)
  d_is_plain := def_ok (c.1.def_ 7)
  d_is_within := def_ok (c.1.def_ 8)
  d_is_value := def_ok (c.1.def_ 9)
  d_Scope_init := def_ok (c.1.def_ 10)
  d_BoxPart_fits := def_ok (c.1.def_ 11)
  d_ValuePart_fits := def_ok (c.1.def_ 12)
  d_RowsPart_fits := def_ok (c.1.def_ 13)
  d_parts_of := def_ok (c.1.def_ 14)
  d_is_row := def_ok (c.1.def_ 15)
  d_are_unlike := def_ok (c.1.def_ 16)
  d_is_tuple := def_ok (c.1.def_ 17)
  d_is_pair := def_ok (c.1.def_ 18)
  d_are_numbers := def_ok (c.1.def_ 19)
  d_are_stores := def_ok (c.1.def_ 20)
  d_are_functions := def_ok (c.1.def_ 21)
  d_need_rows := def_ok (c.1.def_ 22)
  d_program_of := def_ok (c.1.def_ 23)
  d_number_of := def_ok (c.1.def_ 24)
  d_Words_init := def_ok (c.1.def_ 25)
  d_Words_left := def_ok (c.1.def_ 26)
  d_Words_next_word := def_ok (c.1.def_ 27)
  d_Words_need_end := def_ok (c.1.def_ 28)
  d_begun_value := def_ok (c.1.def_ 29)
  d_next_value := def_ok (c.1.def_ 30)
  d_plain_row := def_ok (c.1.def_ 31)
  d_Block_init := def_ok (c.1.def_ 32)
  d_Block_turned := def_ok (c.1.def_ 33)
  d_Block_closed_row := def_ok (c.1.def_ 34)
  d_Block_head := def_ok (c.1.def_ 35)
  d_IfBlock_init := def_ok (c.1.def_ 36)
  d_IfBlock_turned := def_ok (c.1.def_ 37)
  d_IfBlock_closed_row := def_ok (c.1.def_ 38)
  d_WhileBlock_init := def_ok (c.1.def_ 39)
  d_WhileBlock_closed_row := def_ok (c.1.def_ 40)
  d_TryBlock_init := def_ok (c.1.def_ 41)
  d_TryBlock_turned := def_ok (c.1.def_ 42)
  d_TryBlock_closed_row := def_ok (c.1.def_ 43)
  d_Lines_init := def_ok (c.1.def_ 44)
  d_Lines_next_head := def_ok (c.1.def_ 45)
  d_Lines_next_line := def_ok (c.1.def_ 46)
  d_begun_block := def_ok (c.1.def_ 47)
  d_read_rows := def_ok (c.1.def_ 48)
  d_read_stores := def_ok (c.1.def_ 49)
  d_read := def_ok (c.1.def_ 50)
  d_value_words := def_ok (c.1.def_ 51)
  d_value_text := def_ok (c.1.def_ 52)
  d_row_text := def_ok (c.1.def_ 53)
  d_lines_of := def_ok (c.1.def_ 54)
  d_written := def_ok (c.1.def_ 55)
  d_law_cell_at := def_ok (c.1.def_ 56)
  d_law_state := def_ok (c.1.def_ 57)
  d_law_next := def_ok (c.1.def_ 58)
  d_law_class := def_ok (c.1.def_ 59)
  d_law_value := def_ok (c.1.def_ 60)
  d_law_lines := def_ok (c.1.def_ 61)
  d_law_wrong := def_ok (c.1.def_ 62)
  d_law_read := def_ok (c.1.def_ 63)
  d_law := def_ok (c.1.def_ 64)
section
variable {K : PySem.W.Frag} {mg : Str → Option Value}
theorem b_rows_within (T : Txt K mg) : Binds K (fdOf K (A_rows_within K)) ["row"] [] := T.d_rows_within.binds fun _ _ _ _ _ _ us hl => match us, hl with | [_], _ => rfl
theorem b_put_rows (T : Txt K mg) : Binds K (fdOf K (A_put_rows K)) ["rows", "around", "found"] [] := T.d_put_rows.binds fun _ _ _ _ _ _ us hl => match us, hl with | [_, _, _], _ => rfl
theorem b_rows_of (T : Txt K mg) : Binds K (fdOf K (A_rows_of K)) ["program"] [] := T.d_rows_of.binds fun _ _ _ _ _ _ us hl => match us, hl with | [_], _ => rfl
theorem b_is_name (T : Txt K mg) : Binds K (fdOf K (A_is_name K)) ["thing"] [] := T.d_is_name.binds fun _ _ _ _ _ _ us hl => match us, hl with | [_], _ => rfl
theorem b_is_number (T : Txt K mg) : Binds K (fdOf K (A_is_number K)) ["thing"] [] := T.d_is_number.binds fun _ _ _ _ _ _ us hl => match us, hl with | [_], _ => rfl
theorem b_is_one_of (T : Txt K mg) : Binds K (fdOf K (A_is_one_of K)) ["thing", "names"] [] := T.d_is_one_of.binds fun _ _ _ _ _ _ us hl => match us, hl with | [_, _], _ => rfl
theorem b_values_in (T : Txt K mg) : Binds K (fdOf K (A_values_in K)) ["word"] [] := T.d_values_in.binds fun _ _ _ _ _ _ us hl => match us, hl with | [_], _ => rfl
theorem b_is_plain (T : Txt K mg) : Binds K (fdOf K (A_is_plain K)) ["thing", "boxes", "lists"] [] := T.d_is_plain.binds fun _ _ _ _ _ _ us hl => match us, hl with | [_, _, _], _ => rfl
theorem b_is_within (T : Txt K mg) : Binds K (fdOf K (A_is_within K)) ["thing", "boxes", "lists", "deep"] [] := T.d_is_within.binds fun _ _ _ _ _ _ us hl => match us, hl with | [_, _, _, _], _ => rfl
theorem b_is_value (T : Txt K mg) : Binds K (fdOf K (A_is_value K)) ["thing", "boxes", "lists"] [] := T.d_is_value.binds fun _ _ _ _ _ _ us hl => match us, hl with | [_, _, _], _ => rfl
theorem b_Scope_init (T : Txt K mg) : Binds K (fdOf K (A_Scope_init K)) ["self", "boxes", "lists", "functions", "inside"] [] := T.d_Scope_init.binds fun _ _ _ _ _ _ us hl => match us, hl with | [_, _, _, _, _], _ => rfl
theorem b_BoxPart_fits (T : Txt K mg) : Binds K (fdOf K (A_BoxPart_fits K)) ["self", "thing", "scope", "deep"] [] := T.d_BoxPart_fits.binds fun _ _ _ _ _ _ us hl => match us, hl with | [_, _, _, _], _ => rfl
theorem b_ValuePart_fits (T : Txt K mg) : Binds K (fdOf K (A_ValuePart_fits K)) ["self", "thing", "scope", "deep"] [] := T.d_ValuePart_fits.binds fun _ _ _ _ _ _ us hl => match us, hl with | [_, _, _, _], _ => rfl
theorem b_RowsPart_fits (T : Txt K mg) : Binds K (fdOf K (A_RowsPart_fits K)) ["self", "thing", "scope", "deep"] [] := T.d_RowsPart_fits.binds fun _ _ _ _ _ _ us hl => match us, hl with | [_, _, _, _], _ => rfl
theorem b_parts_of (T : Txt K mg) : Binds K (fdOf K (A_parts_of K)) ["word"] [] := T.d_parts_of.binds fun _ _ _ _ _ _ us hl => match us, hl with | [_], _ => rfl
theorem b_is_row (T : Txt K mg) : Binds K (fdOf K (A_is_row K)) ["thing", "scope", "deep"] [] := T.d_is_row.binds fun _ _ _ _ _ _ us hl => match us, hl with | [_, _, _], _ => rfl
theorem b_are_unlike (T : Txt K mg) : Binds K (fdOf K (A_are_unlike K)) ["names"] [] := T.d_are_unlike.binds fun _ _ _ _ _ _ us hl => match us, hl with | [_], _ => rfl
theorem b_is_tuple (T : Txt K mg) : Binds K (fdOf K (A_is_tuple K)) ["thing", "most"] [] := T.d_is_tuple.binds fun _ _ _ _ _ _ us hl => match us, hl with | [_, _], _ => rfl
theorem b_is_pair (T : Txt K mg) : Binds K (fdOf K (A_is_pair K)) ["thing"] [] := T.d_is_pair.binds fun _ _ _ _ _ _ us hl => match us, hl with | [_], _ => rfl
theorem b_are_numbers (T : Txt K mg) : Binds K (fdOf K (A_are_numbers K)) ["thing", "most"] [] := T.d_are_numbers.binds fun _ _ _ _ _ _ us hl => match us, hl with | [_, _], _ => rfl
theorem b_are_stores (T : Txt K mg) : Binds K (fdOf K (A_are_stores K)) ["boxes", "lists"] [] := T.d_are_stores.binds fun _ _ _ _ _ _ us hl => match us, hl with | [_, _], _ => rfl
theorem b_are_functions (T : Txt K mg) : Binds K (fdOf K (A_are_functions K)) ["thing", "names"] [] := T.d_are_functions.binds fun _ _ _ _ _ _ us hl => match us, hl with | [_, _], _ => rfl
theorem b_need_rows (T : Txt K mg) : Binds K (fdOf K (A_need_rows K)) ["rows", "scope"] [] := T.d_need_rows.binds fun _ _ _ _ _ _ us hl => match us, hl with | [_, _], _ => rfl
theorem b_program_of (T : Txt K mg) : Binds K (fdOf K (A_program_of K)) ["boxes", "lists", "functions", "rows"] [] := T.d_program_of.binds fun _ _ _ _ _ _ us hl => match us, hl with | [_, _, _, _], _ => rfl
theorem b_number_of (T : Txt K mg) : Binds K (fdOf K (A_number_of K)) ["word"] [] := T.d_number_of.binds fun _ _ _ _ _ _ us hl => match us, hl with | [_], _ => rfl
theorem b_Words_init (T : Txt K mg) : Binds K (fdOf K (A_Words_init K)) ["self", "words"] [] := T.d_Words_init.binds fun _ _ _ _ _ _ us hl => match us, hl with | [_, _], _ => rfl
theorem b_Words_left (T : Txt K mg) : Binds K (fdOf K (A_Words_left K)) ["self"] [] := T.d_Words_left.binds fun _ _ _ _ _ _ us hl => match us, hl with | [_], _ => rfl
theorem b_Words_next_word (T : Txt K mg) : Binds K (fdOf K (A_Words_next_word K)) ["self"] [] := T.d_Words_next_word.binds fun _ _ _ _ _ _ us hl => match us, hl with | [_], _ => rfl
theorem b_Words_need_end (T : Txt K mg) : Binds K (fdOf K (A_Words_need_end K)) ["self"] [] := T.d_Words_need_end.binds fun _ _ _ _ _ _ us hl => match us, hl with | [_], _ => rfl
theorem b_begun_value (T : Txt K mg) : Binds K (fdOf K (A_begun_value K)) ["words"] [] := T.d_begun_value.binds fun _ _ _ _ _ _ us hl => match us, hl with | [_], _ => rfl
theorem b_next_value (T : Txt K mg) : Binds K (fdOf K (A_next_value K)) ["words"] [] := T.d_next_value.binds fun _ _ _ _ _ _ us hl => match us, hl with | [_], _ => rfl
theorem b_plain_row (T : Txt K mg) : Binds K (fdOf K (A_plain_row K)) ["words"] [] := T.d_plain_row.binds fun _ _ _ _ _ _ us hl => match us, hl with | [_], _ => rfl
theorem b_Block_init (T : Txt K mg) : Binds K (fdOf K (A_Block_init K)) ["self", "words"] [] := T.d_Block_init.binds fun _ _ _ _ _ _ us hl => match us, hl with | [_, _], _ => rfl
theorem b_Block_turned (T : Txt K mg) : Binds K (fdOf K (A_Block_turned K)) ["self", "words"] [] := T.d_Block_turned.binds fun _ _ _ _ _ _ us hl => match us, hl with | [_, _], _ => rfl
theorem b_Block_closed_row (T : Txt K mg) : Binds K (fdOf K (A_Block_closed_row K)) ["self"] [] := T.d_Block_closed_row.binds fun _ _ _ _ _ _ us hl => match us, hl with | [_], _ => rfl
theorem b_Block_head (T : Txt K mg) : Binds K (fdOf K (A_Block_head K)) ["self"] [] := T.d_Block_head.binds fun _ _ _ _ _ _ us hl => match us, hl with | [_], _ => rfl
theorem b_IfBlock_init (T : Txt K mg) : Binds K (fdOf K (A_IfBlock_init K)) ["self", "words"] [] := T.d_IfBlock_init.binds fun _ _ _ _ _ _ us hl => match us, hl with | [_, _], _ => rfl
theorem b_IfBlock_turned (T : Txt K mg) : Binds K (fdOf K (A_IfBlock_turned K)) ["self", "words"] [] := T.d_IfBlock_turned.binds fun _ _ _ _ _ _ us hl => match us, hl with | [_, _], _ => rfl
theorem b_IfBlock_closed_row (T : Txt K mg) : Binds K (fdOf K (A_IfBlock_closed_row K)) ["self"] [] := T.d_IfBlock_closed_row.binds fun _ _ _ _ _ _ us hl => match us, hl with | [_], _ => rfl
theorem b_WhileBlock_init (T : Txt K mg) : Binds K (fdOf K (A_WhileBlock_init K)) ["self", "words"] [] := T.d_WhileBlock_init.binds fun _ _ _ _ _ _ us hl => match us, hl with | [_, _], _ => rfl
theorem b_WhileBlock_closed_row (T : Txt K mg) : Binds K (fdOf K (A_WhileBlock_closed_row K)) ["self"] [] := T.d_WhileBlock_closed_row.binds fun _ _ _ _ _ _ us hl => match us, hl with | [_], _ => rfl
theorem b_TryBlock_init (T : Txt K mg) : Binds K (fdOf K (A_TryBlock_init K)) ["self", "words"] [] := T.d_TryBlock_init.binds fun _ _ _ _ _ _ us hl => match us, hl with | [_, _], _ => rfl
theorem b_TryBlock_turned (T : Txt K mg) : Binds K (fdOf K (A_TryBlock_turned K)) ["self", "words"] [] := T.d_TryBlock_turned.binds fun _ _ _ _ _ _ us hl => match us, hl with | [_, _], _ => rfl
theorem b_TryBlock_closed_row (T : Txt K mg) : Binds K (fdOf K (A_TryBlock_closed_row K)) ["self"] [] := T.d_TryBlock_closed_row.binds fun _ _ _ _ _ _ us hl => match us, hl with | [_], _ => rfl
theorem b_Lines_init (T : Txt K mg) : Binds K (fdOf K (A_Lines_init K)) ["self", "text"] [] := T.d_Lines_init.binds fun _ _ _ _ _ _ us hl => match us, hl with | [_, _], _ => rfl
theorem b_Lines_next_head (T : Txt K mg) : Binds K (fdOf K (A_Lines_next_head K)) ["self"] [] := T.d_Lines_next_head.binds fun _ _ _ _ _ _ us hl => match us, hl with | [_], _ => rfl
theorem b_Lines_next_line (T : Txt K mg) : Binds K (fdOf K (A_Lines_next_line K)) ["self"] [] := T.d_Lines_next_line.binds fun _ _ _ _ _ _ us hl => match us, hl with | [_], _ => rfl
theorem b_begun_block (T : Txt K mg) : Binds K (fdOf K (A_begun_block K)) ["words"] [] := T.d_begun_block.binds fun _ _ _ _ _ _ us hl => match us, hl with | [_], _ => rfl
theorem b_read_rows (T : Txt K mg) : Binds K (fdOf K (A_read_rows K)) ["lines", "closed"] [] := T.d_read_rows.binds fun _ _ _ _ _ _ us hl => match us, hl with | [_, _], _ => rfl
theorem b_read_stores (T : Txt K mg) : Binds K (fdOf K (A_read_stores K)) ["lines"] [] := T.d_read_stores.binds fun _ _ _ _ _ _ us hl => match us, hl with | [_], _ => rfl
theorem b_read (T : Txt K mg) : Binds K (fdOf K (A_read K)) ["text"] [] := T.d_read.binds fun _ _ _ _ _ _ us hl => match us, hl with | [_], _ => rfl
theorem b_value_words (T : Txt K mg) : Binds K (fdOf K (A_value_words K)) ["value"] [] := T.d_value_words.binds fun _ _ _ _ _ _ us hl => match us, hl with | [_], _ => rfl
theorem b_value_text (T : Txt K mg) : Binds K (fdOf K (A_value_text K)) ["value"] [] := T.d_value_text.binds fun _ _ _ _ _ _ us hl => match us, hl with | [_], _ => rfl
theorem b_row_text (T : Txt K mg) : Binds K (fdOf K (A_row_text K)) ["row"] [] := T.d_row_text.binds fun _ _ _ _ _ _ us hl => match us, hl with | [_], _ => rfl
theorem b_lines_of (T : Txt K mg) : Binds K (fdOf K (A_lines_of K)) ["rows", "ahead"] [] := T.d_lines_of.binds fun _ _ _ _ _ _ us hl => match us, hl with | [_, _], _ => rfl
theorem b_written (T : Txt K mg) : Binds K (fdOf K (A_written K)) ["program"] [] := T.d_written.binds fun _ _ _ _ _ _ us hl => match us, hl with | [_], _ => rfl
theorem b_law_cell_at (T : Txt K mg) : Binds K (fdOf K (A_law_cell_at K)) ["_law_script", "_law_k"] [] := T.d_law_cell_at.binds fun _ _ _ _ _ _ us hl => match us, hl with | [_, _], _ => rfl
theorem b_law_state (T : Txt K mg) : Binds K (fdOf K (A_law_state K)) ["_law_cell", "_law_k"] [] := T.d_law_state.binds fun _ _ _ _ _ _ us hl => match us, hl with | [_, _], _ => rfl
theorem b_law_next (T : Txt K mg) : Binds K (fdOf K (A_law_next K)) ["_law_state_here", "_law_size"] [] := T.d_law_next.binds fun _ _ _ _ _ _ us hl => match us, hl with | [_, _], _ => rfl
theorem b_law_class (T : Txt K mg) : Binds K (fdOf K (A_law_class K)) ["_law_e"] [] := T.d_law_class.binds fun _ _ _ _ _ _ us hl => match us, hl with | [_], _ => rfl
theorem b_law_value (T : Txt K mg) : Binds K (fdOf K (A_law_value K)) ["_law_deep", "_law_kind"] [] := T.d_law_value.binds fun _ _ _ _ _ _ us hl => match us, hl with | [_, _], _ => rfl
theorem b_law_lines (T : Txt K mg) : Binds K (fdOf K (A_law_lines K)) ["_law_state_here", "_law_deep", "_law_value_here"] [] := T.d_law_lines.binds fun _ _ _ _ _ _ us hl => match us, hl with | [_, _, _], _ => rfl
theorem b_law_wrong (T : Txt K mg) : Binds K (fdOf K (A_law_wrong K)) ["_law_lines_here", "_law_state_here"] [] := T.d_law_wrong.binds fun _ _ _ _ _ _ us hl => match us, hl with | [_, _], _ => rfl
theorem b_law_read (T : Txt K mg) : Binds K (fdOf K (A_law_read K)) ["_law_text"] [] := T.d_law_read.binds fun _ _ _ _ _ _ us hl => match us, hl with | [_], _ => rfl
theorem b_law (T : Txt K mg) : Binds K (fdOf K (A_law K)) ["_law_script"] [] := T.d_law.binds fun _ _ _ _ _ _ us hl => match us, hl with | [_], _ => rfl
end
end Rt
end S_RtTxt

section S_RtHead
set_option Elab.async false
set_option linter.all false
set_option maxRecDepth 100000
set_option maxHeartbeats 0
/-! The head: facts by names, one kernel run of the top. Printed by gen_head2.py. -/
namespace Rt
open PySem L2
abbrev R : PySem.W.OpenRow := PySem.W.OpenLaw.row PySem.Challenge.rw_retrace_k14_whole_however_deep
def hk : PySem.W.Hook where
  α := He.AlD × Bool
  obs := fun s => obsR s.heap.get?
  val := fun _ => (He.valD fn, true)
  says := fun _ h => ∃ K : PySem.W.Frag, K.In h ∧ Says K
  of := fun _ _ e => ⟨_, He.frG_in, congrArg (fun z : He.AlD × Bool => z.1) e, congrArg (fun z : He.AlD × Bool => z.2) e⟩
  keeps := fun _ _ _ ⟨K, hK, c⟩ k => ⟨K, PySem.W.Frag.In.keeps hK k, c⟩
def ob (s : PySem.W.SharedT) : He.AlD × Bool := obsR (HandSHeadRun.getT s)
theorem ob_eq (s : PySem.W.SharedT) : ob s = hk.obs s.abs := congrArg obsR (funext (HandSHeadRun.getT_eq s))
def names0 : List PySem.Str := ["RunError", "NoProgram", "NoRow", "TooLong", "NoWorld", "NoText", "NoStep", "NoCell", "NoDoor", "NoWord", "rows_within", "put_rows", "rows_of", "LETTERS", "LONGEST_NAME", "GREATEST", "DEEPEST_values", "is_name", "is_number", "is_one_of", "values_in", "is_plain", "is_within", "is_value", "MOST_BOXES", "MOST_LISTS", "MOST_THINGS", "MOST_FUNCTIONS", "MOST_NAMES", "DEEPEST_programs"]
def names1 : List PySem.Str := ["MOST_ROWS", "Scope", "Part", "BoxPart", "ListPart", "DoorPart", "FunctionPart", "ValuePart", "ValuesPart", "RowsPart", "parts_of", "is_row", "are_unlike", "is_tuple", "is_pair", "are_numbers", "are_names", "are_stores", "is_function", "are_functions", "need_rows", "program_of", "FIGURES", "MOST_FIGURES", "number_of", "Words", "begun_value", "next_value", "plain_row", "Block"]
def names2 : List PySem.Str := ["IfBlock", "WhileBlock", "TryBlock", "Lines", "begun_block", "read_rows", "read_stores", "read_function", "read", "value_words", "value_text", "row_text", "lines_of", "function_lines", "written", "_law_cell_at", "_law_state", "_law_next", "_law_class", "_law_value", "_law_lines", "_law_wrong", "_law_read"]
def names : List PySem.Str := names0 ++ (names1 ++ (names2))
theorem run (w : World) : HandSHeadRun.RunEq R (PySem.W.view R.prog [90]) hk ob 40000 names w := by
  intro os
  kernel_rfl
end Rt
end S_RtHead

section S_RtData
set_option Elab.async false
set_option linter.all false
set_option maxRecDepth 100000
set_option maxHeartbeats 2000000
/-! The data: values, rows; how tuples of the heap bear them; what calls leave as it is. -/
namespace Rt
open PySem PySem.Spec PyProof.Rows L2

/-! ### what stays -/
/-- tuples stay -/
def TupS (H H' : Hp) : Prop := ∀ a xs, H a = some (.tup xs) → H' a = some (.tup xs)
theorem TupS.rfl' (H : Hp) : TupS H H := fun _ _ h => h
theorem TupS.trans {H H1 H2 : Hp} (a : TupS H H1) (b : TupS H1 H2) : TupS H H2 := fun c xs h => b c xs (a c xs h)
theorem ts_same {H H' : Hp} (h : Same H H') : TupS H H' := fun a xs e => h a _ e
/-- all but what stands at a stays -/
def But (a : Addr) (H H' : Hp) : Prop := ∀ b o, b ≠ a → H b = some o → H' b = some o
theorem But.rfl' (a : Addr) (H : Hp) : But a H H := fun _ _ _ h => h
theorem But.trans {a : Addr} {H H1 H2 : Hp} (x : But a H H1) (y : But a H1 H2) : But a H H2 := fun b o n h => y b o n (x b o n h)
theorem but_same {a : Addr} {H H' : Hp} (h : Same H H') : But a H H' := fun b o _ e => h b o e
theorem but_upd {a : Addr} {H : Hp} {o : HO} : But a H (upd H a o) := fun b u n e => by rw [upd_ne n]; exact e
theorem But.ts {a : Addr} {H H' : Hp} (h : But a H H') (n : ∀ xs, H a ≠ some (.tup xs)) : TupS H H' := fun b xs e => h b _ (fun z => n xs (z ▸ e)) e
/-- .. but a and b -/
def But2 (a b : Addr) (H H' : Hp) : Prop := ∀ c o, c ≠ a → c ≠ b → H c = some o → H' c = some o
theorem same_new {H : Hp} {p : Addr} {o : HO} (h : H p = none) : Same H (upd H p o) := fun b u e => by
  rw [upd_ne (ne_of_none e h)]
  exact e
/-- a change at an address that was free before: what was tracked before stays -/
theorem sover {H H' : Hp} {p : Addr} {o : HO} (s : Same H H') (h : H p = none) : Same H (upd H' p o) := fun b u e => by
  rw [upd_ne (ne_of_none e h)]
  exact s b u e
theorem same_trans_new {H H' : Hp} {p : Addr} {o : HO} (s : Same H H') (h : H' p = none) : Same H (upd H' p o) := s.trans (same_new h)
theorem But.over {H H' : Hp} {a p : Addr} {o : HO} (s : But a H H') (h : H p = none) : But a H (upd H' p o) := fun b u n e => by
  rw [upd_ne (ne_of_none e h)]
  exact s b u n e
theorem but_same_of {x : Addr} {H H1 H2 : Hp} (B : But x H1 H2) (S : Same H H1) (n : H x = none) : Same H H2 := fun b o e => B b o (ne_of_none e n) (S b o e)
theorem But.at_ {H H' : Hp} {a : Addr} {o : HO} (s : But a H H') : But a H (upd H' a o) := fun b u n e => by
  rw [upd_ne n]
  exact s b u n e
theorem But.new {H H' : Hp} {a p : Addr} {o : HO} (s : But a H H') (h : H' p = none) : But a H (upd H' p o) := fun b u n e => by
  have z := s b u n e
  rw [upd_ne (ne_of_none z h)]
  exact z
theorem But.free {a L : Addr} {H H' : Hp} {o : HO} (s : But a H H') (h : H' a = some o) (n : H' L = none) : H L = none := by
  cases e : H L with
  | none => rfl
  | some u =>
    rw [s L u (ne_of_none h n).symm e] at n
    cases n
theorem But.seqT {K : PySem.W.Frag} {H H' : Hp} {a b : Addr} {xs : List V} (e : But a H H') (n : b ≠ a) (h : H b = some (.tup xs)) : H' b = some (.tup xs) := e b _ n h
theorem sseqT {K : PySem.W.Frag} {H H' : Hp} {a : Addr} {xs : List V} (e : Same H H') (h : SqT K H a xs) : SqT K H' a xs := by
  rcases h with (h | ⟨o, h⟩) | h
  · exact .inl (.inl (e _ _ h))
  · exact .inl (.inr ⟨o, e _ _ h⟩)
  · exact .inr h

/-- a new object leaves what stands -/
theorem upk {H : Hp} {p q : Addr} {o u : HO} (h : H p = some u) (n : H q = none) : upd H q o p = some u := by
  rw [upd_ne (ne_of_none h n)]
  exact h
/-- an object of another kind is changed -/
theorem upx {H : Hp} {p q : Addr} {o u v : HO} (h : H p = some u) (h' : H q = some v) (d : u ≠ v) : upd H q o p = some u := by
  rw [upd_ne (ne_of h h' d)]
  exact h
theorem upn {H : Hp} {p q : Addr} {o u : HO} (h : H p = some u) (d : p ≠ q) : upd H q o p = some u := by
  rw [upd_ne d]
  exact h
/-! ### lists of pairs by name -/
theorem lk0 {x : Str} {v : V} {r : List (Str × V)} : List.lookup x ((x, v) :: r) = some v := by simp [List.lookup]
theorem lk1 {x y : Str} {v : V} {r : List (Str × V)} (h : (x == y) = false) : List.lookup x ((y, v) :: r) = List.lookup x r := by simp [List.lookup, h]
theorem lkn {x : Str} : List.lookup x ([] : List (Str × V)) = none := rfl
theorem pt0 {x : Str} {u v : V} {r : List (Str × V)} : putF x v ((x, u) :: r) = (x, v) :: r := by
  show (if x = x then _ else _) = _
  rw [if_pos rfl]
theorem pt1 {x y : Str} {u v : V} {r : List (Str × V)} (h : (x == y) = false) : putF x v ((y, u) :: r) = (y, u) :: putF x v r := by
  show (if y = x then _ else _) = _
  rw [if_neg (fun e => by rw [e, beq_self_eq_true] at h; cases h)]
theorem ptn {x : Str} {v : V} : putF x v [] = [(x, v)] := rfl

/-! ### values -/
inductive Vl where
  | num | box | size
  | nt (a : Vl)
  | pl (a b : Vl)
  | it (a : Vl)
def Vl.deep : Vl → Nat
  | .num => 1
  | .box => 1
  | .size => 1
  | .nt a => a.deep + 1
  | .pl a b => max a.deep b.deep + 1
  | .it a => a.deep + 1
/-- the words -/
def vW : Vl → List Str
  | .num => ["number", "1"]
  | .box => ["box", "x"]
  | .size => ["size", "l"]
  | .nt a => "not" :: vW a
  | .pl a b => "plus" :: (vW a ++ vW b)
  | .it a => "item" :: "l" :: vW a
/-- the things of its tuple -/
def VlI (H : Hp) : Vl → List V → Prop
  | .num, xs => xs = [.str "number", .int 1]
  | .box, xs => xs = [.str "box", .str "x"]
  | .size, xs => xs = [.str "size", .str "l"]
  | .nt a, xs => ∃ q ys, xs = [.str "not", .ref q] ∧ H q = some (.tup ys) ∧ VlI H a ys
  | .pl a b, xs => ∃ q r ys zs, xs = [.str "plus", .ref q, .ref r] ∧ H q = some (.tup ys) ∧ VlI H a ys ∧ H r = some (.tup zs) ∧ VlI H b zs
  | .it a, xs => ∃ q ys, xs = [.str "item", .str "l", .ref q] ∧ H q = some (.tup ys) ∧ VlI H a ys
theorem VlI.mono {H H' : Hp} (t : TupS H H') : ∀ {v : Vl} {xs : List V}, VlI H v xs → VlI H' v xs
  | .num, _, h => h
  | .box, _, h => h
  | .size, _, h => h
  | .nt a, _, ⟨q, ys, e, h1, h2⟩ => ⟨q, ys, e, t _ _ h1, VlI.mono t h2⟩
  | .pl a b, _, ⟨q, r, ys, zs, e, h1, h2, h3, h4⟩ => ⟨q, r, ys, zs, e, t _ _ h1, VlI.mono t h2, t _ _ h3, VlI.mono t h4⟩
  | .it a, _, ⟨q, ys, e, h1, h2⟩ => ⟨q, ys, e, t _ _ h1, VlI.mono t h2⟩
/-- a value stands at q -/
def VlP (H : Hp) (v : Vl) (q : Addr) : Prop := ∃ ys, H q = some (.tup ys) ∧ VlI H v ys
theorem VlP.mono {H H' : Hp} (t : TupS H H') {v : Vl} {q : Addr} (h : VlP H v q) : VlP H' v q :=
  let ⟨ys, h1, h2⟩ := h
  ⟨ys, t _ _ h1, h2.mono t⟩

/-! ### rows: a tuple of at most one row -/
inductive Rs where
  | none
  | tell (v : Vl)
  | ifR (a : Rs)
  | whR (a : Rs)
  | tryR (a b : Rs)
def RsI (H : Hp) : Rs → List V → Prop
  | .none, xs => xs = []
  | .tell v, xs => ∃ p q, xs = [.ref p] ∧ H p = some (.tup [.str "tell", .ref q]) ∧ VlP H v q
  | .ifR a, xs => ∃ p q s t ys, xs = [.ref p] ∧ H p = some (.tup [.str "if", .ref q, .ref s, .ref t]) ∧ VlP H .box q ∧ H s = some (.tup ys) ∧ RsI H a ys ∧ H t = some (.tup [])
  | .whR a, xs => ∃ p q s ys, xs = [.ref p] ∧ H p = some (.tup [.str "while", .ref q, .ref s]) ∧ VlP H .box q ∧ H s = some (.tup ys) ∧ RsI H a ys
  | .tryR a b, xs => ∃ p s t ys zs, xs = [.ref p] ∧ H p = some (.tup [.str "try", .ref s, .str "x", .ref t]) ∧ H s = some (.tup ys) ∧ RsI H a ys ∧ H t = some (.tup zs) ∧ RsI H b zs
theorem RsI.mono {H H' : Hp} (t : TupS H H') : ∀ {r : Rs} {xs : List V}, RsI H r xs → RsI H' r xs
  | .none, _, h => h
  | .tell v, _, ⟨p, q, e, h1, h2⟩ => ⟨p, q, e, t _ _ h1, h2.mono t⟩
  | .ifR a, _, ⟨p, q, u, w, ys, e, h1, h2, h3, h4, h5⟩ => ⟨p, q, u, w, ys, e, t _ _ h1, h2.mono t, t _ _ h3, RsI.mono t h4, t _ _ h5⟩
  | .whR a, _, ⟨p, q, u, ys, e, h1, h2, h3, h4⟩ => ⟨p, q, u, ys, e, t _ _ h1, h2.mono t, t _ _ h3, RsI.mono t h4⟩
  | .tryR a b, _, ⟨p, u, w, ys, zs, e, h1, h2, h3, h4, h5⟩ => ⟨p, u, w, ys, zs, e, t _ _ h1, t _ _ h2, RsI.mono t h3, t _ _ h4, RsI.mono t h5⟩
/-- one row stands at p -/
def RwP (H : Hp) (r : Rs) (p : Addr) : Prop := RsI H r [.ref p] ∧ r ≠ .none
theorem RsI.len {H : Hp} : ∀ {r : Rs} {xs : List V}, RsI H r xs → xs.length ≤ 1
  | .none, _, h => by cases h; decide
  | .tell v, _, ⟨p, q, e, _⟩ => by rw [e]; exact Nat.le_refl 1
  | .ifR a, _, ⟨p, q, u, w, ys, e, _⟩ => by rw [e]; exact Nat.le_refl 1
  | .whR a, _, ⟨p, q, u, ys, e, _⟩ => by rw [e]; exact Nat.le_refl 1
  | .tryR a b, _, ⟨p, u, w, ys, zs, e, _⟩ => by rw [e]; exact Nat.le_refl 1

/-! ### a row of words, an object Words -/
abbrev strV (ws : List Str) : List V := ws.map V.str
def woF (l : Addr) (i : Nat) : List (Str × V) := [("words", .ref l), ("place", .int (i : Int))]
/-- an object Words -/
abbrev wo (K : PySem.W.Frag) (dx l : Addr) (i : Nat) : HO := .ins (C_Words K) dx (woF l i)
theorem s_pw : (("place" : Str) == "words") = false := by decide +kernel
theorem woF_words {l : Addr} {i : Nat} : (woF l i).lookup ("words" : Str) = some (.ref l) := lk0
theorem woF_place {l : Addr} {i : Nat} : (woF l i).lookup ("place" : Str) = some (.int (i : Int)) := (lk1 s_pw).trans lk0
theorem woF_put {l : Addr} {i : Nat} {z : Int} {j : Nat} (h : z = (j : Int)) : putF "place" (.int z) (woF l i) = woF l j := by
  subst h
  exact (pt1 s_pw).trans (by rw [pt0]; rfl)
theorem woF_no {l : Addr} {i : Nat} {m : Str} (h1 : (m == ("words" : Str)) = false) (h2 : (m == ("place" : Str)) = false) : (woF l i).lookup m = none := (lk1 h1).trans ((lk1 h2).trans lkn)
theorem strV_get {ws : List Str} {i : Nat} {x : Str} (h : ws[i]? = some x) : (strV ws)[i]? = some (V.str x) := by
  rw [List.getElem?_map, h]
  rfl
/-! ### for over a text -/
theorem for_str {x : Str} {g : TG} {tb : L2.TS} {D : Ends} {σ : L2.St} {H : Hp} (Pv : Nat → L2.St → Hp → Prop) (h0 : Pv 0 σ H)
    (hs : ∀ i c σ H, x.cps[i]? = some c → Pv i σ H → g (.str ⟨#[c]⟩) σ H fun σ2 H2 => tb { D with nx := Pv (i + 1), ct := Pv (i + 1), bk := D.nx } σ2 H2)
    (hd : ∀ σ H, Pv x.cps.size σ H → D.nx σ H) :
    ∃ W : Nat → Nat → L2.St → Hp → Prop, (∃ m, W 0 m σ H) ∧ ∀ i m σ H, W i m σ H →
      ((Its x).stop i H ∧ D.nx σ H) ∨ ((Its x).go i H ∧ ∃ N : L2.St → Hp → Prop, (∀ σ' H', N σ' H' → ∃ m', m' < m ∧ W (i + 1) m' σ' H') ∧
        ∀ y H', (Its x).yld i H y H' → g y σ H' fun σ2 H2 => tb { D with nx := N, ct := N, bk := D.nx } σ2 H2) := by
  refine ⟨fun i m σ H => m = x.cps.size - i ∧ i ≤ x.cps.size ∧ Pv i σ H, ⟨x.cps.size, rfl, Nat.zero_le _, h0⟩, ?_⟩
  rintro i m σ H ⟨rfl, hi, p⟩
  by_cases hlt : i < x.cps.size
  · refine .inr ⟨hlt, Pv (i + 1), fun σ' H' p' => ⟨x.cps.size - (i + 1), by omega, rfl, hlt, p'⟩, fun y H' hy => ?_⟩
    obtain ⟨e1, c, e2, e3⟩ := hy
    subst e1 e3
    exact hs i c σ _ e2 p
  · have e : i = x.cps.size := by omega
    subst e
    exact .inl ⟨Nat.le_refl _, hd σ H p⟩
/-! ### constants of the module -/
theorem pe_gi {X : Cx} {x : Str} {i : Int} {pos : Pos} (h : ∃ t, X.mg x = some (.int i t)) (hg : Gl X x := by rfl) (hd : (x == ("__debug__" : Str)) = false := by decide) : PE X (.Name x pos) (tC (.int i)) :=
  let ⟨t, e⟩ := h
  pe_glob (v := .int i) hg e ⟨t, rfl⟩ hd
theorem pe_gs {X : Cx} {x z : Str} {pos : Pos} (h : ∃ t, X.mg x = some (.str z t)) (hg : Gl X x := by rfl) (hd : (x == ("__debug__" : Str)) = false := by decide) : PE X (.Name x pos) (tC (.str z)) :=
  let ⟨t, e⟩ := h
  pe_glob (v := .str z) hg e ⟨t, rfl⟩ hd
/-! ### slices -/
theorem cut_one {x : V} {xs : List V} : cutV (x :: xs) (some 1) none = xs := by
  unfold cutV
  have e1 : HT.sIx (x :: xs).length 0 (some 1) = 1 := by
    have := HT.sIx_nat (x :: xs).length 0 1
    rw [List.length_cons] at this ⊢
    rw [show ((1 : Nat) : Int) = 1 from rfl] at this
    rw [this]
    omega
  rw [e1, HT.sIx_none]
  show (xs.drop 0).take _ = xs
  rw [List.drop_zero]
  exact List.take_of_length_le (by rw [List.length_cons]; omega)
/-! ### tests whose answer is known -/
theorem itT {c : Bool} {A B : Prop} (hc : c = true) (h : A) : if c = true then A else B := by
  rw [if_pos hc]
  exact h
theorem itF {c : Bool} {A B : Prop} (hc : c = false) (h : B) : if c = true then A else B := by
  rw [if_neg (by rw [hc]; exact Bool.false_ne_true)]
  exact h
end Rt
end S_RtData

section S_RtNum
set_option Elab.async false
set_option linter.all false
set_option maxRecDepth 100000
set_option maxHeartbeats 4000000
/-! number_of, Words, values_in -/
namespace Rt
open PySem PySem.Spec PyProof.Rows L2
section
variable {P : Program} {w : World} {K : PySem.W.Frag} {mg : Str → Option Value} {base : Heap}

/-! ### values_in(word) -/
def spVin : Sp := fun vs H Q _ => ∃ z : Str, vs = [.str z] ∧ ∃ v : V,
  (((z = "number" ∨ z = "box" ∨ z = "size") ∧ v = .int 0) ∨ ((z = "not" ∨ z = "item") ∧ v = .int 1) ∨ (z = "plus" ∧ v = .int 2)) ∧ ∀ H', Same H H' → Q v H'
theorem sc_vin : FnScope ["word"] ["word"] (defScope S_values_in) := ⟨rfl, rfl, rfl, by decide +kernel, rfl, by decide +kernel, by decide +kernel⟩
theorem ok_vin (T : Txt K mg) : FnOk P w K mg base CX0 1 (A_values_in K) (fdOf K (A_values_in K)) ["word"] spVin := by
  refine T.d_values_in.ok sc_vin (fun vs H Q E h => ?_) (fun cdv A outer s H vs Q E hr h => ?_)
  · obtain ⟨z, rfl, _⟩ := h
    rfl
  · obtain ⟨z, rfl, v, h, q⟩ := h
    refine ⟨_, pss_cons (ps_if (pt_cmpR op_in_seq (pv 0) (pe_tup (pa_cons pe_str (pa_cons pe_str (pa_cons pe_str pa_nil)))) (by rfl)) (pss_one (ps_ret pe_int)) pss_nil)
      (pss_cons (ps_if (pt_cmpR op_in_seq (pv 0) (pe_tup (pa_cons pe_str (pa_cons pe_str pa_nil))) (by rfl)) (pss_one (ps_ret pe_int)) pss_nil)
      (pss_cons (ps_if (pt_cmpR op_in_seq (pv 0) (pe_tup (pa_cons pe_str (pa_cons pe_str (pa_cons pe_str (pa_cons pe_str (pa_cons pe_str (pa_cons pe_str (pa_cons pe_str pa_nil)))))))) (by rfl)) (pss_one (ps_ret pe_int)) pss_nil)
      (pss_one (ps_ret pe_non)))), ?_⟩
    refine ⟨_, rfl, (by show 3 ≤ sizeLine; decide), fun p hp => ⟨p, _, rfl, .inr (SqT.of upd_same), rfl, (by decide +kernel), _, rfl, ?_⟩⟩
    have s1 := same_new (o := HO.tup [V.str "number", V.str "box", V.str "size"]) hp
    rcases h with ⟨h, rfl⟩ | ⟨h, rfl⟩ | ⟨rfl, rfl⟩
    · rcases h with rfl | rfl | rfl
      · exact itT (by decide +kernel) (q _ s1)
      · exact itT (by decide +kernel) (q _ s1)
      · exact itT (by decide +kernel) (q _ s1)
    · refine itF (by rcases h with rfl | rfl <;> decide +kernel) ?_
      refine ⟨_, rfl, (by show 2 ≤ sizeLine; decide), fun p2 hp2 => ⟨p2, _, rfl, .inr (SqT.of upd_same), rfl, (by decide +kernel), _, rfl, ?_⟩⟩
      exact itT (by rcases h with rfl | rfl <;> decide +kernel) (q _ (same_trans_new s1 hp2))
    · refine itF (by decide +kernel) ?_
      refine ⟨_, rfl, (by show 2 ≤ sizeLine; decide), fun p2 hp2 => ⟨p2, _, rfl, .inr (SqT.of upd_same), rfl, (by decide +kernel), _, rfl, ?_⟩⟩
      refine itF (by decide +kernel) ?_
      refine ⟨_, rfl, (by show 7 ≤ sizeLine; decide), fun p3 hp3 => ⟨p3, _, rfl, .inr (SqT.of upd_same), rfl, (by decide +kernel), _, rfl, ?_⟩⟩
      exact itT (by decide +kernel) (q _ (same_trans_new (same_trans_new s1 hp2) hp3))

/-! ### number_of(word) -/
def numW (z : Str) (n : Nat) : Prop := (z = "1" ∧ n = 1) ∨ (z = "2" ∧ n = 2) ∨ (z = "7" ∧ n = 7)
def spNum (C : Addr) : Sp := fun vs H Q E => ∃ z : Str, vs = [.str z] ∧ ((∃ n : Nat, numW z n ∧ Q (.int (n : Int)) H) ∨ (z = "box" ∧ E (.ref C) none H))
theorem sc_num : FnScope ["word", "sign"] ["word"] (defScope S_number_of) := ⟨rfl, rfl, rfl, by decide +kernel, rfl, by decide +kernel, by decide +kernel⟩
theorem ok_num (T : Txt K mg) : FnOk P w K mg base (CXN P w) 1 (A_number_of K) (fdOf K (A_number_of K)) ["word"] (spNum (C_NoText K)) := by
  refine okX T.d_number_of sc_num (fun vs H Q E h => ?_) (fun cdv A outer s H vs Q E hr h => ?_)
  · obtain ⟨z, rfl, _⟩ := h
    rfl
  · obtain ⟨z, rfl, h⟩ := h
    refine ⟨_, pss_cons (ps_if (PW.pt (pw_or (pt_not (pt_chain op_le op_le pe_int (pe_callB call_len_str (by rfl) T.f_len PySem.boot_len (pa_cons (pv 0) pa_nil)) (pe_gi T.i_MOST_FIGURES)))
          (pw_or1 (PW.pt (pw_and (pt_cmpR op_eq (pe_ix ix_str (pv 0) pe_int (fun _ _ => rfl)) pe_str (nomark _)) (pw_and1 (pt_cmpR op_gt (pe_callB call_len_str (by rfl) T.f_len PySem.boot_len (pa_cons (pv 0) pa_nil)) pe_int (nomark _))))))))
        (pss_one (ps_raiseK rfl takesE T.e_NoText T.g_NoText rfl)) pss_nil)
      (pss_cons (ps_for PassesOwn.leaving rfl (pi_str (pv 0)) (pg_name (i := 1) sc_num.nd rfl (.inl rfl))
        (pss_one (ps_if (pt_cmpR op_notIn_sign (pv 1) (pe_gs T.s_FIGURES) (by rfl)) (pss_one (ps_raiseK rfl takesE T.e_NoText T.g_NoText rfl)) pss_nil)))
      (pss_one (ps_ret (pe_callTy call_int_str (by rfl) T.f_int (by decide +kernel) (pa_cons (pv 0) pa_nil))))), ?_⟩
    rcases h with ⟨n, hn, q⟩ | ⟨rfl, e⟩
    · have key : z.length = 1 ∧ (∃ c, z.cps = #[c] ∧ c ∈ ("0123456789" : Str).cps.toList ∧ decide (V.str ⟨#[c]⟩ = V.str "0") = false) ∧ PySem.intText? z = some (n : Int) := by
        rcases hn with ⟨rfl, rfl⟩ | ⟨rfl, rfl⟩ | ⟨rfl, rfl⟩
        · exact ⟨by decide +kernel, ⟨49, by decide +kernel, by decide +kernel, by decide +kernel⟩, by decide +kernel⟩
        · exact ⟨by decide +kernel, ⟨50, by decide +kernel, by decide +kernel, by decide +kernel⟩, by decide +kernel⟩
        · exact ⟨by decide +kernel, ⟨55, by decide +kernel, by decide +kernel, by decide +kernel⟩, by decide +kernel⟩
      obtain ⟨hl, ⟨c, hc, hm, h0⟩, hi⟩ := key
      have hz : z.length ≤ sizeLine := by rw [hl]; decide
      have l0 : ((z.length : Nat) : Int) = 1 := by rw [hl]; rfl
      refine ⟨_, rfl, z, rfl, hz, _, _, rfl, rfl, _, rfl, itT (by rw [l0]; rfl) ⟨_, _, rfl, rfl, _, rfl, ?_⟩⟩
      refine itF (by rw [l0]; rfl) ?_
      refine ⟨_, rfl, z, 0, c, rfl, rfl, hz, atI_nat (j := 0) (by rw [hc]; rfl), rfl, _, rfl, ?_⟩
      refine itF h0 (iteF ?_)
      refine ⟨_, rfl, z, rfl, for_str (x := z) (fun i σ H' => H' = H ∧ ∃ v, σ = [some (.str z), v]) ⟨rfl, none, rfl⟩ ?_ ?_⟩
      · rintro i d σ H' hd ⟨rfl, v, rfl⟩
        have hi0 : i = 0 ∧ d = c := by
          rw [hc] at hd
          cases i with
          | zero => exact ⟨rfl, (Option.some.inj hd).symm⟩
          | succ i => cases i <;> cases hd
        obtain ⟨rfl, rfl⟩ := hi0
        refine ⟨_, rfl, _, _, rfl, rfl, _, rfl, ?_⟩
        exact itF (by rw [decide_eq_true hm]; rfl) ⟨rfl, _, rfl⟩
      · rintro σ H' ⟨rfl, v, rfl⟩
        exact ⟨_, rfl, _, _, rfl, hi, by rw [hl]; decide, q⟩
    · refine ⟨_, rfl, _, rfl, (by decide +kernel), _, _, rfl, rfl, _, rfl, itT (by decide +kernel) ⟨_, _, rfl, rfl, _, rfl, ?_⟩⟩
      refine itF (by decide +kernel) ?_
      refine ⟨_, rfl, _, 0, 98, rfl, rfl, (by decide +kernel), atI_nat (j := 0) (by decide +kernel), rfl, _, rfl, ?_⟩
      refine itF (by decide +kernel) (iteF ?_)
      refine ⟨_, rfl, _, rfl, for_str (x := "box") (fun i σ H' => i = 0 ∧ H' = H ∧ σ = [some (.str "box"), none]) ⟨rfl, rfl, rfl⟩ ?_ ?_⟩
      · rintro i d σ H' hd ⟨rfl, rfl, rfl⟩
        have hd98 : d = 98 := by
          have z : some 98 = some d := (show (("box" : Str).cps)[0]? = some 98 by decide +kernel).symm.trans hd
          exact (Option.some.inj z).symm
        subst hd98
        exact ⟨_, rfl, _, _, rfl, rfl, _, rfl, itT (by decide +kernel) e⟩
      · rintro σ H' ⟨z, _, _⟩
        exact absurd z (by decide +kernel)
end
end Rt
end S_RtNum

section S_RtWords
set_option Elab.async false
set_option linter.all false
set_option maxRecDepth 100000
set_option maxHeartbeats 4000000
/-! Words: its methods; begun_value -/
namespace Rt
open PySem PySem.Spec PyProof.Rows L2
section
variable {P : Program} {w : World} {K : PySem.W.Frag} {mg : Str → Option Value} {base : Heap}

def spWoInit (K : PySem.W.Frag) : Sp := fun vs H Q _ => ∃ p l dx, vs = [.ref p, .ref l] ∧ H p = some (.ins (C_Words K) dx []) ∧ Q .non (upd H p (wo K dx l 0))
theorem sc_woInit : FnScope ["self", "words"] ["self", "words"] (defScope S_Words_init) := ⟨rfl, rfl, rfl, by decide +kernel, rfl, by decide +kernel, by decide +kernel⟩
theorem ok_woInit (T : Txt K mg) : FnOk P w K mg base CX0 1 (A_Words_init K) (fdOf K (A_Words_init K)) ["self", "words"] (spWoInit K) := by
  refine T.d_Words_init.ok sc_woInit (fun vs H Q E h => ?_) (fun cdv A outer s H vs Q E hr h => ?_)
  · obtain ⟨p, l, dx, rfl, _⟩ := h
    rfl
  · obtain ⟨p, l, dx, rfl, hp, q⟩ := h
    refine ⟨_, pss_cons (ps_fld (pv 0) (pv 1) rfl) (pss_one (ps_fld (pv 0) pe_int rfl)), ?_⟩
    refine ⟨_, rfl, _, rfl, p, _, dx, _, rfl, hp, T.c_Words, T.n_Words_words, (by show 0 < 1000; decide), _, rfl, p, _, dx, _, rfl, upd_same, T.c_Words, T.n_Words_place, (by show 1 < 1000; decide), ?_⟩
    show Q .non (upd (upd H p _) p _)
    rw [upd_upd]
    have e : putF "place" (.int 0) (putF "words" (.ref l) []) = woF l 0 := by
      rw [ptn, pt1 s_pw, ptn]
      rfl
    rw [e]
    exact q

def spLeft (K : PySem.W.Frag) : Sp := fun vs H Q _ => ∃ (p dx l : Addr) (ws : List Str) (i : Nat), vs = [.ref p] ∧ H p = some (wo K dx l i) ∧ H l = some (.lst (strV ws)) ∧ Q (.bl (decide (i < ws.length))) H
theorem sc_left : FnScope ["self"] ["self"] (defScope S_Words_left) := ⟨rfl, rfl, rfl, by decide +kernel, rfl, by decide +kernel, by decide +kernel⟩
theorem ok_left (T : Txt K mg) : FnOk P w K mg base CX0 1 (A_Words_left K) (fdOf K (A_Words_left K)) ["self"] (spLeft K) := by
  refine T.d_Words_left.ok sc_left (fun vs H Q E h => ?_) (fun cdv A outer s H vs Q E hr h => ?_)
  · obtain ⟨p, dx, l, ws, i, rfl, _⟩ := h
    rfl
  · obtain ⟨p, dx, l, ws, i, rfl, hp, hl, q⟩ := h
    refine ⟨_, pss_one (ps_ret (pe_cmpR op_lt (pe_fld (pv 0) rfl) (pe_callB call_len_seq (by rfl) T.f_len PySem.boot_len (pa_cons (pe_fld (pv 0) rfl) pa_nil)) (nomark _))), ?_⟩
    refine ⟨_, rfl, p, _, dx, _, _, rfl, hp, T.c_Words, T.n_Words_place, woF_place, _, rfl, p, _, dx, _, _, rfl, hp, T.c_Words, T.n_Words_words, woF_words, l, _, rfl, .inl (SqL.of hl), _, _, rfl, rfl, ?_⟩
    have e : decide ((i : Int) < ((strV ws).length : Int)) = decide (i < ws.length) := by
      rw [List.length_map]
      exact decide_eq_decide.mpr Int.ofNat_lt
    show Q (.bl (decide ((i : Int) < ((strV ws).length : Int)))) H
    rw [e]
    exact q

def spNext (K : PySem.W.Frag) : Sp := fun vs H Q E => ∃ (p dx l : Addr) (ws : List Str) (i : Nat), vs = [.ref p] ∧ H p = some (wo K dx l i) ∧ H l = some (.lst (strV ws)) ∧
  ((∃ x, ws[i]? = some x ∧ Q (.str x) (upd H p (wo K dx l (i + 1)))) ∨ (ws.length ≤ i ∧ E (.ref (C_NoText K)) none H))
theorem sc_next : FnScope ["self"] ["self"] (defScope S_Words_next_word) := ⟨rfl, rfl, rfl, by decide +kernel, rfl, by decide +kernel, by decide +kernel⟩
theorem ok_next (T : Txt K mg) : FnOk P w K mg base (CXN P w) 2 (A_Words_next_word K) (fdOf K (A_Words_next_word K)) ["self"] (spNext K) := by
  have GL : FnOk P w K mg base CX0 1 (A_Words_left K) (fdOf K (A_Words_left K)) ["self"] (spLeft K) := ok_left T
  refine okX T.d_Words_next_word sc_next (fun vs H Q E h => ?_) (fun cdv A outer s H vs Q E hr h => ?_)
  · obtain ⟨p, dx, l, ws, i, rfl, _⟩ := h
    rfl
  · obtain ⟨p, dx, l, ws, i, rfl, hp, hl, h⟩ := h
    refine ⟨_, pss_cons (ps_if (pt_not (pt_val (pe_meth0 (pv 0) T.c_Words T.m_Words_left GL hr (b_Words_left T) .nil pass0))) (pss_one (ps_raiseK rfl takesE T.e_NoText T.g_NoText rfl)) pss_nil)
      (pss_cons (ps_fldaug (pv 0) pe_int in_add)
      (pss_one (ps_ret (pe_ix ix_list (pe_fld (pv 0) rfl) (pe_op op_sub (pe_fld (pv 0) rfl) pe_int) (fun _ _ => rfl))))), ?_⟩
    refine ⟨_, rfl, p, dx, _, rfl, hp, woF_no (by decide +kernel) (by decide +kernel), p, dx, l, ws, i, rfl, hp, hl, _, rfl, ?_⟩
    rcases h with ⟨x, hx, q⟩ | ⟨hi, e⟩
    · have hi : i < ws.length := (List.getElem?_eq_some_iff.mp hx).1
      refine itF (by rw [decide_eq_true hi]; rfl) ?_
      refine ⟨_, rfl, p, _, dx, _, _, rfl, hp, T.c_Words, T.n_Words_place, woF_place, _, _, rfl, rfl, dx, _, hp, (by show 2 < 1000; decide), ?_⟩
      rw [woF_put (j := i + 1) (by omega)]
      have hl' : upd H p (wo K dx l (i + 1)) l = some (.lst (strV ws)) := by
        rw [upd_ne (ne_of hl hp (by intro z; cases z))]
        exact hl
      refine ⟨_, rfl, p, _, dx, _, _, rfl, upd_same, T.c_Words, T.n_Words_words, woF_words, _, rfl, p, _, dx, _, _, rfl, upd_same, T.c_Words, T.n_Words_place, woF_place, _, _, rfl, rfl, l, _, _, _, rfl, rfl, SqL.of hl', at_of (j := i) (by omega) (strV_get hx), q⟩
    · exact itT (by rw [decide_eq_false (by omega)]; rfl) e

def spNeed (K : PySem.W.Frag) : Sp := fun vs H Q E => ∃ (p dx l : Addr) (ws : List Str) (i : Nat), vs = [.ref p] ∧ H p = some (wo K dx l i) ∧ H l = some (.lst (strV ws)) ∧
  ((ws.length ≤ i ∧ Q .non H) ∨ (i < ws.length ∧ E (.ref (C_NoText K)) none H))
theorem sc_need : FnScope ["self"] ["self"] (defScope S_Words_need_end) := ⟨rfl, rfl, rfl, by decide +kernel, rfl, by decide +kernel, by decide +kernel⟩
theorem ok_need (T : Txt K mg) : FnOk P w K mg base (CXN P w) 2 (A_Words_need_end K) (fdOf K (A_Words_need_end K)) ["self"] (spNeed K) := by
  have GL : FnOk P w K mg base CX0 1 (A_Words_left K) (fdOf K (A_Words_left K)) ["self"] (spLeft K) := ok_left T
  refine okX T.d_Words_need_end sc_need (fun vs H Q E h => ?_) (fun cdv A outer s H vs Q E hr h => ?_)
  · obtain ⟨p, dx, l, ws, i, rfl, _⟩ := h
    rfl
  · obtain ⟨p, dx, l, ws, i, rfl, hp, hl, h⟩ := h
    refine ⟨_, pss_one (ps_if (pt_val (pe_meth0 (pv 0) T.c_Words T.m_Words_left GL hr (b_Words_left T) .nil pass0)) (pss_one (ps_raiseK rfl takesE T.e_NoText T.g_NoText rfl)) pss_nil), ?_⟩
    refine ⟨_, rfl, p, dx, _, rfl, hp, woF_no (by decide +kernel) (by decide +kernel), p, dx, l, ws, i, rfl, hp, hl, _, rfl, ?_⟩
    rcases h with ⟨hi, q⟩ | ⟨hi, e⟩
    · exact itF (decide_eq_false (by omega)) q
    · exact itT (decide_eq_true hi) e

/-! ### begun_value(words) -/
/-- what the words ahead begin: the parts, how many values lack, how many words are taken -/
inductive Beg : List Str → List V → Nat → Nat → Prop
  | num {r : List Str} : Beg ("number" :: "1" :: r) [.str "number", .int 1] 0 2
  | box {r : List Str} : Beg ("box" :: "x" :: r) [.str "box", .str "x"] 0 2
  | size {r : List Str} : Beg ("size" :: "l" :: r) [.str "size", .str "l"] 0 2
  | item {r : List Str} : Beg ("item" :: "l" :: r) [.str "item", .str "l"] 1 2
  | nt {r : List Str} : Beg ("not" :: r) [.str "not"] 1 1
  | pl {r : List Str} : Beg ("plus" :: r) [.str "plus"] 2 1
inductive BegBad : List Str → Prop
  | num : BegBad ["number"]
  | box {r : List Str} : BegBad ("number" :: "box" :: r)
  | size : BegBad ["size"]
def spBeg (K : PySem.W.Frag) : Sp := fun vs H Q E => ∃ (p dx l : Addr) (ws : List Str) (i : Nat), vs = [.ref p] ∧ H p = some (wo K dx l i) ∧ H l = some (.lst (strV ws)) ∧
  ((∃ parts c n, Beg (ws.drop i) parts c n ∧ ∀ H' t L, But p H H' → H' p = some (wo K dx l (i + n)) → H' t = some (.tup [.ref L, .int ((c : Nat) : Int)]) → H' L = some (.lst parts) → H L = none → Q (.ref t) H') ∨
    (BegBad (ws.drop i) ∧ ∀ H', E (.ref (C_NoText K)) none H'))
theorem drop_at {ws r : List Str} {i : Nat} {x : Str} (h : ws.drop i = x :: r) : ws[i]? = some x ∧ ws.drop (i + 1) = r := by
  constructor
  · have e : (ws.drop i)[0]? = some x := by rw [h]; rfl
    rw [List.getElem?_drop] at e
    exact e
  · have e : (ws.drop i).drop 1 = r := by rw [h]; rfl
    rw [List.drop_drop] at e
    exact e
theorem drop_end {ws : List Str} {i : Nat} (h : ws.drop i = []) : ws.length ≤ i := List.drop_eq_nil_iff.mp h
theorem sc_beg : FnScope ["words", "word", "count"] ["words"] (defScope S_begun_value) := ⟨rfl, rfl, rfl, by decide +kernel, rfl, by decide +kernel, by decide +kernel⟩
theorem ok_beg (T : Txt K mg) : FnOk P w K mg base (CXN P w) 3 (A_begun_value K) (fdOf K (A_begun_value K)) ["words"] (spBeg K) := by
  have GN : FnOk P w K mg base (CXN P w) 2 (A_Words_next_word K) (fdOf K (A_Words_next_word K)) ["self"] (spNext K) := ok_next T
  have GV : FnOk P w K mg base CX0 1 (A_values_in K) (fdOf K (A_values_in K)) ["word"] spVin := ok_vin T
  have GM : FnOk P w K mg base (CXN P w) 1 (A_number_of K) (fdOf K (A_number_of K)) ["word"] (spNum (C_NoText K)) := ok_num T
  refine okX T.d_begun_value sc_beg (fun vs H Q E h => ?_) (fun cdv A outer s H vs Q E hr h => ?_)
  · obtain ⟨p, dx, l, ws, i, rfl, _⟩ := h
    rfl
  · obtain ⟨p, dx, l, ws, i, rfl, hp, hl, h⟩ := h
    have hr1 : Room 1 _ := hr.mono (by decide)
    refine ⟨_, pss_cons (ps_set (i := 1) sc_beg.nd rfl (.inl rfl) (pe_meth0 (pv 0) T.c_Words T.m_Words_next_word GN hr (b_Words_next_word T) .nil passE))
      (pss_cons (ps_set (i := 2) sc_beg.nd rfl (.inl rfl) (pe_call GV hr1 rfl T.g_values_in T.d_values_in.kp (b_values_in T) .nil pass0 (pa_cons (pv 1) pa_nil)))
      (pss_cons (ps_if (pt_cmpR op_isN (pv 2) pe_non (nomark _)) pss_never pss_nil)
      (pss_cons (ps_if (pt_cmpR op_eq (pv 1) pe_str (nomark _)) (pss_one (ps_ret (pe_tup (pa_cons (pe_lst (pa_cons (pv 1) (pa_cons
            (by exact (pe_call GM hr1 rfl T.g_number_of T.d_number_of.kp (b_number_of T) .nil passE (pa_cons (by exact (pe_meth0 (pv 0) T.c_Words T.m_Words_next_word GN hr (b_Words_next_word T) .nil passE)) pa_nil))) pa_nil))) (pa_cons pe_int pa_nil))))) pss_nil)
      (pss_cons (ps_if (PW.pt (pw_or (pt_cmpR op_eq (pv 2) pe_int (nomark _)) (pw_or1 (pt_cmpR op_eq (pv 1) pe_str (nomark _))))) (pss_one (ps_ret (pe_tup (pa_cons (pe_lst (pa_cons (pv 1) (pa_cons
            (by exact (pe_meth0 (pv 0) T.c_Words T.m_Words_next_word GN hr (b_Words_next_word T) .nil passE)) pa_nil))) (pa_cons (pv 2) pa_nil))))) pss_nil)
      (pss_one (ps_ret (pe_tup (pa_cons (pe_lst (pa_cons (pv 1) pa_nil)) (pa_cons (pv 2) pa_nil))))))))), ?_⟩
    have wl : ∀ {H' : Hp} {j : Nat}, Same (upd H p (wo K dx l j)) H' → H' p = some (wo K dx l j) ∧ H' l = some (.lst (strV ws)) := fun S =>
      ⟨S _ _ upd_same, S _ _ (upx hl hp (by intro z; cases z))⟩
    rcases h with ⟨parts, c, n, hb, q⟩ | ⟨hb, e⟩
    · generalize hR : ws.drop i = R at hb
      cases hb with
      | num =>
        obtain ⟨g1, hR⟩ := drop_at hR
        obtain ⟨g2, hR⟩ := drop_at hR
        refine ⟨_, rfl, p, dx, _, rfl, hp, woF_no (by decide +kernel) (by decide +kernel), p, dx, l, ws, i, rfl, hp, hl, .inl ⟨"number", g1, ?_⟩⟩
        refine ⟨_, rfl, "number", rfl, .int 0, .inl ⟨.inl rfl, rfl⟩, fun H2 S2 => ?_⟩
        obtain ⟨hp2, hl2⟩ := wl S2
        refine ⟨_, rfl, rfl, _, rfl, itF rfl ⟨_, rfl, rfl, _, rfl, itT (by decide +kernel) ?_⟩⟩
        refine ⟨_, rfl, _, rfl, p, dx, _, rfl, hp2, woF_no (by decide +kernel) (by decide +kernel), p, dx, l, ws, i + 1, rfl, hp2, hl2, .inl ⟨"1", g2, ?_⟩⟩
        refine ⟨"1", rfl, .inl ⟨1, .inl ⟨rfl, rfl⟩, (by show 2 ≤ sizeLine; decide), fun L hL => ⟨(by show 2 ≤ sizeLine; decide), fun t ht => ?_⟩⟩⟩
        exact q _ t L (((((but_upd.trans (but_same S2)).at_).new hL).new ht)) (upk (upk upd_same hL) ht) upd_same (upk upd_same ht) (((but_upd.trans (but_same S2)).at_).free upd_same hL)
      | box =>
        obtain ⟨g1, hR⟩ := drop_at hR
        obtain ⟨g2, hR⟩ := drop_at hR
        refine ⟨_, rfl, p, dx, _, rfl, hp, woF_no (by decide +kernel) (by decide +kernel), p, dx, l, ws, i, rfl, hp, hl, .inl ⟨"box", g1, ?_⟩⟩
        refine ⟨_, rfl, "box", rfl, .int 0, .inl ⟨.inr (.inl rfl), rfl⟩, fun H2 S2 => ?_⟩
        obtain ⟨hp2, hl2⟩ := wl S2
        refine ⟨_, rfl, rfl, _, rfl, itF rfl ⟨_, rfl, rfl, _, rfl, itF (by decide +kernel) ?_⟩⟩
        refine ⟨_, rfl, rfl, _, rfl, itT (by decide +kernel) (iteT ?_)⟩
        refine ⟨_, rfl, _, rfl, p, dx, _, rfl, hp2, woF_no (by decide +kernel) (by decide +kernel), p, dx, l, ws, i + 1, rfl, hp2, hl2, .inl ⟨"x", g2, ?_⟩⟩
        refine ⟨(by show 2 ≤ sizeLine; decide), fun L hL => ⟨_, rfl, (by show 2 ≤ sizeLine; decide), fun t ht => ?_⟩⟩
        exact q _ t L (((((but_upd.trans (but_same S2)).at_).new hL).new ht)) (upk (upk upd_same hL) ht) upd_same (upk upd_same ht) (((but_upd.trans (but_same S2)).at_).free upd_same hL)
      | size =>
        obtain ⟨g1, hR⟩ := drop_at hR
        obtain ⟨g2, hR⟩ := drop_at hR
        refine ⟨_, rfl, p, dx, _, rfl, hp, woF_no (by decide +kernel) (by decide +kernel), p, dx, l, ws, i, rfl, hp, hl, .inl ⟨"size", g1, ?_⟩⟩
        refine ⟨_, rfl, "size", rfl, .int 0, .inl ⟨.inr (.inr rfl), rfl⟩, fun H2 S2 => ?_⟩
        obtain ⟨hp2, hl2⟩ := wl S2
        refine ⟨_, rfl, rfl, _, rfl, itF rfl ⟨_, rfl, rfl, _, rfl, itF (by decide +kernel) ?_⟩⟩
        refine ⟨_, rfl, rfl, _, rfl, itT (by decide +kernel) (iteT ?_)⟩
        refine ⟨_, rfl, _, rfl, p, dx, _, rfl, hp2, woF_no (by decide +kernel) (by decide +kernel), p, dx, l, ws, i + 1, rfl, hp2, hl2, .inl ⟨"l", g2, ?_⟩⟩
        refine ⟨(by show 2 ≤ sizeLine; decide), fun L hL => ⟨_, rfl, (by show 2 ≤ sizeLine; decide), fun t ht => ?_⟩⟩
        exact q _ t L (((((but_upd.trans (but_same S2)).at_).new hL).new ht)) (upk (upk upd_same hL) ht) upd_same (upk upd_same ht) (((but_upd.trans (but_same S2)).at_).free upd_same hL)
      | item =>
        obtain ⟨g1, hR⟩ := drop_at hR
        obtain ⟨g2, hR⟩ := drop_at hR
        refine ⟨_, rfl, p, dx, _, rfl, hp, woF_no (by decide +kernel) (by decide +kernel), p, dx, l, ws, i, rfl, hp, hl, .inl ⟨"item", g1, ?_⟩⟩
        refine ⟨_, rfl, "item", rfl, .int 1, .inr (.inl ⟨.inr rfl, rfl⟩), fun H2 S2 => ?_⟩
        obtain ⟨hp2, hl2⟩ := wl S2
        refine ⟨_, rfl, rfl, _, rfl, itF rfl ⟨_, rfl, rfl, _, rfl, itF (by decide +kernel) ?_⟩⟩
        refine ⟨_, rfl, rfl, _, rfl, itF (by decide +kernel) ⟨_, rfl, rfl, _, rfl, itT (by decide +kernel) ?_⟩⟩
        refine ⟨_, rfl, _, rfl, p, dx, _, rfl, hp2, woF_no (by decide +kernel) (by decide +kernel), p, dx, l, ws, i + 1, rfl, hp2, hl2, .inl ⟨"l", g2, ?_⟩⟩
        refine ⟨(by show 2 ≤ sizeLine; decide), fun L hL => ⟨_, rfl, (by show 2 ≤ sizeLine; decide), fun t ht => ?_⟩⟩
        exact q _ t L (((((but_upd.trans (but_same S2)).at_).new hL).new ht)) (upk (upk upd_same hL) ht) upd_same (upk upd_same ht) (((but_upd.trans (but_same S2)).at_).free upd_same hL)
      | nt =>
        obtain ⟨g1, hR⟩ := drop_at hR
        refine ⟨_, rfl, p, dx, _, rfl, hp, woF_no (by decide +kernel) (by decide +kernel), p, dx, l, ws, i, rfl, hp, hl, .inl ⟨"not", g1, ?_⟩⟩
        refine ⟨_, rfl, "not", rfl, .int 1, .inr (.inl ⟨.inl rfl, rfl⟩), fun H2 S2 => ?_⟩
        obtain ⟨hp2, hl2⟩ := wl S2
        refine ⟨_, rfl, rfl, _, rfl, itF rfl ⟨_, rfl, rfl, _, rfl, itF (by decide +kernel) ?_⟩⟩
        refine ⟨_, rfl, rfl, _, rfl, itF (by decide +kernel) ⟨_, rfl, rfl, _, rfl, itF (by decide +kernel) ?_⟩⟩
        refine ⟨_, rfl, (by show 1 ≤ sizeLine; decide), fun L hL => ⟨_, rfl, (by show 2 ≤ sizeLine; decide), fun t ht => ?_⟩⟩
        exact q _ t L ((((but_upd.trans (but_same S2)).new hL).new ht)) (upk (upk hp2 hL) ht) upd_same (upk upd_same ht) ((but_upd.trans (but_same S2)).free hp2 hL)
      | pl =>
        obtain ⟨g1, hR⟩ := drop_at hR
        refine ⟨_, rfl, p, dx, _, rfl, hp, woF_no (by decide +kernel) (by decide +kernel), p, dx, l, ws, i, rfl, hp, hl, .inl ⟨"plus", g1, ?_⟩⟩
        refine ⟨_, rfl, "plus", rfl, .int 2, .inr (.inr ⟨rfl, rfl⟩), fun H2 S2 => ?_⟩
        obtain ⟨hp2, hl2⟩ := wl S2
        refine ⟨_, rfl, rfl, _, rfl, itF rfl ⟨_, rfl, rfl, _, rfl, itF (by decide +kernel) ?_⟩⟩
        refine ⟨_, rfl, rfl, _, rfl, itF (by decide +kernel) ⟨_, rfl, rfl, _, rfl, itF (by decide +kernel) ?_⟩⟩
        refine ⟨_, rfl, (by show 1 ≤ sizeLine; decide), fun L hL => ⟨_, rfl, (by show 2 ≤ sizeLine; decide), fun t ht => ?_⟩⟩
        exact q _ t L ((((but_upd.trans (but_same S2)).new hL).new ht)) (upk (upk hp2 hL) ht) upd_same (upk upd_same ht) ((but_upd.trans (but_same S2)).free hp2 hL)
    · generalize hR : ws.drop i = R at hb
      cases hb with
      | num =>
        obtain ⟨g1, hR⟩ := drop_at hR
        refine ⟨_, rfl, p, dx, _, rfl, hp, woF_no (by decide +kernel) (by decide +kernel), p, dx, l, ws, i, rfl, hp, hl, .inl ⟨"number", g1, ?_⟩⟩
        refine ⟨_, rfl, "number", rfl, .int 0, .inl ⟨.inl rfl, rfl⟩, fun H2 S2 => ?_⟩
        obtain ⟨hp2, hl2⟩ := wl S2
        refine ⟨_, rfl, rfl, _, rfl, itF rfl ⟨_, rfl, rfl, _, rfl, itT (by decide +kernel) ?_⟩⟩
        exact ⟨_, rfl, _, rfl, p, dx, _, rfl, hp2, woF_no (by decide +kernel) (by decide +kernel), p, dx, l, ws, i + 1, rfl, hp2, hl2, .inr ⟨drop_end hR, e _⟩⟩
      | box =>
        obtain ⟨g1, hR⟩ := drop_at hR
        obtain ⟨g2, hR⟩ := drop_at hR
        refine ⟨_, rfl, p, dx, _, rfl, hp, woF_no (by decide +kernel) (by decide +kernel), p, dx, l, ws, i, rfl, hp, hl, .inl ⟨"number", g1, ?_⟩⟩
        refine ⟨_, rfl, "number", rfl, .int 0, .inl ⟨.inl rfl, rfl⟩, fun H2 S2 => ?_⟩
        obtain ⟨hp2, hl2⟩ := wl S2
        refine ⟨_, rfl, rfl, _, rfl, itF rfl ⟨_, rfl, rfl, _, rfl, itT (by decide +kernel) ?_⟩⟩
        refine ⟨_, rfl, _, rfl, p, dx, _, rfl, hp2, woF_no (by decide +kernel) (by decide +kernel), p, dx, l, ws, i + 1, rfl, hp2, hl2, .inl ⟨"box", g2, ?_⟩⟩
        exact ⟨"box", rfl, .inr ⟨rfl, e _⟩⟩
      | size =>
        obtain ⟨g1, hR⟩ := drop_at hR
        refine ⟨_, rfl, p, dx, _, rfl, hp, woF_no (by decide +kernel) (by decide +kernel), p, dx, l, ws, i, rfl, hp, hl, .inl ⟨"size", g1, ?_⟩⟩
        refine ⟨_, rfl, "size", rfl, .int 0, .inl ⟨.inr (.inr rfl), rfl⟩, fun H2 S2 => ?_⟩
        obtain ⟨hp2, hl2⟩ := wl S2
        refine ⟨_, rfl, rfl, _, rfl, itF rfl ⟨_, rfl, rfl, _, rfl, itF (by decide +kernel) ?_⟩⟩
        refine ⟨_, rfl, rfl, _, rfl, itT (by decide +kernel) (iteT ?_)⟩
        exact ⟨_, rfl, _, rfl, p, dx, _, rfl, hp2, woF_no (by decide +kernel) (by decide +kernel), p, dx, l, ws, i + 1, rfl, hp2, hl2, .inr ⟨drop_end hR, e _⟩⟩
end
end Rt
end S_RtWords

section S_RtNv
set_option Elab.async false
set_option linter.all false
set_option maxRecDepth 100000
set_option maxHeartbeats 4000000
/-! next_value -/
namespace Rt
open PySem PySem.Spec PyProof.Rows L2

/-! ### what is pending -/
inductive Fm where
  | nt | it
  | p1 (b : Vl)
  | p2 (a : Vl)
/-- the words that what is pending still wants, behind the value that comes -/
def sufW : List Fm → List Str
  | [] => []
  | .nt :: S => sufW S
  | .it :: S => sufW S
  | .p1 b :: S => vW b ++ sufW S
  | .p2 _ :: S => sufW S
def fill : List Fm → Vl → Vl
  | [], v => v
  | .nt :: S, v => fill S (.nt v)
  | .it :: S, v => fill S (.it v)
  | .p1 b :: S, v => fill S (.pl v b)
  | .p2 a :: S, v => fill S (.pl a v)
def FmI (H : Hp) : Fm → List V → Nat → Prop
  | .nt, xs, c => xs = [.str "not"] ∧ c = 1
  | .it, xs, c => xs = [.str "item", .str "l"] ∧ c = 1
  | .p1 _, xs, c => xs = [.str "plus"] ∧ c = 2
  | .p2 a, xs, c => c = 1 ∧ ∃ q ys, xs = [.str "plus", .ref q] ∧ H q = some (.tup ys) ∧ VlI H a ys
/-- the list pending, its last thing on top -/
def Stk (H : Hp) (pd : Addr) : List Fm → List V → Prop
  | [], xs => xs = []
  | f :: S, xs => ∃ ys t L parts c, xs = ys ++ [V.ref t] ∧ H t = some (.tup [.ref L, .int ((c : Nat) : Int)]) ∧ L ≠ pd ∧ H L = some (.lst parts) ∧ FmI H f parts c ∧ Stk H pd S ys
theorem FmI.mono {H H' : Hp} (t : TupS H H') : ∀ {f : Fm} {xs : List V} {c : Nat}, FmI H f xs c → FmI H' f xs c
  | .nt, _, _, h => h
  | .it, _, _, h => h
  | .p1 _, _, _, h => h
  | .p2 a, _, _, ⟨e, q, ys, e2, h1, h2⟩ => ⟨e, q, ys, e2, t _ _ h1, h2.mono t⟩
/-- lists and tuples but the one at pd stay -/
def LTS (pd : Addr) (H H' : Hp) : Prop := TupS H H' ∧ ∀ b xs, b ≠ pd → H b = some (.lst xs) → H' b = some (.lst xs)
theorem LTS.trans {pd : Addr} {H H1 H2 : Hp} (a : LTS pd H H1) (b : LTS pd H1 H2) : LTS pd H H2 := ⟨a.1.trans b.1, fun c xs n h => b.2 c xs n (a.2 c xs n h)⟩
theorem Stk.mono {H H' : Hp} {pd : Addr} (t : LTS pd H H') : ∀ {S : List Fm} {xs : List V}, Stk H pd S xs → Stk H' pd S xs
  | [], _, h => h
  | f :: S, _, ⟨ys, u, L, parts, c, e, h1, h2, h3, h4, h5⟩ => ⟨ys, u, L, parts, c, e, t.1 _ _ h1, h2, t.2 _ _ h2 h3, h4.mono t.1, Stk.mono t h5⟩
theorem lts_but {p pd : Addr} {H H' : Hp} {C dx : Addr} {fs : List (Str × V)} (h : But p H H') (hp : H p = some (.ins C dx fs)) : LTS pd H H' :=
  ⟨fun b xs e => h b _ (ne_of e hp (by intro z; cases z)) e, fun b xs _ e => h b _ (ne_of e hp (by intro z; cases z)) e⟩
theorem lts_new {q pd : Addr} {H : Hp} {o : HO} (h : H q = none) : LTS pd H (upd H q o) := ⟨ts_same (same_new h), fun b xs _ e => same_new h b _ e⟩
theorem lts_at {pd : Addr} {H : Hp} {o : HO} {xs : List V} (h : H pd = some (.lst xs)) : LTS pd H (upd H pd o) :=
  ⟨fun b ys e => by rw [upd_ne (ne_of e h (by intro z; cases z))]; exact e, fun b ys n e => by rw [upd_ne n]; exact e⟩

inductive BadR : List Str → Prop
  | nt {r : List Str} : BadR r → BadR ("not" :: r)
  | pl {r : List Str} : BadR r → BadR ("plus" :: r)
  | it {r : List Str} : BadR r → BadR ("item" :: "l" :: r)
  | base {r : List Str} : BegBad r → BadR r
theorem drop_two {ws r : List Str} {i : Nat} {x y : Str} (h : ws.drop i = x :: y :: r) : ws.drop (i + 2) = r := (drop_at (drop_at h).2).2
theorem drop_lt {ws r : List Str} {i : Nat} {x : Str} (h : ws.drop i = x :: r) : i < ws.length := (List.getElem?_eq_some_iff.mp (drop_at h).1).1

section
variable {P : Program} {w : World} {K : PySem.W.Frag} {mg : Str → Option Value} {base : Heap}
/-- between two turns of the inner loop; i: the place behind the words that the outer turn took, b: the bound of the pending list -/
def NvIn (K : PySem.W.Frag) (p pd dx l : Addr) (ws rest : List Str) (v : Vl) (H : Hp) (i b : Nat) (m : Nat) (σ : L2.St) (H' : Hp) : Prop :=
  ∃ (L : Addr) (parts : List V) (c : Nat) (xs : List V) (s4 s5 : Option V), σ = [some (.ref p), some (.ref pd), some (.ref L), some (.int ((c : Nat) : Int)), s4, s5] ∧ L ≠ pd ∧ H' L = some (.lst parts) ∧
    H' p = some (wo K dx l i) ∧ H' l = some (.lst (strV ws)) ∧ H' pd = some (.lst xs) ∧ But p H H' ∧ xs.length ≤ b ∧
    ((c = 0 ∧ ∃ u S, m = S.length + 1 ∧ VlI H' u parts ∧ ws.drop i = sufW S ++ rest ∧ Stk H' pd S xs ∧ fill S u = v) ∨
      (c ≠ 0 ∧ m = 0 ∧ ∃ f S u', FmI H' f parts c ∧ Stk H' pd S xs ∧ ws.drop i = vW u' ++ (sufW (f :: S) ++ rest) ∧ fill (f :: S) u' = v))
/-- .. of the outer loop -/
def NvOut (K : PySem.W.Frag) (p pd dx l : Addr) (ws rest : List Str) (v : Vl) (H : Hp) (m : Nat) (σ : L2.St) (H' : Hp) : Prop :=
  ∃ (xs : List V) (i : Nat) (s2 s3 s4 s5 : Option V) (u : Vl) (S : List Fm), σ = [some (.ref p), some (.ref pd), s2, s3, s4, s5] ∧ H' p = some (wo K dx l i) ∧ H' l = some (.lst (strV ws)) ∧
    H' pd = some (.lst xs) ∧ But p H H' ∧ m = (ws.drop i).length ∧ xs.length ≤ i ∧ ws.drop i = vW u ++ (sufW S ++ rest) ∧ Stk H' pd S xs ∧ fill S u = v
/-- .. of the outer loop, where no value stands -/
def NvBad (K : PySem.W.Frag) (p pd dx l : Addr) (ws : List Str) (H : Hp) (m : Nat) (σ : L2.St) (H' : Hp) : Prop :=
  ∃ (xs : List V) (i : Nat) (s2 s3 s4 s5 : Option V), σ = [some (.ref p), some (.ref pd), s2, s3, s4, s5] ∧ H' p = some (wo K dx l i) ∧ H' l = some (.lst (strV ws)) ∧
    H' pd = some (.lst xs) ∧ But p H H' ∧ m = (ws.drop i).length ∧ xs.length ≤ i ∧ BadR (ws.drop i)
theorem badR_beg {R : List Str} (h : BadR R) : BegBad R ∨ ∃ parts c n, Beg R parts c n ∧ c ≠ 0 ∧ 0 < n ∧ (∃ x r, R = x :: r) ∧ BadR (R.drop n) := by
  cases h with
  | nt h => exact .inr ⟨_, _, _, .nt, by decide, by decide, ⟨_, _, rfl⟩, h⟩
  | pl h => exact .inr ⟨_, _, _, .pl, by decide, by decide, ⟨_, _, rfl⟩, h⟩
  | it h => exact .inr ⟨_, _, _, .item, by decide, by decide, ⟨_, _, rfl⟩, h⟩
  | base h => exact .inl h
theorem vW_pos (u : Vl) : ∃ x r, vW u = x :: r := by cases u <;> exact ⟨_, _, rfl⟩
def spNv (K : PySem.W.Frag) : Sp := fun vs H Q E => ∃ (p dx l : Addr) (ws : List Str) (i : Nat), vs = [.ref p] ∧ H p = some (wo K dx l i) ∧ H l = some (.lst (strV ws)) ∧ ws.length ≤ 100000 ∧
  ((∃ v rest, ws.drop i = vW v ++ rest ∧ ∀ H' q j, But p H H' → H' p = some (wo K dx l j) → ws.drop j = rest → VlP H' v q → Q (.ref q) H') ∨
    (BadR (ws.drop i) ∧ ∀ H', E (.ref (C_NoText K)) none H'))

theorem sc_nv : FnScope ["words", "pending", "parts", "count", "outer", "lacking"] ["words"] (defScope S_next_value) := ⟨rfl, rfl, rfl, by decide +kernel, rfl, by decide +kernel, by decide +kernel⟩
theorem ok_nv (T : Txt K mg) : FnOk P w K mg base (CXN P w) 4 (A_next_value K) (fdOf K (A_next_value K)) ["words"] (spNv K) := by
  have G_begun_value : FnOk P w K mg base (CXN P w) 3 (A_begun_value K) (fdOf K (A_begun_value K)) ["words"] (spBeg K) := ok_beg T
  refine okX T.d_next_value sc_nv (fun vs H Q E h => ?_) (fun cdv A outer s H vs Q E hr h => ?_)
  · obtain ⟨p, dx, l, ws, i, rfl, _⟩ := h
    rfl
  · obtain ⟨p, dx, l, ws, i0, rfl, hp, hl, hw, h⟩ := h
    refine ⟨_, (pss_cons (ps_set (i := 1) sc_nv.nd rfl (.inl rfl) (pe_lst pa_nil))
      (pss_one (ps_while PassesOwn.leaving (pt_val pe_bl)
        (pss_cons (ps_asg (pe_call G_begun_value (hr.mono (by decide)) rfl T.g_begun_value T.d_begun_value.kp (b_begun_value T) .nil passE (pa_cons (pv 0) pa_nil)) (pg_tup rfl (pgs_cons (pg_name (i := 2) sc_nv.nd rfl (.inl rfl)) (pgs_cons (pg_name (i := 3) sc_nv.nd rfl (.inl rfl)) pgs_nil))))
        (pss_cons (ps_while PassesOwn.leaving (pt_cmpR op_eq (pv 3) pe_int (nomark _))
          (pss_cons (ps_if (pt_not (pt_truth (pv 1) (by intro _; rfl))) (pss_one (ps_ret (pe_callTy call_tuple_of (by rfl) T.f_tuple (by decide +kernel) (pa_cons (pv 2) pa_nil))))
            pss_nil)
          (pss_cons (ps_asg (pe_bm0 PySem.F.plainAttrs_list PySem.F.slot_list_pop PySem.F.type_list_pop mt_pop (pv 1)) (pg_tup rfl (pgs_cons (pg_name (i := 4) sc_nv.nd rfl (.inl rfl)) (pgs_cons (pg_name (i := 5) sc_nv.nd rfl (.inl rfl)) pgs_nil))))
          (pss_one (ps_par (i := 2) (j := 3) rfl sc_nv.nd rfl rfl (by decide) rfl rfl (pa_cons (pe_op op_cat (pv 4) (pe_lst (pa_cons (by exact (pe_callTy call_tuple_of (by rfl) T.f_tuple (by decide +kernel) (pa_cons (pv 2) pa_nil))) pa_nil))) (pa_cons (pe_op op_sub (pv 5) pe_int) pa_nil)) (by rfl))))))
        (pss_one (ps_expr (pe_bm PySem.F.plainAttrs_list PySem.F.slot_list_append PySem.F.type_list_append mt_append (pv 1) (pa_cons (pe_tup (pa_cons (pv 2) (pa_cons (pv 3) pa_nil))) pa_nil))))))))), ?_⟩
    refine ⟨(by show 0 ≤ sizeLine; decide), fun pd hpd => ?_⟩
    have npd : p ≠ pd := ne_of_none hp hpd
    rcases h with ⟨v, rest, hR, q⟩ | ⟨hR, e⟩
    · -- the outer loop's word
      refine ⟨NvOut K p pd dx l ws rest v H, ⟨_, [], i0, none, none, none, none, v, [], rfl, upk hp hpd, upk hl hpd, upd_same, but_same (same_new hpd), rfl, Nat.zero_le _, hR, rfl, rfl⟩, ?_⟩
      rintro m σ H1 ⟨xs, i, s2, s3, s4, s5, u, S, rfl, hp1, hl1, hpd1, B1, rfl, hx, hR1, hS, hf⟩
      refine ⟨true, rfl, iteT ?_⟩
      refine ⟨fun σ' H' => ∃ m', m' < (ws.drop i).length ∧ NvOut K p pd dx l ws rest v H m' σ' H', fun _ _ h => h, ?_⟩
      have n1 : i < ws.length := by
        obtain ⟨x, r, e⟩ := vW_pos u
        rw [e] at hR1
        exact drop_lt hR1
      -- what begun_value hands back
      have beg : ∃ parts c n, Beg (ws.drop i) parts c n ∧ 0 < n ∧ ((c = 0 ∧ (∀ H', VlI H' u parts) ∧ ws.drop (i + n) = sufW S ++ rest) ∨
          (c ≠ 0 ∧ ∃ f u', (∀ H', FmI H' f parts c) ∧ ws.drop (i + n) = vW u' ++ (sufW (f :: S) ++ rest) ∧ fill (f :: S) u' = v)) := by
        cases u with
        | num => exact ⟨_, _, _, by rw [hR1]; exact .num, by decide, .inl ⟨rfl, fun _ => rfl, drop_two hR1⟩⟩
        | box => exact ⟨_, _, _, by rw [hR1]; exact .box, by decide, .inl ⟨rfl, fun _ => rfl, drop_two hR1⟩⟩
        | size => exact ⟨_, _, _, by rw [hR1]; exact .size, by decide, .inl ⟨rfl, fun _ => rfl, drop_two hR1⟩⟩
        | nt a => exact ⟨_, _, _, by rw [hR1]; exact .nt, by decide, .inr ⟨by decide, .nt, a, fun _ => ⟨rfl, rfl⟩, (drop_at hR1).2, hf⟩⟩
        | it a => exact ⟨_, _, _, by rw [hR1]; exact .item, by decide, .inr ⟨by decide, .it, a, fun _ => ⟨rfl, rfl⟩, drop_two hR1, hf⟩⟩
        | pl a b =>
          refine ⟨_, _, _, by rw [hR1]; exact .pl, by decide, .inr ⟨by decide, .p1 b, a, fun _ => ⟨rfl, rfl⟩, ?_, hf⟩⟩
          have z : ws.drop (i + 1) = (vW a ++ vW b) ++ (sufW S ++ rest) := (drop_at hR1).2
          show ws.drop (i + 1) = vW a ++ (vW b ++ sufW S ++ rest)
          rw [z, List.append_assoc, List.append_assoc]
      obtain ⟨parts, c, n, hB, hn, hc⟩ := beg
      refine ⟨_, rfl, p, dx, l, ws, i, rfl, hp1, hl1, .inl ⟨parts, c, n, hB, fun H2 t L B2 hp2 ht2 hL2 nL => ?_⟩⟩
      have nLpd : L ≠ pd := (ne_of_none hpd1 nL).symm
      have l2 : LTS pd H1 H2 := lts_but B2 hp1
      have hl2 : H2 l = some (.lst (strV ws)) := B2 _ _ (ne_of hl1 hp1 (by intro z; cases z)) hl1
      have hpd2 : H2 pd = some (.lst xs) := B2 _ _ npd.symm hpd1
      refine ⟨t, _, rfl, SqT.of ht2, rfl, _, _, rfl, _, _, rfl, rfl, ?_⟩
      -- the inner loop's word
      refine ⟨NvIn K p pd dx l ws rest v H (i + n) i, ⟨(if c = 0 then S.length + 1 else 0), L, parts, c, xs, s4, s5, rfl, nLpd, hL2, hp2, hl2, hpd2, B1.trans B2, hx, ?_⟩, ?_⟩
      · rcases hc with ⟨h1, h2, h3⟩ | ⟨h1, f, u', h2, h3, h4⟩
        · exact .inl ⟨h1, u, S, if_pos h1, h2 _, h3, hS.mono l2, hf⟩
        · exact .inr ⟨h1, if_neg h1, f, S, u', h2 _, hS.mono l2, h3, h4⟩
      clear hc hB hS hf hR1 nLpd ht2 hL2 hp2 hl2 hpd2 B2 l2 hp1 hl1 hpd1 B1 nL
      rintro m σ H3 ⟨L, parts, c, xs, s4, s5, rfl, nLpd, hL3, hp3, hl3, hpd3, B3, hx, hc⟩
      refine ⟨_, rfl, rfl, _, rfl, ?_⟩
      rcases hc with ⟨rfl, u, S, rfl, hu, hR3, hS, hf⟩ | ⟨hc0, rfl, f, S, u', hF, hS, hR3, hf⟩
      · refine itT (by decide) ?_
        refine ⟨fun σ' H' => ∃ m', m' < S.length + 1 ∧ NvIn K p pd dx l ws rest v H (i + n) i m' σ' H', fun _ _ h => h, ?_⟩
        cases S with
        | nil =>
          have ex : xs = [] := hS
          subst ex
          refine ⟨_, rfl, false, .inl ⟨[], SqL.of hpd3, rfl⟩, iteT ?_⟩
          refine ⟨_, rfl, L, parts, rfl, .inl ⟨SqL.of hL3, fun q0 hq0 => ?_⟩⟩
          have eu : u = v := hf
          subst eu
          exact q _ q0 (i + n) (B3.new hq0) (upk hp3 hq0) hR3 ⟨parts, upd_same, hu.mono (ts_same (same_new hq0))⟩
        | cons f S =>
          obtain ⟨ys, t, L2, parts2, c2, rfl, ht, n2, hL2, hF, hS⟩ := hS
          refine ⟨_, rfl, true, .inl ⟨_, SqL.of hpd3, by cases ys <;> rfl⟩, iteF ?_⟩
          -- outer, lacking = pending.pop()
          refine ⟨_, rfl, .inl ⟨rfl, _, SqL.of hpd3⟩, pd, _, _, rfl, rfl, hpd3, by rw [List.length_append, List.length_singleton, Nat.add_sub_cancel, List.getElem?_append_right (Nat.le_refl _), Nat.sub_self]; rfl, ?_⟩
          rw [List.dropLast_concat]
          have l4 : LTS pd H3 (upd H3 pd (.lst ys)) := lts_at hpd3
          have B4 : But p H (upd H3 pd (.lst ys)) := B3.over hpd
          have hL4 := l4.2 _ _ nLpd hL3
          have hL24 := l4.2 _ _ n2 hL2
          have ht4 := l4.1 _ _ ht
          have hp4 : upd H3 pd (.lst ys) p = some (wo K dx l (i + n)) := upn hp3 npd
          have hl4 : upd H3 pd (.lst ys) l = some (.lst (strV ws)) := upn hl3 (ne_of_none hl hpd)
          have hu4 := hu.mono l4.1
          have hF4 := hF.mono l4.1
          have hS4 := hS.mono l4
          have hpd4 : upd H3 pd (.lst ys) pd = some (.lst ys) := upd_same
          have hy : ys.length ≤ i := Nat.le_trans (by rw [List.length_append, List.length_singleton]; omega) hx
          generalize upd H3 pd (.lst ys) = H4 at *
          refine ⟨t, _, rfl, SqT.of ht4, rfl, _, _, rfl, _, _, rfl, rfl, ?_⟩
          -- parts, count = (outer + [tuple(parts)], lacking - 1)
          refine ⟨_, rfl, _, rfl, L, parts, rfl, .inl ⟨SqL.of hL4, fun q0 hq0 => ⟨(by show 1 ≤ sizeLine; decide), fun L5 hL5 => ?_⟩⟩⟩
          have pl : parts2.length ≤ 2 := by
            cases f with
            | nt => rw [hF.1]; decide
            | it => rw [hF.1]; exact Nat.le_refl 2
            | p1 b => rw [hF.1]; decide
            | p2 a =>
              obtain ⟨_, _, _, e, _⟩ := hF
              rw [e]
              exact Nat.le_refl 2
          refine ⟨L2, L5, parts2, [.ref q0], rfl, rfl, upk (upk hL24 hq0) hL5, upd_same, Nat.le_trans (Nat.add_le_add_right pl 1) (by decide), fun L6 hL6 => ?_⟩
          refine ⟨_, rfl, _, _, rfl, rfl, _, _, rfl, ?_⟩
          have l5 : LTS pd H4 (upd (upd (upd H4 q0 (.tup parts)) L5 (.lst [.ref q0])) L6 (.lst (parts2 ++ [.ref q0]))) := (lts_new hq0).trans ((lts_new hL5).trans (lts_new hL6))
          have tq : (upd (upd (upd H4 q0 (.tup parts)) L5 (.lst [.ref q0])) L6 (.lst (parts2 ++ [.ref q0]))) q0 = some (.tup parts) := upk (upk upd_same hL5) hL6
          have hp5 : (upd (upd (upd H4 q0 (.tup parts)) L5 (.lst [.ref q0])) L6 (.lst (parts2 ++ [.ref q0]))) p = some (wo K dx l (i + n)) := upk (upk (upk hp4 hq0) hL5) hL6
          have hl5 : (upd (upd (upd H4 q0 (.tup parts)) L5 (.lst [.ref q0])) L6 (.lst (parts2 ++ [.ref q0]))) l = some (.lst (strV ws)) := upk (upk (upk hl4 hq0) hL5) hL6
          have hpd5 : (upd (upd (upd H4 q0 (.tup parts)) L5 (.lst [.ref q0])) L6 (.lst (parts2 ++ [.ref q0]))) pd = some (.lst ys) := upk (upk (upk hpd4 hq0) hL5) hL6
          have B5 : But p H (upd (upd (upd H4 q0 (.tup parts)) L5 (.lst [.ref q0])) L6 (.lst (parts2 ++ [.ref q0]))) := ((B4.new hq0).new hL5).new hL6
          have n6 : L6 ≠ pd := (ne_of_none (upk (upk hpd4 hq0) hL5) hL6).symm
          have hL7 : (upd (upd (upd H4 q0 (.tup parts)) L5 (.lst [.ref q0])) L6 (.lst (parts2 ++ [.ref q0]))) L6 = some (.lst (parts2 ++ [.ref q0])) := upd_same
          have hu5 := hu4.mono l5.1
          have hF5 := hF4.mono l5.1
          have hS5 := hS4.mono l5
          generalize upd (upd (upd H4 q0 (.tup parts)) L5 (.lst [.ref q0])) L6 (.lst (parts2 ++ [.ref q0])) = H5 at *
          cases f with
          | nt =>
            obtain ⟨rfl, rfl⟩ := hF5
            exact ⟨S.length + 1, Nat.lt_succ_self _, L6, _, 0, ys, _, _, rfl, n6, hL7, hp5, hl5, hpd5, B5, hy, .inl ⟨rfl, .nt u, S, rfl, ⟨q0, parts, rfl, tq, hu5⟩, hR3, hS5, hf⟩⟩
          | it =>
            obtain ⟨rfl, rfl⟩ := hF5
            exact ⟨S.length + 1, Nat.lt_succ_self _, L6, _, 0, ys, _, _, rfl, n6, hL7, hp5, hl5, hpd5, B5, hy, .inl ⟨rfl, .it u, S, rfl, ⟨q0, parts, rfl, tq, hu5⟩, hR3, hS5, hf⟩⟩
          | p1 b =>
            obtain ⟨rfl, rfl⟩ := hF5
            refine ⟨0, Nat.succ_pos _, L6, _, 1, ys, _, _, rfl, n6, hL7, hp5, hl5, hpd5, B5, hy, .inr ⟨by decide, rfl, .p2 u, S, b, ⟨rfl, q0, parts, rfl, tq, hu5⟩, hS5, ?_, hf⟩⟩
            rw [hR3]
            show vW b ++ sufW S ++ rest = vW b ++ (sufW S ++ rest)
            rw [List.append_assoc]
          | p2 a =>
            obtain ⟨rfl, qa, ya, rfl, ha1, ha2⟩ := hF5
            exact ⟨S.length + 1, Nat.lt_succ_self _, L6, _, 0, ys, _, _, rfl, n6, hL7, hp5, hl5, hpd5, B5, hy, .inl ⟨rfl, .pl a u, S, rfl, ⟨qa, q0, ya, parts, rfl, ha1, ha2, tq, hu5⟩, hR3, hS5, hf⟩⟩
      · refine itF (by
          have z : ¬ (V.int ((c : Nat) : Int) = V.int 0) := fun z => hc0 (by injection z; omega)
          exact decide_eq_false z) ?_
        refine ⟨_, rfl, .inl ⟨rfl, _, SqL.of hpd3⟩, _, rfl, _, rfl, (by show 2 ≤ sizeLine; decide), fun t ht => ?_⟩
        have hx2 : xs.length < 100000 := by omega
        refine ⟨pd, xs, _, rfl, rfl, upk hpd3 ht, Nat.lt_trans hx2 (by decide), ?_⟩
        have ntp : t ≠ pd := (ne_of_none hpd3 ht).symm
        have l4 : LTS pd H3 (upd (upd H3 t (.tup [.ref L, .int ((c : Nat) : Int)])) pd (.lst (xs ++ [.ref t]))) := (lts_new ht).trans (lts_at (upk hpd3 ht))
        refine ⟨(ws.drop (i + n)).length, ?_, xs ++ [.ref t], i + n, _, _, _, _, u', f :: S, rfl, upn (upk hp3 ht) npd, upn (upk hl3 ht) (ne_of_none hl hpd), upd_same, (B3.new ht).over hpd, rfl, ?_, hR3, ?_, hf⟩
        · rw [List.length_drop, List.length_drop]
          omega
        · rw [List.length_append, List.length_singleton]
          omega
        · exact ⟨xs, t, L, parts, c, rfl, upn upd_same ntp, nLpd, l4.2 _ _ nLpd hL3, hF.mono l4.1, hS.mono l4⟩
    · refine ⟨NvBad K p pd dx l ws H, ⟨_, [], i0, none, none, none, none, rfl, upk hp hpd, upk hl hpd, upd_same, but_same (same_new hpd), rfl, Nat.zero_le _, hR⟩, ?_⟩
      rintro m σ H1 ⟨xs, i, s2, s3, s4, s5, rfl, hp1, hl1, hpd1, B1, rfl, hx, hR1⟩
      refine ⟨true, rfl, iteT ?_⟩
      refine ⟨fun σ' H' => ∃ m', m' < (ws.drop i).length ∧ NvBad K p pd dx l ws H m' σ' H', fun _ _ h => h, ?_⟩
      rcases badR_beg hR1 with hb | ⟨parts, c, n, hB, hc0, hn, ⟨x, r, hxr⟩, hR2⟩
      · exact ⟨_, rfl, p, dx, l, ws, i, rfl, hp1, hl1, .inr ⟨hb, e⟩⟩
      · have n1 : i < ws.length := drop_lt hxr
        refine ⟨_, rfl, p, dx, l, ws, i, rfl, hp1, hl1, .inl ⟨parts, c, n, hB, fun H2 t L B2 hp2 ht2 hL2 nL => ?_⟩⟩
        have nLpd : L ≠ pd := (ne_of_none hpd1 nL).symm
        have hl2 : H2 l = some (.lst (strV ws)) := B2 _ _ (ne_of hl1 hp1 (by intro z; cases z)) hl1
        have hpd2 : H2 pd = some (.lst xs) := B2 _ _ npd.symm hpd1
        refine ⟨t, _, rfl, SqT.of ht2, rfl, _, _, rfl, _, _, rfl, rfl, ?_⟩
        refine ⟨fun m σ H' => σ = [some (.ref p), some (.ref pd), some (.ref L), some (.int ((c : Nat) : Int)), s4, s5] ∧ H' = H2, ⟨0, rfl, rfl⟩, ?_⟩
        rintro m σ H3 ⟨rfl, rfl⟩
        refine ⟨_, rfl, rfl, _, rfl, ?_⟩
        refine itF (by
          have z : ¬ (V.int ((c : Nat) : Int) = V.int 0) := fun z => hc0 (by injection z; omega)
          exact decide_eq_false z) ?_
        refine ⟨_, rfl, .inl ⟨rfl, _, SqL.of hpd2⟩, _, rfl, _, rfl, (by show 2 ≤ sizeLine; decide), fun t2 ht2 => ?_⟩
        have hx2 : xs.length < 100000 := by omega
        refine ⟨pd, xs, _, rfl, rfl, upk hpd2 ht2, Nat.lt_trans hx2 (by decide), ?_⟩
        refine ⟨(ws.drop (i + n)).length, ?_, xs ++ [.ref t2], i + n, _, _, _, _, rfl, upn (upk hp2 ht2) npd, upn (upk hl2 ht2) (ne_of_none hl hpd), upd_same, ((B1.trans B2).new ht2).over hpd, rfl, ?_, ?_⟩
        · rw [List.length_drop, List.length_drop]
          omega
        · rw [List.length_append, List.length_singleton]
          omega
        · rw [List.drop_drop] at hR2
          exact hR2
end
end Rt
end S_RtNv

section S_RtRules
set_option Elab.async false
set_option linter.all false
set_option maxRecDepth 100000
set_option maxHeartbeats 4000000
/-! Rules of our own, by values: dict.update, text * int, zip of a list and a tuple -/
namespace Rt
open PySem PySem.Spec PyProof.Rows L2
section
variable {X : Cx}
/-! ### d.update(e) -/
def rUpdate : V → List V → Hp → VK → Prop := fun x xs H Q => ∃ d o kvs more, x = .ref d ∧ xs = [.ref o] ∧ H d = some (.dK kvs) ∧ H o = some (.dK more) ∧ d ≠ o ∧ kvs.length + more.length ≤ 1000 ∧ Q .non (upd H d (.dK (mergeK kvs more)))
theorem mt_update : MtR X "dict.update" rUpdate := by
  intro pins s σ H x xs v us Q I rx rs h
  obtain ⟨d, o, kvs, more, rfl, rfl, hd, ho, ne, hz, q⟩ := h
  cases rx
  obtain ⟨u, rfl, ru⟩ := vals1 rs
  cases ru
  obtain ⟨z1, n1, vs1, r1, dd1⟩ := dk_of I.hok hd
  obtain ⟨z2, n2, vs2, r2, dd2⟩ := dk_of I.hok ho
  have l1 := Paired.length r1
  have l2 := Paired.length r2
  refine call_meetsIn PySem.F.slot_dict_update dd1.typeIs PySem.F.entry_dict_update (PySem.F.args_dict_update_2 _ _) (meets_dict_update (mixKind X.prog X.w) d o ne n2)
    ⟨vs1, vs2, dd1, dd2, ?_, fun h' dd' _ hs => ?_⟩
  · rw [← l1, ← l2]
    exact Nat.le_trans hz (by decide)
  · have hl : (mergeK kvs more).length ≤ sizeLine := Nat.le_trans (length_mergeK more kvs) (Nat.le_trans hz (by decide))
    have he : ∃ q, h'.get? d = some q := by
      obtain ⟨q, _, _, hq, _⟩ := dd'
      exact ⟨q, hq⟩
    exact ⟨.non, _, d_write (t' := s.toks) I (by rw [hd]; exact True.intro) hs he (dk_new hl n1 (KV.merge r2 r1) dd'), rfl, q⟩

/-! ### s * n -/
def repS (z : Str) (k : Nat) : Str := ⟨((List.replicate k z.cps.toList).flatten).toArray⟩
theorem foldl_flat (l : List (Array Nat)) : ∀ acc : Array Nat, (l.foldl (· ++ ·) acc).toList = acc.toList ++ (l.map (·.toList)).flatten := by
  induction l with
  | nil => intro acc; simp
  | cons a r ih => intro acc; rw [List.foldl_cons, ih]; simp
theorem str_ext {x y : Str} (h : x.cps.toList = y.cps.toList) : x = y := by
  obtain ⟨a⟩ := x
  obtain ⟨b⟩ := y
  have e : a = b := Array.toList_inj.mp h
  rw [e]
theorem repS_list (z : Str) (k : Nat) : (repS z k).cps.toList = (List.replicate k z.cps.toList).flatten := rfl
theorem op_rep_str : OpR X (binaryOp .Mult) (fun x y H Q => ∃ (z : Str) (n : Int), x = .str z ∧ y = .int n ∧ -(2 ^ 63) ≤ n ∧ n < 2 ^ 20 ∧ z.length ≤ 16 ∧ Q (.str (repS z n.toNat)) H) := by
  intro pins s σ H x y v u Q I rx ry h
  obtain ⟨z, n, rfl, rfl, h0, h1, h2, q⟩ := h
  obtain ⟨t, rfl⟩ := rx
  obtain ⟨t', rfl⟩ := ry
  have hmul : z.length * n.toNat ≤ 16777216 := by
    have e1 : n.toNat ≤ 1048576 := by omega
    exact Nat.mul_le_mul h2 e1
  refine PySem.P.mul_str ?_ ?_ ?_ ?_
  · have a : ¬ n < -(2 ^ 63 : Int) := by omega
    have b : ¬ n ≥ (2 ^ 63 : Int) := by omega
    rw [decide_eq_false a, decide_eq_false b]
    rfl
  · intro hn _
    have e1 : (2 ^ 63 - 1) / n ≥ 16 := by
      have e2 : (16 : Int) * n ≤ 2 ^ 63 - 1 := by omega
      exact (Int.le_ediv_iff_mul_le (by omega)).mpr e2
    omega
  · intro _ _
    unfold PySem.Builtin.Str.tooLong
    exact decide_eq_false (by
      have := hmul
      show ¬ _ > _
      first
      | (rw [sizeLine_eq]; omega)
      | omega)
  · by_cases hn : n < 1
    · rw [if_pos hn]
      have e : repS z n.toNat = Str.empty := by
        have e0 : n.toNat = 0 := by omega
        rw [e0]
        exact str_ext rfl
      rw [e] at q
      exact ⟨by decide, ⟨.str Str.empty, H, I.tok _, ⟨_, rfl⟩, q⟩⟩
    · rw [if_neg hn]
      by_cases hb : (n == 1 || z.length == 0) = true
      · rw [if_pos hb]
        have e : repS z n.toNat = z := by
          refine str_ext ?_
          rw [repS_list]
          rcases Bool.or_eq_true_iff.mp hb with hb | hb
          · have e0 : n = 1 := beq_iff_eq.mp hb
            subst e0
            show (List.replicate 1 z.cps.toList).flatten = _
            simp
          · have e0 : z.length = 0 := beq_iff_eq.mp hb
            have e1 : z.cps.toList = [] := List.length_eq_zero_iff.mp (by
              have := e0
              unfold Str.length at this
              simpa using this)
            rw [e1]
            simp
        rw [e] at q
        exact ⟨.str z, H, I, ⟨_, rfl⟩, q⟩
      · rw [if_neg hb]
        have e : (⟨(List.replicate n.toNat z.cps).foldl (· ++ ·) #[]⟩ : Str) = repS z n.toNat := by
          refine str_ext ?_
          rw [repS_list]
          show ((List.replicate n.toNat z.cps).foldl (· ++ ·) #[]).toList = _
          rw [foldl_flat]
          simp
        rw [e]
        exact ⟨by
          have z1 : (repS z n.toNat).length = n.toNat * z.length := by
            unfold Str.length repS
            simp
          rw [z1, Nat.mul_comm]
          first
          | exact Nat.le_trans hmul (by decide)
          | (rw [sizeLine_eq]; exact hmul)
          | exact hmul, ⟨.str _, H, I.tok _, ⟨_, rfl⟩, q⟩⟩
end
end Rt
end S_RtRules

section S_RtPr
set_option Elab.async false
set_option linter.all false
set_option maxRecDepth 100000
set_option maxHeartbeats 4000000
/-! plain_row, of a row that tells -/
namespace Rt
open PySem PySem.Spec PyProof.Rows L2
/-- words behind tell that are no value -/
def BadT (ws : List Str) : Prop := BadR ws ∨ ∃ v, ws = vW v ++ [("box" : Str)]
section
variable {P : Program} {w : World} {K : PySem.W.Frag} {mg : Str → Option Value} {base : Heap}
def spPr (K : PySem.W.Frag) : Sp := fun vs H Q E => ∃ (a : Addr) (ws : List Str), vs = [.ref a] ∧ H a = some (.lst (strV ("tell" :: ws))) ∧ ws.length ≤ 90000 ∧
  ((∃ v, ws = vW v ∧ ∀ H' p, Same H H' → RsI H' (.tell v) [.ref p] → Q (.ref p) H') ∨ (BadT ws ∧ ∀ H', E (.ref (C_NoText K)) none H'))
def forms1 : List (Key × V) := [(.inr "set", .str "nv"), (.inr "push", .str "nv"), (.inr "pop", .str "nn"), (.inr "put", .str "nvv"), (.inr "ask", .str "nn"), (.inr "call", .str "nn")]
def forms2 : List (Key × V) := [(.inr "tell", .str "v"), (.inr "fail", .str "v"), (.inr "return", .str "v")]
def formsM : List (Key × V) := mergeK (mergeK [] forms1) (mergeK [] forms2)
theorem formsM_tell : valV formsM (Sum.inr ("tell" : Str) : Key) = some (V.str "v") := by decide +kernel
theorem forms_len : (mergeK [] forms1).length + (mergeK [] forms2).length ≤ 1000 := by decide +kernel

theorem sc_pr : FnScope ["words", "left", "forms", "row", "kind", "values"] ["words"] (defScope S_plain_row) := ⟨rfl, rfl, rfl, by decide +kernel, rfl, by decide +kernel, by decide +kernel⟩
theorem ok_pr (T : Txt K mg) : FnOk P w K mg base (CXN P w) 5 (A_plain_row K) (fdOf K (A_plain_row K)) ["words"] (spPr K) := by
  have G_Words_init : FnOk P w K mg base CX0 1 (A_Words_init K) (fdOf K (A_Words_init K)) ["self", "words"] (spWoInit K) := ok_woInit T
  have G_Words_next_word : FnOk P w K mg base (CXN P w) 2 (A_Words_next_word K) (fdOf K (A_Words_next_word K)) ["self"] (spNext K) := ok_next T
  have G_Words_need_end : FnOk P w K mg base (CXN P w) 2 (A_Words_need_end K) (fdOf K (A_Words_need_end K)) ["self"] (spNeed K) := ok_need T
  have G_next_value : FnOk P w K mg base (CXN P w) 4 (A_next_value K) (fdOf K (A_next_value K)) ["words"] (spNv K) := ok_nv T
  refine okX T.d_plain_row sc_pr (fun vs H Q E h => ?_) (fun cdv A outer s H vs Q E hr h => ?_)
  · obtain ⟨a, ws, rfl, _⟩ := h
    rfl
  · obtain ⟨a, ws, rfl, ha, hw, h⟩ := h
    refine ⟨_, (pss_cons (ps_set (i := 1) sc_pr.nd rfl (.inl rfl) (pe_make T.mk_Words G_Words_init (hr.mono (by decide)) (by rfl) T.g_Words (b_Words_init T) .nil pass0 (pa_cons (pe_slice sl_list (pv 0) (po_some pe_int) po_none) pa_nil)))
      (pss_cons (ps_set (i := 2) sc_pr.nd rfl (.inl rfl) (pe_disp (pps_cons pe_str pe_str (pps_cons pe_str pe_str (pps_cons pe_str pe_str (pps_cons pe_str pe_str (pps_cons pe_str pe_str (pps_cons pe_str pe_str pps_nil)))))) (by rfl) (by rfl) (fun z => by cases z) (by decide)))
      (pss_cons (ps_expr (pe_bm PySem.F.plainAttrs_dict PySem.F.slot_dict_update PySem.F.type_dict_update mt_update (pv 2) (pa_cons (pe_disp (pps_cons pe_str pe_str (pps_cons pe_str pe_str (pps_cons pe_str pe_str pps_nil))) (by rfl) (by rfl) (fun z => by cases z) (by decide)) pa_nil)))
      (pss_cons (ps_if (pt_cmp (pc_dnotin (hu_of hr) (pe_ix ix_list (pv 0) pe_int (fun _ _ => rfl)) (pv 2)) (by rfl)) pss_never
        pss_nil)
      (pss_cons (ps_set (i := 3) sc_pr.nd rfl (.inl rfl) (pe_lst (pa_cons (pe_ix ix_list (pv 0) pe_int (fun _ _ => rfl)) pa_nil)))
      (pss_cons (ps_for PassesOwn.leaving rfl (pi_str (pe_dget (hu_of hr) (pv 2) (pe_ix ix_list (pv 0) pe_int (fun _ _ => rfl)) (fun _ _ => rfl))) (pg_name (i := 4) sc_pr.nd rfl (.inl rfl))
        (pss_one (ps_expr (pe_bm PySem.F.plainAttrs_list PySem.F.slot_list_append PySem.F.type_list_append mt_append (pv 3) (pa_cons (pe_ifExp (pt_cmpR op_eq (pv 4) pe_str (nomark _)) (pe_meth0 (pv 1) T.c_Words T.m_Words_next_word G_Words_next_word (hr.mono (by decide)) (b_Words_next_word T) .nil passE) (pe_call G_next_value (hr.mono (by decide)) rfl T.g_next_value T.d_next_value.kp (b_next_value T) .nil passE (pa_cons (pv 1) pa_nil))) pa_nil)))))
      (pss_cons (ps_if (pt_cmpR op_eq (pe_ix ix_list (pv 0) pe_int (fun _ _ => rfl)) pe_str (nomark _)) pss_never
        pss_nil)
      (pss_cons (ps_expr (pe_meth0 (pv 1) T.c_Words T.m_Words_need_end G_Words_need_end (hr.mono (by decide)) (b_Words_need_end T) .nil passE))
      (pss_one (ps_ret (pe_callTy call_tuple_of (by rfl) T.f_tuple (by decide +kernel) (pa_cons (pv 3) pa_nil)))))))))))), ?_⟩
    -- left = Words(words[1:])
    refine ⟨_, rfl, _, rfl, a, _, rfl, SqL.of ha, fun l hl => fun x dx nx ndx nex => ?_⟩
    have eC : cutV (strV ("tell" :: ws)) (some 1) none = strV ws := cut_one
    rw [eC] at nx ndx ⊢
    refine ⟨x, l, dx, rfl, upd_same, rfl, ?_⟩
    rw [upd_upd]
    have nxH : H x = none := (same_new hl).free nx
    have S1 : Same H (upd (upd (upd H l (.lst (strV ws))) dx (.own x)) x (wo K dx l 0)) := ((same_new hl).trans (same_new ndx)).trans (same_new (by rw [upd_ne (Ne.symm nex)]; exact nx))
    have hx1 : (upd (upd (upd H l (.lst (strV ws))) dx (.own x)) x (wo K dx l 0)) x = some (wo K dx l 0) := upd_same
    have hl1 : (upd (upd (upd H l (.lst (strV ws))) dx (.own x)) x (wo K dx l 0)) l = some (.lst (strV ws)) := upk (upk upd_same ndx) (by rw [upd_ne (Ne.symm nex)]; exact nx)
    generalize upd (upd (upd H l (.lst (strV ws))) dx (.own x)) x (wo K dx l 0) = H1 at *
    -- forms
    refine fun d hd => ?_
    refine ⟨upd_same, forms1, rfl, (by decide), ?_⟩
    refine ⟨_, rfl, .inr (.inr (.inl ⟨rfl, .inl ⟨_, upd_same⟩⟩)), fun d2 hd2 => ⟨upd_same, forms2, rfl, (by decide), ?_⟩⟩
    rw [upd_upd] at hd2 ⊢
    rw [upd_upd]
    have hd1 : upd (upd H1 d (.dK (mergeK [] forms1))) d2 (.dK (mergeK [] forms2)) d = some (.dK (mergeK [] forms1)) := upk upd_same hd2
    refine ⟨d, d2, _, _, rfl, rfl, hd1, upd_same, ne_of_none upd_same hd2, forms_len, ?_⟩
    have S2 : Same H (upd (upd (upd H1 d (.dK (mergeK [] forms1))) d2 (.dK (mergeK [] forms2))) d (.dK formsM)) := sover ((same_trans_new S1 hd).trans (same_new hd2)) (S1.free hd)
    have hx2 : upd (upd (upd H1 d (.dK (mergeK [] forms1))) d2 (.dK (mergeK [] forms2))) d (.dK formsM) x = some (wo K dx l 0) := upn (upk (upk hx1 hd) hd2) (ne_of_none hx1 hd)
    have hl2 : upd (upd (upd H1 d (.dK (mergeK [] forms1))) d2 (.dK (mergeK [] forms2))) d (.dK formsM) l = some (.lst (strV ws)) := upn (upk (upk hl1 hd) hd2) (ne_of_none hl1 hd)
    have hf2 : upd (upd (upd H1 d (.dK (mergeK [] forms1))) d2 (.dK (mergeK [] forms2))) d (.dK formsM) d = some (.dK formsM) := upd_same
    show tSeq _ _ _ _ (upd (upd (upd H1 d (.dK (mergeK [] forms1))) d2 (.dK (mergeK [] forms2))) d (.dK formsM))
    generalize upd (upd (upd H1 d (.dK (mergeK [] forms1))) d2 (.dK (mergeK [] forms2))) d (.dK formsM) = H2 at *
    have ha2 := S2 _ _ ha
    -- words[0] not in forms
    refine ⟨_, rfl, a, _, 0, .str "tell", rfl, rfl, SqL.of ha2, atI_nat (j := 0) rfl, _, rfl, d, _, rfl, DGet.k (k := (Sum.inr ("tell" : Str) : Key)) hf2, _, rfl, ?_⟩
    refine itF (by rw [formsM_tell]; rfl) ?_
    -- row = [words[0]]
    refine ⟨_, rfl, a, _, 0, .str "tell", rfl, rfl, SqL.of ha2, atI_nat (j := 0) rfl, (by show 1 ≤ sizeLine; decide), fun r hr0 => ?_⟩
    have S3 := same_trans_new S2 hr0 (o := .lst [.str "tell"])
    have hx3 : upd H2 r (.lst [.str "tell"]) x = some (wo K dx l 0) := upk hx2 hr0
    have hl3 : upd H2 r (.lst [.str "tell"]) l = some (.lst (strV ws)) := upk hl2 hr0
    have hf3 : upd H2 r (.lst [.str "tell"]) d = some (.dK formsM) := upk hf2 hr0
    have hr3 : upd H2 r (.lst [.str "tell"]) r = some (.lst [.str "tell"]) := upd_same
    have ha3 := S3 _ _ ha
    have hr00 : H r = none := S2.free hr0
    have nxr : x ≠ r := ne_of_none hx2 hr0
    have nlr : l ≠ r := ne_of_none hl2 hr0
    show tSeq _ _ _ _ (upd H2 r (.lst [.str "tell"]))
    generalize upd H2 r (.lst [.str "tell"]) = H3 at *
    -- for kind in forms[words[0]]
    refine ⟨_, rfl, _, rfl, a, _, 0, .str "tell", rfl, rfl, SqL.of ha3, atI_nat (j := 0) rfl, d, .str "v", rfl, by
      have z := DGet.k (k := (Sum.inr ("tell" : Str) : Key)) hf3
      rw [formsM_tell] at z
      exact z, "v", rfl, ?_⟩
    have hv : (∃ v rest, ws = vW v ++ rest ∧ ((rest = [] ∧ ∀ H' p, Same H H' → RsI H' (.tell v) [.ref p] → Q (.ref p) H') ∨ (rest = [("box" : Str)] ∧ ∀ H', E (.ref (C_NoText K)) none H'))) ∨
        (BadR ws ∧ ∀ H', E (.ref (C_NoText K)) none H') := by
      rcases h with ⟨v, e1, q⟩ | ⟨hb | ⟨v, e1⟩, e⟩
      · exact .inl ⟨v, [], by rw [List.append_nil]; exact e1, .inl ⟨rfl, q⟩⟩
      · exact .inr ⟨hb, e⟩
      · exact .inl ⟨v, _, e1, .inr ⟨rfl, e⟩⟩
    rcases hv with ⟨v, rest, ew, fin⟩ | ⟨hb, e⟩
    · refine for_str (x := "v") (fun i σ H' => (i = 0 ∧ H' = H3 ∧ σ = [some (.ref a), some (.ref x), some (.ref d), some (.ref r), none, none]) ∨
        (i = 1 ∧ ∃ q j kd, σ = [some (.ref a), some (.ref x), some (.ref d), some (.ref r), kd, none] ∧ Same H H' ∧ H' x = some (wo K dx l j) ∧ H' l = some (.lst (strV ws)) ∧ ws.drop j = rest ∧
          H' r = some (.lst [.str "tell", .ref q]) ∧ VlP H' v q)) (.inl ⟨rfl, rfl, rfl⟩) ?_ ?_
      · rintro i c σ H' hc (⟨rfl, rfl, rfl⟩ | ⟨rfl, _⟩)
        · have ec : c = 118 := by
            have z : some 118 = some c := (show (("v" : Str).cps)[0]? = some 118 by decide +kernel).symm.trans hc
            exact (Option.some.inj z).symm
          subst ec
          refine ⟨_, rfl, .inl ⟨rfl, _, SqL.of hr3⟩, ?_⟩
          refine ⟨_, rfl, rfl, _, rfl, itF (by decide +kernel) ?_⟩
          refine ⟨_, rfl, x, dx, l, ws, 0, rfl, hx3, hl3, Nat.le_trans hw (by decide), .inl ⟨v, rest, ew, fun H4 q j B4 hx4 hj hq => ?_⟩⟩
          have hr4 := B4 _ _ nxr.symm hr3
          refine ⟨r, _, _, rfl, rfl, hr4, (by show 1 < sizeLine; decide), .inr ⟨rfl, q, j, _, rfl, sover (but_same_of B4 S3 nxH) hr00, upn hx4 nxr, upn (B4 _ _ (ne_of hl3 hx3 (by intro z; cases z)) hl3) nlr, hj, upd_same, hq.mono ?_⟩⟩
          exact fun b ys e => upx e hr4 (by intro z; cases z)
        · exact absurd ((show (("v" : Str).cps)[1]? = none by decide +kernel).symm.trans hc) (by intro z; cases z)
      · rintro σ H' (⟨z, _⟩ | ⟨_, q, j, kd, rfl, S4, hx4, hl4, hj, hr4, hq⟩)
        · exact absurd z (by decide +kernel)
        · have ha4 := S4 _ _ ha
          refine ⟨_, rfl, a, _, 0, .str "tell", rfl, rfl, SqL.of ha4, atI_nat (j := 0) rfl, rfl, _, rfl, itF (by decide +kernel) ?_⟩
          refine ⟨_, rfl, x, dx, _, rfl, hx4, woF_no (by decide +kernel) (by decide +kernel), x, dx, l, ws, j, rfl, hx4, hl4, ?_⟩
          rcases fin with ⟨rfl, q1⟩ | ⟨rfl, e⟩
          · refine .inl ⟨drop_end hj, ?_⟩
            refine ⟨_, rfl, r, _, rfl, .inl ⟨SqL.of hr4, fun p hp => ?_⟩⟩
            exact q1 _ p (same_trans_new S4 hp) ⟨p, q, rfl, upd_same, hq.mono (ts_same (same_new hp))⟩
          · exact .inr ⟨drop_lt hj, e _⟩
    · refine for_str (x := "v") (fun i σ H' => i = 0 ∧ H' = H3 ∧ σ = [some (.ref a), some (.ref x), some (.ref d), some (.ref r), none, none]) ⟨rfl, rfl, rfl⟩ ?_ ?_
      · rintro i c σ H' hc ⟨rfl, rfl, rfl⟩
        have ec : c = 118 := by
          have z : some 118 = some c := (show (("v" : Str).cps)[0]? = some 118 by decide +kernel).symm.trans hc
          exact (Option.some.inj z).symm
        subst ec
        refine ⟨_, rfl, .inl ⟨rfl, _, SqL.of hr3⟩, ?_⟩
        refine ⟨_, rfl, rfl, _, rfl, itF (by decide +kernel) ?_⟩
        exact ⟨_, rfl, x, dx, l, ws, 0, rfl, hx3, hl3, Nat.le_trans hw (by decide), .inr ⟨hb, e⟩⟩
      · rintro σ H' ⟨z, _⟩
        exact absurd z (by decide +kernel)
end
end Rt
end S_RtPr

section S_RtBlk
set_option Elab.async false
set_option linter.all false
set_option maxRecDepth 100000
set_option maxHeartbeats 4000000
/-! blocks that are being read -/
namespace Rt
open PySem PySem.Spec PyProof.Rows L2
def fsB (w r : Addr) : List (Str × V) := [("words", .ref w), ("rows", .ref r)]
def fsI (w r v : Addr) : List (Str × V) := [("words", .ref w), ("rows", .ref r), ("value", .ref v), ("opened", .non)]
def fsW (w r v : Addr) : List (Str × V) := [("words", .ref w), ("rows", .ref r), ("value", .ref v)]
def fsT (w r : Addr) (o : V) (c : Str) : List (Str × V) := [("words", .ref w), ("rows", .ref r), ("opened", o), ("catch_box", .str c)]
theorem s_rw : (("rows" : Str) == "words") = false := by decide +kernel
theorem s_vw : (("value" : Str) == "words") = false := by decide +kernel
theorem s_vr : (("value" : Str) == "rows") = false := by decide +kernel
theorem s_ow : (("opened" : Str) == "words") = false := by decide +kernel
theorem s_or : (("opened" : Str) == "rows") = false := by decide +kernel
theorem s_ov : (("opened" : Str) == "value") = false := by decide +kernel
theorem s_cw : (("catch_box" : Str) == "words") = false := by decide +kernel
theorem s_cr : (("catch_box" : Str) == "rows") = false := by decide +kernel
theorem s_co : (("catch_box" : Str) == "opened") = false := by decide +kernel
/-- a block -/
inductive Fr where
  | base (r : Rs) | ifF (r : Rs) | whF (r : Rs) | tr1 (r : Rs) | tr2 (o r : Rs)
def Fr.rows : Fr → Rs
  | .base r => r
  | .ifF r => r
  | .whF r => r
  | .tr1 r => r
  | .tr2 _ r => r
/-- the object at b, its list of rows at r -/
def FrO (K : PySem.W.Frag) (H : Hp) (b r : Addr) : Fr → Prop
  | .base _ => ∃ dx w, H b = some (.ins (C_Block K) dx (fsB w r))
  | .ifF _ => ∃ dx w v, H b = some (.ins (C_IfBlock K) dx (fsI w r v)) ∧ VlP H .box v
  | .whF _ => ∃ dx w v, H b = some (.ins (C_WhileBlock K) dx (fsW w r v)) ∧ VlP H .box v
  | .tr1 _ => ∃ dx w, H b = some (.ins (C_TryBlock K) dx (fsT w r .non ""))
  | .tr2 o _ => ∃ dx w t ys, H b = some (.ins (C_TryBlock K) dx (fsT w r (.ref t) "x")) ∧ H t = some (.tup ys) ∧ RsI H o ys
def FrP (K : PySem.W.Frag) (H : Hp) (b r : Addr) (f : Fr) : Prop := FrO K H b r f ∧ ∃ xs, H r = some (.lst xs) ∧ RsI H f.rows xs
/-- the rows of text that count, as words -/
inductive Ln where
  | ifL | whL | tryL | caL | endL
  | tell (v : Vl)
  | bad (ws : List Str) (h : BadT ws)
def lnW : Ln → List Str
  | .ifL => ["if", "box", "x"]
  | .whL => ["while", "box", "x"]
  | .tryL => ["try"]
  | .caL => ["catch", "x"]
  | .endL => ["end"]
  | .tell v => "tell" :: vW v
  | .bad ws _ => "tell" :: ws
section
variable {P : Program} {w : World} {K : PySem.W.Frag} {mg : Str → Option Value} {base : Heap}
/-- the classes of blocks -/
def BlkC (K : PySem.W.Frag) (C : Addr) : Prop := Cls K C ∧ NoAttr K C "words" ∧ NoAttr K C "rows"
theorem blkB (T : Txt K mg) : BlkC K (C_Block K) := ⟨T.c_Block, T.n_Block_words, T.n_Block_rows⟩
theorem blkI (T : Txt K mg) : BlkC K (C_IfBlock K) := ⟨T.c_IfBlock, T.n_IfBlock_words, T.n_IfBlock_rows⟩
theorem blkW (T : Txt K mg) : BlkC K (C_WhileBlock K) := ⟨T.c_WhileBlock, T.n_WhileBlock_words, T.n_WhileBlock_rows⟩
theorem blkT (T : Txt K mg) : BlkC K (C_TryBlock K) := ⟨T.c_TryBlock, T.n_TryBlock_words, T.n_TryBlock_rows⟩
/-! ### Block.__init__ -/
def spBkI (K : PySem.W.Frag) : Sp := fun vs H Q _ => ∃ p l C dx, vs = [.ref p, .ref l] ∧ BlkC K C ∧ H p = some (.ins C dx []) ∧ ∀ r, H r = none → Q .non (upd (upd H r (.lst [])) p (.ins C dx (fsB l r)))
theorem sc_bki : FnScope ["self", "words"] ["self", "words"] (defScope S_Block_init) := ⟨rfl, rfl, rfl, by decide +kernel, rfl, by decide +kernel, by decide +kernel⟩
theorem ok_bki (T : Txt K mg) : FnOk P w K mg base CX0 1 (A_Block_init K) (fdOf K (A_Block_init K)) ["self", "words"] (spBkI K) := by
  refine T.d_Block_init.ok sc_bki (fun vs H Q E h => ?_) (fun cdv A outer s H vs Q E hr h => ?_)
  · obtain ⟨p, l, C, dx, rfl, _⟩ := h
    rfl
  · obtain ⟨p, l, C, dx, rfl, ⟨hC, n1, n2⟩, hp, q⟩ := h
    refine ⟨_, (pss_cons (ps_fld (pv 0) (pv 1) rfl)
      (pss_one (ps_fld (pv 0) (pe_lst pa_nil) rfl))), ?_⟩
    refine ⟨_, rfl, _, rfl, p, C, dx, _, rfl, hp, hC, n1, (by show 0 < 1000; decide), (by show 0 ≤ sizeLine; decide), fun r hr0 => ?_⟩
    have npr : r ≠ p := (ne_of_none upd_same hr0).symm
    have hr1 : H r = none := by rw [upd_ne npr] at hr0; exact hr0
    refine ⟨_, rfl, p, C, dx, _, rfl, upk upd_same hr0, hC, n2, (by show 1 < 1000; decide), ?_⟩
    have e1 : putF "rows" (.ref r) (putF "words" (.ref l) []) = fsB l r := by rw [ptn, pt1 s_rw, ptn]; rfl
    rw [e1]
    have e2 : upd (upd (upd H p (.ins C dx (putF "words" (.ref l) []))) r (.lst [])) p (.ins C dx (fsB l r)) = upd (upd H r (.lst [])) p (.ins C dx (fsB l r)) := by
      funext b
      by_cases hb : b = p
      · rw [hb, upd_same, upd_same]
      · rw [upd_ne hb, upd_ne hb]
        by_cases hb2 : b = r
        · rw [hb2, upd_same, upd_same]
        · rw [upd_ne hb2, upd_ne hb2, upd_ne hb]
    show Q .non (upd (upd (upd H p (.ins C dx (putF "words" (.ref l) []))) r (.lst [])) p (.ins C dx (fsB l r)))
    rw [e2]
    exact q r hr1
/-! ### Block.head, of words behind if, while: box x -/
def spHd (K : PySem.W.Frag) : Sp := fun vs H Q _ => ∃ p C dx fs l x, vs = [.ref p] ∧ BlkC K C ∧ H p = some (.ins C dx fs) ∧ fs.lookup ("words" : Str) = some (.ref l) ∧ H l = some (.lst (strV [x, "box", "x"])) ∧ ∀ H' q, Same H H' → VlP H' .box q → Q (.ref q) H'
theorem sc_hd : FnScope ["self", "left", "value"] ["self"] (defScope S_Block_head) := ⟨rfl, rfl, rfl, by decide +kernel, rfl, by decide +kernel, by decide +kernel⟩
theorem ok_hd (T : Txt K mg) : FnOk P w K mg base CX0 5 (A_Block_head K) (fdOf K (A_Block_head K)) ["self"] (spHd K) := by
  have G_Words_init : FnOk P w K mg base CX0 1 (A_Words_init K) (fdOf K (A_Words_init K)) ["self", "words"] (spWoInit K) := ok_woInit T
  have G_Words_need_end : FnOk P w K mg base (CXN P w) 2 (A_Words_need_end K) (fdOf K (A_Words_need_end K)) ["self"] (spNeed K) := ok_need T
  have G_next_value : FnOk P w K mg base (CXN P w) 4 (A_next_value K) (fdOf K (A_next_value K)) ["words"] (spNv K) := ok_nv T
  refine T.d_Block_head.ok sc_hd (fun vs H Q E h => ?_) (fun cdv A outer s H vs Q E hr h => ?_)
  · obtain ⟨p, C, dx, fs, l, x, rfl, _⟩ := h
    rfl
  · obtain ⟨p, C, dx, fs, l, y, rfl, ⟨hC, n1, n2⟩, hp, hw, hl, q⟩ := h
    refine ⟨_, (pss_cons (ps_set (i := 1) sc_hd.nd rfl (.inl rfl) (pe_make T.mk_Words G_Words_init (hr.mono (by decide)) (by rfl) T.g_Words (b_Words_init T) .nil pass0 (pa_cons (pe_slice sl_list (pe_fld (pv 0) rfl) (po_some pe_int) po_none) pa_nil)))
      (pss_cons (ps_set (i := 2) sc_hd.nd rfl (.inl rfl) (pe_call G_next_value (hr.mono (by decide)) rfl T.g_next_value T.d_next_value.kp (b_next_value T) .nil passN (pa_cons (pv 1) pa_nil)))
      (pss_cons (ps_expr (pe_meth0 (pv 1) T.c_Words T.m_Words_need_end G_Words_need_end (hr.mono (by decide)) (b_Words_need_end T) .nil passN))
      (pss_one (ps_ret (pv 2)))))), ?_⟩
    refine ⟨_, rfl, p, C, dx, fs, _, rfl, hp, hC, n1, hw, _, rfl, l, _, rfl, SqL.of hl, fun l2 hl2 => fun x dx nx ndx nex => ?_⟩
    have eC : cutV (strV [y, "box", "x"]) (some 1) none = strV ["box", "x"] := cut_one
    rw [eC] at nx ndx ⊢
    have nxH : H x = none := (same_new hl2).free nx
    refine ⟨x, l2, dx, rfl, upd_same, rfl, ?_⟩
    rw [upd_upd]
    have S1 : Same H (upd (upd (upd H l2 (.lst (strV ["box", "x"]))) dx (.own x)) x (wo K dx l2 0)) := ((same_new hl2).trans (same_new ndx)).trans (same_new (by rw [upd_ne (Ne.symm nex)]; exact nx))
    have hx1 : (upd (upd (upd H l2 (.lst (strV ["box", "x"]))) dx (.own x)) x (wo K dx l2 0)) x = some (wo K dx l2 0) := upd_same
    have hl1 : (upd (upd (upd H l2 (.lst (strV ["box", "x"]))) dx (.own x)) x (wo K dx l2 0)) l2 = some (.lst (strV ["box", "x"])) := upk (upk upd_same ndx) (by rw [upd_ne (Ne.symm nex)]; exact nx)
    generalize upd (upd (upd H l2 (.lst (strV ["box", "x"]))) dx (.own x)) x (wo K dx l2 0) = H1 at *
    refine ⟨_, rfl, x, dx, l2, ["box", "x"], 0, rfl, hx1, hl1, (by decide), .inl ⟨.box, [], rfl, fun H4 q0 j B4 hx4 hj hq => ?_⟩⟩
    refine ⟨_, rfl, x, dx, _, rfl, hx4, woF_no (by decide +kernel) (by decide +kernel), x, dx, l2, _, j, rfl, hx4, B4 _ _ (ne_of hl1 hx1 (by intro z; cases z)) hl1, .inl ⟨drop_end hj, ?_⟩⟩
    exact ⟨_, rfl, q _ q0 (but_same_of B4 S1 nxH) hq⟩
end
end Rt
end S_RtBlk

section S_RtBlk2
set_option Elab.async false
set_option linter.all false
set_option maxRecDepth 100000
set_option maxHeartbeats 4000000
/-! blocks: the first methods of if, while, try; begun_block -/
namespace Rt
open PySem PySem.Spec PyProof.Rows L2
section
variable {P : Program} {w : World} {K : PySem.W.Frag} {mg : Str → Option Value} {base : Heap}
theorem fsB_words {a r : Addr} : (fsB a r).lookup ("words" : Str) = some (.ref a) := lk0
theorem fsB_no {a r : Addr} {m : Str} (h1 : (m == ("words" : Str)) = false) (h2 : (m == ("rows" : Str)) = false) : (fsB a r).lookup m = none := (lk1 h1).trans ((lk1 h2).trans lkn)
def spIfI (K : PySem.W.Frag) (C : Addr) (F : Addr → Addr → Addr → List (Str × V)) : Sp := fun vs H Q _ => ∃ p l dx x, vs = [.ref p, .ref l] ∧ H p = some (.ins C dx []) ∧ H l = some (.lst (strV [x, "box", "x"])) ∧
  ∀ H' r v, But p H H' → H' p = some (.ins C dx (F l r v)) → VlP H' .box v → H' r = some (.lst []) → H r = none → Q .non H'
theorem sc_ifi : FnScope ["self", "words"] ["self", "words"] (defScope S_IfBlock_init) := ⟨rfl, rfl, rfl, by decide +kernel, rfl, by decide +kernel, by decide +kernel⟩
theorem ok_ifi (T : Txt K mg) : FnOk P w K mg base CX0 6 (A_IfBlock_init K) (fdOf K (A_IfBlock_init K)) ["self", "words"] (spIfI K (C_IfBlock K) fsI) := by
  have G_Block_init : FnOk P w K mg base CX0 1 (A_Block_init K) (fdOf K (A_Block_init K)) ["self", "words"] (spBkI K) := ok_bki T
  have G_Block_head : FnOk P w K mg base CX0 5 (A_Block_head K) (fdOf K (A_Block_head K)) ["self"] (spHd K) := ok_hd T
  have mHead : Meth K (C_IfBlock K) "head" (A_Block_head K) := by
    have z := T.m_IfBlock_head
    rw [T.h_IfBlock] at z
    exact z
  refine T.d_IfBlock_init.ok sc_ifi (fun vs H Q E h => ?_) (fun cdv A outer s H vs Q E hr h => ?_)
  · obtain ⟨p, l, dx, x, rfl, _⟩ := h
    rfl
  · obtain ⟨p, l, dx, y, rfl, hp, hl, q⟩ := h
    refine ⟨_, (pss_cons (ps_expr (pe_clsM (pe_glob (v := .ref (C_Block K)) rfl T.g_Block rfl) T.cf_Block G_Block_init (hr.mono (by decide)) (b_Block_init T) pass0 (pa_cons (pv 0) (pa_cons (pv 1) pa_nil))))
      (pss_cons (ps_fld (pv 0) (pe_meth0 (pv 0) T.c_IfBlock mHead G_Block_head (hr.mono (by decide)) (b_Block_head T) .nil pass0) rfl)
      (pss_one (ps_fld (pv 0) pe_non rfl)))), ?_⟩
    refine ⟨rfl, _, rfl, _, rfl, p, l, C_IfBlock K, dx, rfl, blkI T, hp, fun r hr0 => ?_⟩
    have B1 : But p H (upd (upd H r (.lst [])) p (.ins (C_IfBlock K) dx (fsB l r))) := (but_same (same_new hr0)).at_
    have hp1 : (upd (upd H r (.lst [])) p (.ins (C_IfBlock K) dx (fsB l r))) p = some (.ins (C_IfBlock K) dx (fsB l r)) := upd_same
    have hr1 : (upd (upd H r (.lst [])) p (.ins (C_IfBlock K) dx (fsB l r))) r = some (.lst []) := upn upd_same (ne_of_none hp hr0).symm
    have hl1 : (upd (upd H r (.lst [])) p (.ins (C_IfBlock K) dx (fsB l r))) l = some (.lst (strV [y, "box", "x"])) := upx (upk hl hr0) (upk hp hr0) (by intro z; cases z)
    generalize upd (upd H r (.lst [])) p (.ins (C_IfBlock K) dx (fsB l r)) = H1 at *
    refine ⟨_, rfl, p, dx, _, rfl, hp1, fsB_no (by decide +kernel) (by decide +kernel), p, _, dx, _, l, y, rfl, blkI T, hp1, fsB_words, hl1, fun H2 v S2 hv => ?_⟩
    have hp2 := S2 _ _ hp1
    have e1 : putF "value" (.ref v) (fsB l r) = fsW l r v := (pt1 s_vw).trans (by rw [pt1 s_vr, ptn]; rfl)
    refine ⟨_, rfl, p, _, dx, _, rfl, hp2, T.c_IfBlock, T.n_IfBlock_value, (by show 2 < 1000; decide), ?_⟩
    refine ⟨_, rfl, p, _, dx, _, rfl, upd_same, T.c_IfBlock, T.n_IfBlock_opened, (by rw [e1]; show 3 < 1000; decide), ?_⟩
    show Q .non (upd (upd H2 p _) p _)
    have e2 : putF "opened" .non (putF "value" (.ref v) (fsB l r)) = fsI l r v := by
      rw [e1]
      exact (pt1 s_ow).trans (by rw [pt1 s_or, pt1 s_ov, ptn]; rfl)
    rw [upd_upd, e2]
    exact q _ r v ((B1.trans (but_same S2)).at_) upd_same (hv.mono (fun b ys e => upx e hp2 (by intro z; cases z))) (upx (S2 _ _ hr1) hp2 (by intro z; cases z)) hr0
theorem sc_whi : FnScope ["self", "words"] ["self", "words"] (defScope S_WhileBlock_init) := ⟨rfl, rfl, rfl, by decide +kernel, rfl, by decide +kernel, by decide +kernel⟩
theorem ok_whi (T : Txt K mg) : FnOk P w K mg base CX0 6 (A_WhileBlock_init K) (fdOf K (A_WhileBlock_init K)) ["self", "words"] (spIfI K (C_WhileBlock K) fsW) := by
  have G_Block_init : FnOk P w K mg base CX0 1 (A_Block_init K) (fdOf K (A_Block_init K)) ["self", "words"] (spBkI K) := ok_bki T
  have G_Block_head : FnOk P w K mg base CX0 5 (A_Block_head K) (fdOf K (A_Block_head K)) ["self"] (spHd K) := ok_hd T
  have mHead : Meth K (C_WhileBlock K) "head" (A_Block_head K) := by
    have z := T.m_WhileBlock_head
    rw [T.h_WhileBlock] at z
    exact z
  refine T.d_WhileBlock_init.ok sc_whi (fun vs H Q E h => ?_) (fun cdv A outer s H vs Q E hr h => ?_)
  · obtain ⟨p, l, dx, x, rfl, _⟩ := h
    rfl
  · obtain ⟨p, l, dx, y, rfl, hp, hl, q⟩ := h
    refine ⟨_, (pss_cons (ps_expr (pe_clsM (pe_glob (v := .ref (C_Block K)) rfl T.g_Block rfl) T.cf_Block G_Block_init (hr.mono (by decide)) (b_Block_init T) pass0 (pa_cons (pv 0) (pa_cons (pv 1) pa_nil))))
      (pss_one (ps_fld (pv 0) (pe_meth0 (pv 0) T.c_WhileBlock mHead G_Block_head (hr.mono (by decide)) (b_Block_head T) .nil pass0) rfl))), ?_⟩
    refine ⟨rfl, _, rfl, _, rfl, p, l, C_WhileBlock K, dx, rfl, blkW T, hp, fun r hr0 => ?_⟩
    have B1 : But p H (upd (upd H r (.lst [])) p (.ins (C_WhileBlock K) dx (fsB l r))) := (but_same (same_new hr0)).at_
    have hp1 : (upd (upd H r (.lst [])) p (.ins (C_WhileBlock K) dx (fsB l r))) p = some (.ins (C_WhileBlock K) dx (fsB l r)) := upd_same
    have hr1 : (upd (upd H r (.lst [])) p (.ins (C_WhileBlock K) dx (fsB l r))) r = some (.lst []) := upn upd_same (ne_of_none hp hr0).symm
    have hl1 : (upd (upd H r (.lst [])) p (.ins (C_WhileBlock K) dx (fsB l r))) l = some (.lst (strV [y, "box", "x"])) := upx (upk hl hr0) (upk hp hr0) (by intro z; cases z)
    generalize upd (upd H r (.lst [])) p (.ins (C_WhileBlock K) dx (fsB l r)) = H1 at *
    refine ⟨_, rfl, p, dx, _, rfl, hp1, fsB_no (by decide +kernel) (by decide +kernel), p, _, dx, _, l, y, rfl, blkW T, hp1, fsB_words, hl1, fun H2 v S2 hv => ?_⟩
    have hp2 := S2 _ _ hp1
    have e1 : putF "value" (.ref v) (fsB l r) = fsW l r v := (pt1 s_vw).trans (by rw [pt1 s_vr, ptn]; rfl)
    refine ⟨_, rfl, p, _, dx, _, rfl, hp2, T.c_WhileBlock, T.n_WhileBlock_value, (by show 2 < 1000; decide), ?_⟩
    show Q .non (upd H2 p (.ins _ dx (putF "value" (.ref v) (fsB l r))))
    rw [e1]
    exact q _ r v ((B1.trans (but_same S2)).at_) upd_same (hv.mono (fun b ys e => upx e hp2 (by intro z; cases z))) (upx (S2 _ _ hr1) hp2 (by intro z; cases z)) hr0
def spTrI (K : PySem.W.Frag) : Sp := fun vs H Q _ => ∃ p l dx, vs = [.ref p, .ref l] ∧ H p = some (.ins (C_TryBlock K) dx []) ∧ H l = some (.lst (strV ["try"])) ∧
  ∀ H' r, But p H H' → H' p = some (.ins (C_TryBlock K) dx (fsT l r .non "")) → H' r = some (.lst []) → H r = none → Q .non H'
theorem sc_tri : FnScope ["self", "words"] ["self", "words"] (defScope S_TryBlock_init) := ⟨rfl, rfl, rfl, by decide +kernel, rfl, by decide +kernel, by decide +kernel⟩
theorem ok_tri (T : Txt K mg) : FnOk P w K mg base CX0 6 (A_TryBlock_init K) (fdOf K (A_TryBlock_init K)) ["self", "words"] (spTrI K) := by
  have G_Block_init : FnOk P w K mg base CX0 1 (A_Block_init K) (fdOf K (A_Block_init K)) ["self", "words"] (spBkI K) := ok_bki T
  refine T.d_TryBlock_init.ok sc_tri (fun vs H Q E h => ?_) (fun cdv A outer s H vs Q E hr h => ?_)
  · obtain ⟨p, l, dx, rfl, _⟩ := h
    rfl
  · obtain ⟨p, l, dx, rfl, hp, hl, q⟩ := h
    refine ⟨_, (pss_cons (ps_expr (pe_clsM (pe_glob (v := .ref (C_Block K)) rfl T.g_Block rfl) T.cf_Block G_Block_init (hr.mono (by decide)) (b_Block_init T) pass0 (pa_cons (pv 0) (pa_cons (pv 1) pa_nil))))
      (pss_cons (ps_fld (pv 0) pe_non rfl)
      (pss_cons (ps_fld (pv 0) pe_str rfl)
      (pss_one (ps_if (pt_cmpR op_gt (pe_callB call_len_seq (by rfl) T.f_len PySem.boot_len (pa_cons (pv 1) pa_nil)) pe_int (nomark _)) pss_never
        pss_nil))))), ?_⟩
    refine ⟨rfl, _, rfl, _, rfl, p, l, C_TryBlock K, dx, rfl, blkT T, hp, fun r hr0 => ?_⟩
    have B1 : But p H (upd (upd H r (.lst [])) p (.ins (C_TryBlock K) dx (fsB l r))) := (but_same (same_new hr0)).at_
    have hp1 : (upd (upd H r (.lst [])) p (.ins (C_TryBlock K) dx (fsB l r))) p = some (.ins (C_TryBlock K) dx (fsB l r)) := upd_same
    have hr1 : (upd (upd H r (.lst [])) p (.ins (C_TryBlock K) dx (fsB l r))) r = some (.lst []) := upn upd_same (ne_of_none hp hr0).symm
    have hl1 : (upd (upd H r (.lst [])) p (.ins (C_TryBlock K) dx (fsB l r))) l = some (.lst (strV ["try"])) := upx (upk hl hr0) (upk hp hr0) (by intro z; cases z)
    generalize upd (upd H r (.lst [])) p (.ins (C_TryBlock K) dx (fsB l r)) = H1 at *
    have e1 : putF "opened" .non (fsB l r) = ([("words", .ref l), ("rows", .ref r), ("opened", .non)] : List (Str × V)) := (pt1 s_ow).trans (by rw [pt1 s_or, ptn])
    have e2 : putF "catch_box" (.str "") (putF "opened" .non (fsB l r)) = fsT l r .non "" := by
      rw [e1]
      exact (pt1 s_cw).trans (by rw [pt1 s_cr, pt1 s_co, ptn]; rfl)
    refine ⟨_, rfl, p, _, dx, _, rfl, hp1, T.c_TryBlock, T.n_TryBlock_opened, (by show 2 < 1000; decide), ?_⟩
    refine ⟨_, rfl, p, _, dx, _, rfl, upd_same, T.c_TryBlock, T.n_TryBlock_catch_box, (by rw [e1]; show 3 < 1000; decide), ?_⟩
    rw [upd_upd, e2]
    have hl2 : upd H1 p (.ins (C_TryBlock K) dx (fsT l r .non "")) l = some (.lst (strV ["try"])) := upx hl1 hp1 (by intro z; cases z)
    refine ⟨_, rfl, l, _, rfl, .inl (SqL.of hl2), _, _, rfl, rfl, _, rfl, itF (by decide) ?_⟩
    exact q _ r B1.at_ upd_same (upx hr1 hp1 (by intro z; cases z)) hr0
/-! ### begun_block -/
/-- the block that a row begins -/
def opens : Ln → Option Fr
  | .ifL => some (.ifF .none)
  | .whL => some (.whF .none)
  | .tryL => some (.tr1 .none)
  | _ => none
def spBb (K : PySem.W.Frag) : Sp := fun vs H Q _ => ∃ (a : Addr) (ln : Ln), vs = [.ref a] ∧ H a = some (.lst (strV (lnW ln))) ∧
  ((opens ln = none ∧ Q .non H) ∨ (∃ f, opens ln = some f ∧ ∀ H' b r, Same H H' → FrP K H' b r f → H b = none → H r = none → b ≠ r → Q (.ref b) H'))
theorem sc_bb : FnScope ["words"] ["words"] (defScope S_begun_block) := ⟨rfl, rfl, rfl, by decide +kernel, rfl, by decide +kernel, by decide +kernel⟩
theorem ok_bb (T : Txt K mg) : FnOk P w K mg base CX0 8 (A_begun_block K) (fdOf K (A_begun_block K)) ["words"] (spBb K) := by
  have G_IfBlock_init : FnOk P w K mg base CX0 6 (A_IfBlock_init K) (fdOf K (A_IfBlock_init K)) ["self", "words"] (spIfI K (C_IfBlock K) fsI) := ok_ifi T
  have G_WhileBlock_init : FnOk P w K mg base CX0 6 (A_WhileBlock_init K) (fdOf K (A_WhileBlock_init K)) ["self", "words"] (spIfI K (C_WhileBlock K) fsW) := ok_whi T
  have G_TryBlock_init : FnOk P w K mg base CX0 6 (A_TryBlock_init K) (fdOf K (A_TryBlock_init K)) ["self", "words"] (spTrI K) := ok_tri T
  refine T.d_begun_block.ok sc_bb (fun vs H Q E h => ?_) (fun cdv A outer s H vs Q E hr h => ?_)
  · obtain ⟨a, ln, rfl, _⟩ := h
    rfl
  · obtain ⟨a, ln, rfl, ha, h⟩ := h
    refine ⟨_, (pss_cons (ps_if (pt_cmpR op_eq (pe_ix ix_list (pv 0) pe_int (fun _ _ => rfl)) pe_str (nomark _)) (pss_one (ps_ret (pe_make T.mk_IfBlock G_IfBlock_init (hr.mono (by decide)) (by rfl) T.g_IfBlock (b_IfBlock_init T) .nil pass0 (pa_cons (pv 0) pa_nil))))
        pss_nil)
      (pss_cons (ps_if (pt_cmpR op_eq (pe_ix ix_list (pv 0) pe_int (fun _ _ => rfl)) pe_str (nomark _)) (pss_one (ps_ret (pe_make T.mk_WhileBlock G_WhileBlock_init (hr.mono (by decide)) (by rfl) T.g_WhileBlock (b_WhileBlock_init T) .nil pass0 (pa_cons (pv 0) pa_nil))))
        pss_nil)
      (pss_cons (ps_if (pt_cmpR op_eq (pe_ix ix_list (pv 0) pe_int (fun _ _ => rfl)) pe_str (nomark _)) (pss_one (ps_ret (pe_make T.mk_TryBlock G_TryBlock_init (hr.mono (by decide)) (by rfl) T.g_TryBlock (b_TryBlock_init T) .nil pass0 (pa_cons (pv 0) pa_nil))))
        pss_nil)
      (pss_one (ps_ret pe_non))))), ?_⟩
    have w0 : ∃ x r, lnW ln = x :: r := by cases ln <;> exact ⟨_, _, rfl⟩
    obtain ⟨x, r, e0⟩ := w0
    have g0 : (strV (lnW ln))[0]? = some (V.str x) := by rw [e0]; rfl
    have mk : ∀ {b dx C : Addr}, H b = none → H dx = none → dx ≠ b → Same H (upd (upd H dx (.own b)) b (.ins C dx [])) := fun nb nd ne => sover (same_new nd) nb
    refine ⟨_, rfl, a, _, 0, _, rfl, rfl, SqL.of ha, atI_nat (j := 0) g0, rfl, _, rfl, ?_⟩
    cases ln with
    | ifL =>
      cases e0
      refine itT (by decide +kernel) ?_
      rcases h with ⟨z, _⟩ | ⟨f, ef, q⟩
      · cases z
      cases ef
      refine ⟨_, rfl, fun b dx nb nd ne => ?_⟩
      have S1 := mk (C := C_IfBlock K) nb nd ne
      refine ⟨b, a, dx, "if", rfl, upd_same, S1 _ _ ha, fun H' rr v B hb hv hrr nr => ⟨rfl, q H' b rr (but_same_of B S1 nb) ⟨⟨dx, a, v, hb, hv⟩, [], hrr, rfl⟩ nb (S1.free nr) (ne_of hb hrr (by intro z; cases z))⟩⟩
    | whL =>
      cases e0
      refine itF (by decide +kernel) ?_
      refine ⟨_, rfl, a, _, 0, _, rfl, rfl, SqL.of ha, atI_nat (j := 0) g0, rfl, _, rfl, itT (by decide +kernel) ?_⟩
      rcases h with ⟨z, _⟩ | ⟨f, ef, q⟩
      · cases z
      cases ef
      refine ⟨_, rfl, fun b dx nb nd ne => ?_⟩
      have S1 := mk (C := C_WhileBlock K) nb nd ne
      refine ⟨b, a, dx, "while", rfl, upd_same, S1 _ _ ha, fun H' rr v B hb hv hrr nr => ⟨rfl, q H' b rr (but_same_of B S1 nb) ⟨⟨dx, a, v, hb, hv⟩, [], hrr, rfl⟩ nb (S1.free nr) (ne_of hb hrr (by intro z; cases z))⟩⟩
    | tryL =>
      cases e0
      refine itF (by decide +kernel) ?_
      refine ⟨_, rfl, a, _, 0, _, rfl, rfl, SqL.of ha, atI_nat (j := 0) g0, rfl, _, rfl, itF (by decide +kernel) ?_⟩
      refine ⟨_, rfl, a, _, 0, _, rfl, rfl, SqL.of ha, atI_nat (j := 0) g0, rfl, _, rfl, itT (by decide +kernel) ?_⟩
      rcases h with ⟨z, _⟩ | ⟨f, ef, q⟩
      · cases z
      cases ef
      refine ⟨_, rfl, fun b dx nb nd ne => ?_⟩
      have S1 := mk (C := C_TryBlock K) nb nd ne
      refine ⟨b, a, dx, rfl, upd_same, S1 _ _ ha, fun H' rr B hb hrr nr => ⟨rfl, q H' b rr (but_same_of B S1 nb) ⟨⟨dx, a, hb⟩, [], hrr, rfl⟩ nb (S1.free nr) (ne_of hb hrr (by intro z; cases z))⟩⟩
    | _ =>
      cases e0
      refine itF (by decide +kernel) ?_
      refine ⟨_, rfl, a, _, 0, _, rfl, rfl, SqL.of ha, atI_nat (j := 0) g0, rfl, _, rfl, itF (by decide +kernel) ?_⟩
      refine ⟨_, rfl, a, _, 0, _, rfl, rfl, SqL.of ha, atI_nat (j := 0) g0, rfl, _, rfl, itF (by decide +kernel) ?_⟩
      rcases h with ⟨_, q⟩ | ⟨f, ef, q⟩
      · exact q
      · cases ef
end
end Rt
end S_RtBlk2

section S_RtBlk3
set_option Elab.async false
set_option linter.all false
set_option maxRecDepth 100000
set_option maxHeartbeats 4000000
/-! blocks: turned, closed_row -/
namespace Rt
open PySem PySem.Spec PyProof.Rows L2
section
variable {P : Program} {w : World} {K : PySem.W.Frag} {mg : Str → Option Value} {base : Heap}
theorem fsB_rows {a r : Addr} : (fsB a r).lookup ("rows" : Str) = some (.ref r) := (lk1 s_rw).trans lk0
theorem fsI_rows {a r v : Addr} : (fsI a r v).lookup ("rows" : Str) = some (.ref r) := (lk1 s_rw).trans lk0
theorem fsI_value {a r v : Addr} : (fsI a r v).lookup ("value" : Str) = some (.ref v) := (lk1 s_vw).trans ((lk1 s_vr).trans lk0)
theorem fsI_opened {a r v : Addr} : (fsI a r v).lookup ("opened" : Str) = some .non := (lk1 s_ow).trans ((lk1 s_or).trans ((lk1 s_ov).trans lk0))
theorem fsW_rows {a r v : Addr} : (fsW a r v).lookup ("rows" : Str) = some (.ref r) := (lk1 s_rw).trans lk0
theorem fsW_value {a r v : Addr} : (fsW a r v).lookup ("value" : Str) = some (.ref v) := (lk1 s_vw).trans ((lk1 s_vr).trans lk0)
theorem fsT_rows {a r : Addr} {o : V} {c : Str} : (fsT a r o c).lookup ("rows" : Str) = some (.ref r) := (lk1 s_rw).trans lk0
theorem fsT_opened {a r : Addr} {o : V} {c : Str} : (fsT a r o c).lookup ("opened" : Str) = some o := (lk1 s_ow).trans ((lk1 s_or).trans lk0)
theorem fsT_catch {a r : Addr} {o : V} {c : Str} : (fsT a r o c).lookup ("catch_box" : Str) = some (.str c) := (lk1 s_cw).trans ((lk1 s_cr).trans ((lk1 s_co).trans lk0))
/-! ### closed_row -/
def closes : Fr → Option Rs
  | .base _ => none
  | .ifF r => some (.ifR r)
  | .whF r => some (.whR r)
  | .tr1 _ => none
  | .tr2 o r => some (.tryR o r)
def spCl (K : PySem.W.Frag) (f : Fr) : Sp := fun vs H Q E => ∃ b r, vs = [.ref b] ∧ FrP K H b r f ∧
  ((closes f = none ∧ ∀ H', E (.ref (C_NoText K)) none H') ∨ (∃ R, closes f = some R ∧ ∀ H' p, Same H H' → RsI H' R [.ref p] → Q (.ref p) H'))
theorem sc_clb : FnScope ["self"] ["self"] (defScope S_Block_closed_row) := ⟨rfl, rfl, rfl, by decide +kernel, rfl, by decide +kernel, by decide +kernel⟩
theorem ok_clb (T : Txt K mg) {R : Rs} : FnOk P w K mg base (CXN P w) 2 (A_Block_closed_row K) (fdOf K (A_Block_closed_row K)) ["self"] (spCl K (.base R)) := by
  refine okX T.d_Block_closed_row sc_clb (fun vs H Q E h => ?_) (fun cdv A outer s H vs Q E hr h => ?_)
  · obtain ⟨b, r, rfl, _⟩ := h
    rfl
  · obtain ⟨b, rr, rfl, F, h⟩ := h
    refine ⟨_, (pss_one (ps_raiseK rfl takesE T.e_NoText T.g_NoText rfl)), ?_⟩
    rcases h with ⟨_, e⟩ | ⟨R, e, _⟩
    · exact e _
    · cases e
theorem sc_cli : FnScope ["self"] ["self"] (defScope S_IfBlock_closed_row) := ⟨rfl, rfl, rfl, by decide +kernel, rfl, by decide +kernel, by decide +kernel⟩
theorem ok_cli (T : Txt K mg) {R : Rs} : FnOk P w K mg base (CXN P w) 2 (A_IfBlock_closed_row K) (fdOf K (A_IfBlock_closed_row K)) ["self"] (spCl K (.ifF R)) := by
  refine okX T.d_IfBlock_closed_row sc_cli (fun vs H Q E h => ?_) (fun cdv A outer s H vs Q E hr h => ?_)
  · obtain ⟨b, r, rfl, _⟩ := h
    rfl
  · obtain ⟨b, rr, rfl, F, h⟩ := h
    refine ⟨_, (pss_cons (ps_if (pt_cmpR op_isN (pe_fld (pv 0) rfl) pe_non (nomark _)) (pss_one (ps_ret (pe_tup (pa_cons pe_str (pa_cons (pe_fld (pv 0) rfl) (pa_cons (by exact (pe_callTy call_tuple_of (by rfl) T.f_tuple (by decide +kernel) (pa_cons (pe_fld (pv 0) rfl) pa_nil))) (pa_cons (pe_tup pa_nil) pa_nil)))))))
        pss_nil)
      (pss_one (ps_ret (pe_tup (pa_cons pe_str (pa_cons (pe_fld (pv 0) rfl) (pa_cons (pe_fld (pv 0) rfl) (pa_cons (by exact (pe_callTy call_tuple_of (by rfl) T.f_tuple (by decide +kernel) (pa_cons (pe_fld (pv 0) rfl) pa_nil))) pa_nil)))))))), ?_⟩
    obtain ⟨⟨dx, a, v, hb, hv⟩, xs, hx, hR⟩ := F
    rcases h with ⟨e, _⟩ | ⟨R', e, q⟩
    · cases e
    cases e
    refine ⟨_, rfl, b, _, dx, _, _, rfl, hb, T.c_IfBlock, T.n_IfBlock_opened, fsI_opened, rfl, _, rfl, itT rfl ?_⟩
    refine ⟨_, rfl, b, _, dx, _, _, rfl, hb, T.c_IfBlock, T.n_IfBlock_value, fsI_value, _, rfl, b, _, dx, _, _, rfl, hb, T.c_IfBlock, T.n_IfBlock_rows, fsI_rows, rr, xs, rfl, .inl ⟨SqL.of hx, fun t ht => ?_⟩⟩
    refine ⟨(by show 0 ≤ sizeLine; decide), fun t2 ht2 => ⟨(by show 4 ≤ sizeLine; decide), fun p hp => ?_⟩⟩
    have S1 : Same H (upd (upd (upd H t (.tup xs)) t2 (.tup [])) p (.tup [.str "if", .ref v, .ref t, .ref t2])) := ((same_new ht).trans (same_new ht2)).trans (same_new hp)
    exact q _ p S1 ⟨p, v, t, t2, xs, rfl, upd_same, hv.mono (ts_same S1), upk (upk upd_same ht2) hp, hR.mono (ts_same S1), upk upd_same hp⟩
theorem sc_clw : FnScope ["self"] ["self"] (defScope S_WhileBlock_closed_row) := ⟨rfl, rfl, rfl, by decide +kernel, rfl, by decide +kernel, by decide +kernel⟩
theorem ok_clw (T : Txt K mg) {R : Rs} : FnOk P w K mg base (CXN P w) 2 (A_WhileBlock_closed_row K) (fdOf K (A_WhileBlock_closed_row K)) ["self"] (spCl K (.whF R)) := by
  refine okX T.d_WhileBlock_closed_row sc_clw (fun vs H Q E h => ?_) (fun cdv A outer s H vs Q E hr h => ?_)
  · obtain ⟨b, r, rfl, _⟩ := h
    rfl
  · obtain ⟨b, rr, rfl, F, h⟩ := h
    refine ⟨_, (pss_one (ps_ret (pe_tup (pa_cons pe_str (pa_cons (pe_fld (pv 0) rfl) (pa_cons (by exact (pe_callTy call_tuple_of (by rfl) T.f_tuple (by decide +kernel) (pa_cons (pe_fld (pv 0) rfl) pa_nil))) pa_nil)))))), ?_⟩
    obtain ⟨⟨dx, a, v, hb, hv⟩, xs, hx, hR⟩ := F
    rcases h with ⟨e, _⟩ | ⟨R', e, q⟩
    · cases e
    cases e
    refine ⟨_, rfl, b, _, dx, _, _, rfl, hb, T.c_WhileBlock, T.n_WhileBlock_value, fsW_value, _, rfl, b, _, dx, _, _, rfl, hb, T.c_WhileBlock, T.n_WhileBlock_rows, fsW_rows, rr, xs, rfl, .inl ⟨SqL.of hx, fun t ht => ?_⟩⟩
    refine ⟨(by show 3 ≤ sizeLine; decide), fun p hp => ?_⟩
    have S1 : Same H (upd (upd H t (.tup xs)) p (.tup [.str "while", .ref v, .ref t])) := (same_new ht).trans (same_new hp)
    exact q _ p S1 ⟨p, v, t, xs, rfl, upd_same, hv.mono (ts_same S1), upk upd_same hp, hR.mono (ts_same S1)⟩
theorem sc_clt : FnScope ["self"] ["self"] (defScope S_TryBlock_closed_row) := ⟨rfl, rfl, rfl, by decide +kernel, rfl, by decide +kernel, by decide +kernel⟩
theorem ok_clt (T : Txt K mg) {f : Fr} (hf : (∃ r, f = .tr1 r) ∨ ∃ o r, f = .tr2 o r) : FnOk P w K mg base (CXN P w) 2 (A_TryBlock_closed_row K) (fdOf K (A_TryBlock_closed_row K)) ["self"] (spCl K f) := by
  refine okX T.d_TryBlock_closed_row sc_clt (fun vs H Q E h => ?_) (fun cdv A outer s H vs Q E hr h => ?_)
  · obtain ⟨b, r, rfl, _⟩ := h
    rfl
  · obtain ⟨b, rr, rfl, F, h⟩ := h
    refine ⟨_, (pss_cons (ps_if (pt_cmpR op_isN (pe_fld (pv 0) rfl) pe_non (nomark _)) (pss_one (ps_raiseK rfl takesE T.e_NoText T.g_NoText rfl))
        pss_nil)
      (pss_one (ps_ret (pe_tup (pa_cons pe_str (pa_cons (pe_fld (pv 0) rfl) (pa_cons (pe_fld (pv 0) rfl) (pa_cons (by exact (pe_callTy call_tuple_of (by rfl) T.f_tuple (by decide +kernel) (pa_cons (pe_fld (pv 0) rfl) pa_nil))) pa_nil)))))))), ?_⟩
    rcases hf with ⟨R, rfl⟩ | ⟨O, R, rfl⟩
    · obtain ⟨⟨dx, a, hb⟩, xs, hx, hR⟩ := F
      rcases h with ⟨_, e⟩ | ⟨R', e, q⟩
      · exact ⟨_, rfl, b, _, dx, _, _, rfl, hb, T.c_TryBlock, T.n_TryBlock_opened, fsT_opened, rfl, _, rfl, itT rfl (e _)⟩
      · cases e
    · obtain ⟨⟨dx, a, t0, ys, hb, ht0, hO⟩, xs, hx, hR⟩ := F
      rcases h with ⟨e, _⟩ | ⟨R', e, q⟩
      · cases e
      cases e
      refine ⟨_, rfl, b, _, dx, _, _, rfl, hb, T.c_TryBlock, T.n_TryBlock_opened, fsT_opened, rfl, _, rfl, itF rfl ?_⟩
      refine ⟨_, rfl, b, _, dx, _, _, rfl, hb, T.c_TryBlock, T.n_TryBlock_opened, fsT_opened, _, rfl, b, _, dx, _, _, rfl, hb, T.c_TryBlock, T.n_TryBlock_catch_box, fsT_catch, _, rfl, b, _, dx, _, _, rfl, hb, T.c_TryBlock, T.n_TryBlock_rows, fsT_rows, rr, xs, rfl, .inl ⟨SqL.of hx, fun t ht => ?_⟩⟩
      refine ⟨(by show 4 ≤ sizeLine; decide), fun p hp => ?_⟩
      have S1 : Same H (upd (upd H t (.tup xs)) p (.tup [.str "try", .ref t0, .str "x", .ref t])) := (same_new ht).trans (same_new hp)
      exact q _ p S1 ⟨p, t0, t, ys, xs, rfl, upd_same, S1 _ _ ht0, hO.mono (ts_same S1), upk upd_same hp, hR.mono (ts_same S1)⟩
/-! ### turned, by catch -/
def spTb (K : PySem.W.Frag) : Sp := fun vs H Q E => ∃ a b, vs = [a, b] ∧ ∀ H', E (.ref (C_NoText K)) none H'
theorem sc_tb : FnScope ["self", "words"] ["self", "words"] (defScope S_Block_turned) := ⟨rfl, rfl, rfl, by decide +kernel, rfl, by decide +kernel, by decide +kernel⟩
theorem ok_tb (T : Txt K mg) : FnOk P w K mg base (CXN P w) 2 (A_Block_turned K) (fdOf K (A_Block_turned K)) ["self", "words"] (spTb K) := by
  refine okX T.d_Block_turned sc_tb (fun vs H Q E h => ?_) (fun cdv A outer s H vs Q E hr h => ?_)
  · obtain ⟨a, b, rfl, _⟩ := h
    rfl
  · obtain ⟨a, b, rfl, e⟩ := h
    exact ⟨_, (pss_one (ps_raiseK rfl takesE T.e_NoText T.g_NoText rfl)), e _⟩
def spTt (K : PySem.W.Frag) : Sp := fun vs H Q E => ∃ b rr a r, vs = [.ref b, .ref a] ∧ FrP K H b rr (.tr1 r) ∧ H a = some (.lst (strV ["catch", "x"])) ∧
  ∀ H' r', But b H H' → FrP K H' b r' (.tr2 r .none) → H r' = none → Q .non H'
theorem sc_tt : FnScope ["self", "words"] ["self", "words"] (defScope S_TryBlock_turned) := ⟨rfl, rfl, rfl, by decide +kernel, rfl, by decide +kernel, by decide +kernel⟩
theorem ok_tt (T : Txt K mg) : FnOk P w K mg base (CXN P w) 2 (A_TryBlock_turned K) (fdOf K (A_TryBlock_turned K)) ["self", "words"] (spTt K) := by
  refine okX T.d_TryBlock_turned sc_tt (fun vs H Q E h => ?_) (fun cdv A outer s H vs Q E hr h => ?_)
  · obtain ⟨b, rr, a, r, rfl, _⟩ := h
    rfl
  · obtain ⟨b, rr, a, R, rfl, ⟨⟨dx, w0, hb⟩, xs, hx, hR⟩, ha, q⟩ := h
    refine ⟨_, (pss_cons (ps_if (PW.pt (pw_or (pt_cmpR op_ne (pe_ix ix_list (pv 1) pe_int (fun _ _ => rfl)) pe_str (nomark _)) (pw_or (pt_cmpR op_ne (pe_callB call_len_seq (by rfl) T.f_len PySem.boot_len (pa_cons (pv 1) pa_nil)) pe_int (nomark _)) (pw_or1 (pt_cmpR op_notN (pe_fld (pv 0) rfl) pe_non (nomark _)))))) pss_never
        pss_nil)
      (pss_cons (ps_fld (pv 0) (pe_callTy call_tuple_of (by rfl) T.f_tuple (by decide +kernel) (pa_cons (pe_fld (pv 0) rfl) pa_nil)) rfl)
      (pss_cons (ps_fld (pv 0) (pe_ix ix_list (pv 1) pe_int (fun _ _ => rfl)) rfl)
      (pss_one (ps_fld (pv 0) (pe_lst pa_nil) rfl))))), ?_⟩
    refine ⟨_, rfl, a, _, 0, .str "catch", rfl, rfl, SqL.of ha, atI_nat (j := 0) rfl, rfl, _, rfl, itF (by decide +kernel) ?_⟩
    refine ⟨_, rfl, a, _, rfl, .inl (SqL.of ha), rfl, _, rfl, itF (by decide) ?_⟩
    refine ⟨_, rfl, b, _, dx, _, _, rfl, hb, T.c_TryBlock, T.n_TryBlock_opened, fsT_opened, rfl, _, rfl, itF rfl ?_⟩
    refine ⟨_, rfl, b, _, dx, _, _, rfl, hb, T.c_TryBlock, T.n_TryBlock_rows, fsT_rows, rr, xs, rfl, .inl ⟨SqL.of hx, fun t ht => ?_⟩⟩
    have hb1 : upd H t (.tup xs) b = _ := upk hb ht
    refine ⟨_, rfl, b, _, dx, _, rfl, hb1, T.c_TryBlock, T.n_TryBlock_opened, (by show 4 < 1000; decide), ?_⟩
    have p1 : putF "opened" (.ref t) (fsT w0 rr .non "") = fsT w0 rr (.ref t) "" := (pt1 s_ow).trans (by rw [pt1 s_or, pt0]; rfl)
    rw [p1]
    have ha1 : upd (upd H t (.tup xs)) b (.ins (C_TryBlock K) dx (fsT w0 rr (.ref t) "")) a = some (.lst (strV ["catch", "x"])) := upx (upk ha ht) hb1 (by intro z; cases z)
    refine ⟨_, rfl, a, _, 1, .str "x", rfl, rfl, SqL.of ha1, atI_nat (j := 1) rfl, _, rfl, b, _, dx, _, rfl, upd_same, T.c_TryBlock, T.n_TryBlock_catch_box, (by show 4 < 1000; decide), ?_⟩
    have p2 : putF "catch_box" (.str "x") (fsT w0 rr (.ref t) "") = fsT w0 rr (.ref t) "x" := (pt1 s_cw).trans (by rw [pt1 s_cr, pt1 s_co, pt0]; rfl)
    rw [upd_upd, p2]
    refine ⟨(by show 0 ≤ sizeLine; decide), fun r2 hr2 => ?_⟩
    have hb2 : upd (upd (upd H t (.tup xs)) b (.ins (C_TryBlock K) dx (fsT w0 rr (.ref t) "x"))) r2 (.lst []) b = some (.ins (C_TryBlock K) dx (fsT w0 rr (.ref t) "x")) := upk upd_same hr2
    have B1 : But b H (upd (upd (upd H t (.tup xs)) b (.ins (C_TryBlock K) dx (fsT w0 rr (.ref t) "x"))) r2 (.lst [])) := ((but_same (same_new ht)).at_).new hr2
    have ht2 : upd (upd (upd H t (.tup xs)) b (.ins (C_TryBlock K) dx (fsT w0 rr (.ref t) "x"))) r2 (.lst []) t = some (.tup xs) := upk (upx upd_same hb1 (by intro z; cases z)) hr2
    have hr3 : upd (upd (upd H t (.tup xs)) b (.ins (C_TryBlock K) dx (fsT w0 rr (.ref t) "x"))) r2 (.lst []) r2 = some (.lst []) := upd_same
    have nr2 : H r2 = none := (((but_same (same_new ht)).at_).free upd_same hr2)
    refine ⟨_, rfl, b, _, dx, _, rfl, hb2, T.c_TryBlock, T.n_TryBlock_rows, (by show 4 < 1000; decide), ?_⟩
    have p3 : putF "rows" (.ref r2) (fsT w0 rr (.ref t) "x") = fsT w0 r2 (.ref t) "x" := (pt1 s_rw).trans (by rw [pt0]; rfl)
    rw [p3]
    generalize upd (upd (upd H t (.tup xs)) b (.ins (C_TryBlock K) dx (fsT w0 rr (.ref t) "x"))) r2 (.lst []) = H3 at *
    have ts : TupS H (upd H3 b (.ins (C_TryBlock K) dx (fsT w0 r2 (.ref t) "x"))) := fun c ys e => by
      have n : c ≠ b := ne_of e hb (by intro z; cases z)
      rw [upd_ne n]
      exact B1 _ _ n e
    exact q _ r2 B1.at_ ⟨⟨dx, w0, t, xs, upd_same, upx ht2 hb2 (by intro z; cases z), hR.mono ts⟩, [], upx hr3 hb2 (by intro z; cases z), rfl⟩ nr2
end
end Rt
end S_RtBlk3

section S_RtLin
set_option Elab.async false
set_option linter.all false
set_option maxRecDepth 100000
set_option maxHeartbeats 4000000
/-! lists of texts compared; Lines -/
namespace Rt
open PySem PySem.Spec PyProof.Rows L2
/-- a list of texts as data -/
abbrev strD (ws : List Str) : PyData := .list (ws.map PyData.str)
theorem eqvAll_str : ∀ ws vs : List Str, PyData.eqvAll (ws.map PyData.str) (vs.map PyData.str) = decide (ws = vs)
  | [], [] => by simp [PyData.eqvAll]
  | [], _ :: _ => by simp [PyData.eqvAll]
  | _ :: _, [] => by simp [PyData.eqvAll]
  | x :: ws, y :: vs => by
    rw [List.map_cons, List.map_cons, PyData.eqvAll, eqvAll_str ws vs, PyData.eqv]
    by_cases h1 : x = y
    · subst h1
      by_cases h2 : ws = vs
      · subst h2
        simp
      · simp [h2]
    · simp [h1]
theorem eqv_str (ws vs : List Str) : PyData.eqv (strD ws) (strD vs) = decide (ws = vs) := by
  rw [PyData.eqv]
  exact eqvAll_str ws vs
theorem shaped_str {ws : List Str} (h : ∀ x ∈ ws, PyData.strOk x = true) : SeqAt.shaped (strD ws) = true := by
  have h1 : ∀ vs : List Str, (∀ x ∈ vs, PyData.strOk x = true) → PyData.canLayAll0 (vs.map PyData.str) = true := by
    intro vs
    induction vs with
    | nil => intro _; simp [PyData.canLayAll0]
    | cons x r ih => intro h; simp [PyData.canLayAll0, PyData.canLay0, h x List.mem_cons_self, ih fun y hy => h y (List.mem_cons_of_mem _ hy)]
  have h2 : ∀ vs : List Str, PyData.depthAll (vs.map PyData.str) = 0 := by
    intro vs
    induction vs with
    | nil => simp [PyData.depthAll]
    | cons x r ih => simp [PyData.depthAll, PyData.depth, ih]
  unfold SeqAt.shaped
  rw [Bool.and_eq_true]
  constructor
  · simp [PyData.canLay0, h1 ws h]
  · have z := h2 ws
    simp [PyData.depth, z]
theorem dp_strs {K : PySem.W.Frag} {H : Hp} : ∀ ws : List Str, DpAll K H (strV ws) (ws.map PyData.str)
  | [] => .nil
  | x :: r => .cons (.str x) (dp_strs r)
theorem dp_list {K : PySem.W.Frag} {H : Hp} {a : Addr} {ws : List Str} (h : H a = some (.lst (strV ws))) : Dp K H (.ref a) (strD ws) := .lst (SqL.of h) (dp_strs ws)

theorem take_more {α : Type} : ∀ {l : List α} {i : Nat} {x : α}, l[i]? = some x → l.take (i + 1) = l.take i ++ [x] := by
  intro l i x h
  rw [List.take_add_one, h]
  rfl
/-- the words of a line -/
def wordsOf (l : Str) : List Str := (Txt.split l " ").filter fun x : Str => !decide (x = "")
def keepW : List Str → Bool
  | [] => false
  | x :: _ => !Txt.startswith x "#"
/-- the rows that count -/
def linesOf (ls : List Str) : List (List Str) := (ls.map wordsOf).filter keepW
/-- lists of words stand at the addresses, none at L -/
def LnsP (H : Hp) (L : Addr) : List (List Str) → List V → Prop
  | [], xs => xs = []
  | ws :: r, xs => ∃ a ys, xs = V.ref a :: ys ∧ a ≠ L ∧ H a = some (.lst (strV ws)) ∧ LnsP H L r ys
theorem LnsP.mono {H H' : Hp} {L : Addr} (k : ∀ a xs, a ≠ L → H a = some (.lst xs) → H' a = some (.lst xs)) : ∀ {lns : List (List Str)} {xs : List V}, LnsP H L lns xs → LnsP H' L lns xs
  | [], _, h => h
  | ws :: r, _, ⟨a, ys, e, n, h1, h2⟩ => ⟨a, ys, e, n, k _ _ n h1, LnsP.mono k h2⟩
theorem LnsP.snoc {H : Hp} {L a : Addr} {ws : List Str} (n : a ≠ L) (h : H a = some (.lst (strV ws))) : ∀ {lns : List (List Str)} {xs : List V}, LnsP H L lns xs → LnsP H L (lns ++ [ws]) (xs ++ [.ref a])
  | [], _, e => by
    have e' : _ = [] := e
    subst e'
    exact ⟨a, [], rfl, n, h, rfl⟩
  | _ :: r, _, ⟨b, ys, e, m, h1, h2⟩ => ⟨b, ys ++ [.ref a], by rw [e]; rfl, m, h1, LnsP.snoc n h h2⟩
theorem LnsP.len {H : Hp} {L : Addr} : ∀ {lns : List (List Str)} {xs : List V}, LnsP H L lns xs → xs.length = lns.length
  | [], _, e => by
    have e' : _ = [] := e
    rw [e']; rfl
  | _ :: r, _, ⟨b, ys, e, m, h1, h2⟩ => by rw [e, List.length_cons, List.length_cons, LnsP.len h2]
theorem LnsP.at_ {H : Hp} {L : Addr} : ∀ {lns : List (List Str)} {xs : List V} {i : Nat} {ws : List Str}, LnsP H L lns xs → lns[i]? = some ws → ∃ a, xs[i]? = some (.ref a) ∧ a ≠ L ∧ H a = some (.lst (strV ws))
  | [], _, i, _, _, e => by cases e
  | w0 :: r, _, 0, ws, ⟨b, ys, e, m, h1, h2⟩, e2 => by
    have e3 : w0 = ws := Option.some.inj e2
    subst e3
    exact ⟨b, by rw [e]; rfl, m, h1⟩
  | w0 :: r, _, i + 1, ws, ⟨b, ys, e, m, h1, h2⟩, e2 => by
    obtain ⟨a, h3, h4⟩ := LnsP.at_ (i := i) h2 (by simpa using e2)
    exact ⟨a, by rw [e]; exact h3, h4⟩
theorem filter_one {α : Type} (f : α → Bool) (x : α) : List.filter f [x] = if f x = true then [x] else [] := by
  cases h : f x <;> simp [h]
theorem strV_snoc {ws : List Str} {x : Str} : strV ws ++ [V.str x] = strV (ws ++ [x]) := by
  simp [strV]
theorem linesOf_more {ls : List Str} {i : Nat} {l : Str} (h : ls[i]? = some l) : linesOf (ls.take (i + 1)) = linesOf (ls.take i) ++ (if keepW (wordsOf l) = true then [wordsOf l] else []) := by
  unfold linesOf
  rw [take_more h, List.map_append, List.filter_append]
  rw [← filter_one]
  rfl
theorem linesOf_len (ls : List Str) : (linesOf ls).length ≤ ls.length := Nat.le_trans (List.length_filter_le _ _) (by rw [List.length_map]; exact Nat.le_refl _)
theorem strV_at {ws : List Str} {i : Nat} {v : V} (h : (strV ws)[i]? = some v) : ∃ x, ws[i]? = some x ∧ v = .str x := by
  rw [List.getElem?_map] at h
  cases e : ws[i]? with
  | none => rw [e] at h; cases h
  | some x => rw [e] at h; exact ⟨x, rfl, (Option.some.inj h).symm⟩
def liF (L : Addr) (i : Nat) : List (Str × V) := [("lines", .ref L), ("place", .int (i : Int))]
theorem s_pl : (("place" : Str) == "lines") = false := by decide +kernel
theorem liF_lines {l : Addr} {i : Nat} : (liF l i).lookup ("lines" : Str) = some (.ref l) := lk0
theorem liF_place {l : Addr} {i : Nat} : (liF l i).lookup ("place" : Str) = some (.int (i : Int)) := (lk1 s_pl).trans lk0
theorem liF_put {l : Addr} {i : Nat} {z : Int} {j : Nat} (h : z = (j : Int)) : putF "place" (.int z) (liF l i) = liF l j := by
  subst h
  exact (pt1 s_pl).trans (by rw [pt0]; rfl)
theorem liF_no {l : Addr} {i : Nat} {m : Str} (h1 : (m == ("lines" : Str)) = false) (h2 : (m == ("place" : Str)) = false) : (liF l i).lookup m = none := (lk1 h1).trans ((lk1 h2).trans lkn)
abbrev li (K : PySem.W.Frag) (dx l : Addr) (i : Nat) : HO := .ins (C_Lines K) dx (liF l i)
section
variable {P : Program} {w : World} {K : PySem.W.Frag} {mg : Str → Option Value} {base : Heap}
/-! ### Lines.__init__ -/
def spLi (K : PySem.W.Frag) : Sp := fun vs H Q _ => ∃ (p dx : Addr) (z : Str), vs = [.ref p, .str z] ∧ H p = some (.ins (C_Lines K) dx []) ∧ z.length ≤ 1000000 ∧ (Txt.split z "\n").length ≤ 100000 ∧
  (∀ l ∈ Txt.split z "\n", l.length ≤ 1000000 ∧ (Txt.split l " ").length ≤ 1000000 ∧ ∀ x ∈ wordsOf l, PyData.strOk x = true) ∧
  ∀ H' L as, But p H H' → H' p = some (li K dx L 0) → H' L = some (.lst as) → LnsP H' L (linesOf (Txt.split z "\n")) as → Q .non H'
theorem sc_li : FnScope ["self", "text", "line", "words", "word"] ["self", "text"] (defScope S_Lines_init) := ⟨rfl, rfl, rfl, by decide +kernel, rfl, by decide +kernel, by decide +kernel⟩
theorem ok_li (T : Txt K mg) : FnOk P w K mg base CX0 1 (A_Lines_init K) (fdOf K (A_Lines_init K)) ["self", "text"] (spLi K) := by
  refine T.d_Lines_init.ok sc_li (fun vs H Q E h => ?_) (fun cdv A outer s H vs Q E hr h => ?_)
  · obtain ⟨p, dx, z, rfl, _⟩ := h
    rfl
  · obtain ⟨p, dx, z, rfl, hp, hz, hzl, hls, q⟩ := h
    refine ⟨_, (pss_cons (ps_fld (pv 0) (pe_lst pa_nil) rfl)
      (pss_cons (ps_for PassesOwn.never rfl (pi_list (pe_split (pv 1) pe_str)) (pg_name (i := 2) sc_li.nd rfl (.inl rfl))
        (pss_cons (ps_setLc (i := 3) (own := [("word", 4)]) rfl sc_li.nd rfl rfl (sw_true rfl rfl rfl (by decide +kernel)) (pi_list (pe_split (pv 2) pe_str)) (blkOk_by (own := [("word", 4)]) (N := ["self", "text", "line", "words", "word"]) (sc := defScope S_Lines_init) (by decide +kernel)) (fun _ _ _ _ _ => (pg_name (i := 4) sc_li.nd rfl (.inl rfl))) (fun _ _ _ _ _ => (pts_one (pt_cmpR op_ne (pv 4) pe_str (nomark _)))) (fun _ _ _ _ _ => (pv 4)))
        (pss_one (ps_if (PW.pt (pw_and (pt_cmpR (op_neD hr.units) (pv 3) (pe_lst pa_nil) (nomark _)) (pw_and1 (pt_not (pt_val (pe_m1 PySem.F.slot_str_startswith PySem.F.type_str_startswith mt_startswith (pe_ix ix_list (pv 3) pe_int (fun _ _ => rfl)) pe_str)))))) (pss_one (ps_expr (pe_bm PySem.F.plainAttrs_list PySem.F.slot_list_append PySem.F.type_list_append mt_append (pe_fld (pv 0) rfl) (pa_cons (pv 3) pa_nil))))
          pss_nil))))
      (pss_one (ps_fld (pv 0) pe_int rfl)))), ?_⟩
    refine ⟨(by show 0 ≤ sizeLine; decide), fun L hL => ?_⟩
    have npL : p ≠ L := ne_of_none hp hL
    refine ⟨_, rfl, p, _, dx, _, rfl, upk hp hL, T.c_Lines, T.n_Lines_lines, (by show 0 < 1000; decide), ?_⟩
    have eL : putF "lines" (.ref L) [] = ([("lines", .ref L)] : List (Str × V)) := rfl
    rw [eL]
    refine ⟨_, rfl, ⟨_, rfl⟩, _, _, rfl, rfl, (by decide +kernel), Nat.le_trans (Nat.add_le_add_right hz 2) (by decide), fun LS hLS => ?_⟩
    have hz2 : (Txt.split z "
").length ≤ 100000 := hzl
    generalize Txt.split z "
" = ls at *
    have hp1 : upd (upd H L (.lst [])) p (.ins (C_Lines K) dx [("lines", .ref L)]) p = some (.ins (C_Lines K) dx [("lines", .ref L)]) := upd_same
    have hL1 : upd (upd H L (.lst [])) p (.ins (C_Lines K) dx [("lines", .ref L)]) L = some (.lst []) := upn upd_same npL.symm
    have B1 : But p H (upd (upd H L (.lst [])) p (.ins (C_Lines K) dx [("lines", .ref L)])) := (but_same (same_new hL)).at_
    generalize upd (upd H L (.lst [])) p (.ins (C_Lines K) dx [("lines", .ref L)]) = H1 at *
    have nLS : L ≠ LS := ne_of_none hL1 hLS
    refine ⟨LS, rfl, ⟨_, SqL.of upd_same⟩, for_list (K := K) (a := LS) (xs := strV ls) (fun i σ H' => ∃ (s2 s3 : Option V) (as : List V), σ = [some (.ref p), some (.str z), s2, s3, none] ∧
      H' p = some (.ins (C_Lines K) dx [("lines", .ref L)]) ∧ H' L = some (.lst as) ∧ H' LS = some (.lst (strV ls)) ∧ But p H H' ∧ LnsP H' L (linesOf (ls.take i)) as)
      ⟨none, none, [], rfl, upk hp1 hLS, upk hL1 hLS, upd_same, B1.new hLS, rfl⟩ (fun i σ H' _ ⟨_, _, _, _, _, _, h, _⟩ => SqL.of h) ?_ ?_⟩
    · rintro i x σ H2 hx ⟨s2, s3, as, rfl, hp2, hL2, hS2, B2, hA⟩
      obtain ⟨l, hl, rfl⟩ := strV_at hx
      obtain ⟨k1, k2, k3⟩ := hls l (List.mem_of_getElem? hl)
      have hi : i < ls.length := (List.getElem?_eq_some_iff.mp hl).1
      have more := linesOf_more hl
      -- words = [..]
      refine ⟨_, rfl, ⟨_, rfl⟩, _, _, rfl, rfl, (by decide +kernel), Nat.le_trans (Nat.add_le_add_right k1 2) (by decide), fun LL hLL => ⟨LL, rfl, ⟨_, SqL.of upd_same⟩, fun D hD => ?_⟩⟩
      have nLD : LL ≠ D := ne_of_none upd_same hD
      refine lc_list (K := K) (a := LL) (xs := strV (Txt.split l " ")) (fun j H' => H' = upd (upd H2 LL (.lst (strV (Txt.split l " ")))) D (.lst (strV (((Txt.split l " ").take j).filter fun x : Str => !decide (x = ""))))) rfl
        (fun j H' _ e => by rw [e]; exact SqL.of (upn upd_same nLD)) ?_ ?_
      · rintro j y H' hy rfl
        obtain ⟨wd, hwd, rfl⟩ := strV_at hy
        have hj : j < (Txt.split l " ").length := (List.getElem?_eq_some_iff.mp hwd).1
        refine ⟨rfl, _, rfl, rfl, _, rfl, ?_⟩
        have ew : decide (V.str wd = V.str "") = decide (wd = "") := decide_eq_decide.mpr ⟨fun z => V.str.inj z, fun z => by rw [z]⟩
        have et : ((Txt.split l " ").take (j + 1)).filter (fun x : Str => !decide (x = "")) = ((Txt.split l " ").take j).filter (fun x : Str => !decide (x = "")) ++ (if (!decide (wd = "")) = true then [wd] else []) := by
          rw [take_more hwd, List.filter_append, filter_one]
        rw [ew]
        refine ite2 (fun c => ?_) (fun c => ?_)
        · rw [if_pos c] at et
          refine ⟨_, rfl, _, upd_same, ?_, ?_⟩
          · rw [List.length_map]
            refine Nat.lt_of_le_of_lt (Nat.le_trans (List.length_filter_le _ _) (List.length_take_le _ _)) (Nat.lt_of_lt_of_le hj (Nat.le_trans k2 (by decide)))
          · rw [upd_upd, et]
            show upd _ D _ = upd _ D _
            rw [strV_snoc]
        · rw [if_neg c, List.append_nil] at et
          rw [et]
      · rintro H' rfl
        rw [List.length_map, List.take_length]
        have ef : ((Txt.split l " ").filter fun x : Str => !decide (x = "")) = wordsOf l := rfl
        rw [ef]
        have hDn : H D = none := (B2.new hLL).free (upk hp2 hLL) hD
        have hp3 : upd (upd H2 LL (.lst (strV (Txt.split l " ")))) D (.lst (strV (wordsOf l))) p = some (.ins (C_Lines K) dx [("lines", .ref L)]) := upk (upk hp2 hLL) hD
        have hL3 : upd (upd H2 LL (.lst (strV (Txt.split l " ")))) D (.lst (strV (wordsOf l))) L = some (.lst as) := upk (upk hL2 hLL) hD
        have hS3 : upd (upd H2 LL (.lst (strV (Txt.split l " ")))) D (.lst (strV (wordsOf l))) LS = some (.lst (strV ls)) := upk (upk hS2 hLL) hD
        have hD3 : upd (upd H2 LL (.lst (strV (Txt.split l " ")))) D (.lst (strV (wordsOf l))) D = some (.lst (strV (wordsOf l))) := upd_same
        have B3 : But p H (upd (upd H2 LL (.lst (strV (Txt.split l " ")))) D (.lst (strV (wordsOf l)))) := (B2.new hLL).new hD
        have hA3 : LnsP (upd (upd H2 LL (.lst (strV (Txt.split l " ")))) D (.lst (strV (wordsOf l)))) L (linesOf (ls.take i)) as := hA.mono fun a xs _ e => upk (upk e hLL) hD
        have nDL : D ≠ L := (ne_of_none (upk hL2 hLL) hD).symm
        generalize upd (upd H2 LL (.lst (strV (Txt.split l " ")))) D (.lst (strV (wordsOf l))) = H3 at *
        refine ⟨_, rfl, (by show 0 ≤ sizeLine; decide), fun e0 he0 => ⟨strD (wordsOf l), strD [], dp_list (upk hD3 he0), dp_list (ws := []) upd_same, shaped_str k3, shaped_str (fun _ h => nomatch h), _, rfl, ?_⟩⟩
        have hp4 := upk (o := .lst []) hp3 he0
        have hL4 := upk (o := .lst []) hL3 he0
        have hS4 := upk (o := .lst []) hS3 he0
        have hD4 := upk (o := .lst []) hD3 he0
        have B4 := B3.new (o := .lst []) he0
        have hA4 : LnsP (upd H3 e0 (.lst [])) L (linesOf (ls.take i)) as := hA3.mono fun a xs _ e => upk e he0
        rw [eqv_str]
        cases ew : wordsOf l with
        | nil =>
          rw [ew] at more
          rw [if_neg (by decide), List.append_nil] at more
          refine itF rfl (iteF ?_)
          exact ⟨_, _, as, rfl, hp4, hL4, hS4, B4, by rw [more]; exact hA4⟩
        | cons x r =>
          rw [ew] at more hD4
          refine itT rfl ?_
          refine ⟨_, rfl, D, _, 0, .str x, rfl, rfl, SqL.of hD4, atI_nat (j := 0) rfl, ⟨_, rfl⟩, x, "#", rfl, rfl, _, rfl, ?_⟩
          have ek : keepW (x :: r) = !Txt.startswith x "#" := rfl
          rw [ek] at more
          by_cases c : (!Txt.startswith x "#") = true
          · rw [if_pos c] at more
            refine itT c ?_
            have la : as.length < 100000 := by
              have e1 := hA.len
              have e2 := linesOf_len (ls.take i)
              rw [List.length_take] at e2
              omega
            refine ⟨_, rfl, p, _, dx, _, _, rfl, hp4, T.c_Lines, T.n_Lines_lines, lk0, .inl ⟨rfl, _, SqL.of hL4⟩, _, rfl, L, as, _, rfl, rfl, hL4, Nat.lt_trans la (by decide), ?_⟩
            have hLn : H L = none := hL
            refine ⟨_, _, as ++ [.ref D], rfl, upn hp4 npL, upd_same, upn hS4 nLS.symm, B4.over hLn, ?_⟩
            rw [more]
            exact (hA4.mono fun a xs n e => upn e n).snoc nDL (upn hD4 nDL)
          · rw [if_neg c, List.append_nil] at more
            refine itF (by simpa using c) ?_
            exact ⟨_, _, as, rfl, hp4, hL4, hS4, B4, by rw [more]; exact hA4⟩
    · rintro σ H2 ⟨s2, s3, as, rfl, hp2, hL2, hS2, B2, hA⟩
      rw [List.length_map, List.take_length] at hA
      refine ⟨_, rfl, p, _, dx, _, rfl, hp2, T.c_Lines, T.n_Lines_place, (by show 1 < 1000; decide), ?_⟩
      have e2 : putF "place" (.int 0) ([("lines", .ref L)] : List (Str × V)) = liF L 0 := (pt1 s_pl).trans (by rw [ptn]; rfl)
      rw [e2]
      exact q _ L as B2.at_ upd_same (upn hL2 npL.symm) (hA.mono fun a xs _ e => upx e hp2 (by intro z; cases z))
/-! ### next_head, next_line -/
def headOf (lns : List (List Str)) (i : Nat) : Str := match lns[i]? with
  | some (x :: _) => x
  | _ => ""
def spNh (K : PySem.W.Frag) : Sp := fun vs H Q _ => ∃ (p dx L : Addr) (i : Nat) (lns : List (List Str)) (as : List V), vs = [.ref p] ∧ H p = some (li K dx L i) ∧ H L = some (.lst as) ∧ LnsP H L lns as ∧ (∀ ws ∈ lns, ws ≠ []) ∧
  Q (.str (headOf lns i)) H
theorem sc_nh : FnScope ["self"] ["self"] (defScope S_Lines_next_head) := ⟨rfl, rfl, rfl, by decide +kernel, rfl, by decide +kernel, by decide +kernel⟩
theorem ok_nh (T : Txt K mg) : FnOk P w K mg base CX0 1 (A_Lines_next_head K) (fdOf K (A_Lines_next_head K)) ["self"] (spNh K) := by
  refine T.d_Lines_next_head.ok sc_nh (fun vs H Q E h => ?_) (fun cdv A outer s H vs Q E hr h => ?_)
  · obtain ⟨p, dx, L, i, lns, as, rfl, _⟩ := h
    rfl
  · obtain ⟨p, dx, L, i, lns, as, rfl, hp, hL, hA, hne, q⟩ := h
    refine ⟨_, (pss_cons (ps_if (pt_cmpR op_lt (pe_fld (pv 0) rfl) (pe_callB call_len_seq (by rfl) T.f_len PySem.boot_len (pa_cons (pe_fld (pv 0) rfl) pa_nil)) (nomark _)) (pss_one (ps_ret (pe_ix ix_list (pe_ix ix_list (pe_fld (pv 0) rfl) (pe_fld (pv 0) rfl) (fun _ _ => rfl)) pe_int (fun _ _ => rfl))))
        pss_nil)
      (pss_one (ps_ret pe_str))), ?_⟩
    refine ⟨_, rfl, p, _, dx, _, _, rfl, hp, T.c_Lines, T.n_Lines_place, liF_place, _, rfl, p, _, dx, _, _, rfl, hp, T.c_Lines, T.n_Lines_lines, liF_lines, L, as, rfl, .inl (SqL.of hL), _, _, rfl, rfl, _, rfl, ?_⟩
    have el := hA.len
    by_cases hi : i < lns.length
    · refine itT (decide_eq_true (by omega)) ?_
      have g : lns[i]? = some lns[i] := List.getElem?_eq_getElem hi
      obtain ⟨a, h1, _, h2⟩ := hA.at_ g
      cases e : lns[i] with
      | nil => exact absurd e (hne _ (List.getElem_mem hi))
      | cons x r =>
        rw [e] at h2 g
        have eh : headOf lns i = x := by unfold headOf; rw [g]
        rw [eh] at q
        exact ⟨_, rfl, p, _, dx, _, _, rfl, hp, T.c_Lines, T.n_Lines_lines, liF_lines, _, rfl, p, _, dx, _, _, rfl, hp, T.c_Lines, T.n_Lines_place, liF_place, L, as, _, _, rfl, rfl, SqL.of hL, atI_nat h1,
          a, _, 0, .str x, rfl, rfl, SqL.of h2, atI_nat (j := 0) rfl, q⟩
    · refine itF (decide_eq_false (by omega)) ?_
      have eh : headOf lns i = "" := by
        unfold headOf
        rw [List.getElem?_eq_none (by omega)]
      rw [eh] at q
      exact q
def spNl (K : PySem.W.Frag) : Sp := fun vs H Q E => ∃ (p dx L : Addr) (i : Nat) (lns : List (List Str)) (as : List V), vs = [.ref p] ∧ H p = some (li K dx L i) ∧ H L = some (.lst as) ∧ LnsP H L lns as ∧ i ≤ lns.length ∧
  ((∃ ws, lns[i]? = some ws ∧ ∀ a, H a = some (.lst (strV ws)) → a ≠ L → Q (.ref a) (upd H p (li K dx L (i + 1)))) ∨ (lns.length = i ∧ E (.ref (C_NoText K)) none H))
theorem sc_nl : FnScope ["self"] ["self"] (defScope S_Lines_next_line) := ⟨rfl, rfl, rfl, by decide +kernel, rfl, by decide +kernel, by decide +kernel⟩
theorem ok_nl (T : Txt K mg) : FnOk P w K mg base (CXN P w) 2 (A_Lines_next_line K) (fdOf K (A_Lines_next_line K)) ["self"] (spNl K) := by
  refine okX T.d_Lines_next_line sc_nl (fun vs H Q E h => ?_) (fun cdv A outer s H vs Q E hr h => ?_)
  · obtain ⟨p, dx, L, i, lns, as, rfl, _⟩ := h
    rfl
  · obtain ⟨p, dx, L, i, lns, as, rfl, hp, hL, hA, hle, h⟩ := h
    refine ⟨_, (pss_cons (ps_if (pt_cmpR op_eq (pe_fld (pv 0) rfl) (pe_callB call_len_seq (by rfl) T.f_len PySem.boot_len (pa_cons (pe_fld (pv 0) rfl) pa_nil)) (nomark _)) (pss_one (ps_raiseK rfl takesE T.e_NoText T.g_NoText rfl))
        pss_nil)
      (pss_cons (ps_fldaug (pv 0) pe_int in_add)
      (pss_one (ps_ret (pe_ix ix_list (pe_fld (pv 0) rfl) (pe_op op_sub (pe_fld (pv 0) rfl) pe_int) (fun _ _ => rfl)))))), ?_⟩
    have el := hA.len
    refine ⟨_, rfl, p, _, dx, _, _, rfl, hp, T.c_Lines, T.n_Lines_place, liF_place, _, rfl, p, _, dx, _, _, rfl, hp, T.c_Lines, T.n_Lines_lines, liF_lines, L, as, rfl, .inl (SqL.of hL), rfl, _, rfl, ?_⟩
    rcases h with ⟨ws, hws, q⟩ | ⟨hi, e⟩
    · have hi : i < lns.length := (List.getElem?_eq_some_iff.mp hws).1
      obtain ⟨a, h1, n1, h2⟩ := hA.at_ hws
      refine itF (decide_eq_false fun z => by injection z; omega) ?_
      refine ⟨_, rfl, p, _, dx, _, _, rfl, hp, T.c_Lines, T.n_Lines_place, liF_place, _, _, rfl, rfl, dx, _, hp, (by show 2 < 1000; decide), ?_⟩
      rw [liF_put (j := i + 1) (by omega)]
      have hL1 : upd H p (li K dx L (i + 1)) L = some (.lst as) := upx hL hp (by intro z; cases z)
      exact ⟨_, rfl, p, _, dx, _, _, rfl, upd_same, T.c_Lines, T.n_Lines_lines, liF_lines, _, rfl, p, _, dx, _, _, rfl, upd_same, T.c_Lines, T.n_Lines_place, liF_place, _, _, rfl, rfl, L, as, _, _, rfl, rfl, SqL.of hL1, at_of (j := i) (by omega) h1, q a h2 n1⟩
    · exact itT (decide_eq_true (by rw [el, hi])) e
end
end Rt
end S_RtLin

section S_RtRr
set_option Elab.async false
set_option linter.all false
set_option maxRecDepth 100000
set_option maxHeartbeats 4000000
/-! read_rows -/
namespace Rt
open PySem PySem.Spec PyProof.Rows L2
/-! ### the reading, in plain -/
def Fr.put : Fr → Rs → Fr
  | .base _, x => .base x
  | .ifF _, x => .ifF x
  | .whF _, x => .whF x
  | .tr1 _, x => .tr1 x
  | .tr2 o _, x => .tr2 o x
inductive Stp where
  | off | bad | ok (S : List Fr)
def push (R : Rs) : List Fr → Stp
  | [] => .off
  | f :: S => match f.rows with
    | .none => .ok (f.put R :: S)
    | _ => .off
def stp : Ln → List Fr → Stp
  | .ifL, S => .ok (.ifF .none :: S)
  | .whL, S => .ok (.whF .none :: S)
  | .tryL, S => .ok (.tr1 .none :: S)
  | .caL, .base _ :: _ => .bad
  | .caL, .tr1 r :: S => .ok (.tr2 r .none :: S)
  | .caL, _ => .off
  | .endL, [] => .off
  | .endL, f :: S => match closes f with
    | none => .bad
    | some R => push R S
  | .tell v, S => push (.tell v) S
  | .bad _ _, _ => .bad
inductive Res where
  | off | bad | ok (r : Rs)
def go : List Ln → List Fr → Res
  | [], [.base r] => .ok r
  | [], _ => .bad
  | ln :: l, S => match stp ln S with
    | .off => .off
    | .bad => .bad
    | .ok S' => go l S'
def Bot : List Fr → Prop
  | [] => False
  | [f] => ∃ r, f = .base r
  | _ :: S => Bot S
theorem Bot.cons {f : Fr} {S : List Fr} (h : Bot S) : Bot (f :: S) := by
  cases S with
  | nil => exact h.elim
  | cons g S => exact h
theorem push_ok {R : Rs} {S S' : List Fr} (h : push R S = .ok S') : ∃ f T, S = f :: T ∧ f.rows = .none ∧ S' = f.put R :: T := by
  cases S with
  | nil => cases h
  | cons f T =>
    have e : push R (f :: T) = match f.rows with | .none => .ok (f.put R :: T) | _ => .off := rfl
    rw [e] at h
    cases er : f.rows <;> rw [er] at h <;> first | (cases h; done) | skip
    exact ⟨f, T, rfl, er, (Stp.ok.inj h).symm⟩
theorem push_noBad {R : Rs} {S : List Fr} (h : push R S = .bad) : False := by
  cases S with
  | nil => cases h
  | cons f T =>
    have e : push R (f :: T) = match f.rows with | .none => .ok (f.put R :: T) | _ => .off := rfl
    rw [e] at h
    cases er : f.rows <;> rw [er] at h <;> cases h
theorem Bot.put {f : Fr} {R : Rs} {S : List Fr} (h : Bot (f :: S)) : Bot (f.put R :: S) := by
  cases S with
  | nil =>
    obtain ⟨r, e⟩ := h
    subst e
    exact ⟨R, rfl⟩
  | cons g S => exact h
theorem Bot.tail {f g : Fr} {S : List Fr} (h : Bot (f :: g :: S)) : Bot (g :: S) := h
/-! ### how the heap bears the blocks, the top first -/
def FsP (K : PySem.W.Frag) (H0 H : Hp) (S0 : Addr) : List Fr → List (Addr × Addr) → Prop
  | [], bs => bs = []
  | f :: S, bs => ∃ b r bs', bs = (b, r) :: bs' ∧ FrP K H b r f ∧ H0 b = none ∧ H0 r = none ∧ r ≠ S0 ∧ (∀ q ∈ bs', q.1 ≠ b ∧ q.2 ≠ r) ∧ FsP K H0 H S0 S bs'
abbrev refsOf (bs : List (Addr × Addr)) : List V := (bs.map fun q => V.ref q.1).reverse
theorem two_ne (b r : Nat) : ∃ x : Nat, b ≠ x ∧ r ≠ x := ⟨b + r + 1, by omega, by omega⟩
theorem FrO.some {K : PySem.W.Frag} {H : Hp} {b r : Addr} {f : Fr} (h : FrO K H b r f) : ∃ C dx fs, H b = some (.ins C dx fs) := by
  cases f with
  | base => obtain ⟨dx, w, e⟩ := h; exact ⟨_, _, _, e⟩
  | ifF => obtain ⟨dx, w, v, e, _⟩ := h; exact ⟨_, _, _, e⟩
  | whF => obtain ⟨dx, w, v, e, _⟩ := h; exact ⟨_, _, _, e⟩
  | tr1 => obtain ⟨dx, w, e⟩ := h; exact ⟨_, _, _, e⟩
  | tr2 => obtain ⟨dx, w, t, ys, e, _⟩ := h; exact ⟨_, _, _, e⟩
theorem FrO.mono {K : PySem.W.Frag} {H H' : Hp} {x b r : Addr} {f : Fr} (B : But x H H') (ts : TupS H H') (n : b ≠ x) (h : FrO K H b r f) : FrO K H' b r f := by
  cases f with
  | base => obtain ⟨dx, w, e⟩ := h; exact ⟨dx, w, B _ _ n e⟩
  | ifF => obtain ⟨dx, w, v, e, h⟩ := h; exact ⟨dx, w, v, B _ _ n e, h.mono ts⟩
  | whF => obtain ⟨dx, w, v, e, h⟩ := h; exact ⟨dx, w, v, B _ _ n e, h.mono ts⟩
  | tr1 => obtain ⟨dx, w, e⟩ := h; exact ⟨dx, w, B _ _ n e⟩
  | tr2 => obtain ⟨dx, w, t, ys, e, h1, h2⟩ := h; exact ⟨dx, w, t, ys, B _ _ n e, ts _ _ h1, h2.mono ts⟩
theorem FrP.mono {K : PySem.W.Frag} {H H' : Hp} {x b r : Addr} {f : Fr} (B : But x H H') (ts : TupS H H') (n : b ≠ x) (m : r ≠ x) (h : FrP K H b r f) : FrP K H' b r f :=
  let ⟨h1, xs, h2, h3⟩ := h
  ⟨h1.mono B ts n, xs, B _ _ m h2, h3.mono ts⟩
theorem FrP.same {K : PySem.W.Frag} {H H' : Hp} {b r : Addr} {f : Fr} (S : Same H H') (h : FrP K H b r f) : FrP K H' b r f := by
  obtain ⟨x, n, m⟩ := two_ne b r
  exact h.mono (but_same (a := x) S) (ts_same S) n m
theorem FsP.mono {K : PySem.W.Frag} {H0 H H' : Hp} {S0 x : Addr} (B : But x H H') (ts : TupS H H') : ∀ {S : List Fr} {bs : List (Addr × Addr)}, (∀ q ∈ bs, q.1 ≠ x ∧ q.2 ≠ x) → FsP K H0 H S0 S bs → FsP K H0 H' S0 S bs
  | [], _, _, h => h
  | f :: S, _, n, ⟨b, r, bs', e, h1, h2, h3, h4, h5, h6⟩ => by
    subst e
    have z := n (b, r) List.mem_cons_self
    exact ⟨b, r, bs', rfl, h1.mono B ts z.1 z.2, h2, h3, h4, h5, FsP.mono B ts (fun q hq => n q (List.mem_cons_of_mem _ hq)) h6⟩
theorem FsP.same {K : PySem.W.Frag} {H0 H H' : Hp} {S0 : Addr} (Sm : Same H H') : ∀ {S : List Fr} {bs : List (Addr × Addr)}, FsP K H0 H S0 S bs → FsP K H0 H' S0 S bs
  | [], _, h => h
  | f :: S, _, ⟨b, r, bs', e, h1, h2, h3, h4, h5, h6⟩ => ⟨b, r, bs', e, h1.same Sm, h2, h3, h4, h5, FsP.same Sm h6⟩
/-- every block and every list of rows is there -/
theorem FsP.there {K : PySem.W.Frag} {H0 H : Hp} {S0 : Addr} : ∀ {S : List Fr} {bs : List (Addr × Addr)}, FsP K H0 H S0 S bs → ∀ q ∈ bs, (∃ C dx fs, H q.1 = some (.ins C dx fs)) ∧ (∃ xs, H q.2 = some (.lst xs)) ∧ q.2 ≠ S0 ∧ H0 q.1 = none
  | [], _, h => fun q hq => by
    have e : _ = [] := h
    subst e
    cases hq
  | f :: S, _, ⟨b, r, bs', e, ⟨h1, xs, hx, _⟩, h2, h3, h4, h5, h6⟩ => fun q hq => by
    subst e
    rcases List.mem_cons.mp hq with rfl | hq
    · exact ⟨h1.some, ⟨xs, hx⟩, h4, h2⟩
    · exact FsP.there h6 q hq
theorem FsP.len {K : PySem.W.Frag} {H0 H : Hp} {S0 : Addr} : ∀ {S : List Fr} {bs : List (Addr × Addr)}, FsP K H0 H S0 S bs → bs.length = S.length
  | [], _, h => by
    have e : _ = [] := h
    rw [e]; rfl
  | f :: S, _, ⟨b, r, bs', e, h1, h2, h3, h4, h5, h6⟩ => by rw [e, List.length_cons, List.length_cons, FsP.len h6]
theorem refsOf_cons {b r : Addr} {bs : List (Addr × Addr)} : refsOf ((b, r) :: bs) = refsOf bs ++ [V.ref b] := by
  simp [refsOf]
theorem refsOf_len {bs : List (Addr × Addr)} : (refsOf bs).length = bs.length := by simp [refsOf]
theorem refsOf_top {b r : Addr} {bs : List (Addr × Addr)} : atI (refsOf ((b, r) :: bs)) (-1) = some (V.ref b) := by
  rw [refsOf_cons]
  exact atI_last _ _
theorem drop_atG {α : Type} {ws r : List α} {i : Nat} {x : α} (h : ws.drop i = x :: r) : ws[i]? = some x ∧ ws.drop (i + 1) = r := by
  constructor
  · have z := List.getElem?_drop (xs := ws) (i := i) (j := 0)
    rw [h] at z
    simpa using z.symm
  · have z := List.drop_drop (l := ws) (i := 1) (j := i)
    rw [h] at z
    have z2 : r = ws.drop (i + 1) := z
    exact z2.symm
theorem sc_rr : FnScope ["lines", "closed", "open_blocks", "words", "block", "row"] ["lines", "closed"] (defScope S_read_rows) := ⟨rfl, rfl, rfl, by decide +kernel, rfl, by decide +kernel, by decide +kernel⟩
section
variable {P : Program} {w : World} {K : PySem.W.Frag} {mg : Str → Option Value} {base : Heap}
theorem Fr.put_rows {f : Fr} {R : Rs} : (f.put R).rows = R := by cases f <;> rfl
theorem FrO.put {H : Hp} {b r : Addr} {f : Fr} {R : Rs} (h : FrO K H b r f) : FrO K H b r (f.put R) := by
  cases f <;> exact h
theorem fr_rows (T : Txt K mg) {H : Hp} {b r : Addr} {f : Fr} (h : FrO K H b r f) : ∃ C dx fs, H b = some (.ins C dx fs) ∧ BlkC K C ∧ fs.lookup ("rows" : Str) = some (.ref r) := by
  cases f with
  | base => obtain ⟨dx, w, e⟩ := h; exact ⟨_, _, _, e, blkB T, fsB_rows⟩
  | ifF => obtain ⟨dx, w, v, e, _⟩ := h; exact ⟨_, _, _, e, blkI T, fsI_rows⟩
  | whF => obtain ⟨dx, w, v, e, _⟩ := h; exact ⟨_, _, _, e, blkW T, fsW_rows⟩
  | tr1 => obtain ⟨dx, w, e⟩ := h; exact ⟨_, _, _, e, blkT T, fsT_rows⟩
  | tr2 => obtain ⟨dx, w, t, ys, e, _⟩ := h; exact ⟨_, _, _, e, blkT T, fsT_rows⟩
theorem s_k0 : (("closed_row" : Str) == "words") = false := by decide +kernel
theorem s_k1 : (("closed_row" : Str) == "rows") = false := by decide +kernel
theorem s_k2 : (("closed_row" : Str) == "value") = false := by decide +kernel
theorem s_k3 : (("closed_row" : Str) == "opened") = false := by decide +kernel
theorem s_k4 : (("closed_row" : Str) == "catch_box") = false := by decide +kernel
theorem s_t0 : (("turned" : Str) == "words") = false := by decide +kernel
theorem s_t1 : (("turned" : Str) == "rows") = false := by decide +kernel
theorem s_t3 : (("turned" : Str) == "opened") = false := by decide +kernel
theorem s_t4 : (("turned" : Str) == "catch_box") = false := by decide +kernel
theorem fr_close {X : Cx} {E : XK} (T : Txt X.K X.mg) (hr : Room 2 X.A) (ps : Passes (CXN X.prog X.w) X E) {H : Hp} {b r : Addr} {f : Fr} (h : FrP X.K H b r f) :
    ∃ C dx fs, H b = some (.ins C dx fs) ∧ fs.lookup ("closed_row" : Str) = none ∧ MthV X C "closed_row" (spCl X.K f) E := by
  obtain ⟨h, _⟩ := h
  cases f with
  | base => obtain ⟨dx, w, e⟩ := h; exact ⟨_, _, _, e, (lk1 s_k0).trans ((lk1 s_k1).trans lkn), ⟨_, _, _, _, _, T.c_Block, T.m_Block_closed_row, ok_clb T, hr, b_Block_closed_row T, ps⟩⟩
  | ifF => obtain ⟨dx, w, v, e, _⟩ := h; exact ⟨_, _, _, e, (lk1 s_k0).trans ((lk1 s_k1).trans ((lk1 s_k2).trans ((lk1 s_k3).trans lkn))), ⟨_, _, _, _, _, T.c_IfBlock, T.m_IfBlock_closed_row, ok_cli T, hr, b_IfBlock_closed_row T, ps⟩⟩
  | whF => obtain ⟨dx, w, v, e, _⟩ := h; exact ⟨_, _, _, e, (lk1 s_k0).trans ((lk1 s_k1).trans ((lk1 s_k2).trans lkn)), ⟨_, _, _, _, _, T.c_WhileBlock, T.m_WhileBlock_closed_row, ok_clw T, hr, b_WhileBlock_closed_row T, ps⟩⟩
  | tr1 => obtain ⟨dx, w, e⟩ := h; exact ⟨_, _, _, e, (lk1 s_k0).trans ((lk1 s_k1).trans ((lk1 s_k3).trans ((lk1 s_k4).trans lkn))), ⟨_, _, _, _, _, T.c_TryBlock, T.m_TryBlock_closed_row, ok_clt T (.inl ⟨_, rfl⟩), hr, b_TryBlock_closed_row T, ps⟩⟩
  | tr2 => obtain ⟨dx, w, t, ys, e, _⟩ := h; exact ⟨_, _, _, e, (lk1 s_k0).trans ((lk1 s_k1).trans ((lk1 s_k3).trans ((lk1 s_k4).trans lkn))), ⟨_, _, _, _, _, T.c_TryBlock, T.m_TryBlock_closed_row, ok_clt T (.inr ⟨_, _, rfl⟩), hr, b_TryBlock_closed_row T, ps⟩⟩
theorem push_at {H0 H : Hp} {S0 b r p : Addr} {S S2 : List Fr} {bs : List (Addr × Addr)} {R : Rs} (e : push R S = .ok S2) (h : FsP K H0 H S0 S ((b, r) :: bs)) (hR : RsI H R [.ref p]) :
    H r = some (.lst []) ∧ H0 r = none ∧ r ≠ S0 ∧ FsP K H0 (upd H r (.lst [.ref p])) S0 S2 ((b, r) :: bs) ∧ S2.length = S.length := by
  obtain ⟨f, T, rfl, er, rfl⟩ := push_ok e
  obtain ⟨b', r', bs', e2, ⟨h1, xs, hx, hxs⟩, h2, h3, h4, h5, h6⟩ := h
  cases e2
  rw [er] at hxs
  have hxs2 : xs = [] := hxs
  subst hxs2
  have ts : TupS H (upd H r (.lst [.ref p])) := (but_upd (a := r) (H := H) (o := .lst [.ref p])).ts (fun ys z => by rw [hx] at z; cases z)
  obtain ⟨C, dx, fs, hb⟩ := h1.some
  have nbr : b ≠ r := ne_of hb hx (by intro z; cases z)
  refine ⟨hx, h3, h4, ⟨b, r, bs, rfl, ⟨(h1.mono but_upd ts nbr).put, _, upd_same, ?_⟩, h2, h3, h4, h5, h6.mono (x := r) but_upd ts fun q hq => ⟨?_, (h5 q hq).2⟩⟩, rfl⟩
  · rw [Fr.put_rows]
    exact hR.mono ts
  · obtain ⟨⟨C, dx, fs, hq1⟩, _⟩ := h6.there q hq
    exact ne_of hq1 hx (by intro z; cases z)
theorem s_end : ∀ x ∈ [("end" : Str)], PyData.strOk x = true := by decide +kernel
theorem ne_end {ws : List Str} : ¬ (("tell" : Str) :: ws) = [("end" : Str)] := by
  intro z
  injection z with z _
  revert z
  decide +kernel
theorem headOf_nil {lns : List (List Str)} {i : Nat} (h : lns.drop i = []) : headOf lns i = "" := by
  unfold headOf
  rw [List.getElem?_eq_none (List.drop_eq_nil_iff.mp h)]
theorem lnW_pos (ln : Ln) : ∃ x r, lnW ln = x :: r ∧ x ≠ "" := by
  cases ln <;> exact ⟨_, _, rfl, by decide +kernel⟩
theorem headOf_cons {lns l : List (List Str)} {i : Nat} {ln : Ln} (h : lns.drop i = lnW ln :: l) : headOf lns i ≠ "" := by
  unfold headOf
  rw [(drop_atG h).1]
  obtain ⟨x, r, e, n⟩ := lnW_pos ln
  rw [e]
  exact n
theorem opens_stp {ln : Ln} {f : Fr} {S : List Fr} (h : opens ln = some f) : stp ln S = .ok (f :: S) := by
  cases ln <;> cases h <;> rfl
theorem go_cons {ln : Ln} {l : List Ln} {S S2 : List Fr} (h : stp ln S = .ok S2) : go (ln :: l) S = go l S2 := by
  rw [go, h]
theorem go_bad {ln : Ln} {l : List Ln} {S : List Fr} (h : stp ln S = .bad) : go (ln :: l) S = .bad := by
  rw [go, h]
theorem go_off {ln : Ln} {l : List Ln} {S : List Fr} (h : stp ln S = .off) : go (ln :: l) S = .off := by
  rw [go, h]
def rrDone (p : Addr) (H : Hp) (Q : VK) (E : XK) (CT : Addr) : Res → Prop
  | .off => False
  | .bad => ∀ H', E (.ref CT) none H'
  | .ok r => ∀ H' t xs, But p H H' → H' t = some (.tup xs) → RsI H' r xs → Q (.ref t) H'
def spRr (K : PySem.W.Frag) : Sp := fun vs H Q E => ∃ (p dx L : Addr) (i : Nat) (lns : List (List Str)) (as : List V) (rest : List Ln), vs = [.ref p, .bl false] ∧ H p = some (li K dx L i) ∧ H L = some (.lst as) ∧ LnsP H L lns as ∧
  (∀ ws ∈ lns, ws ≠ [] ∧ ws.length ≤ 90000 ∧ ∀ x ∈ ws, PyData.strOk x = true) ∧ lns.length ≤ 90000 ∧ i ≤ lns.length ∧ lns.drop i = rest.map lnW ∧ rrDone p H Q E (C_NoText K) (go rest [.base .none])
/-- between two turns -/
def RrI (K : PySem.W.Frag) (p dx L S0 : Addr) (lns : List (List Str)) (H : Hp) (res : Res) (m : Nat) (σ : L2.St) (H' : Hp) : Prop :=
  ∃ (rest : List Ln) (i : Nat) (S : List Fr) (bs : List (Addr × Addr)) (s3 s4 s5 : Option V), σ = [some (.ref p), some (.bl false), some (.ref S0), s3, s4, s5] ∧ m = rest.length ∧ i ≤ lns.length ∧ lns.drop i = rest.map lnW ∧ H' p = some (li K dx L i) ∧
    But p H H' ∧ H S0 = none ∧ H' S0 = some (.lst (refsOf bs)) ∧ FsP K H H' S0 S bs ∧ Bot S ∧ go rest S = res ∧ S.length + rest.length ≤ 90001
theorem ok_rr (T : Txt K mg) : FnOk P w K mg base (CXN P w) 9 (A_read_rows K) (fdOf K (A_read_rows K)) ["lines", "closed"] (spRr K) := by
  have G_Block_init : FnOk P w K mg base CX0 1 (A_Block_init K) (fdOf K (A_Block_init K)) ["self", "words"] (spBkI K) := ok_bki T
  have G_Lines_next_head : FnOk P w K mg base CX0 1 (A_Lines_next_head K) (fdOf K (A_Lines_next_head K)) ["self"] (spNh K) := ok_nh T
  have G_Lines_next_line : FnOk P w K mg base (CXN P w) 2 (A_Lines_next_line K) (fdOf K (A_Lines_next_line K)) ["self"] (spNl K) := ok_nl T
  have G_begun_block : FnOk P w K mg base CX0 8 (A_begun_block K) (fdOf K (A_begun_block K)) ["words"] (spBb K) := ok_bb T
  have G_plain_row : FnOk P w K mg base (CXN P w) 5 (A_plain_row K) (fdOf K (A_plain_row K)) ["words"] (spPr K) := ok_pr T
  refine okX T.d_read_rows sc_rr (fun vs H Q E h => ?_) (fun cdv A outer s H vs Q E hr h => ?_)
  · obtain ⟨p, dx, L, i, lns, as, rest, rfl, _⟩ := h
    rfl
  · obtain ⟨p, dx, L, i, lns, as, rest, rfl, hp, hL, hA, hn, hl, hi, hd, fin⟩ := h
    refine ⟨_, (pss_cons (ps_set (i := 2) sc_rr.nd rfl (.inl rfl) (pe_lst (pa_cons (by exact (pe_make T.mk_Block G_Block_init (hr.mono (by decide)) (by rfl) T.g_Block (b_Block_init T) .nil pass0 (pa_cons (pe_lst pa_nil) pa_nil))) pa_nil)))
      (pss_cons (ps_while PassesOwn.leaving (PW.pt (pw_or (pt_val (pv 1)) (pw_or (pt_cmpR op_ne (pe_meth0 (pv 0) T.c_Lines T.m_Lines_next_head G_Lines_next_head (hr.mono (by decide)) (b_Lines_next_head T) .nil pass0) pe_str (nomark _)) (pw_or1 (pt_cmpR op_gt (pe_callB call_len_seq (by rfl) T.f_len PySem.boot_len (pa_cons (pv 2) pa_nil)) pe_int (nomark _))))))
        (pss_cons (ps_set (i := 3) sc_rr.nd rfl (.inl rfl) (pe_meth0 (pv 0) T.c_Lines T.m_Lines_next_line G_Lines_next_line (hr.mono (by decide)) (b_Lines_next_line T) .nil passE))
        (pss_cons (ps_set (i := 4) sc_rr.nd rfl (.inl rfl) (pe_call G_begun_block (hr.mono (by decide)) rfl T.g_begun_block T.d_begun_block.kp (b_begun_block T) .nil pass0 (pa_cons (pv 3) pa_nil)))
        (pss_one (ps_if (pt_cmpR op_notN (pv 4) pe_non (nomark _)) (pss_one (ps_expr (pe_bm PySem.F.plainAttrs_list PySem.F.slot_list_append PySem.F.type_list_append mt_append (pv 2) (pa_cons (pv 4) pa_nil))))
          (pss_one (ps_if (pt_cmpR op_in_seq (pe_ix ix_list (pv 3) pe_int (fun _ _ => rfl)) (pe_tup (pa_cons pe_str (pa_cons pe_str pa_nil))) (by rfl)) (pss_one (ps_expr (pe_methV (E := E) (pe_ix ix_list (pv 2) (pe_un un_neg pe_int) (fun _ _ => rfl)) (pa_cons (pv 3) pa_nil))))
            (pss_one (ps_if (PW.pt (pw_and (pt_cmpR (op_eqD hr.units) (pv 3) (pe_lst (pa_cons pe_str pa_nil)) (nomark _)) (pw_and (pt_val (pv 1)) (pw_and1 pt_never)))) pss_never
              (pss_one (ps_if (pt_cmpR (op_eqD hr.units) (pv 3) (pe_lst (pa_cons pe_str pa_nil)) (nomark _)) (pss_cons (ps_set (i := 5) sc_rr.nd rfl (.inl rfl) (pe_methV0 (E := E) (pe_bm0 PySem.F.plainAttrs_list PySem.F.slot_list_pop PySem.F.type_list_pop mt_pop (pv 2))))
                (pss_one (ps_expr (pe_bm PySem.F.plainAttrs_list PySem.F.slot_list_append PySem.F.type_list_append mt_append (pe_fld (pe_ix ix_list (pv 2) (pe_un un_neg pe_int) (fun _ _ => rfl)) rfl) (pa_cons (pv 5) pa_nil)))))
                (pss_one (ps_expr (pe_bm PySem.F.plainAttrs_list PySem.F.slot_list_append PySem.F.type_list_append mt_append (pe_fld (pe_ix ix_list (pv 2) (pe_un un_neg pe_int) (fun _ _ => rfl)) rfl) (pa_cons (by exact (pe_call G_plain_row (hr.mono (by decide)) rfl T.g_plain_row T.d_plain_row.kp (b_plain_row T) .nil passE (pa_cons (pv 3) pa_nil))) pa_nil)))))))))))))))
      (pss_one (ps_ret (pe_callTy call_tuple_of (by rfl) T.f_tuple (by decide +kernel) (pa_cons (pe_fld (pe_ix ix_list (pv 2) pe_int (fun _ _ => rfl)) rfl) pa_nil)))))), ?_⟩
    have lr : rest.length ≤ 90000 := by
      have z := congrArg List.length hd
      rw [List.length_map, List.length_drop] at z
      omega
    refine ⟨(by show 0 ≤ sizeLine; decide), fun w0 hw0 => fun b bdx nx ndx nex => ⟨b, w0, C_Block K, bdx, rfl, blkB T, upd_same, fun r hr0 => ⟨rfl, ?_⟩⟩⟩
    have nb : H b = none := (same_new hw0).free nx
    have S3 : Same H (upd (upd (upd H w0 (.lst [])) bdx (.own b)) b (.ins (C_Block K) bdx [])) := sover (same_trans_new (same_new hw0) ndx) nb
    have nr : H r = none := S3.free hr0
    have nbr : b ≠ r := ne_of_none upd_same hr0
    have S5 : Same H (upd (upd (upd (upd (upd H w0 (.lst [])) bdx (.own b)) b (.ins (C_Block K) bdx [])) r (.lst [])) b (.ins (C_Block K) bdx (fsB w0 r))) := sover (same_trans_new S3 hr0) nb
    have hb5 : (upd (upd (upd (upd (upd H w0 (.lst [])) bdx (.own b)) b (.ins (C_Block K) bdx [])) r (.lst [])) b (.ins (C_Block K) bdx (fsB w0 r))) b = some (.ins (C_Block K) bdx (fsB w0 r)) := upd_same
    have hr5 : (upd (upd (upd (upd (upd H w0 (.lst [])) bdx (.own b)) b (.ins (C_Block K) bdx [])) r (.lst [])) b (.ins (C_Block K) bdx (fsB w0 r))) r = some (.lst []) := upn upd_same nbr.symm
    generalize (upd (upd (upd (upd (upd H w0 (.lst [])) bdx (.own b)) b (.ins (C_Block K) bdx [])) r (.lst [])) b (.ins (C_Block K) bdx (fsB w0 r))) = H5 at *
    refine ⟨(by show 1 ≤ sizeLine; decide), fun S0 hS0 => ?_⟩
    have S6 := same_trans_new (o := .lst [.ref b]) S5 hS0
    refine ⟨RrI K p dx L S0 lns H (go rest [.base .none]), ⟨rest.length, rest, i, [.base .none], [(b, r)], none, none, none, rfl, rfl, hi, hd, S6 _ _ hp, but_same S6, S5.free hS0, upd_same,
      ⟨b, r, [], rfl, ⟨⟨bdx, w0, upk hb5 hS0⟩, [], upk hr5 hS0, rfl⟩, nb, nr, ne_of_none hr5 hS0, (fun q h => nomatch h), rfl⟩, ⟨_, rfl⟩, rfl, by show 1 + _ ≤ _; omega⟩, ?_⟩
    generalize go rest [.base .none] = res at *
    clear hb5 hr5 S6 S5 S3 hd hi hS0 lr
    rintro m σ H1 ⟨rest, i, S, bs, s3, s4, s5, rfl, rfl, hi, hd, hp1, B1, nS0, hS1, hF, hBot, rfl, hlen⟩
    have hL1 : H1 L = some (.lst as) := B1 _ _ (ne_of hL hp (by intro z; cases z)) hL
    have hA1 : LnsP H1 L lns as := hA.mono fun a xs _ e => B1 _ _ (ne_of e hp (by intro z; cases z)) e
    refine ⟨_, rfl, false, rfl, itF rfl ?_⟩
    refine ⟨_, rfl, p, dx, _, rfl, hp1, liF_no (by decide +kernel) (by decide +kernel), p, dx, L, i, lns, as, rfl, hp1, hL1, hA1, fun ws h => (hn ws h).1, ?_⟩
    have bl := hF.len
    -- the turn, of any rest
    cases rest with
    | nil =>
      rw [headOf_nil hd]
      refine ⟨rfl, _, rfl, itF (by decide) ?_⟩
      refine ⟨_, rfl, S0, _, rfl, .inl (SqL.of hS1), _, _, rfl, rfl, _, rfl, ?_⟩
      have hi2 : lns.length = i := Nat.le_antisymm (List.drop_eq_nil_iff.mp hd) hi
      rw [refsOf_len, bl]
      cases S with
      | nil => exact hBot.elim
      | cons f S =>
        cases S with
        | nil =>
          obtain ⟨R, rfl⟩ := hBot
          refine itF (decide_eq_false (by show ¬ (1 : Int) < 1; decide)) ?_
          obtain ⟨b, r, bs', rfl, ⟨⟨bdx, w0, hb⟩, xs, hx, hR⟩, _, _, _, _, e⟩ := hF
          have e' : bs' = [] := e
          subst e'
          refine ⟨_, rfl, S0, _, 0, .ref b, rfl, rfl, SqL.of hS1, atI_nat (j := 0) rfl, b, _, bdx, _, _, rfl, hb, T.c_Block, T.n_Block_rows, fsB_rows, r, xs, rfl, .inl ⟨SqL.of hx, fun t ht => ?_⟩⟩
          exact fin _ t xs (B1.new ht) upd_same (hR.mono (ts_same (same_new ht)))
        | cons g S =>
          refine itT (decide_eq_true (by rw [List.length_cons, List.length_cons]; omega)) ?_
          have eb : go [] (f :: g :: S) = .bad := by cases f <;> rfl
          rw [eb] at fin
          refine ⟨fun _ _ => False, fun _ _ h => h.elim, ?_⟩
          exact ⟨_, rfl, p, dx, _, rfl, hp1, liF_no (by decide +kernel) (by decide +kernel), p, dx, L, i, lns, as, rfl, hp1, hL1, hA1, hi, .inr ⟨hi2, fin _⟩⟩
    | cons ln rest =>
      have hd' : lns.drop i = lnW ln :: rest.map lnW := hd
      have hat : lns[i]? = some (lnW ln) := (drop_atG hd').1
      have hd2 : lns.drop (i + 1) = rest.map lnW := (drop_atG hd').2
      have hi2 : i + 1 ≤ lns.length := (List.getElem?_eq_some_iff.mp hat).1
      have hln := hn _ (List.mem_of_getElem? hat)
      have hlen2 : S.length + 1 + rest.length ≤ 90001 := by rw [List.length_cons] at hlen; omega
      refine ⟨rfl, _, rfl, itT ?_ (iteT ?_)⟩
      · have z := headOf_cons hd'
        have z2 : decide (V.str (headOf lns i) = V.str "") = false := decide_eq_false fun e => z (V.str.inj e)
        rw [z2]
        rfl
      refine ⟨fun σ' H' => ∃ m', m' < rest.length + 1 ∧ RrI K p dx L S0 lns H (go (ln :: rest) S) m' σ' H', fun _ _ h => h, ?_⟩
      refine ⟨_, rfl, p, dx, _, rfl, hp1, liF_no (by decide +kernel) (by decide +kernel), p, dx, L, i, lns, as, rfl, hp1, hL1, hA1, hi, .inl ⟨lnW ln, hat, fun a ha na => ?_⟩⟩
      have TS2 : TupS H1 (upd H1 p (li K dx L (i + 1))) := (but_upd (a := p) (H := H1) (o := li K dx L (i + 1))).ts (fun ys z => by rw [hp1] at z; cases z)
      have F2 : FsP K H (upd H1 p (li K dx L (i + 1))) S0 S bs := hF.mono (x := p) but_upd TS2 fun q hq => by
        obtain ⟨_, ⟨xs, e⟩, _, n⟩ := hF.there q hq
        exact ⟨(ne_of_none hp n).symm, ne_of e hp1 (by intro z; cases z)⟩
      have hS2 : upd H1 p (li K dx L (i + 1)) S0 = some (.lst (refsOf bs)) := upx hS1 hp1 (by intro z; cases z)
      have ha2 : upd H1 p (li K dx L (i + 1)) a = some (.lst (strV (lnW ln))) := upx ha hp1 (by intro z; cases z)
      have hp2 : upd H1 p (li K dx L (i + 1)) p = some (li K dx L (i + 1)) := upd_same
      have B2 : But p H (upd H1 p (li K dx L (i + 1))) := B1.at_
      generalize upd H1 p (li K dx L (i + 1)) = H2 at *
      clear hS1 hF hL1 hA1 B1 ha TS2 hp1
      refine ⟨_, rfl, a, ln, rfl, ha2, ?_⟩
      cases ho : opens ln with
      | some f =>
        have hs := opens_stp (S := S) ho
        refine .inr ⟨f, rfl, fun H3 b r Sm hfr nb nr nbr => ?_⟩
        refine ⟨_, rfl, rfl, _, rfl, itT rfl ?_⟩
        have hS3 := Sm _ _ hS2
        have F3 := F2.same Sm
        have nrS : r ≠ S0 := (ne_of_none hS2 nr).symm
        obtain ⟨C, fdx, fs, hb⟩ := hfr.1.some
        have nbS : b ≠ S0 := ne_of hb hS3 (by intro z; cases z)
        have TS3 : TupS H3 (upd H3 S0 (.lst (refsOf bs ++ [.ref b]))) := (but_upd (a := S0) (H := H3) (o := .lst (refsOf bs ++ [.ref b]))).ts (fun ys z => by rw [hS3] at z; cases z)
        have BS : But S0 H3 (upd H3 S0 (.lst (refsOf bs ++ [.ref b]))) := but_upd
        have lb : (refsOf bs).length < sizeLine := by
          rw [refsOf_len, bl]
          exact Nat.lt_of_lt_of_le (by omega) (show 100000 ≤ sizeLine by decide)
        have pn : p ≠ S0 := ne_of_none hp nS0
        refine ⟨_, rfl, .inl ⟨rfl, _, SqL.of hS3⟩, _, rfl, S0, refsOf bs, _, rfl, rfl, hS3, lb, ?_⟩
        refine ⟨rest.length, Nat.lt_succ_self _, rest, i + 1, f :: S, (b, r) :: bs, _, _, _, rfl, rfl, hi2, hd2, upn (Sm _ _ hp2) pn, (B2.trans (but_same Sm)).over nS0, nS0, ?_, ?_, hBot.cons, (go_cons hs).symm, ?_⟩
        · rw [refsOf_cons]
          exact upd_same
        · refine ⟨b, r, bs, rfl, hfr.mono BS TS3 nbS nrS, B2.free hp2 nb, B2.free hp2 nr, nrS, fun q hq => ?_, F3.mono BS TS3 fun q hq => ?_⟩
          · obtain ⟨⟨_, _, _, e1⟩, ⟨_, e2⟩, _⟩ := F2.there q hq
            exact ⟨ne_of_none e1 nb, ne_of_none e2 nr⟩
          · obtain ⟨⟨_, _, _, e1⟩, _, e3, _⟩ := F3.there q hq
            exact ⟨ne_of e1 hS3 (by intro z; cases z), e3⟩
        · rw [List.length_cons]
          exact hlen2
      | none =>
        refine .inl ⟨rfl, ?_⟩
        refine ⟨_, rfl, rfl, _, rfl, itF rfl ?_⟩
        obtain ⟨f, S, rfl⟩ : ∃ f T, S = f :: T := by
          cases S with
          | nil => exact hBot.elim
          | cons f S => exact ⟨f, S, rfl⟩
        obtain ⟨b, r, bs, rfl, hfr, nb, nr, nrS, nq, F2'⟩ := id F2
        have pn : p ≠ S0 := ne_of_none hp nS0
        cases ln with
        | ifL => cases ho
        | whL => cases ho
        | tryL => cases ho
        | caL =>
          refine ⟨_, rfl, a, _, 0, .str "catch", rfl, rfl, SqL.of ha2, atI_nat (j := 0) rfl, (by show 2 ≤ sizeLine; decide), fun t ht => ⟨t, _, rfl, .inr (SqT.of upd_same), rfl, rfl, _, rfl, itT (by decide +kernel) ?_⟩⟩
          have Sm := same_new (o := .tup [.str "else", .str "catch"]) ht
          have hS3 := Sm _ _ hS2
          have ha3 := Sm _ _ ha2
          have hp3 := Sm _ _ hp2
          have F3 := F2'.same Sm
          have hf3 := hfr.same Sm
          have B3 : But p H (upd H2 t (.tup [.str "else", .str "catch"])) := B2.trans (but_same Sm)
          generalize upd H2 t (.tup [.str "else", .str "catch"]) = H3 at *
          cases f with
          | base R =>
            rw [go_bad rfl] at fin
            obtain ⟨fdx, w0, hb⟩ := hf3.1
            exact ⟨_, rfl, _, rfl, S0, _, -1, .ref b, rfl, rfl, SqL.of hS3, refsOf_top, b, _, fdx, _, spTb K, rfl, hb, (lk1 s_t0).trans ((lk1 s_t1).trans lkn), ⟨_, _, _, _, _, T.c_Block, T.m_Block_turned, ok_tb T, hr.mono (by decide), b_Block_turned T, passE⟩,
              _, rfl, _, _, rfl, fin⟩
          | ifF R => rw [go_off rfl] at fin; exact fin.elim
          | whF R => rw [go_off rfl] at fin; exact fin.elim
          | tr2 O R => rw [go_off rfl] at fin; exact fin.elim
          | tr1 R =>
            obtain ⟨fdx, w0, hb⟩ := hf3.1
            refine ⟨_, rfl, _, rfl, S0, _, -1, .ref b, rfl, rfl, SqL.of hS3, refsOf_top, b, _, fdx, _, spTt K, rfl, hb, (lk1 s_t0).trans ((lk1 s_t1).trans ((lk1 s_t3).trans ((lk1 s_t4).trans lkn))), ⟨_, _, _, _, _, T.c_TryBlock, T.m_TryBlock_turned, ok_tt T, hr.mono (by decide), b_TryBlock_turned T, passE⟩,
              _, rfl, b, r, a, R, rfl, hf3, ha3, fun H4 r' Bb hf4 nr' => ?_⟩
            have TSb : TupS H3 H4 := Bb.ts fun ys z => by rw [hb] at z; cases z
            have nbS : b ≠ S0 := ne_of hb hS3 (by intro z; cases z)
            have nbp : b ≠ p := (ne_of_none hp nb).symm
            have nrS' : r' ≠ S0 := (ne_of_none hS3 nr').symm
            have nr0 : H r' = none := B3.free hp3 nr'
            refine ⟨rest.length, Nat.lt_succ_self _, rest, i + 1, _, (b, r') :: bs, _, _, _, rfl, rfl, hi2, hd2, Bb _ _ nbp.symm hp3, (fun c o n e => Bb _ _ (ne_of_none e nb) (B3 _ _ n e)), nS0, Bb _ _ nbS.symm hS3, ?_, ?_, (go_cons rfl).symm, ?_⟩
            · refine ⟨b, r', bs, rfl, hf4, nb, nr0, nrS', fun q hq => ⟨(nq q hq).1, ?_⟩, F3.mono Bb TSb fun q hq => ⟨(nq q hq).1, ?_⟩⟩
              · obtain ⟨_, ⟨_, e2⟩, _⟩ := F3.there q hq
                exact ne_of_none e2 nr'
              · obtain ⟨_, ⟨_, e2⟩, _⟩ := F3.there q hq
                exact ne_of e2 hb (by intro z; cases z)
            · cases S with
              | nil => obtain ⟨_, z⟩ := hBot; cases z
              | cons g S => exact hBot
            · rw [List.length_cons] at hlen2 ⊢
              omega
        | endL =>
          refine ⟨_, rfl, a, _, 0, .str "end", rfl, rfl, SqL.of ha2, atI_nat (j := 0) rfl, (by show 2 ≤ sizeLine; decide), fun t ht => ⟨t, _, rfl, .inr (SqT.of upd_same), rfl, rfl, _, rfl, itF (by decide +kernel) ?_⟩⟩
          have Sm := same_new (o := .tup [.str "else", .str "catch"]) ht
          have hS3 := Sm _ _ hS2
          have ha3 := Sm _ _ ha2
          have hp3 := Sm _ _ hp2
          have F3 := F2'.same Sm
          have hf3 := hfr.same Sm
          have B3 : But p H (upd H2 t (.tup [.str "else", .str "catch"])) := B2.trans (but_same Sm)
          generalize upd H2 t (.tup [.str "else", .str "catch"]) = H3 at *
          refine ⟨_, rfl, (by show 1 ≤ sizeLine; decide), fun e0 he0 => ⟨strD ["end"], strD ["end"], dp_list (ws := ["end"]) (upk ha3 he0), dp_list (ws := ["end"]) upd_same, shaped_str hln.2.2, shaped_str hln.2.2, _, rfl, ?_⟩⟩
          rw [eqv_str]
          refine itT (by decide +kernel) ⟨_, rfl, false, rfl, itF rfl (iteF ?_)⟩
          have Se := same_new (o := .lst [.str "end"]) he0
          refine ⟨_, rfl, (by show 1 ≤ sizeLine; decide), fun e1 he1 => ⟨strD ["end"], strD ["end"], dp_list (ws := ["end"]) (upk (upk ha3 he0) he1), dp_list (ws := ["end"]) upd_same, shaped_str hln.2.2, shaped_str hln.2.2, _, rfl, ?_⟩⟩
          rw [eqv_str]
          refine itT (by decide +kernel) ?_
          have Sn := same_trans_new (o := .lst [.str "end"]) Se he1
          have hS4 := Sn _ _ hS3
          have hp4 := Sn _ _ hp3
          have F4 := F3.same Sn
          have hf4 := hf3.same Sn
          have B4 := B3.trans (but_same Sn)
          generalize upd (upd H3 e0 (.lst [.str "end"])) e1 (.lst [.str "end"]) = H4 at *
          clear hS3 ha3 hp3 F3 hf3 B3 Sm
          -- pop
          have TSp : TupS H4 (upd H4 S0 (.lst (refsOf bs))) := (but_upd (a := S0) (H := H4) (o := .lst (refsOf bs))).ts (fun ys z => by rw [hS4] at z; cases z)
          obtain ⟨C0, dx0, fs0, hb0⟩ := hf4.1.some
          have nbS : b ≠ S0 := ne_of hb0 hS4 (by intro z; cases z)
          have hf5 : FrP K (upd H4 S0 (.lst (refsOf bs))) b r f := hf4.mono but_upd TSp nbS nrS
          have F5 : FsP K H (upd H4 S0 (.lst (refsOf bs))) S0 S bs := F4.mono but_upd TSp fun q hq => by
            obtain ⟨⟨_, _, _, e1⟩, _, e3, _⟩ := F4.there q hq
            exact ⟨ne_of e1 hS4 (by intro z; cases z), e3⟩
          have hp5 : upd H4 S0 (.lst (refsOf bs)) p = some (li K dx L (i + 1)) := upn hp4 pn
          have B5 : But p H (upd H4 S0 (.lst (refsOf bs))) := B4.over nS0
          have hS5 : upd H4 S0 (.lst (refsOf bs)) S0 = some (.lst (refsOf bs)) := upd_same
          obtain ⟨C, fdx, fs, hb5, hno, hM⟩ := fr_close (X := cxOf (CXN P w) P w K mg base ["lines", "closed", "open_blocks", "words", "block", "row"] "read_rows" (defScope S_read_rows) (A_read_rows K) cdv A outer s H E) T (hr.mono (by decide)) passE hf5
          refine ⟨_, rfl, .inl ⟨rfl, _, SqL.of hS4⟩, S0, _, .ref b, rfl, rfl, hS4, by rw [refsOf_cons, List.length_append, List.length_singleton, Nat.add_sub_cancel, List.getElem?_append_right (Nat.le_refl _), Nat.sub_self]; rfl, ?_⟩
          rw [refsOf_cons, List.dropLast_concat]
          refine ⟨b, C, fdx, fs, _, rfl, hb5, hno, hM, b, r, rfl, hf5, ?_⟩
          cases hc : closes f with
          | none =>
            have hs : stp .endL (f :: S) = .bad := by
              show (match closes f with | none => Stp.bad | some R => push R S) = .bad
              rw [hc]
            rw [go_bad hs] at fin
            exact .inl ⟨rfl, fin⟩
          | some R =>
            have hs : stp .endL (f :: S) = push R S := by
              show (match closes f with | none => Stp.bad | some R => push R S) = push R S
              rw [hc]
            refine .inr ⟨R, rfl, fun H6 q0 S6 hR6 => ?_⟩
            cases hps : push R S with
            | off => rw [go_off (hs.trans hps)] at fin; exact fin.elim
            | bad => exact (push_noBad hps).elim
            | ok S2 =>
              obtain ⟨g, T0, rfl, eg, _⟩ := push_ok hps
              have F6 := F5.same S6
              obtain ⟨b2, r2, bs2, rfl, hg6, nb2, nr2, nrS2, nq2, F6'⟩ := id F6
              obtain ⟨hr6, _, _, F7, el⟩ := push_at hps F6 hR6
              obtain ⟨C2, dx2, fs2, hb6, hC2, lk2⟩ := fr_rows T hg6.1
              have hS6 := S6 _ _ hS5
              have hp6 := S6 _ _ hp5
              have pr : p ≠ r2 := ne_of hp6 hr6 (by intro z; cases z)
              refine ⟨_, rfl, _, rfl, S0, _, -1, .ref b2, rfl, rfl, SqL.of hS6, refsOf_top, b2, _, dx2, _, _, rfl, hb6, hC2.1, hC2.2.2, lk2, .inl ⟨rfl, _, SqL.of hr6⟩, _, rfl, r2, [], _, rfl, rfl, hr6, (by decide), ?_⟩
              refine ⟨rest.length, Nat.lt_succ_self _, rest, i + 1, S2, _, _, _, _, rfl, rfl, hi2, hd2, upn hp6 pr, (B5.trans (but_same S6)).over nr2, nS0, upn hS6 nrS2.symm, F7, ?_, (go_cons (hs.trans hps)).symm, ?_⟩
              · obtain ⟨g', T', e1, _, e2⟩ := push_ok hps
                cases e1
                rw [e2]
                exact Bot.put hBot.tail
              · rw [List.length_cons] at hlen2
                omega
        | tell v =>
          refine ⟨_, rfl, a, _, 0, .str "tell", rfl, rfl, SqL.of ha2, atI_nat (j := 0) rfl, (by show 2 ≤ sizeLine; decide), fun t ht => ⟨t, _, rfl, .inr (SqT.of upd_same), rfl, rfl, _, rfl, itF (by decide +kernel) ?_⟩⟩
          have Sm := same_new (o := .tup [.str "else", .str "catch"]) ht
          have hS3 := Sm _ _ hS2
          have ha3 := Sm _ _ ha2
          have hp3 := Sm _ _ hp2
          have F3 := F2.same Sm
          have hf3 := hfr.same Sm
          have B3 : But p H (upd H2 t (.tup [.str "else", .str "catch"])) := B2.trans (but_same Sm)
          generalize upd H2 t (.tup [.str "else", .str "catch"]) = H3 at *
          refine ⟨_, rfl, (by show 1 ≤ sizeLine; decide), fun e0 he0 => ⟨strD ("tell" :: vW v), strD ["end"], dp_list (ws := ("tell" :: vW v)) (upk ha3 he0), dp_list (ws := ["end"]) upd_same, shaped_str hln.2.2, shaped_str s_end, _, rfl, ?_⟩⟩
          rw [eqv_str]
          refine itF (decide_eq_false ne_end) (iteF ?_)
          have Se := same_new (o := .lst [.str "end"]) he0
          refine ⟨_, rfl, (by show 1 ≤ sizeLine; decide), fun e1 he1 => ⟨strD ("tell" :: vW v), strD ["end"], dp_list (ws := ("tell" :: vW v)) (upk (upk ha3 he0) he1), dp_list (ws := ["end"]) upd_same, shaped_str hln.2.2, shaped_str s_end, _, rfl, ?_⟩⟩
          rw [eqv_str]
          refine itF (decide_eq_false ne_end) ?_
          have Sn := same_trans_new (o := .lst [.str "end"]) Se he1
          have hS4 := Sn _ _ hS3
          have hp4 := Sn _ _ hp3
          have ha4 := Sn _ _ ha3
          have F4 := F3.same Sn
          have hf4 := hf3.same Sn
          have B4 := B3.trans (but_same Sn)
          generalize upd (upd H3 e0 (.lst [.str "end"])) e1 (.lst [.str "end"]) = H4 at *
          clear hS3 ha3 hp3 F3 hf3 B3 Sm
          obtain ⟨C2, dx2, fs2, hb4, hC2, lk2⟩ := fr_rows T hf4.1
          obtain ⟨xs4, hr4, _⟩ := id hf4.2
          refine ⟨_, rfl, _, rfl, S0, _, -1, .ref b, rfl, rfl, SqL.of hS4, refsOf_top, b, _, dx2, _, _, rfl, hb4, hC2.1, hC2.2.2, lk2, .inl ⟨rfl, _, SqL.of hr4⟩, _, rfl, a, (vW v), rfl, ha4, ?_, ?_⟩
          · have z := hln.2.1
            have z2 : (vW v).length + 1 ≤ 90000 := z
            omega
          · refine .inl ⟨v, rfl, fun H6 q0 S6 hR6 => ?_⟩
            have hs : stp (.tell v) (f :: S) = push (.tell v) (f :: S) := rfl
            cases hps : push (.tell v) (f :: S) with
            | off => rw [go_off (hs.trans hps)] at fin; exact fin.elim
            | bad => exact (push_noBad hps).elim
            | ok S2 =>
              have F6 := F4.same S6
              obtain ⟨hr6, _, _, F7, el⟩ := push_at hps F6 hR6
              have hS6 := S6 _ _ hS4
              have hp6 := S6 _ _ hp4
              have pr : p ≠ r := ne_of hp6 hr6 (by intro z; cases z)
              refine ⟨r, [], _, rfl, rfl, hr6, (by decide), ?_⟩
              refine ⟨rest.length, Nat.lt_succ_self _, rest, i + 1, S2, _, _, _, _, rfl, rfl, hi2, hd2, upn hp6 pr, (B4.trans (but_same S6)).over nr, nS0, upn hS6 nrS.symm, F7, ?_, (go_cons (hs.trans hps)).symm, ?_⟩
              · obtain ⟨g', T', e1, _, e2⟩ := push_ok hps
                cases e1
                rw [e2]
                exact Bot.put hBot
              · rw [el]
                omega
        | bad ws hb =>
          refine ⟨_, rfl, a, _, 0, .str "tell", rfl, rfl, SqL.of ha2, atI_nat (j := 0) rfl, (by show 2 ≤ sizeLine; decide), fun t ht => ⟨t, _, rfl, .inr (SqT.of upd_same), rfl, rfl, _, rfl, itF (by decide +kernel) ?_⟩⟩
          have Sm := same_new (o := .tup [.str "else", .str "catch"]) ht
          have hS3 := Sm _ _ hS2
          have ha3 := Sm _ _ ha2
          have hp3 := Sm _ _ hp2
          have F3 := F2.same Sm
          have hf3 := hfr.same Sm
          have B3 : But p H (upd H2 t (.tup [.str "else", .str "catch"])) := B2.trans (but_same Sm)
          generalize upd H2 t (.tup [.str "else", .str "catch"]) = H3 at *
          refine ⟨_, rfl, (by show 1 ≤ sizeLine; decide), fun e0 he0 => ⟨strD ("tell" :: ws), strD ["end"], dp_list (ws := ("tell" :: ws)) (upk ha3 he0), dp_list (ws := ["end"]) upd_same, shaped_str hln.2.2, shaped_str s_end, _, rfl, ?_⟩⟩
          rw [eqv_str]
          refine itF (decide_eq_false ne_end) (iteF ?_)
          have Se := same_new (o := .lst [.str "end"]) he0
          refine ⟨_, rfl, (by show 1 ≤ sizeLine; decide), fun e1 he1 => ⟨strD ("tell" :: ws), strD ["end"], dp_list (ws := ("tell" :: ws)) (upk (upk ha3 he0) he1), dp_list (ws := ["end"]) upd_same, shaped_str hln.2.2, shaped_str s_end, _, rfl, ?_⟩⟩
          rw [eqv_str]
          refine itF (decide_eq_false ne_end) ?_
          have Sn := same_trans_new (o := .lst [.str "end"]) Se he1
          have hS4 := Sn _ _ hS3
          have hp4 := Sn _ _ hp3
          have ha4 := Sn _ _ ha3
          have F4 := F3.same Sn
          have hf4 := hf3.same Sn
          have B4 := B3.trans (but_same Sn)
          generalize upd (upd H3 e0 (.lst [.str "end"])) e1 (.lst [.str "end"]) = H4 at *
          clear hS3 ha3 hp3 F3 hf3 B3 Sm
          obtain ⟨C2, dx2, fs2, hb4, hC2, lk2⟩ := fr_rows T hf4.1
          obtain ⟨xs4, hr4, _⟩ := id hf4.2
          refine ⟨_, rfl, _, rfl, S0, _, -1, .ref b, rfl, rfl, SqL.of hS4, refsOf_top, b, _, dx2, _, _, rfl, hb4, hC2.1, hC2.2.2, lk2, .inl ⟨rfl, _, SqL.of hr4⟩, _, rfl, a, ws, rfl, ha4, ?_, ?_⟩
          · have z := hln.2.1
            have z2 : ws.length + 1 ≤ 90000 := z
            omega
          · rw [go_bad rfl] at fin
            exact .inr ⟨hb, fin⟩
end
end Rt
end S_RtRr

section S_RtSt
set_option Elab.async false
set_option linter.all false
set_option maxRecDepth 100000
set_option maxHeartbeats 4000000
/-! read_stores -/
namespace Rt
open PySem PySem.Spec PyProof.Rows L2
/-- the boxes and lists of the law's programs -/
def StoP (H : Hp) (bt lt : Addr) : Prop := ∃ b1 l1 n1, H bt = some (.tup [.ref b1]) ∧ H b1 = some (.tup [.str "x", .int 7]) ∧ H lt = some (.tup [.ref l1]) ∧ H l1 = some (.tup [.str "l", .ref n1]) ∧ H n1 = some (.tup [.int 1, .int 2])
theorem StoP.mono {H H' : Hp} {bt lt : Addr} (t : TupS H H') (h : StoP H bt lt) : StoP H' bt lt :=
  let ⟨b1, l1, n1, h1, h2, h3, h4, h5⟩ := h
  ⟨b1, l1, n1, t _ _ h1, t _ _ h2, t _ _ h3, t _ _ h4, t _ _ h5⟩
abbrev bxW : List Str := ["box", "x", "7"]
abbrev lsW : List Str := ["list", "l", "1", "2"]
abbrev xW : List Str := ["x", "7"]
abbrev lW : List Str := ["l", "1", "2"]
abbrev nW : List Str := ["1", "2"]
def StW1 (K : PySem.W.Frag) (p dx L B0 : Addr) (H : Hp) (m : Nat) (σ : L2.St) (H' : Hp) : Prop := ∃ s2, σ = [some (.ref p), some (.ref B0), s2, none, none] ∧ But p H H' ∧
  ((m = 1 ∧ H' p = some (li K dx L 0) ∧ H' B0 = some (.lst [])) ∨ (m = 0 ∧ H' p = some (li K dx L 1) ∧ ∃ b1, H' B0 = some (.lst [.ref b1]) ∧ H' b1 = some (.tup [.str "x", .int 7])))
def StW2 (K : PySem.W.Frag) (p dx L B0 L0 b1 : Addr) (H : Hp) (m : Nat) (σ : L2.St) (H' : Hp) : Prop := ∃ s2, σ = [some (.ref p), some (.ref B0), s2, some (.ref L0), none] ∧ But p H H' ∧ H' B0 = some (.lst [.ref b1]) ∧ H' b1 = some (.tup [.str "x", .int 7]) ∧
  ((m = 1 ∧ H' p = some (li K dx L 1) ∧ H' L0 = some (.lst [])) ∨ (m = 0 ∧ H' p = some (li K dx L 2) ∧ ∃ l1 n1, H' L0 = some (.lst [.ref l1]) ∧ H' l1 = some (.tup [.str "l", .ref n1]) ∧ H' n1 = some (.tup [.int 1, .int 2])))
section
variable {P : Program} {w : World} {K : PySem.W.Frag} {mg : Str → Option Value} {base : Heap}
def spSt (K : PySem.W.Frag) : Sp := fun vs H Q E => ∃ (p dx L : Addr) (lns : List (List Str)) (as : List V) (rest : List (List Str)), vs = [.ref p] ∧ H p = some (li K dx L 0) ∧ H L = some (.lst as) ∧ LnsP H L lns as ∧ (∀ ws ∈ lns, ws ≠ []) ∧
  lns = bxW :: lsW :: rest ∧ headOf lns 2 ≠ "list" ∧
  ∀ H' t bt lt, But p H H' → H' p = some (li K dx L 2) → H' t = some (.tup [.ref bt, .ref lt]) → StoP H' bt lt → Q (.ref t) H'
theorem sc_st : FnScope ["lines", "boxes", "words", "lists", "word"] ["lines"] (defScope S_read_stores) := ⟨rfl, rfl, rfl, by decide +kernel, rfl, by decide +kernel, by decide +kernel⟩
theorem ok_st (T : Txt K mg) : FnOk P w K mg base (CXN P w) 3 (A_read_stores K) (fdOf K (A_read_stores K)) ["lines"] (spSt K) := by
  have G_Words_init : FnOk P w K mg base CX0 1 (A_Words_init K) (fdOf K (A_Words_init K)) ["self", "words"] (spWoInit K) := ok_woInit T
  have G_Words_next_word : FnOk P w K mg base (CXN P w) 2 (A_Words_next_word K) (fdOf K (A_Words_next_word K)) ["self"] (spNext K) := ok_next T
  have G_Words_need_end : FnOk P w K mg base (CXN P w) 2 (A_Words_need_end K) (fdOf K (A_Words_need_end K)) ["self"] (spNeed K) := ok_need T
  have G_number_of : FnOk P w K mg base (CXN P w) 1 (A_number_of K) (fdOf K (A_number_of K)) ["word"] (spNum (C_NoText K)) := ok_num T
  have G_Lines_next_head : FnOk P w K mg base CX0 1 (A_Lines_next_head K) (fdOf K (A_Lines_next_head K)) ["self"] (spNh K) := ok_nh T
  have G_Lines_next_line : FnOk P w K mg base (CXN P w) 2 (A_Lines_next_line K) (fdOf K (A_Lines_next_line K)) ["self"] (spNl K) := ok_nl T
  refine okX T.d_read_stores sc_st (fun vs H Q E h => ?_) (fun cdv A outer s H vs Q E hr h => ?_)
  · obtain ⟨p, dx, L, lns, as, rest, rfl, _⟩ := h
    rfl
  · obtain ⟨p, dx, L, lns, as, rest, rfl, hp, hL, hA, hn, hlns, hh, q⟩ := h
    refine ⟨_, (pss_cons (ps_set (i := 1) sc_st.nd rfl (.inl rfl) (pe_lst pa_nil))
      (pss_cons (ps_while PassesOwn.leaving (pt_cmpR op_eq (pe_meth0 (pv 0) T.c_Lines T.m_Lines_next_head G_Lines_next_head (hr.mono (by decide)) (b_Lines_next_head T) .nil pass0) pe_str (nomark _))
        (pss_cons (ps_set (i := 2) sc_st.nd rfl (.inl rfl) (pe_make T.mk_Words G_Words_init (hr.mono (by decide)) (by rfl) T.g_Words (b_Words_init T) .nil pass0 (pa_cons (pe_slice sl_list (pe_meth0 (pv 0) T.c_Lines T.m_Lines_next_line G_Lines_next_line (hr.mono (by decide)) (b_Lines_next_line T) .nil passE) (po_some pe_int) po_none) pa_nil)))
        (pss_cons (ps_expr (pe_bm PySem.F.plainAttrs_list PySem.F.slot_list_append PySem.F.type_list_append mt_append (pv 1) (pa_cons (pe_tup (pa_cons (by exact (pe_meth0 (pv 2) T.c_Words T.m_Words_next_word G_Words_next_word (hr.mono (by decide)) (b_Words_next_word T) .nil passE)) (pa_cons (by exact (pe_call G_number_of (hr.mono (by decide)) rfl T.g_number_of T.d_number_of.kp (b_number_of T) .nil passE (pa_cons (by exact (pe_meth0 (pv 2) T.c_Words T.m_Words_next_word G_Words_next_word (hr.mono (by decide)) (b_Words_next_word T) .nil passE)) pa_nil))) pa_nil))) pa_nil)))
        (pss_one (ps_expr (pe_meth0 (pv 2) T.c_Words T.m_Words_need_end G_Words_need_end (hr.mono (by decide)) (b_Words_need_end T) .nil passE))))))
      (pss_cons (ps_set (i := 3) sc_st.nd rfl (.inl rfl) (pe_lst pa_nil))
      (pss_cons (ps_while PassesOwn.leaving (pt_cmpR op_eq (pe_meth0 (pv 0) T.c_Lines T.m_Lines_next_head G_Lines_next_head (hr.mono (by decide)) (b_Lines_next_head T) .nil pass0) pe_str (nomark _))
        (pss_cons (ps_set (i := 2) sc_st.nd rfl (.inl rfl) (pe_slice sl_list (pe_meth0 (pv 0) T.c_Lines T.m_Lines_next_line G_Lines_next_line (hr.mono (by decide)) (b_Lines_next_line T) .nil passE) (po_some pe_int) po_none))
        (pss_one (ps_expr (pe_bm PySem.F.plainAttrs_list PySem.F.slot_list_append PySem.F.type_list_append mt_append (pv 3) (pa_cons (pe_tup (pa_cons (by exact (pe_meth0 (pe_make T.mk_Words G_Words_init (hr.mono (by decide)) (by rfl) T.g_Words (b_Words_init T) .nil pass0 (pa_cons (pv 2) pa_nil)) T.c_Words T.m_Words_next_word G_Words_next_word (hr.mono (by decide)) (b_Words_next_word T) .nil passE)) (pa_cons (by exact (pe_callTy call_tuple_of (by rfl) T.f_tuple (by decide +kernel) (pa_cons (by exact (pe_lc (own := [("word", 4)]) rfl sc_st.nd (pi_list (pe_slice sl_list (pv 2) (po_some pe_int) po_none)) (blkOk_by (own := [("word", 4)]) (N := ["lines", "boxes", "words", "lists", "word"]) (sc := defScope S_read_stores) (by decide +kernel)) (fun _ _ _ _ _ => (pg_name (i := 4) sc_st.nd rfl (.inl rfl))) (fun _ _ _ _ _ => pts_nil) (fun _ _ _ _ _ => (pe_call G_number_of (hr.mono (by decide)) rfl T.g_number_of T.d_number_of.kp (b_number_of T) .nil passN (pa_cons (pv 4) pa_nil))))) pa_nil))) pa_nil))) pa_nil))))))
      (pss_one (ps_ret (pe_tup (pa_cons (by exact (pe_callTy call_tuple_of (by rfl) T.f_tuple (by decide +kernel) (pa_cons (pv 1) pa_nil))) (pa_cons (by exact (pe_callTy call_tuple_of (by rfl) T.f_tuple (by decide +kernel) (pa_cons (pv 3) pa_nil))) pa_nil))))))))), ?_⟩
    have e0 : headOf lns 0 = "box" := by rw [hlns]; rfl
    have e1 : headOf lns 1 = "list" := by rw [hlns]; rfl
    have g0 : lns[0]? = some bxW := by rw [hlns]; rfl
    have g1 : lns[1]? = some lsW := by rw [hlns]; rfl
    have ln : 2 ≤ lns.length := by rw [hlns]; exact Nat.le_add_left _ _
    clear hlns
    refine ⟨(by show 0 ≤ sizeLine; decide), fun B0 hB0 => ?_⟩
    have npB : p ≠ B0 := ne_of_none hp hB0
    have W0 : ∀ H1, But p H H1 → H1 L = some (.lst as) ∧ LnsP H1 L lns as := fun H1 B => ⟨B _ _ (ne_of hL hp (by intro z; cases z)) hL, hA.mono fun a xs _ e => B _ _ (ne_of e hp (by intro z; cases z)) e⟩
    -- the boxes
    refine ⟨StW1 K p dx L B0 H, ⟨1, none, rfl, but_same (same_new hB0), .inl ⟨rfl, upk hp hB0, upd_same⟩⟩, ?_⟩
    rintro m σ H1 ⟨s2, rfl, B1, ⟨rfl, hp1, hB1⟩ | ⟨rfl, hp1, b1, hB1, hb1⟩⟩
    · obtain ⟨hL1, hA1⟩ := W0 _ B1
      refine ⟨_, rfl, p, dx, _, rfl, hp1, liF_no (by decide +kernel) (by decide +kernel), p, dx, L, 0, lns, as, rfl, hp1, hL1, hA1, hn, ?_⟩
      rw [e0]
      refine ⟨rfl, _, rfl, itT (by decide +kernel) ?_⟩
      refine ⟨fun σ' H' => ∃ m', m' < 1 ∧ StW1 K p dx L B0 H m' σ' H', fun _ _ h => h, ?_⟩
      refine ⟨_, rfl, p, dx, _, rfl, hp1, liF_no (by decide +kernel) (by decide +kernel), p, dx, L, 0, lns, as, rfl, hp1, hL1, hA1, Nat.zero_le _, .inl ⟨bxW, g0, fun a ha na => ?_⟩⟩
      have hp2 : upd H1 p (li K dx L 1) p = some (li K dx L 1) := upd_same
      have hB2 : upd H1 p (li K dx L 1) B0 = some (.lst []) := upn hB1 npB.symm
      have ha2 : upd H1 p (li K dx L 1) a = some (.lst (strV bxW)) := upx ha hp1 (by intro z; cases z)
      have B2 : But p H (upd H1 p (li K dx L 1)) := B1.at_
      generalize upd H1 p (li K dx L 1) = H2 at *
      refine ⟨_, rfl, a, _, rfl, SqL.of ha2, fun l hl => fun x wdx nx ndx nex => ?_⟩
      have eC : cutV (strV bxW) (some 1) none = strV xW := cut_one
      rw [eC] at nx ndx ⊢
      refine ⟨x, l, wdx, rfl, upd_same, rfl, ?_⟩
      rw [upd_upd]
      have nx2 : H2 x = none := (same_new hl).free nx
      have nxH : H x = none := B2.free hp2 nx2
      have S3 : Same H2 (upd (upd (upd H2 l (.lst (strV xW))) wdx (.own x)) x (wo K wdx l 0)) := sover (same_trans_new (same_new hl) ndx) nx2
      have hx3 : (upd (upd (upd H2 l (.lst (strV xW))) wdx (.own x)) x (wo K wdx l 0)) x = some (wo K wdx l 0) := upd_same
      have hl3 : (upd (upd (upd H2 l (.lst (strV xW))) wdx (.own x)) x (wo K wdx l 0)) l = some (.lst (strV xW)) := upk (upk upd_same ndx) (by rw [upd_ne (Ne.symm nex)]; exact nx)
      have hp3 := S3 _ _ hp2
      have hB3 := S3 _ _ hB2
      have B3 := B2.trans (but_same S3)
      generalize upd (upd (upd H2 l (.lst (strV xW))) wdx (.own x)) x (wo K wdx l 0) = H3 at *
      refine ⟨_, rfl, .inl ⟨rfl, _, SqL.of hB3⟩, _, rfl, x, wdx, _, rfl, hx3, woF_no (by decide +kernel) (by decide +kernel), x, wdx, l, xW, 0, rfl, hx3, hl3, .inl ⟨"x", rfl, ?_⟩⟩
      have hx4 : upd H3 x (wo K wdx l 1) x = some (wo K wdx l 1) := upd_same
      have hl4 : upd H3 x (wo K wdx l 1) l = some (.lst (strV xW)) := upx hl3 hx3 (by intro z; cases z)
      refine ⟨_, rfl, x, wdx, _, rfl, hx4, woF_no (by decide +kernel) (by decide +kernel), x, wdx, l, xW, 1, rfl, hx4, hl4, .inl ⟨"7", rfl, ?_⟩⟩
      rw [upd_upd]
      have hx5 : upd H3 x (wo K wdx l 2) x = some (wo K wdx l 2) := upd_same
      have hl5 : upd H3 x (wo K wdx l 2) l = some (.lst (strV xW)) := upx hl3 hx3 (by intro z; cases z)
      have hp5 : upd H3 x (wo K wdx l 2) p = some (li K dx L 1) := upn hp3 (ne_of_none hp2 nx2)
      have hB5 : upd H3 x (wo K wdx l 2) B0 = some (.lst []) := upn hB3 (ne_of_none hB2 nx2)
      have B5 : But p H (upd H3 x (wo K wdx l 2)) := B3.over nxH
      generalize upd H3 x (wo K wdx l 2) = H5 at *
      refine ⟨"7", rfl, .inl ⟨7, .inr (.inr ⟨rfl, rfl⟩), (by show 2 ≤ sizeLine; decide), fun b1 hb1 => ⟨B0, [], _, rfl, rfl, upk hB5 hb1, (by decide), ?_⟩⟩⟩
      have hB6 : upd H5 b1 (.tup [.str "x", .int ((7 : Nat) : Int)]) B0 = some (.lst []) := upk hB5 hb1
      have hx6 : upd (upd H5 b1 (.tup [.str "x", .int ((7 : Nat) : Int)])) B0 (.lst ([] ++ [.ref b1])) x = some (wo K wdx l 2) := upx (upk hx5 hb1) hB6 (by intro z; cases z)
      have hl6 : upd (upd H5 b1 (.tup [.str "x", .int ((7 : Nat) : Int)])) B0 (.lst ([] ++ [.ref b1])) l = some (.lst (strV xW)) := upn (upk hl5 hb1) (ne_of_none hB2 hl).symm
      have hp6 : upd (upd H5 b1 (.tup [.str "x", .int ((7 : Nat) : Int)])) B0 (.lst ([] ++ [.ref b1])) p = some (li K dx L 1) := upn (upk hp5 hb1) npB
      have hb6 : upd (upd H5 b1 (.tup [.str "x", .int ((7 : Nat) : Int)])) B0 (.lst ([] ++ [.ref b1])) b1 = some (.tup [.str "x", .int 7]) := upx upd_same hB6 (by intro z; cases z)
      refine ⟨_, rfl, x, wdx, _, rfl, hx6, woF_no (by decide +kernel) (by decide +kernel), x, wdx, l, xW, 2, rfl, hx6, hl6, .inl ⟨by decide, ?_⟩⟩
      exact ⟨0, by decide, _, rfl, (B5.new hb1).over hB0, .inr ⟨rfl, hp6, b1, upd_same, hb6⟩⟩
    · obtain ⟨hL1, hA1⟩ := W0 _ B1
      refine ⟨_, rfl, p, dx, _, rfl, hp1, liF_no (by decide +kernel) (by decide +kernel), p, dx, L, 1, lns, as, rfl, hp1, hL1, hA1, hn, ?_⟩
      rw [e1]
      refine ⟨rfl, _, rfl, itF (by decide +kernel) ?_⟩
      refine ⟨(by show 0 ≤ sizeLine; decide), fun L0 hL0 => ?_⟩
      have npL0 : p ≠ L0 := ne_of_none hp1 hL0
      have nL0 : H L0 = none := B1.free hp1 hL0
      have nBL : B0 ≠ L0 := ne_of_none hB1 hL0
      refine ⟨StW2 K p dx L B0 L0 b1 H, ⟨1, _, rfl, B1.new hL0, upk hB1 hL0, upk hb1 hL0, .inl ⟨rfl, upk hp1 hL0, upd_same⟩⟩, ?_⟩
      clear hL1 hA1 hp1 B1 hB1 hb1 hL0 H1
      rintro m σ H1 ⟨s2, rfl, B1, hB1, hb1, ⟨rfl, hp1, hM1⟩ | ⟨rfl, hp1, l1, n1, hM1, hl1, hn1⟩⟩
      · obtain ⟨hL1, hA1⟩ := W0 _ B1
        refine ⟨_, rfl, p, dx, _, rfl, hp1, liF_no (by decide +kernel) (by decide +kernel), p, dx, L, 1, lns, as, rfl, hp1, hL1, hA1, hn, ?_⟩
        rw [e1]
        refine ⟨rfl, _, rfl, itT (by decide +kernel) ?_⟩
        refine ⟨fun σ' H' => ∃ m', m' < 1 ∧ StW2 K p dx L B0 L0 b1 H m' σ' H', fun _ _ h => h, ?_⟩
        refine ⟨_, rfl, p, dx, _, rfl, hp1, liF_no (by decide +kernel) (by decide +kernel), p, dx, L, 1, lns, as, rfl, hp1, hL1, hA1, by omega, .inl ⟨lsW, g1, fun a ha na => ?_⟩⟩
        have hp2 : upd H1 p (li K dx L 2) p = some (li K dx L 2) := upd_same
        have hB2 : upd H1 p (li K dx L 2) B0 = some (.lst [.ref b1]) := upn hB1 npB.symm
        have hb2 : upd H1 p (li K dx L 2) b1 = some (.tup [.str "x", .int 7]) := upx hb1 hp1 (by intro z; cases z)
        have hM2 : upd H1 p (li K dx L 2) L0 = some (.lst []) := upn hM1 npL0.symm
        have ha2 : upd H1 p (li K dx L 2) a = some (.lst (strV lsW)) := upx ha hp1 (by intro z; cases z)
        have B2 : But p H (upd H1 p (li K dx L 2)) := B1.at_
        generalize upd H1 p (li K dx L 2) = H2 at *
        refine ⟨_, rfl, a, _, rfl, SqL.of ha2, fun l hl => ?_⟩
        have eC : cutV (strV lsW) (some 1) none = strV lW := cut_one
        rw [eC]
        have hp3 := upk (o := .lst (strV lW)) hp2 hl
        have hB3 := upk (o := .lst (strV lW)) hB2 hl
        have hb3 := upk (o := .lst (strV lW)) hb2 hl
        have hM3 := upk (o := .lst (strV lW)) hM2 hl
        have B3 := B2.new (o := .lst (strV lW)) hl
        have hl3 : upd H2 l (.lst (strV lW)) l = some (.lst (strV lW)) := upd_same
        generalize upd H2 l (.lst (strV lW)) = H3 at *
        refine ⟨_, rfl, .inl ⟨rfl, _, SqL.of hM3⟩, _, rfl, fun x wdx nx ndx nex => ?_⟩
        refine ⟨x, l, wdx, rfl, upd_same, rfl, ?_⟩
        rw [upd_upd]
        have nxH : H x = none := B3.free hp3 nx
        have S4 : Same H3 (upd (upd H3 wdx (.own x)) x (wo K wdx l 0)) := sover (same_new ndx) nx
        have hx4 : (upd (upd H3 wdx (.own x)) x (wo K wdx l 0)) x = some (wo K wdx l 0) := upd_same
        have hl4 := S4 _ _ hl3
        have hp4 := S4 _ _ hp3
        have hB4 := S4 _ _ hB3
        have hb4 := S4 _ _ hb3
        have hM4 := S4 _ _ hM3
        have B4 := B3.trans (but_same S4)
        generalize upd (upd H3 wdx (.own x)) x (wo K wdx l 0) = H4 at *
        refine ⟨x, wdx, _, rfl, hx4, woF_no (by decide +kernel) (by decide +kernel), x, wdx, l, lW, 0, rfl, hx4, hl4, .inl ⟨"l", rfl, ?_⟩⟩
        have hl5 := upx (o := wo K wdx l 1) hl4 hx4 (by intro z; cases z)
        have hp5 := upn (o := wo K wdx l 1) hp4 (ne_of_none hp3 nx)
        have hB5 := upx (o := wo K wdx l 1) hB4 hx4 (by intro z; cases z)
        have hb5 := upx (o := wo K wdx l 1) hb4 hx4 (by intro z; cases z)
        have hM5 := upx (o := wo K wdx l 1) hM4 hx4 (by intro z; cases z)
        have B5 := B4.over (o := wo K wdx l 1) nxH
        generalize upd H4 x (wo K wdx l 1) = H5 at *
        refine ⟨_, rfl, _, rfl, l, _, rfl, SqL.of hl5, fun m hm => ?_⟩
        have eD : cutV (strV lW) (some 1) none = strV nW := cut_one
        rw [eD]
        have hp6 := upk (o := .lst (strV nW)) hp5 hm
        have hB6 := upk (o := .lst (strV nW)) hB5 hm
        have hb6 := upk (o := .lst (strV nW)) hb5 hm
        have hM6 := upk (o := .lst (strV nW)) hM5 hm
        have B6 := B5.new (o := .lst (strV nW)) hm
        have hm6 : upd H5 m (.lst (strV nW)) m = some (.lst (strV nW)) := upd_same
        generalize upd H5 m (.lst (strV nW)) = H6 at *
        refine ⟨m, rfl, ⟨_, SqL.of hm6⟩, fun D hD => ?_⟩
        refine lc_list (K := K) (a := m) (xs := strV nW) (fun j H' => H' = upd H6 D (.lst (([1, 2] : List Int).take j |>.map V.int))) rfl
          (fun j H' _ e => by rw [e]; exact SqL.of (upk hm6 hD)) ?_ ?_
        · rintro j y H' hy rfl
          have nmD : m ≠ D := ne_of_none hm6 hD
          match j, hy with
          | 0, hy =>
            have ey : y = V.str "1" := (Option.some.inj hy).symm
            subst ey
            refine ⟨rfl, _, rfl, "1", rfl, .inl ⟨1, .inl ⟨rfl, rfl⟩, _, upd_same, (by show 0 < sizeLine; decide), ?_⟩⟩
            rw [upd_upd]
            rfl
          | 1, hy =>
            have ey : y = V.str "2" := (Option.some.inj hy).symm
            subst ey
            refine ⟨rfl, _, rfl, "2", rfl, .inl ⟨2, .inr (.inl ⟨rfl, rfl⟩), _, upd_same, (by show 1 < sizeLine; decide), ?_⟩⟩
            rw [upd_upd]
            rfl
          | j + 2, hy => cases hy
        · rintro H' rfl
          have hD6 : upd H6 D (.lst [.int 1, .int 2]) D = some (.lst [.int 1, .int 2]) := upd_same
          have hp7 := upk (o := .lst [.int 1, .int 2]) hp6 hD
          have hB7 := upk (o := .lst [.int 1, .int 2]) hB6 hD
          have hb7 := upk (o := .lst [.int 1, .int 2]) hb6 hD
          have hM7 := upk (o := .lst [.int 1, .int 2]) hM6 hD
          have B7 := B6.new (o := .lst [.int 1, .int 2]) hD
          show tNil _ (upd H6 D (.lst [.int 1, .int 2])) _
          refine ⟨D, [.int 1, .int 2], rfl, .inl ⟨SqL.of hD6, fun n1 hn1 => ⟨(by show 2 ≤ sizeLine; decide), fun l1 hl1 => ?_⟩⟩⟩
          have hM8 := upk (o := .tup [.str "l", .ref n1]) (upk (o := .tup [.int 1, .int 2]) hM7 hn1) hl1
          refine ⟨L0, [], _, rfl, rfl, hM8, (by decide), ?_⟩
          exact ⟨0, by decide, _, rfl, ((B7.new hn1).new hl1).over nL0, upn (upk (upk hB7 hn1) hl1) nBL, upx (upk (upk hb7 hn1) hl1) hM8 (by intro z; cases z),
            .inr ⟨rfl, upx (upk (upk hp7 hn1) hl1) hM8 (by intro z; cases z), l1, n1, upd_same, upx upd_same hM8 (by intro z; cases z), upx (upk upd_same hl1) hM8 (by intro z; cases z)⟩⟩
      · obtain ⟨hL1, hA1⟩ := W0 _ B1
        refine ⟨_, rfl, p, dx, _, rfl, hp1, liF_no (by decide +kernel) (by decide +kernel), p, dx, L, 2, lns, as, rfl, hp1, hL1, hA1, hn, ?_⟩
        refine ⟨rfl, _, rfl, itF (decide_eq_false fun z => hh (V.str.inj z)) ?_⟩
        refine ⟨_, rfl, B0, _, rfl, .inl ⟨SqL.of hB1, fun bt hbt => ?_⟩⟩
        refine ⟨_, rfl, L0, _, rfl, .inl ⟨SqL.of (upk hM1 hbt), fun lt hlt => ?_⟩⟩
        refine ⟨(by show 2 ≤ sizeLine; decide), fun t ht => ?_⟩
        exact q _ t bt lt (((B1.new hbt).new hlt).new ht) (upk (upk (upk hp1 hbt) hlt) ht) upd_same ⟨b1, l1, n1, upk (upk upd_same hlt) ht, upk (upk (upk hb1 hbt) hlt) ht, upk upd_same ht, upk (upk (upk hl1 hbt) hlt) ht, upk (upk (upk hn1 hbt) hlt) ht⟩
end
end Rt
end S_RtSt

section S_RtVal
set_option Elab.async false
set_option linter.all false
set_option maxRecDepth 100000
set_option maxHeartbeats 4000000
/-! names, numbers, values -/
namespace Rt
open PySem PySem.Spec PyProof.Rows L2
section
variable {P : Program} {w : World} {K : PySem.W.Frag} {mg : Str → Option Value} {base : Heap}
theorem isi_tup {H : Hp} {q : Addr} {xs : List V} (h : H q = some (.tup xs)) : TyX K H (.ref q) (.type "tuple") := .base (.tup h)
theorem int_ne {m n : Int} (h : m ≠ n) : decide (V.int m = V.int n) = false := decide_eq_false fun z => h (V.int.inj z)
theorem int_nn {m : Int} : (!decide (V.int m = V.int m)) = false := by rw [decide_eq_true rfl]; rfl
theorem no_whole2 : ¬ (HT.sIx 2 0 (some 1) = 0 ∧ HT.sIx 2 2 none = 2) := by decide
theorem no_whole3 : ¬ (HT.sIx 3 0 (some 1) = 0 ∧ HT.sIx 3 3 none = 3) := by decide
theorem no_whole3' : ¬ (HT.sIx 3 0 (some 2) = 0 ∧ HT.sIx 3 3 none = 3) := by decide
def spName : Sp := fun vs H Q _ => ∃ z : Str, vs = [.str z] ∧ (z = "x" ∨ z = "l") ∧ Q (.bl true) H
theorem sc_name : FnScope ["thing", "sign"] ["thing"] (defScope S_is_name) := ⟨rfl, rfl, rfl, by decide +kernel, rfl, by decide +kernel, by decide +kernel⟩
theorem ok_name (T : Txt K mg) : FnOk P w K mg base CX0 1 (A_is_name K) (fdOf K (A_is_name K)) ["thing"] spName := by
  refine T.d_is_name.ok sc_name (fun vs H Q E h => ?_) (fun cdv A outer s H vs Q E hr h => ?_)
  · obtain ⟨z, rfl, _⟩ := h
    rfl
  · obtain ⟨z, rfl, hz, q⟩ := h
    refine ⟨_, (pss_cons (ps_if (PW.pt (pw_or (pt_not (pt_val (pe_callB call_isi (by rfl) T.f_isinstance (by decide +kernel) (pa_cons (pv 0) (pa_cons (pe_bltn (v := .ty "str") (by rfl) T.f_str (by decide +kernel) rfl) pa_nil))))) (pw_or1 (pt_not (pt_chain op_le op_le pe_int (pe_callB call_len_str (by rfl) T.f_len PySem.boot_len (pa_cons (pv 0) pa_nil)) (pe_gi T.i_LONGEST_NAME)))))) (pss_one (ps_ret pe_bl))
        pss_nil)
      (pss_cons (ps_for PassesOwn.never rfl (pi_str (pv 0)) (pg_name (i := 1) sc_name.nd rfl (.inl rfl))
        (pss_one (ps_if (pt_cmpR op_notIn_sign (pv 1) (pe_gs T.s_LETTERS) (by rfl)) (pss_one (ps_ret pe_bl))
          pss_nil)))
      (pss_one (ps_ret pe_bl)))), ?_⟩
    have key : z.length = 1 ∧ (∃ c, z.cps = #[c] ∧ c ∈ ("abcdefghijklmnopqrstuvwxyz" : Str).cps.toList) := by
      rcases hz with rfl | rfl
      · exact ⟨by decide +kernel, ⟨120, by decide +kernel, by decide +kernel⟩⟩
      · exact ⟨by decide +kernel, ⟨108, by decide +kernel, by decide +kernel⟩⟩
    obtain ⟨hl, ⟨c, hc, hm⟩⟩ := key
    have hz : z.length ≤ sizeLine := by rw [hl]; decide
    have l0 : ((z.length : Nat) : Int) = 1 := by rw [hl]; rfl
    refine ⟨_, rfl, .str z, .ty "str", _, _, true, rfl, .ty "str", .base (.str z), kit_ty rfl, true, rfl, itF rfl ?_⟩
    refine ⟨_, rfl, z, rfl, hz, _, _, rfl, rfl, _, rfl, itT (by rw [l0]; rfl) ⟨_, _, rfl, rfl, _, rfl, ?_⟩⟩
    refine itF (by rw [l0]; rfl) ?_
    refine ⟨_, rfl, z, rfl, for_str (x := z) (fun i σ H' => H' = H ∧ ∃ v, σ = [some (.str z), v]) ⟨rfl, none, rfl⟩ ?_ ?_⟩
    · rintro i d σ H' hd ⟨rfl, v, rfl⟩
      have hi0 : i = 0 ∧ d = c := by
        rw [hc] at hd
        cases i with
        | zero => exact ⟨rfl, (Option.some.inj hd).symm⟩
        | succ i => cases i <;> cases hd
      obtain ⟨rfl, rfl⟩ := hi0
      refine ⟨_, rfl, _, _, rfl, rfl, _, rfl, ?_⟩
      exact itF (by rw [decide_eq_true hm]; rfl) ⟨rfl, _, rfl⟩
    · rintro σ H' ⟨rfl, v, rfl⟩
      exact q
def spIsn : Sp := fun vs H Q _ => ∃ n : Int, vs = [.int n] ∧ 0 ≤ n ∧ n ≤ 999999 ∧ Q (.bl true) H
theorem sc_isn : FnScope ["thing"] ["thing"] (defScope S_is_number) := ⟨rfl, rfl, rfl, by decide +kernel, rfl, by decide +kernel, by decide +kernel⟩
theorem ok_isn (T : Txt K mg) : FnOk P w K mg base CX0 1 (A_is_number K) (fdOf K (A_is_number K)) ["thing"] spIsn := by
  refine T.d_is_number.ok sc_isn (fun vs H Q E h => ?_) (fun cdv A outer s H vs Q E hr h => ?_)
  · obtain ⟨z, rfl, _⟩ := h
    rfl
  · obtain ⟨n, rfl, h0, h1, q⟩ := h
    refine ⟨_, (pss_one (ps_ret (pe_and (pe_callB call_isi (by rfl) T.f_isinstance (by decide +kernel) (pa_cons (pv 0) (pa_cons (pe_bltn (v := .ty "int") (by rfl) T.f_int (by decide +kernel) rfl) pa_nil))) (pe_and (pe_not (pe_callB call_isi (by rfl) T.f_isinstance (by decide +kernel) (pa_cons (pv 0) (pa_cons (pe_bltn (v := .ty "bool") (by rfl) T.f_bool (by decide +kernel) rfl) pa_nil)))) (pe_one (pe_chain op_le op_le pe_int (pv 0) (pe_gi T.i_GREATEST))))))), ?_⟩
    refine ⟨_, rfl, .int n, .ty "int", _, _, true, rfl, .ty "int", .base (.int n), kit_ty rfl, _, rfl, itT rfl ?_⟩
    refine ⟨_, rfl, .int n, .ty "bool", _, _, false, rfl, .ty "bool", .base (.int n), kit_ty rfl, _, rfl, _, rfl, itT rfl ?_⟩
    refine ⟨_, rfl, _, _, rfl, rfl, _, rfl, ?_⟩
    have q1 : Q (.bl (decide (n ≤ 999999))) H := by rw [decide_eq_true h1]; exact q
    rw [decide_eq_true h0]
    exact ⟨_, _, rfl, rfl, q1⟩
def spOne : Sp := fun vs H Q _ => ∃ (z : Str) (l : Addr) , vs = [.str z, .ref l] ∧ H l = some (.lst [.str z]) ∧ Q (.bl true) H
theorem sc_one : FnScope ["thing", "names"] ["thing", "names"] (defScope S_is_one_of) := ⟨rfl, rfl, rfl, by decide +kernel, rfl, by decide +kernel, by decide +kernel⟩
theorem ok_one (T : Txt K mg) : FnOk P w K mg base CX0 1 (A_is_one_of K) (fdOf K (A_is_one_of K)) ["thing", "names"] spOne := by
  refine T.d_is_one_of.ok sc_one (fun vs H Q E h => ?_) (fun cdv A outer s H vs Q E hr h => ?_)
  · obtain ⟨z, l, rfl, _⟩ := h
    rfl
  · obtain ⟨z, l, rfl, hl, q⟩ := h
    refine ⟨_, (pss_one (ps_ret (pe_and (pe_callB call_isi (by rfl) T.f_isinstance (by decide +kernel) (pa_cons (pv 0) (pa_cons (pe_bltn (v := .ty "str") (by rfl) T.f_str (by decide +kernel) rfl) pa_nil))) (pe_one (pe_cmpR op_in_seq (pv 0) (pv 1) (by rfl)))))), ?_⟩
    refine ⟨_, rfl, .str z, .ty "str", _, _, true, rfl, .ty "str", .base (.str z), kit_ty rfl, _, rfl, itT rfl ?_⟩
    refine ⟨_, rfl, _, rfl, l, _, rfl, .inl (SqL.of hl), rfl, rfl, ?_⟩
    have e : inV (.str z) [V.str z] = true := by simp [inV, eqV]
    rw [e]
    exact q
def NmP (H : Hp) (bx ls : Addr) : Prop := H bx = some (.lst [.str "x"]) ∧ H ls = some (.lst [.str "l"])
theorem NmP.same {H H' : Hp} {bx ls : Addr} (S : Same H H') (h : NmP H bx ls) : NmP H' bx ls := ⟨S _ _ h.1, S _ _ h.2⟩
def Vl.plain : Vl → Bool
  | .num => true
  | .box => true
  | .size => true
  | _ => false
def spPla : Sp := fun vs H Q _ => ∃ (q bx ls : Addr) (v : Vl), vs = [.ref q, .ref bx, .ref ls] ∧ VlP H v q ∧ v.plain = true ∧ NmP H bx ls ∧ Q (.bl true) H
theorem sc_pla : FnScope ["thing", "boxes", "lists"] ["thing", "boxes", "lists"] (defScope S_is_plain) := ⟨rfl, rfl, rfl, by decide +kernel, rfl, by decide +kernel, by decide +kernel⟩
theorem ok_pla (T : Txt K mg) : FnOk P w K mg base CX0 2 (A_is_plain K) (fdOf K (A_is_plain K)) ["thing", "boxes", "lists"] spPla := by
  have G_is_number : FnOk P w K mg base CX0 1 (A_is_number K) (fdOf K (A_is_number K)) ["thing"] spIsn := ok_isn T
  have G_is_one_of : FnOk P w K mg base CX0 1 (A_is_one_of K) (fdOf K (A_is_one_of K)) ["thing", "names"] spOne := ok_one T
  refine T.d_is_plain.ok sc_pla (fun vs H Q E h => ?_) (fun cdv A outer s H vs Q E hr h => ?_)
  · obtain ⟨q, bx, ls, v, rfl, _⟩ := h
    rfl
  · obtain ⟨a, bx, ls, v, rfl, ⟨ys, ha, hv⟩, hp, ⟨hb, hl⟩, q⟩ := h
    refine ⟨_, (pss_cons (ps_if (pt_cmpR op_ne (pe_callB call_len_seq (by rfl) T.f_len PySem.boot_len (pa_cons (pv 0) pa_nil)) pe_int (nomark _)) (pss_one (ps_ret pe_bl))
        pss_nil)
      (pss_cons (ps_if (pt_cmpR op_eq (pe_ix ix_tup (pv 0) pe_int (fun _ _ => rfl)) pe_str (nomark _)) (pss_one (ps_ret (pe_call G_is_number (hr.mono (by decide)) rfl T.g_is_number T.d_is_number.kp (b_is_number T) .nil pass0 (pa_cons (pe_ix ix_tup (pv 0) pe_int (fun _ _ => rfl)) pa_nil))))
        pss_nil)
      (pss_cons (ps_if (pt_cmpR op_eq (pe_ix ix_tup (pv 0) pe_int (fun _ _ => rfl)) pe_str (nomark _)) (pss_one (ps_ret (pe_call G_is_one_of (hr.mono (by decide)) rfl T.g_is_one_of T.d_is_one_of.kp (b_is_one_of T) .nil pass0 (pa_cons (pe_ix ix_tup (pv 0) pe_int (fun _ _ => rfl)) (pa_cons (pv 1) pa_nil)))))
        pss_nil)
      (pss_one (ps_ret (pe_call G_is_one_of (hr.mono (by decide)) rfl T.g_is_one_of T.d_is_one_of.kp (b_is_one_of T) .nil pass0 (pa_cons (pe_ix ix_tup (pv 0) pe_int (fun _ _ => rfl)) (pa_cons (pv 2) pa_nil)))))))), ?_⟩
    cases v with
    | num =>
      have e : ys = _ := hv
      subst e
      refine ⟨_, rfl, a, _, rfl, .inr (SqT.of ha), rfl, _, rfl, itF (by decide) ?_⟩
      refine ⟨_, rfl, a, _, 0, .str "number", rfl, rfl, SqT.of ha, atI_nat (j := 0) rfl, rfl, _, rfl, itT (by decide +kernel) ?_⟩
      exact ⟨_, rfl, a, _, 1, .int 1, rfl, rfl, SqT.of ha, atI_nat (j := 1) rfl, 1, rfl, by decide, by decide, q⟩
    | box =>
      have e : ys = _ := hv
      subst e
      refine ⟨_, rfl, a, _, rfl, .inr (SqT.of ha), rfl, _, rfl, itF (by decide) ?_⟩
      refine ⟨_, rfl, a, _, 0, .str "box", rfl, rfl, SqT.of ha, atI_nat (j := 0) rfl, rfl, _, rfl, itF (by decide +kernel) ?_⟩
      refine ⟨_, rfl, a, _, 0, .str "box", rfl, rfl, SqT.of ha, atI_nat (j := 0) rfl, rfl, _, rfl, itT (by decide +kernel) ?_⟩
      exact ⟨_, rfl, a, _, 1, .str "x", rfl, rfl, SqT.of ha, atI_nat (j := 1) rfl, _, rfl, "x", bx, rfl, hb, q⟩
    | size =>
      have e : ys = _ := hv
      subst e
      refine ⟨_, rfl, a, _, rfl, .inr (SqT.of ha), rfl, _, rfl, itF (by decide) ?_⟩
      refine ⟨_, rfl, a, _, 0, .str "size", rfl, rfl, SqT.of ha, atI_nat (j := 0) rfl, rfl, _, rfl, itF (by decide +kernel) ?_⟩
      refine ⟨_, rfl, a, _, 0, .str "size", rfl, rfl, SqT.of ha, atI_nat (j := 0) rfl, rfl, _, rfl, itF (by decide +kernel) ?_⟩
      exact ⟨_, rfl, a, _, 1, .str "l", rfl, rfl, SqT.of ha, atI_nat (j := 1) rfl, _, rfl, "l", ls, rfl, hl, q⟩
    | nt a => cases hp
    | pl a b => cases hp
    | it a => cases hp
theorem cut_two {x y : V} {xs : List V} : cutV (x :: y :: xs) (some 2) none = xs := by
  unfold cutV
  have e1 : HT.sIx (x :: y :: xs).length 0 (some 2) = 2 := by
    have := HT.sIx_nat (x :: y :: xs).length 0 2
    rw [List.length_cons, List.length_cons] at this ⊢
    rw [show ((2 : Nat) : Int) = 2 from rfl] at this
    rw [this]
    omega
  rw [e1, HT.sIx_none]
  show (xs.drop 0).take _ = xs
  rw [List.drop_zero]
  exact List.take_of_length_le (by rw [List.length_cons, List.length_cons]; omega)
theorem Vl.deep_pos (v : Vl) : 1 ≤ v.deep := by
  cases v <;> simp [Vl.deep]
/-! ### is_within -/
def spWi (n : Nat) : Sp := fun vs H Q _ => ∃ (q bx ls : Addr) (v : Vl), vs = [.ref q, .ref bx, .ref ls, .int ((n : Nat) : Int)] ∧ VlP H v q ∧ NmP H bx ls ∧ ∀ H', Same H H' → Q (.bl (decide (v.deep ≤ n))) H'
theorem sc_wi : FnScope ["thing", "boxes", "lists", "deep", "count", "parts", "part"] ["thing", "boxes", "lists", "deep"] (defScope S_is_within) := ⟨rfl, rfl, rfl, by decide +kernel, rfl, by decide +kernel, by decide +kernel⟩
theorem ok_wi0 (T : Txt K mg) : FnOk P w K mg base CX0 3 (A_is_within K) (fdOf K (A_is_within K)) ["thing", "boxes", "lists", "deep"] (spWi 0) := by
  refine T.d_is_within.ok sc_wi (fun vs H Q E h => ?_) (fun cdv A outer s H vs Q E hr h => ?_)
  · obtain ⟨q, bx, ls, v, rfl, _⟩ := h
    rfl
  · obtain ⟨a, bx, ls, v, rfl, hv, hn, q⟩ := h
    refine ⟨_, (pss_cons (ps_if (PW.pt (pw_or (pt_cmpR op_eq (pv 3) pe_int (nomark _)) (pw_or (pt_not (pt_val (pe_callB call_isi (by rfl) T.f_isinstance (by decide +kernel) (pa_cons (pv 0) (pa_cons (pe_bltn (v := .ty "tuple") (by rfl) T.f_tuple (by decide +kernel) rfl) pa_nil))))) (pw_or (pt_cmpR op_eq (pe_callB call_len_seq (by rfl) T.f_len PySem.boot_len (pa_cons (pv 0) pa_nil)) pe_int (nomark _)) (pw_or1 (pt_not (pt_val (pe_callB call_isi (by rfl) T.f_isinstance (by decide +kernel) (pa_cons (pe_ix ix_tup (pv 0) pe_int (fun _ _ => rfl)) (pa_cons (pe_bltn (v := .ty "str") (by rfl) T.f_str (by decide +kernel) rfl) pa_nil)))))))))) (pss_one (ps_ret pe_bl))
        pss_nil)
      pss_never), ?_⟩
    have z := q H fun _ _ h => h
    rw [decide_eq_false (by have := v.deep_pos; omega)] at z
    exact ⟨_, rfl, rfl, _, rfl, itT rfl (iteT z)⟩
theorem ok_wiS (T : Txt K mg) {n : Nat} (G_is_within : FnOk P w K mg base CX0 (n + 3) (A_is_within K) (fdOf K (A_is_within K)) ["thing", "boxes", "lists", "deep"] (spWi n)) : FnOk P w K mg base CX0 (n + 4) (A_is_within K) (fdOf K (A_is_within K)) ["thing", "boxes", "lists", "deep"] (spWi (n + 1)) := by
  have G_is_plain : FnOk P w K mg base CX0 2 (A_is_plain K) (fdOf K (A_is_plain K)) ["thing", "boxes", "lists"] spPla := ok_pla T
  have G_is_one_of : FnOk P w K mg base CX0 1 (A_is_one_of K) (fdOf K (A_is_one_of K)) ["thing", "names"] spOne := ok_one T
  have G_values_in : FnOk P w K mg base CX0 1 (A_values_in K) (fdOf K (A_values_in K)) ["word"] spVin := ok_vin T
  refine T.d_is_within.ok sc_wi (fun vs H Q E h => ?_) (fun cdv A outer s H vs Q E hr h => ?_)
  · obtain ⟨q, bx, ls, v, rfl, _⟩ := h
    rfl
  · obtain ⟨a, bx, ls, v, rfl, ⟨ys, ha, hv⟩, hn, q⟩ := h
    refine ⟨_, (pss_cons (ps_if (PW.pt (pw_or (pt_cmpR op_eq (pv 3) pe_int (nomark _)) (pw_or (pt_not (pt_val (pe_callB call_isi (by rfl) T.f_isinstance (by decide +kernel) (pa_cons (pv 0) (pa_cons (pe_bltn (v := .ty "tuple") (by rfl) T.f_tuple (by decide +kernel) rfl) pa_nil))))) (pw_or (pt_cmpR op_eq (pe_callB call_len_seq (by rfl) T.f_len PySem.boot_len (pa_cons (pv 0) pa_nil)) pe_int (nomark _)) (pw_or1 (pt_not (pt_val (pe_callB call_isi (by rfl) T.f_isinstance (by decide +kernel) (pa_cons (pe_ix ix_tup (pv 0) pe_int (fun _ _ => rfl)) (pa_cons (pe_bltn (v := .ty "str") (by rfl) T.f_str (by decide +kernel) rfl) pa_nil)))))))))) (pss_one (ps_ret pe_bl))
        pss_nil)
      (pss_cons (ps_set (i := 4) sc_wi.nd rfl (.inl rfl) (pe_call G_values_in (hr.mono (by omega)) rfl T.g_values_in T.d_values_in.kp (b_values_in T) .nil pass0 (pa_cons (pe_ix ix_tup (pv 0) pe_int (fun _ _ => rfl)) pa_nil)))
      (pss_cons (ps_if (pt_cmpR op_eq (pv 4) pe_int (nomark _)) (pss_one (ps_ret (pe_call G_is_plain (hr.mono (by omega)) rfl T.g_is_plain T.d_is_plain.kp (b_is_plain T) .nil pass0 (pa_cons (pv 0) (pa_cons (pv 1) (pa_cons (pv 2) pa_nil))))))
        pss_nil)
      (pss_cons (ps_set (i := 5) sc_wi.nd rfl (.inl rfl) (pe_slice sl_tup (pv 0) (po_some pe_int) po_none))
      (pss_cons (ps_if (pt_cmpR op_eq (pe_ix ix_tup (pv 0) pe_int (fun _ _ => rfl)) pe_str (nomark _)) (pss_cons (ps_if (PW.pt (pw_or (pt_cmpR op_ne (pe_callB call_len_seq (by rfl) T.f_len PySem.boot_len (pa_cons (pv 0) pa_nil)) pe_int (nomark _)) (pw_or1 (pt_not (pt_val (pe_call G_is_one_of (hr.mono (by omega)) rfl T.g_is_one_of T.d_is_one_of.kp (b_is_one_of T) .nil pass0 (pa_cons (pe_ix ix_tup (pv 0) pe_int (fun _ _ => rfl)) (pa_cons (pv 2) pa_nil)))))))) (pss_one (ps_ret pe_bl))
          pss_nil)
        (pss_one (ps_set (i := 5) sc_wi.nd rfl (.inl rfl) (pe_slice sl_tup (pv 0) (po_some pe_int) po_none))))
        pss_nil)
      (pss_cons (ps_if (PW.pt (pw_or (pt_cmpR op_isN (pv 4) pe_non (nomark _)) (pw_or1 (pt_cmpR op_ne (pe_callB call_len_seq (by rfl) T.f_len PySem.boot_len (pa_cons (pv 5) pa_nil)) (pv 4) (nomark _))))) (pss_one (ps_ret pe_bl))
        pss_nil)
      (pss_cons (ps_for PassesOwn.never rfl (pi_tup (pv 5)) (pg_name (i := 6) sc_wi.nd rfl (.inl rfl))
        (pss_one (ps_if (pt_not (pt_val (pe_call G_is_within (hr.mono (by omega)) rfl T.g_is_within T.d_is_within.kp (b_is_within T) .nil pass0 (pa_cons (pv 6) (pa_cons (pv 1) (pa_cons (pv 2) (pa_cons (pe_op op_sub (pv 3) pe_int) pa_nil))))))) (pss_one (ps_ret pe_bl))
          pss_nil)))
      (pss_one (ps_ret pe_bl))))))))), ?_⟩
    cases v with
    | num =>
      have e : ys = _ := hv
      subst e
      refine ⟨_, rfl, rfl, _, rfl, itF (decide_eq_false fun z => by injection z; omega) ?_⟩
      refine ⟨_, rfl, .ref a, .ty "tuple", _, _, true, rfl, .ty "tuple", isi_tup ha, kit_ty rfl, true, rfl, itF rfl ?_⟩
      refine ⟨_, rfl, a, _, rfl, .inr (SqT.of ha), rfl, _, rfl, itF (int_ne (by show (2 : Int) ≠ 0; decide)) ?_⟩
      refine ⟨_, rfl, a, _, 0, .str "number", rfl, rfl, SqT.of ha, atI_nat (j := 0) rfl, .str "number", .ty "str", _, _, true, rfl, .ty "str", .base (.str _), kit_ty rfl, true, rfl, iteF ?_⟩
      refine ⟨_, rfl, a, _, 0, .str "number", rfl, rfl, SqT.of ha, atI_nat (j := 0) rfl, "number", rfl, _, .inl ⟨.inl rfl, rfl⟩, fun H1 S1 => ?_⟩
      have ha1 := S1 _ _ ha
      refine ⟨_, rfl, rfl, _, rfl, itT rfl ?_⟩
      have z := q H1 S1
      rw [decide_eq_true (by show 1 ≤ n + 1; omega)] at z
      exact ⟨_, rfl, _, rfl, _, rfl, a, bx, ls, .num, rfl, ⟨_, ha1, rfl⟩, rfl, hn.same S1, z⟩
    | box =>
      have e : ys = _ := hv
      subst e
      refine ⟨_, rfl, rfl, _, rfl, itF (decide_eq_false fun z => by injection z; omega) ?_⟩
      refine ⟨_, rfl, .ref a, .ty "tuple", _, _, true, rfl, .ty "tuple", isi_tup ha, kit_ty rfl, true, rfl, itF rfl ?_⟩
      refine ⟨_, rfl, a, _, rfl, .inr (SqT.of ha), rfl, _, rfl, itF (int_ne (by show (2 : Int) ≠ 0; decide)) ?_⟩
      refine ⟨_, rfl, a, _, 0, .str "box", rfl, rfl, SqT.of ha, atI_nat (j := 0) rfl, .str "box", .ty "str", _, _, true, rfl, .ty "str", .base (.str _), kit_ty rfl, true, rfl, iteF ?_⟩
      refine ⟨_, rfl, a, _, 0, .str "box", rfl, rfl, SqT.of ha, atI_nat (j := 0) rfl, "box", rfl, _, .inl ⟨.inr (.inl rfl), rfl⟩, fun H1 S1 => ?_⟩
      have ha1 := S1 _ _ ha
      refine ⟨_, rfl, rfl, _, rfl, itT rfl ?_⟩
      have z := q H1 S1
      rw [decide_eq_true (by show 1 ≤ n + 1; omega)] at z
      exact ⟨_, rfl, _, rfl, _, rfl, a, bx, ls, .box, rfl, ⟨_, ha1, rfl⟩, rfl, hn.same S1, z⟩
    | size =>
      have e : ys = _ := hv
      subst e
      refine ⟨_, rfl, rfl, _, rfl, itF (decide_eq_false fun z => by injection z; omega) ?_⟩
      refine ⟨_, rfl, .ref a, .ty "tuple", _, _, true, rfl, .ty "tuple", isi_tup ha, kit_ty rfl, true, rfl, itF rfl ?_⟩
      refine ⟨_, rfl, a, _, rfl, .inr (SqT.of ha), rfl, _, rfl, itF (int_ne (by show (2 : Int) ≠ 0; decide)) ?_⟩
      refine ⟨_, rfl, a, _, 0, .str "size", rfl, rfl, SqT.of ha, atI_nat (j := 0) rfl, .str "size", .ty "str", _, _, true, rfl, .ty "str", .base (.str _), kit_ty rfl, true, rfl, iteF ?_⟩
      refine ⟨_, rfl, a, _, 0, .str "size", rfl, rfl, SqT.of ha, atI_nat (j := 0) rfl, "size", rfl, _, .inl ⟨.inr (.inr rfl), rfl⟩, fun H1 S1 => ?_⟩
      have ha1 := S1 _ _ ha
      refine ⟨_, rfl, rfl, _, rfl, itT rfl ?_⟩
      have z := q H1 S1
      rw [decide_eq_true (by show 1 ≤ n + 1; omega)] at z
      exact ⟨_, rfl, _, rfl, _, rfl, a, bx, ls, .size, rfl, ⟨_, ha1, rfl⟩, rfl, hn.same S1, z⟩
    | nt v1 =>
      obtain ⟨q1, ys1, e, h1, hv1⟩ := hv
      subst e
      refine ⟨_, rfl, rfl, _, rfl, itF (decide_eq_false fun z => by injection z; omega) ?_⟩
      refine ⟨_, rfl, .ref a, .ty "tuple", _, _, true, rfl, .ty "tuple", isi_tup ha, kit_ty rfl, true, rfl, itF rfl ?_⟩
      refine ⟨_, rfl, a, _, rfl, .inr (SqT.of ha), rfl, _, rfl, itF (int_ne (by show (2 : Int) ≠ 0; decide)) ?_⟩
      refine ⟨_, rfl, a, _, 0, .str "not", rfl, rfl, SqT.of ha, atI_nat (j := 0) rfl, .str "not", .ty "str", _, _, true, rfl, .ty "str", .base (.str _), kit_ty rfl, true, rfl, iteF ?_⟩
      refine ⟨_, rfl, a, _, 0, .str "not", rfl, rfl, SqT.of ha, atI_nat (j := 0) rfl, "not", rfl, _, .inr (.inl ⟨.inl rfl, rfl⟩), fun H1 S1 => ?_⟩
      have ha1 := S1 _ _ ha
      refine ⟨_, rfl, rfl, _, rfl, itF rfl ?_⟩
      refine ⟨_, rfl, _, rfl, a, _, rfl, SqT.of ha1, no_whole2, fun pt hpt => ?_⟩
      rw [show cutV [V.str "not", .ref q1] (some 1) none = [.ref q1] from cut_one]
      have S2 := same_trans_new (o := .tup [.ref q1]) S1 hpt
      have ha2 := S2 _ _ ha
      refine ⟨_, rfl, a, _, 0, .str "not", rfl, rfl, SqT.of ha2, atI_nat (j := 0) rfl, rfl, _, rfl, itF (by decide +kernel) ?_⟩
      refine ⟨_, rfl, rfl, _, rfl, itF rfl ?_⟩
      refine ⟨_, rfl, pt, _, rfl, .inr (SqT.of upd_same), _, rfl, rfl, _, rfl, itF (int_nn (m := 1)) ?_⟩
      have hall : (Vl.nt v1).deep ≤ n + 1 ↔ ∀ z ∈ ([(q1, v1)] : List (Addr × Vl)), z.2.deep ≤ n := by
        constructor
        · intro h z hz
          rw [List.mem_singleton.mp hz]
          exact Nat.le_of_succ_le_succ h
        · intro h
          exact Nat.succ_le_succ (h _ (List.mem_singleton.mpr rfl))
      have hpt : (upd H1 pt (.tup [.ref q1])) pt = some (.tup (([(q1, v1)] : List (Addr × Vl)).map fun z => V.ref z.1)) := upd_same
      have hps : ∀ z ∈ ([(q1, v1)] : List (Addr × Vl)), VlP (upd H1 pt (.tup [.ref q1])) z.2 z.1 := fun z hz => by rw [List.mem_singleton.mp hz]; exact ⟨_, S2 _ _ h1, hv1.mono (ts_same S2)⟩
      refine ⟨_, rfl, pt, rfl, ⟨_, SqT.of hpt⟩, for_tup (K := K) (a := pt) (xs := ([(q1, v1)] : List (Addr × Vl)).map fun z => V.ref z.1) (fun i σ H' => Same (upd H1 pt (.tup [.ref q1])) H' ∧ (∃ s6, σ = [some (.ref a), some (.ref bx), some (.ref ls), some (.int ((n + 1 : Nat) : Int)), some (.int 1), some (.ref pt), s6]) ∧
        ∀ z ∈ ([(q1, v1)] : List (Addr × Vl)).take i, z.2.deep ≤ n) ⟨fun _ _ h => h, ⟨_, rfl⟩, fun z h => nomatch h⟩ (fun i σ H' _ ⟨S, _⟩ => SqT.of (S _ _ hpt)) ?_ ?_⟩
      · rintro i y σ H' hy ⟨S, ⟨s6, rfl⟩, hd⟩
        rw [List.getElem?_map] at hy
        cases e : ([(q1, v1)] : List (Addr × Vl))[i]? with
        | none => rw [e] at hy; cases hy
        | some z =>
          rw [e] at hy
          have ey : y = V.ref z.1 := (Option.some.inj hy).symm
          subst ey
          have hm := List.mem_of_getElem? e
          refine ⟨_, rfl, _, rfl, _, rfl, _, rfl, _, _, rfl, rfl, z.1, bx, ls, z.2, congrArg (fun t => [V.ref z.1, V.ref bx, V.ref ls, V.int t]) (show (((n + 1 : Nat) : Int) - 1) = (n : Int) by omega), (hps z hm).mono (ts_same S), hn.same (S2.trans S), fun H9 S9 => ?_⟩
          refine ⟨_, rfl, ?_⟩
          by_cases c : z.2.deep ≤ n
          · refine itF (by rw [decide_eq_true c]; rfl) ⟨S.trans S9, ⟨_, rfl⟩, ?_⟩
            rw [take_more e]
            intro z' h'
            rcases List.mem_append.mp h' with h' | h'
            · exact hd z' h'
            · rw [List.mem_singleton.mp h']
              exact c
          · refine itT (by rw [decide_eq_false c]; rfl) ?_
            have e2 := q H9 ((S2.trans S).trans S9)
            rw [decide_eq_false fun k => c (hall.mp k z hm)] at e2
            exact e2
      · rintro σ H' ⟨S, ⟨s6, rfl⟩, hd⟩
        rw [List.length_map, List.take_length] at hd
        have e2 := q H' (S2.trans S)
        rw [decide_eq_true (hall.mpr hd)] at e2
        exact e2

    | it v1 =>
      obtain ⟨q1, ys1, e, h1, hv1⟩ := hv
      subst e
      refine ⟨_, rfl, rfl, _, rfl, itF (decide_eq_false fun z => by injection z; omega) ?_⟩
      refine ⟨_, rfl, .ref a, .ty "tuple", _, _, true, rfl, .ty "tuple", isi_tup ha, kit_ty rfl, true, rfl, itF rfl ?_⟩
      refine ⟨_, rfl, a, _, rfl, .inr (SqT.of ha), rfl, _, rfl, itF (int_ne (by show (3 : Int) ≠ 0; decide)) ?_⟩
      refine ⟨_, rfl, a, _, 0, .str "item", rfl, rfl, SqT.of ha, atI_nat (j := 0) rfl, .str "item", .ty "str", _, _, true, rfl, .ty "str", .base (.str _), kit_ty rfl, true, rfl, iteF ?_⟩
      refine ⟨_, rfl, a, _, 0, .str "item", rfl, rfl, SqT.of ha, atI_nat (j := 0) rfl, "item", rfl, _, .inr (.inl ⟨.inr rfl, rfl⟩), fun H1 S1 => ?_⟩
      have ha1 := S1 _ _ ha
      refine ⟨_, rfl, rfl, _, rfl, itF rfl ?_⟩
      refine ⟨_, rfl, _, rfl, a, _, rfl, SqT.of ha1, no_whole3, fun p0 hp0 => ?_⟩
      rw [show cutV [V.str "item", .str "l", .ref q1] (some 1) none = [.str "l", .ref q1] from cut_one]
      have S2 := same_trans_new (o := .tup [.str "l", .ref q1]) S1 hp0
      have ha2 := S2 _ _ ha
      generalize upd H1 p0 (.tup [.str "l", .ref q1]) = H2 at *
      refine ⟨_, rfl, a, _, 0, .str "item", rfl, rfl, SqT.of ha2, atI_nat (j := 0) rfl, rfl, _, rfl, itT (by decide +kernel) ?_⟩
      refine ⟨_, rfl, a, _, rfl, .inr (SqT.of ha2), rfl, _, rfl, itF (int_nn (m := 3)) ?_⟩
      refine ⟨_, rfl, a, _, 1, .str "l", rfl, rfl, SqT.of ha2, atI_nat (j := 1) rfl, _, rfl, "l", ls, rfl, S2 _ _ hn.2, ?_⟩
      refine ⟨_, rfl, iteF ?_⟩
      refine ⟨_, rfl, _, rfl, a, _, rfl, SqT.of ha2, no_whole3', fun pt hpt => ?_⟩
      rw [show cutV [V.str "item", .str "l", .ref q1] (some 2) none = [.ref q1] from cut_two]
      have S3 := same_trans_new (o := .tup [.ref q1]) S2 hpt
      refine ⟨_, rfl, rfl, _, rfl, itF rfl ?_⟩
      refine ⟨_, rfl, pt, _, rfl, .inr (SqT.of upd_same), _, rfl, rfl, _, rfl, itF (int_nn (m := 1)) ?_⟩
      have hall : (Vl.it v1).deep ≤ n + 1 ↔ ∀ z ∈ ([(q1, v1)] : List (Addr × Vl)), z.2.deep ≤ n := by
        constructor
        · intro h z hz
          rw [List.mem_singleton.mp hz]
          exact Nat.le_of_succ_le_succ h
        · intro h
          exact Nat.succ_le_succ (h _ (List.mem_singleton.mpr rfl))
      have hpt : (upd H2 pt (.tup [.ref q1])) pt = some (.tup (([(q1, v1)] : List (Addr × Vl)).map fun z => V.ref z.1)) := upd_same
      have hps : ∀ z ∈ ([(q1, v1)] : List (Addr × Vl)), VlP (upd H2 pt (.tup [.ref q1])) z.2 z.1 := fun z hz => by rw [List.mem_singleton.mp hz]; exact ⟨_, S3 _ _ h1, hv1.mono (ts_same S3)⟩
      refine ⟨_, rfl, pt, rfl, ⟨_, SqT.of hpt⟩, for_tup (K := K) (a := pt) (xs := ([(q1, v1)] : List (Addr × Vl)).map fun z => V.ref z.1) (fun i σ H' => Same (upd H2 pt (.tup [.ref q1])) H' ∧ (∃ s6, σ = [some (.ref a), some (.ref bx), some (.ref ls), some (.int ((n + 1 : Nat) : Int)), some (.int 1), some (.ref pt), s6]) ∧
        ∀ z ∈ ([(q1, v1)] : List (Addr × Vl)).take i, z.2.deep ≤ n) ⟨fun _ _ h => h, ⟨_, rfl⟩, fun z h => nomatch h⟩ (fun i σ H' _ ⟨S, _⟩ => SqT.of (S _ _ hpt)) ?_ ?_⟩
      · rintro i y σ H' hy ⟨S, ⟨s6, rfl⟩, hd⟩
        rw [List.getElem?_map] at hy
        cases e : ([(q1, v1)] : List (Addr × Vl))[i]? with
        | none => rw [e] at hy; cases hy
        | some z =>
          rw [e] at hy
          have ey : y = V.ref z.1 := (Option.some.inj hy).symm
          subst ey
          have hm := List.mem_of_getElem? e
          refine ⟨_, rfl, _, rfl, _, rfl, _, rfl, _, _, rfl, rfl, z.1, bx, ls, z.2, congrArg (fun t => [V.ref z.1, V.ref bx, V.ref ls, V.int t]) (show (((n + 1 : Nat) : Int) - 1) = (n : Int) by omega), (hps z hm).mono (ts_same S), hn.same (S3.trans S), fun H9 S9 => ?_⟩
          refine ⟨_, rfl, ?_⟩
          by_cases c : z.2.deep ≤ n
          · refine itF (by rw [decide_eq_true c]; rfl) ⟨S.trans S9, ⟨_, rfl⟩, ?_⟩
            rw [take_more e]
            intro z' h'
            rcases List.mem_append.mp h' with h' | h'
            · exact hd z' h'
            · rw [List.mem_singleton.mp h']
              exact c
          · refine itT (by rw [decide_eq_false c]; rfl) ?_
            have e2 := q H9 ((S3.trans S).trans S9)
            rw [decide_eq_false fun k => c (hall.mp k z hm)] at e2
            exact e2
      · rintro σ H' ⟨S, ⟨s6, rfl⟩, hd⟩
        rw [List.length_map, List.take_length] at hd
        have e2 := q H' (S3.trans S)
        rw [decide_eq_true (hall.mpr hd)] at e2
        exact e2

    | pl v1 v2 =>
      obtain ⟨q1, q2, ys1, ys2, e, h1, hv1, h2, hv2⟩ := hv
      subst e
      refine ⟨_, rfl, rfl, _, rfl, itF (decide_eq_false fun z => by injection z; omega) ?_⟩
      refine ⟨_, rfl, .ref a, .ty "tuple", _, _, true, rfl, .ty "tuple", isi_tup ha, kit_ty rfl, true, rfl, itF rfl ?_⟩
      refine ⟨_, rfl, a, _, rfl, .inr (SqT.of ha), rfl, _, rfl, itF (int_ne (by show (3 : Int) ≠ 0; decide)) ?_⟩
      refine ⟨_, rfl, a, _, 0, .str "plus", rfl, rfl, SqT.of ha, atI_nat (j := 0) rfl, .str "plus", .ty "str", _, _, true, rfl, .ty "str", .base (.str _), kit_ty rfl, true, rfl, iteF ?_⟩
      refine ⟨_, rfl, a, _, 0, .str "plus", rfl, rfl, SqT.of ha, atI_nat (j := 0) rfl, "plus", rfl, _, .inr (.inr ⟨rfl, rfl⟩), fun H1 S1 => ?_⟩
      have ha1 := S1 _ _ ha
      refine ⟨_, rfl, rfl, _, rfl, itF rfl ?_⟩
      refine ⟨_, rfl, _, rfl, a, _, rfl, SqT.of ha1, no_whole3, fun pt hpt => ?_⟩
      rw [show cutV [V.str "plus", .ref q1, .ref q2] (some 1) none = [.ref q1, .ref q2] from cut_one]
      have S2 := same_trans_new (o := .tup [.ref q1, .ref q2]) S1 hpt
      have ha2 := S2 _ _ ha
      refine ⟨_, rfl, a, _, 0, .str "plus", rfl, rfl, SqT.of ha2, atI_nat (j := 0) rfl, rfl, _, rfl, itF (by decide +kernel) ?_⟩
      refine ⟨_, rfl, rfl, _, rfl, itF rfl ?_⟩
      refine ⟨_, rfl, pt, _, rfl, .inr (SqT.of upd_same), _, rfl, rfl, _, rfl, itF (int_nn (m := 2)) ?_⟩
      have hall : (Vl.pl v1 v2).deep ≤ n + 1 ↔ ∀ z ∈ ([(q1, v1), (q2, v2)] : List (Addr × Vl)), z.2.deep ≤ n := by
        have e : (Vl.pl v1 v2).deep = max v1.deep v2.deep + 1 := rfl
        rw [e]
        constructor
        · intro h z hz
          rcases List.mem_cons.mp hz with rfl | hz
          · exact Nat.le_trans (Nat.le_max_left _ _) (Nat.le_of_succ_le_succ h)
          · rw [List.mem_singleton.mp hz]
            exact Nat.le_trans (Nat.le_max_right _ _) (Nat.le_of_succ_le_succ h)
        · intro h
          have a1 := h (q1, v1) List.mem_cons_self
          have a2 := h (q2, v2) (List.mem_cons_of_mem _ (List.mem_singleton.mpr rfl))
          exact Nat.succ_le_succ (Nat.max_le.mpr ⟨a1, a2⟩)
      have hpt : (upd H1 pt (.tup [.ref q1, .ref q2])) pt = some (.tup (([(q1, v1), (q2, v2)] : List (Addr × Vl)).map fun z => V.ref z.1)) := upd_same
      have hps : ∀ z ∈ ([(q1, v1), (q2, v2)] : List (Addr × Vl)), VlP (upd H1 pt (.tup [.ref q1, .ref q2])) z.2 z.1 := fun z hz => by
        rcases List.mem_cons.mp hz with rfl | hz
        · exact ⟨_, S2 _ _ h1, hv1.mono (ts_same S2)⟩
        · rw [List.mem_singleton.mp hz]
          exact ⟨_, S2 _ _ h2, hv2.mono (ts_same S2)⟩
      refine ⟨_, rfl, pt, rfl, ⟨_, SqT.of hpt⟩, for_tup (K := K) (a := pt) (xs := ([(q1, v1), (q2, v2)] : List (Addr × Vl)).map fun z => V.ref z.1) (fun i σ H' => Same (upd H1 pt (.tup [.ref q1, .ref q2])) H' ∧ (∃ s6, σ = [some (.ref a), some (.ref bx), some (.ref ls), some (.int ((n + 1 : Nat) : Int)), some (.int 2), some (.ref pt), s6]) ∧
        ∀ z ∈ ([(q1, v1), (q2, v2)] : List (Addr × Vl)).take i, z.2.deep ≤ n) ⟨fun _ _ h => h, ⟨_, rfl⟩, fun z h => nomatch h⟩ (fun i σ H' _ ⟨S, _⟩ => SqT.of (S _ _ hpt)) ?_ ?_⟩
      · rintro i y σ H' hy ⟨S, ⟨s6, rfl⟩, hd⟩
        rw [List.getElem?_map] at hy
        cases e : ([(q1, v1), (q2, v2)] : List (Addr × Vl))[i]? with
        | none => rw [e] at hy; cases hy
        | some z =>
          rw [e] at hy
          have ey : y = V.ref z.1 := (Option.some.inj hy).symm
          subst ey
          have hm := List.mem_of_getElem? e
          refine ⟨_, rfl, _, rfl, _, rfl, _, rfl, _, _, rfl, rfl, z.1, bx, ls, z.2, congrArg (fun t => [V.ref z.1, V.ref bx, V.ref ls, V.int t]) (show (((n + 1 : Nat) : Int) - 1) = (n : Int) by omega), (hps z hm).mono (ts_same S), hn.same (S2.trans S), fun H9 S9 => ?_⟩
          refine ⟨_, rfl, ?_⟩
          by_cases c : z.2.deep ≤ n
          · refine itF (by rw [decide_eq_true c]; rfl) ⟨S.trans S9, ⟨_, rfl⟩, ?_⟩
            rw [take_more e]
            intro z' h'
            rcases List.mem_append.mp h' with h' | h'
            · exact hd z' h'
            · rw [List.mem_singleton.mp h']
              exact c
          · refine itT (by rw [decide_eq_false c]; rfl) ?_
            have e2 := q H9 ((S2.trans S).trans S9)
            rw [decide_eq_false fun k => c (hall.mp k z hm)] at e2
            exact e2
      · rintro σ H' ⟨S, ⟨s6, rfl⟩, hd⟩
        rw [List.length_map, List.take_length] at hd
        have e2 := q H' (S2.trans S)
        rw [decide_eq_true (hall.mpr hd)] at e2
        exact e2

end
end Rt
end S_RtVal

section S_RtZip
set_option Elab.async false
set_option linter.all false
set_option maxRecDepth 100000
set_option maxHeartbeats 4000000
/-! zip of a list and a tuple -/
namespace Rt
open PySem PySem.Spec PyProof.Rows L2
/-- a list at a, a tuple at b, the things of both in new pairs -/
def ItM (K : PySem.W.Frag) (a b : Addr) : It where
  go i H := ∃ (xs ys : List V) (x y : V), SqL K H a xs ∧ SqT K H b ys ∧ xs[i]? = some x ∧ ys[i]? = some y
  yld i H v H' := ∃ p x y, v = .ref p ∧ H p = none ∧ H' = upd H p (.tup [x, y]) ∧ (∀ xs, SqL K H a xs → xs[i]? = some x) ∧ ∀ ys, SqT K H b ys → ys[i]? = some y
  stop i H := ∃ xs ys : List V, SqL K H a xs ∧ SqT K H b ys ∧ i ≤ xs.length ∧ i ≤ ys.length ∧ (i = xs.length ∨ i = ys.length)
/-- the five cells of the zip, as they stand at turn i -/
def MSt (z c1 c2 j1 j2 a b : Addr) (i : Nat) (h : Heap) : Prop :=
  IsZip h z c1 c2 .none ∧ IsPair h c1 (.ref j1) (.ref j2) ∧ (∃ x y, IsPair h c2 x y) ∧ h.IsListIter j1 a i ∧ h.IsTupleIter j2 b i
theorem apart2 {z c1 c2 j1 j2 a b : Addr} (D : ZipApart z c1 c2 j1 j2 a b) : ZipSep2 z c1 c2 j1 j2 [j1, a] [j2, b] where
  TIz := D.TIz
  TOz := D.TOz
  TITO := D.TITO
  TIi1 := D.TIi1
  mem1 := List.mem_cons_self
  zf1 := by
    intro q
    rcases List.mem_cons.mp q with q | q
    · exact D.i1z q.symm
    · exact D.l1z (List.mem_singleton.mp q).symm
  Tf1 := by
    intro q
    rcases List.mem_cons.mp q with q | q
    · exact D.TOi1 q
    · exact D.l1TO (List.mem_singleton.mp q).symm
  TIi2 := D.TIi2
  mem2 := List.mem_cons_self
  zf2 := by
    intro q
    rcases List.mem_cons.mp q with q | q
    · exact D.i2z q.symm
    · exact D.l2z (List.mem_singleton.mp q).symm
  Tf2 := by
    intro q
    rcases List.mem_cons.mp q with q | q
    · exact D.TOi2 q
    · exact D.l2TO (List.mem_singleton.mp q).symm
  sep1_2 := by
    intro q
    rcases List.mem_cons.mp q with q | q
    · exact D.i12 q
    · exact D.l2i1 (List.mem_singleton.mp q).symm
  sep2_1 := by
    intro q
    rcases List.mem_cons.mp q with q | q
    · exact D.i12 q.symm
    · exact D.l1i2 (List.mem_singleton.mp q).symm
theorem mem5 {P : Addr → Prop} {a b c d e : Addr} (ha : P a) (hb : P b) (hc : P c) (hd : P d) (he : P e) : ∀ x ∈ [a, b, c, d, e], P x := by
  intro x hx
  rcases List.mem_cons.mp hx with rfl | hx
  · exact ha
  rcases List.mem_cons.mp hx with rfl | hx
  · exact hb
  rcases List.mem_cons.mp hx with rfl | hx
  · exact hc
  rcases List.mem_cons.mp hx with rfl | hx
  · exact hd
  · rw [List.mem_singleton.mp hx]
    exact he
theorem out5 {a b c d e x : Addr} (h : x ∉ [a, b, c, d, e]) : x ≠ a ∧ x ≠ b ∧ x ≠ c ∧ x ≠ d ∧ x ≠ e := by
  simp only [List.mem_cons, List.not_mem_nil, or_false, not_or] at h
  exact h
theorem turnM {P : Program} {w : World} {K : PySem.W.Frag} {elts : List Expr} {kk : Nat} {tpos : Pos} {a b z c1 c2 j1 j2 : Addr} (D : ZipApart z c1 c2 j1 j2 a b) :
    Turn P w K (.Tuple elts kk tpos) (ItM K a b) [z, c1, c2, j1, j2] z (MSt z c1 c2 j1 j2 a b) where
  mem := List.mem_cons_self
  obj := fun i h st => by
    obtain ⟨hz, h1, ⟨x, y, h2⟩, ⟨o1, e1, _, d1⟩, ⟨o2, e2, _, d2⟩⟩ := st
    exact mem5 ⟨_, hz, fun v q => nomatch q⟩ ⟨_, h1, fun v q => nomatch q⟩ ⟨_, h2, fun v q => nomatch q⟩ ⟨o1, e1, fun v q => by rw [d1] at q; cases q⟩ ⟨o2, e2, fun v q => by rw [d2] at q; cases q⟩
  keep := fun i h h' st k => by
    obtain ⟨hz, h1, ⟨x, y, h2⟩, h3, h4⟩ := st
    exact ⟨k z (by simp) _ hz, k c1 (by simp) _ h1, ⟨x, y, k c2 (by simp) _ h2⟩, h3.at fun o q => k j1 (by simp) o q, h4.at fun o q => k j2 (by simp) o q⟩
  item := by
    intro X hP hw hK hc i pins s σ H E I hf st hg
    subst hP hw hK
    obtain ⟨hz, h1, ⟨x0, y0, h2⟩, h3, h4⟩ := st
    obtain ⟨xs, ys, x, y, hqx, hqy, hx, hy⟩ := hg
    obtain ⟨its, rv, p, _⟩ := I.list hqx
    obtain ⟨its2, rv2, p2, _⟩ := I.tuple hqy
    obtain ⟨u, hu, ru⟩ := rv.get hx
    obtain ⟨u2, hu2, ru2⟩ := rv2.get hy
    have hzl : z < s.heap.objs.size := Heap.lt_size hz
    have hh : X.A.in1.handled = none := I.ok.hd hc
    have l1 : i < its.toArray.size := by
      rw [List.size_toArray]
      exact (List.getElem?_eq_some_iff.mp hu).1
    have l2 : i < its2.toArray.size := by
      rw [List.size_toArray]
      exact (List.getElem?_eq_some_iff.mp hu2).1
    refine wpAny_pyNext_zipD2_item (apart2 D) (Draws.list hh j1 a D.l1i1 its.toArray) (Draws.tuple hh j2 b D.l2i2 its2.toArray) hz h1 h2 ⟨h3, p.isList⟩ ⟨h4, p2⟩ l1 l2 fun v1 v2 h' tk e1 e2 z' t' s1 s2 new hsz hk => ?_
    have ev1 : u = v1 := by
      have q : its.toArray[i]? = some u := by simpa using hu
      exact Option.some.inj (q.symm.trans e1)
    have ev2 : u2 = v2 := by
      have q : its2.toArray[i]? = some u2 := by simpa using hu2
      exact Option.some.inj (q.symm.trans e2)
    subst ev1 ev2
    refine ⟨_, rfl, wpAny_letOwnedTupleGo_zip (s := { s with heap := h', toks := tk }) z' fun h'' z'' sb => ?_⟩
    have new2 : h''.get? s.heap.objs.size = some { cls := .type "tuple", data := .seq #[u, u2] } := (sb.2 _ (Nat.ne_of_gt hzl)).trans new
    have okn : ObjOk X.prog X.w (upd H s.heap.objs.size (.tup [x, y])) h'' s.heap.objs.size (.tup [x, y]) := ⟨by show 2 ≤ sizeLine; decide, [u, u2], .cons ru (.cons ru2 .nil), ⟨_, new2, rfl, _, rfl⟩⟩
    have keeps : ∀ c o, c ∉ [z, c1, c2, j1, j2] → s.heap.get? c = some o → h''.get? c = some o := fun c o hb q => by
      obtain ⟨n1, _, n3, n4, n5⟩ := out5 hb
      exact (sb.2 c n1).trans (hk c o n1 n3 n4 n5 q)
    have I1 := I.turnedNew (t' := tk) (ch := [z, c1, c2, j1, j2]) keeps hf (Nat.le_refl _) okn
    refine ⟨.ref s.heap.objs.size, _, I1, rfl, ⟨_, x, y, rfl, I.hok.fresh (Nat.le_refl _), rfl, fun l hl => ?_, fun l hl => ?_⟩, ⟨z'', (sb.2 _ D.TIz).trans (hk _ _ D.TIz D.TITO D.TIi1 D.TIi2 h1), ⟨u, u2, (sb.2 _ D.TOz).trans t'⟩,
      s1.1.at fun o q => (sb.2 _ D.i1z).trans q, s2.1.at fun o q => (sb.2 _ D.i2z).trans q⟩, fun c hcm => ?_⟩
    · rw [I.list_inj hl hqx]
      exact hx
    · rw [I.tuple_inj hl hqy]
      exact hy
    · have hlt : c < s.heap.objs.size := by
        obtain ⟨_, e3, _⟩ := h3
        obtain ⟨_, e4, _⟩ := h4
        exact mem5 (P := fun c => c < s.heap.objs.size) hzl (Heap.lt_size h1) (Heap.lt_size h2) (Heap.lt_size e3) (Heap.lt_size e4) c hcm
      rw [upd_ne (Nat.ne_of_lt hlt)]
      exact (hf c hcm).1
  done := by
    intro X hP hw hK hc i pins s σ H E I hf st hg
    subst hP hw hK
    obtain ⟨hz, h1, ⟨x0, y0, h2⟩, h3, h4⟩ := st
    obtain ⟨xs, ys, hqx, hqy, le1, le2, hend⟩ := hg
    obtain ⟨its, rv, p, _⟩ := I.list hqx
    obtain ⟨its2, rv2, p2, _⟩ := I.tuple hqy
    have q1 : its.toArray.size = xs.length := by rw [List.size_toArray, rv.length]
    have q2 : its2.toArray.size = ys.length := by rw [List.size_toArray, rv2.length]
    have hh : X.A.in1.handled = none := I.ok.hd hc
    refine wpAny_pyNext_zipD2_end (apart2 D) (Draws.list hh j1 a D.l1i1 its.toArray) (Draws.tuple hh j2 b D.l2i2 its2.toArray) hz h1 h2 ⟨h3, p.isList⟩ ⟨h4, p2⟩ (by rw [q1]; exact le1) (by rw [q2]; exact le2) (by rw [q1, q2]; exact hend) fun h' tk hk => ?_
    exact ⟨rfl, I.turnedL (t' := tk) (ch := [z, c1, c2, j1, j2]) (fun c o hb q => by
      obtain ⟨n1, _, n3, n4, n5⟩ := out5 hb
      exact hk c o n1 n3 n4 n5 q) hf⟩
  self := fun A i s Q E st h => wpAny_pyIter_zip st.1 h
/-- zip(xs, t) -/
def iZipM (K : PySem.W.Frag) (ta : TA) : TI := fun σ H R => ta σ H fun vs H1 => ∃ a b xs ys, vs = [V.ref a, V.ref b] ∧ SqL K H1 a xs ∧ SqT K H1 b ys ∧ R (ItM K a b) H1
theorem pi_zipM {X : Cx} {e e2 : Expr} {ta : TA} {p pos tpos : Pos} {elts : List Expr} {kk : Nat} (hg : Gl X "zip") (hm : X.mg "zip" = none) (ha : PA X [e, e2] ta)
    (hs : starEach [e, e2] X.env = (false, eval e X.env) :: starEach [e2] X.env := by rfl) (hpl : (backTo pos (starEach [e2] X.env)).any (·.1) = false := by rfl) :
    PI X (.Tuple elts kk tpos) (.Call (.Name "zip" p) [e, e2] [] pos) (iZipM X.K ta) := by
  refine ⟨fun pins s σ H R I h => Call_ (ld_blt I hg hm PyProof.Rows.boot_zip (PyProof.Rows.callWith_type1 (thn (ha.run pos pins s σ H _ I h) fun us s1 q0 => ?_) hs hpl))⟩
  obtain ⟨vs, H1, I1, r1, a, b, xs, ys, rfl, hqx, hqy, q⟩ := q0
  obtain ⟨u1, u2, rfl, ra, rb⟩ := vals2 r1
  obtain rfl : u1 = Value.ref a := ra
  obtain rfl : u2 = Value.ref b := rb
  obtain ⟨its, rv, p1, _⟩ := I1.list hqx
  obtain ⟨its2, rv2, p2, _⟩ := I1.tuple hqy
  have p2' : s1.heap.IsTuple b its2.toArray := p2
  obtain ⟨o2, ho2, _⟩ := id p2'
  refine zip_begins2 (begins_list a its.toArray) (begins_tuple b its2.toArray) p1.isList p2' fun h' hz h1 h2 g1 g2 hsz hk => wpAny_pyIter_zip hz ?_
  have I2 : Inv X pins σ H1 { s1 with heap := h' } := I1.kept (t' := s1.toks) hk
  have new : ∀ c, s1.heap.objs.size ≤ c → FpOk X pins H1 c := fun c hle => I1.fpOk hle (I1.hok.fresh hle)
  have five : ∀ c ∈ [s1.heap.objs.size + 4, s1.heap.objs.size + 2, s1.heap.objs.size + 3, s1.heap.objs.size, s1.heap.objs.size + 1], FpOk X pins H1 c :=
    mem5 (new _ (Nat.le_add_right _ _)) (new _ (Nat.le_add_right _ _)) (new _ (Nat.le_add_right _ _)) (new _ (Nat.le_refl _)) (new _ (Nat.le_add_right _ _))
  have D := PySem.W.ktu_apart s1.heap.objs.size a b p1.lt (Heap.lt_size ho2)
  exact ⟨_, _, _, _, H1, rfl, I2, turnM D, ⟨hz, h1, ⟨_, _, h2⟩, ⟨_, g1, rfl, rfl⟩, ⟨_, g2, rfl, rfl⟩⟩, five, q⟩
/-- a loop over it, both of one length -/
theorem for_zipM {K : PySem.W.Frag} {a b : Addr} {xs ys : List V} {g : TG} {tb : TS} {D : Ends} {σ : L2.St} {H : Hp} (hl : xs.length = ys.length) (Pv : Nat → L2.St → Hp → Prop) (h0 : Pv 0 σ H) (hq : ∀ i σ H, Pv i σ H → SqL K H a xs ∧ SqT K H b ys)
    (hs : ∀ (i : Nat) (x y : V) (p : Addr) (σ : L2.St) (H : Hp), xs[i]? = some x → ys[i]? = some y → Pv i σ H → H p = none → g (.ref p) σ (upd H p (.tup [x, y])) fun σ2 H2 => tb { D with nx := Pv (i + 1), ct := Pv (i + 1), bk := D.nx } σ2 H2)
    (hd : ∀ σ H, Pv xs.length σ H → D.nx σ H) :
    ∃ W : Nat → Nat → L2.St → Hp → Prop, (∃ m, W 0 m σ H) ∧ ∀ i m σ H, W i m σ H →
      ((ItM K a b).stop i H ∧ D.nx σ H) ∨ ((ItM K a b).go i H ∧ ∃ N : L2.St → Hp → Prop, (∀ σ' H', N σ' H' → ∃ m', m' < m ∧ W (i + 1) m' σ' H') ∧
        ∀ v H', (ItM K a b).yld i H v H' → g v σ H' fun σ2 H2 => tb { D with nx := N, ct := N, bk := D.nx } σ2 H2) := by
  refine ⟨fun i m σ H => i + m = xs.length ∧ Pv i σ H, ⟨xs.length, by omega, h0⟩, fun i m σ H w0 => ?_⟩
  obtain ⟨em, pv⟩ := w0
  obtain ⟨qx, qy⟩ := hq i σ H pv
  by_cases hlt : i < xs.length
  · have g1 : xs[i]? = some xs[i] := List.getElem?_eq_getElem hlt
    have g2 : ys[i]? = some (ys[i]'(by omega)) := List.getElem?_eq_getElem _
    refine .inr ⟨⟨xs, ys, _, _, qx, qy, g1, g2⟩, Pv (i + 1), fun σ' H' n => ⟨m - 1, by omega, by omega, n⟩, fun v H' hy => ?_⟩
    obtain ⟨p, x', y', rfl, hp, rfl, f1, f2⟩ := hy
    exact hs i x' y' p σ H (f1 xs qx) (f2 ys qy) pv hp
  · obtain rfl : i = xs.length := by omega
    exact .inl ⟨⟨xs, ys, qx, qy, Nat.le_refl _, by omega, .inl rfl⟩, hd σ H pv⟩
end Rt
end S_RtZip

section S_RtSet
set_option Elab.async false
set_option linter.all false
set_option maxRecDepth 100000
/-! len(set(..)) of a list of texts, none of them twice; after the layer's own rule for one text, here for fewer than a hundred. -/
namespace RtS
open PySem PySem.Spec PyProof.Rows
/-- the first i of them are in it -/
abbrev Has (P : Program) (w : World) (h : Heap) (a : Addr) (xs : List Str) (i : Nat) : Prop := h.SetOf (PySem.strKind P w) a (fun y => (xs.take i).any (· == y)) i
theorem has_same {P : Program} {w : World} {h h' : Heap} {a : Addr} {xs : List Str} {i : Nat} (k : ∀ o, h.get? a = some o → h'.get? a = some o) (x : Has P w h a xs i) : Has P w h' a xs i := by
  obtain ⟨o, es, ep, t, ho, more⟩ := x
  exact ⟨o, es, ep, t, k o ho, more⟩
theorem not_before {xs : List Str} (nd : xs.Nodup) {i : Nat} (hi : i < xs.length) : (xs.take i).any (· == xs[i]) = false := by
  cases e : (xs.take i).any (· == xs[i]) with
  | false => rfl
  | true =>
    obtain ⟨y, hy, ey⟩ := List.any_eq_true.mp e
    have ey2 : y = xs[i] := eq_of_beq ey
    subst ey2
    obtain ⟨j, hj, ej⟩ := List.mem_take_iff_getElem.mp hy
    have hj2 : j < i := by omega
    exact absurd ej (List.pairwise_iff_getElem.mp nd j i (by omega) hi hj2)
section
variable {P : Program} {w : World} {A : Around} {R : Result → Shared → Prop} {it : Addr} {fp wr : List Addr} {G : Array GenState → Array GenState → Prop} {n : Nat} {Pv : Nat → Value → Prop} {St : Nat → Shared → Prop}
theorem loopTxt (W : WalksS P w A.in1 it fp wr G n Pv St) (a : Addr) (na : a ∉ fp) (xs : List Str) (nd : xs.Nodup) (hn : xs.length = n) (few : n < 100) (hv : ∀ i v, Pv i v → ∃ t, v = .str (xs.getD i Str.empty) t) :
    ∀ (k i : Nat) (t0 : Shared), n - i = k → i ≤ n → St i t0 → Has P w t0.heap a xs i →
      (∀ t1, Moved (a :: wr) G t0 t1 → Has P w t1.heap a xs n → R (.ok (.ret .none)) t1) →
      codeAny (model P w) A (.builtin "set.update.loop" ⟨[.ref a, .ref it], []⟩) R t0 := by
  have nw : a ∉ wr := fun h => na (W.sub _ h)
  have up : ∀ b ∈ wr, b ∈ a :: wr := fun b hb => List.mem_cons_of_mem _ hb
  intro k
  induction k with
  | zero =>
    intro i t0 hk hi st hS q
    obtain rfl : i = n := by omega
    refine codeAny_builtin F.entry_set_update_loop ?_
    rw [Around.under_plainId F.plain_set_update_loop _]
    refine wpAny_bind (m := pyNext (.ref it)) (W.done t0 _ _ st fun t1 mv => ?_)
    exact wpAny_pure (q t1 (mv.mono up) (has_same (fun o e => mv.heap a _ nw e) hS))
  | succ k ih =>
    intro i t0 hk hi st hS q
    have lt : i < n := by omega
    have ltx : i < xs.length := by omega
    refine codeAny_builtin F.entry_set_update_loop ?_
    rw [Around.under_plainId F.plain_set_update_loop _]
    refine wpAny_bind (m := pyNext (.ref it)) (W.item i t0 _ _ lt st fun v t1 pv st1 mv => ?_)
    obtain ⟨u, rfl⟩ := hv i v pv
    have ex : xs.getD i Str.empty = xs[i] := by
      rw [List.getD_eq_getElem?_getD, List.getElem?_eq_getElem ltx]
      rfl
    rw [ex]
    have hS1 : Has P w t1.heap a xs i := has_same (fun o e => mv.heap a _ nw e) hS
    refine wpAny_bind (m := holding [Value.str xs[i] u] (setAdd a (.str xs[i] u))) (wpAny_holding ?_)
    unfold setAdd
    refine wpAny_holding (wpAny_bind ((PySem.strKind P w).pyHash (k := xs[i]) (strKind_is _ _ _ _) ?_))
    refine wpAny_setAddHashed_of (knd := PySem.strKind P w) (s := { t1 with toks := t1.toks + 1 }) (strKind_is _ _ _ _) rfl hS1 (by unfold scanBound; omega) fun h2 sb hS2 => ?_
    have hS3 : Has P w h2 a xs (i + 1) := by
      refine SetOf_congr hS2 (fun y => ?_) ?_
      · show ((xs.take i).any (· == y) || decide (y = xs[i])) = (xs.take (i + 1)).any (· == y)
        rw [List.take_add_one, List.getElem?_eq_getElem ltx, List.any_append]
        congr 1
        show decide (y = xs[i]) = ((xs[i] == y) || false)
        by_cases e : y = xs[i]
        · rw [e]
          simp
        · have e2 : (xs[i] == y) = false := beq_eq_false_iff_ne.mpr fun z => e z.symm
          rw [e2, decide_eq_false e]
          rfl
      · rw [not_before nd ltx]
        rfl
    refine wpAny_pure ⟨plainId_quiet F.plain_set_update_loop _, ih (i + 1) _ (by omega) lt (W.frame _ t1 _ _ st1 (Nat.le_succ _) fun b hb o e => ?_) hS3 fun t3 mv3 hS4 => ?_⟩
    · exact (sb.2 b fun z => na (z ▸ hb)).trans e
    · exact q t3 (Moved.trans W.gtrans ((mv.mono up).then_heap (Nat.le_succ _) fun b o hb e => (sb.2 b fun z => hb (z ▸ List.mem_cons_self)).trans e) mv3) hS4
end
/-- the new set -/
def sNew (led : Bool) : Obj := { cls := .type "set", dict := none, data := .set #[] 0 (.fresh 0 0 led) }
section
variable {P : Program} {w : World} {A : Around} {E : Value → Shared → Prop} {t0 : Shared}
set_option maxHeartbeats 3200000 in
theorem call_setT {l : Addr} {items : Array Value} {xs : List Str} {Q : Value → Shared → Prop} (hh : A.handled = none) (hl : t0.heap.IsList l items) (hi : StrsAre items.toList xs) (nd : xs.Nodup) (few : xs.length < 100)
    (q : ∀ (h2 : Heap) (k : Nat), Has P w h2 t0.heap.objs.size xs items.size → (∀ b o, b < t0.heap.objs.size → t0.heap.get? b = some o → h2.get? b = some o) → Q (.ref t0.heap.objs.size) { t0 with heap := h2, toks := k }) :
    wpAny (model P w) A (call (.type "set") [.ref l]) Q E t0 := by
  obtain ⟨c, tl, hmro⟩ := PySem.F.called_set.mro
  have z1 := PySem.F.called_set.made
  have z2 := PySem.F.called_set.sub
  refine wpAny_call (codeAny_of_tree ?_)
  show wpAny _ _ (callAny (.type "set") _) _ _ _
  refine wpAny_pure ⟨Code.quiet_builtin _ (by decide +kernel), codeAny_builtin PySem.F.entry_type_call ?_⟩
  rw [Around.under_plain (weight_type_call_type "set" [.ref l] []) rfl]
  have z3 := PySem.F.called_set.notType
  have z4 := PySem.F.called_set.canCreate
  have z5 := PySem.F.typeCall_set_1 (.ref l)
  repeat (any_goals (first | assumption | wp_step))
  refine codeAny_mono (code_set_new_1 (.ref l) (E := E) (Q₁ := fun v t1 => ∃ led : Bool, v = .ref t0.heap.objs.size ∧ t1 = { t0 with heap := t0.heap.push (sNew led) }) fun led => ⟨led, rfl, rfl⟩) fun r t1 hr => ?_
  cases r with
  | error e => exact hr
  | ok fl =>
    cases fl with
    | ret v =>
      obtain ⟨led, rfl, rfl⟩ := hr
      have gS : (t0.heap.push (sNew led)).get? t0.heap.objs.size = some (sNew led) := Heap.get?_push_size _ rfl
      have tS : Shared.TypeIs { t0 with heap := t0.heap.push (sNew led) } (.ref t0.heap.objs.size) "set" := ⟨_, gS, rfl⟩
      have z6 := PySem.F.called_set.init.lookup
      have z7 := PySem.F.called_set.init.bind (.ref t0.heap.objs.size)
      repeat (any_goals (first | assumption | wp_step))
      refine codeAny_mono (codeAny_call_builtin (R := wants (fun r t2 => r = .none ∧ ∃ h2 k, t2 = { t0 with heap := h2, toks := k } ∧ Has P w h2 t0.heap.objs.size xs items.size ∧
          (∀ b o, b < t0.heap.objs.size → t0.heap.get? b = some o → h2.get? b = some o)) E) PySem.F.called_set.init.plain PySem.F.entry_set_init (check_set_init_1 tS ?_)) fun r2 t2 hr2 => ?_
      · obtain ⟨⟨ocls, odict, odata, oslots⟩, hol, hcl, nl, hdl⟩ := hl
        simp only at hcl hdl
        subst hcl; subst hdl
        have gl : (t0.heap.push (sNew led)).get? l = some { cls := .type "list", dict := odict, data := .seq items nl, slots := oslots } := Heap.get?_push_of_some _ hol
        have z8 := PySem.F.sub_list_set
        have z9 := PySem.F.sub_list_frozenset
        have z10 : (Value.type "list" == Value.type "dict") = false := by decide
        have isl : (t0.heap.push (sNew led)).IsList l items := ⟨_, gl, rfl, nl, rfl⟩
        unfold Builtin.«set.__init__» noKeywords Builtin.Frozenset.updateFrom
        generalize hPI : pyIter = PI
        wp_walk
        subst hPI
        refine wpAny_pyIter_list isl (wpAny_bind (wpAny_runValue ?_))
        have ll : l < t0.heap.objs.size := Heap.lt_size hol
        have h3 : A.in1.in1.in1.handled = none := by simp [hh]
        have hs : (t0.heap.push (sNew led)).objs.size = t0.heap.objs.size + 1 := by rw [Heap.size_push]
        have nI : l ≠ (t0.heap.push (sNew led)).objs.size := by rw [hs]; exact Nat.ne_of_lt (Nat.lt_succ_of_lt ll)
        have nf : t0.heap.objs.size ∉ [(t0.heap.push (sNew led)).objs.size, l] := by
          rw [hs]
          intro z
          rcases List.mem_cons.mp z with z | z
          · exact absurd z (Nat.ne_of_lt (Nat.lt_succ_self _))
          · exact absurd (List.mem_singleton.mp z) (Nat.ne_of_gt ll)
        have hx : xs.length = items.size := by rw [← StrsAre.len_eq hi, Array.length_toList]
        refine loopTxt ((Walks.list h3 _ l nI items).toS) t0.heap.objs.size nf xs nd hx (by omega) (fun i v e => SS.strs_at hi i v (by rw [Array.getElem?_toList]; exact e)) (items.size - 0) 0 _ (by omega) (Nat.zero_le _)
          ⟨⟨_, Heap.get?_push_size _ rfl, rfl, rfl⟩, (isl.push _)⟩ ?first ?last
        case first =>
          have g2 : ((t0.heap.push (sNew led)).push { cls := .type "list_iterator", data := .fields #[.ref l, .int 0 0] }).get? t0.heap.objs.size = some (sNew led) := Heap.get?_push_of_some _ gS
          exact SetOf_congr ((setObjOf_fresh (knd := PySem.strKind P w) led).setOf g2 (by unfold scanBound; omega)) (fun _ => rfl) rfl
        case last =>
          rintro ⟨h2, g2, d2, k2, os2⟩ mv hS
          obtain rfl : g2 = t0.gens := mv.gens
          obtain rfl : d2 = t0.drawn := mv.drawn
          obtain rfl : os2 = t0.os := mv.os
          refine wpAny_pure (wpAny_pure ⟨rfl, h2, k2, rfl, hS, fun b o hb e => ?_⟩)
          refine mv.heap b o ?_ (Heap.get?_push_of_some _ (Heap.get?_push_of_some _ e))
          intro z
          rcases List.mem_cons.mp z with z | z
          · exact absurd z (Nat.ne_of_lt hb)
          · rw [List.mem_singleton.mp z] at hb
            have hb' : (t0.heap.push (sNew led)).objs.size < t0.heap.objs.size := hb
            rw [hs] at hb'
            omega
      · cases r2 with
        | error e => exact hr2
        | ok fl2 =>
          cases fl2 with
          | ret r =>
            obtain ⟨rfl, h2, k, rfl, hS, hk⟩ := hr2
            repeat (any_goals (first | assumption | wp_step))
            exact q _ _ hS hk
          | _ => exact hr2.elim
    | _ => exact hr.elim
end
end RtS
end S_RtSet

section S_RtSet2
set_option Elab.async false
set_option linter.all false
set_option maxRecDepth 100000
/-! the rule of len(set(..)) of texts -/
namespace Rt
open PySem PySem.Spec PyProof.Rows L2
def tLenSetT (K : PySem.W.Frag) (ta : TE) : TE := fun σ H Q => ta σ H fun x H1 => ∃ (l : Addr) (xs : List Str), x = .ref l ∧ SqL K H1 l (xs.map V.str) ∧ xs.Nodup ∧ xs.length < 100 ∧ Q (.int ((xs.length : Nat) : Int)) H1
theorem pe_lenSetT {X : Cx} {a : Expr} {ta : TE} {p p2 p3 pos : Pos} (hg : Gl X "len") (hm : X.mg "len" = none) (hg2 : Gl X "set") (hm2 : X.mg "set" = none) (ha : PE X a ta) (hc : X.calm = true := by rfl)
    (na : starEach [a] X.env = (false, eval a X.env) :: starEach [] X.env := by rfl) : PE X (.Call (.Name "len" p) [.Call (.Name "set" p2) [a] [] p3] [] pos) (tLenSetT X.K ta) := by
  constructor
  intro pins s σ H Q I h
  refine Call_ (ld_blt I hg hm boot_len (PyProof.Rows.callWith_builtin1 (PyProof.Rows.args_cons ?_ rfl) rfl rfl))
  refine Call_ (ld_blt I hg2 hm2 boot_set (PyProof.Rows.callWith_type1 (PyProof.Rows.args_cons (thn (ha.run pins s σ H _ I h) fun v s1 q0 => PyProof.Rows.args_nil ?_) na) na rfl))
  obtain ⟨x, H1, I1, r1, l, xs, rfl, hq, nd, few, q⟩ := q0
  obtain rfl : v = Value.ref l := r1
  obtain ⟨its, rv, pl, _⟩ := I1.list hq
  have es : its.toArray.size = xs.length := by rw [List.size_toArray, ← rv.length, List.length_map]
  refine RtS.call_setT (I1.ok.hd hc) pl.isList (by simpa using strsAre_of rv) nd few fun h2 k hS hk => PyProof.Rows.args_nil ?_
  rw [es] at hS
  obtain ⟨o, es, ep, t, ho, hex, hd, _, _, _, hf, hn⟩ := hS
  have I2 : Inv X pins σ H1 { s1 with heap := h2, toks := k } := I1.kept fun b o e => hk b o (Heap.lt_size e) e
  exact call_len_set ho hex hd hf (by rw [hn] <;> omega) ⟨.int xs.length, H1, I2.tok _, ⟨_, by rw [hn]⟩, q⟩
end Rt
end S_RtSet2

section S_RtParts
set_option Elab.async false
set_option linter.all false
set_option maxRecDepth 100000
set_option maxHeartbeats 4000000
/-! parts_of -/
namespace Rt
open PySem PySem.Spec PyProof.Rows L2
/-! ### lists of new parts, dicts of such lists -/
def PtP (H : Hp) (C i : Addr) : Prop := ∃ dx, H i = some (.ins C dx [])
def PtsP (H : Hp) : List Addr → List V → Prop
  | [], xs => xs = []
  | C :: Cs, xs => ∃ i ys, xs = V.ref i :: ys ∧ PtP H C i ∧ PtsP H Cs ys
theorem PtsP.mono {H H' : Hp} (k : ∀ a C dx, H a = some (.ins C dx []) → H' a = some (.ins C dx [])) : ∀ {Cs : List Addr} {xs : List V}, PtsP H Cs xs → PtsP H' Cs xs
  | [], _, h => h
  | C :: Cs, _, ⟨i, ys, e, ⟨dx, h1⟩, h2⟩ => ⟨i, ys, e, ⟨dx, k _ _ _ h1⟩, PtsP.mono k h2⟩
theorem PtsP.len {H : Hp} : ∀ {Cs : List Addr} {xs : List V}, PtsP H Cs xs → xs.length = Cs.length
  | [], _, h => by
    have e : _ = [] := h
    rw [e]; rfl
  | C :: Cs, _, ⟨i, ys, e, _, h2⟩ => by rw [e, List.length_cons, List.length_cons, PtsP.len h2]
def tMkA (Cs : List Addr) : TA := fun _ H Q => ∀ H' xs, Same H H' → PtsP H' Cs xs → Q xs H'
def tMkL (Cs : List Addr) : TE := fun _ H Q => ∀ H' l xs, Same H H' → H l = none → H' l = some (.lst xs) → PtsP H' Cs xs → Q (.ref l) H'
section
variable {X : Cx} {e : Expr} {es : List Expr} {C : Addr} {Cs : List Addr} {pos : Pos}
theorem pa_mkN : PA X [] (tMkA []) := ⟨fun pos pins s σ H Q I h => pa_nil.run pos pins s σ H Q I (h H [] (fun _ _ e => e) rfl)⟩
theorem pa_mkC (he : PE X e (tMk0 C)) (ha : PA X es (tMkA Cs)) (hs : starEach (e :: es) X.env = (false, eval e X.env) :: starEach es X.env := by rfl) : PA X (e :: es) (tMkA (C :: Cs)) := by
  refine ⟨fun pos pins s σ H Q I h => (pa_cons he ha hs).run pos pins s σ H Q I fun x dx hx hd ne => fun H' xs S p => ?_⟩
  have S1 : Same H (upd (upd H dx (.own x)) x (.ins C dx [])) := sover (same_new hd) hx
  exact h H' _ (S1.trans S) ⟨x, xs, rfl, ⟨dx, S _ _ upd_same⟩, p⟩
theorem pe_mkL (ha : PA X es (tMkA Cs)) (hl : Cs.length ≤ 3) : PE X (.List es pos) (tMkL Cs) := by
  refine ⟨fun pins s σ H Q I h => (pe_lst ha).run pins s σ H Q I fun H' xs S p => ⟨Nat.le_trans (by rw [p.len]; exact hl) (show 3 ≤ sizeLine by decide), fun l hl0 => ?_⟩⟩
  exact h _ l xs (same_trans_new S hl0) (S.free hl0) upd_same (p.mono fun a C dx e => upk e hl0)
end
/-- a dict's lists of parts -/
def DsP (H : Hp) : List (Str × List Addr) → List (Key × V) → Prop
  | [], kvs => kvs = []
  | p :: r, kvs => ∃ l xs more, kvs = ((.inr p.1 : Key), V.ref l) :: more ∧ H l = some (.lst xs) ∧ PtsP H p.2 xs ∧ DsP H r more
theorem DsP.mono {H H' : Hp} (k1 : ∀ a xs, H a = some (.lst xs) → H' a = some (.lst xs)) (k2 : ∀ a C dx, H a = some (.ins C dx []) → H' a = some (.ins C dx [])) : ∀ {ks : List (Str × List Addr)} {kvs : List (Key × V)}, DsP H ks kvs → DsP H' ks kvs
  | [], _, h => h
  | p :: r, _, ⟨l, xs, more, e, h1, h2, h3⟩ => ⟨l, xs, more, e, k1 _ _ h1, h2.mono k2, DsP.mono k1 k2 h3⟩
theorem DsP.same {H H' : Hp} (S : Same H H') {ks : List (Str × List Addr)} {kvs : List (Key × V)} (h : DsP H ks kvs) : DsP H' ks kvs := h.mono (fun a xs e => S a _ e) fun a C dx e => S a _ e
theorem DsP.len {H : Hp} : ∀ {ks : List (Str × List Addr)} {kvs : List (Key × V)}, DsP H ks kvs → kvs.length = ks.length
  | [], _, h => by
    have e : _ = [] := h
    rw [e]; rfl
  | p :: r, _, ⟨l, xs, more, e, _, _, h3⟩ => by rw [e, List.length_cons, List.length_cons, DsP.len h3]
def trsOf (ks : List (Str × List Addr)) : List (TE × TE) := ks.map fun p => (tC (.str p.1), tMkL p.2)
theorem mk_pairs {σ : L2.St} : ∀ {ks : List (Str × List Addr)} {H : Hp} {Q : List (V × V) → Hp → Prop}, (∀ H' kvs, Same H H' → DsP H' ks kvs → Q (kvs.map fun kv => (kV kv.1, kv.2)) H') → tPairs (trsOf ks) σ H Q
  | [], H, Q, h => h H [] (fun _ _ e => e) rfl
  | p :: r, H, Q, h => by
    show ∀ H' l xs, Same H H' → H l = none → H' l = some (.lst xs) → PtsP H' p.2 xs → tPairs (trsOf r) σ H' fun ps H3 => Q ((.str p.1, .ref l) :: ps) H3
    intro H' l xs S _ hl hp
    refine mk_pairs fun H2 kvs S2 d => ?_
    exact h H2 (((.inr p.1 : Key), .ref l) :: kvs) (S.trans S2) ⟨l, xs, kvs, rfl, S2 _ _ hl, hp.mono fun a C dx e => S2 _ _ e, d⟩
def tMkD (ks : List (Str × List Addr)) : TE := fun _ H Q => ∀ H' d kvs, Same H H' → H d = none → H' d = some (.dK (mergeK [] kvs)) → DsP H' ks kvs → Q (.ref d) H'
theorem pe_mkD {X : Cx} {pos : Pos} {keys : List (Option Expr)} {values : List Expr} {ks : List (Str × List Addr)} (h : PPs X pos keys values (trsOf ks)) (few : ks.length ≤ 15) (hall : keys.all (·.isSome) = true) (hl : keys.length = values.length) (h0 : keys ≠ [])
    (h15 : keys.length ≤ 15) : PE X (.Dict keys values pos) (tMkD ks) := by
  refine ⟨fun pins s σ H Q I q => (pe_disp h hall hl h0 h15).run pins s σ H Q I fun d hd => mk_pairs fun H' kvs S p => ⟨S _ _ upd_same, kvs, rfl, by rw [p.len]; exact few, ?_⟩⟩
  have hd' : H' d = some (.dK []) := S _ _ upd_same
  exact q _ d kvs (sover ((same_new hd).trans S) hd) hd upd_same (p.mono (fun a xs e => upx e hd' (by intro z; cases z)) fun a C dx e => upx e hd' (by intro z; cases z))
def D1 (a b c : V) : List (Key × V) := mergeK [] [((.inr "tell" : Key), a), (.inr "fail", b), (.inr "return", c)]
def D2 (a b c d : V) : List (Key × V) := putK (mergeK [] [((.inr "set" : Key), a), (.inr "pop", b), (.inr "ask", c)]) (.inr "call") d
def D3 (a b : V) : List (Key × V) := mergeK [] [((.inr "push" : Key), a), (.inr "put", b)]
def D4 (a b c : V) : List (Key × V) := putK (mergeK [] [((.inr "if" : Key), a), (.inr "while", b)]) (.inr "try") c
theorem d1_tell (a b c : V) : valV (D1 a b c) (.inr "tell" : Key) = some a := by kernel_rfl
theorem d4_if (a b c : V) : valV (D4 a b c) (.inr "if" : Key) = some a := by kernel_rfl
theorem d4_while (a b c : V) : valV (D4 a b c) (.inr "while" : Key) = some b := by kernel_rfl
theorem d4_try (a b c : V) : valV (D4 a b c) (.inr "try" : Key) = some c := by kernel_rfl
theorem d_none (z : Str) (h : z = "if" ∨ z = "while" ∨ z = "try") (a b c d : V) : valV (D1 a b c) (.inr z : Key) = none ∧ valV (D2 a b c d) (.inr z : Key) = none ∧ valV (D3 a b) (.inr z : Key) = none := by
  rcases h with rfl | rfl | rfl <;> exact ⟨by kernel_rfl, by kernel_rfl, by kernel_rfl⟩
section
variable {P : Program} {w : World} {K : PySem.W.Frag} {mg : Str → Option Value} {base : Heap}
/-- the parts of the rows that the law's programs have -/
def wordC (K : PySem.W.Frag) (z : Str) (Cs : List Addr) : Prop := (z = "tell" ∧ Cs = [C_ValuePart K]) ∨ (z = "if" ∧ Cs = [C_ValuePart K, C_RowsPart K, C_RowsPart K]) ∨ (z = "while" ∧ Cs = [C_ValuePart K, C_RowsPart K]) ∨
  (z = "try" ∧ Cs = [C_RowsPart K, C_BoxPart K, C_RowsPart K])
def spPo (K : PySem.W.Frag) : Sp := fun vs H Q _ => ∃ z Cs, vs = [.str z] ∧ wordC K z Cs ∧ ∀ H' l xs, Same H H' → H' l = some (.lst xs) → PtsP H' Cs xs → Q (.ref l) H'
theorem sc_po : FnScope ["word", "plain", "boxed", "listed", "around", "some"] ["word"] (defScope S_parts_of) := ⟨rfl, rfl, rfl, by decide +kernel, rfl, by decide +kernel, by decide +kernel⟩
theorem ok_po (T : Txt K mg) : FnOk P w K mg base CX0 1 (A_parts_of K) (fdOf K (A_parts_of K)) ["word"] (spPo K) := by
  refine T.d_parts_of.ok sc_po (fun vs H Q E h => ?_) (fun cdv A outer s H vs Q E hr h => ?_)
  · obtain ⟨z, Cs, rfl, _⟩ := h
    rfl
  · obtain ⟨z, Cs, rfl, hz, q⟩ := h
    refine ⟨_, (pss_cons (ps_set (i := 1) sc_po.nd rfl (.inl rfl) (pe_mkD (ks := [("tell", [C_ValuePart K]), ("fail", [C_ValuePart K]), ("return", [C_ValuePart K])]) (pps_cons pe_str (pe_mkL (pa_mkC (by exact (pe_mk0 T.p_ValuePart T.g_ValuePart rfl)) pa_mkN) (Nat.le_of_ble_eq_true rfl)) (pps_cons pe_str (pe_mkL (pa_mkC (by exact (pe_mk0 T.p_ValuePart T.g_ValuePart rfl)) pa_mkN) (Nat.le_of_ble_eq_true rfl)) (pps_cons pe_str (pe_mkL (pa_mkC (by exact (pe_mk0 T.p_ValuePart T.g_ValuePart rfl)) pa_mkN) (Nat.le_of_ble_eq_true rfl)) pps_nil))) (Nat.le_of_ble_eq_true rfl) (by rfl) (by rfl) (fun z => by cases z) (by decide)))
      (pss_cons (ps_set (i := 2) sc_po.nd rfl (.inl rfl) (pe_mkD (ks := [("set", [C_BoxPart K, C_ValuePart K]), ("pop", [C_BoxPart K, C_ListPart K]), ("ask", [C_BoxPart K, C_DoorPart K])]) (pps_cons pe_str (pe_mkL (pa_mkC (by exact (pe_mk0 T.p_BoxPart T.g_BoxPart rfl)) (pa_mkC (by exact (pe_mk0 T.p_ValuePart T.g_ValuePart rfl)) pa_mkN)) (Nat.le_of_ble_eq_true rfl)) (pps_cons pe_str (pe_mkL (pa_mkC (by exact (pe_mk0 T.p_BoxPart T.g_BoxPart rfl)) (pa_mkC (by exact (pe_mk0 T.p_ListPart T.g_ListPart rfl)) pa_mkN)) (Nat.le_of_ble_eq_true rfl)) (pps_cons pe_str (pe_mkL (pa_mkC (by exact (pe_mk0 T.p_BoxPart T.g_BoxPart rfl)) (pa_mkC (by exact (pe_mk0 T.p_DoorPart T.g_DoorPart rfl)) pa_mkN)) (Nat.le_of_ble_eq_true rfl)) pps_nil))) (Nat.le_of_ble_eq_true rfl) (by rfl) (by rfl) (fun z => by cases z) (by decide)))
      (pss_cons (ps_dput (hu_of hr) (pv 2) pe_str (pe_mkL (pa_mkC (by exact (pe_mk0 T.p_BoxPart T.g_BoxPart rfl)) (pa_mkC (by exact (pe_mk0 T.p_FunctionPart T.g_FunctionPart rfl)) (pa_mkC (by exact (pe_mk0 T.p_ValuesPart T.g_ValuesPart rfl)) pa_mkN))) (Nat.le_of_ble_eq_true rfl)) rfl)
      (pss_cons (ps_set (i := 3) sc_po.nd rfl (.inl rfl) (pe_mkD (ks := [("push", [C_ListPart K, C_ValuePart K]), ("put", [C_ListPart K, C_ValuePart K, C_ValuePart K])]) (pps_cons pe_str (pe_mkL (pa_mkC (by exact (pe_mk0 T.p_ListPart T.g_ListPart rfl)) (pa_mkC (by exact (pe_mk0 T.p_ValuePart T.g_ValuePart rfl)) pa_mkN)) (Nat.le_of_ble_eq_true rfl)) (pps_cons pe_str (pe_mkL (pa_mkC (by exact (pe_mk0 T.p_ListPart T.g_ListPart rfl)) (pa_mkC (by exact (pe_mk0 T.p_ValuePart T.g_ValuePart rfl)) (pa_mkC (by exact (pe_mk0 T.p_ValuePart T.g_ValuePart rfl)) pa_mkN))) (Nat.le_of_ble_eq_true rfl)) pps_nil)) (Nat.le_of_ble_eq_true rfl) (by rfl) (by rfl) (fun z => by cases z) (by decide)))
      (pss_cons (ps_set (i := 4) sc_po.nd rfl (.inl rfl) (pe_mkD (ks := [("if", [C_ValuePart K, C_RowsPart K, C_RowsPart K]), ("while", [C_ValuePart K, C_RowsPart K])]) (pps_cons pe_str (pe_mkL (pa_mkC (by exact (pe_mk0 T.p_ValuePart T.g_ValuePart rfl)) (pa_mkC (by exact (pe_mk0 T.p_RowsPart T.g_RowsPart rfl)) (pa_mkC (by exact (pe_mk0 T.p_RowsPart T.g_RowsPart rfl)) pa_mkN))) (Nat.le_of_ble_eq_true rfl)) (pps_cons pe_str (pe_mkL (pa_mkC (by exact (pe_mk0 T.p_ValuePart T.g_ValuePart rfl)) (pa_mkC (by exact (pe_mk0 T.p_RowsPart T.g_RowsPart rfl)) pa_mkN)) (Nat.le_of_ble_eq_true rfl)) pps_nil)) (Nat.le_of_ble_eq_true rfl) (by rfl) (by rfl) (fun z => by cases z) (by decide)))
      (pss_cons (ps_dput (hu_of hr) (pv 4) pe_str (pe_mkL (pa_mkC (by exact (pe_mk0 T.p_RowsPart T.g_RowsPart rfl)) (pa_mkC (by exact (pe_mk0 T.p_BoxPart T.g_BoxPart rfl)) (pa_mkC (by exact (pe_mk0 T.p_RowsPart T.g_RowsPart rfl)) pa_mkN))) (Nat.le_of_ble_eq_true rfl)) rfl)
      (pss_cons (ps_for PassesOwn.never rfl (pi_tup (pe_tup (pa_cons (pv 1) (pa_cons (pv 2) (pa_cons (pv 3) (pa_cons (pv 4) pa_nil)))))) (pg_name (i := 5) sc_po.nd rfl (.inl rfl))
        (pss_one (ps_if (pt_cmp (pc_din (hu_of hr) (pv 0) (pv 5)) (by rfl)) (pss_one (ps_ret (pe_dget (hu_of hr) (pv 5) (pv 0) (fun _ _ => rfl))))
          pss_nil)))
      (pss_one (ps_ret pe_non))))))))), ?_⟩
    refine fun H1 d1 kvs1 S1 _ hd1 P1 => ?_
    refine fun H2 d2 kvs2 S2 n2 hd2 P2 => ?_
    refine fun H3 l5 xs5 S3 _ hl5 P5 => ⟨_, rfl, d2, _, rfl, DPut.k (k := (Sum.inr ("call" : Str) : Key)) (S3 _ _ hd2) ?_, ?_⟩
    · refine Nat.lt_of_le_of_lt (length_mergeK _ _) ?_
      rw [P2.len]
      show 0 + 3 < sizeLine
      decide
    have B4 : Same H1 (upd H3 d2 (.dK (putK (mergeK [] kvs2) (.inr "call") (.ref l5)))) := sover (S2.trans S3) n2
    have hd2' : upd H3 d2 (.dK (putK (mergeK [] kvs2) (.inr "call") (.ref l5))) d2 = some (.dK (putK (mergeK [] kvs2) (.inr "call") (.ref l5))) := upd_same
    obtain ⟨e1, e2, e3, e4⟩ : ∃ a b c, kvs2 = [((.inr "set" : Key), V.ref a), (.inr "pop", .ref b), (.inr "ask", .ref c)] := by
      obtain ⟨a, _, _, rfl, _, _, b, _, _, rfl, _, _, c, _, _, rfl, _, _, e⟩ := P2
      have e' : _ = [] := e
      subst e'
      exact ⟨a, b, c, rfl⟩
    subst e4
    change upd H3 d2 (.dK (putK _ (.inr "call") (.ref l5))) d2 = some (.dK (D2 (.ref e1) (.ref e2) (.ref e3) (.ref l5))) at hd2'
    show tSeq _ _ _ _ (upd H3 d2 _)
    generalize upd H3 d2 _ = H4 at *
    refine fun H5 d3 kvs3 S5 n3 hd3 P3 => ?_
    obtain ⟨f1, f2, rfl⟩ : ∃ a b, kvs3 = [((.inr "push" : Key), V.ref a), (.inr "put", .ref b)] := by
      obtain ⟨a, _, _, rfl, _, _, b, _, _, rfl, _, _, e⟩ := P3
      have e' : _ = [] := e
      subst e'
      exact ⟨a, b, rfl⟩
    refine fun H6 d4 kvs4 S6 n4 hd4 P4 => ?_
    refine fun H7 l9 xs9 S7 n9 hl9 P9 => ⟨_, rfl, d4, _, rfl, DPut.k (k := (Sum.inr ("try" : Str) : Key)) (S7 _ _ hd4) ?_, ?_⟩
    · refine Nat.lt_of_le_of_lt (length_mergeK _ _) ?_
      rw [P4.len]
      show 0 + 2 < sizeLine
      decide
    obtain ⟨g1, y1, _, rfl, hg1, Pg1, g2, y2, _, rfl, hg2, Pg2, e⟩ := P4
    have e' : _ = [] := e
    subst e'
    have hd47 := S7 _ _ hd4
    have C1 : Same H1 (upd H7 d4 (.dK (D4 (.ref g1) (.ref g2) (.ref l9)))) := sover ((B4.trans S5).trans (S6.trans S7)) ((B4.trans S5).free n4)
    have C4 : Same H4 (upd H7 d4 (.dK (D4 (.ref g1) (.ref g2) (.ref l9)))) := sover (S5.trans (S6.trans S7)) (S5.free n4)
    have C5 : Same H5 (upd H7 d4 (.dK (D4 (.ref g1) (.ref g2) (.ref l9)))) := sover (S6.trans S7) n4
    have hd48 : upd H7 d4 (.dK (D4 (.ref g1) (.ref g2) (.ref l9))) d4 = some (.dK (D4 (.ref g1) (.ref g2) (.ref l9))) := upd_same
    have k1 : ∀ a xs, H7 a = some (.lst xs) → upd H7 d4 (.dK (D4 (.ref g1) (.ref g2) (.ref l9))) a = some (.lst xs) := fun a xs e => upx e hd47 (by intro z; cases z)
    have k2 : ∀ a C dx, H7 a = some (.ins C dx []) → upd H7 d4 (.dK (D4 (.ref g1) (.ref g2) (.ref l9))) a = some (.ins C dx []) := fun a C dx e => upx e hd47 (by intro z; cases z)
    have hg18 := k1 _ _ (S7 _ _ hg1)
    have hg28 := k1 _ _ (S7 _ _ hg2)
    have hl98 := k1 _ _ hl9
    have Pg18 := Pg1.mono fun a C dx e => k2 _ _ _ (S7 _ _ e)
    have Pg28 := Pg2.mono fun a C dx e => k2 _ _ _ (S7 _ _ e)
    have P98 := P9.mono k2
    show tSeq _ _ _ _ (upd H7 d4 (.dK (D4 (.ref g1) (.ref g2) (.ref l9))))
    generalize upd H7 d4 (.dK (D4 (.ref g1) (.ref g2) (.ref l9))) = H8 at *
    have S8 : Same H H8 := S1.trans C1
    obtain ⟨h1, y3, _, rfl, hh1, Ph1, h2, _, _, rfl, _, _, h3, _, _, rfl, _, _, e⟩ := P1
    have e' : _ = [] := e
    subst e'
    have a1 : H8 d1 = some (.dK (D1 (.ref h1) (.ref h2) (.ref h3))) := C1 _ _ hd1
    have a2 := C4 _ _ hd2'
    have a3 : H8 d3 = some (.dK (D3 (.ref f1) (.ref f2))) := C5 _ _ hd3
    have hh18 := C1 _ _ hh1
    have Ph18 := Ph1.mono fun a C dx e => C1 _ _ e
    clear C1 C4 C5 k1 k2 hd47 S7 S6 S5 B4 n2 n3 n4 n9 hl9 P9 hg1 hg2 Pg1 Pg2 hd2' hh1 Ph1 hd1 hd3 hd4 S1 S2 S3
    refine ⟨_, rfl, _, rfl, _, rfl, _, rfl, (by show 4 ≤ sizeLine; decide), fun t ht => ?_⟩
    have S9 := same_new (o := .tup [.ref d1, .ref d2, .ref d3, .ref d4]) ht
    have hz3 : z = "tell" ∨ (z = "if" ∨ z = "while" ∨ z = "try") := by
      rcases hz with ⟨e, _⟩ | ⟨e, _⟩ | ⟨e, _⟩ | ⟨e, _⟩
      · exact .inl e
      · exact .inr (.inl e)
      · exact .inr (.inr (.inl e))
      · exact .inr (.inr (.inr e))
    refine ⟨t, rfl, ⟨_, SqT.of upd_same⟩, for_tup (K := K) (a := t) (xs := [.ref d1, .ref d2, .ref d3, .ref d4]) (fun i σ H' => H' = upd H8 t (.tup [.ref d1, .ref d2, .ref d3, .ref d4]) ∧ (∃ s5, σ = [some (.str z), some (.ref d1), some (.ref d2), some (.ref d3), some (.ref d4), s5]) ∧ (i ≠ 0 → z = "if" ∨ z = "while" ∨ z = "try") ∧ i < 4)
      ⟨rfl, ⟨_, rfl⟩, fun z => absurd rfl z, by decide⟩ (fun i σ H' _ h => by rw [h.1]; exact SqT.of upd_same) ?_ (fun σ H' h => absurd h.2.2.2 (Nat.lt_irrefl 4))⟩
    rintro i x σ H' hx ⟨rfl, ⟨s5, rfl⟩, hi, hi4⟩
    have fin : ∀ l xs, H8 l = some (.lst xs) → PtsP H8 Cs xs → Q (.ref l) (upd H8 t (.tup [.ref d1, .ref d2, .ref d3, .ref d4])) := fun l xs e p => q _ l xs (S8.trans S9) (S9 _ _ e) (p.mono fun a C dx e => S9 _ _ e)
    have tk : ∀ (d : Addr) (D : List (Key × V)) (l : Addr), H8 d = some (.dK D) → valV D (.inr z : Key) = some (.ref l) → DGet (upd H8 t (.tup [.ref d1, .ref d2, .ref d3, .ref d4])) d (.str z) (some (.ref l)) := fun d D l e v => by
      have g := DGet.k (k := (Sum.inr z : Key)) (S9 _ _ e)
      rw [v] at g
      exact g
    have no : ∀ (d : Addr) (D : List (Key × V)), H8 d = some (.dK D) → valV D (.inr z : Key) = none → DGet (upd H8 t (.tup [.ref d1, .ref d2, .ref d3, .ref d4])) d (.str z) none := fun d D e v => by
      have g := DGet.k (k := (Sum.inr z : Key)) (S9 _ _ e)
      rw [v] at g
      exact g
    match i, hx with
    | 0, hx =>
      obtain rfl : x = V.ref d1 := (Option.some.inj hx).symm
      rcases hz3 with rfl | hw
      · obtain ⟨_, rfl⟩ | ⟨z, _⟩ | ⟨z, _⟩ | ⟨z, _⟩ := hz
        · have g := tk d1 _ h1 a1 (d1_tell _ _ _)
          exact ⟨_, rfl, _, rfl, d1, _, rfl, g, _, rfl, itT rfl ⟨_, rfl, _, rfl, d1, _, rfl, g, fin _ _ hh18 Ph18⟩⟩
        · exact absurd z (by decide +kernel)
        · exact absurd z (by decide +kernel)
        · exact absurd z (by decide +kernel)
      · exact ⟨_, rfl, _, rfl, d1, none, rfl, no d1 _ a1 (d_none z hw _ _ _ (.ref l5)).1, _, rfl, itF rfl ⟨rfl, ⟨_, rfl⟩, fun _ => hw, by decide⟩⟩
    | 1, hx =>
      obtain rfl : x = V.ref d2 := (Option.some.inj hx).symm
      have hw := hi (by decide)
      exact ⟨_, rfl, _, rfl, d2, none, rfl, no d2 _ a2 (d_none z hw _ _ _ _).2.1, _, rfl, itF rfl ⟨rfl, ⟨_, rfl⟩, fun _ => hw, by decide⟩⟩
    | 2, hx =>
      obtain rfl : x = V.ref d3 := (Option.some.inj hx).symm
      have hw := hi (by decide)
      exact ⟨_, rfl, _, rfl, d3, none, rfl, no d3 _ a3 (d_none z hw (.ref f1) (.ref f2) (.ref d1) (.ref d1)).2.2, _, rfl, itF rfl ⟨rfl, ⟨_, rfl⟩, fun _ => hw, by decide⟩⟩
    | 3, hx =>
      obtain rfl : x = V.ref d4 := (Option.some.inj hx).symm
      have hw := hi (by decide)
      rcases hz with ⟨rfl, _⟩ | ⟨rfl, rfl⟩ | ⟨rfl, rfl⟩ | ⟨rfl, rfl⟩
      · exact absurd hw (by decide +kernel)
      · have g := tk d4 _ g1 hd48 (d4_if _ _ _)
        exact ⟨_, rfl, _, rfl, d4, _, rfl, g, _, rfl, itT rfl ⟨_, rfl, _, rfl, d4, _, rfl, g, fin _ _ hg18 Pg18⟩⟩
      · have g := tk d4 _ g2 hd48 (d4_while _ _ _)
        exact ⟨_, rfl, _, rfl, d4, _, rfl, g, _, rfl, itT rfl ⟨_, rfl, _, rfl, d4, _, rfl, g, fin _ _ hg28 Pg28⟩⟩
      · have g := tk d4 _ l9 hd48 (d4_try _ _ _)
        exact ⟨_, rfl, _, rfl, d4, _, rfl, g, _, rfl, itT rfl ⟨_, rfl, _, rfl, d4, _, rfl, g, fin _ _ hl98 P98⟩⟩
    | i + 4, hx => exact absurd hi4 (by omega)
end
end Rt
end S_RtParts

section S_RtRow
set_option Elab.async false
set_option linter.all false
set_option maxRecDepth 100000
set_option maxHeartbeats 4000000
/-! is_value, fits, is_row -/
namespace Rt
open PySem PySem.Spec PyProof.Rows L2
def rok : Rs → Nat → Bool
  | .none, _ => true
  | .tell v, d => decide (d ≤ 5) && decide (v.deep ≤ 4)
  | .ifR a, d => decide (d ≤ 5) && rok a (d + 1)
  | .whR a, d => decide (d ≤ 5) && rok a (d + 1)
  | .tryR a b, d => decide (d ≤ 5) && (rok a (d + 1) && rok b (d + 1))
def fsS (bx ls fn : Addr) : List (Str × V) := [("boxes", .ref bx), ("lists", .ref ls), ("functions", .ref fn), ("inside", .bl false)]
theorem s_lb : (("lists" : Str) == "boxes") = false := by decide +kernel
theorem s_fb : (("functions" : Str) == "boxes") = false := by decide +kernel
theorem s_fl : (("functions" : Str) == "lists") = false := by decide +kernel
theorem s_ib : (("inside" : Str) == "boxes") = false := by decide +kernel
theorem s_il : (("inside" : Str) == "lists") = false := by decide +kernel
theorem s_if : (("inside" : Str) == "functions") = false := by decide +kernel
theorem fsS_boxes {bx ls fn : Addr} : (fsS bx ls fn).lookup ("boxes" : Str) = some (.ref bx) := lk0
theorem fsS_lists {bx ls fn : Addr} : (fsS bx ls fn).lookup ("lists" : Str) = some (.ref ls) := (lk1 s_lb).trans lk0
def ScP (K : PySem.W.Frag) (H : Hp) (sc bx ls : Addr) : Prop := (∃ dx fn, H sc = some (.ins (C_Scope K) dx (fsS bx ls fn))) ∧ NmP H bx ls
theorem ScP.same {K : PySem.W.Frag} {H H' : Hp} {sc bx ls : Addr} (S : Same H H') (h : ScP K H sc bx ls) : ScP K H' sc bx ls :=
  let ⟨⟨dx, fn, e⟩, n⟩ := h
  ⟨⟨dx, fn, S _ _ e⟩, n.same S⟩
section
variable {P : Program} {w : World} {K : PySem.W.Frag} {mg : Str → Option Value} {base : Heap}
theorem ok_wi (T : Txt K mg) : ∀ n, FnOk P w K mg base CX0 (n + 3) (A_is_within K) (fdOf K (A_is_within K)) ["thing", "boxes", "lists", "deep"] (spWi n)
  | 0 => ok_wi0 T
  | n + 1 => ok_wiS T (ok_wi T n)
def spVa : Sp := fun vs H Q _ => ∃ (q bx ls : Addr) (v : Vl), vs = [.ref q, .ref bx, .ref ls] ∧ VlP H v q ∧ NmP H bx ls ∧ ∀ H', Same H H' → Q (.bl (decide (v.deep ≤ 4))) H'
theorem sc_va : FnScope ["thing", "boxes", "lists"] ["thing", "boxes", "lists"] (defScope S_is_value) := ⟨rfl, rfl, rfl, by decide +kernel, rfl, by decide +kernel, by decide +kernel⟩
theorem ok_va (T : Txt K mg) : FnOk P w K mg base CX0 8 (A_is_value K) (fdOf K (A_is_value K)) ["thing", "boxes", "lists"] spVa := by
  have G_is_within : FnOk P w K mg base CX0 7 (A_is_within K) (fdOf K (A_is_within K)) ["thing", "boxes", "lists", "deep"] (spWi 4) := ok_wi T 4
  refine T.d_is_value.ok sc_va (fun vs H Q E h => ?_) (fun cdv A outer s H vs Q E hr h => ?_)
  · obtain ⟨q, bx, ls, v, rfl, _⟩ := h
    rfl
  · obtain ⟨a, bx, ls, v, rfl, hv, hn, q⟩ := h
    refine ⟨_, (pss_one (ps_ret (pe_call G_is_within (hr.mono (by decide)) rfl T.g_is_within T.d_is_within.kp (b_is_within T) .nil pass0 (pa_cons (pv 0) (pa_cons (pv 1) (pa_cons (pv 2) (pa_cons (pe_gi T.i_DEEPEST_values) pa_nil))))))), ?_⟩
    exact ⟨_, rfl, _, rfl, _, rfl, a, bx, ls, v, rfl, hv, hn, q⟩
def spBf (K : PySem.W.Frag) : Sp := fun vs H Q _ => ∃ (a d : V) (sc bx ls : Addr), vs = [a, .str "x", .ref sc, d] ∧ ScP K H sc bx ls ∧ Q (.bl true) H
theorem sc_bf : FnScope ["self", "thing", "scope", "deep"] ["self", "thing", "scope", "deep"] (defScope S_BoxPart_fits) := ⟨rfl, rfl, rfl, by decide +kernel, rfl, by decide +kernel, by decide +kernel⟩
theorem ok_bf (T : Txt K mg) : FnOk P w K mg base CX0 2 (A_BoxPart_fits K) (fdOf K (A_BoxPart_fits K)) ["self", "thing", "scope", "deep"] (spBf K) := by
  have G_is_one_of : FnOk P w K mg base CX0 1 (A_is_one_of K) (fdOf K (A_is_one_of K)) ["thing", "names"] spOne := ok_one T
  refine T.d_BoxPart_fits.ok sc_bf (fun vs H Q E h => ?_) (fun cdv A outer s H vs Q E hr h => ?_)
  · obtain ⟨a, d, sc, bx, ls, rfl, _⟩ := h
    rfl
  · obtain ⟨a, d, sc, bx, ls, rfl, ⟨⟨dx, fn, hs⟩, hn⟩, q⟩ := h
    refine ⟨_, (pss_one (ps_ret (pe_call G_is_one_of (hr.mono (by decide)) rfl T.g_is_one_of T.d_is_one_of.kp (b_is_one_of T) .nil pass0 (pa_cons (pv 1) (pa_cons (pe_fld (pv 2) rfl) pa_nil))))), ?_⟩
    exact ⟨_, rfl, _, rfl, sc, _, dx, _, _, rfl, hs, T.c_Scope, T.n_Scope_boxes, fsS_boxes, "x", bx, rfl, hn.1, q⟩
def spVf (K : PySem.W.Frag) : Sp := fun vs H Q _ => ∃ (a d : V) (q sc bx ls : Addr) (v : Vl), vs = [a, .ref q, .ref sc, d] ∧ VlP H v q ∧ ScP K H sc bx ls ∧ ∀ H', Same H H' → Q (.bl (decide (v.deep ≤ 4))) H'
theorem sc_vf : FnScope ["self", "thing", "scope", "deep"] ["self", "thing", "scope", "deep"] (defScope S_ValuePart_fits) := ⟨rfl, rfl, rfl, by decide +kernel, rfl, by decide +kernel, by decide +kernel⟩
theorem ok_vf (T : Txt K mg) : FnOk P w K mg base CX0 9 (A_ValuePart_fits K) (fdOf K (A_ValuePart_fits K)) ["self", "thing", "scope", "deep"] (spVf K) := by
  have G_is_value : FnOk P w K mg base CX0 8 (A_is_value K) (fdOf K (A_is_value K)) ["thing", "boxes", "lists"] spVa := ok_va T
  refine T.d_ValuePart_fits.ok sc_vf (fun vs H Q E h => ?_) (fun cdv A outer s H vs Q E hr h => ?_)
  · obtain ⟨a, d, q, sc, bx, ls, v, rfl, _⟩ := h
    rfl
  · obtain ⟨a, d, p, sc, bx, ls, v, rfl, hv, ⟨⟨dx, fn, hs⟩, hn⟩, q⟩ := h
    refine ⟨_, (pss_one (ps_ret (pe_call G_is_value (hr.mono (by decide)) rfl T.g_is_value T.d_is_value.kp (b_is_value T) .nil pass0 (pa_cons (pv 1) (pa_cons (pe_fld (pv 2) rfl) (pa_cons (pe_fld (pv 2) rfl) pa_nil)))))), ?_⟩
    exact ⟨_, rfl, _, rfl, sc, _, dx, _, _, rfl, hs, T.c_Scope, T.n_Scope_boxes, fsS_boxes, _, rfl, sc, _, dx, _, _, rfl, hs, T.c_Scope, T.n_Scope_lists, fsS_lists, p, bx, ls, v, rfl, hv, hn, q⟩
/-! ### rows -/
def spRow (K : PySem.W.Frag) (d : Nat) : Sp := fun vs H Q _ => ∃ (p sc bx ls : Addr) (r : Rs), vs = [.ref p, .ref sc, .int (d : Int)] ∧ RsI H r [.ref p] ∧ ScP K H sc bx ls ∧ ∀ H', Same H H' → Q (.bl (rok r d)) H'
def spRf (K : PySem.W.Frag) (d : Nat) : Sp := fun vs H Q _ => ∃ (a : V) (s sc bx ls : Addr) (xs : List V) (r : Rs), vs = [a, .ref s, .ref sc, .int (d : Int)] ∧ H s = some (.tup xs) ∧ RsI H r xs ∧ ScP K H sc bx ls ∧ ∀ H', Same H H' → Q (.bl (rok r (d + 1))) H'
theorem sc_rf : FnScope ["self", "thing", "scope", "deep", "one"] ["self", "thing", "scope", "deep"] (defScope S_RowsPart_fits) := ⟨rfl, rfl, rfl, by decide +kernel, rfl, by decide +kernel, by decide +kernel⟩
theorem rs_one {H : Hp} {r : Rs} {xs : List V} (h : RsI H r xs) : (r = .none ∧ xs = []) ∨ ∃ p, xs = [.ref p] := by
  cases r with
  | none => exact .inl ⟨rfl, h⟩
  | tell v => obtain ⟨p, _, e, _⟩ := h; exact .inr ⟨p, e⟩
  | ifR a => obtain ⟨p, _, _, _, _, e, _⟩ := h; exact .inr ⟨p, e⟩
  | whR a => obtain ⟨p, _, _, _, e, _⟩ := h; exact .inr ⟨p, e⟩
  | tryR a b => obtain ⟨p, _, _, _, _, e, _⟩ := h; exact .inr ⟨p, e⟩
theorem ok_rf (T : Txt K mg) {L d : Nat} (G_is_row : FnOk P w K mg base CX0 L (A_is_row K) (fdOf K (A_is_row K)) ["thing", "scope", "deep"] (spRow K (d + 1))) : FnOk P w K mg base CX0 (L + 1) (A_RowsPart_fits K) (fdOf K (A_RowsPart_fits K)) ["self", "thing", "scope", "deep"] (spRf K d) := by
  refine T.d_RowsPart_fits.ok sc_rf (fun vs H Q E h => ?_) (fun cdv A outer s H vs Q E hr h => ?_)
  · obtain ⟨a, t, sc, bx, ls, xs, r, rfl, _⟩ := h
    rfl
  · obtain ⟨a, t, sc, bx, ls, xs, r, rfl, ht, hR, hs, q⟩ := h
    refine ⟨_, (pss_one (ps_ret (pe_and (pe_callB call_isi (by rfl) T.f_isinstance (by decide +kernel) (pa_cons (pv 1) (pa_cons (pe_bltn (v := .ty "tuple") (by rfl) T.f_tuple (by decide +kernel) rfl) pa_nil))) (pe_one (pe_callB (cr_all rfl) (by rfl) T.f_all (by decide +kernel) (pa_cons (by exact (pe_lc (own := [("one", 4)]) rfl sc_rf.nd (pi_tup (pv 1)) (blkOk_by (own := [("one", 4)]) (N := ["self", "thing", "scope", "deep", "one"]) (sc := defScope S_RowsPart_fits) (by decide +kernel)) (fun _ _ _ _ _ => (pg_name (i := 4) sc_rf.nd rfl (.inl rfl))) (fun _ _ _ _ _ => pts_nil) (fun _ _ _ _ _ => (pe_call G_is_row (hr.mono (by omega)) rfl T.g_is_row T.d_is_row.kp (b_is_row T) .nil pass0 (pa_cons (pv 4) (pa_cons (pv 2) (pa_cons (pe_op op_add (pv 3) pe_int) pa_nil))))))) pa_nil)))))), ?_⟩
    refine ⟨_, rfl, .ref t, .ty "tuple", _, _, true, rfl, .ty "tuple", isi_tup ht, kit_ty rfl, _, rfl, itT rfl ?_⟩
    rcases rs_one hR with ⟨rfl, rfl⟩ | ⟨p, rfl⟩
    · refine ⟨_, rfl, t, rfl, ⟨_, SqT.of ht⟩, fun D hD => ?_⟩
      refine lc_tup (K := K) (a := t) (xs := []) (fun i H' => H' = upd H D (.lst [])) rfl (fun i H' _ e => by rw [e]; exact SqT.of (upk ht hD)) (fun i y H' hy _ => by cases hy) ?_
      rintro H' rfl
      exact ⟨D, [], rfl, SqL.of upd_same, q _ (same_new hD)⟩
    · refine ⟨_, rfl, t, rfl, ⟨_, SqT.of ht⟩, fun D hD => ?_⟩
      refine lc_tup (K := K) (a := t) (xs := [.ref p]) (fun i H' => (i = 0 ∧ H' = upd H D (.lst [])) ∨ (i = 1 ∧ Same H H' ∧ H' D = some (.lst [.bl (rok r (d + 1))]))) (.inl ⟨rfl, rfl⟩) ?_ ?_ ?_
      · rintro i H' _ (⟨_, rfl⟩ | ⟨_, S, _⟩)
        · exact SqT.of (upk ht hD)
        · exact SqT.of (S _ _ ht)
      · rintro i y H' hy (⟨rfl, rfl⟩ | ⟨rfl, _⟩)
        · obtain rfl : y = V.ref p := (Option.some.inj hy).symm
          have S1 := same_new (o := .lst []) hD
          refine ⟨rfl, _, rfl, _, rfl, _, rfl, _, _, rfl, rfl, p, sc, bx, ls, r, rfl, hR.mono (ts_same S1), hs.same S1, fun H2 S2 => ⟨[], S2 _ _ upd_same, (by show 0 < sizeLine; decide), .inr ⟨rfl, sover (S1.trans S2) hD, upd_same⟩⟩⟩
        · cases hy
      · rintro H' (⟨z, _⟩ | ⟨_, S, e⟩)
        · cases z
        · refine ⟨D, [rok r (d + 1)], rfl, SqL.of e, ?_⟩
          have z := q H' S
          have ee : ([rok r (d + 1)]).all id = rok r (d + 1) := by simp
          rw [ee]
          exact z
/-! ### is_row -/
theorem no_whole4 : ¬ (HT.sIx 4 0 (some 1) = 0 ∧ HT.sIx 4 4 none = 4) := by decide
def FitOk (X : Cx) (H0 : Hp) (sc d : V) (C : Addr) (y : V) (b : Bool) : Prop := ∃ sp, MthV X C "fits" sp E0 ∧ ∀ i H' Q, Same H0 H' → (∀ H2, Same H' H2 → Q (.bl b) H2) → sp [.ref i, y, sc, d] H' Q E0
inductive Fits (X : Cx) (H0 : Hp) (sc d : V) : List Addr → List V → List Bool → Prop
  | nil : Fits X H0 sc d [] [] []
  | cons {C : Addr} {y : V} {b : Bool} {Cs : List Addr} {ys : List V} {bs : List Bool} : FitOk X H0 sc d C y b → Fits X H0 sc d Cs ys bs → Fits X H0 sc d (C :: Cs) (y :: ys) (b :: bs)
theorem Fits.len {X : Cx} {H0 : Hp} {sc d : V} {Cs : List Addr} {ys : List V} {bs : List Bool} (h : Fits X H0 sc d Cs ys bs) : Cs.length = ys.length ∧ bs.length = ys.length := by
  induction h with
  | nil => exact ⟨rfl, rfl⟩
  | cons _ _ ih => exact ⟨by rw [List.length_cons, List.length_cons, ih.1], by rw [List.length_cons, List.length_cons, ih.2]⟩
theorem Fits.at_ {X : Cx} {H0 H : Hp} {sc d : V} {Cs : List Addr} {ys : List V} {bs : List Bool} (h : Fits X H0 sc d Cs ys bs) : ∀ {xs : List V}, PtsP H Cs xs → ∀ {i : Nat} {x y : V}, xs[i]? = some x → ys[i]? = some y →
    ∃ C a b, x = .ref a ∧ PtP H C a ∧ FitOk X H0 sc d C y b ∧ bs[i]? = some b := by
  induction h with
  | nil =>
    intro xs p i x y hx hy
    cases hy
  | @cons C y0 b Cs ys bs f _ ih =>
    rintro xs ⟨a, zs, rfl, hp, hps⟩ i x y hx hy
    cases i with
    | zero =>
      obtain rfl : x = V.ref a := (Option.some.inj hx).symm
      obtain rfl : y = y0 := (Option.some.inj hy).symm
      exact ⟨C, a, b, rfl, hp, f, rfl⟩
    | succ i =>
      rw [List.getElem?_cons_succ] at hx hy
      obtain ⟨C2, a2, b2, h1, h2, h3, h4⟩ := ih hps hx hy
      exact ⟨C2, a2, b2, h1, h2, h3, by rw [List.getElem?_cons_succ]; exact h4⟩
theorem fit_v {X : Cx} (T : Txt X.K X.mg) (hr : Room 9 X.A) (ps : Passes CX0 X E0) {H0 : Hp} {q sc bx ls : Addr} {d : V} {v : Vl} (hv : VlP H0 v q) (hs : ScP X.K H0 sc bx ls) : FitOk X H0 (.ref sc) d (C_ValuePart X.K) (.ref q) (decide (v.deep ≤ 4)) :=
  ⟨spVf X.K, ⟨_, _, _, _, _, T.c_ValuePart, T.m_ValuePart_fits, ok_vf T, hr, b_ValuePart_fits T, ps⟩, fun i H' Q S h => ⟨_, _, q, sc, bx, ls, v, rfl, hv.mono (ts_same S), hs.same S, h⟩⟩
theorem fit_b {X : Cx} (T : Txt X.K X.mg) (hr : Room 2 X.A) (ps : Passes CX0 X E0) {H0 : Hp} {sc bx ls : Addr} {d : V} (hs : ScP X.K H0 sc bx ls) : FitOk X H0 (.ref sc) d (C_BoxPart X.K) (.str "x") true :=
  ⟨spBf X.K, ⟨_, _, _, _, _, T.c_BoxPart, T.m_BoxPart_fits, ok_bf T, hr, b_BoxPart_fits T, ps⟩, fun i H' Q S h => ⟨_, _, sc, bx, ls, rfl, hs.same S, h H' fun _ _ e => e⟩⟩
theorem fit_r {X : Cx} (T : Txt X.K X.mg) {L d : Nat} (G : FnOk X.prog X.w X.K X.mg X.base CX0 L (A_is_row X.K) (fdOf X.K (A_is_row X.K)) ["thing", "scope", "deep"] (spRow X.K (d + 1))) (hr : Room (L + 1) X.A) (ps : Passes CX0 X E0) {H0 : Hp} {s sc bx ls : Addr} {xs : List V} {r : Rs}
    (h1 : H0 s = some (.tup xs)) (hR : RsI H0 r xs) (hs : ScP X.K H0 sc bx ls) : FitOk X H0 (.ref sc) (.int (d : Int)) (C_RowsPart X.K) (.ref s) (rok r (d + 1)) :=
  ⟨spRf X.K d, ⟨_, _, _, _, _, T.c_RowsPart, T.m_RowsPart_fits, ok_rf T G, hr, b_RowsPart_fits T, ps⟩, fun i H' Q S h => ⟨_, s, sc, bx, ls, xs, r, rfl, S _ _ h1, hR.mono (ts_same S), hs.same S, h⟩⟩
theorem sc_row : FnScope ["thing", "scope", "deep", "parts", "part", "one"] ["thing", "scope", "deep"] (defScope S_is_row) := ⟨rfl, rfl, rfl, by decide +kernel, rfl, by decide +kernel, by decide +kernel⟩
theorem ok_row0 (T : Txt K mg) : FnOk P w K mg base CX0 10 (A_is_row K) (fdOf K (A_is_row K)) ["thing", "scope", "deep"] (spRow K 6) := by
  refine T.d_is_row.ok sc_row (fun vs H Q E h => ?_) (fun cdv A outer s H vs Q E hr h => ?_)
  · obtain ⟨p, sc, bx, ls, r, rfl, _⟩ := h
    rfl
  · obtain ⟨p, sc, bx, ls, r, rfl, hR, hs, q⟩ := h
    refine ⟨_, (pss_cons (ps_if (PW.pt (pw_or (pt_cmpR op_gt (pv 2) (pe_gi T.i_DEEPEST_programs) (nomark _)) (pw_or (pt_not (pt_val (pe_callB call_isi (by rfl) T.f_isinstance (by decide +kernel) (pa_cons (pv 0) (pa_cons (pe_bltn (v := .ty "tuple") (by rfl) T.f_tuple (by decide +kernel) rfl) pa_nil))))) (pw_or (pt_cmpR op_eq (pe_callB call_len_seq (by rfl) T.f_len PySem.boot_len (pa_cons (pv 0) pa_nil)) pe_int (nomark _)) (pw_or1 (pt_not (pt_val (pe_callB call_isi (by rfl) T.f_isinstance (by decide +kernel) (pa_cons (pe_ix ix_tup (pv 0) pe_int (fun _ _ => rfl)) (pa_cons (pe_bltn (v := .ty "str") (by rfl) T.f_str (by decide +kernel) rfl) pa_nil)))))))))) (pss_one (ps_ret pe_bl))
        pss_nil)
      pss_never), ?_⟩
    have z := q H fun _ _ e => e
    have e : rok r 6 = false := by
      cases r with
      | none => cases hR
      | tell v => rfl
      | ifR a => rfl
      | whR a => rfl
      | tryR a b => rfl
    rw [e] at z
    exact ⟨_, rfl, _, _, rfl, rfl, _, rfl, itT (by decide) (iteT z)⟩
theorem ok_rowS (T : Txt K mg) {L d : Nat} (hd5 : d ≤ 5) (hL : 9 ≤ L) (G : FnOk P w K mg base CX0 L (A_is_row K) (fdOf K (A_is_row K)) ["thing", "scope", "deep"] (spRow K (d + 1))) : FnOk P w K mg base CX0 (L + 2) (A_is_row K) (fdOf K (A_is_row K)) ["thing", "scope", "deep"] (spRow K d) := by
  have G_parts_of : FnOk P w K mg base CX0 1 (A_parts_of K) (fdOf K (A_parts_of K)) ["word"] (spPo K) := ok_po T
  refine T.d_is_row.ok sc_row (fun vs H Q E h => ?_) (fun cdv A outer s H vs Q E hr h => ?_)
  · obtain ⟨p, sc, bx, ls, r, rfl, _⟩ := h
    rfl
  · obtain ⟨a, sc, bx, ls, r, rfl, hR, hs, q⟩ := h
    refine ⟨_, (pss_cons (ps_if (PW.pt (pw_or (pt_cmpR op_gt (pv 2) (pe_gi T.i_DEEPEST_programs) (nomark _)) (pw_or (pt_not (pt_val (pe_callB call_isi (by rfl) T.f_isinstance (by decide +kernel) (pa_cons (pv 0) (pa_cons (pe_bltn (v := .ty "tuple") (by rfl) T.f_tuple (by decide +kernel) rfl) pa_nil))))) (pw_or (pt_cmpR op_eq (pe_callB call_len_seq (by rfl) T.f_len PySem.boot_len (pa_cons (pv 0) pa_nil)) pe_int (nomark _)) (pw_or1 (pt_not (pt_val (pe_callB call_isi (by rfl) T.f_isinstance (by decide +kernel) (pa_cons (pe_ix ix_tup (pv 0) pe_int (fun _ _ => rfl)) (pa_cons (pe_bltn (v := .ty "str") (by rfl) T.f_str (by decide +kernel) rfl) pa_nil)))))))))) (pss_one (ps_ret pe_bl))
        pss_nil)
      (pss_cons (ps_set (i := 3) sc_row.nd rfl (.inl rfl) (pe_call G_parts_of (hr.mono (by omega)) rfl T.g_parts_of T.d_parts_of.kp (b_parts_of T) .nil pass0 (pa_cons (pe_ix ix_tup (pv 0) pe_int (fun _ _ => rfl)) pa_nil)))
      (pss_cons (ps_if (PW.pt (pw_or (pt_cmpR op_isN (pv 3) pe_non (nomark _)) (pw_or (pt_cmpR op_ne (pe_callB call_len_seq (by rfl) T.f_len PySem.boot_len (pa_cons (pv 3) pa_nil)) (pe_op op_sub (pe_callB call_len_seq (by rfl) T.f_len PySem.boot_len (pa_cons (pv 0) pa_nil)) pe_int) (nomark _)) (pw_or1 (PW.pt (pw_and (pt_cmpR op_eq (pe_ix ix_tup (pv 0) pe_int (fun _ _ => rfl)) pe_str (nomark _)) (pw_and1 pt_never))))))) (pss_one (ps_ret pe_bl))
        pss_nil)
      (pss_cons (ps_for PassesOwn.never rfl (pi_zipM (by rfl) T.f_zip (pa_cons (pv 3) (pa_cons (pe_slice sl_tup (pv 0) (po_some pe_int) po_none) pa_nil))) (pg_tup rfl (pgs_cons (pg_name (i := 4) sc_row.nd rfl (.inl rfl)) (pgs_cons (pg_name (i := 5) sc_row.nd rfl (.inl rfl)) pgs_nil)))
        (pss_one (ps_if (pt_not (pt_val (pe_methV (E := E0) (pv 4) (pa_cons (pv 5) (pa_cons (pv 1) (pa_cons (pv 2) pa_nil)))))) (pss_one (ps_ret pe_bl))
          pss_nil)))
      (pss_one (ps_ret (pe_or (pe_cmpR op_ne (pe_ix ix_tup (pv 0) pe_int (fun _ _ => rfl)) pe_str (nomark _)) (pe_one pe_never)))))))), ?_⟩
    have hdd : (decide ((5 : Int) < (d : Int))) = false := decide_eq_false (by omega)
    cases r with
    | none => cases hR
    | tell v =>
      obtain ⟨p0, q1, e, ha, hv⟩ := hR
      have ea := List.cons.inj e
      injection ea.1 with ea1
      subst ea1
      refine ⟨_, rfl, _, _, rfl, rfl, _, rfl, itF hdd ?_⟩
      refine ⟨_, rfl, .ref a, .ty "tuple", _, _, true, rfl, .ty "tuple", isi_tup ha, kit_ty rfl, true, rfl, itF rfl ?_⟩
      refine ⟨_, rfl, a, _, rfl, .inr (SqT.of ha), rfl, _, rfl, itF (int_ne (by show (2 : Int) ≠ 0; decide)) ?_⟩
      refine ⟨_, rfl, a, _, 0, .str "tell", rfl, rfl, SqT.of ha, atI_nat (j := 0) rfl, .str "tell", .ty "str", _, _, true, rfl, .ty "str", .base (.str _), kit_ty rfl, true, rfl, iteF ?_⟩
      refine ⟨_, rfl, a, _, 0, .str "tell", rfl, rfl, SqT.of ha, atI_nat (j := 0) rfl, "tell", [C_ValuePart K], rfl, .inl ⟨rfl, rfl⟩, fun H1 l xs S1 hl hP => ?_⟩
      have ha1 := S1 _ _ ha
      have hlx : xs.length = 1 := hP.len
      refine ⟨_, rfl, rfl, _, rfl, itF rfl ?_⟩
      refine ⟨_, rfl, l, _, rfl, .inl (SqL.of hl), _, rfl, a, _, rfl, .inr (SqT.of ha1), _, _, rfl, rfl, rfl, _, rfl, itF (by rw [hlx]; exact int_nn (m := 1)) ?_⟩
      refine ⟨_, rfl, a, _, 0, .str "tell", rfl, rfl, SqT.of ha1, atI_nat (j := 0) rfl, rfl, _, rfl, itF (by decide +kernel) (iteF ?_)⟩
      refine ⟨_, rfl, _, rfl, _, rfl, a, _, rfl, SqT.of ha1, no_whole2, fun pt hpt => ?_⟩
      rw [show cutV (V.str "tell" :: [V.ref q1]) (some 1) none = [V.ref q1] from cut_one]
      have SZ : Same H (upd H1 pt (.tup [V.ref q1])) := same_trans_new S1 hpt
      have hlz : upd H1 pt (.tup [V.ref q1]) l = some (.lst xs) := upk hl hpt
      have hpz : upd H1 pt (.tup [V.ref q1]) pt = some (.tup [V.ref q1]) := upd_same
      have hPz : PtsP (upd H1 pt (.tup [V.ref q1])) [C_ValuePart K] xs := hP.mono fun a C dx e => upk e hpt
      generalize upd H1 pt (.tup [V.ref q1]) = HZ at *
      have hFits : Fits (cxOf CX0 P w K mg base ["thing", "scope", "deep", "parts", "part", "one"] "is_row" (defScope S_is_row) (A_is_row K) cdv A outer s H E).nox HZ (.ref sc) (.int (d : Int)) [C_ValuePart K] [V.ref q1] [decide (v.deep ≤ 4)] := .cons (fit_v T (hr.mono (by omega)) pass0 (hv.mono (ts_same SZ)) (hs.same SZ)) .nil
      have hrok : rok (.tell v) d = ([decide (v.deep ≤ 4)]).all id := by
        simp [rok, hd5]
      refine ⟨l, pt, xs, [V.ref q1], rfl, SqL.of hlz, SqT.of hpz, for_zipM (K := K) (a := l) (b := pt) (xs := xs) (ys := [V.ref q1]) hlx (fun i σ H' => Same HZ H' ∧ (∃ s4 s5, σ = [some (.ref a), some (.ref sc), some (.int (d : Int)), some (.ref l), s4, s5]) ∧ (([decide (v.deep ≤ 4)]).take i).all id = true)
        ⟨fun _ _ e => e, ⟨_, _, rfl⟩, rfl⟩ (fun i σ H' h => ⟨SqL.of (h.1 _ _ hlz), SqT.of (h.1 _ _ hpz)⟩) ?_ ?_⟩
      · rintro i x y pr σ H' hx hy ⟨S, ⟨s4, s5, rfl⟩, hb⟩ hpr
        obtain ⟨C, j, b, rfl, ⟨dx, hj⟩, ⟨sp, hM, hsp⟩, hbi⟩ := hFits.at_ hPz hx hy
        have S2 : Same HZ (upd H' pr (.tup [.ref j, y])) := S.trans (same_new hpr)
        refine ⟨pr, _, rfl, SqT.of upd_same, rfl, _, _, rfl, _, _, rfl, rfl, ?_⟩
        refine ⟨_, rfl, j, C, dx, [], sp, rfl, S2 _ _ hj, lkn, hM, _, rfl, _, rfl, _, rfl, hsp j _ _ S2 fun H2 S3 => ⟨_, rfl, ?_⟩⟩
        cases b with
        | true => exact itF rfl ⟨S2.trans S3, ⟨_, _, rfl⟩, by rw [take_more hbi, List.all_append, hb]; rfl⟩
        | false =>
          refine itT rfl ?_
          have z := q H2 (SZ.trans (S2.trans S3))
          have e0 : ([decide (v.deep ≤ 4)]).all id = false := List.all_eq_false.mpr ⟨false, List.mem_of_getElem? hbi, Bool.false_ne_true⟩
          rw [hrok, e0] at z
          exact z
      · rintro σ H' ⟨S, ⟨s4, s5, rfl⟩, hb⟩
        have ha3 := S _ _ (show HZ a = _ from SZ _ _ ha)
        have z := q H' (SZ.trans S)
        rw [hlx] at hb
        have e0 : ([decide (v.deep ≤ 4)]).all id = true := hb
        rw [hrok, e0] at z
        exact ⟨_, rfl, a, _, 0, .str "tell", rfl, rfl, SqT.of ha3, atI_nat (j := 0) rfl, rfl, _, rfl, itT (by decide +kernel) z⟩
    | ifR r1 =>
      obtain ⟨p0, q1, s1, t1, ys1, e, ha, hv, h3, h4, h5⟩ := hR
      have ea := List.cons.inj e
      injection ea.1 with ea1
      subst ea1
      refine ⟨_, rfl, _, _, rfl, rfl, _, rfl, itF hdd ?_⟩
      refine ⟨_, rfl, .ref a, .ty "tuple", _, _, true, rfl, .ty "tuple", isi_tup ha, kit_ty rfl, true, rfl, itF rfl ?_⟩
      refine ⟨_, rfl, a, _, rfl, .inr (SqT.of ha), rfl, _, rfl, itF (int_ne (by show (4 : Int) ≠ 0; decide)) ?_⟩
      refine ⟨_, rfl, a, _, 0, .str "if", rfl, rfl, SqT.of ha, atI_nat (j := 0) rfl, .str "if", .ty "str", _, _, true, rfl, .ty "str", .base (.str _), kit_ty rfl, true, rfl, iteF ?_⟩
      refine ⟨_, rfl, a, _, 0, .str "if", rfl, rfl, SqT.of ha, atI_nat (j := 0) rfl, "if", [C_ValuePart K, C_RowsPart K, C_RowsPart K], rfl, .inr (.inl ⟨rfl, rfl⟩), fun H1 l xs S1 hl hP => ?_⟩
      have ha1 := S1 _ _ ha
      have hlx : xs.length = 3 := hP.len
      refine ⟨_, rfl, rfl, _, rfl, itF rfl ?_⟩
      refine ⟨_, rfl, l, _, rfl, .inl (SqL.of hl), _, rfl, a, _, rfl, .inr (SqT.of ha1), _, _, rfl, rfl, rfl, _, rfl, itF (by rw [hlx]; exact int_nn (m := 3)) ?_⟩
      refine ⟨_, rfl, a, _, 0, .str "if", rfl, rfl, SqT.of ha1, atI_nat (j := 0) rfl, rfl, _, rfl, itF (by decide +kernel) (iteF ?_)⟩
      refine ⟨_, rfl, _, rfl, _, rfl, a, _, rfl, SqT.of ha1, no_whole4, fun pt hpt => ?_⟩
      rw [show cutV (V.str "if" :: [V.ref q1, V.ref s1, V.ref t1]) (some 1) none = [V.ref q1, V.ref s1, V.ref t1] from cut_one]
      have SZ : Same H (upd H1 pt (.tup [V.ref q1, V.ref s1, V.ref t1])) := same_trans_new S1 hpt
      have hlz : upd H1 pt (.tup [V.ref q1, V.ref s1, V.ref t1]) l = some (.lst xs) := upk hl hpt
      have hpz : upd H1 pt (.tup [V.ref q1, V.ref s1, V.ref t1]) pt = some (.tup [V.ref q1, V.ref s1, V.ref t1]) := upd_same
      have hPz : PtsP (upd H1 pt (.tup [V.ref q1, V.ref s1, V.ref t1])) [C_ValuePart K, C_RowsPart K, C_RowsPart K] xs := hP.mono fun a C dx e => upk e hpt
      generalize upd H1 pt (.tup [V.ref q1, V.ref s1, V.ref t1]) = HZ at *
      have hFits : Fits (cxOf CX0 P w K mg base ["thing", "scope", "deep", "parts", "part", "one"] "is_row" (defScope S_is_row) (A_is_row K) cdv A outer s H E).nox HZ (.ref sc) (.int (d : Int)) [C_ValuePart K, C_RowsPart K, C_RowsPart K] [V.ref q1, V.ref s1, V.ref t1] [decide (Vl.box.deep ≤ 4), rok r1 (d + 1), rok Rs.none (d + 1)] := .cons (fit_v T (hr.mono (by omega)) pass0 (hv.mono (ts_same SZ)) (hs.same SZ)) (.cons (fit_r T G (hr.mono (by omega)) pass0 (SZ _ _ h3) (h4.mono (ts_same SZ)) (hs.same SZ)) (.cons (fit_r (r := .none) T G (hr.mono (by omega)) pass0 (SZ _ _ h5) rfl (hs.same SZ)) .nil))
      have hrok : rok (.ifR r1) d = ([decide (Vl.box.deep ≤ 4), rok r1 (d + 1), rok Rs.none (d + 1)]).all id := by
        simp [rok, hd5, Vl.deep]
      refine ⟨l, pt, xs, [V.ref q1, V.ref s1, V.ref t1], rfl, SqL.of hlz, SqT.of hpz, for_zipM (K := K) (a := l) (b := pt) (xs := xs) (ys := [V.ref q1, V.ref s1, V.ref t1]) hlx (fun i σ H' => Same HZ H' ∧ (∃ s4 s5, σ = [some (.ref a), some (.ref sc), some (.int (d : Int)), some (.ref l), s4, s5]) ∧ (([decide (Vl.box.deep ≤ 4), rok r1 (d + 1), rok Rs.none (d + 1)]).take i).all id = true)
        ⟨fun _ _ e => e, ⟨_, _, rfl⟩, rfl⟩ (fun i σ H' h => ⟨SqL.of (h.1 _ _ hlz), SqT.of (h.1 _ _ hpz)⟩) ?_ ?_⟩
      · rintro i x y pr σ H' hx hy ⟨S, ⟨s4, s5, rfl⟩, hb⟩ hpr
        obtain ⟨C, j, b, rfl, ⟨dx, hj⟩, ⟨sp, hM, hsp⟩, hbi⟩ := hFits.at_ hPz hx hy
        have S2 : Same HZ (upd H' pr (.tup [.ref j, y])) := S.trans (same_new hpr)
        refine ⟨pr, _, rfl, SqT.of upd_same, rfl, _, _, rfl, _, _, rfl, rfl, ?_⟩
        refine ⟨_, rfl, j, C, dx, [], sp, rfl, S2 _ _ hj, lkn, hM, _, rfl, _, rfl, _, rfl, hsp j _ _ S2 fun H2 S3 => ⟨_, rfl, ?_⟩⟩
        cases b with
        | true => exact itF rfl ⟨S2.trans S3, ⟨_, _, rfl⟩, by rw [take_more hbi, List.all_append, hb]; rfl⟩
        | false =>
          refine itT rfl ?_
          have z := q H2 (SZ.trans (S2.trans S3))
          have e0 : ([decide (Vl.box.deep ≤ 4), rok r1 (d + 1), rok Rs.none (d + 1)]).all id = false := List.all_eq_false.mpr ⟨false, List.mem_of_getElem? hbi, Bool.false_ne_true⟩
          rw [hrok, e0] at z
          exact z
      · rintro σ H' ⟨S, ⟨s4, s5, rfl⟩, hb⟩
        have ha3 := S _ _ (show HZ a = _ from SZ _ _ ha)
        have z := q H' (SZ.trans S)
        rw [hlx] at hb
        have e0 : ([decide (Vl.box.deep ≤ 4), rok r1 (d + 1), rok Rs.none (d + 1)]).all id = true := hb
        rw [hrok, e0] at z
        exact ⟨_, rfl, a, _, 0, .str "if", rfl, rfl, SqT.of ha3, atI_nat (j := 0) rfl, rfl, _, rfl, itT (by decide +kernel) z⟩
    | whR r1 =>
      obtain ⟨p0, q1, s1, ys1, e, ha, hv, h3, h4⟩ := hR
      have ea := List.cons.inj e
      injection ea.1 with ea1
      subst ea1
      refine ⟨_, rfl, _, _, rfl, rfl, _, rfl, itF hdd ?_⟩
      refine ⟨_, rfl, .ref a, .ty "tuple", _, _, true, rfl, .ty "tuple", isi_tup ha, kit_ty rfl, true, rfl, itF rfl ?_⟩
      refine ⟨_, rfl, a, _, rfl, .inr (SqT.of ha), rfl, _, rfl, itF (int_ne (by show (3 : Int) ≠ 0; decide)) ?_⟩
      refine ⟨_, rfl, a, _, 0, .str "while", rfl, rfl, SqT.of ha, atI_nat (j := 0) rfl, .str "while", .ty "str", _, _, true, rfl, .ty "str", .base (.str _), kit_ty rfl, true, rfl, iteF ?_⟩
      refine ⟨_, rfl, a, _, 0, .str "while", rfl, rfl, SqT.of ha, atI_nat (j := 0) rfl, "while", [C_ValuePart K, C_RowsPart K], rfl, .inr (.inr (.inl ⟨rfl, rfl⟩)), fun H1 l xs S1 hl hP => ?_⟩
      have ha1 := S1 _ _ ha
      have hlx : xs.length = 2 := hP.len
      refine ⟨_, rfl, rfl, _, rfl, itF rfl ?_⟩
      refine ⟨_, rfl, l, _, rfl, .inl (SqL.of hl), _, rfl, a, _, rfl, .inr (SqT.of ha1), _, _, rfl, rfl, rfl, _, rfl, itF (by rw [hlx]; exact int_nn (m := 2)) ?_⟩
      refine ⟨_, rfl, a, _, 0, .str "while", rfl, rfl, SqT.of ha1, atI_nat (j := 0) rfl, rfl, _, rfl, itF (by decide +kernel) (iteF ?_)⟩
      refine ⟨_, rfl, _, rfl, _, rfl, a, _, rfl, SqT.of ha1, no_whole3, fun pt hpt => ?_⟩
      rw [show cutV (V.str "while" :: [V.ref q1, V.ref s1]) (some 1) none = [V.ref q1, V.ref s1] from cut_one]
      have SZ : Same H (upd H1 pt (.tup [V.ref q1, V.ref s1])) := same_trans_new S1 hpt
      have hlz : upd H1 pt (.tup [V.ref q1, V.ref s1]) l = some (.lst xs) := upk hl hpt
      have hpz : upd H1 pt (.tup [V.ref q1, V.ref s1]) pt = some (.tup [V.ref q1, V.ref s1]) := upd_same
      have hPz : PtsP (upd H1 pt (.tup [V.ref q1, V.ref s1])) [C_ValuePart K, C_RowsPart K] xs := hP.mono fun a C dx e => upk e hpt
      generalize upd H1 pt (.tup [V.ref q1, V.ref s1]) = HZ at *
      have hFits : Fits (cxOf CX0 P w K mg base ["thing", "scope", "deep", "parts", "part", "one"] "is_row" (defScope S_is_row) (A_is_row K) cdv A outer s H E).nox HZ (.ref sc) (.int (d : Int)) [C_ValuePart K, C_RowsPart K] [V.ref q1, V.ref s1] [decide (Vl.box.deep ≤ 4), rok r1 (d + 1)] := .cons (fit_v T (hr.mono (by omega)) pass0 (hv.mono (ts_same SZ)) (hs.same SZ)) (.cons (fit_r T G (hr.mono (by omega)) pass0 (SZ _ _ h3) (h4.mono (ts_same SZ)) (hs.same SZ)) .nil)
      have hrok : rok (.whR r1) d = ([decide (Vl.box.deep ≤ 4), rok r1 (d + 1)]).all id := by
        simp [rok, hd5, Vl.deep]
      refine ⟨l, pt, xs, [V.ref q1, V.ref s1], rfl, SqL.of hlz, SqT.of hpz, for_zipM (K := K) (a := l) (b := pt) (xs := xs) (ys := [V.ref q1, V.ref s1]) hlx (fun i σ H' => Same HZ H' ∧ (∃ s4 s5, σ = [some (.ref a), some (.ref sc), some (.int (d : Int)), some (.ref l), s4, s5]) ∧ (([decide (Vl.box.deep ≤ 4), rok r1 (d + 1)]).take i).all id = true)
        ⟨fun _ _ e => e, ⟨_, _, rfl⟩, rfl⟩ (fun i σ H' h => ⟨SqL.of (h.1 _ _ hlz), SqT.of (h.1 _ _ hpz)⟩) ?_ ?_⟩
      · rintro i x y pr σ H' hx hy ⟨S, ⟨s4, s5, rfl⟩, hb⟩ hpr
        obtain ⟨C, j, b, rfl, ⟨dx, hj⟩, ⟨sp, hM, hsp⟩, hbi⟩ := hFits.at_ hPz hx hy
        have S2 : Same HZ (upd H' pr (.tup [.ref j, y])) := S.trans (same_new hpr)
        refine ⟨pr, _, rfl, SqT.of upd_same, rfl, _, _, rfl, _, _, rfl, rfl, ?_⟩
        refine ⟨_, rfl, j, C, dx, [], sp, rfl, S2 _ _ hj, lkn, hM, _, rfl, _, rfl, _, rfl, hsp j _ _ S2 fun H2 S3 => ⟨_, rfl, ?_⟩⟩
        cases b with
        | true => exact itF rfl ⟨S2.trans S3, ⟨_, _, rfl⟩, by rw [take_more hbi, List.all_append, hb]; rfl⟩
        | false =>
          refine itT rfl ?_
          have z := q H2 (SZ.trans (S2.trans S3))
          have e0 : ([decide (Vl.box.deep ≤ 4), rok r1 (d + 1)]).all id = false := List.all_eq_false.mpr ⟨false, List.mem_of_getElem? hbi, Bool.false_ne_true⟩
          rw [hrok, e0] at z
          exact z
      · rintro σ H' ⟨S, ⟨s4, s5, rfl⟩, hb⟩
        have ha3 := S _ _ (show HZ a = _ from SZ _ _ ha)
        have z := q H' (SZ.trans S)
        rw [hlx] at hb
        have e0 : ([decide (Vl.box.deep ≤ 4), rok r1 (d + 1)]).all id = true := hb
        rw [hrok, e0] at z
        exact ⟨_, rfl, a, _, 0, .str "while", rfl, rfl, SqT.of ha3, atI_nat (j := 0) rfl, rfl, _, rfl, itT (by decide +kernel) z⟩
    | tryR r1 r2 =>
      obtain ⟨p0, s1, t1, ys1, zs1, e, ha, h3, h4, h5, h6⟩ := hR
      have ea := List.cons.inj e
      injection ea.1 with ea1
      subst ea1
      refine ⟨_, rfl, _, _, rfl, rfl, _, rfl, itF hdd ?_⟩
      refine ⟨_, rfl, .ref a, .ty "tuple", _, _, true, rfl, .ty "tuple", isi_tup ha, kit_ty rfl, true, rfl, itF rfl ?_⟩
      refine ⟨_, rfl, a, _, rfl, .inr (SqT.of ha), rfl, _, rfl, itF (int_ne (by show (4 : Int) ≠ 0; decide)) ?_⟩
      refine ⟨_, rfl, a, _, 0, .str "try", rfl, rfl, SqT.of ha, atI_nat (j := 0) rfl, .str "try", .ty "str", _, _, true, rfl, .ty "str", .base (.str _), kit_ty rfl, true, rfl, iteF ?_⟩
      refine ⟨_, rfl, a, _, 0, .str "try", rfl, rfl, SqT.of ha, atI_nat (j := 0) rfl, "try", [C_RowsPart K, C_BoxPart K, C_RowsPart K], rfl, .inr (.inr (.inr ⟨rfl, rfl⟩)), fun H1 l xs S1 hl hP => ?_⟩
      have ha1 := S1 _ _ ha
      have hlx : xs.length = 3 := hP.len
      refine ⟨_, rfl, rfl, _, rfl, itF rfl ?_⟩
      refine ⟨_, rfl, l, _, rfl, .inl (SqL.of hl), _, rfl, a, _, rfl, .inr (SqT.of ha1), _, _, rfl, rfl, rfl, _, rfl, itF (by rw [hlx]; exact int_nn (m := 3)) ?_⟩
      refine ⟨_, rfl, a, _, 0, .str "try", rfl, rfl, SqT.of ha1, atI_nat (j := 0) rfl, rfl, _, rfl, itF (by decide +kernel) (iteF ?_)⟩
      refine ⟨_, rfl, _, rfl, _, rfl, a, _, rfl, SqT.of ha1, no_whole4, fun pt hpt => ?_⟩
      rw [show cutV (V.str "try" :: [V.ref s1, V.str "x", V.ref t1]) (some 1) none = [V.ref s1, V.str "x", V.ref t1] from cut_one]
      have SZ : Same H (upd H1 pt (.tup [V.ref s1, V.str "x", V.ref t1])) := same_trans_new S1 hpt
      have hlz : upd H1 pt (.tup [V.ref s1, V.str "x", V.ref t1]) l = some (.lst xs) := upk hl hpt
      have hpz : upd H1 pt (.tup [V.ref s1, V.str "x", V.ref t1]) pt = some (.tup [V.ref s1, V.str "x", V.ref t1]) := upd_same
      have hPz : PtsP (upd H1 pt (.tup [V.ref s1, V.str "x", V.ref t1])) [C_RowsPart K, C_BoxPart K, C_RowsPart K] xs := hP.mono fun a C dx e => upk e hpt
      generalize upd H1 pt (.tup [V.ref s1, V.str "x", V.ref t1]) = HZ at *
      have hFits : Fits (cxOf CX0 P w K mg base ["thing", "scope", "deep", "parts", "part", "one"] "is_row" (defScope S_is_row) (A_is_row K) cdv A outer s H E).nox HZ (.ref sc) (.int (d : Int)) [C_RowsPart K, C_BoxPart K, C_RowsPart K] [V.ref s1, V.str "x", V.ref t1] [rok r1 (d + 1), true, rok r2 (d + 1)] := .cons (fit_r T G (hr.mono (by omega)) pass0 (SZ _ _ h3) (h4.mono (ts_same SZ)) (hs.same SZ)) (.cons (fit_b T (hr.mono (by omega)) pass0 (hs.same SZ)) (.cons (fit_r T G (hr.mono (by omega)) pass0 (SZ _ _ h5) (h6.mono (ts_same SZ)) (hs.same SZ)) .nil))
      have hrok : rok (.tryR r1 r2) d = ([rok r1 (d + 1), true, rok r2 (d + 1)]).all id := by
        simp [rok, hd5]
      refine ⟨l, pt, xs, [V.ref s1, V.str "x", V.ref t1], rfl, SqL.of hlz, SqT.of hpz, for_zipM (K := K) (a := l) (b := pt) (xs := xs) (ys := [V.ref s1, V.str "x", V.ref t1]) hlx (fun i σ H' => Same HZ H' ∧ (∃ s4 s5, σ = [some (.ref a), some (.ref sc), some (.int (d : Int)), some (.ref l), s4, s5]) ∧ (([rok r1 (d + 1), true, rok r2 (d + 1)]).take i).all id = true)
        ⟨fun _ _ e => e, ⟨_, _, rfl⟩, rfl⟩ (fun i σ H' h => ⟨SqL.of (h.1 _ _ hlz), SqT.of (h.1 _ _ hpz)⟩) ?_ ?_⟩
      · rintro i x y pr σ H' hx hy ⟨S, ⟨s4, s5, rfl⟩, hb⟩ hpr
        obtain ⟨C, j, b, rfl, ⟨dx, hj⟩, ⟨sp, hM, hsp⟩, hbi⟩ := hFits.at_ hPz hx hy
        have S2 : Same HZ (upd H' pr (.tup [.ref j, y])) := S.trans (same_new hpr)
        refine ⟨pr, _, rfl, SqT.of upd_same, rfl, _, _, rfl, _, _, rfl, rfl, ?_⟩
        refine ⟨_, rfl, j, C, dx, [], sp, rfl, S2 _ _ hj, lkn, hM, _, rfl, _, rfl, _, rfl, hsp j _ _ S2 fun H2 S3 => ⟨_, rfl, ?_⟩⟩
        cases b with
        | true => exact itF rfl ⟨S2.trans S3, ⟨_, _, rfl⟩, by rw [take_more hbi, List.all_append, hb]; rfl⟩
        | false =>
          refine itT rfl ?_
          have z := q H2 (SZ.trans (S2.trans S3))
          have e0 : ([rok r1 (d + 1), true, rok r2 (d + 1)]).all id = false := List.all_eq_false.mpr ⟨false, List.mem_of_getElem? hbi, Bool.false_ne_true⟩
          rw [hrok, e0] at z
          exact z
      · rintro σ H' ⟨S, ⟨s4, s5, rfl⟩, hb⟩
        have ha3 := S _ _ (show HZ a = _ from SZ _ _ ha)
        have z := q H' (SZ.trans S)
        rw [hlx] at hb
        have e0 : ([rok r1 (d + 1), true, rok r2 (d + 1)]).all id = true := hb
        rw [hrok, e0] at z
        exact ⟨_, rfl, a, _, 0, .str "try", rfl, rfl, SqT.of ha3, atI_nat (j := 0) rfl, rfl, _, rfl, itT (by decide +kernel) z⟩
theorem ok_row (T : Txt K mg) : ∀ k d, d + k = 6 → FnOk P w K mg base CX0 (10 + 2 * k) (A_is_row K) (fdOf K (A_is_row K)) ["thing", "scope", "deep"] (spRow K d)
  | 0, d, h => by
    obtain rfl : d = 6 := h
    exact ok_row0 T
  | k + 1, d, h => ok_rowS T (L := 10 + 2 * k) (by omega) (by omega) (ok_row T k (d + 1) (by omega))
end
end Rt
end S_RtRow

section S_RtSto
set_option Elab.async false
set_option linter.all false
set_option maxRecDepth 100000
set_option maxHeartbeats 4000000
/-! stores, functions, Scope, need_rows -/
namespace Rt
open PySem PySem.Spec PyProof.Rows L2
section
variable {P : Program} {w : World} {K : PySem.W.Frag} {mg : Str → Option Value} {base : Heap}
def spIst : Sp := fun vs H Q _ => ∃ (t : Addr) (n : Int) (xs : List V), vs = [.ref t, .int n] ∧ H t = some (.tup xs) ∧ ((xs.length : Nat) : Int) ≤ n ∧ Q (.bl true) H
theorem sc_ist : FnScope ["thing", "most"] ["thing", "most"] (defScope S_is_tuple) := ⟨rfl, rfl, rfl, by decide +kernel, rfl, by decide +kernel, by decide +kernel⟩
theorem ok_ist (T : Txt K mg) : FnOk P w K mg base CX0 1 (A_is_tuple K) (fdOf K (A_is_tuple K)) ["thing", "most"] spIst := by
  refine T.d_is_tuple.ok sc_ist (fun vs H Q E h => ?_) (fun cdv A outer s H vs Q E hr h => ?_)
  · obtain ⟨t, n, xs, rfl, _⟩ := h
    rfl
  · obtain ⟨t, n, xs, rfl, ht, hn, q⟩ := h
    refine ⟨_, (pss_one (ps_ret (pe_and (pe_callB call_isi (by rfl) T.f_isinstance (by decide +kernel) (pa_cons (pv 0) (pa_cons (pe_bltn (v := .ty "tuple") (by rfl) T.f_tuple (by decide +kernel) rfl) pa_nil))) (pe_one (pe_cmpR op_le (pe_callB call_len_seq (by rfl) T.f_len PySem.boot_len (pa_cons (pv 0) pa_nil)) (pv 1) (nomark _)))))), ?_⟩
    refine ⟨_, rfl, .ref t, .ty "tuple", _, _, true, rfl, .ty "tuple", isi_tup ht, kit_ty rfl, _, rfl, itT rfl ?_⟩
    refine ⟨_, rfl, t, _, rfl, .inr (SqT.of ht), _, rfl, _, _, rfl, rfl, ?_⟩
    show Q (.bl (decide _)) H
    rw [decide_eq_true hn]
    exact q
def spIsp : Sp := fun vs H Q _ => ∃ (t : Addr) (z : Str) (y : V), vs = [.ref t] ∧ H t = some (.tup [.str z, y]) ∧ (z = "x" ∨ z = "l") ∧ Q (.bl true) H
theorem sc_isp : FnScope ["thing"] ["thing"] (defScope S_is_pair) := ⟨rfl, rfl, rfl, by decide +kernel, rfl, by decide +kernel, by decide +kernel⟩
theorem ok_isp (T : Txt K mg) : FnOk P w K mg base CX0 2 (A_is_pair K) (fdOf K (A_is_pair K)) ["thing"] spIsp := by
  have G_is_name : FnOk P w K mg base CX0 1 (A_is_name K) (fdOf K (A_is_name K)) ["thing"] spName := ok_name T
  refine T.d_is_pair.ok sc_isp (fun vs H Q E h => ?_) (fun cdv A outer s H vs Q E hr h => ?_)
  · obtain ⟨t, z, y, rfl, _⟩ := h
    rfl
  · obtain ⟨t, z, y, rfl, ht, hz, q⟩ := h
    refine ⟨_, (pss_one (ps_ret (pe_and (pe_callB call_isi (by rfl) T.f_isinstance (by decide +kernel) (pa_cons (pv 0) (pa_cons (pe_bltn (v := .ty "tuple") (by rfl) T.f_tuple (by decide +kernel) rfl) pa_nil))) (pe_and (pe_cmpR op_eq (pe_callB call_len_seq (by rfl) T.f_len PySem.boot_len (pa_cons (pv 0) pa_nil)) pe_int (nomark _)) (pe_one (pe_call G_is_name (hr.mono (by decide)) rfl T.g_is_name T.d_is_name.kp (b_is_name T) .nil pass0 (pa_cons (pe_ix ix_tup (pv 0) pe_int (fun _ _ => rfl)) pa_nil))))))), ?_⟩
    refine ⟨_, rfl, .ref t, .ty "tuple", _, _, true, rfl, .ty "tuple", isi_tup ht, kit_ty rfl, _, rfl, itT rfl ?_⟩
    refine ⟨_, rfl, t, _, rfl, .inr (SqT.of ht), rfl, _, rfl, itT ?_ ?_⟩
    · exact decide_eq_true rfl
    · exact ⟨_, rfl, t, _, 0, .str z, rfl, rfl, SqT.of ht, atI_nat (j := 0) rfl, z, rfl, hz, q⟩
def spArn : Sp := fun vs H Q _ => ∃ (t : Addr), vs = [.ref t, .int 12] ∧ H t = some (.tup [.int 1, .int 2]) ∧ ∀ H', Same H H' → Q (.bl true) H'
theorem sc_arn : FnScope ["thing", "most", "one"] ["thing", "most"] (defScope S_are_numbers) := ⟨rfl, rfl, rfl, by decide +kernel, rfl, by decide +kernel, by decide +kernel⟩
theorem ok_arn (T : Txt K mg) : FnOk P w K mg base CX0 2 (A_are_numbers K) (fdOf K (A_are_numbers K)) ["thing", "most"] spArn := by
  have G_is_tuple : FnOk P w K mg base CX0 1 (A_is_tuple K) (fdOf K (A_is_tuple K)) ["thing", "most"] spIst := ok_ist T
  have G_is_number : FnOk P w K mg base CX0 1 (A_is_number K) (fdOf K (A_is_number K)) ["thing"] spIsn := ok_isn T
  refine T.d_are_numbers.ok sc_arn (fun vs H Q E h => ?_) (fun cdv A outer s H vs Q E hr h => ?_)
  · obtain ⟨t, rfl, _⟩ := h
    rfl
  · obtain ⟨t, rfl, ht, q⟩ := h
    refine ⟨_, (pss_one (ps_ret (pe_and (pe_call G_is_tuple (hr.mono (by decide)) rfl T.g_is_tuple T.d_is_tuple.kp (b_is_tuple T) .nil pass0 (pa_cons (pv 0) (pa_cons (pv 1) pa_nil))) (pe_one (pe_callB (cr_all rfl) (by rfl) T.f_all (by decide +kernel) (pa_cons (by exact (pe_lc (own := [("one", 2)]) rfl sc_arn.nd (pi_tup (pv 0)) (blkOk_by (own := [("one", 2)]) (N := ["thing", "most", "one"]) (sc := defScope S_are_numbers) (by decide +kernel)) (fun _ _ _ _ _ => (pg_name (i := 2) sc_arn.nd rfl (.inl rfl))) (fun _ _ _ _ _ => pts_nil) (fun _ _ _ _ _ => (pe_call G_is_number (hr.mono (by decide)) rfl T.g_is_number T.d_is_number.kp (b_is_number T) .nil pass0 (pa_cons (pv 2) pa_nil))))) pa_nil)))))), ?_⟩
    refine ⟨_, rfl, _, rfl, t, 12, _, rfl, ht, (by decide), _, rfl, itT rfl ?_⟩
    refine ⟨_, rfl, t, rfl, ⟨_, SqT.of ht⟩, fun D hD => ?_⟩
    refine lc_tup (K := K) (a := t) (xs := [.int 1, .int 2]) (fun i H' => H' = upd H D (.lst (([.bl true, .bl true] : List V).take i))) rfl (fun i H' _ e => by rw [e]; exact SqT.of (upk ht hD)) ?_ ?_
    · rintro i y H' hy rfl
      match i, hy with
      | 0, hy =>
        obtain rfl : y = V.int 1 := (Option.some.inj hy).symm
        exact ⟨rfl, _, rfl, 1, rfl, by decide, by decide, _, upd_same, (by show 0 < sizeLine; decide), by rw [upd_upd]; rfl⟩
      | 1, hy =>
        obtain rfl : y = V.int 2 := (Option.some.inj hy).symm
        exact ⟨rfl, _, rfl, 2, rfl, by decide, by decide, _, upd_same, (by show 1 < sizeLine; decide), by rw [upd_upd]; rfl⟩
      | i + 2, hy => cases hy
    · rintro H' rfl
      exact ⟨D, [true, true], rfl, SqL.of upd_same, q _ (same_new hD)⟩
def spAru : Sp := fun vs H Q _ => ∃ (l : Addr) (xs : List Str), vs = [.ref l] ∧ H l = some (.lst (xs.map V.str)) ∧ xs.Nodup ∧ xs.length < 100 ∧ Q (.bl true) H
theorem sc_aru : FnScope ["names"] ["names"] (defScope S_are_unlike) := ⟨rfl, rfl, rfl, by decide +kernel, rfl, by decide +kernel, by decide +kernel⟩
theorem ok_aru (T : Txt K mg) : FnOk P w K mg base CX0 1 (A_are_unlike K) (fdOf K (A_are_unlike K)) ["names"] spAru := by
  refine T.d_are_unlike.ok sc_aru (fun vs H Q E h => ?_) (fun cdv A outer s H vs Q E hr h => ?_)
  · obtain ⟨l, xs, rfl, _⟩ := h
    rfl
  · obtain ⟨l, xs, rfl, hl, nd, few, q⟩ := h
    refine ⟨_, (pss_one (ps_ret (pe_cmpR op_eq (pe_callB call_len_seq (by rfl) T.f_len PySem.boot_len (pa_cons (pv 0) pa_nil)) (pe_lenSetT (by rfl) T.f_len (by rfl) T.f_set (pv 0)) (nomark _)))), ?_⟩
    refine ⟨_, rfl, l, _, rfl, .inl (SqL.of hl), _, rfl, l, xs, rfl, SqL.of hl, nd, few, rfl, ?_⟩
    rw [List.length_map, decide_eq_true rfl]
    exact q
def spArs : Sp := fun vs H Q _ => ∃ (bt lt : Addr), vs = [.ref bt, .ref lt] ∧ StoP H bt lt ∧ ∀ H', Same H H' → Q (.bl true) H'
theorem sc_ars : FnScope ["boxes", "lists", "one"] ["boxes", "lists"] (defScope S_are_stores) := ⟨rfl, rfl, rfl, by decide +kernel, rfl, by decide +kernel, by decide +kernel⟩
theorem ok_ars (T : Txt K mg) : FnOk P w K mg base CX0 3 (A_are_stores K) (fdOf K (A_are_stores K)) ["boxes", "lists"] spArs := by
  have G_is_tuple : FnOk P w K mg base CX0 1 (A_is_tuple K) (fdOf K (A_is_tuple K)) ["thing", "most"] spIst := ok_ist T
  have G_is_pair : FnOk P w K mg base CX0 2 (A_is_pair K) (fdOf K (A_is_pair K)) ["thing"] spIsp := ok_isp T
  have G_is_number : FnOk P w K mg base CX0 1 (A_is_number K) (fdOf K (A_is_number K)) ["thing"] spIsn := ok_isn T
  have G_are_numbers : FnOk P w K mg base CX0 2 (A_are_numbers K) (fdOf K (A_are_numbers K)) ["thing", "most"] spArn := ok_arn T
  have G_are_unlike : FnOk P w K mg base CX0 1 (A_are_unlike K) (fdOf K (A_are_unlike K)) ["names"] spAru := ok_aru T
  refine T.d_are_stores.ok sc_ars (fun vs H Q E h => ?_) (fun cdv A outer s H vs Q E hr h => ?_)
  · obtain ⟨bt, lt, rfl, _⟩ := h
    rfl
  · obtain ⟨bt, lt, rfl, ⟨b1, l1, n1, hb, hb1, hl, hl1, hn1⟩, q⟩ := h
    refine ⟨_, (pss_cons (ps_if (PW.pt (pw_or (pt_not (pt_val (pe_call G_is_tuple (hr.mono (by decide)) rfl T.g_is_tuple T.d_is_tuple.kp (b_is_tuple T) .nil pass0 (pa_cons (pv 0) (pa_cons (pe_gi T.i_MOST_BOXES) pa_nil))))) (pw_or1 (pt_not (pt_val (pe_callB (cr_all rfl) (by rfl) T.f_all (by decide +kernel) (pa_cons (by exact (pe_lc (own := [("one", 2)]) rfl sc_ars.nd (pi_tup (pv 0)) (blkOk_by (own := [("one", 2)]) (N := ["boxes", "lists", "one"]) (sc := defScope S_are_stores) (by decide +kernel)) (fun _ _ _ _ _ => (pg_name (i := 2) sc_ars.nd rfl (.inl rfl))) (fun _ _ _ _ _ => pts_nil) (fun _ _ _ _ _ => (pe_and (pe_call G_is_pair (hr.mono (by decide)) rfl T.g_is_pair T.d_is_pair.kp (b_is_pair T) .nil pass0 (pa_cons (pv 2) pa_nil)) (pe_one (pe_call G_is_number (hr.mono (by decide)) rfl T.g_is_number T.d_is_number.kp (b_is_number T) .nil pass0 (pa_cons (pe_ix (show IxR _ (rIxT K) from ix_tup) (pv 2) pe_int (fun _ _ => rfl)) pa_nil))))))) pa_nil))))))) (pss_one (ps_ret pe_bl))
        pss_nil)
      (pss_cons (ps_if (PW.pt (pw_or (pt_not (pt_val (pe_call G_is_tuple (hr.mono (by decide)) rfl T.g_is_tuple T.d_is_tuple.kp (b_is_tuple T) .nil pass0 (pa_cons (pv 1) (pa_cons (pe_gi T.i_MOST_LISTS) pa_nil))))) (pw_or1 (pt_not (pt_val (pe_callB (cr_all rfl) (by rfl) T.f_all (by decide +kernel) (pa_cons (by exact (pe_lc (own := [("one", 2)]) rfl sc_ars.nd (pi_tup (pv 1)) (blkOk_by (own := [("one", 2)]) (N := ["boxes", "lists", "one"]) (sc := defScope S_are_stores) (by decide +kernel)) (fun _ _ _ _ _ => (pg_name (i := 2) sc_ars.nd rfl (.inl rfl))) (fun _ _ _ _ _ => pts_nil) (fun _ _ _ _ _ => (pe_and (pe_call G_is_pair (hr.mono (by decide)) rfl T.g_is_pair T.d_is_pair.kp (b_is_pair T) .nil pass0 (pa_cons (pv 2) pa_nil)) (pe_one (pe_call G_are_numbers (hr.mono (by decide)) rfl T.g_are_numbers T.d_are_numbers.kp (b_are_numbers T) .nil pass0 (pa_cons (pe_ix (show IxR _ (rIxT K) from ix_tup) (pv 2) pe_int (fun _ _ => rfl)) (pa_cons (pe_gi T.i_MOST_THINGS) pa_nil)))))))) pa_nil))))))) (pss_one (ps_ret pe_bl))
        pss_nil)
      (pss_one (ps_ret (pe_call G_are_unlike (hr.mono (by decide)) rfl T.g_are_unlike T.d_are_unlike.kp (b_are_unlike T) .nil pass0 (pa_cons (by exact (pe_lc (own := [("one", 2)]) rfl sc_ars.nd (pi_tup (pe_op op_catT (pv 0) (pv 1))) (blkOk_by (own := [("one", 2)]) (N := ["boxes", "lists", "one"]) (sc := defScope S_are_stores) (by decide +kernel)) (fun _ _ _ _ _ => (pg_name (i := 2) sc_ars.nd rfl (.inl rfl))) (fun _ _ _ _ _ => pts_nil) (fun _ _ _ _ _ => (pe_ix (show IxR _ (rIxT K) from ix_tup) (pv 2) pe_int (fun _ _ => rfl))))) pa_nil)))))), ?_⟩
    refine ⟨_, rfl, bt, 6, _, rfl, hb, (by show (1 : Int) ≤ 6; decide), true, rfl, itF rfl ?_⟩
    refine ⟨_, rfl, bt, rfl, ⟨_, SqT.of hb⟩, fun D hD => ?_⟩
    refine lc_tup (K := K) (a := bt) (xs := [.ref b1]) (fun i H' => H' = upd H D (.lst (([.bl true] : List V).take i))) rfl (fun i H' _ e => by rw [e]; exact SqT.of (upk hb hD)) ?_ ?_
    · rintro i y H' hy rfl
      match i, hy with
      | 0, hy =>
        obtain rfl : y = V.ref b1 := (Option.some.inj hy).symm
        have h1 : upd H D (.lst (([.bl true] : List V).take 0)) b1 = some (.tup [.str "x", .int 7]) := upk hb1 hD
        exact ⟨rfl, _, rfl, b1, "x", _, rfl, h1, .inl rfl, _, rfl, itT rfl ⟨_, rfl, b1, _, 1, .int 7, rfl, rfl, SqT.of h1, atI_nat (j := 1) rfl, 7, rfl, by decide, by decide, _, upd_same, (by show 0 < sizeLine; decide), by rw [upd_upd]; rfl⟩⟩
      | i + 1, hy => cases hy
    rintro H1 rfl
    have S1 : Same H (upd H D (.lst [.bl true])) := same_new hD
    refine ⟨D, [true], rfl, SqL.of upd_same, true, rfl, iteF ?_⟩
    have hb := S1 _ _ hb
    have hl := S1 _ _ hl
    have hl1 := S1 _ _ hl1
    have hn1 := S1 _ _ hn1
    have hb1 := S1 _ _ hb1
    show tSeq _ _ _ _ (upd H D (.lst [.bl true]))
    generalize upd H D (.lst [.bl true]) = H1 at *
    refine ⟨_, rfl, lt, 3, _, rfl, hl, (by show (1 : Int) ≤ 3; decide), true, rfl, itF rfl ?_⟩
    refine ⟨_, rfl, lt, rfl, ⟨_, SqT.of hl⟩, fun D2 hD2 => ?_⟩
    refine lc_tup (K := K) (a := lt) (xs := [.ref l1]) (fun i H' => (i = 0 ∧ H' = upd H1 D2 (.lst [])) ∨ (i = 1 ∧ Same H1 H' ∧ H' D2 = some (.lst [.bl true]))) (.inl ⟨rfl, rfl⟩) ?_ ?_ ?_
    · rintro i H' _ (⟨_, rfl⟩ | ⟨_, S, _⟩)
      · exact SqT.of (upk hl hD2)
      · exact SqT.of (S _ _ hl)
    · rintro i y H' hy (⟨rfl, rfl⟩ | ⟨rfl, _⟩)
      · obtain rfl : y = V.ref l1 := (Option.some.inj hy).symm
        have h1 : upd H1 D2 (.lst []) l1 = some (.tup [.str "l", .ref n1]) := upk hl1 hD2
        refine ⟨rfl, _, rfl, l1, "l", _, rfl, h1, .inr rfl, _, rfl, itT rfl ⟨_, rfl, l1, _, 1, .ref n1, rfl, rfl, SqT.of h1, atI_nat (j := 1) rfl, n1, rfl, upk hn1 hD2, fun H2 S2 => ⟨[], S2 _ _ upd_same, (by show 0 < sizeLine; decide), .inr ⟨rfl, sover ((same_new hD2).trans S2) hD2, upd_same⟩⟩⟩⟩
      · cases hy
    rintro H2 (⟨z, _⟩ | ⟨_, S2, hD3⟩)
    · cases z
    refine ⟨D2, [true], rfl, SqL.of hD3, true, rfl, iteF ?_⟩
    have hb := S2 _ _ hb
    have hl := S2 _ _ hl
    have hl1 := S2 _ _ hl1
    have hb1 := S2 _ _ hb1
    have S12 := S1.trans S2
    refine ⟨_, rfl, _, rfl, bt, lt, [.ref b1], [.ref l1], rfl, rfl, SqT.of hb, SqT.of hl, (by intro z; cases z), (by show 2 ≤ sizeLine; decide), (fun z => by cases z), fun _ t ht => ⟨t, rfl, ⟨_, SqT.of upd_same⟩, fun D3 hD3 => ?_⟩⟩
    have ht1 : upd H2 t (.tup ([V.ref b1] ++ [V.ref l1])) t = some (.tup [.ref b1, .ref l1]) := upd_same
    have hb2 := upk (o := .tup ([V.ref b1] ++ [V.ref l1])) hb1 ht
    have hl2 := upk (o := .tup ([V.ref b1] ++ [V.ref l1])) hl1 ht
    have S3 := same_trans_new (o := .tup ([V.ref b1] ++ [V.ref l1])) S12 ht
    generalize upd H2 t (.tup ([V.ref b1] ++ [V.ref l1])) = H3 at *
    refine lc_tup (K := K) (a := t) (xs := [.ref b1, .ref l1]) (fun i H' => H' = upd H3 D3 (.lst (([.str "x", .str "l"] : List V).take i))) rfl (fun i H' _ e => by rw [e]; exact SqT.of (upk ht1 hD3)) ?_ ?_
    · rintro i y H' hy rfl
      match i, hy with
      | 0, hy =>
        obtain rfl : y = V.ref b1 := (Option.some.inj hy).symm
        exact ⟨rfl, _, rfl, b1, _, 0, .str "x", rfl, rfl, SqT.of (upk hb2 hD3), atI_nat (j := 0) rfl, _, upd_same, (by show 0 < sizeLine; decide), by rw [upd_upd]; rfl⟩
      | 1, hy =>
        obtain rfl : y = V.ref l1 := (Option.some.inj hy).symm
        exact ⟨rfl, _, rfl, l1, _, 0, .str "l", rfl, rfl, SqT.of (upk hl2 hD3), atI_nat (j := 0) rfl, _, upd_same, (by show 1 < sizeLine; decide), by rw [upd_upd]; rfl⟩
      | i + 2, hy => cases hy
    · rintro H' rfl
      exact ⟨D3, ["x", "l"], rfl, upd_same, (by decide +kernel), (by decide), q _ (same_trans_new S3 hD3)⟩
def spArf : Sp := fun vs H Q _ => ∃ (t : Addr) (y : V), vs = [.ref t, y] ∧ H t = some (.tup []) ∧ ∀ H', Same H H' → Q (.bl true) H'
theorem sc_arf : FnScope ["thing", "names", "one"] ["thing", "names"] (defScope S_are_functions) := ⟨rfl, rfl, rfl, by decide +kernel, rfl, by decide +kernel, by decide +kernel⟩
theorem ok_arf (T : Txt K mg) : FnOk P w K mg base CX0 2 (A_are_functions K) (fdOf K (A_are_functions K)) ["thing", "names"] spArf := by
  have G_is_tuple : FnOk P w K mg base CX0 1 (A_is_tuple K) (fdOf K (A_is_tuple K)) ["thing", "most"] spIst := ok_ist T
  have G_are_unlike : FnOk P w K mg base CX0 1 (A_are_unlike K) (fdOf K (A_are_unlike K)) ["names"] spAru := ok_aru T
  refine T.d_are_functions.ok sc_arf (fun vs H Q E h => ?_) (fun cdv A outer s H vs Q E hr h => ?_)
  · obtain ⟨t, y, rfl, _⟩ := h
    rfl
  · obtain ⟨t, y, rfl, ht, q⟩ := h
    refine ⟨_, (pss_cons (ps_if (PW.pt (pw_or (pt_not (pt_val (pe_call G_is_tuple (hr.mono (by decide)) rfl T.g_is_tuple T.d_is_tuple.kp (b_is_tuple T) .nil pass0 (pa_cons (pv 0) (pa_cons (pe_gi T.i_MOST_FUNCTIONS) pa_nil))))) (pw_or1 (pt_not (pt_val (pe_callB (cr_all rfl) (by rfl) T.f_all (by decide +kernel) (pa_cons (by exact (pe_lc (own := [("one", 2)]) rfl sc_arf.nd (pi_tup (pv 0)) (blkOk_by (own := [("one", 2)]) (N := ["thing", "names", "one"]) (sc := defScope S_are_functions) (by decide +kernel)) (fun _ _ _ _ _ => (pg_name (i := 2) sc_arf.nd rfl (.inl rfl))) (fun _ _ _ _ _ => pts_nil) (fun _ _ _ _ _ => pe_never))) pa_nil))))))) (pss_one (ps_ret pe_bl))
        pss_nil)
      (pss_one (ps_ret (pe_call G_are_unlike (hr.mono (by decide)) rfl T.g_are_unlike T.d_are_unlike.kp (b_are_unlike T) .nil pass0 (pa_cons (by exact (pe_lc (own := [("one", 2)]) rfl sc_arf.nd (pi_tup (pv 0)) (blkOk_by (own := [("one", 2)]) (N := ["thing", "names", "one"]) (sc := defScope S_are_functions) (by decide +kernel)) (fun _ _ _ _ _ => (pg_name (i := 2) sc_arf.nd rfl (.inl rfl))) (fun _ _ _ _ _ => pts_nil) (fun _ _ _ _ _ => (pe_ix (show IxR _ (rIxT K) from ix_tup) (pv 2) pe_int (fun _ _ => rfl))))) pa_nil))))), ?_⟩
    refine ⟨_, rfl, t, 4, _, rfl, ht, (by decide), true, rfl, itF rfl ?_⟩
    refine ⟨_, rfl, t, rfl, ⟨_, SqT.of ht⟩, fun D hD => ?_⟩
    refine lc_tup (K := K) (a := t) (xs := []) (te := fun _ _ _ => False) (fun i H' => H' = upd H D (.lst [])) rfl (fun i H' _ e => by rw [e]; exact SqT.of (upk ht hD)) (fun i y H' hy _ => by cases hy) ?_
    rintro H' rfl
    refine ⟨D, [], rfl, SqL.of upd_same, true, rfl, iteF ?_⟩
    refine ⟨_, rfl, t, rfl, ⟨_, SqT.of (upk ht hD)⟩, fun D2 hD2 => ?_⟩
    refine lc_tup (K := K) (a := t) (xs := []) (fun i H' => H' = upd (upd H D (.lst [])) D2 (.lst [])) rfl (fun i H' _ e => by rw [e]; exact SqT.of (upk (upk ht hD) hD2)) (fun i y H' hy _ => by cases hy) ?_
    rintro H' rfl
    exact ⟨D2, [], rfl, upd_same, List.nodup_nil, (by decide), q _ ((same_new hD).trans (same_new hD2))⟩
def spSci (K : PySem.W.Frag) : Sp := fun vs H Q _ => ∃ (p bx ls fn dx : Addr), vs = [.ref p, .ref bx, .ref ls, .ref fn, .bl false] ∧ H p = some (.ins (C_Scope K) dx []) ∧ Q .non (upd H p (.ins (C_Scope K) dx (fsS bx ls fn)))
theorem sc_sci : FnScope ["self", "boxes", "lists", "functions", "inside"] ["self", "boxes", "lists", "functions", "inside"] (defScope S_Scope_init) := ⟨rfl, rfl, rfl, by decide +kernel, rfl, by decide +kernel, by decide +kernel⟩
theorem ok_sci (T : Txt K mg) : FnOk P w K mg base CX0 1 (A_Scope_init K) (fdOf K (A_Scope_init K)) ["self", "boxes", "lists", "functions", "inside"] (spSci K) := by
  refine T.d_Scope_init.ok sc_sci (fun vs H Q E h => ?_) (fun cdv A outer s H vs Q E hr h => ?_)
  · obtain ⟨p, bx, ls, fn, dx, rfl, _⟩ := h
    rfl
  · obtain ⟨p, bx, ls, fn, dx, rfl, hp, q⟩ := h
    refine ⟨_, (pss_cons (ps_fld (pv 0) (pv 1) rfl)
      (pss_cons (ps_fld (pv 0) (pv 2) rfl)
      (pss_cons (ps_fld (pv 0) (pv 3) rfl)
      (pss_one (ps_fld (pv 0) (pv 4) rfl))))), ?_⟩
    refine ⟨_, rfl, _, rfl, p, _, dx, _, rfl, hp, T.c_Scope, T.n_Scope_boxes, (by show 0 < 1000; decide), ?_⟩
    have e1 : putF "boxes" (.ref bx) [] = ([("boxes", .ref bx)] : List (Str × V)) := rfl
    rw [e1]
    refine ⟨_, rfl, _, rfl, p, _, dx, _, rfl, upd_same, T.c_Scope, T.n_Scope_lists, (by show 1 < 1000; decide), ?_⟩
    have e2 : putF "lists" (.ref ls) ([("boxes", .ref bx)] : List (Str × V)) = ([("boxes", .ref bx), ("lists", .ref ls)] : List (Str × V)) := (pt1 s_lb).trans (by rw [ptn])
    rw [e2, upd_upd]
    refine ⟨_, rfl, _, rfl, p, _, dx, _, rfl, upd_same, T.c_Scope, T.n_Scope_functions, (by show 2 < 1000; decide), ?_⟩
    have e3 : putF "functions" (.ref fn) ([("boxes", .ref bx), ("lists", .ref ls)] : List (Str × V)) = ([("boxes", .ref bx), ("lists", .ref ls), ("functions", .ref fn)] : List (Str × V)) := (pt1 s_fb).trans (by rw [pt1 s_fl, ptn])
    rw [e3, upd_upd]
    refine ⟨_, rfl, _, rfl, p, _, dx, _, rfl, upd_same, T.c_Scope, T.n_Scope_inside, (by show 3 < 1000; decide), ?_⟩
    have e4 : putF "inside" (.bl false) ([("boxes", .ref bx), ("lists", .ref ls), ("functions", .ref fn)] : List (Str × V)) = fsS bx ls fn := (pt1 s_ib).trans (by rw [pt1 s_il, pt1 s_if, ptn]; rfl)
    rw [e4, upd_upd]
    exact q
def spNr (K : PySem.W.Frag) : Sp := fun vs H Q E => ∃ (s sc bx ls : Addr) (xs : List V) (r : Rs), vs = [.ref s, .ref sc] ∧ H s = some (.tup xs) ∧ RsI H r xs ∧ ScP K H sc bx ls ∧
  ((rok r 1 = true ∧ ∀ H', Same H H' → Q .non H') ∨ (rok r 1 = false ∧ ∀ H', E (.ref (C_NoRow K)) none H'))
theorem sc_nr : FnScope ["rows", "scope", "row"] ["rows", "scope"] (defScope S_need_rows) := ⟨rfl, rfl, rfl, by decide +kernel, rfl, by decide +kernel, by decide +kernel⟩
theorem ok_nr (T : Txt K mg) : FnOk P w K mg base (CXN P w) 21 (A_need_rows K) (fdOf K (A_need_rows K)) ["rows", "scope"] (spNr K) := by
  have G_is_row : FnOk P w K mg base CX0 20 (A_is_row K) (fdOf K (A_is_row K)) ["thing", "scope", "deep"] (spRow K 1) := ok_row T 5 1 rfl
  refine okX T.d_need_rows sc_nr (fun vs H Q E h => ?_) (fun cdv A outer s H vs Q E hr h => ?_)
  · obtain ⟨s, sc, bx, ls, xs, r, rfl, _⟩ := h
    rfl
  · obtain ⟨t, sc, bx, ls, xs, r, rfl, ht, hR, hs, h⟩ := h
    refine ⟨_, (pss_one (ps_for PassesOwn.leaving rfl (pi_tup (pv 0)) (pg_name (i := 2) sc_nr.nd rfl (.inl rfl))
        (pss_one (ps_if (pt_not (pt_val (pe_call G_is_row (hr.mono (by decide)) rfl T.g_is_row T.d_is_row.kp (b_is_row T) .nil pass0 (pa_cons (pv 2) (pa_cons (pv 1) (pa_cons pe_int pa_nil)))))) (pss_one (ps_raiseK rfl takesE T.e_NoRow T.g_NoRow rfl))
          pss_nil)))), ?_⟩
    rcases rs_one hR with ⟨rfl, rfl⟩ | ⟨p, rfl⟩
    · rcases h with ⟨_, q⟩ | ⟨z, _⟩
      · refine ⟨_, rfl, t, rfl, ⟨_, SqT.of ht⟩, for_tup (K := K) (a := t) (xs := []) (fun i σ H' => H' = H) rfl (fun i σ H' _ e => by rw [e]; exact SqT.of ht) (fun i y σ H' hy _ => by cases hy) ?_⟩
        rintro σ H' rfl
        exact q _ fun _ _ e => e
      · cases z
    · refine ⟨_, rfl, t, rfl, ⟨_, SqT.of ht⟩, for_tup (K := K) (a := t) (xs := [.ref p]) (fun i σ H' => Same H H' ∧ (∃ s2, σ = [some (.ref t), some (.ref sc), s2]) ∧ (i = 0 ∨ rok r 1 = true)) ⟨fun _ _ e => e, ⟨_, rfl⟩, .inl rfl⟩ (fun i σ H' _ e => SqT.of (e.1 _ _ ht)) ?_ ?_⟩
      · rintro i y σ H' hy ⟨S, ⟨s2, rfl⟩, hi⟩
        match i, hy with
        | 0, hy =>
          obtain rfl : y = V.ref p := (Option.some.inj hy).symm
          refine ⟨_, rfl, _, rfl, p, sc, bx, ls, r, rfl, hR.mono (ts_same S), hs.same S, fun H2 S2 => ⟨_, rfl, ?_⟩⟩
          rcases h with ⟨c, q⟩ | ⟨c, e⟩
          · exact itF (by rw [c]; rfl) ⟨S.trans S2, ⟨_, rfl⟩, .inr c⟩
          · exact itT (by rw [c]; rfl) (e _)
        | i + 1, hy => cases hy
      · rintro σ H' ⟨S, _, z | c⟩
        · cases z
        · rcases h with ⟨_, q⟩ | ⟨c2, _⟩
          · exact q _ S
          · rw [c] at c2
            cases c2
end
end Rt
end S_RtSto

section S_RtPgm
set_option Elab.async false
set_option linter.all false
set_option maxRecDepth 100000
set_option maxHeartbeats 4000000
/-! rows by their numbers -/
namespace Rt
open PySem PySem.Spec PyProof.Rows L2
def subsOf : Rs → List Rs
  | .none => []
  | .tell _ => []
  | .ifR a => [a, .none]
  | .whR a => [a]
  | .tryR a b => [a, b]
def cnt : Rs → Nat
  | .none => 0
  | .tell _ => 1
  | .ifR a => cnt a + 1
  | .whR a => cnt a + 1
  | .tryR a b => cnt a + cnt b + 1
def dep : Rs → Nat
  | .none => 0
  | .tell _ => 1
  | .ifR a => dep a + 1
  | .whR a => dep a + 1
  | .tryR a b => max (dep a) (dep b) + 1
theorem cnt_dep : ∀ r, cnt r + 1 ≤ 2 ^ dep r
  | .none => Nat.le_refl 1
  | .tell _ => Nat.le_refl 2
  | .ifR a => by
    have h := cnt_dep a
    show cnt a + 1 + 1 ≤ 2 ^ (dep a + 1)
    rw [Nat.pow_succ]
    omega
  | .whR a => by
    have h := cnt_dep a
    show cnt a + 1 + 1 ≤ 2 ^ (dep a + 1)
    rw [Nat.pow_succ]
    omega
  | .tryR a b => by
    have h1 := cnt_dep a
    have h2 := cnt_dep b
    show cnt a + cnt b + 1 + 1 ≤ 2 ^ (max (dep a) (dep b) + 1)
    have k1 : 2 ^ dep a ≤ 2 ^ max (dep a) (dep b) := Nat.pow_le_pow_right (by decide) (Nat.le_max_left _ _)
    have k2 : 2 ^ dep b ≤ 2 ^ max (dep a) (dep b) := Nat.pow_le_pow_right (by decide) (Nat.le_max_right _ _)
    rw [Nat.pow_succ]
    omega
theorem rok_dep : ∀ (r : Rs) (d : Nat), rok r d = true → r = .none ∨ dep r + d ≤ 6
  | .none, _, _ => .inl rfl
  | .tell v, d, h => by
    simp [rok] at h
    exact .inr (by show 1 + d ≤ 6; omega)
  | .ifR a, d, h => by
    simp [rok] at h
    refine .inr ?_
    show dep a + 1 + d ≤ 6
    rcases rok_dep a (d + 1) h.2 with rfl | k
    · show 0 + 1 + d ≤ 6
      omega
    · omega
  | .whR a, d, h => by
    simp [rok] at h
    refine .inr ?_
    show dep a + 1 + d ≤ 6
    rcases rok_dep a (d + 1) h.2 with rfl | k
    · show 0 + 1 + d ≤ 6
      omega
    · omega
  | .tryR a b, d, h => by
    simp [rok] at h
    refine .inr ?_
    show max (dep a) (dep b) + 1 + d ≤ 6
    have k1 : dep a + 1 + d ≤ 6 := by
      rcases rok_dep a (d + 1) h.2.1 with rfl | k
      · show 0 + 1 + d ≤ 6
        omega
      · omega
    have k2 : dep b + 1 + d ≤ 6 := by
      rcases rok_dep b (d + 1) h.2.2 with rfl | k
      · show 0 + 1 + d ≤ 6
        omega
      · omega
    omega
theorem rok_small {r : Rs} (h : rok r 1 = true) : dep r ≤ 5 ∧ cnt r ≤ 31 := by
  have hd : dep r ≤ 5 := by
    rcases rok_dep r 1 h with rfl | k
    · exact Nat.zero_le _
    · omega
  have hc := cnt_dep r
  have hp : 2 ^ dep r ≤ 2 ^ 5 := Nat.pow_le_pow_right (by decide) hd
  have e : (2 : Nat) ^ 5 = 32 := rfl
  exact ⟨hd, by omega⟩
theorem subs_cnt {r : Rs} (h : r ≠ .none) : ((subsOf r).map cnt).sum + 1 = cnt r := by
  cases r with
  | none => exact absurd rfl h
  | tell v => rfl
  | ifR a => simp [subsOf, cnt]
  | whR a => simp [subsOf, cnt]
  | tryR a b => simp [subsOf, cnt]
theorem subs_dep {r z : Rs} (h : z ∈ subsOf r) : dep z + 1 ≤ dep r := by
  cases r with
  | none => cases h
  | tell v => cases h
  | ifR a =>
    rcases List.mem_cons.mp h with rfl | h
    · exact Nat.le_refl _
    · rw [List.mem_singleton.mp h]
      exact Nat.succ_le_succ (Nat.zero_le _)
  | whR a =>
    rw [List.mem_singleton.mp h]
    exact Nat.le_refl _
  | tryR a b =>
    rcases List.mem_cons.mp h with rfl | h
    · exact Nat.succ_le_succ (Nat.le_max_left _ _)
    · rw [List.mem_singleton.mp h]
      exact Nat.succ_le_succ (Nat.le_max_right _ _)
section
variable {P : Program} {w : World} {K : PySem.W.Frag} {mg : Str → Option Value} {base : Heap}
def SubP (H : Hp) (L : List (Addr × Rs)) : Prop := ∀ z ∈ L, ∃ xs, H z.1 = some (.tup xs) ∧ RsI H z.2 xs
theorem SubP.mono {H H' : Hp} (t : TupS H H') {L : List (Addr × Rs)} (h : SubP H L) : SubP H' L := fun z hz =>
  let ⟨xs, h1, h2⟩ := h z hz
  ⟨xs, t _ _ h1, h2.mono t⟩
def spRw : Sp := fun vs H Q _ => ∃ (p : Addr) (r : Rs), vs = [.ref p] ∧ RsI H r [.ref p] ∧ ∀ H' l (L : List (Addr × Rs)), Same H H' → H l = none → H' l = some (.lst (L.map fun z => V.ref z.1)) → SubP H' L → L.map (·.2) = subsOf r → Q (.ref l) H'
theorem sc_rw : FnScope ["row"] ["row"] (defScope S_rows_within) := ⟨rfl, rfl, rfl, by decide +kernel, rfl, by decide +kernel, by decide +kernel⟩
theorem ok_rw (T : Txt K mg) : FnOk P w K mg base CX0 1 (A_rows_within K) (fdOf K (A_rows_within K)) ["row"] spRw := by
  refine T.d_rows_within.ok sc_rw (fun vs H Q E h => ?_) (fun cdv A outer s H vs Q E hr h => ?_)
  · obtain ⟨p, r, rfl, _⟩ := h
    rfl
  · obtain ⟨a, r, rfl, hR, q⟩ := h
    refine ⟨_, (pss_cons (ps_if (pt_cmpR op_eq (pe_ix ix_tup (pv 0) pe_int (fun _ _ => rfl)) pe_str (nomark _)) (pss_one (ps_ret (pe_lst (pa_cons (pe_ix ix_tup (pv 0) pe_int (fun _ _ => rfl)) (pa_cons (pe_ix ix_tup (pv 0) pe_int (fun _ _ => rfl)) pa_nil)))))
        pss_nil)
      (pss_cons (ps_if (pt_cmpR op_eq (pe_ix ix_tup (pv 0) pe_int (fun _ _ => rfl)) pe_str (nomark _)) (pss_one (ps_ret (pe_lst (pa_cons (pe_ix ix_tup (pv 0) pe_int (fun _ _ => rfl)) pa_nil))))
        pss_nil)
      (pss_cons (ps_if (pt_cmpR op_eq (pe_ix ix_tup (pv 0) pe_int (fun _ _ => rfl)) pe_str (nomark _)) (pss_one (ps_ret (pe_lst (pa_cons (pe_ix ix_tup (pv 0) pe_int (fun _ _ => rfl)) (pa_cons (pe_ix ix_tup (pv 0) pe_int (fun _ _ => rfl)) pa_nil)))))
        pss_nil)
      (pss_one (ps_ret (pe_lst pa_nil)))))), ?_⟩
    cases r with
    | none => cases hR
    | tell v =>
      obtain ⟨p, q1, e, hp, hv⟩ := hR
      cases e
      refine ⟨_, rfl, a, _, 0, .str "tell", rfl, rfl, SqT.of hp, atI_nat (j := 0) rfl, rfl, _, rfl, itF (by decide +kernel) ?_⟩
      refine ⟨_, rfl, a, _, 0, .str "tell", rfl, rfl, SqT.of hp, atI_nat (j := 0) rfl, rfl, _, rfl, itF (by decide +kernel) ?_⟩
      refine ⟨_, rfl, a, _, 0, .str "tell", rfl, rfl, SqT.of hp, atI_nat (j := 0) rfl, rfl, _, rfl, itF (by decide +kernel) ?_⟩
      refine ⟨(by show 0 ≤ sizeLine; decide), fun l hl => ?_⟩
      exact q _ l [] (same_new hl) hl upd_same (fun z hz => nomatch hz) rfl
    | ifR b =>
      obtain ⟨p, q1, s1, t1, ys1, e, hp, hv, h3, h4, h5⟩ := hR
      cases e
      refine ⟨_, rfl, a, _, 0, .str "if", rfl, rfl, SqT.of hp, atI_nat (j := 0) rfl, rfl, _, rfl, itT (by decide +kernel) ?_⟩
      refine ⟨_, rfl, a, _, 2, .ref s1, rfl, rfl, SqT.of hp, atI_nat (j := 2) rfl, _, rfl, a, _, 3, .ref t1, rfl, rfl, SqT.of hp, atI_nat (j := 3) rfl, (by show 2 ≤ sizeLine; decide), fun l hl => ?_⟩
      have S := same_new (o := .lst [.ref s1, .ref t1]) hl
      refine q _ l [(s1, b), (t1, .none)] S hl upd_same (fun z hz => ?_) rfl
      rcases List.mem_cons.mp hz with rfl | hz
      · exact ⟨ys1, S _ _ h3, h4.mono (ts_same S)⟩
      · rw [List.mem_singleton.mp hz]
        exact ⟨[], S _ _ h5, rfl⟩
    | whR b =>
      obtain ⟨p, q1, s1, ys1, e, hp, hv, h3, h4⟩ := hR
      cases e
      refine ⟨_, rfl, a, _, 0, .str "while", rfl, rfl, SqT.of hp, atI_nat (j := 0) rfl, rfl, _, rfl, itF (by decide +kernel) ?_⟩
      refine ⟨_, rfl, a, _, 0, .str "while", rfl, rfl, SqT.of hp, atI_nat (j := 0) rfl, rfl, _, rfl, itT (by decide +kernel) ?_⟩
      refine ⟨_, rfl, a, _, 2, .ref s1, rfl, rfl, SqT.of hp, atI_nat (j := 2) rfl, (by show 1 ≤ sizeLine; decide), fun l hl => ?_⟩
      have S := same_new (o := .lst [.ref s1]) hl
      refine q _ l [(s1, b)] S hl upd_same (fun z hz => ?_) rfl
      rw [List.mem_singleton.mp hz]
      exact ⟨ys1, S _ _ h3, h4.mono (ts_same S)⟩
    | tryR b c =>
      obtain ⟨p, s1, t1, ys1, zs1, e, hp, h3, h4, h5, h6⟩ := hR
      cases e
      refine ⟨_, rfl, a, _, 0, .str "try", rfl, rfl, SqT.of hp, atI_nat (j := 0) rfl, rfl, _, rfl, itF (by decide +kernel) ?_⟩
      refine ⟨_, rfl, a, _, 0, .str "try", rfl, rfl, SqT.of hp, atI_nat (j := 0) rfl, rfl, _, rfl, itF (by decide +kernel) ?_⟩
      refine ⟨_, rfl, a, _, 0, .str "try", rfl, rfl, SqT.of hp, atI_nat (j := 0) rfl, rfl, _, rfl, itT (by decide +kernel) ?_⟩
      refine ⟨_, rfl, a, _, 1, .ref s1, rfl, rfl, SqT.of hp, atI_nat (j := 1) rfl, _, rfl, a, _, 3, .ref t1, rfl, rfl, SqT.of hp, atI_nat (j := 3) rfl, (by show 2 ≤ sizeLine; decide), fun l hl => ?_⟩
      have S := same_new (o := .lst [.ref s1, .ref t1]) hl
      refine q _ l [(s1, b), (t1, c)] S hl upd_same (fun z hz => ?_) rfl
      rcases List.mem_cons.mp hz with rfl | hz
      · exact ⟨ys1, S _ _ h3, h4.mono (ts_same S)⟩
      · rw [List.mem_singleton.mp hz]
        exact ⟨zs1, S _ _ h5, h6.mono (ts_same S)⟩
def spPut (n : Nat) : Sp := fun vs H Q _ => ∃ (t f : Addr) (ar : V) (xs fs : List V) (r : Rs), vs = [.ref t, ar, .ref f] ∧ H t = some (.tup xs) ∧ RsI H r xs ∧ dep r ≤ n ∧ H f = some (.lst fs) ∧ fs.length + cnt r ≤ 1000 ∧
  ∀ H' fs', But f H H' → H' f = some (.lst fs') → fs'.length = fs.length + cnt r → Q .non H'
theorem sc_put : FnScope ["rows", "around", "found", "row", "number", "some"] ["rows", "around", "found"] (defScope S_put_rows) := ⟨rfl, rfl, rfl, by decide +kernel, rfl, by decide +kernel, by decide +kernel⟩
theorem ok_put0 (T : Txt K mg) : FnOk P w K mg base CX0 2 (A_put_rows K) (fdOf K (A_put_rows K)) ["rows", "around", "found"] (spPut 0) := by
  have G_rows_within : FnOk P w K mg base CX0 1 (A_rows_within K) (fdOf K (A_rows_within K)) ["row"] spRw := ok_rw T
  refine T.d_put_rows.ok sc_put (fun vs H Q E h => ?_) (fun cdv A outer s H vs Q E hr h => ?_)
  · obtain ⟨t, f, ar, xs, fs, r, rfl, _⟩ := h
    rfl
  · obtain ⟨t, f, ar, xs, fs, r, rfl, ht, hR, hd, hf, hl, q⟩ := h
    refine ⟨_, (pss_one (ps_for PassesOwn.never rfl (pi_tup (pv 0)) (pg_name (i := 3) sc_put.nd rfl (.inl rfl))
        (pss_cons (ps_set (i := 4) sc_put.nd rfl (.inl rfl) (pe_callB call_len_seq (by rfl) T.f_len PySem.boot_len (pa_cons (pv 2) pa_nil)))
        (pss_cons (ps_expr (pe_bm PySem.F.plainAttrs_list PySem.F.slot_list_append PySem.F.type_list_append mt_append (pv 2) (pa_cons (pe_tup (pa_cons (pv 4) (pa_cons (pv 3) (pa_cons (pv 1) pa_nil)))) pa_nil)))
        (pss_one (ps_for PassesOwn.never rfl (pi_list (pe_call G_rows_within (hr.mono (by omega)) rfl T.g_rows_within T.d_rows_within.kp (b_rows_within T) .nil pass0 (pa_cons (pv 3) pa_nil))) (pg_name (i := 5) sc_put.nd rfl (.inl rfl))
          pss_never)))))), ?_⟩
    have e : r = .none ∧ xs = [] := by
      cases r with
      | none => exact ⟨rfl, hR⟩
      | tell v => cases hd
      | ifR a => cases hd
      | whR a => cases hd
      | tryR a b => cases hd
    obtain ⟨rfl, rfl⟩ := e
    refine ⟨_, rfl, t, rfl, ⟨_, SqT.of ht⟩, for_tup (K := K) (a := t) (xs := []) (fun i σ H' => H' = H) rfl (fun i σ H' _ e => by rw [e]; exact SqT.of ht) (fun i y σ H' hy _ => by cases hy) ?_⟩
    rintro σ H' rfl
    exact q H' fs (But.rfl' _ _) hf rfl
theorem ok_putS (T : Txt K mg) {n : Nat} (G_put_rows : FnOk P w K mg base CX0 (n + 2) (A_put_rows K) (fdOf K (A_put_rows K)) ["rows", "around", "found"] (spPut n)) : FnOk P w K mg base CX0 (n + 3) (A_put_rows K) (fdOf K (A_put_rows K)) ["rows", "around", "found"] (spPut (n + 1)) := by
  have G_rows_within : FnOk P w K mg base CX0 1 (A_rows_within K) (fdOf K (A_rows_within K)) ["row"] spRw := ok_rw T
  refine T.d_put_rows.ok sc_put (fun vs H Q E h => ?_) (fun cdv A outer s H vs Q E hr h => ?_)
  · obtain ⟨t, f, ar, xs, fs, r, rfl, _⟩ := h
    rfl
  · obtain ⟨t, f, ar, xs, fs, r, rfl, ht, hR, hd, hf, hl, q⟩ := h
    refine ⟨_, (pss_one (ps_for PassesOwn.never rfl (pi_tup (pv 0)) (pg_name (i := 3) sc_put.nd rfl (.inl rfl))
        (pss_cons (ps_set (i := 4) sc_put.nd rfl (.inl rfl) (pe_callB call_len_seq (by rfl) T.f_len PySem.boot_len (pa_cons (pv 2) pa_nil)))
        (pss_cons (ps_expr (pe_bm PySem.F.plainAttrs_list PySem.F.slot_list_append PySem.F.type_list_append mt_append (pv 2) (pa_cons (pe_tup (pa_cons (pv 4) (pa_cons (pv 3) (pa_cons (pv 1) pa_nil)))) pa_nil)))
        (pss_one (ps_for PassesOwn.never rfl (pi_list (pe_call G_rows_within (hr.mono (by omega)) rfl T.g_rows_within T.d_rows_within.kp (b_rows_within T) .nil pass0 (pa_cons (pv 3) pa_nil))) (pg_name (i := 5) sc_put.nd rfl (.inl rfl))
          (pss_one (ps_expr (pe_call G_put_rows (hr.mono (by omega)) rfl T.g_put_rows T.d_put_rows.kp (b_put_rows T) .nil pass0 (pa_cons (pv 5) (pa_cons (pv 4) (pa_cons (pv 2) pa_nil)))))))))))), ?_⟩
    rcases rs_one hR with ⟨rfl, rfl⟩ | ⟨p, rfl⟩
    · refine ⟨_, rfl, t, rfl, ⟨_, SqT.of ht⟩, for_tup (K := K) (a := t) (xs := []) (fun i σ H' => H' = H) rfl (fun i σ H' _ e => by rw [e]; exact SqT.of ht) (fun i y σ H' hy _ => by cases hy) ?_⟩
      rintro σ H' rfl
      exact q H' fs (But.rfl' _ _) hf rfl
    · have rn : r ≠ .none := by
        rintro rfl
        cases hR
      have tf : t ≠ f := ne_of ht hf (by intro z; cases z)
      refine ⟨_, rfl, t, rfl, ⟨_, SqT.of ht⟩, for_tup (K := K) (a := t) (xs := [.ref p]) (fun i σ H' => (i = 0 ∧ H' = H ∧ ∃ s3 s4 s5, σ = [some (.ref t), some ar, some (.ref f), s3, s4, s5]) ∨ (i = 1 ∧ But f H H' ∧ ∃ fs', H' f = some (.lst fs') ∧ fs'.length = fs.length + cnt r)) (.inl ⟨rfl, rfl, _, _, _, rfl⟩) ?_ ?_ ?_⟩
      · rintro i σ H' _ (⟨_, rfl, _⟩ | ⟨_, B, _⟩)
        · exact SqT.of ht
        · exact SqT.of (B _ _ tf ht)
      · rintro i y σ H' hy (⟨rfl, rfl, s3, s4, s5, rfl⟩ | ⟨rfl, _⟩)
        · obtain rfl : y = V.ref p := (Option.some.inj hy).symm
          refine ⟨_, rfl, f, _, rfl, .inl (SqL.of hf), ?_⟩
          refine ⟨_, rfl, .inl ⟨rfl, _, SqL.of hf⟩, _, rfl, _, rfl, _, rfl, (by show 3 ≤ sizeLine; decide), fun u hu => ⟨f, fs, _, rfl, rfl, upk hf hu, Nat.lt_of_le_of_lt (Nat.le_trans (Nat.le_add_right _ _) hl) (by decide), ?_⟩⟩
          have B1 := ((but_same (a := f) (same_new (o := .tup [.int ((fs.length : Nat) : Int), .ref p, ar]) hu)).at_ (o := .lst (fs ++ [.ref u])))
          have hf1 : upd (upd H' u (.tup [.int ((fs.length : Nat) : Int), .ref p, ar])) f (.lst (fs ++ [.ref u])) f = some (.lst (fs ++ [.ref u])) := upd_same
          have hR1 := hR.mono (B1.ts fun ys z => by rw [hf] at z; cases z)
          generalize upd (upd H' u (.tup [.int ((fs.length : Nat) : Int), .ref p, ar])) f (.lst (fs ++ [.ref u])) = H1 at *
          refine ⟨_, rfl, p, r, rfl, hR1, fun H2 l L S2 nl hl2 hL eL => ?_⟩
          have hf2 := S2 _ _ hf1
          have nlf : l ≠ f := (ne_of_none hf1 nl).symm
          have B2 : But f H' H2 := B1.trans (but_same S2)
          have sub : ∀ z ∈ L, dep z.2 ≤ n := fun z hz => by
            have k : z.2 ∈ subsOf r := by
              rw [← eL]
              exact List.mem_map_of_mem hz
            have k2 := subs_dep k
            omega
          have tot : ((L.map (·.2)).map cnt).sum + 1 = cnt r := by
            rw [eL]
            exact subs_cnt rn
          refine ⟨l, rfl, ⟨_, SqL.of hl2⟩, for_list (K := K) (a := l) (xs := L.map fun z => V.ref z.1) (fun i σ H3 => But f H2 H3 ∧ (∃ s5, σ = [some (.ref t), some ar, some (.ref f), some (.ref p), some (.int ((fs.length : Nat) : Int)), s5]) ∧
            ∃ fs', H3 f = some (.lst fs') ∧ fs'.length = fs.length + 1 + (((L.take i).map (·.2)).map cnt).sum) ⟨But.rfl' _ _, ⟨_, rfl⟩, _, hf2, by rw [List.length_append]; rfl⟩ (fun i σ H3 _ h => SqL.of (h.1 _ _ nlf hl2)) ?_ ?_⟩
          · rintro i y σ H3 hy ⟨B3, ⟨s5, rfl⟩, fs', hf3, el⟩
            rw [List.getElem?_map] at hy
            cases ez : L[i]? with
            | none => rw [ez] at hy; cases hy
            | some z =>
              rw [ez] at hy
              obtain rfl : y = V.ref z.1 := (Option.some.inj hy).symm
              have hm := List.mem_of_getElem? ez
              obtain ⟨zs, hz1, hz2⟩ := hL z hm
              have ts3 : TupS H2 H3 := B3.ts fun ys z => by rw [hf2] at z; cases z
              have le : (((L.take i).map (·.2)).map cnt).sum + cnt z.2 ≤ ((L.map (·.2)).map cnt).sum := by
                have e1 : L = L.take i ++ z :: L.drop (i + 1) := by
                  have hlt := (List.getElem?_eq_some_iff.mp ez).1
                  have e2 := (List.getElem?_eq_some_iff.mp ez).2
                  rw [← e2, List.getElem_cons_drop, List.take_append_drop]
                rw [e1]
                simp only [List.map_append, List.map_cons, List.sum_append, List.sum_cons, List.take_append_drop]
                rw [← e1]
                omega
              refine ⟨_, rfl, _, rfl, _, rfl, z.1, f, _, zs, fs', z.2, rfl, ts3 _ _ hz1, hz2.mono ts3, sub z hm, hf3, by omega, fun H4 fs2 B4 hf4 el4 => ?_⟩
              refine ⟨B3.trans B4, ⟨_, rfl⟩, fs2, hf4, ?_⟩
              rw [take_more ez, List.map_append, List.map_append, List.sum_append, el4, el]
              show fs.length + 1 + _ + cnt z.2 = fs.length + 1 + (_ + (cnt z.2 + 0))
              omega
          · rintro σ H3 ⟨B3, ⟨s5, rfl⟩, fs', hf3, el⟩
            rw [List.length_map, List.take_length] at el
            exact .inr ⟨rfl, B2.trans B3, fs', hf3, by omega⟩
        · cases hy
      · rintro σ H' (⟨z, _⟩ | ⟨_, B, fs', h1, h2⟩)
        · cases z
        · exact q H' fs' B h1 h2
end
end Rt
end S_RtPgm

section S_RtPgm2
set_option Elab.async false
set_option linter.all false
set_option maxRecDepth 100000
set_option maxHeartbeats 4000000
/-! program_of -/
namespace Rt
open PySem PySem.Spec PyProof.Rows L2
section
variable {P : Program} {w : World} {K : PySem.W.Frag} {mg : Str → Option Value} {base : Heap}
theorem ok_put (T : Txt K mg) : ∀ n, FnOk P w K mg base CX0 (n + 2) (A_put_rows K) (fdOf K (A_put_rows K)) ["rows", "around", "found"] (spPut n)
  | 0 => ok_put0 T
  | n + 1 => ok_putS T (ok_put T n)
def spRof : Sp := fun vs H Q _ => ∃ (p bt lt ft rt : Addr) (xs : List V) (r : Rs), vs = [.ref p] ∧ H p = some (.tup [.ref bt, .ref lt, .ref ft, .ref rt]) ∧ H ft = some (.tup []) ∧ H rt = some (.tup xs) ∧ RsI H r xs ∧ dep r ≤ 5 ∧ cnt r ≤ 1000 ∧
  ∀ H' l fs, Same H H' → H' l = some (.lst fs) → fs.length = cnt r → Q (.ref l) H'
theorem sc_rof : FnScope ["program", "found", "function", "number"] ["program"] (defScope S_rows_of) := ⟨rfl, rfl, rfl, by decide +kernel, rfl, by decide +kernel, by decide +kernel⟩
theorem ok_rof (T : Txt K mg) : FnOk P w K mg base CX0 8 (A_rows_of K) (fdOf K (A_rows_of K)) ["program"] spRof := by
  have G_put_rows : FnOk P w K mg base CX0 7 (A_put_rows K) (fdOf K (A_put_rows K)) ["rows", "around", "found"] (spPut 5) := ok_put T 5
  refine T.d_rows_of.ok sc_rof (fun vs H Q E h => ?_) (fun cdv A outer s H vs Q E hr h => ?_)
  · obtain ⟨p, bt, lt, ft, rt, xs, r, rfl, _⟩ := h
    rfl
  · obtain ⟨p, bt, lt, ft, rt, xs, r, rfl, hp, hft, hrt, hR, hd, hc, q⟩ := h
    refine ⟨_, (pss_cons (ps_set (i := 1) sc_rof.nd rfl (.inl rfl) (pe_lst pa_nil))
      (pss_cons (ps_for PassesOwn.never rfl (pi_tup (pe_ix ix_tup (pv 0) pe_int (fun _ _ => rfl))) (pg_name (i := 2) sc_rof.nd rfl (.inl rfl))
        pss_never)
      (pss_cons (ps_expr (pe_call G_put_rows (hr.mono (by decide)) rfl T.g_put_rows T.d_put_rows.kp (b_put_rows T) .nil pass0 (pa_cons (pe_ix ix_tup (pv 0) pe_int (fun _ _ => rfl)) (pa_cons (pe_un un_neg pe_int) (pa_cons (pv 1) pa_nil)))))
      (pss_one (ps_ret (pv 1)))))), ?_⟩
    refine ⟨(by show 0 ≤ sizeLine; decide), fun f hf => ?_⟩
    have S1 := same_new (o := .lst []) hf
    have hp1 := S1 _ _ hp
    refine ⟨_, rfl, p, _, 2, .ref ft, rfl, rfl, SqT.of hp1, atI_nat (j := 2) rfl, ft, rfl, ⟨_, SqT.of (S1 _ _ hft)⟩, for_tup (K := K) (a := ft) (xs := []) (fun i σ H' => H' = upd H f (.lst []) ∧ ∃ s2 s3, σ = [some (.ref p), some (.ref f), s2, s3]) ⟨rfl, _, _, rfl⟩ (fun i σ H' _ e => by rw [e.1]; exact SqT.of (S1 _ _ hft)) (fun i y σ H' hy _ => by cases hy) ?_⟩
    rintro σ H' ⟨rfl, s2, s3, rfl⟩
    have hf1 : upd H f (.lst []) f = some (.lst []) := upd_same
    refine ⟨_, rfl, p, _, 3, .ref rt, rfl, rfl, SqT.of hp1, atI_nat (j := 3) rfl, _, rfl, _, rfl, rt, f, _, xs, [], r, rfl, S1 _ _ hrt, hR.mono (ts_same S1), hd, hf1, (by show 0 + cnt r ≤ 1000; omega), fun H2 fs B2 hf2 el => ?_⟩
    exact ⟨_, rfl, q H2 f fs (but_same_of B2 S1 hf) hf2 (by rw [el]; show 0 + cnt r = cnt r; omega)⟩
def PgmP (H : Hp) (p : Addr) (r : Rs) : Prop := ∃ bt lt ft rt xs, H p = some (.tup [.ref bt, .ref lt, .ref ft, .ref rt]) ∧ StoP H bt lt ∧ H ft = some (.tup []) ∧ H rt = some (.tup xs) ∧ RsI H r xs
def spPgm (K : PySem.W.Frag) : Sp := fun vs H Q E => ∃ (bt lt ft rt : Addr) (xs : List V) (r : Rs), vs = [.ref bt, .ref lt, .ref ft, .ref rt] ∧ StoP H bt lt ∧ H ft = some (.tup []) ∧ H rt = some (.tup xs) ∧ RsI H r xs ∧
  ((rok r 1 = true ∧ ∀ H' p, PgmP H' p r → Q (.ref p) H') ∨ (rok r 1 = false ∧ ∀ H', E (.ref (C_NoRow K)) none H'))
theorem sc_pgm : FnScope ["boxes", "lists", "functions", "rows", "boxed", "listed", "takes", "function", "program", "one", "box"] ["boxes", "lists", "functions", "rows"] (defScope S_program_of) := ⟨rfl, rfl, rfl, by decide +kernel, rfl, by decide +kernel, by decide +kernel⟩
theorem ok_pgm (T : Txt K mg) : FnOk P w K mg base (CXN P w) 23 (A_program_of K) (fdOf K (A_program_of K)) ["boxes", "lists", "functions", "rows"] (spPgm K) := by
  have G_are_stores : FnOk P w K mg base CX0 3 (A_are_stores K) (fdOf K (A_are_stores K)) ["boxes", "lists"] spArs := ok_ars T
  have G_are_functions : FnOk P w K mg base CX0 2 (A_are_functions K) (fdOf K (A_are_functions K)) ["thing", "names"] spArf := ok_arf T
  have G_Scope_init : FnOk P w K mg base CX0 1 (A_Scope_init K) (fdOf K (A_Scope_init K)) ["self", "boxes", "lists", "functions", "inside"] (spSci K) := ok_sci T
  have G_need_rows : FnOk P w K mg base (CXN P w) 21 (A_need_rows K) (fdOf K (A_need_rows K)) ["rows", "scope"] (spNr K) := ok_nr T
  have G_rows_of : FnOk P w K mg base CX0 8 (A_rows_of K) (fdOf K (A_rows_of K)) ["program"] spRof := ok_rof T
  refine okX T.d_program_of sc_pgm (fun vs H Q E h => ?_) (fun cdv A outer s H vs Q E hr h => ?_)
  · obtain ⟨bt, lt, ft, rt, xs, r, rfl, _⟩ := h
    rfl
  · obtain ⟨bt, lt, ft, rt, xs, r, rfl, hs, hft, hrt, hR, h⟩ := h
    refine ⟨_, (pss_cons (ps_if (PW.pt (pw_or (pt_not (pt_val (pe_call G_are_stores (hr.mono (by decide)) rfl T.g_are_stores T.d_are_stores.kp (b_are_stores T) .nil pass0 (pa_cons (pv 0) (pa_cons (pv 1) pa_nil))))) (pw_or1 (pt_not (pt_val (pe_callB call_isi (by rfl) T.f_isinstance (by decide +kernel) (pa_cons (pv 3) (pa_cons (pe_bltn (v := .ty "tuple") (by rfl) T.f_tuple (by decide +kernel) rfl) pa_nil)))))))) pss_never
        pss_nil)
      (pss_cons (ps_if (pt_not (pt_val (pe_call G_are_functions (hr.mono (by decide)) rfl T.g_are_functions T.d_are_functions.kp (b_are_functions T) .nil pass0 (pa_cons (pv 2) (pa_cons (by exact (pe_lc (own := [("one", 9)]) rfl sc_pgm.nd (pi_tup (pe_op op_catT (pv 0) (pv 1))) (blkOk_by (own := [("one", 9)]) (N := ["boxes", "lists", "functions", "rows", "boxed", "listed", "takes", "function", "program", "one", "box"]) (sc := defScope S_program_of) (by decide +kernel)) (fun _ _ _ _ _ => (pg_name (i := 9) sc_pgm.nd rfl (.inl rfl))) (fun _ _ _ _ _ => pts_nil) (fun _ _ _ _ _ => (pe_ix (show IxR _ (rIxT K) from ix_tup) (pv 9) pe_int (fun _ _ => rfl))))) pa_nil))))) pss_never
        pss_nil)
      (pss_cons (ps_setLc (i := 4) (own := [("box", 10)]) rfl sc_pgm.nd rfl rfl (sw_true rfl rfl rfl (by decide +kernel)) (pi_tup (pv 0)) (blkOk_by (own := [("box", 10)]) (N := ["boxes", "lists", "functions", "rows", "boxed", "listed", "takes", "function", "program", "one", "box"]) (sc := defScope S_program_of) (by decide +kernel)) (fun _ _ _ _ _ => (pg_name (i := 10) sc_pgm.nd rfl (.inl rfl))) (fun _ _ _ _ _ => pts_nil) (fun _ _ _ _ _ => (pe_ix (show IxR _ (rIxT K) from ix_tup) (pv 10) pe_int (fun _ _ => rfl))))
      (pss_cons (ps_setLc (i := 5) (own := [("one", 9)]) rfl sc_pgm.nd rfl rfl (sw_true rfl rfl rfl (by decide +kernel)) (pi_tup (pv 1)) (blkOk_by (own := [("one", 9)]) (N := ["boxes", "lists", "functions", "rows", "boxed", "listed", "takes", "function", "program", "one", "box"]) (sc := defScope S_program_of) (by decide +kernel)) (fun _ _ _ _ _ => (pg_name (i := 9) sc_pgm.nd rfl (.inl rfl))) (fun _ _ _ _ _ => pts_nil) (fun _ _ _ _ _ => (pe_ix (show IxR _ (rIxT K) from ix_tup) (pv 9) pe_int (fun _ _ => rfl))))
      (pss_cons (ps_set (i := 6) sc_pgm.nd rfl (.inl rfl) (pe_callTy (call_dictP rfl) (by rfl) T.f_dict (by decide +kernel) (pa_cons (by exact (pe_lc (own := [("one", 9)]) rfl sc_pgm.nd (pi_tup (pv 2)) (blkOk_by (own := [("one", 9)]) (N := ["boxes", "lists", "functions", "rows", "boxed", "listed", "takes", "function", "program", "one", "box"]) (sc := defScope S_program_of) (by decide +kernel)) (fun _ _ _ _ _ => (pg_name (i := 9) sc_pgm.nd rfl (.inl rfl))) (fun _ _ _ _ _ => pts_nil) (fun _ _ _ _ _ => pe_never))) pa_nil)))
      (pss_cons (ps_for PassesOwn.leaving rfl (pi_tup (pv 2)) (pg_name (i := 7) sc_pgm.nd rfl (.inl rfl))
        pss_never)
      (pss_cons (ps_expr (pe_call G_need_rows (hr.mono (by decide)) rfl T.g_need_rows T.d_need_rows.kp (b_need_rows T) .nil passE (pa_cons (pv 3) (pa_cons (by exact (pe_make T.mk_Scope G_Scope_init (hr.mono (by decide)) (by rfl) T.g_Scope (b_Scope_init T) .nil pass0 (pa_cons (pv 4) (pa_cons (pv 5) (pa_cons (pv 6) (pa_cons pe_bl pa_nil)))))) pa_nil))))
      (pss_cons (ps_set (i := 8) sc_pgm.nd rfl (.inl rfl) (pe_tup (pa_cons (pv 0) (pa_cons (pv 1) (pa_cons (pv 2) (pa_cons (pv 3) pa_nil))))))
      (pss_cons (ps_if (pt_cmpR op_gt (pe_callB call_len_seq (by rfl) T.f_len PySem.boot_len (pa_cons (by exact (pe_call G_rows_of (hr.mono (by decide)) rfl T.g_rows_of T.d_rows_of.kp (b_rows_of T) .nil pass0 (pa_cons (pv 8) pa_nil))) pa_nil)) (pe_gi T.i_MOST_ROWS) (nomark _)) pss_never
        pss_nil)
      (pss_one (ps_ret (pv 8)))))))))))), ?_⟩
    refine ⟨_, rfl, _, rfl, bt, lt, rfl, hs, fun H1 S1 => ⟨true, rfl, itF rfl ?_⟩⟩
    have hs1 := hs.mono (ts_same S1)
    have hft1 := S1 _ _ hft
    have hrt1 := S1 _ _ hrt
    have hR1 := hR.mono (ts_same S1)
    clear hs hft hrt hR S1
    refine ⟨_, rfl, .ref rt, .ty "tuple", _, _, true, rfl, .ty "tuple", isi_tup hrt1, kit_ty rfl, true, rfl, iteF ?_⟩
    obtain ⟨b1, l1, n1, hb, hb1, hl, hl1, hn1⟩ := id hs1
    refine ⟨_, rfl, _, rfl, _, rfl, bt, lt, [.ref b1], [.ref l1], rfl, rfl, SqT.of hb, SqT.of hl, (by intro z; cases z), (by show 2 ≤ sizeLine; decide), (fun z => by cases z), fun _ t ht => ⟨t, rfl, ⟨_, SqT.of upd_same⟩, fun D hD => ?_⟩⟩
    have ht1 : upd H1 t (.tup ([V.ref b1] ++ [V.ref l1])) t = some (.tup [.ref b1, .ref l1]) := upd_same
    have S3 := same_new (o := .tup ([V.ref b1] ++ [V.ref l1])) ht
    have hb2 := S3 _ _ hb1
    have hl2 := S3 _ _ hl1
    generalize upd H1 t (.tup ([V.ref b1] ++ [V.ref l1])) = H3 at *
    refine lc_tup (K := K) (a := t) (xs := [.ref b1, .ref l1]) (fun i H' => H' = upd H3 D (.lst (([.str "x", .str "l"] : List V).take i))) rfl (fun i H' _ e => by rw [e]; exact SqT.of (upk ht1 hD)) ?_ ?_
    · rintro i y H' hy rfl
      match i, hy with
      | 0, hy =>
        obtain rfl : y = V.ref b1 := (Option.some.inj hy).symm
        exact ⟨rfl, _, rfl, b1, _, 0, .str "x", rfl, rfl, SqT.of (upk hb2 hD), atI_nat (j := 0) rfl, _, upd_same, (by show 0 < sizeLine; decide), by rw [upd_upd]; rfl⟩
      | 1, hy =>
        obtain rfl : y = V.ref l1 := (Option.some.inj hy).symm
        exact ⟨rfl, _, rfl, l1, _, 0, .str "l", rfl, rfl, SqT.of (upk hl2 hD), atI_nat (j := 0) rfl, _, upd_same, (by show 1 < sizeLine; decide), by rw [upd_upd]; rfl⟩
      | i + 2, hy => cases hy
    rintro H4 rfl
    have S4 : Same H1 (upd H3 D (.lst [.str "x", .str "l"])) := S3.trans (same_new hD)
    refine ⟨ft, .ref D, rfl, S4 _ _ hft1, fun H5 S5 => ⟨true, rfl, iteF ?_⟩⟩
    have S15 := S4.trans S5
    have hs5 := hs1.mono (ts_same S15)
    have hft5 := S15 _ _ hft1
    have hrt5 := S15 _ _ hrt1
    have hR5 := hR1.mono (ts_same S15)
    clear hs1 hft1 hrt1 hR1 hb hb1 hl hl1 hn1 hb2 hl2 ht1 S15 S5 S4 S3 hD ht
    obtain ⟨b1, l1, n1, hb, hb1, hl, hl1, hn1⟩ := id hs5
    -- boxed
    refine ⟨_, rfl, bt, rfl, ⟨_, SqT.of hb⟩, fun D1 hD1 => ?_⟩
    refine lc_tup (K := K) (a := bt) (xs := [.ref b1]) (fun i H' => H' = upd H5 D1 (.lst (([.str "x"] : List V).take i))) rfl (fun i H' _ e => by rw [e]; exact SqT.of (upk hb hD1)) ?_ ?_
    · rintro i y H' hy rfl
      match i, hy with
      | 0, hy =>
        obtain rfl : y = V.ref b1 := (Option.some.inj hy).symm
        exact ⟨rfl, _, rfl, b1, _, 0, .str "x", rfl, rfl, SqT.of (upk hb1 hD1), atI_nat (j := 0) rfl, _, upd_same, (by show 0 < sizeLine; decide), by rw [upd_upd]; rfl⟩
      | i + 1, hy => cases hy
    rintro H6 rfl
    have S6 : Same H5 (upd H5 D1 (.lst [.str "x"])) := same_new hD1
    have hD16 : upd H5 D1 (.lst [.str "x"]) D1 = some (.lst [.str "x"]) := upd_same
    show tSeq _ _ _ _ (upd H5 D1 (.lst [.str "x"]))
    generalize upd H5 D1 (.lst [.str "x"]) = H6 at *
    refine ⟨_, rfl, lt, rfl, ⟨_, SqT.of (S6 _ _ hl)⟩, fun D2 hD2 => ?_⟩
    refine lc_tup (K := K) (a := lt) (xs := [.ref l1]) (fun i H' => H' = upd H6 D2 (.lst (([.str "l"] : List V).take i))) rfl (fun i H' _ e => by rw [e]; exact SqT.of (upk (S6 _ _ hl) hD2)) ?_ ?_
    · rintro i y H' hy rfl
      match i, hy with
      | 0, hy =>
        obtain rfl : y = V.ref l1 := (Option.some.inj hy).symm
        exact ⟨rfl, _, rfl, l1, _, 0, .str "l", rfl, rfl, SqT.of (upk (S6 _ _ hl1) hD2), atI_nat (j := 0) rfl, _, upd_same, (by show 0 < sizeLine; decide), by rw [upd_upd]; rfl⟩
      | i + 1, hy => cases hy
    rintro H7 rfl
    have S7 : Same H5 (upd H6 D2 (.lst [.str "l"])) := same_trans_new S6 hD2
    have hD17 : upd H6 D2 (.lst [.str "l"]) D1 = some (.lst [.str "x"]) := upk hD16 hD2
    have hD27 : upd H6 D2 (.lst [.str "l"]) D2 = some (.lst [.str "l"]) := upd_same
    show tSeq _ _ _ _ (upd H6 D2 (.lst [.str "l"]))
    generalize upd H6 D2 (.lst [.str "l"]) = H7 at *
    refine ⟨_, rfl, ft, rfl, ⟨_, SqT.of (S7 _ _ hft5)⟩, fun D3 hD3 => ?_⟩
    refine lc_tup (K := K) (a := ft) (xs := []) (te := fun _ _ _ => False) (fun i H' => H' = upd H7 D3 (.lst [])) rfl (fun i H' _ e => by rw [e]; exact SqT.of (upk (S7 _ _ hft5) hD3)) (fun i y H' hy _ => by cases hy) ?_
    rintro H8 rfl
    refine ⟨D3, [], [], rfl, SqL.of upd_same, .nil, fun d hd => ?_⟩
    have S9 : Same H7 (upd (upd H7 D3 (.lst [])) d (.dK (mergeK [] []))) := same_trans_new (same_new hD3) hd
    have S59 := S7.trans S9
    have hD19 := S9 _ _ hD17
    have hD29 := S9 _ _ hD27
    generalize upd (upd H7 D3 (.lst [])) d (.dK (mergeK [] [])) = H9 at *
    refine ⟨_, rfl, ft, rfl, ⟨_, SqT.of (S59 _ _ hft5)⟩, for_tup (K := K) (a := ft) (xs := []) (fun i σ H' => H' = H9 ∧ ∃ s7 s8 s9 s10, σ = [some (.ref bt), some (.ref lt), some (.ref ft), some (.ref rt), some (.ref D1), some (.ref D2), some (.ref d), s7, s8, s9, s10]) ⟨rfl, _, _, _, _, rfl⟩ (fun i σ H' _ e => by rw [e.1]; exact SqT.of (S59 _ _ hft5)) (fun i y σ H' hy _ => by cases hy) ?_⟩
    rintro σ H' ⟨rfl, s7, s8, s9, s10, rfl⟩
    refine ⟨_, rfl, _, rfl, _, rfl, _, rfl, fun x dx nx ndx nex => ⟨x, D1, D2, d, dx, rfl, upd_same, rfl, ?_⟩⟩
    rw [upd_upd]
    have SA : Same H' (upd (upd H' dx (.own x)) x (.ins (C_Scope K) dx (fsS D1 D2 d))) := sover (same_new ndx) nx
    have hx : upd (upd H' dx (.own x)) x (.ins (C_Scope K) dx (fsS D1 D2 d)) x = some (.ins (C_Scope K) dx (fsS D1 D2 d)) := upd_same
    generalize upd (upd H' dx (.own x)) x (.ins (C_Scope K) dx (fsS D1 D2 d)) = HA at *
    have S5A := S59.trans SA
    refine ⟨rt, x, D1, D2, xs, r, rfl, S5A _ _ hrt5, hR5.mono (ts_same S5A), ⟨⟨dx, d, hx⟩, SA _ _ hD19, SA _ _ hD29⟩, ?_⟩
    rcases h with ⟨hk, q⟩ | ⟨hk, e⟩
    · refine .inl ⟨hk, fun HB SB => ?_⟩
      have S5B := S5A.trans SB
      refine ⟨_, rfl, _, rfl, _, rfl, _, rfl, (by show 4 ≤ sizeLine; decide), fun p hp => ?_⟩
      have SC := same_trans_new (o := .tup [.ref bt, .ref lt, .ref ft, .ref rt]) S5B hp
      have hp1 : upd HB p (.tup [.ref bt, .ref lt, .ref ft, .ref rt]) p = some (.tup [.ref bt, .ref lt, .ref ft, .ref rt]) := upd_same
      generalize upd HB p (.tup [.ref bt, .ref lt, .ref ft, .ref rt]) = HC at *
      obtain ⟨hdp, hct⟩ := rok_small hk
      refine ⟨_, rfl, p, bt, lt, ft, rt, xs, r, rfl, hp1, SC _ _ hft5, SC _ _ hrt5, hR5.mono (ts_same SC), hdp, Nat.le_trans hct (by decide), fun HD l fs SD hl el => ?_⟩
      have SE := SC.trans SD
      refine ⟨l, _, rfl, .inl (SqL.of hl), _, _, rfl, rfl, _, rfl, itF (decide_eq_false (by omega)) ?_⟩
      exact ⟨_, rfl, q HD p ⟨bt, lt, ft, rt, xs, SD _ _ hp1, hs5.mono (ts_same SE), SE _ _ hft5, SE _ _ hrt5, hR5.mono (ts_same SE)⟩⟩
    · exact .inr ⟨hk, e⟩
end
end Rt
end S_RtPgm2

section S_RtRd
set_option Elab.async false
set_option linter.all false
set_option maxRecDepth 100000
set_option maxHeartbeats 4000000
/-! read -/
namespace Rt
open PySem PySem.Spec PyProof.Rows L2
theorem head_no {lns : List (List Str)} {i : Nat} {rest : List Ln} (h : lns.drop i = rest.map lnW) : headOf lns i ≠ "list" ∧ headOf lns i ≠ "def" := by
  cases rest with
  | nil =>
    rw [headOf_nil h]
    decide +kernel
  | cons ln r =>
    have e : lns[i]? = some (lnW ln) := (drop_atG (show lns.drop i = lnW ln :: r.map lnW from h)).1
    have k : ∃ x r, lnW ln = x :: r ∧ x ≠ "list" ∧ x ≠ "def" := by
      cases ln <;> exact ⟨_, _, rfl, by decide +kernel, by decide +kernel⟩
    obtain ⟨x, r, e2, n1, n2⟩ := k
    unfold headOf
    rw [e, e2]
    exact ⟨n1, n2⟩
section
variable {P : Program} {w : World} {K : PySem.W.Frag} {mg : Str → Option Value} {base : Heap}
/-- what a text's reading ends with -/
def rdDone (K : PySem.W.Frag) (Q : VK) (E : XK) : Res → Prop
  | .off => False
  | .bad => ∀ H', E (.ref (C_NoText K)) none H'
  | .ok r => (rok r 1 = true ∧ ∀ H' p, PgmP H' p r → Q (.ref p) H') ∨ (rok r 1 = false ∧ ∀ H', E (.ref (C_NoRow K)) none H')
/-- a text of the law's kind, and its rows -/
structure TxtOk (z : Str) (rest : List Ln) : Prop where
  len : z.length ≤ 1000000
  few : (Txt.split z "\n").length ≤ 90000
  each : ∀ l ∈ Txt.split z "\n", l.length ≤ 1000000 ∧ (Txt.split l " ").length ≤ 1000000
  lns : linesOf (Txt.split z "\n") = bxW :: lsW :: rest.map lnW
  ws : ∀ x ∈ Txt.split z "\n", (wordsOf x).length ≤ 90000 ∧ ∀ y ∈ wordsOf x, PyData.strOk y = true
def spRd (K : PySem.W.Frag) : Sp := fun vs H Q E => ∃ (z : Str) (rest : List Ln), vs = [.str z] ∧ TxtOk z rest ∧ rdDone K Q E (go rest [.base .none])
theorem sc_rd : FnScope ["text", "lines", "boxes", "lists", "functions", "rows"] ["text"] (defScope S_read) := ⟨rfl, rfl, rfl, by decide +kernel, rfl, by decide +kernel, by decide +kernel⟩
theorem ok_rd (T : Txt K mg) : FnOk P w K mg base (CXN P w) 24 (A_read K) (fdOf K (A_read K)) ["text"] (spRd K) := by
  have G_Lines_init : FnOk P w K mg base CX0 1 (A_Lines_init K) (fdOf K (A_Lines_init K)) ["self", "text"] (spLi K) := ok_li T
  have G_Lines_next_head : FnOk P w K mg base CX0 1 (A_Lines_next_head K) (fdOf K (A_Lines_next_head K)) ["self"] (spNh K) := ok_nh T
  have G_read_stores : FnOk P w K mg base (CXN P w) 3 (A_read_stores K) (fdOf K (A_read_stores K)) ["lines"] (spSt K) := ok_st T
  have G_read_rows : FnOk P w K mg base (CXN P w) 9 (A_read_rows K) (fdOf K (A_read_rows K)) ["lines", "closed"] (spRr K) := ok_rr T
  have G_program_of : FnOk P w K mg base (CXN P w) 23 (A_program_of K) (fdOf K (A_program_of K)) ["boxes", "lists", "functions", "rows"] (spPgm K) := ok_pgm T
  refine okX T.d_read sc_rd (fun vs H Q E h => ?_) (fun cdv A outer s H vs Q E hr h => ?_)
  · obtain ⟨z, rest, rfl, _⟩ := h
    rfl
  · obtain ⟨z, rest, rfl, X, fin⟩ := h
    refine ⟨_, (pss_cons (ps_set (i := 1) sc_rd.nd rfl (.inl rfl) (pe_make T.mk_Lines G_Lines_init (hr.mono (by decide)) (by rfl) T.g_Lines (b_Lines_init T) .nil pass0 (pa_cons (pv 0) pa_nil)))
      (pss_cons (ps_asg (pe_call G_read_stores (hr.mono (by decide)) rfl T.g_read_stores T.d_read_stores.kp (b_read_stores T) .nil passE (pa_cons (pv 1) pa_nil)) (pg_tup rfl (pgs_cons (pg_name (i := 2) sc_rd.nd rfl (.inl rfl)) (pgs_cons (pg_name (i := 3) sc_rd.nd rfl (.inl rfl)) pgs_nil))))
      (pss_cons (ps_set (i := 4) sc_rd.nd rfl (.inl rfl) (pe_lst pa_nil))
      (pss_cons (ps_while PassesOwn.leaving (pt_cmpR op_eq (pe_meth0 (pv 1) T.c_Lines T.m_Lines_next_head G_Lines_next_head (hr.mono (by decide)) (b_Lines_next_head T) .nil pass0) pe_str (nomark _))
        pss_never)
      (pss_cons (ps_set (i := 5) sc_rd.nd rfl (.inl rfl) (pe_call G_read_rows (hr.mono (by decide)) rfl T.g_read_rows T.d_read_rows.kp (b_read_rows T) .nil passE (pa_cons (pv 1) (pa_cons pe_bl pa_nil))))
      (pss_one (ps_ret (pe_call G_program_of (hr.mono (by decide)) rfl T.g_program_of T.d_program_of.kp (b_program_of T) .nil passE (pa_cons (pv 2) (pa_cons (pv 3) (pa_cons (by exact (pe_callTy call_tuple_of (by rfl) T.f_tuple (by decide +kernel) (pa_cons (pv 4) pa_nil))) (pa_cons (pv 5) pa_nil)))))))))))), ?_⟩
    refine ⟨_, rfl, fun x dx nx ndx nex => ⟨x, dx, z, rfl, upd_same, X.len, Nat.le_trans X.few (by decide), fun l hl => ⟨(X.each l hl).1, (X.each l hl).2, (X.ws l hl).2⟩, fun H1 L as B1 hx hL hA => ⟨rfl, ?_⟩⟩⟩
    have hne : ∀ ws ∈ linesOf (Txt.split z "\n"), ws ≠ [] ∧ ws.length ≤ 90000 ∧ ∀ x ∈ ws, PyData.strOk x = true := fun ws hw => by
      have h1 := List.mem_filter.mp hw
      obtain ⟨l, hl, rfl⟩ := List.mem_map.mp h1.1
      refine ⟨fun e => ?_, (X.ws l hl).1, (X.ws l hl).2⟩
      rw [e] at h1
      exact absurd h1.2 (by decide)
    have hlen : (linesOf (Txt.split z "\n")).length ≤ 90000 := Nat.le_trans (linesOf_len _) X.few
    have hl0 := X.lns
    generalize linesOf (Txt.split z "\n") = lns at *
    have hd2 : lns.drop 2 = rest.map lnW := by rw [hl0]; rfl
    refine ⟨_, rfl, x, dx, L, lns, as, _, rfl, hx, hL, hA, fun ws h => (hne ws h).1, hl0, (head_no hd2).1, fun H2 t bt lt B2 hx2 ht2 hs2 => ?_⟩
    refine ⟨t, _, rfl, SqT.of ht2, rfl, _, _, rfl, _, _, rfl, rfl, ?_⟩
    refine ⟨(by show 0 ≤ sizeLine; decide), fun f hf => ?_⟩
    have hL2 : H2 L = some (.lst as) := B2 _ _ (ne_of hL hx (by intro z; cases z)) hL
    have hA2 : LnsP H2 L lns as := hA.mono fun a xs _ e => B2 _ _ (ne_of e hx (by intro z; cases z)) e
    have S3 := same_new (o := .lst []) hf
    have hx3 := S3 _ _ hx2
    have hL3 := S3 _ _ hL2
    have hA3 := hA2.mono fun a xs _ e => S3 _ _ e
    have hs3 := hs2.mono (ts_same S3)
    have hf3 : upd H2 f (.lst []) f = some (.lst []) := upd_same
    show tSeq _ _ _ _ (upd H2 f (.lst []))
    generalize upd H2 f (.lst []) = H3 at *
    refine ⟨fun m σ H' => H' = H3 ∧ σ = [some (.str z), some (.ref x), some (.ref bt), some (.ref lt), some (.ref f), none], ⟨0, rfl, rfl⟩, ?_⟩
    rintro m σ H' ⟨rfl, rfl⟩
    refine ⟨_, rfl, x, dx, _, rfl, hx3, liF_no (by decide +kernel) (by decide +kernel), x, dx, L, 2, lns, as, rfl, hx3, hL3, hA3, fun ws h => (hne ws h).1, rfl, _, rfl, itF (decide_eq_false fun e => (head_no hd2).2 (V.str.inj e)) ?_⟩
    refine ⟨_, rfl, x, dx, L, 2, lns, as, rest, rfl, hx3, hL3, hA3, hne, hlen, by rw [hl0]; exact Nat.le_add_left _ _, hd2, ?_⟩
    cases hg : go rest [.base .none] with
    | off => rw [hg] at fin; exact fin.elim
    | bad => rw [hg] at fin; exact fin
    | ok r =>
      rw [hg] at fin
      intro H4 rt xs B4 hrt hR
      have ts4 : TupS H' H4 := B4.ts fun ys z => by rw [hx3] at z; cases z
      have hf4 : H4 f = some (.lst []) := B4 _ _ (ne_of hf3 hx3 (by intro z; cases z)) hf3
      refine ⟨_, rfl, _, rfl, _, rfl, f, [], rfl, .inl ⟨SqL.of hf4, fun ft hft => ?_⟩⟩
      have S5 := same_new (o := .tup []) hft
      exact ⟨_, rfl, bt, lt, ft, rt, xs, r, rfl, (hs3.mono ts4).mono (ts_same S5), upd_same, S5 _ _ hrt, hR.mono (ts_same S5), fin⟩
end
end Rt
end S_RtRd

section S_RtTxv
set_option Elab.async false
set_option linter.all false
set_option maxRecDepth 100000
set_option maxHeartbeats 4000000
/-! texts -/
namespace Rt
open PySem PySem.Spec PyProof.Rows L2
section
variable {P : Program} {w : World} {K : PySem.W.Frag} {mg : Str → Option Value} {base : Heap}
def spVwd (n : Nat) : Sp := fun vs H Q _ => ∃ (q : Addr) (v : Vl), vs = [.ref q] ∧ VlP H v q ∧ v.deep ≤ n ∧ (vW v).length ≤ 100000 ∧ ∀ H' l, Same H H' → H l = none → H' l = some (.lst (strV (vW v))) → Q (.ref l) H'
def PrtOk (H : Hp) (n : Nat) (y : V) (ws : List Str) : Prop := ws.length ≤ 100000 ∧ ((∃ z v, y = .ref z ∧ VlP H v z ∧ v.deep ≤ n ∧ ws = vW v) ∨ (∃ x, y = .str x ∧ ws = [x]))
theorem sc_vwd : FnScope ["value", "words", "part"] ["value"] (defScope S_value_words) := ⟨rfl, rfl, rfl, by decide +kernel, rfl, by decide +kernel, by decide +kernel⟩
theorem ok_vwd0 (T : Txt K mg) : FnOk P w K mg base CX0 (2) (A_value_words K) (fdOf K (A_value_words K)) ["value"] (spVwd 0) := by
  refine T.d_value_words.ok sc_vwd (fun vs H Q E h => ?_) (fun cdv A outer s H vs Q E hr h => ?_)
  · obtain ⟨q, v, rfl, _⟩ := h
    rfl
  · obtain ⟨q, v, rfl, hv, hd, _⟩ := h
    have := v.deep_pos
    omega
theorem ok_vwdS (T : Txt K mg) {n : Nat} (G_value_words : FnOk P w K mg base CX0 (n + 2) (A_value_words K) (fdOf K (A_value_words K)) ["value"] (spVwd n)) : FnOk P w K mg base CX0 (n + 3) (A_value_words K) (fdOf K (A_value_words K)) ["value"] (spVwd (n + 1)) := by
  have G_values_in : FnOk P w K mg base CX0 1 (A_values_in K) (fdOf K (A_values_in K)) ["word"] spVin := ok_vin T
  refine T.d_value_words.ok sc_vwd (fun vs H Q E h => ?_) (fun cdv A outer s H vs Q E hr h => ?_)
  · obtain ⟨q, v, rfl, _⟩ := h
    rfl
  · obtain ⟨a, v, rfl, ⟨ys, ha, hv⟩, hd, hln, q⟩ := h
    cases v with
    | num =>
      have e : ys = _ := hv
      subst e
      refine ⟨_, (pss_cons (ps_if (pt_cmpR op_eq (pe_call G_values_in (hr.mono (by omega)) rfl T.g_values_in T.d_values_in.kp (b_values_in T) .nil pass0 (pa_cons (pe_ix ix_tup (pv 0) pe_int (fun _ _ => rfl)) pa_nil)) pe_int (nomark _)) (pss_one (ps_ret (pe_lst (pa_cons (pe_ix ix_tup (pv 0) pe_int (fun _ _ => rfl)) (pa_cons (by exact (pe_callTy call_str_int (by rfl) T.f_str (by decide +kernel) (pa_cons (pe_ix ix_tup (pv 0) pe_int (fun _ _ => rfl)) pa_nil))) pa_nil)))))
        pss_nil)
      (pss_cons (ps_set (i := 1) sc_vwd.nd rfl (.inl rfl) (pe_lst (pa_cons (pe_ix ix_tup (pv 0) pe_int (fun _ _ => rfl)) pa_nil)))
      (pss_cons (ps_for PassesOwn.never rfl (pi_tup (pe_slice sl_tup (pv 0) (po_some pe_int) po_none)) (pg_name (i := 2) sc_vwd.nd rfl (.inl rfl))
        (pss_one (ps_aug (i := 1) sc_vwd.nd rfl (.inl rfl) (pe_ifExp (pt_val (pe_callB call_isi (by rfl) T.f_isinstance (by decide +kernel) (pa_cons (pv 2) (pa_cons (pe_bltn (v := .ty "tuple") (by rfl) T.f_tuple (by decide +kernel) rfl) pa_nil)))) (pe_call G_value_words (hr.mono (by omega)) rfl T.g_value_words T.d_value_words.kp (b_value_words T) .nil pass0 (pa_cons (pv 2) pa_nil)) (pe_lst (pa_cons (pv 2) pa_nil))) (show PIp _ .Add rExt2 from iop_ext))))
      (pss_one (ps_ret (pv 1)))))), ?_⟩
      refine ⟨_, rfl, a, _, 0, .str "number", rfl, rfl, SqT.of ha, atI_nat (j := 0) rfl, "number", rfl, _, .inl ⟨.inl rfl, rfl⟩, fun H1 S1 => ⟨rfl, _, rfl, itT rfl ?_⟩⟩
      have ha1 := S1 _ _ ha
      refine ⟨_, rfl, a, _, 0, .str "number", rfl, rfl, SqT.of ha1, atI_nat (j := 0) rfl, _, rfl, a, _, 1, .int 1, rfl, rfl, SqT.of ha1, atI_nat (j := 1) rfl, _, rfl, (by decide +kernel), (by show 2 ≤ sizeLine; decide), fun l hl => ?_⟩
      exact q _ l (same_trans_new S1 hl) (S1.free hl) upd_same
    | box =>
      have e : ys = _ := hv
      subst e
      refine ⟨_, (pss_cons (ps_if (pt_cmpR op_eq (pe_call G_values_in (hr.mono (by omega)) rfl T.g_values_in T.d_values_in.kp (b_values_in T) .nil pass0 (pa_cons (pe_ix ix_tup (pv 0) pe_int (fun _ _ => rfl)) pa_nil)) pe_int (nomark _)) (pss_one (ps_ret (pe_lst (pa_cons (pe_ix ix_tup (pv 0) pe_int (fun _ _ => rfl)) (pa_cons (by exact (pe_callTy SkE.call_str_str (by rfl) T.f_str (by decide +kernel) (pa_cons (pe_ix ix_tup (pv 0) pe_int (fun _ _ => rfl)) pa_nil))) pa_nil)))))
        pss_nil)
      (pss_cons (ps_set (i := 1) sc_vwd.nd rfl (.inl rfl) (pe_lst (pa_cons (pe_ix ix_tup (pv 0) pe_int (fun _ _ => rfl)) pa_nil)))
      (pss_cons (ps_for PassesOwn.never rfl (pi_tup (pe_slice sl_tup (pv 0) (po_some pe_int) po_none)) (pg_name (i := 2) sc_vwd.nd rfl (.inl rfl))
        (pss_one (ps_aug (i := 1) sc_vwd.nd rfl (.inl rfl) (pe_ifExp (pt_val (pe_callB call_isi (by rfl) T.f_isinstance (by decide +kernel) (pa_cons (pv 2) (pa_cons (pe_bltn (v := .ty "tuple") (by rfl) T.f_tuple (by decide +kernel) rfl) pa_nil)))) (pe_call G_value_words (hr.mono (by omega)) rfl T.g_value_words T.d_value_words.kp (b_value_words T) .nil pass0 (pa_cons (pv 2) pa_nil)) (pe_lst (pa_cons (pv 2) pa_nil))) (show PIp _ .Add rExt2 from iop_ext))))
      (pss_one (ps_ret (pv 1)))))), ?_⟩
      refine ⟨_, rfl, a, _, 0, .str "box", rfl, rfl, SqT.of ha, atI_nat (j := 0) rfl, "box", rfl, _, .inl ⟨.inr (.inl rfl), rfl⟩, fun H1 S1 => ⟨rfl, _, rfl, itT rfl ?_⟩⟩
      have ha1 := S1 _ _ ha
      refine ⟨_, rfl, a, _, 0, .str "box", rfl, rfl, SqT.of ha1, atI_nat (j := 0) rfl, _, rfl, a, _, 1, .str "x", rfl, rfl, SqT.of ha1, atI_nat (j := 1) rfl, _, rfl, (by show 2 ≤ sizeLine; decide), fun l hl => ?_⟩
      exact q _ l (same_trans_new S1 hl) (S1.free hl) upd_same
    | size =>
      have e : ys = _ := hv
      subst e
      refine ⟨_, (pss_cons (ps_if (pt_cmpR op_eq (pe_call G_values_in (hr.mono (by omega)) rfl T.g_values_in T.d_values_in.kp (b_values_in T) .nil pass0 (pa_cons (pe_ix ix_tup (pv 0) pe_int (fun _ _ => rfl)) pa_nil)) pe_int (nomark _)) (pss_one (ps_ret (pe_lst (pa_cons (pe_ix ix_tup (pv 0) pe_int (fun _ _ => rfl)) (pa_cons (by exact (pe_callTy SkE.call_str_str (by rfl) T.f_str (by decide +kernel) (pa_cons (pe_ix ix_tup (pv 0) pe_int (fun _ _ => rfl)) pa_nil))) pa_nil)))))
        pss_nil)
      (pss_cons (ps_set (i := 1) sc_vwd.nd rfl (.inl rfl) (pe_lst (pa_cons (pe_ix ix_tup (pv 0) pe_int (fun _ _ => rfl)) pa_nil)))
      (pss_cons (ps_for PassesOwn.never rfl (pi_tup (pe_slice sl_tup (pv 0) (po_some pe_int) po_none)) (pg_name (i := 2) sc_vwd.nd rfl (.inl rfl))
        (pss_one (ps_aug (i := 1) sc_vwd.nd rfl (.inl rfl) (pe_ifExp (pt_val (pe_callB call_isi (by rfl) T.f_isinstance (by decide +kernel) (pa_cons (pv 2) (pa_cons (pe_bltn (v := .ty "tuple") (by rfl) T.f_tuple (by decide +kernel) rfl) pa_nil)))) (pe_call G_value_words (hr.mono (by omega)) rfl T.g_value_words T.d_value_words.kp (b_value_words T) .nil pass0 (pa_cons (pv 2) pa_nil)) (pe_lst (pa_cons (pv 2) pa_nil))) (show PIp _ .Add rExt2 from iop_ext))))
      (pss_one (ps_ret (pv 1)))))), ?_⟩
      refine ⟨_, rfl, a, _, 0, .str "size", rfl, rfl, SqT.of ha, atI_nat (j := 0) rfl, "size", rfl, _, .inl ⟨.inr (.inr rfl), rfl⟩, fun H1 S1 => ⟨rfl, _, rfl, itT rfl ?_⟩⟩
      have ha1 := S1 _ _ ha
      refine ⟨_, rfl, a, _, 0, .str "size", rfl, rfl, SqT.of ha1, atI_nat (j := 0) rfl, _, rfl, a, _, 1, .str "l", rfl, rfl, SqT.of ha1, atI_nat (j := 1) rfl, _, rfl, (by show 2 ≤ sizeLine; decide), fun l hl => ?_⟩
      exact q _ l (same_trans_new S1 hl) (S1.free hl) upd_same
    | nt v1 =>
      obtain ⟨q1, ys1, e, h1, hv1⟩ := hv
      subst e
      refine ⟨_, (pss_cons (ps_if (pt_cmpR op_eq (pe_call G_values_in (hr.mono (by omega)) rfl T.g_values_in T.d_values_in.kp (b_values_in T) .nil pass0 (pa_cons (pe_ix ix_tup (pv 0) pe_int (fun _ _ => rfl)) pa_nil)) pe_int (nomark _)) (pss_one (ps_ret (pe_lst (pa_cons (pe_ix ix_tup (pv 0) pe_int (fun _ _ => rfl)) (pa_cons (by exact (pe_callTy SkE.call_str_str (by rfl) T.f_str (by decide +kernel) (pa_cons (pe_ix ix_tup (pv 0) pe_int (fun _ _ => rfl)) pa_nil))) pa_nil)))))
        pss_nil)
      (pss_cons (ps_set (i := 1) sc_vwd.nd rfl (.inl rfl) (pe_lst (pa_cons (pe_ix ix_tup (pv 0) pe_int (fun _ _ => rfl)) pa_nil)))
      (pss_cons (ps_for PassesOwn.never rfl (pi_tup (pe_slice sl_tup (pv 0) (po_some pe_int) po_none)) (pg_name (i := 2) sc_vwd.nd rfl (.inl rfl))
        (pss_one (ps_aug (i := 1) sc_vwd.nd rfl (.inl rfl) (pe_ifExp (pt_val (pe_callB call_isi (by rfl) T.f_isinstance (by decide +kernel) (pa_cons (pv 2) (pa_cons (pe_bltn (v := .ty "tuple") (by rfl) T.f_tuple (by decide +kernel) rfl) pa_nil)))) (pe_call G_value_words (hr.mono (by omega)) rfl T.g_value_words T.d_value_words.kp (b_value_words T) .nil pass0 (pa_cons (pv 2) pa_nil)) (pe_lst (pa_cons (pv 2) pa_nil))) (show PIp _ .Add rExt2 from iop_ext))))
      (pss_one (ps_ret (pv 1)))))), ?_⟩
      refine ⟨_, rfl, a, _, 0, .str "not", rfl, rfl, SqT.of ha, atI_nat (j := 0) rfl, "not", rfl, _, .inr (.inl ⟨.inl rfl, rfl⟩), fun H1 S1 => ⟨rfl, _, rfl, itF rfl ?_⟩⟩
      have ha1 := S1 _ _ ha
      refine ⟨_, rfl, a, _, 0, .str "not", rfl, rfl, SqT.of ha1, atI_nat (j := 0) rfl, (by show 1 ≤ sizeLine; decide), fun wl hwl => ?_⟩
      have nwl : H wl = none := S1.free hwl
      have S2 := same_trans_new (o := .lst [.str "not"]) S1 hwl
      have hw2 : upd H1 wl (.lst [.str "not"]) wl = some (.lst (strV [("not" : Str)])) := upd_same
      show tSeq _ _ _ _ (upd H1 wl (.lst [.str "not"]))
      generalize upd H1 wl (.lst [.str "not"]) = H2 at *
      have ha2 := S2 _ _ ha
      refine ⟨_, rfl, _, rfl, a, _, rfl, SqT.of ha2, no_whole2, fun pt hpt => ?_⟩
      rw [show cutV (V.str "not" :: [V.ref q1]) (some 1) none = [V.ref q1] from cut_one]
      have S3 := same_trans_new (o := .tup [V.ref q1]) S2 hpt
      have hw3 : upd H2 pt (.tup [V.ref q1]) wl = some (.lst (strV [("not" : Str)])) := upk hw2 hpt
      have hp3 : upd H2 pt (.tup [V.ref q1]) pt = some (.tup (([(V.ref q1, vW v1)] : List (V × List Str)).map (·.1))) := upd_same
      generalize upd H2 pt (.tup [V.ref q1]) = H3 at *
      have hps : ∀ z ∈ ([(V.ref q1, vW v1)] : List (V × List Str)), PrtOk H3 n z.1 z.2 := by
        intro z hz
        rw [List.mem_singleton.mp hz]
        exact ⟨Nat.le_trans (by show (vW v1).length ≤ (vW v1).length + 1; omega) hln, .inl ⟨q1, v1, rfl, ⟨_, S3 _ _ h1, hv1.mono (ts_same S3)⟩, Nat.le_of_succ_le_succ hd, rfl⟩⟩
      have hall : ("not" : Str) :: (([(V.ref q1, vW v1)] : List (V × List Str)).map (·.2)).flatten = vW (.nt v1) := by simp [vW]
      rw [← hall] at hln q
      refine ⟨pt, rfl, ⟨_, SqT.of hp3⟩, for_tup (K := K) (a := pt) (xs := ([(V.ref q1, vW v1)] : List (V × List Str)).map (·.1)) (fun i σ H' => Same H H' ∧ TupS H3 H' ∧ (∃ s2, σ = [some (.ref a), some (.ref wl), s2]) ∧ H' wl = some (.lst (strV (("not" : Str) :: ((([(V.ref q1, vW v1)] : List (V × List Str)).take i).map (·.2)).flatten))))
        ⟨S3, TupS.rfl' _, ⟨_, rfl⟩, hw3⟩ (fun i σ H' _ h => SqT.of (h.2.1 _ _ hp3)) ?_ ?_⟩
      · rintro i y σ H4 hy ⟨S, ts, ⟨s2, rfl⟩, hw⟩
        rw [List.getElem?_map] at hy
        cases e : ([(V.ref q1, vW v1)] : List (V × List Str))[i]? with
        | none => rw [e] at hy; cases hy
        | some z =>
          rw [e] at hy
          obtain rfl : y = z.1 := (Option.some.inj hy).symm
          have hm := List.mem_of_getElem? e
          have lw : (("not" : Str) :: ((([(V.ref q1, vW v1)] : List (V × List Str)).take i).map (·.2)).flatten).length ≤ 100000 := by
            refine Nat.le_trans ?_ hln
            rw [List.length_cons, List.length_cons, List.map_take]
            refine Nat.succ_le_succ ?_
            conv => rhs; rw [← List.take_append_drop i (([(V.ref q1, vW v1)] : List (V × List Str)).map (·.2)), List.flatten_append, List.length_append]
            exact Nat.le_add_right _ _
          have nx : strV (("not" : Str) :: ((([(V.ref q1, vW v1)] : List (V × List Str)).take (i + 1)).map (·.2)).flatten) = strV (("not" : Str) :: ((([(V.ref q1, vW v1)] : List (V × List Str)).take i).map (·.2)).flatten) ++ strV z.2 := by
            rw [take_more e, List.map_append, List.flatten_append]
            simp [strV]
          obtain ⟨lz, ⟨z1, v1, ez, hz1, hz2, hz3⟩ | ⟨x, ez, hz3⟩⟩ := hps z hm
          · obtain ⟨zs, hq1, hq2⟩ := id (hz1.mono ts)
            rw [hz3] at lz nx
            rw [ez]
            refine ⟨_, rfl, _, rfl, .ref z1, .ty "tuple", _, _, true, rfl, .ty "tuple", isi_tup hq1, kit_ty rfl, true, rfl, itT rfl ?_⟩
            refine ⟨_, rfl, z1, v1, rfl, hz1.mono ts, hz2, lz, fun H5 l S5 nl hl => ?_⟩
            have hw5 := S5 _ _ hw
            refine ⟨wl, l, _, _, rfl, rfl, hw5, hl, ?_, ?_⟩
            · rw [List.length_map, List.length_map]
              exact Nat.le_trans (Nat.add_le_add lw lz) (show 200000 ≤ sizeLine by decide)
            · refine ⟨sover (S.trans S5) nwl, fun c ys ec => ?_, ⟨_, rfl⟩, ?_⟩
              · exact upx (S5 _ _ (ts _ _ ec)) hw5 (by intro z; cases z)
              · rw [nx]
                exact upd_same
          · rw [hz3] at nx
            rw [ez]
            refine ⟨_, rfl, _, rfl, .str x, .ty "tuple", _, _, false, rfl, .ty "tuple", .base (.str x), kit_ty rfl, false, rfl, itF rfl ?_⟩
            refine ⟨_, rfl, (by show 1 ≤ sizeLine; decide), fun l hl => ?_⟩
            have hw5 := upk (o := .lst [.str x]) hw hl
            refine ⟨wl, l, _, _, rfl, rfl, hw5, upd_same, ?_, ?_⟩
            · rw [List.length_map]
              exact Nat.le_trans (Nat.add_le_add_right lw 1) (show 100001 ≤ sizeLine by decide)
            · refine ⟨sover (same_trans_new S hl) nwl, fun c ys ec => ?_, ⟨_, rfl⟩, ?_⟩
              · exact upx (upk (ts _ _ ec) hl) hw5 (by intro z; cases z)
              · rw [nx]
                exact upd_same
      · rintro σ H4 ⟨S, ts, ⟨s2, rfl⟩, hw⟩
        rw [List.length_map, List.take_length] at hw
        exact ⟨_, rfl, q H4 wl S nwl hw⟩
    | pl v1 v2 =>
      obtain ⟨q1, q2, ys1, ys2, e, h1, hv1, h2, hv2⟩ := hv
      subst e
      refine ⟨_, (pss_cons (ps_if (pt_cmpR op_eq (pe_call G_values_in (hr.mono (by omega)) rfl T.g_values_in T.d_values_in.kp (b_values_in T) .nil pass0 (pa_cons (pe_ix ix_tup (pv 0) pe_int (fun _ _ => rfl)) pa_nil)) pe_int (nomark _)) (pss_one (ps_ret (pe_lst (pa_cons (pe_ix ix_tup (pv 0) pe_int (fun _ _ => rfl)) (pa_cons (by exact (pe_callTy SkE.call_str_str (by rfl) T.f_str (by decide +kernel) (pa_cons (pe_ix ix_tup (pv 0) pe_int (fun _ _ => rfl)) pa_nil))) pa_nil)))))
        pss_nil)
      (pss_cons (ps_set (i := 1) sc_vwd.nd rfl (.inl rfl) (pe_lst (pa_cons (pe_ix ix_tup (pv 0) pe_int (fun _ _ => rfl)) pa_nil)))
      (pss_cons (ps_for PassesOwn.never rfl (pi_tup (pe_slice sl_tup (pv 0) (po_some pe_int) po_none)) (pg_name (i := 2) sc_vwd.nd rfl (.inl rfl))
        (pss_one (ps_aug (i := 1) sc_vwd.nd rfl (.inl rfl) (pe_ifExp (pt_val (pe_callB call_isi (by rfl) T.f_isinstance (by decide +kernel) (pa_cons (pv 2) (pa_cons (pe_bltn (v := .ty "tuple") (by rfl) T.f_tuple (by decide +kernel) rfl) pa_nil)))) (pe_call G_value_words (hr.mono (by omega)) rfl T.g_value_words T.d_value_words.kp (b_value_words T) .nil pass0 (pa_cons (pv 2) pa_nil)) (pe_lst (pa_cons (pv 2) pa_nil))) (show PIp _ .Add rExt2 from iop_ext))))
      (pss_one (ps_ret (pv 1)))))), ?_⟩
      refine ⟨_, rfl, a, _, 0, .str "plus", rfl, rfl, SqT.of ha, atI_nat (j := 0) rfl, "plus", rfl, _, .inr (.inr ⟨rfl, rfl⟩), fun H1 S1 => ⟨rfl, _, rfl, itF rfl ?_⟩⟩
      have ha1 := S1 _ _ ha
      refine ⟨_, rfl, a, _, 0, .str "plus", rfl, rfl, SqT.of ha1, atI_nat (j := 0) rfl, (by show 1 ≤ sizeLine; decide), fun wl hwl => ?_⟩
      have nwl : H wl = none := S1.free hwl
      have S2 := same_trans_new (o := .lst [.str "plus"]) S1 hwl
      have hw2 : upd H1 wl (.lst [.str "plus"]) wl = some (.lst (strV [("plus" : Str)])) := upd_same
      show tSeq _ _ _ _ (upd H1 wl (.lst [.str "plus"]))
      generalize upd H1 wl (.lst [.str "plus"]) = H2 at *
      have ha2 := S2 _ _ ha
      refine ⟨_, rfl, _, rfl, a, _, rfl, SqT.of ha2, no_whole3, fun pt hpt => ?_⟩
      rw [show cutV (V.str "plus" :: [V.ref q1, V.ref q2]) (some 1) none = [V.ref q1, V.ref q2] from cut_one]
      have S3 := same_trans_new (o := .tup [V.ref q1, V.ref q2]) S2 hpt
      have hw3 : upd H2 pt (.tup [V.ref q1, V.ref q2]) wl = some (.lst (strV [("plus" : Str)])) := upk hw2 hpt
      have hp3 : upd H2 pt (.tup [V.ref q1, V.ref q2]) pt = some (.tup (([(V.ref q1, vW v1), (V.ref q2, vW v2)] : List (V × List Str)).map (·.1))) := upd_same
      generalize upd H2 pt (.tup [V.ref q1, V.ref q2]) = H3 at *
      have hps : ∀ z ∈ ([(V.ref q1, vW v1), (V.ref q2, vW v2)] : List (V × List Str)), PrtOk H3 n z.1 z.2 := by
        have e : (vW (.pl v1 v2)).length = (vW v1 ++ vW v2).length + 1 := rfl
        rw [e, List.length_append] at hln
        have hd' : max v1.deep v2.deep ≤ n := Nat.le_of_succ_le_succ hd
        intro z hz
        rcases List.mem_cons.mp hz with rfl | hz
        · exact ⟨by show (vW v1).length ≤ 100000; omega, .inl ⟨q1, v1, rfl, ⟨_, S3 _ _ h1, hv1.mono (ts_same S3)⟩, Nat.le_trans (Nat.le_max_left _ _) hd', rfl⟩⟩
        · rw [List.mem_singleton.mp hz]
          exact ⟨by show (vW v2).length ≤ 100000; omega, .inl ⟨q2, v2, rfl, ⟨_, S3 _ _ h2, hv2.mono (ts_same S3)⟩, Nat.le_trans (Nat.le_max_right _ _) hd', rfl⟩⟩
      have hall : ("plus" : Str) :: (([(V.ref q1, vW v1), (V.ref q2, vW v2)] : List (V × List Str)).map (·.2)).flatten = vW (.pl v1 v2) := by simp [vW]
      rw [← hall] at hln q
      refine ⟨pt, rfl, ⟨_, SqT.of hp3⟩, for_tup (K := K) (a := pt) (xs := ([(V.ref q1, vW v1), (V.ref q2, vW v2)] : List (V × List Str)).map (·.1)) (fun i σ H' => Same H H' ∧ TupS H3 H' ∧ (∃ s2, σ = [some (.ref a), some (.ref wl), s2]) ∧ H' wl = some (.lst (strV (("plus" : Str) :: ((([(V.ref q1, vW v1), (V.ref q2, vW v2)] : List (V × List Str)).take i).map (·.2)).flatten))))
        ⟨S3, TupS.rfl' _, ⟨_, rfl⟩, hw3⟩ (fun i σ H' _ h => SqT.of (h.2.1 _ _ hp3)) ?_ ?_⟩
      · rintro i y σ H4 hy ⟨S, ts, ⟨s2, rfl⟩, hw⟩
        rw [List.getElem?_map] at hy
        cases e : ([(V.ref q1, vW v1), (V.ref q2, vW v2)] : List (V × List Str))[i]? with
        | none => rw [e] at hy; cases hy
        | some z =>
          rw [e] at hy
          obtain rfl : y = z.1 := (Option.some.inj hy).symm
          have hm := List.mem_of_getElem? e
          have lw : (("plus" : Str) :: ((([(V.ref q1, vW v1), (V.ref q2, vW v2)] : List (V × List Str)).take i).map (·.2)).flatten).length ≤ 100000 := by
            refine Nat.le_trans ?_ hln
            rw [List.length_cons, List.length_cons, List.map_take]
            refine Nat.succ_le_succ ?_
            conv => rhs; rw [← List.take_append_drop i (([(V.ref q1, vW v1), (V.ref q2, vW v2)] : List (V × List Str)).map (·.2)), List.flatten_append, List.length_append]
            exact Nat.le_add_right _ _
          have nx : strV (("plus" : Str) :: ((([(V.ref q1, vW v1), (V.ref q2, vW v2)] : List (V × List Str)).take (i + 1)).map (·.2)).flatten) = strV (("plus" : Str) :: ((([(V.ref q1, vW v1), (V.ref q2, vW v2)] : List (V × List Str)).take i).map (·.2)).flatten) ++ strV z.2 := by
            rw [take_more e, List.map_append, List.flatten_append]
            simp [strV]
          obtain ⟨lz, ⟨z1, v1, ez, hz1, hz2, hz3⟩ | ⟨x, ez, hz3⟩⟩ := hps z hm
          · obtain ⟨zs, hq1, hq2⟩ := id (hz1.mono ts)
            rw [hz3] at lz nx
            rw [ez]
            refine ⟨_, rfl, _, rfl, .ref z1, .ty "tuple", _, _, true, rfl, .ty "tuple", isi_tup hq1, kit_ty rfl, true, rfl, itT rfl ?_⟩
            refine ⟨_, rfl, z1, v1, rfl, hz1.mono ts, hz2, lz, fun H5 l S5 nl hl => ?_⟩
            have hw5 := S5 _ _ hw
            refine ⟨wl, l, _, _, rfl, rfl, hw5, hl, ?_, ?_⟩
            · rw [List.length_map, List.length_map]
              exact Nat.le_trans (Nat.add_le_add lw lz) (show 200000 ≤ sizeLine by decide)
            · refine ⟨sover (S.trans S5) nwl, fun c ys ec => ?_, ⟨_, rfl⟩, ?_⟩
              · exact upx (S5 _ _ (ts _ _ ec)) hw5 (by intro z; cases z)
              · rw [nx]
                exact upd_same
          · rw [hz3] at nx
            rw [ez]
            refine ⟨_, rfl, _, rfl, .str x, .ty "tuple", _, _, false, rfl, .ty "tuple", .base (.str x), kit_ty rfl, false, rfl, itF rfl ?_⟩
            refine ⟨_, rfl, (by show 1 ≤ sizeLine; decide), fun l hl => ?_⟩
            have hw5 := upk (o := .lst [.str x]) hw hl
            refine ⟨wl, l, _, _, rfl, rfl, hw5, upd_same, ?_, ?_⟩
            · rw [List.length_map]
              exact Nat.le_trans (Nat.add_le_add_right lw 1) (show 100001 ≤ sizeLine by decide)
            · refine ⟨sover (same_trans_new S hl) nwl, fun c ys ec => ?_, ⟨_, rfl⟩, ?_⟩
              · exact upx (upk (ts _ _ ec) hl) hw5 (by intro z; cases z)
              · rw [nx]
                exact upd_same
      · rintro σ H4 ⟨S, ts, ⟨s2, rfl⟩, hw⟩
        rw [List.length_map, List.take_length] at hw
        exact ⟨_, rfl, q H4 wl S nwl hw⟩
    | it v1 =>
      obtain ⟨q1, ys1, e, h1, hv1⟩ := hv
      subst e
      refine ⟨_, (pss_cons (ps_if (pt_cmpR op_eq (pe_call G_values_in (hr.mono (by omega)) rfl T.g_values_in T.d_values_in.kp (b_values_in T) .nil pass0 (pa_cons (pe_ix ix_tup (pv 0) pe_int (fun _ _ => rfl)) pa_nil)) pe_int (nomark _)) (pss_one (ps_ret (pe_lst (pa_cons (pe_ix ix_tup (pv 0) pe_int (fun _ _ => rfl)) (pa_cons (by exact (pe_callTy SkE.call_str_str (by rfl) T.f_str (by decide +kernel) (pa_cons (pe_ix ix_tup (pv 0) pe_int (fun _ _ => rfl)) pa_nil))) pa_nil)))))
        pss_nil)
      (pss_cons (ps_set (i := 1) sc_vwd.nd rfl (.inl rfl) (pe_lst (pa_cons (pe_ix ix_tup (pv 0) pe_int (fun _ _ => rfl)) pa_nil)))
      (pss_cons (ps_for PassesOwn.never rfl (pi_tup (pe_slice sl_tup (pv 0) (po_some pe_int) po_none)) (pg_name (i := 2) sc_vwd.nd rfl (.inl rfl))
        (pss_one (ps_aug (i := 1) sc_vwd.nd rfl (.inl rfl) (pe_ifExp (pt_val (pe_callB call_isi (by rfl) T.f_isinstance (by decide +kernel) (pa_cons (pv 2) (pa_cons (pe_bltn (v := .ty "tuple") (by rfl) T.f_tuple (by decide +kernel) rfl) pa_nil)))) (pe_call G_value_words (hr.mono (by omega)) rfl T.g_value_words T.d_value_words.kp (b_value_words T) .nil pass0 (pa_cons (pv 2) pa_nil)) (pe_lst (pa_cons (pv 2) pa_nil))) (show PIp _ .Add rExt2 from iop_ext))))
      (pss_one (ps_ret (pv 1)))))), ?_⟩
      refine ⟨_, rfl, a, _, 0, .str "item", rfl, rfl, SqT.of ha, atI_nat (j := 0) rfl, "item", rfl, _, .inr (.inl ⟨.inr rfl, rfl⟩), fun H1 S1 => ⟨rfl, _, rfl, itF rfl ?_⟩⟩
      have ha1 := S1 _ _ ha
      refine ⟨_, rfl, a, _, 0, .str "item", rfl, rfl, SqT.of ha1, atI_nat (j := 0) rfl, (by show 1 ≤ sizeLine; decide), fun wl hwl => ?_⟩
      have nwl : H wl = none := S1.free hwl
      have S2 := same_trans_new (o := .lst [.str "item"]) S1 hwl
      have hw2 : upd H1 wl (.lst [.str "item"]) wl = some (.lst (strV [("item" : Str)])) := upd_same
      show tSeq _ _ _ _ (upd H1 wl (.lst [.str "item"]))
      generalize upd H1 wl (.lst [.str "item"]) = H2 at *
      have ha2 := S2 _ _ ha
      refine ⟨_, rfl, _, rfl, a, _, rfl, SqT.of ha2, no_whole3, fun pt hpt => ?_⟩
      rw [show cutV (V.str "item" :: [V.str "l", V.ref q1]) (some 1) none = [V.str "l", V.ref q1] from cut_one]
      have S3 := same_trans_new (o := .tup [V.str "l", V.ref q1]) S2 hpt
      have hw3 : upd H2 pt (.tup [V.str "l", V.ref q1]) wl = some (.lst (strV [("item" : Str)])) := upk hw2 hpt
      have hp3 : upd H2 pt (.tup [V.str "l", V.ref q1]) pt = some (.tup (([(V.str "l", ["l"]), (V.ref q1, vW v1)] : List (V × List Str)).map (·.1))) := upd_same
      generalize upd H2 pt (.tup [V.str "l", V.ref q1]) = H3 at *
      have hps : ∀ z ∈ ([(V.str "l", ["l"]), (V.ref q1, vW v1)] : List (V × List Str)), PrtOk H3 n z.1 z.2 := by
        intro z hz
        rcases List.mem_cons.mp hz with rfl | hz
        · exact ⟨by show 1 ≤ 100000; decide, .inr ⟨"l", rfl, rfl⟩⟩
        · rw [List.mem_singleton.mp hz]
          exact ⟨Nat.le_trans (by show (vW v1).length ≤ (vW v1).length + 2; omega) hln, .inl ⟨q1, v1, rfl, ⟨_, S3 _ _ h1, hv1.mono (ts_same S3)⟩, Nat.le_of_succ_le_succ hd, rfl⟩⟩
      have hall : ("item" : Str) :: (([(V.str "l", ["l"]), (V.ref q1, vW v1)] : List (V × List Str)).map (·.2)).flatten = vW (.it v1) := by simp [vW]
      rw [← hall] at hln q
      refine ⟨pt, rfl, ⟨_, SqT.of hp3⟩, for_tup (K := K) (a := pt) (xs := ([(V.str "l", ["l"]), (V.ref q1, vW v1)] : List (V × List Str)).map (·.1)) (fun i σ H' => Same H H' ∧ TupS H3 H' ∧ (∃ s2, σ = [some (.ref a), some (.ref wl), s2]) ∧ H' wl = some (.lst (strV (("item" : Str) :: ((([(V.str "l", ["l"]), (V.ref q1, vW v1)] : List (V × List Str)).take i).map (·.2)).flatten))))
        ⟨S3, TupS.rfl' _, ⟨_, rfl⟩, hw3⟩ (fun i σ H' _ h => SqT.of (h.2.1 _ _ hp3)) ?_ ?_⟩
      · rintro i y σ H4 hy ⟨S, ts, ⟨s2, rfl⟩, hw⟩
        rw [List.getElem?_map] at hy
        cases e : ([(V.str "l", ["l"]), (V.ref q1, vW v1)] : List (V × List Str))[i]? with
        | none => rw [e] at hy; cases hy
        | some z =>
          rw [e] at hy
          obtain rfl : y = z.1 := (Option.some.inj hy).symm
          have hm := List.mem_of_getElem? e
          have lw : (("item" : Str) :: ((([(V.str "l", ["l"]), (V.ref q1, vW v1)] : List (V × List Str)).take i).map (·.2)).flatten).length ≤ 100000 := by
            refine Nat.le_trans ?_ hln
            rw [List.length_cons, List.length_cons, List.map_take]
            refine Nat.succ_le_succ ?_
            conv => rhs; rw [← List.take_append_drop i (([(V.str "l", ["l"]), (V.ref q1, vW v1)] : List (V × List Str)).map (·.2)), List.flatten_append, List.length_append]
            exact Nat.le_add_right _ _
          have nx : strV (("item" : Str) :: ((([(V.str "l", ["l"]), (V.ref q1, vW v1)] : List (V × List Str)).take (i + 1)).map (·.2)).flatten) = strV (("item" : Str) :: ((([(V.str "l", ["l"]), (V.ref q1, vW v1)] : List (V × List Str)).take i).map (·.2)).flatten) ++ strV z.2 := by
            rw [take_more e, List.map_append, List.flatten_append]
            simp [strV]
          obtain ⟨lz, ⟨z1, v1, ez, hz1, hz2, hz3⟩ | ⟨x, ez, hz3⟩⟩ := hps z hm
          · obtain ⟨zs, hq1, hq2⟩ := id (hz1.mono ts)
            rw [hz3] at lz nx
            rw [ez]
            refine ⟨_, rfl, _, rfl, .ref z1, .ty "tuple", _, _, true, rfl, .ty "tuple", isi_tup hq1, kit_ty rfl, true, rfl, itT rfl ?_⟩
            refine ⟨_, rfl, z1, v1, rfl, hz1.mono ts, hz2, lz, fun H5 l S5 nl hl => ?_⟩
            have hw5 := S5 _ _ hw
            refine ⟨wl, l, _, _, rfl, rfl, hw5, hl, ?_, ?_⟩
            · rw [List.length_map, List.length_map]
              exact Nat.le_trans (Nat.add_le_add lw lz) (show 200000 ≤ sizeLine by decide)
            · refine ⟨sover (S.trans S5) nwl, fun c ys ec => ?_, ⟨_, rfl⟩, ?_⟩
              · exact upx (S5 _ _ (ts _ _ ec)) hw5 (by intro z; cases z)
              · rw [nx]
                exact upd_same
          · rw [hz3] at nx
            rw [ez]
            refine ⟨_, rfl, _, rfl, .str x, .ty "tuple", _, _, false, rfl, .ty "tuple", .base (.str x), kit_ty rfl, false, rfl, itF rfl ?_⟩
            refine ⟨_, rfl, (by show 1 ≤ sizeLine; decide), fun l hl => ?_⟩
            have hw5 := upk (o := .lst [.str x]) hw hl
            refine ⟨wl, l, _, _, rfl, rfl, hw5, upd_same, ?_, ?_⟩
            · rw [List.length_map]
              exact Nat.le_trans (Nat.add_le_add_right lw 1) (show 100001 ≤ sizeLine by decide)
            · refine ⟨sover (same_trans_new S hl) nwl, fun c ys ec => ?_, ⟨_, rfl⟩, ?_⟩
              · exact upx (upk (ts _ _ ec) hl) hw5 (by intro z; cases z)
              · rw [nx]
                exact upd_same
      · rintro σ H4 ⟨S, ts, ⟨s2, rfl⟩, hw⟩
        rw [List.length_map, List.take_length] at hw
        exact ⟨_, rfl, q H4 wl S nwl hw⟩
theorem ok_vwd (T : Txt K mg) : ∀ n, FnOk P w K mg base CX0 (n + 2) (A_value_words K) (fdOf K (A_value_words K)) ["value"] (spVwd n)
  | 0 => ok_vwd0 T
  | n + 1 => ok_vwdS T (ok_vwd T n)
end
end Rt
end S_RtTxv

section S_RtTx2
set_option Elab.async false
set_option linter.all false
set_option maxRecDepth 100000
set_option maxHeartbeats 4000000
/-! value_text, row_text -/
namespace Rt
open PySem PySem.Spec PyProof.Rows L2 TL
/-! ### lengths -/
theorem joinL_len (S : List Nat) : ∀ ps : List (List Nat), (joinL S ps).length ≤ (ps.map List.length).sum + ps.length * S.length
  | [] => by simp [joinL]
  | [p] => by
    show p.length ≤ (p.length + 0) + 1 * S.length
    omega
  | p :: q :: r => by
    have ih := joinL_len S (q :: r)
    have e : joinL S (p :: q :: r) = p ++ (S ++ joinL S (q :: r)) := rfl
    rw [e, List.length_append, List.length_append, List.map_cons, List.sum_cons, List.length_cons, Nat.succ_mul]
    omega
theorem join_len (y : Str) (ps : List Str) : (Txt.join y ps).length ≤ (ps.map (·.length)).sum + ps.length * y.length := by
  rw [join_eq, len_tl, tl_join, len_tl y]
  have h := joinL_len (tl y) (ps.map tl)
  rw [List.map_map, List.length_map] at h
  have e : (List.length ∘ tl) = fun x : Str => x.length := by
    funext x
    exact (len_tl x).symm
  rw [e] at h
  exact h
theorem vW_few : ∀ v : Vl, (vW v).length + 2 ≤ 2 ^ (v.deep + 1)
  | .num => Nat.le_refl 4
  | .box => Nat.le_refl 4
  | .size => Nat.le_refl 4
  | .nt a => by
    have h := vW_few a
    have hp := Nat.pow_le_pow_right (show 0 < 2 by decide) (Nat.succ_le_succ (Nat.zero_le a.deep))
    show (vW a).length + 1 + 2 ≤ 2 ^ (a.deep + 1 + 1)
    rw [Nat.pow_succ]
    omega
  | .it a => by
    have h := vW_few a
    show (vW a).length + 1 + 1 + 2 ≤ 2 ^ (a.deep + 1 + 1)
    rw [Nat.pow_succ]
    omega
  | .pl a b => by
    have h1 := vW_few a
    have h2 := vW_few b
    have k1 : 2 ^ (a.deep + 1) ≤ 2 ^ (max a.deep b.deep + 1) := Nat.pow_le_pow_right (by decide) (Nat.succ_le_succ (Nat.le_max_left _ _))
    have k2 : 2 ^ (b.deep + 1) ≤ 2 ^ (max a.deep b.deep + 1) := Nat.pow_le_pow_right (by decide) (Nat.succ_le_succ (Nat.le_max_right _ _))
    show (vW a ++ vW b).length + 1 + 2 ≤ 2 ^ (max a.deep b.deep + 1 + 1)
    rw [List.length_append, Nat.pow_succ]
    omega
theorem vW_short : ∀ (v : Vl) (x : Str), x ∈ vW v → x.length ≤ 6
  | .num, x, h => by
    rcases List.mem_cons.mp h with rfl | h
    · decide +kernel
    · rw [List.mem_singleton.mp h]
      decide +kernel
  | .box, x, h => by
    rcases List.mem_cons.mp h with rfl | h
    · decide +kernel
    · rw [List.mem_singleton.mp h]
      decide +kernel
  | .size, x, h => by
    rcases List.mem_cons.mp h with rfl | h
    · decide +kernel
    · rw [List.mem_singleton.mp h]
      decide +kernel
  | .nt a, x, h => by
    rcases List.mem_cons.mp h with rfl | h
    · decide +kernel
    · exact vW_short a x h
  | .it a, x, h => by
    rcases List.mem_cons.mp h with rfl | h
    · decide +kernel
    rcases List.mem_cons.mp h with rfl | h
    · decide +kernel
    · exact vW_short a x h
  | .pl a b, x, h => by
    rcases List.mem_cons.mp h with rfl | h
    · decide +kernel
    rcases List.mem_append.mp h with h | h
    · exact vW_short a x h
    · exact vW_short b x h
theorem sum_le {l : List Str} {k : Nat} (h : ∀ x ∈ l, x.length ≤ k) : (l.map (·.length)).sum ≤ l.length * k := by
  induction l with
  | nil => exact Nat.zero_le _
  | cons x r ih =>
    have h1 := h x List.mem_cons_self
    have h2 := ih fun y hy => h y (List.mem_cons_of_mem _ hy)
    rw [List.map_cons, List.sum_cons, List.length_cons, Nat.succ_mul]
    omega
/-- the text of a value -/
def vT (v : Vl) : Str := Txt.join " " (vW v)
theorem s_one : (" " : Str).length = 1 := by decide +kernel
theorem vT_len {v : Vl} (h : v.deep ≤ 4) : ((vW v).map (·.length)).sum + (vW v).length * (" " : Str).length ≤ 300 ∧ (vT v).length ≤ 300 ∧ (vW v).length ≤ 30 := by
  have h1 := vW_few v
  have hp : 2 ^ (v.deep + 1) ≤ 2 ^ 5 := Nat.pow_le_pow_right (by decide) (Nat.succ_le_succ h)
  have e : (2 : Nat) ^ 5 = 32 := rfl
  have h2 := sum_le (vW_short v)
  have hj := join_len " " (vW v)
  rw [s_one] at hj ⊢
  have hj' : (vT v).length ≤ ((vW v).map (·.length)).sum + (vW v).length * 1 := hj
  exact ⟨by omega, by omega, by omega⟩
section
variable {P : Program} {w : World} {K : PySem.W.Frag} {mg : Str → Option Value} {base : Heap}
def spVtx : Sp := fun vs H Q _ => ∃ (q : Addr) (v : Vl), vs = [.ref q] ∧ VlP H v q ∧ v.deep ≤ 4 ∧ ∀ H', Same H H' → Q (.str (vT v)) H'
theorem sc_vtx : FnScope ["value"] ["value"] (defScope S_value_text) := ⟨rfl, rfl, rfl, by decide +kernel, rfl, by decide +kernel, by decide +kernel⟩
theorem ok_vtx (T : Txt K mg) : FnOk P w K mg base CX0 7 (A_value_text K) (fdOf K (A_value_text K)) ["value"] spVtx := by
  have G_value_words : FnOk P w K mg base CX0 6 (A_value_words K) (fdOf K (A_value_words K)) ["value"] (spVwd 4) := ok_vwd T 4
  refine T.d_value_text.ok sc_vtx (fun vs H Q E h => ?_) (fun cdv A outer s H vs Q E hr h => ?_)
  · obtain ⟨q, v, rfl, _⟩ := h
    rfl
  · obtain ⟨a, v, rfl, hv, hd, q⟩ := h
    refine ⟨_, (pss_one (ps_ret (pe_join pe_str (pe_call G_value_words (hr.mono (by decide)) rfl T.g_value_words T.d_value_words.kp (b_value_words T) .nil pass0 (pa_cons (pv 0) pa_nil))))), ?_⟩
    have hl := vT_len hd
    exact ⟨⟨_, rfl⟩, _, rfl, a, v, rfl, hv, hd, Nat.le_trans hl.2.2 (by decide), fun H' l S _ e => ⟨" ", l, vW v, rfl, rfl, .inl (SqL.of e), Nat.le_trans hl.1 (by decide), q H' S⟩⟩
/-- the text of a row's first line -/
def rowT : Rs → Str
  | .none => ""
  | .tell v => Txt.join " " ["tell", vT v]
  | .ifR _ => ("if" : Str) ++ " " ++ vT .box
  | .whR _ => ("while" : Str) ++ " " ++ vT .box
  | .tryR _ _ => "try"
theorem tell_len {v : Vl} (h : v.deep ≤ 4) : ((["tell", vT v] : List Str).map (·.length)).sum + (["tell", vT v] : List Str).length * (" " : Str).length ≤ 400 := by
  have z := (vT_len h).2.1
  have e : ("tell" : Str).length = 4 := by decide +kernel
  rw [s_one]
  show ("tell" : Str).length + ((vT v).length + 0) + 2 * 1 ≤ 400
  omega
def okV : Rs → Prop
  | .tell v => v.deep ≤ 4
  | _ => True
theorem rowT_len {r : Rs} (h : okV r) : (rowT r).length ≤ 400 := by
  cases r with
  | none => decide +kernel
  | tell v => exact Nat.le_trans (join_len _ _) (tell_len h)
  | ifR a => 
    show (("if" : Str) ++ " " ++ vT .box).length ≤ 400
    decide +kernel
  | whR a =>
    show (("while" : Str) ++ " " ++ vT .box).length ≤ 400
    decide +kernel
  | tryR a b => 
    show ("try" : Str).length ≤ 400
    decide +kernel
def spRtx : Sp := fun vs H Q _ => ∃ (p : Addr) (r : Rs), vs = [.ref p] ∧ RsI H r [.ref p] ∧ okV r ∧ ∀ H', Same H H' → Q (.str (rowT r)) H'
theorem sc_rtx : FnScope ["row", "words", "part"] ["row"] (defScope S_row_text) := ⟨rfl, rfl, rfl, by decide +kernel, rfl, by decide +kernel, by decide +kernel⟩
theorem ok_rtx (T : Txt K mg) : FnOk P w K mg base CX0 8 (A_row_text K) (fdOf K (A_row_text K)) ["row"] spRtx := by
  have G_value_text : FnOk P w K mg base CX0 7 (A_value_text K) (fdOf K (A_value_text K)) ["value"] spVtx := ok_vtx T
  refine T.d_row_text.ok sc_rtx (fun vs H Q E h => ?_) (fun cdv A outer s H vs Q E hr h => ?_)
  · obtain ⟨p, r, rfl, _⟩ := h
    rfl
  · obtain ⟨a, r, rfl, hR, hk, q⟩ := h
    refine ⟨_, (pss_cons (ps_if (pt_cmpR op_eq (pe_ix ix_tup (pv 0) pe_int (fun _ _ => rfl)) pe_str (nomark _)) (pss_one (ps_ret pe_str))
        pss_nil)
      (pss_cons (ps_if (PW.pt (pw_or (pt_cmpR op_eq (pe_ix ix_tup (pv 0) pe_int (fun _ _ => rfl)) pe_str (nomark _)) (pw_or1 (pt_cmpR op_eq (pe_ix ix_tup (pv 0) pe_int (fun _ _ => rfl)) pe_str (nomark _))))) (pss_one (ps_ret (pe_op op_add_str (pe_op op_add_str (pe_ix ix_tup (pv 0) pe_int (fun _ _ => rfl)) pe_str) (pe_call G_value_text (hr.mono (by decide)) rfl T.g_value_text T.d_value_text.kp (b_value_text T) .nil pass0 (pa_cons (pe_ix ix_tup (pv 0) pe_int (fun _ _ => rfl)) pa_nil)))))
        pss_nil)
      (pss_cons (ps_set (i := 1) sc_rtx.nd rfl (.inl rfl) (pe_lst (pa_cons (pe_ix ix_tup (pv 0) pe_int (fun _ _ => rfl)) pa_nil)))
      (pss_cons (ps_for PassesOwn.never rfl (pi_tup (pe_slice sl_tup (pv 0) (po_some pe_int) po_none)) (pg_name (i := 2) sc_rtx.nd rfl (.inl rfl))
        (pss_one (ps_if (pt_val (pe_callB call_isi (by rfl) T.f_isinstance (by decide +kernel) (pa_cons (pv 2) (pa_cons (pe_bltn (v := .ty "str") (by rfl) T.f_str (by decide +kernel) rfl) pa_nil)))) pss_never
          (pss_one (ps_if (pt_cmpR op_eq (pe_ix ix_tup (pv 0) pe_int (fun _ _ => rfl)) pe_str (nomark _)) pss_never
            (pss_one (ps_expr (pe_bm PySem.F.plainAttrs_list PySem.F.slot_list_append PySem.F.type_list_append mt_append (pv 1) (pa_cons (by exact (pe_call G_value_text (hr.mono (by decide)) rfl T.g_value_text T.d_value_text.kp (b_value_text T) .nil pass0 (pa_cons (pv 2) pa_nil))) pa_nil)))))))))
      (pss_one (ps_ret (pe_join pe_str (pv 1)))))))), ?_⟩
    cases r with
    | none => cases hR
    | tell v =>
      obtain ⟨p, q1, e, hp, hv⟩ := hR
      cases e
      refine ⟨_, rfl, a, _, 0, .str "tell", rfl, rfl, SqT.of hp, atI_nat (j := 0) rfl, rfl, _, rfl, itF (by decide +kernel) ?_⟩
      refine ⟨_, rfl, a, _, 0, .str "tell", rfl, rfl, SqT.of hp, atI_nat (j := 0) rfl, rfl, _, rfl, itF (by decide +kernel) ?_⟩
      refine ⟨_, rfl, a, _, 0, .str "tell", rfl, rfl, SqT.of hp, atI_nat (j := 0) rfl, rfl, _, rfl, itF (by decide +kernel) ?_⟩
      refine ⟨_, rfl, a, _, 0, .str "tell", rfl, rfl, SqT.of hp, atI_nat (j := 0) rfl, (by show 1 ≤ sizeLine; decide), fun wl hwl => ?_⟩
      have S1 := same_new (o := .lst [.str "tell"]) hwl
      have hw1 : upd H wl (.lst [.str "tell"]) wl = some (.lst [.str "tell"]) := upd_same
      have hp1 := S1 _ _ hp
      have hv1 := hv.mono (ts_same S1)
      show tSeq _ _ _ _ (upd H wl (.lst [.str "tell"]))
      generalize upd H wl (.lst [.str "tell"]) = H1 at *
      refine ⟨_, rfl, _, rfl, a, _, rfl, SqT.of hp1, no_whole2, fun pt hpt => ?_⟩
      rw [show cutV [V.str "tell", .ref q1] (some 1) none = [.ref q1] from cut_one]
      have S2 := same_trans_new (o := .tup [.ref q1]) S1 hpt
      have hw2 := upk (o := .tup [.ref q1]) hw1 hpt
      have hp2 := same_new (o := .tup [.ref q1]) hpt _ _ hp1
      have hv2 := hv1.mono (ts_same (same_new (o := .tup [.ref q1]) hpt))
      have hpt2 : upd H1 pt (.tup [.ref q1]) pt = some (.tup [.ref q1]) := upd_same
      generalize upd H1 pt (.tup [.ref q1]) = H2 at *
      refine ⟨pt, rfl, ⟨_, SqT.of hpt2⟩, for_tup (K := K) (a := pt) (xs := [.ref q1]) (fun i σ H' => Same H H' ∧ H' pt = some (.tup [.ref q1]) ∧ (∃ s2, σ = [some (.ref a), some (.ref wl), s2]) ∧ ((i = 0 ∧ H' = H2) ∨ (i = 1 ∧ H' wl = some (.lst [.str "tell", .str (vT v)])))) ⟨S2, hpt2, ⟨_, rfl⟩, .inl ⟨rfl, rfl⟩⟩ (fun i σ H' _ h => SqT.of h.2.1) ?_ ?_⟩
      · rintro i y σ H' hy ⟨S, ht, ⟨s2, rfl⟩, ⟨rfl, rfl⟩ | ⟨rfl, _⟩⟩
        · obtain rfl : y = V.ref q1 := (Option.some.inj hy).symm
          obtain ⟨zs, hq1, _⟩ := id hv2
          refine ⟨_, rfl, .ref q1, .ty "str", _, _, false, rfl, .ty "str", isi_tup hq1, kit_ty rfl, false, rfl, itF rfl ?_⟩
          refine ⟨_, rfl, a, _, 0, .str "tell", rfl, rfl, SqT.of hp2, atI_nat (j := 0) rfl, rfl, _, rfl, itF (by decide +kernel) ?_⟩
          refine ⟨_, rfl, .inl ⟨rfl, _, SqL.of hw2⟩, _, rfl, q1, v, rfl, hv2, hk, fun H3 S3 => ?_⟩
          have hw3 := S3 _ _ hw2
          exact ⟨wl, _, _, rfl, rfl, hw3, (by show 1 < sizeLine; decide), sover (S.trans S3) hwl, upx (S3 _ _ ht) hw3 (by intro z; cases z), ⟨_, rfl⟩, .inr ⟨rfl, upd_same⟩⟩
        · cases hy
      · rintro σ H' ⟨S, ht, ⟨s2, rfl⟩, ⟨z, _⟩ | ⟨_, hw⟩⟩
        · cases z
        · exact ⟨⟨_, rfl⟩, _, rfl, " ", wl, [("tell" : Str), vT v], rfl, rfl, .inl (SqL.of hw), Nat.le_trans (tell_len hk) (by decide), q H' S⟩
    | ifR b =>
      obtain ⟨p, q1, s1, t1, ys1, e, hp, hv, h3, h4, h5⟩ := hR
      cases e
      refine ⟨_, rfl, a, _, 0, .str "if", rfl, rfl, SqT.of hp, atI_nat (j := 0) rfl, rfl, _, rfl, itF (by decide +kernel) ?_⟩
      refine ⟨_, rfl, a, _, 0, .str "if", rfl, rfl, SqT.of hp, atI_nat (j := 0) rfl, rfl, _, rfl, itT (by decide +kernel) (iteT ?_)⟩
      refine ⟨_, rfl, a, _, 0, .str "if", rfl, rfl, SqT.of hp, atI_nat (j := 0) rfl, "if", " ", rfl, rfl, (by decide +kernel), _, rfl, a, _, 1, .ref q1, rfl, rfl, SqT.of hp, atI_nat (j := 1) rfl, q1, .box, rfl, hv, (by decide), fun H' S => ?_⟩
      exact ⟨_, _, rfl, rfl, (by decide +kernel), q H' S⟩
    | whR b =>
      obtain ⟨p, q1, s1, ys1, e, hp, hv, h3, h4⟩ := hR
      cases e
      refine ⟨_, rfl, a, _, 0, .str "while", rfl, rfl, SqT.of hp, atI_nat (j := 0) rfl, rfl, _, rfl, itF (by decide +kernel) ?_⟩
      refine ⟨_, rfl, a, _, 0, .str "while", rfl, rfl, SqT.of hp, atI_nat (j := 0) rfl, rfl, _, rfl, itF (by decide +kernel) ?_⟩
      refine ⟨_, rfl, a, _, 0, .str "while", rfl, rfl, SqT.of hp, atI_nat (j := 0) rfl, rfl, _, rfl, itT (by decide +kernel) ?_⟩
      refine ⟨_, rfl, a, _, 0, .str "while", rfl, rfl, SqT.of hp, atI_nat (j := 0) rfl, "while", " ", rfl, rfl, (by decide +kernel), _, rfl, a, _, 1, .ref q1, rfl, rfl, SqT.of hp, atI_nat (j := 1) rfl, q1, .box, rfl, hv, (by decide), fun H' S => ?_⟩
      exact ⟨_, _, rfl, rfl, (by decide +kernel), q H' S⟩
    | tryR b c =>
      obtain ⟨p, s1, t1, ys1, zs1, e, hp, h3, h4, h5, h6⟩ := hR
      cases e
      refine ⟨_, rfl, a, _, 0, .str "try", rfl, rfl, SqT.of hp, atI_nat (j := 0) rfl, rfl, _, rfl, itT (by decide +kernel) ?_⟩
      exact q H fun _ _ e => e
end
end Rt
end S_RtTx2

section S_RtTx3
set_option Elab.async false
set_option linter.all false
set_option maxRecDepth 100000
set_option maxHeartbeats 4000000
/-! lines_of -/
namespace Rt
open PySem PySem.Spec PyProof.Rows L2 TL
/-- the lines of rows -/
def linesR : Rs → Str → List Str
  | .none, _ => []
  | .tell v, ah => [ah ++ rowT (.tell v)]
  | .ifR a, ah => (ah ++ rowT (.ifR a)) :: (linesR a (ah ++ "  ") ++ [ah ++ "end"])
  | .whR a, ah => (ah ++ rowT (.whR a)) :: (linesR a (ah ++ "  ") ++ [ah ++ "end"])
  | .tryR a b, ah => (ah ++ rowT (.tryR a b)) :: (linesR a (ah ++ "  ") ++ [ah ++ "catch " ++ "x"] ++ linesR b (ah ++ "  ") ++ [ah ++ "end"])
theorem linesR_len : ∀ (r : Rs) (ah : Str), (linesR r ah).length ≤ 3 * cnt r
  | .none, _ => Nat.zero_le _
  | .tell v, ah => by show 1 ≤ 3; decide
  | .ifR a, ah => by
    have h := linesR_len a (ah ++ "  ")
    show (linesR a (ah ++ "  ") ++ [ah ++ "end"]).length + 1 ≤ 3 * (cnt a + 1)
    rw [List.length_append, List.length_singleton]
    omega
  | .whR a, ah => by
    have h := linesR_len a (ah ++ "  ")
    show (linesR a (ah ++ "  ") ++ [ah ++ "end"]).length + 1 ≤ 3 * (cnt a + 1)
    rw [List.length_append, List.length_singleton]
    omega
  | .tryR a b, ah => by
    have h1 := linesR_len a (ah ++ "  ")
    have h2 := linesR_len b (ah ++ "  ")
    show (linesR a (ah ++ "  ") ++ [ah ++ "catch " ++ "x"] ++ linesR b (ah ++ "  ") ++ [ah ++ "end"]).length + 1 ≤ 3 * (cnt a + cnt b + 1)
    rw [List.length_append, List.length_append, List.length_append, List.length_singleton, List.length_singleton]
    omega
theorem rok_cnt {r : Rs} {d : Nat} (h : rok r d = true) : cnt r ≤ 63 := by
  have hc := cnt_dep r
  rcases rok_dep r d h with rfl | k
  · exact Nat.zero_le _
  · have hp : 2 ^ dep r ≤ 2 ^ 6 := Nat.pow_le_pow_right (by decide) (by omega)
    have e : (2 : Nat) ^ 6 = 64 := rfl
    omega
theorem lines_few {r : Rs} {d : Nat} (h : rok r d = true) (ah : Str) : (linesR r ah).length ≤ 200 := by
  have h1 := linesR_len r ah
  have h2 := rok_cnt h
  omega
theorem rok_okV {r : Rs} {d : Nat} (h : rok r d = true) : okV r := by
  cases r with
  | tell v =>
    simp [rok] at h
    exact h.2
  | none => trivial
  | ifR a => trivial
  | whR a => trivial
  | tryR a b => trivial
theorem ah_more {ah : Str} {d : Nat} (h : ah.length ≤ 2 * d) : (ah ++ ("  " : Str)).length ≤ 2 * (d + 1) := by
  have e : ("  " : Str).length = 2 := by decide +kernel
  rw [len_tl, tl_append, List.length_append, ← len_tl, ← len_tl, e]
  omega
theorem app_len (x y : Str) : (x ++ y).length = x.length + y.length := by
  rw [len_tl, tl_append, List.length_append, ← len_tl, ← len_tl]
section
variable {P : Program} {w : World} {K : PySem.W.Frag} {mg : Str → Option Value} {base : Heap}
def spLo (d : Nat) : Sp := fun vs H Q _ => ∃ (t : Addr) (ah : Str) (xs : List V) (r : Rs), vs = [.ref t, .str ah] ∧ H t = some (.tup xs) ∧ RsI H r xs ∧ rok r d = true ∧ ah.length ≤ 2 * d ∧
  ∀ H' l, Same H H' → H l = none → H' l = some (.lst (strV (linesR r ah))) → Q (.ref l) H'
theorem sc_lo : FnScope ["rows", "ahead", "found", "row"] ["rows", "ahead"] (defScope S_lines_of) := ⟨rfl, rfl, rfl, by decide +kernel, rfl, by decide +kernel, by decide +kernel⟩
theorem ok_lo0 (T : Txt K mg) : FnOk P w K mg base CX0 9 (A_lines_of K) (fdOf K (A_lines_of K)) ["rows", "ahead"] (spLo 6) := by
  have G_row_text : FnOk P w K mg base CX0 8 (A_row_text K) (fdOf K (A_row_text K)) ["row"] spRtx := ok_rtx T
  refine T.d_lines_of.ok sc_lo (fun vs H Q E h => ?_) (fun cdv A outer s H vs Q E hr h => ?_)
  · obtain ⟨t, ah, xs, r, rfl, _⟩ := h
    rfl
  · obtain ⟨t, ah, xs, r, rfl, ht, hR, hk, hah, q⟩ := h
    refine ⟨_, (pss_cons (ps_set (i := 2) sc_lo.nd rfl (.inl rfl) (pe_lst pa_nil))
      (pss_cons (ps_for PassesOwn.never rfl (pi_tup (pv 0)) (pg_name (i := 3) sc_lo.nd rfl (.inl rfl))
        (pss_cons (ps_expr (pe_bm PySem.F.plainAttrs_list PySem.F.slot_list_append PySem.F.type_list_append mt_append (pv 2) (pa_cons (pe_op op_add_str (pv 1) (pe_call G_row_text (hr.mono (by omega)) rfl T.g_row_text T.d_row_text.kp (b_row_text T) .nil pass0 (pa_cons (pv 3) pa_nil))) pa_nil)))
        (pss_cons (ps_if (pt_cmpR op_eq (pe_ix ix_tup (pv 3) pe_int (fun _ _ => rfl)) pe_str (nomark _)) (pss_cons (ps_aug (i := 2) sc_lo.nd rfl (.inl rfl) pe_never (show PIp _ .Add rExt2 from iop_ext))
          (pss_one (ps_if (pt_cmpR (op_neD hr.units) (pe_ix ix_tup (pv 3) pe_int (fun _ _ => rfl)) (pe_tup pa_nil) (nomark _)) (pss_one (ps_aug (i := 2) sc_lo.nd rfl (.inl rfl) (pe_op op_cat (pe_lst (pa_cons (pe_op op_add_str (pv 1) pe_str) pa_nil)) pe_never) (show PIp _ .Add rExt2 from iop_ext)))
            pss_nil)))
          (pss_one (ps_if (pt_cmpR op_eq (pe_ix ix_tup (pv 3) pe_int (fun _ _ => rfl)) pe_str (nomark _)) (pss_one (ps_aug (i := 2) sc_lo.nd rfl (.inl rfl) pe_never (show PIp _ .Add rExt2 from iop_ext)))
            (pss_one (ps_if (pt_cmpR op_eq (pe_ix ix_tup (pv 3) pe_int (fun _ _ => rfl)) pe_str (nomark _)) (pss_one (ps_aug (i := 2) sc_lo.nd rfl (.inl rfl) (pe_op op_cat (pe_op op_cat pe_never (pe_lst (pa_cons (pe_op op_add_str (pe_op op_add_str (pv 1) pe_str) (pe_ix ix_tup (pv 3) pe_int (fun _ _ => rfl))) pa_nil))) pe_never) (show PIp _ .Add rExt2 from iop_ext)))
              (pss_one ps_continue))))))
        (pss_one (ps_expr (pe_bm PySem.F.plainAttrs_list PySem.F.slot_list_append PySem.F.type_list_append mt_append (pv 2) (pa_cons (pe_op op_add_str (pv 1) pe_str) pa_nil)))))))
      (pss_one (ps_ret (pv 2))))), ?_⟩
    have e : r = .none ∧ xs = [] := by
      cases r with
      | none => exact ⟨rfl, hR⟩
      | tell v => cases hk
      | ifR a => cases hk
      | whR a => cases hk
      | tryR a b => cases hk
    obtain ⟨rfl, rfl⟩ := e
    refine ⟨(by show 0 ≤ sizeLine; decide), fun f hf => ?_⟩
    have S1 := same_new (o := .lst []) hf
    refine ⟨_, rfl, t, rfl, ⟨_, SqT.of (S1 _ _ ht)⟩, for_tup (K := K) (a := t) (xs := []) (fun i σ H' => H' = upd H f (.lst []) ∧ ∃ s3, σ = [some (.ref t), some (.str ah), some (.ref f), s3]) ⟨rfl, _, rfl⟩ (fun i σ H' _ e => by rw [e.1]; exact SqT.of (S1 _ _ ht)) (fun i y σ H' hy _ => by cases hy) ?_⟩
    rintro σ H' ⟨rfl, s3, rfl⟩
    exact ⟨_, rfl, q _ f S1 hf upd_same⟩
theorem ok_loS (T : Txt K mg) {L d : Nat} (hL : 9 ≤ L) (hd5 : d ≤ 5) (G_lines_of : FnOk P w K mg base CX0 L (A_lines_of K) (fdOf K (A_lines_of K)) ["rows", "ahead"] (spLo (d + 1))) : FnOk P w K mg base CX0 (L + 1) (A_lines_of K) (fdOf K (A_lines_of K)) ["rows", "ahead"] (spLo d) := by
  have G_row_text : FnOk P w K mg base CX0 8 (A_row_text K) (fdOf K (A_row_text K)) ["row"] spRtx := ok_rtx T
  refine T.d_lines_of.ok sc_lo (fun vs H Q E h => ?_) (fun cdv A outer s H vs Q E hr h => ?_)
  · obtain ⟨t, ah, xs, r, rfl, _⟩ := h
    rfl
  · obtain ⟨t, ah, xs, r, rfl, ht, hR, hk, hah, q⟩ := h
    refine ⟨_, (pss_cons (ps_set (i := 2) sc_lo.nd rfl (.inl rfl) (pe_lst pa_nil))
      (pss_cons (ps_for PassesOwn.never rfl (pi_tup (pv 0)) (pg_name (i := 3) sc_lo.nd rfl (.inl rfl))
        (pss_cons (ps_expr (pe_bm PySem.F.plainAttrs_list PySem.F.slot_list_append PySem.F.type_list_append mt_append (pv 2) (pa_cons (pe_op op_add_str (pv 1) (pe_call G_row_text (hr.mono (by omega)) rfl T.g_row_text T.d_row_text.kp (b_row_text T) .nil pass0 (pa_cons (pv 3) pa_nil))) pa_nil)))
        (pss_cons (ps_if (pt_cmpR op_eq (pe_ix ix_tup (pv 3) pe_int (fun _ _ => rfl)) pe_str (nomark _)) (pss_cons (ps_aug (i := 2) sc_lo.nd rfl (.inl rfl) (pe_call G_lines_of (hr.mono (by omega)) rfl T.g_lines_of T.d_lines_of.kp (b_lines_of T) .nil pass0 (pa_cons (pe_ix ix_tup (pv 3) pe_int (fun _ _ => rfl)) (pa_cons (pe_op op_add_str (pv 1) pe_str) pa_nil))) (show PIp _ .Add rExt2 from iop_ext))
          (pss_one (ps_if (pt_cmpR (op_neD hr.units) (pe_ix ix_tup (pv 3) pe_int (fun _ _ => rfl)) (pe_tup pa_nil) (nomark _)) pss_never
            pss_nil)))
          (pss_one (ps_if (pt_cmpR op_eq (pe_ix ix_tup (pv 3) pe_int (fun _ _ => rfl)) pe_str (nomark _)) (pss_one (ps_aug (i := 2) sc_lo.nd rfl (.inl rfl) (pe_call G_lines_of (hr.mono (by omega)) rfl T.g_lines_of T.d_lines_of.kp (b_lines_of T) .nil pass0 (pa_cons (pe_ix ix_tup (pv 3) pe_int (fun _ _ => rfl)) (pa_cons (pe_op op_add_str (pv 1) pe_str) pa_nil))) (show PIp _ .Add rExt2 from iop_ext)))
            (pss_one (ps_if (pt_cmpR op_eq (pe_ix ix_tup (pv 3) pe_int (fun _ _ => rfl)) pe_str (nomark _)) (pss_one (ps_aug (i := 2) sc_lo.nd rfl (.inl rfl) (pe_op op_cat (pe_op op_cat (pe_call G_lines_of (hr.mono (by omega)) rfl T.g_lines_of T.d_lines_of.kp (b_lines_of T) .nil pass0 (pa_cons (pe_ix ix_tup (pv 3) pe_int (fun _ _ => rfl)) (pa_cons (pe_op op_add_str (pv 1) pe_str) pa_nil))) (pe_lst (pa_cons (pe_op op_add_str (pe_op op_add_str (pv 1) pe_str) (pe_ix ix_tup (pv 3) pe_int (fun _ _ => rfl))) pa_nil))) (pe_call G_lines_of (hr.mono (by omega)) rfl T.g_lines_of T.d_lines_of.kp (b_lines_of T) .nil pass0 (pa_cons (pe_ix ix_tup (pv 3) pe_int (fun _ _ => rfl)) (pa_cons (pe_op op_add_str (pv 1) pe_str) pa_nil)))) (show PIp _ .Add rExt2 from iop_ext)))
              (pss_one ps_continue))))))
        (pss_one (ps_expr (pe_bm PySem.F.plainAttrs_list PySem.F.slot_list_append PySem.F.type_list_append mt_append (pv 2) (pa_cons (pe_op op_add_str (pv 1) pe_str) pa_nil)))))))
      (pss_one (ps_ret (pv 2))))), ?_⟩
    refine ⟨(by show 0 ≤ sizeLine; decide), fun f hf => ?_⟩
    have S1 := same_new (o := .lst []) hf
    have tf : t ≠ f := ne_of_none ht hf
    rcases rs_one hR with ⟨rfl, rfl⟩ | ⟨a, rfl⟩
    · refine ⟨_, rfl, t, rfl, ⟨_, SqT.of (S1 _ _ ht)⟩, for_tup (K := K) (a := t) (xs := []) (fun i σ H' => H' = upd H f (.lst []) ∧ ∃ s3, σ = [some (.ref t), some (.str ah), some (.ref f), s3]) ⟨rfl, _, rfl⟩ (fun i σ H' _ e => by rw [e.1]; exact SqT.of (S1 _ _ ht)) (fun i y σ H' hy _ => by cases hy) ?_⟩
      rintro σ H' ⟨rfl, s3, rfl⟩
      exact ⟨_, rfl, q _ f S1 hf upd_same⟩
    refine ⟨_, rfl, t, rfl, ⟨_, SqT.of (S1 _ _ ht)⟩, for_tup (K := K) (a := t) (xs := [.ref a]) (fun i σ H' => Same H H' ∧ (∃ s3, σ = [some (.ref t), some (.str ah), some (.ref f), s3]) ∧ ((i = 0 ∧ H' = upd H f (.lst [])) ∨ (i = 1 ∧ H' f = some (.lst (strV (linesR r ah)))))) ⟨S1, ⟨_, rfl⟩, .inl ⟨rfl, rfl⟩⟩ (fun i σ H' _ e => SqT.of (e.1 _ _ ht)) ?_ ?_⟩
    · rintro i y σ H' hy ⟨_, ⟨s3, rfl⟩, ⟨rfl, rfl⟩ | ⟨rfl, _⟩⟩
      · obtain rfl : y = V.ref a := (Option.some.inj hy).symm
        have hf1 : upd H f (.lst []) f = some (.lst []) := upd_same
        have hR1 := hR.mono (ts_same S1)
        have hrt : ah.length + (rowT r).length ≤ 1000 := by
          have := rowT_len (rok_okV hk)
          omega
        have hend : ah.length + ("end" : Str).length ≤ sizeLine := by
          have e : ("end" : Str).length = 3 := by decide +kernel
          rw [e]
          exact Nat.le_trans (by omega) (show 100 ≤ sizeLine by decide)
        have hah2 : ah.length + ("  " : Str).length ≤ sizeLine := by
          have e : ("  " : Str).length = 2 := by decide +kernel
          rw [e]
          exact Nat.le_trans (by omega) (show 100 ≤ sizeLine by decide)
        refine ⟨_, rfl, .inl ⟨rfl, _, SqL.of hf1⟩, _, rfl, _, rfl, a, r, rfl, hR1, rok_okV hk, fun H2 S2 => ⟨ah, rowT r, rfl, rfl, Nat.le_trans hrt (by decide), f, [], _, rfl, rfl, S2 _ _ hf1, (by decide), ?_⟩⟩
        have S3 : Same H (upd H2 f (.lst [.str (ah ++ rowT r)])) := sover (S1.trans S2) hf
        have hf3 : upd H2 f (.lst [.str (ah ++ rowT r)]) f = some (.lst (strV [ah ++ rowT r])) := upd_same
        have hR3 := hR.mono (ts_same S3)
        show tSeq _ _ _ _ (upd H2 f (.lst [.str (ah ++ rowT r)]))
        generalize upd H2 f (.lst [.str (ah ++ rowT r)]) = H3 at *
        clear hR1 hf1
        cases r with
        | none => cases hR
        | tell v =>
          obtain ⟨p, q1, e, hp, hv⟩ := hR3
          cases e
          refine ⟨_, rfl, a, _, 0, .str "tell", rfl, rfl, SqT.of hp, atI_nat (j := 0) rfl, rfl, _, rfl, itF (by decide +kernel) ?_⟩
          refine ⟨_, rfl, a, _, 0, .str "tell", rfl, rfl, SqT.of hp, atI_nat (j := 0) rfl, rfl, _, rfl, itF (by decide +kernel) ?_⟩
          refine ⟨_, rfl, a, _, 0, .str "tell", rfl, rfl, SqT.of hp, atI_nat (j := 0) rfl, rfl, _, rfl, itF (by decide +kernel) ?_⟩
          exact ⟨S3, ⟨_, rfl⟩, .inr ⟨rfl, hf3⟩⟩
        | ifR b =>
          obtain ⟨p, q1, s1, t1, ys1, e, hp, hv, h3, h4, h5⟩ := hR3
          cases e
          have rb : rok b (d + 1) = true := by
            simp [rok] at hk
            exact hk.2
          have lb := lines_few rb (ah ++ "  ")
          refine ⟨_, rfl, a, _, 0, .str "if", rfl, rfl, SqT.of hp, atI_nat (j := 0) rfl, rfl, _, rfl, itT (by decide +kernel) ?_⟩
          refine ⟨_, rfl, _, rfl, a, _, 2, .ref s1, rfl, rfl, SqT.of hp, atI_nat (j := 2) rfl, _, rfl, _, _, rfl, rfl, hah2, s1, ah ++ "  ", _, b, rfl, h3, h4, rb, ah_more hah, fun H4 l S4 nl hl => ⟨f, l, _, _, rfl, rfl, S4 _ _ hf3, hl, ?_, ?_⟩⟩
          · rw [List.length_map, List.length_map]
            exact Nat.le_trans (show _ ≤ 1000 by rw [List.length_singleton]; omega) (show 1000 ≤ sizeLine by decide)
          have hf4 := S4 _ _ hf3
          have hp4 := S4 _ _ hp
          have S5 : Same H (upd H4 f (.lst (strV [ah ++ rowT (.ifR b)] ++ strV (linesR b (ah ++ "  "))))) := sover (S3.trans S4) hf
          have hf5 : upd H4 f (.lst (strV [ah ++ rowT (.ifR b)] ++ strV (linesR b (ah ++ "  ")))) f = some (.lst (strV ([ah ++ rowT (.ifR b)] ++ linesR b (ah ++ "  ")))) := by
            rw [upd_same, ← List.map_append]
          have hp5 : upd H4 f (.lst (strV [ah ++ rowT (.ifR b)] ++ strV (linesR b (ah ++ "  ")))) a = _ := upx hp4 hf4 (by intro z; cases z)
          have lf : ([ah ++ rowT (.ifR b)] ++ linesR b (ah ++ "  ")).length ≤ 1000 := by
            rw [List.length_append, List.length_singleton]
            omega
          have ht5 : upd H4 f (.lst (strV [ah ++ rowT (.ifR b)] ++ strV (linesR b (ah ++ "  ")))) t1 = some (.tup []) := upx (S4 _ _ h5) hf4 (by intro z; cases z)
          generalize upd H4 f (.lst (strV [ah ++ rowT (.ifR b)] ++ strV (linesR b (ah ++ "  ")))) = H5 at *
          refine ⟨_, rfl, a, _, 3, .ref t1, rfl, rfl, SqT.of hp5, atI_nat (j := 3) rfl, (by show 0 ≤ sizeLine; decide), fun e0 he0 => ⟨.tuple [], .tuple [], .tup (SqT.of (upk ht5 he0)) .nil, .tup (SqT.of upd_same) .nil, (by decide), (by decide), _, rfl, itF (by decide) ?_⟩⟩
          have S5 := same_trans_new (o := .tup []) S5 he0
          have hf5 := upk (o := .tup []) hf5 he0
          refine ⟨_, rfl, .inl ⟨rfl, _, SqL.of hf5⟩, _, rfl, ah, "end", rfl, rfl, hend, f, _, _, rfl, rfl, hf5, ?_, sover S5 hf, ⟨_, rfl⟩, .inr ⟨rfl, ?_⟩⟩
          · rw [List.length_map]
            exact Nat.lt_of_le_of_lt lf (show 1000 < sizeLine by decide)
          · rw [strV_snoc]
            exact upd_same
        | whR b =>
          obtain ⟨p, q1, s1, ys1, e, hp, hv, h3, h4⟩ := hR3
          cases e
          have rb : rok b (d + 1) = true := by
            simp [rok] at hk
            exact hk.2
          have lb := lines_few rb (ah ++ "  ")
          refine ⟨_, rfl, a, _, 0, .str "while", rfl, rfl, SqT.of hp, atI_nat (j := 0) rfl, rfl, _, rfl, itF (by decide +kernel) ?_⟩
          refine ⟨_, rfl, a, _, 0, .str "while", rfl, rfl, SqT.of hp, atI_nat (j := 0) rfl, rfl, _, rfl, itT (by decide +kernel) ?_⟩
          refine ⟨_, rfl, _, rfl, a, _, 2, .ref s1, rfl, rfl, SqT.of hp, atI_nat (j := 2) rfl, _, rfl, _, _, rfl, rfl, hah2, s1, ah ++ "  ", _, b, rfl, h3, h4, rb, ah_more hah, fun H4 l S4 nl hl => ⟨f, l, _, _, rfl, rfl, S4 _ _ hf3, hl, ?_, ?_⟩⟩
          · rw [List.length_map, List.length_map]
            exact Nat.le_trans (show _ ≤ 1000 by rw [List.length_singleton]; omega) (show 1000 ≤ sizeLine by decide)
          have hf4 := S4 _ _ hf3
          have hp4 := S4 _ _ hp
          have S5 : Same H (upd H4 f (.lst (strV [ah ++ rowT (.whR b)] ++ strV (linesR b (ah ++ "  "))))) := sover (S3.trans S4) hf
          have hf5 : upd H4 f (.lst (strV [ah ++ rowT (.whR b)] ++ strV (linesR b (ah ++ "  ")))) f = some (.lst (strV ([ah ++ rowT (.whR b)] ++ linesR b (ah ++ "  ")))) := by
            rw [upd_same, ← List.map_append]
          have hp5 : upd H4 f (.lst (strV [ah ++ rowT (.whR b)] ++ strV (linesR b (ah ++ "  ")))) a = _ := upx hp4 hf4 (by intro z; cases z)
          have lf : ([ah ++ rowT (.whR b)] ++ linesR b (ah ++ "  ")).length ≤ 1000 := by
            rw [List.length_append, List.length_singleton]
            omega
          generalize upd H4 f (.lst (strV [ah ++ rowT (.whR b)] ++ strV (linesR b (ah ++ "  ")))) = H5 at *
          refine ⟨_, rfl, .inl ⟨rfl, _, SqL.of hf5⟩, _, rfl, ah, "end", rfl, rfl, hend, f, _, _, rfl, rfl, hf5, ?_, sover S5 hf, ⟨_, rfl⟩, .inr ⟨rfl, ?_⟩⟩
          · rw [List.length_map]
            exact Nat.lt_of_le_of_lt lf (show 1000 < sizeLine by decide)
          · rw [strV_snoc]
            exact upd_same
        | tryR b c =>
          obtain ⟨p, s1, t1, ys1, zs1, e, hp, h3, h4, h5, h6⟩ := hR3
          cases e
          have rb : rok b (d + 1) = true := by
            simp [rok] at hk
            exact hk.2.1
          have rc : rok c (d + 1) = true := by
            simp [rok] at hk
            exact hk.2.2
          have lb := lines_few rb (ah ++ "  ")
          have lc := lines_few rc (ah ++ "  ")
          have e6 : ("catch " : Str).length = 6 := by decide +kernel
          have e1 : ("x" : Str).length = 1 := by decide +kernel
          refine ⟨_, rfl, a, _, 0, .str "try", rfl, rfl, SqT.of hp, atI_nat (j := 0) rfl, rfl, _, rfl, itF (by decide +kernel) ?_⟩
          refine ⟨_, rfl, a, _, 0, .str "try", rfl, rfl, SqT.of hp, atI_nat (j := 0) rfl, rfl, _, rfl, itF (by decide +kernel) ?_⟩
          refine ⟨_, rfl, a, _, 0, .str "try", rfl, rfl, SqT.of hp, atI_nat (j := 0) rfl, rfl, _, rfl, itT (by decide +kernel) ?_⟩
          refine ⟨_, rfl, _, rfl, a, _, 1, .ref s1, rfl, rfl, SqT.of hp, atI_nat (j := 1) rfl, _, rfl, _, _, rfl, rfl, hah2, s1, ah ++ "  ", _, b, rfl, h3, h4, rb, ah_more hah, fun H4 l1 S4 nl1 hl1 => ?_⟩
          have hp4 := S4 _ _ hp
          refine ⟨_, rfl, _, _, rfl, rfl, Nat.le_trans (show _ ≤ 1000 by rw [e6]; omega) (by decide), _, rfl, a, _, 2, .str "x", rfl, rfl, SqT.of hp4, atI_nat (j := 2) rfl, _, _, rfl, rfl, Nat.le_trans (show _ ≤ 1000 by rw [app_len, e6, e1]; omega) (by decide), (by show 1 ≤ sizeLine; decide), fun l2 hl2 => ?_⟩
          have n12 : l1 ≠ l2 := ne_of_none hl1 hl2
          refine ⟨l1, l2, _, _, rfl, rfl, upk hl1 hl2, upd_same, ?_, fun l3 hl3 => ?_⟩
          · rw [List.length_map]
            exact Nat.le_trans (show _ ≤ 1000 by rw [List.length_singleton]; omega) (show 1000 ≤ sizeLine by decide)
          have S6 : Same H3 (upd (upd H4 l2 (.lst [.str (ah ++ "catch " ++ "x")])) l3 (.lst (strV (linesR b (ah ++ "  ")) ++ [.str (ah ++ "catch " ++ "x")]))) := same_trans_new (same_trans_new S4 hl2) hl3
          have h36 : upd (upd H4 l2 (.lst [.str (ah ++ "catch " ++ "x")])) l3 (.lst (strV (linesR b (ah ++ "  ")) ++ [.str (ah ++ "catch " ++ "x")])) l3 = some (.lst (strV (linesR b (ah ++ "  ") ++ [ah ++ "catch " ++ "x"]))) := by
            rw [upd_same, strV_snoc]
          generalize upd (upd H4 l2 (.lst [.str (ah ++ "catch " ++ "x")])) l3 (.lst (strV (linesR b (ah ++ "  ")) ++ [.str (ah ++ "catch " ++ "x")])) = H6 at *
          have hp6 := S6 _ _ hp
          have h66 := h6.mono (ts_same S6)
          have h56 := S6 _ _ h5
          refine ⟨_, rfl, a, _, 3, .ref t1, rfl, rfl, SqT.of hp6, atI_nat (j := 3) rfl, _, rfl, _, _, rfl, rfl, hah2, t1, ah ++ "  ", _, c, rfl, h56, h66, rc, ah_more hah, fun H7 l4 S7 nl4 hl4 => ?_⟩
          refine ⟨l3, l4, _, _, rfl, rfl, S7 _ _ h36, hl4, ?_, fun l5 hl5 => ?_⟩
          · rw [List.length_map, List.length_map, List.length_append, List.length_singleton]
            exact Nat.le_trans (show _ ≤ 1000 by omega) (show 1000 ≤ sizeLine by decide)
          have hf7 := S7 _ _ (S6 _ _ hf3)
          have ej : strV (linesR b (ah ++ "  ") ++ [ah ++ "catch " ++ "x"]) ++ strV (linesR c (ah ++ "  ")) = strV (linesR b (ah ++ "  ") ++ [ah ++ "catch " ++ "x"] ++ linesR c (ah ++ "  ")) := (List.map_append ..).symm
          rw [ej]
          refine ⟨f, l5, _, _, rfl, rfl, upk hf7 hl5, upd_same, ?_, ?_⟩
          · rw [List.length_map, List.length_map, List.length_append, List.length_append, List.length_singleton, List.length_singleton]
            exact Nat.le_trans (show _ ≤ 1000 by omega) (show 1000 ≤ sizeLine by decide)
          have hf8 := upk (o := .lst (strV (linesR b (ah ++ "  ") ++ [ah ++ "catch " ++ "x"] ++ linesR c (ah ++ "  ")))) hf7 hl5
          have S8 := same_trans_new (o := .lst (strV (linesR b (ah ++ "  ") ++ [ah ++ "catch " ++ "x"] ++ linesR c (ah ++ "  ")))) ((S3.trans S6).trans S7) hl5
          generalize upd H7 l5 (.lst (strV (linesR b (ah ++ "  ") ++ [ah ++ "catch " ++ "x"] ++ linesR c (ah ++ "  ")))) = H8 at *
          have ek : strV [ah ++ rowT (.tryR b c)] ++ strV (linesR b (ah ++ "  ") ++ [ah ++ "catch " ++ "x"] ++ linesR c (ah ++ "  ")) = strV ([ah ++ rowT (.tryR b c)] ++ (linesR b (ah ++ "  ") ++ [ah ++ "catch " ++ "x"] ++ linesR c (ah ++ "  "))) := (List.map_append ..).symm
          rw [ek]
          have S5 := sover (p := f) (o := .lst (strV ([ah ++ rowT (.tryR b c)] ++ (linesR b (ah ++ "  ") ++ [ah ++ "catch " ++ "x"] ++ linesR c (ah ++ "  "))))) S8 hf
          have hf5 : upd H8 f (.lst (strV ([ah ++ rowT (.tryR b c)] ++ (linesR b (ah ++ "  ") ++ [ah ++ "catch " ++ "x"] ++ linesR c (ah ++ "  "))))) f = _ := upd_same
          have lf : ([ah ++ rowT (.tryR b c)] ++ (linesR b (ah ++ "  ") ++ [ah ++ "catch " ++ "x"] ++ linesR c (ah ++ "  "))).length ≤ 1000 := by
            rw [List.length_append, List.length_append, List.length_append, List.length_singleton, List.length_singleton]
            omega
          generalize upd H8 f (.lst (strV ([ah ++ rowT (.tryR b c)] ++ (linesR b (ah ++ "  ") ++ [ah ++ "catch " ++ "x"] ++ linesR c (ah ++ "  "))))) = H9 at *
          refine ⟨_, rfl, .inl ⟨rfl, _, SqL.of hf5⟩, _, rfl, ah, "end", rfl, rfl, hend, f, _, _, rfl, rfl, hf5, ?_, sover S5 hf, ⟨_, rfl⟩, .inr ⟨rfl, ?_⟩⟩
          · rw [List.length_map]
            exact Nat.lt_of_le_of_lt lf (show 1000 < sizeLine by decide)
          · rw [strV_snoc]
            exact upd_same
      · cases hy
    · rintro σ H' ⟨S, ⟨s3, rfl⟩, ⟨z, _⟩ | ⟨_, e⟩⟩
      · cases z
      · exact ⟨_, rfl, q H' f S hf e⟩
theorem ok_lo (T : Txt K mg) : ∀ k d, d + k = 6 → FnOk P w K mg base CX0 (9 + k) (A_lines_of K) (fdOf K (A_lines_of K)) ["rows", "ahead"] (spLo d)
  | 0, d, h => by
    obtain rfl : d = 6 := h
    exact ok_lo0 T
  | k + 1, d, h => ok_loS T (L := 9 + k) (by omega) (by omega) (ok_lo T k (d + 1) (by omega))
end
end Rt
end S_RtTx3

section S_RtWr
set_option Elab.async false
set_option linter.all false
set_option maxRecDepth 100000
set_option maxHeartbeats 4000000
/-! written -/
namespace Rt
open PySem PySem.Spec PyProof.Rows L2 TL
/-- all lines of a program -/
def allL (r : Rs) : List Str := ("box x 7" : Str) :: "list l 1 2" :: linesR r ""
def wrT (r : Rs) : Str := Txt.join "" ((allL r).map fun x : Str => x ++ "\n")
theorem e_end : ("end" : Str).length = 3 := by decide +kernel
theorem e_catch : ("catch " : Str).length = 6 := by decide +kernel
theorem e_x : ("x" : Str).length = 1 := by decide +kernel
theorem rok_le {r : Rs} {d : Nat} (h : rok r d = true) (n : r ≠ .none) : d ≤ 5 := by
  cases r with
  | none => exact absurd rfl n
  | tell v => simp [rok] at h; exact h.1
  | ifR a => simp [rok] at h; exact h.1
  | whR a => simp [rok] at h; exact h.1
  | tryR a b => simp [rok] at h; exact h.1
theorem lines_each : ∀ (r : Rs) (d : Nat) (ah : Str), rok r d = true → ah.length ≤ 2 * d → ∀ x ∈ linesR r ah, x.length ≤ 500
  | .none, _, _, _, _, x, hx => nomatch hx
  | .tell v, d, ah, h, ha, x, hx => by
    have h5 := rok_le h (by intro z; cases z)
    rw [List.mem_singleton.mp hx, app_len]
    have := rowT_len (rok_okV h)
    omega
  | .ifR a, d, ah, h, ha, x, hx => by
    have h5 := rok_le h (by intro z; cases z)
    have hb : rok a (d + 1) = true := by simp [rok] at h; exact h.2
    rcases List.mem_cons.mp hx with rfl | hx
    · rw [app_len]
      have := rowT_len (rok_okV h)
      omega
    rcases List.mem_append.mp hx with hx | hx
    · exact lines_each a (d + 1) _ hb (ah_more ha) x hx
    · rw [List.mem_singleton.mp hx, app_len, e_end]
      omega
  | .whR a, d, ah, h, ha, x, hx => by
    have h5 := rok_le h (by intro z; cases z)
    have hb : rok a (d + 1) = true := by simp [rok] at h; exact h.2
    rcases List.mem_cons.mp hx with rfl | hx
    · rw [app_len]
      have := rowT_len (rok_okV h)
      omega
    rcases List.mem_append.mp hx with hx | hx
    · exact lines_each a (d + 1) _ hb (ah_more ha) x hx
    · rw [List.mem_singleton.mp hx, app_len, e_end]
      omega
  | .tryR a b, d, ah, h, ha, x, hx => by
    have h5 := rok_le h (by intro z; cases z)
    have hb : rok a (d + 1) = true := by simp [rok] at h; exact h.2.1
    have hc : rok b (d + 1) = true := by simp [rok] at h; exact h.2.2
    rcases List.mem_cons.mp hx with rfl | hx
    · rw [app_len]
      have := rowT_len (rok_okV h)
      omega
    rcases List.mem_append.mp hx with hx | hx
    · rcases List.mem_append.mp hx with hx | hx
      · rcases List.mem_append.mp hx with hx | hx
        · exact lines_each a (d + 1) _ hb (ah_more ha) x hx
        · rw [List.mem_singleton.mp hx, app_len, app_len, e_catch, e_x]
          omega
      · exact lines_each b (d + 1) _ hc (ah_more ha) x hx
    · rw [List.mem_singleton.mp hx, app_len, e_end]
      omega
theorem bx_text : (("box " : Str) ++ "x" ++ " " ++ ((toString (7 : Int) : String) : Str)) = "box x 7" := by decide +kernel
theorem ls_text : Txt.join " " ([("list" : Str), "l"] ++ [("1" : Str), "2"]) = "list l 1 2" := by decide +kernel
section
variable {P : Program} {w : World} {K : PySem.W.Frag} {mg : Str → Option Value} {base : Heap}
def spWr : Sp := fun vs H Q _ => ∃ (p : Addr) (r : Rs), vs = [.ref p] ∧ PgmP H p r ∧ rok r 1 = true ∧ ∀ H', Q (.str (wrT r)) H'
theorem sc_wr : FnScope ["program", "boxes", "lists", "functions", "rows", "found", "name", "numbers", "function", "number", "line"] ["program"] (defScope S_written) := ⟨rfl, rfl, rfl, by decide +kernel, rfl, by decide +kernel, by decide +kernel⟩
theorem ok_wr (T : Txt K mg) : FnOk P w K mg base CX0 15 (A_written K) (fdOf K (A_written K)) ["program"] spWr := by
  have G_lines_of : FnOk P w K mg base CX0 14 (A_lines_of K) (fdOf K (A_lines_of K)) ["rows", "ahead"] (spLo 1) := ok_lo T 5 1 rfl
  refine T.d_written.ok sc_wr (fun vs H Q E h => ?_) (fun cdv A outer s H vs Q E hr h => ?_)
  · obtain ⟨p, r, rfl, _⟩ := h
    rfl
  · obtain ⟨p, r, rfl, ⟨bt, lt, ft, rt, xs, hp, ⟨b1, l1, n1, hb, hb1, hl, hl1, hn1⟩, hft, hrt, hR⟩, hk, q⟩ := h
    refine ⟨_, (pss_cons (ps_asg (pv 0) (pg_tup rfl (pgs_cons (pg_name (i := 1) sc_wr.nd rfl (.inl rfl)) (pgs_cons (pg_name (i := 2) sc_wr.nd rfl (.inl rfl)) (pgs_cons (pg_name (i := 3) sc_wr.nd rfl (.inl rfl)) (pgs_cons (pg_name (i := 4) sc_wr.nd rfl (.inl rfl)) pgs_nil))))))
      (pss_cons (ps_setLc (i := 5) (own := [("name", 6), ("number", 9)]) rfl sc_wr.nd rfl rfl (sw_true rfl rfl rfl (by decide +kernel)) (pi_tup (pv 1)) (blkOk_by (own := [("name", 6), ("number", 9)]) (N := ["program", "boxes", "lists", "functions", "rows", "found", "name", "numbers", "function", "number", "line"]) (sc := defScope S_written) (by decide +kernel)) (fun _ _ _ _ _ => (show PG _ _ (gTup K 2 (gCons (gName 6) (gCons (gName 9) gNil))) from (by exact (pg_tup rfl (pgs_cons (by exact (pg_name (i := 6) sc_wr.nd rfl (.inl rfl))) (pgs_cons (by exact (pg_name (i := 9) sc_wr.nd rfl (.inl rfl))) pgs_nil)))))) (fun _ _ _ _ _ => pts_nil) (fun _ _ _ _ _ => (pe_op op_add_str (pe_op op_add_str (pe_op op_add_str pe_str (pv 6)) pe_str) (pe_callTy call_str_int (by rfl) T.f_str (by decide +kernel) (pa_cons (pv 9) pa_nil)))))
      (pss_cons (ps_for PassesOwn.never rfl (pi_tup (pv 2)) (pg_tup rfl (pgs_cons (pg_name (i := 6) sc_wr.nd rfl (.inl rfl)) (pgs_cons (pg_name (i := 7) sc_wr.nd rfl (.inl rfl)) pgs_nil)))
        (pss_one (ps_expr (pe_bm PySem.F.plainAttrs_list PySem.F.slot_list_append PySem.F.type_list_append mt_append (pv 5) (pa_cons (by exact (pe_join pe_str (pe_op op_cat (pe_lst (pa_cons pe_str (pa_cons (pv 6) pa_nil))) (pe_lc (own := [("number", 9)]) rfl sc_wr.nd (pi_tup (pv 7)) (blkOk_by (own := [("number", 9)]) (N := ["program", "boxes", "lists", "functions", "rows", "found", "name", "numbers", "function", "number", "line"]) (sc := defScope S_written) (by decide +kernel)) (fun _ _ _ _ _ => (pg_name (i := 9) sc_wr.nd rfl (.inl rfl))) (fun _ _ _ _ _ => pts_nil) (fun _ _ _ _ _ => (pe_callTy call_str_int (by rfl) T.f_str (by decide +kernel) (pa_cons (pv 9) pa_nil))))))) pa_nil)))))
      (pss_cons (ps_for PassesOwn.never rfl (pi_tup (pv 3)) (pg_name (i := 8) sc_wr.nd rfl (.inl rfl))
        pss_never)
      (pss_one (ps_ret (pe_join pe_str (pe_lc (own := [("line", 10)]) rfl sc_wr.nd (pi_list (pe_op op_cat (pv 5) (pe_call G_lines_of (hr.mono (by decide)) rfl T.g_lines_of T.d_lines_of.kp (b_lines_of T) .nil pass0 (pa_cons (pv 4) (pa_cons pe_str pa_nil))))) (blkOk_by (own := [("line", 10)]) (N := ["program", "boxes", "lists", "functions", "rows", "found", "name", "numbers", "function", "number", "line"]) (sc := defScope S_written) (by decide +kernel)) (fun _ _ _ _ _ => (pg_name (i := 10) sc_wr.nd rfl (.inl rfl))) (fun _ _ _ _ _ => pts_nil) (fun _ _ _ _ _ => (pe_op op_add_str (pv 10) pe_str)))))))))), ?_⟩
    refine ⟨_, rfl, p, _, rfl, SqT.of hp, rfl, _, _, rfl, _, _, rfl, _, _, rfl, _, _, rfl, rfl, ?_⟩
    refine ⟨_, rfl, bt, rfl, ⟨_, SqT.of hb⟩, fun D hD => ?_⟩
    refine lc_tup (K := K) (a := bt) (xs := [.ref b1]) (fun i H' => H' = upd H D (.lst (([.str "box x 7"] : List V).take i))) rfl (fun i H' _ e => by rw [e]; exact SqT.of (upk hb hD)) ?_ ?_
    · rintro i y H' hy rfl
      match i, hy with
      | 0, hy =>
        obtain rfl : y = V.ref b1 := (Option.some.inj hy).symm
        refine ⟨b1, _, rfl, SqT.of (upk hb1 hD), rfl, _, _, rfl, _, _, rfl, rfl, rfl, _, rfl, _, _, rfl, rfl, (by decide +kernel), _, _, rfl, rfl, (by decide +kernel), _, rfl, 7, rfl, (by decide +kernel), _, _, rfl, rfl, (by decide +kernel), _, upd_same, (by show 0 < sizeLine; decide), ?_⟩
        rw [upd_upd, bx_text]
        rfl
      | i + 1, hy => cases hy
    rintro H1 rfl
    have S1 : Same H (upd H D (.lst [.str "box x 7"])) := same_new hD
    have hD1 : upd H D (.lst [.str "box x 7"]) D = some (.lst [.str "box x 7"]) := upd_same
    show tSeq _ _ _ _ (upd H D (.lst [.str "box x 7"]))
    generalize upd H D (.lst [.str "box x 7"]) = H1 at *
    refine ⟨_, rfl, lt, rfl, ⟨_, SqT.of (S1 _ _ hl)⟩, for_tup (K := K) (a := lt) (xs := [.ref l1]) (fun i σ H' => Same H H' ∧ (∃ s6 s7 s8 s9 s10, σ = [some (.ref p), some (.ref bt), some (.ref lt), some (.ref ft), some (.ref rt), some (.ref D), s6, s7, s8, s9, s10]) ∧
      H' D = some (.lst (([.str "box x 7", .str "list l 1 2"] : List V).take (i + 1)))) ⟨S1, ⟨_, _, _, _, _, rfl⟩, hD1⟩ (fun i σ H' _ h => SqT.of (h.1 _ _ hl)) ?_ ?_⟩
    · rintro i y σ H2 hy ⟨S2, ⟨s6, s7, s8, s9, s10, rfl⟩, hD2⟩
      match i, hy with
      | 0, hy =>
        obtain rfl : y = V.ref l1 := (Option.some.inj hy).symm
        refine ⟨l1, _, rfl, SqT.of (S2 _ _ hl1), rfl, _, _, rfl, _, _, rfl, rfl, ?_⟩
        refine ⟨_, rfl, .inl ⟨rfl, _, SqL.of hD2⟩, ⟨_, rfl⟩, _, rfl, (by show 2 ≤ sizeLine; decide), fun m1 hm1 => ?_⟩
        have S3 := same_trans_new (o := .lst [.str "list", .str "l"]) S2 hm1
        have hm13 : upd H2 m1 (.lst [.str "list", .str "l"]) m1 = some (.lst [.str "list", .str "l"]) := upd_same
        have hD3 := upk (o := .lst [.str "list", .str "l"]) hD2 hm1
        generalize upd H2 m1 (.lst [.str "list", .str "l"]) = H3 at *
        refine ⟨_, rfl, n1, rfl, ⟨_, SqT.of (S3 _ _ hn1)⟩, fun E2 hE2 => ?_⟩
        refine lc_tup (K := K) (a := n1) (xs := [.int 1, .int 2]) (fun i H' => H' = upd H3 E2 (.lst (([.str "1", .str "2"] : List V).take i))) rfl (fun i H' _ e => by rw [e]; exact SqT.of (upk (S3 _ _ hn1) hE2)) ?_ ?_
        · rintro i y H' hy rfl
          match i, hy with
          | 0, hy =>
            obtain rfl : y = V.int 1 := (Option.some.inj hy).symm
            exact ⟨rfl, _, rfl, 1, rfl, (by decide +kernel), _, upd_same, (by show 0 < sizeLine; decide), by rw [upd_upd]; rfl⟩
          | 1, hy =>
            obtain rfl : y = V.int 2 := (Option.some.inj hy).symm
            exact ⟨rfl, _, rfl, 2, rfl, (by decide +kernel), _, upd_same, (by show 1 < sizeLine; decide), by rw [upd_upd]; rfl⟩
          | i + 2, hy => cases hy
        rintro H4 rfl
        have hm14 := upk (o := .lst [.str "1", .str "2"]) hm13 hE2
        have hD4 := upk (o := .lst [.str "1", .str "2"]) hD3 hE2
        have S4 := same_trans_new (o := .lst [.str "1", .str "2"]) S3 hE2
        have hE4 : upd H3 E2 (.lst [.str "1", .str "2"]) E2 = some (.lst [.str "1", .str "2"]) := upd_same
        refine ⟨m1, E2, [.str "list", .str "l"], [.str "1", .str "2"], rfl, rfl, hm14, hE4, (by show 4 ≤ sizeLine; decide), fun m3 hm3 => ?_⟩
        refine ⟨" ", m3, [("list" : Str), "l"] ++ [("1" : Str), "2"], rfl, rfl, .inl (SqL.of upd_same), (by decide +kernel), ?_⟩
        rw [ls_text]
        exact ⟨D, _, _, rfl, rfl, upk hD4 hm3, (by show 1 < sizeLine; decide), sover (same_trans_new S4 hm3) hD, ⟨_, _, _, _, _, rfl⟩, upd_same⟩
      | i + 1, hy => cases hy
    rintro σ H2 ⟨S2, ⟨s6, s7, s8, s9, s10, rfl⟩, hD2⟩
    have hft2 := S2 _ _ hft
    refine ⟨_, rfl, ft, rfl, ⟨_, SqT.of hft2⟩, for_tup (K := K) (a := ft) (xs := []) (fun i σ H' => H' = H2 ∧ ∃ s8, σ = [some (.ref p), some (.ref bt), some (.ref lt), some (.ref ft), some (.ref rt), some (.ref D), s6, s7, s8, s9, s10]) ⟨rfl, _, rfl⟩ (fun i σ H' _ e => by rw [e.1]; exact SqT.of hft2) (fun i y σ H' hy _ => by cases hy) ?_⟩
    rintro σ H3 ⟨rfl, s8', rfl⟩
    have few := lines_few hk ""
    refine ⟨⟨_, rfl⟩, _, rfl, _, rfl, rt, "", xs, r, rfl, S2 _ _ hrt, hR.mono (ts_same S2), hk, (by decide +kernel), fun H4 l S4 nl hl => ?_⟩
    refine ⟨D, l, [.str "box x 7", .str "list l 1 2"], _, rfl, rfl, S4 _ _ hD2, hl, ?_, fun m hm => ?_⟩
    · rw [List.length_map]
      exact Nat.le_trans (show _ ≤ 1000 by show 2 + _ ≤ 1000; omega) (show 1000 ≤ sizeLine by decide)
    have hm5 : upd H4 m (.lst ([V.str "box x 7", V.str "list l 1 2"] ++ strV (linesR r ""))) m = some (.lst (strV (allL r))) := upd_same
    refine ⟨m, rfl, ⟨_, SqL.of hm5⟩, fun F hF => ?_⟩
    generalize upd H4 m (.lst ([V.str "box x 7", V.str "list l 1 2"] ++ strV (linesR r ""))) = H5 at *
    have each : ∀ x ∈ allL r, x.length ≤ 500 := fun x hx => by
      rcases List.mem_cons.mp hx with rfl | hx
      · decide +kernel
      rcases List.mem_cons.mp hx with rfl | hx
      · decide +kernel
      · exact lines_each r 1 "" hk (by decide +kernel) x hx
    have eN : ("\n" : Str).length = 1 := by decide +kernel
    have lA : (allL r).length ≤ 202 := by
      show (linesR r "").length + 1 + 1 ≤ 202
      omega
    refine lc_list (K := K) (a := m) (xs := strV (allL r)) (fun i H' => H' = upd H5 F (.lst (strV (((allL r).map fun x : Str => x ++ "\n").take i)))) rfl (fun i H' _ e => by rw [e]; exact SqL.of (upk hm5 hF)) ?_ ?_
    · rintro i y H' hy rfl
      obtain ⟨x, hx, rfl⟩ := strV_at hy
      have hxl := each x (List.mem_of_getElem? hx)
      refine ⟨rfl, _, rfl, x, "\n", rfl, rfl, Nat.le_trans (show _ ≤ 1000 by rw [eN]; omega) (by decide), _, upd_same, ?_, ?_⟩
      · rw [List.length_map, List.length_take, List.length_map]
        exact Nat.lt_of_le_of_lt (show _ ≤ 1000 by omega) (show 1000 < sizeLine by decide)
      · have e2 : ((allL r).map fun x : Str => x ++ "\n")[i]? = some (x ++ "\n") := by
          rw [List.getElem?_map, hx]
          rfl
        rw [upd_upd, take_more e2, strV_snoc]
    rintro H' rfl
    refine ⟨"", F, (allL r).map fun x : Str => x ++ "\n", rfl, rfl, .inl (SqL.of ?_), ?_, q _⟩
    · rw [upd_same, List.length_map, ← List.length_map (f := fun x : Str => x ++ "\n"), List.take_length]
    · have hs : ∀ x ∈ (allL r).map fun x : Str => x ++ "\n", x.length ≤ 501 := fun x hx => by
        obtain ⟨z, hz, rfl⟩ := List.mem_map.mp hx
        rw [app_len, eN]
        have := each z hz
        omega
      have h1 := sum_le hs
      rw [List.length_map] at h1
      rw [List.length_map, show ("" : Str).length = 0 from by decide +kernel]
      exact Nat.le_trans (show _ ≤ 202 * 501 by
        have := Nat.mul_le_mul_right 501 lA
        omega) (by decide)
end
end Rt
end S_RtWr

section S_RtLcT
set_option Elab.async false
set_option linter.all false
set_option maxRecDepth 100000
set_option maxHeartbeats 4000000
/-! a list comprehension whose element wants that a token is out; a test that gives one out. After the layer's own comprehension, the count of tokens carried along. -/
namespace Rt
open PySem PySem.Spec PyProof.Rows L2
section
variable {α : Type} {M : Model} {A : Around} {s : Shared}
theorem tokF {t : Sem α} {Q Q' : α → Shared → Prop} {E : Value → Shared → Prop} (h : wpAny M A t Q (fun _ _ => False) s) (hn : 1 ≤ s.toks) (k : ∀ a s1, 1 ≤ s1.toks → Q a s1 → Q' a s1) : wpAny M A t Q' E s :=
  wpAny_mono (PySem.wpAny_toks_of hn h) (fun a s1 q => k a s1 q.1 q.2) fun _ _ z => z.2.elim
theorem tokE {t : Sem α} {Q Q' : α → Shared → Prop} {E : Value → Shared → Prop} (h : wpAny M A t Q E s) (hn : 1 ≤ s.toks) (k : ∀ a s1, 1 ≤ s1.toks → Q a s1 → Q' a s1) : wpAny M A t Q' E s :=
  wpAny_mono (PySem.wpAny_toks_of hn h) (fun a s1 q => k a s1 q.1 q.2) fun _ _ z => z.2
end
section
variable {X : Cx}
/-- if a op 3: .. ; behind the test a token is out -/
theorem pss_ifK {a : Expr} {i : Int} {j : Nat} {op : CmpOp} {r : R2} {ta : TE} {p1 p2 p3 : Pos} {body rest : List Stmt} {t u : L2.TS} (ho : OpR X (compareOp op) r) (ha : PE X a ta) (hb : PSs X body t) (h2 : PSsT X rest u) (hm : behindInMarks op (.Constant (.int i) j p1) = false) :
    PSs X (.If (.Compare a [op] [.Constant (.int i) j p1] p2) body [] p3 :: rest) (tSeq (tIfS (tTest (tOp r ta (tC (.int i)))) t tNext) u) := by
  constructor
  intro pins s σ H D I h
  have K : wpAny (model X.prog X.w) X.A (exec (.If (.Compare a [op] [.Constant (.int i) j p1] p2) body [] p3) X.env) (fun f s1 => 1 ≤ s1.toks ∧ SP X pins { D with nx := u D } f s1) X.xe s := by
    refine wpAny_If (wpAny_mono (Q := fun b s1 => 1 ≤ s1.toks ∧ TP X pins σ (fun b H1 => if b = true then t { D with nx := u D } σ H1 else tNext { D with nx := u D } σ H1) b s1) ?_ ?_ fun _ _ z => z)
    · refine wpAny_isTrue_Compare1 (thn (ha.run pins s σ H _ I h) fun v s1 q1 => ?_) hm
      obtain ⟨x, H1, I1, r1, q1⟩ := q1
      refine wpAny_Constant_int ?_
      refine tokE (ho pins { s1 with toks := s1.toks + 1 } σ H1 x (.int i) v (.int i s1.toks) _ (I1.tok _) r1 ⟨_, rfl⟩ q1) (Nat.le_add_left 1 _) fun c s3 n3 q3 => ?_
      obtain ⟨z, H3, I3, r3, k, e, q3⟩ := q3
      subst e
      cases r3
      exact wpAny_truthy_bool ⟨n3, H3, I3, q3⟩
    · rintro b s1 ⟨n1, H1, I1, q1⟩
      cases b with
      | true => exact tokE (hb.run pins s1 σ H1 _ I1 q1) n1 fun f s2 n2 q2 => ⟨n2, q2⟩
      | false => exact tokE (pss_nil.run pins s1 σ H1 { D with nx := u D } I1 q1) n1 fun f s2 n2 q2 => ⟨n2, q2⟩
  refine wpAny_execs_cons (wpAny_mono K ?_ fun _ _ z => z)
  rintro f s1 ⟨n1, q⟩
  cases f with
  | next =>
    obtain ⟨σ2, H2, I2, q⟩ := q
    exact h2 pins s1 σ2 H2 D n1 I2 q
  | ret v => exact q
  | brk => exact q
  | cont => exact q
theorem pet_lcT {elt tg iter : Expr} {scope : Scope} {own : List (Str × Nat)} {pos : Pos} {wi : L2.TI} {g : TG} {te : TE} (hc : X.calm = true) (hN : X.N.Nodup) (hi : PI X tg iter wi) (ok : BlkOk X.N X.env.scope scope own)
    (hg : ∀ (s : Shared) (H : Hp) (C : Addr) (cl : List (Str × Addr)) (fp : List Addr), PG (X.blk s H scope (compEnvC scope cl C X.env) fp) tg g)
    (he : ∀ (s : Shared) (H : Hp) (C : Addr) (cl : List (Str × Addr)) (fp : List Addr), PET (X.blk s H scope (compEnvC scope cl C X.env) fp) elt te) (hs : ∀ x, foldedSetIterable iter X.env x = pure x := by intro _; rfl) :
    PET X (.ListComp elt [⟨tg, iter, [], 0⟩] scope pos) (tLc wi g tYes te (own.map (·.2))) := by
  intro pins s σ H Q h0 I h
  rw [eval_ListComp]
  have free : ∀ y ∈ scope.names, y.2 = .free → ∃ c, X.env.cells.lookup y.1 = some c := fun y hy e => (ok.free y hy e).elim (fun k => I.ok.has _ (.inl k)) fun k => I.ok.has _ (.inr k)
  refine wpAny_comprehension_free (use := none) rfl hs (closure_ok free) ok.kind (fun y hy e => by rw [ok.uniq y hy, e]) (tokE (hi.run pins s σ H _ I h) h0 fun xv s1 n1 hx => tokE hx n1 fun itv s2 n2 h2 => ?_)
  obtain ⟨it, fp, tn, J, H2, rfl, I2, T, st2, f2, q⟩ := h2
  refine wpAny_newObj_type (newEnv_comp ?_) (by show 0 ≤ sizeLine; decide)
  generalize hD : s2.heap.objs.size = D
  obtain ⟨W, ⟨m0, w0⟩, turn⟩ := q D (I2.hok.fresh (Nat.le_of_eq hD))
  generalize hs3 : ({ s2 with heap := s2.heap.push { cls := .type "list", data := .seq ([] : List Value).toArray } } : Shared) = s3
  have n3 : 1 ≤ s3.toks := by rw [← hs3]; exact n2
  have I3 : Inv X pins σ (upd H2 D (.lst [])) s3 := by
    rw [← hs3]
    refine I2.laid (t' := s2.toks) (fun b o e => Heap.get?_push_of_some _ e) (Nat.le_of_eq hD) ⟨Nat.zero_le _, [], 0, .nil, ?_⟩
    rw [← hD]
    exact Heap.get?_push_size _ rfl
  have h3 : s3.heap = s2.heap.push { cls := .type "list", data := .seq ([] : List Value).toArray } := by rw [← hs3]
  have f3 : ∀ b ∈ fp, FpOk X pins (upd H2 D (.lst [])) b ∧ b < s3.heap.objs.size := fun b hb => by
    obtain ⟨o, e, _⟩ := T.obj _ _ st2 b hb
    have lt := Heap.lt_size e
    refine ⟨⟨?_, (f2 b hb).2⟩, by rw [h3, Heap.size_push]; exact Nat.lt_succ_of_lt lt⟩
    rw [upd_ne (by rw [← hD]; exact Nat.ne_of_lt lt)]
    exact (f2 b hb).1
  have st3 : tn 0 s3.heap := T.keep _ _ _ st2 fun b _ o e => by rw [h3]; exact Heap.get?_push_of_some _ e
  have I4 := block_start I3 ok hN f3
  have pg := hg s3 (upd H2 D (.lst [])) s3.heap.objs.size (cellsFrom (s3.heap.objs.size + 1) scope.names (cloFrom X.env.cells scope.names [])) fp
  have pe := he s3 (upd H2 D (.lst [])) s3.heap.objs.size (cellsFrom (s3.heap.objs.size + 1) scope.names (cloFrom X.env.cells scope.names [])) fp
  show codeAny _ _ (.compStart (.ListComp elt [⟨tg, iter, [], 0⟩] scope pos) 0 (.ref it) (.ref D) (compEnvC scope (cellsFrom (s3.heap.objs.size + 1) scope.names (cloFrom X.env.cells scope.names [])) s3.heap.objs.size X.env)) (compPost (model X.prog X.w) X.A X.xe none (EP X pins σ Q) (.ref D) s3.heap.objs.size) { s3 with heap := pushCells (s3.heap.push { cls := .type "dict", data := .dict #[] }) scope.names }
  have nfp : ∀ b ∈ fp, (upd H2 D (.lst [])) b = none := fun b hb => (f3 b hb).1.1
  generalize hce : compEnvC scope (cellsFrom (s3.heap.objs.size + 1) scope.names (cloFrom X.env.cells scope.names [])) s3.heap.objs.size X.env = ce at I4 pg pe ⊢
  have cL : ce.locals = s3.heap.objs.size := by subst hce; rfl
  generalize hH3 : upd H2 D (.lst []) = H3 at I3 I4 pg pe w0 nfp f3
  generalize hs4 : ({ s3 with heap := pushCells (s3.heap.push { cls := .type "dict", data := .dict #[] }) scope.names } : Shared) = s4 at I4 ⊢
  have n4 : 1 ≤ s4.toks := by rw [← hs4]; exact n3
  have st4 : tn 0 s4.heap := T.keep _ _ _ st3 fun b _ o e => by rw [← hs4]; exact pushCells_keeps _ _ _ _ (Heap.get?_push_of_some _ e)
  have stat : ∀ {σ' : L2.St} {H' : Hp} {s' : Shared}, Inv (X.blk s3 H3 scope ce fp) [] σ' H' s' → (∀ b ∈ fp, H' b = none) → ∀ b ∈ fp, FpOk (X.blk s3 H3 scope ce fp) [] H' b := fun {σ' H' s'} I' hn b hb =>
    ⟨hn b hb, (I'.ok.exf b hb).1, I'.ok.exfs b hb, .inl hb, fun x c e => (I'.ok.exf b hb).2 x c e, fun p hp => absurd (show p ∈ ([] : List (Addr × Obj)) ++ [] from hp) (by simp)⟩
  have loop : codeAny (model X.prog X.w) X.A (.compLoop (.ListComp elt [⟨tg, iter, [], 0⟩] scope pos) 0 (.ref it) (.ref D) ce) (compPost (model X.prog X.w) X.A X.xe none (EP X pins σ Q) (.ref D) s3.heap.objs.size) s4 := by
    refine compLoop_any (fun n s' => 1 ≤ s'.toks ∧ ∃ i H', Inv (X.blk s3 H3 scope ce fp) [] (wipe σ (own.map (·.2))) H' s' ∧ tn i s'.heap ∧ (∀ b ∈ fp, H' b = none) ∧ W i n H') ?_ m0 ⟨n4, 0, H3, I4, st4, nfp, w0⟩
    rintro n s5 ⟨n5, i, H5, I5, st5, u5, w5⟩
    rcases turn i n H5 w5 with ⟨stop, qq⟩ | ⟨go, Nx, hNx, step⟩
    · refine tokF (T.done (X.blk s3 H3 scope ce fp) rfl rfl rfl hc i [] s5 _ H5 (fun _ _ => False) I5 (stat I5 u5) st5 stop) n5 fun r s6 n6 q6 => ?_
      obtain ⟨rfl, I6⟩ := q6
      have I7 : Inv X pins σ H5 s6 := I3.call' (ch := fp) I6.os I6.base I6.hok I6.bare fun b hb => ⟨(f3 b hb).1.2.2.2.1, (f3 b hb).1.2.1, (f3 b hb).1.2.2.2.2.1, (f3 b hb).1.2.2.2.2.2⟩
      have nC : H5 s3.heap.objs.size = none := by
        have z : H5 ce.locals = none := I6.free
        rw [cL] at z
        exact z
      obtain ⟨m, hn, _⟩ := I6.loc
      have hn : s6.heap.Ns ce.locals m := hn
      rw [cL] at hn
      have fC := I3.fpOk (Nat.le_refl _) nC
      obtain ⟨c0, c1, c2, c3, c4, c5⟩ := fC
      exact ⟨m, hn, fun h'' sb => ⟨.ref D, H5, I7.turned (t' := s6.toks) (fun b o hb e => (sb.2 b hb).trans e) c0 c1 c3 c4 c5, rfl, qq⟩⟩
    · refine tokF (T.item (X.blk s3 H3 scope ce fp) rfl rfl rfl hc i [] s5 _ H5 (fun _ _ => False) I5 (stat I5 u5) st5 go) n5 fun r s6 n6 q6 => ?_
      obtain ⟨u, rfl, h6⟩ := q6
      refine tokF h6 n6 fun _ s7 n7 q7 => ?_
      obtain ⟨x, H7, I7, r7, y7, st7, u7⟩ := q7
      refine tokF (pg.run _ s7 _ H7 x u _ (I7.pinned (stat I7 u7) (T.obj _ _ st7)) r7 (step x H7 y7)) n7 fun _ s8 n8 q8 => ?_
      obtain ⟨σ8, H8, I8, hw8, q8⟩ := q8
      refine tokF ((pts_nil (X := X.blk s3 H3 scope ce fp)).run _ s8 σ8 H8 _ I8 q8) n8 fun b s9 n9 q9 => ?_
      obtain ⟨H9, I9, q9⟩ := q9
      have fin : ∀ {s' : Shared} {H' : Hp}, 1 ≤ s'.toks → Inv (X.blk s3 H3 scope ce fp) ([] ++ pinsAt fp s7.heap) σ8 H' s' → Nx H' →
          ∃ m, m < n ∧ 1 ≤ s'.toks ∧ ∃ i H', Inv (X.blk s3 H3 scope ce fp) [] (wipe σ (own.map (·.2))) H' s' ∧ tn i s'.heap ∧ (∀ b ∈ fp, H' b = none) ∧ W i m H' := fun {s' H'} ns I' nx => by
        obtain ⟨m', hm, w'⟩ := hNx H' nx
        have kept : ∀ b ∈ fp, ∀ o, s7.heap.get? b = some o → s'.heap.get? b = some o ∧ H' b = none := fun b hb o e =>
          let z := I'.pin (b, o) (List.mem_append_right _ (List.mem_append_right _ (mem_pinsAt hb e)))
          ⟨z.1, z.2.1⟩
        have hl : (wipe σ (own.map (·.2))).length = σ8.length := by rw [← hw8, wipe_length]
        refine ⟨m', hm, ns, i + 1, H', (I'.unpinned (pins := [])).weak hl (fun j v e => ?_), T.keep _ _ _ st7 fun b hb o e => (kept b hb o e).1, fun b hb => ?_, w'⟩
        · rw [← hw8] at e
          exact (wipe_some e).1
        · obtain ⟨o, e, _⟩ := T.obj _ _ st7 b hb
          exact (kept b hb o e).2
      cases b with
      | false =>
        simp only [Bool.false_eq_true, if_false] at q9 ⊢
        exact fin n9 I9 q9
      | true =>
        simp only [if_true] at q9 ⊢
        refine tokF (pe _ s9 σ8 H9 _ n9 I9 q9) n9 fun z s10 n10 q10 => ?_
        obtain ⟨yv, H10, I10, r10, acc, hD10, hz10, nx⟩ := q10
        refine tokF (app_ok (X := X.blk s3 H3 scope ce fp) I10 hD10 hz10 r10 (Q := fun _ s11 => Inv (X.blk s3 H3 scope ce fp) ([] ++ pinsAt fp s7.heap) σ8 (upd H10 D (.lst (acc ++ [yv]))) s11) fun s11 I11 => I11) n10 fun _ s11 n11 I11 => fin n11 I11 nx
  exact codeAny_compStart_list loop (T.self X.A 0 _ _ _ st4 loop)
end
end Rt
end S_RtLcT

section S_RtLaw1
set_option Elab.async false
set_option linter.all false
set_option maxRecDepth 100000
set_option maxHeartbeats 4000000
/-! the law's drawing -/
namespace Rt
open PySem PySem.Spec PyProof.Rows L2 TL
section
variable {P : Program} {w : World} {K : PySem.W.Frag} {mg : Str → Option Value} {base : Heap}
def spCell (K : PySem.W.Frag) : Sp := fun vs H Q _ => ∃ (s : Addr) (ns : List Int), vs = [.ref s, .int 0] ∧ SqL K H s (ns.map V.int) ∧ ∀ z, Q (.int z) H
theorem sc_cell : FnScope ["_law_script", "_law_k"] ["_law_script", "_law_k"] (defScope S_law_cell_at) := ⟨rfl, rfl, rfl, by decide +kernel, rfl, by decide +kernel, by decide +kernel⟩
theorem ok_cell (T : Txt K mg) : FnOk P w K mg base CX0 1 (A_law_cell_at K) (fdOf K (A_law_cell_at K)) ["_law_script", "_law_k"] (spCell K) := by
  refine T.d_law_cell_at.ok sc_cell (fun vs H Q E h => ?_) (fun cdv A outer s H vs Q E hr h => ?_)
  · obtain ⟨s, ns, rfl, _⟩ := h
    rfl
  · obtain ⟨s, ns, rfl, hs, q⟩ := h
    refine ⟨_, (pss_cons (ps_if (pt_cmpR op_lt (pv 1) (pe_callB call_len_seq (by rfl) T.f_len PySem.boot_len (pa_cons (pv 0) pa_nil)) (nomark _)) (pss_one (ps_ret (pe_ix ix_list (pv 0) (pv 1) (fun _ _ => rfl))))
        pss_nil)
      (pss_one (ps_ret pe_int))), ?_⟩
    refine ⟨_, rfl, _, rfl, s, _, rfl, .inl hs, _, _, rfl, rfl, _, rfl, ?_⟩
    cases ns with
    | nil => exact itF rfl (q 0)
    | cons n r => exact itT (decide_eq_true (by rw [List.map_cons, List.length_cons]; omega)) ⟨_, rfl, _, rfl, s, _, 0, .int n, rfl, rfl, hs, atI_nat (j := 0) rfl, q n⟩
def StP (H : Hp) (st : Addr) : Prop := ∃ x : Int, 0 ≤ x ∧ x < 2147483629 ∧ H st = some (.lst [.int x])
def spState : Sp := fun vs H Q _ => ∃ z : Int, vs = [.int z, .int 1] ∧ ∀ H' l, Same H H' → H l = none → StP H' l → Q (.ref l) H'
theorem sc_state : FnScope ["_law_cell", "_law_k", "_law_drawn"] ["_law_cell", "_law_k"] (defScope S_law_state) := ⟨rfl, rfl, rfl, by decide +kernel, rfl, by decide +kernel, by decide +kernel⟩
theorem ok_state (T : Txt K mg) : FnOk P w K mg base CX0 1 (A_law_state K) (fdOf K (A_law_state K)) ["_law_cell", "_law_k"] spState := by
  refine T.d_law_state.ok sc_state (fun vs H Q E h => ?_) (fun cdv A outer s H vs Q E hr h => ?_)
  · obtain ⟨z, rfl, _⟩ := h
    rfl
  · obtain ⟨z, rfl, q⟩ := h
    refine ⟨_, (pss_cons (ps_set (i := 2) sc_state.nd rfl (.inl rfl) (pe_op op_mod (pe_op op_mul (pe_op op_add (pe_op op_add (pv 0) (pe_op op_mul pe_int (pv 1))) pe_int) pe_int) pe_int))
      (pss_one (ps_ret (pe_lst (pa_cons (pe_op op_mod (pe_op op_add (pe_op op_add (pe_op op_mul (pv 2) (pv 2)) (pe_op op_mul pe_int (pv 2))) (pv 1)) pe_int) pa_nil))))), ?_⟩
    refine ⟨_, rfl, _, rfl, _, _, rfl, rfl, .inl ⟨by decide, by decide⟩, _, _, rfl, rfl, _, _, rfl, rfl, _, _, rfl, rfl, .inr ⟨by decide, by decide⟩, _, _, rfl, rfl, (show (0 : Int) < 2147483647 by decide), ?_⟩
    have h0 := Int.emod_nonneg ((z + 7919 * 1 + 1) * 48271) (show (2147483647 : Int) ≠ 0 by decide)
    have h1 := Int.emod_lt_of_pos ((z + 7919 * 1 + 1) * 48271) (show (0 : Int) < 2147483647 by decide)
    refine ⟨_, rfl, _, rfl, _, _, rfl, rfl, .inl ⟨by omega, by omega⟩, _, rfl, _, _, rfl, rfl, .inl ⟨by decide, by decide⟩, _, _, rfl, rfl, _, rfl, _, _, rfl, rfl, _, _, rfl, rfl, (show (0 : Int) < 2147483629 by decide), (by show 1 ≤ sizeLine; decide), fun l hl => ?_⟩
    exact q _ l (same_new hl) hl ⟨_, Int.emod_nonneg _ (by decide), Int.emod_lt_of_pos _ (by decide), upd_same⟩
def spLn : Sp := fun vs H Q _ => ∃ (st : Addr) (n : Int), vs = [.ref st, .int n] ∧ StP H st ∧ 0 < n ∧ n < 1000000 ∧ ∀ H' r, But st H H' → StP H' st → 0 ≤ r → r < n → Q (.int r) H'
theorem sc_next2 : FnScope ["_law_state_here", "_law_size", "_law_mixed"] ["_law_state_here", "_law_size"] (defScope S_law_next) := ⟨rfl, rfl, rfl, by decide +kernel, rfl, by decide +kernel, by decide +kernel⟩
theorem ok_lnext (T : Txt K mg) : FnOk P w K mg base CX0 1 (A_law_next K) (fdOf K (A_law_next K)) ["_law_state_here", "_law_size"] spLn := by
  refine T.d_law_next.ok sc_next2 (fun vs H Q E h => ?_) (fun cdv A outer s H vs Q E hr h => ?_)
  · obtain ⟨st, n, rfl, _⟩ := h
    rfl
  · obtain ⟨st, n, rfl, ⟨x, h0, h1, hs⟩, hn, hn2, q⟩ := h
    refine ⟨_, (pss_cons (ps_asg (pe_op op_mod (pe_op op_add (pe_op op_mul (pe_ix ix_list (pv 0) pe_int (fun _ _ => rfl)) pe_int) pe_int) pe_int) (pg_sub (pv 0) pe_int set_list))
      (pss_cons (ps_set (i := 2) sc_next2.nd rfl (.inl rfl) (pe_op op_mod (pe_op op_mul (pe_ix ix_list (pv 0) pe_int (fun _ _ => rfl)) (pe_ix ix_list (pv 0) pe_int (fun _ _ => rfl))) pe_int))
      (pss_one (ps_ret (pe_op op_mod (pe_op op_fdiv (pv 2) pe_int) (pv 1)))))), ?_⟩
    refine ⟨_, rfl, st, _, 0, .int x, rfl, rfl, SqL.of hs, atI_nat (j := 0) rfl, _, _, rfl, rfl, .inl ⟨by omega, by omega⟩, _, _, rfl, rfl, _, _, rfl, rfl, (show (0 : Int) < 2147483629 by decide), ?_⟩
    have k0 := Int.emod_nonneg (x * 69621 + 11) (show (2147483629 : Int) ≠ 0 by decide)
    have k1 := Int.emod_lt_of_pos (x * 69621 + 11) (show (0 : Int) < 2147483629 by decide)
    refine ⟨_, rfl, st, _, 0, 0, rfl, rfl, hs, rfl, ?_⟩
    have hs2 : upd H st (.lst (([.int x] : List V).set 0 (.int ((x * 69621 + 11) % 2147483629)))) st = some (.lst [.int ((x * 69621 + 11) % 2147483629)]) := upd_same
    refine ⟨_, rfl, st, _, 0, .int ((x * 69621 + 11) % 2147483629), rfl, rfl, SqL.of hs2, atI_nat (j := 0) rfl, _, rfl, st, _, 0, .int ((x * 69621 + 11) % 2147483629), rfl, rfl, SqL.of hs2, atI_nat (j := 0) rfl, _, _, rfl, rfl, .inl ⟨by omega, by omega⟩, _, _, rfl, rfl, (show (0 : Int) < 2147483587 by decide), ?_⟩
    refine ⟨_, rfl, _, _, rfl, rfl, ⟨by decide, by decide⟩, _, rfl, _, _, rfl, rfl, hn, ?_⟩
    exact q _ _ but_upd ⟨_, k0, k1, upd_same⟩ (Int.emod_nonneg _ (by omega)) (Int.emod_lt_of_pos _ hn)
/-- the text of a value -/
def valT (m k : Nat) : Str := if k = 0 then repS "not " (m - 1) ++ "number 1" else if k = 1 then repS "plus " (m - 1) ++ "number 1" ++ repS " box x" (m - 1) else repS "item l " (m - 1) ++ "size l"
def spLval : Sp := fun vs H Q _ => ∃ (m k : Nat), vs = [.int (m : Int), .int (k : Int)] ∧ 1 ≤ m ∧ m ≤ 2000 ∧ k ≤ 2 ∧ Q (.str (valT m k)) H
theorem sc_lval : FnScope ["_law_deep", "_law_kind"] ["_law_deep", "_law_kind"] (defScope S_law_value) := ⟨rfl, rfl, rfl, by decide +kernel, rfl, by decide +kernel, by decide +kernel⟩
theorem ok_lval (T : Txt K mg) : FnOk P w K mg base CX0 1 (A_law_value K) (fdOf K (A_law_value K)) ["_law_deep", "_law_kind"] spLval := by
  refine T.d_law_value.ok sc_lval (fun vs H Q E h => ?_) (fun cdv A outer s H vs Q E hr h => ?_)
  · obtain ⟨m, k, rfl, _⟩ := h
    rfl
  · obtain ⟨m, k, rfl, h1, h2, hk, q⟩ := h
    refine ⟨_, (pss_cons (ps_if (pt_cmpR op_eq (pv 1) pe_int (nomark _)) (pss_one (ps_ret (pe_op op_add_str (pe_op op_rep_str pe_str (pe_op op_sub (pv 0) pe_int)) pe_str)))
        pss_nil)
      (pss_cons (ps_if (pt_cmpR op_eq (pv 1) pe_int (nomark _)) (pss_one (ps_ret (pe_op op_add_str (pe_op op_add_str (pe_op op_rep_str pe_str (pe_op op_sub (pv 0) pe_int)) pe_str) (pe_op op_rep_str pe_str (pe_op op_sub (pv 0) pe_int)))))
        pss_nil)
      (pss_one (ps_ret (pe_op op_add_str (pe_op op_rep_str pe_str (pe_op op_sub (pv 0) pe_int)) pe_str))))), ?_⟩
    have em : ((m : Int) - 1).toNat = m - 1 := by omega
    have sz : ∀ (z : Str), z.length ≤ 7 → (repS z (m - 1)).length ≤ 14000 := fun z hz => by
      rw [len_tl, show tl (repS z (m - 1)) = _ from repS_list z (m - 1), List.length_flatten, List.map_replicate, List.sum_replicate_nat, ← len_tl]
      exact Nat.le_trans (Nat.mul_le_mul (show m - 1 ≤ 2000 by omega) hz) (by decide)
    have s1 := sz "not " (by decide +kernel)
    have s2 := sz "plus " (by decide +kernel)
    have s3 := sz "item l " (by decide +kernel)
    have s4 := sz " box x" (by decide +kernel)
    have n1 : ("number 1" : Str).length = 8 := by decide +kernel
    have n2 : ("size l" : Str).length = 6 := by decide +kernel
    rw [← em] at s1 s2 s3 s4
    unfold valT at q
    rw [← em] at q
    match k, hk with
    | 0, _ =>
      rw [if_pos rfl] at q
      refine ⟨_, rfl, rfl, _, rfl, itT (by decide) ⟨_, rfl, _, _, rfl, rfl, "not ", _, rfl, rfl, (show (-(2 ^ 63) : Int) ≤ (m : Int) - 1 by omega), (show (m : Int) - 1 < 2 ^ 20 by omega), (by decide +kernel), _, _, rfl, rfl, ?_, q⟩⟩
      rw [n1]
      exact Nat.le_trans (Nat.add_le_add_right s1 8) (by decide)
    | 1, _ =>
      rw [if_neg (by decide), if_pos rfl] at q
      refine ⟨_, rfl, rfl, _, rfl, itF (by decide) ⟨_, rfl, rfl, _, rfl, itT (by decide) ⟨_, rfl, _, _, rfl, rfl, "plus ", _, rfl, rfl, (show (-(2 ^ 63) : Int) ≤ (m : Int) - 1 by omega), (show (m : Int) - 1 < 2 ^ 20 by omega), (by decide +kernel), _, _, rfl, rfl, ?_, _, rfl, _, _, rfl, rfl, " box x", _, rfl, rfl, (show (-(2 ^ 63) : Int) ≤ (m : Int) - 1 by omega), (show (m : Int) - 1 < 2 ^ 20 by omega), (by decide +kernel), _, _, rfl, rfl, ?_, q⟩⟩⟩
      · rw [n1]
        exact Nat.le_trans (Nat.add_le_add_right s2 8) (by decide)
      · rw [app_len, n1]
        exact Nat.le_trans (Nat.add_le_add (Nat.add_le_add_right s2 8) s4) (by decide)
    | 2, _ =>
      rw [if_neg (by decide), if_neg (by decide)] at q
      refine ⟨_, rfl, rfl, _, rfl, itF (by decide) ⟨_, rfl, rfl, _, rfl, itF (by decide) ⟨_, rfl, _, _, rfl, rfl, "item l ", _, rfl, rfl, (show (-(2 ^ 63) : Int) ≤ (m : Int) - 1 by omega), (show (m : Int) - 1 < 2 ^ 20 by omega), (by decide +kernel), _, _, rfl, rfl, ?_, q⟩⟩⟩
      rw [n2]
      exact Nat.le_trans (Nat.add_le_add_right s3 6) (by decide)
    | k + 3, h => exact absurd h (by omega)
end
end Rt
end S_RtLaw1

section S_RtLaw2
set_option Elab.async false
set_option linter.all false
set_option maxRecDepth 100000
set_option maxHeartbeats 4000000
/-! the law's lines -/
namespace Rt
open PySem PySem.Spec PyProof.Rows L2 TL
def ahd (k : Nat) : Str := repS "  " (min k 6)
def headL (k : Nat) : Nat → List Str
  | 0 => [ahd k ++ "if box x"]
  | 1 => [ahd k ++ "while box x"]
  | 2 => [ahd k ++ "try"]
  | _ => [ahd k ++ "try", ahd k ++ "catch x"]
def tailL (k : Nat) : Nat → List Str
  | 0 => [ahd k ++ "end"]
  | 1 => [ahd k ++ "end"]
  | 2 => [ahd k ++ "catch x", ahd k ++ "end"]
  | _ => [ahd k ++ "end"]
/-- the kinds, the last one drawn first -/
def heL : List Nat → List Str
  | [] => []
  | c :: r => heL r ++ headL r.length c
def taL : List Nat → List Str
  | [] => []
  | c :: r => tailL r.length c ++ taL r
def bodyL (ks : List Nat) (val : Str) : List Str := heL ks ++ [ahd ks.length ++ "tell " ++ val] ++ taL ks
theorem headL_len (k c : Nat) : (headL k c).length ≤ 2 := by
  match c with
  | 0 => exact Nat.le_succ 1
  | 1 => exact Nat.le_succ 1
  | 2 => exact Nat.le_succ 1
  | c + 3 => exact Nat.le_refl 2
theorem tailL_len (k c : Nat) : (tailL k c).length ≤ 2 := by
  match c with
  | 0 => exact Nat.le_succ 1
  | 1 => exact Nat.le_succ 1
  | 2 => exact Nat.le_refl 2
  | c + 3 => exact Nat.le_succ 1
theorem heL_len : ∀ ks : List Nat, (heL ks).length ≤ 2 * ks.length
  | [] => Nat.zero_le _
  | c :: r => by
    have h := heL_len r
    have h2 := headL_len r.length c
    show (heL r ++ headL r.length c).length ≤ 2 * (r.length + 1)
    rw [List.length_append]
    omega
theorem taL_len : ∀ ks : List Nat, (taL ks).length ≤ 2 * ks.length
  | [] => Nat.zero_le _
  | c :: r => by
    have h := taL_len r
    have h2 := tailL_len r.length c
    show (tailL r.length c ++ taL r).length ≤ 2 * (r.length + 1)
    rw [List.length_append]
    omega
theorem ahd_len (k : Nat) : (ahd k).length ≤ 12 := by
  have e : ("  " : Str).length = 2 := by decide +kernel
  rw [len_tl, show tl (ahd k) = _ from repS_list "  " (min k 6), List.length_flatten, List.map_replicate, List.sum_replicate_nat, ← len_tl, e]
  omega
section
variable {P : Program} {w : World} {K : PySem.W.Frag} {mg : Str → Option Value} {base : Heap}
def spLl : Sp := fun vs H Q _ => ∃ (st : Addr) (n : Nat) (val : Str), vs = [.ref st, .int ((n + 1 : Nat) : Int), .str val] ∧ StP H st ∧ n ≤ 1700 ∧ val.length ≤ 100000 ∧
  ∀ H' l ks, But st H H' → StP H' st → ks.length = n → (∀ c ∈ ks, c ≤ 3) → H l = none → H' l = some (.lst (strV (bodyL ks val))) → Q (.ref l) H'
theorem sc_ll : FnScope ["_law_state_here", "_law_deep", "_law_value_here", "_law_heads", "_law_tails", "_law_k", "_law_kind", "_law_ahead", "_law_some", "_law_ends"] ["_law_state_here", "_law_deep", "_law_value_here"] (defScope S_law_lines) := ⟨rfl, rfl, rfl, by decide +kernel, rfl, by decide +kernel, by decide +kernel⟩
theorem ok_ll (T : Txt K mg) : FnOk P w K mg base CX0 2 (A_law_lines K) (fdOf K (A_law_lines K)) ["_law_state_here", "_law_deep", "_law_value_here"] spLl := by
  have G_law_next : FnOk P w K mg base CX0 1 (A_law_next K) (fdOf K (A_law_next K)) ["_law_state_here", "_law_size"] spLn := ok_lnext T
  refine T.d_law_lines.ok sc_ll (fun vs H Q E h => ?_) (fun cdv A outer s H vs Q E hr h => ?_)
  · obtain ⟨st, n, val, rfl, _⟩ := h
    rfl
  · obtain ⟨st, n, val, rfl, hs, hn, hv, q⟩ := h
    refine ⟨_, (pss_cons (ps_set (i := 3) sc_ll.nd rfl (.inl rfl) (pe_lst pa_nil))
      (pss_cons (ps_set (i := 4) sc_ll.nd rfl (.inl rfl) (pe_lst pa_nil))
      (pss_cons (ps_for PassesOwn.never rfl (pi_range1 rfl T.f_range (pa_cons (pe_op op_sub (pv 1) pe_int) pa_nil)) (pg_name (i := 5) sc_ll.nd rfl (.inl rfl))
        (pss_cons (ps_set (i := 6) sc_ll.nd rfl (.inl rfl) (pe_call G_law_next (hr.mono (by decide)) rfl T.g_law_next T.d_law_next.kp (b_law_next T) .nil pass0 (pa_cons (pv 0) (pa_cons pe_int pa_nil))))
        (pss_cons (ps_set (i := 7) sc_ll.nd rfl (.inl rfl) (pe_op op_rep_str pe_str (pe_callB (call_min2 rfl) (by rfl) T.f_min (by decide +kernel) (pa_cons (pv 5) (pa_cons pe_int pa_nil)))))
        (pss_cons (ps_set (i := 8) sc_ll.nd rfl (.inl rfl) (pe_lst (pa_cons (pe_lst (pa_cons (pe_op op_add_str (pv 7) pe_str) pa_nil)) (pa_cons (pe_lst (pa_cons (pe_op op_add_str (pv 7) pe_str) pa_nil)) (pa_cons (pe_lst (pa_cons (pe_op op_add_str (pv 7) pe_str) pa_nil)) pa_nil)))))
        (pss_cons (ps_expr (pe_bm PySem.F.plainAttrs_list PySem.F.slot_list_extend PySem.F.type_list_extend mt_extend (pv 3) (pa_cons (pe_ix ix_list (pe_op op_cat (pv 8) (pe_lst (pa_cons (pe_lst (pa_cons (pe_op op_add_str (pv 7) pe_str) (pa_cons (pe_op op_add_str (pv 7) pe_str) pa_nil))) pa_nil))) (pv 6) (fun _ _ => rfl)) pa_nil)))
        (pss_cons (ps_set (i := 9) sc_ll.nd rfl (.inl rfl) (pe_ix ix_list (pe_lst (pa_cons (pe_lst (pa_cons (pe_op op_add_str (pv 7) pe_str) pa_nil)) (pa_cons (pe_lst (pa_cons (pe_op op_add_str (pv 7) pe_str) pa_nil)) (pa_cons (pe_lst (pa_cons (pe_op op_add_str (pv 7) pe_str) (pa_cons (pe_op op_add_str (pv 7) pe_str) pa_nil))) (pa_cons (pe_lst (pa_cons (pe_op op_add_str (pv 7) pe_str) pa_nil)) pa_nil))))) (pv 6) (fun _ _ => rfl)))
        (pss_one (ps_set (i := 4) sc_ll.nd rfl (.inl rfl) (pe_op op_cat (pv 9) (pv 4))))))))))
      (pss_one (ps_ret (pe_op op_cat (pe_op op_cat (pv 3) (pe_lst (pa_cons (pe_op op_add_str (pe_op op_add_str (pe_op op_rep_str pe_str (pe_callB (call_min2 rfl) (by rfl) T.f_min (by decide +kernel) (pa_cons (pe_op op_sub (pv 1) pe_int) (pa_cons pe_int pa_nil)))) pe_str) (pv 2)) pa_nil))) (pv 4))))))), ?_⟩
    refine ⟨(by show 0 ≤ sizeLine; decide), fun hd hhd => ⟨(by show 0 ≤ sizeLine; decide), fun ta hta => ?_⟩⟩
    have nst : ∀ a, H a = none → a ≠ st := fun a e => by
      obtain ⟨x, _, _, e2⟩ := hs
      exact (ne_of_none e2 e).symm
    have nht : hd ≠ ta := ne_of_none upd_same hta
    have hta0 : H ta = none := (same_new hhd).free hta
    have e9 : ((((n + 1 : Nat) : Int) - 1)).toNat = n := by omega
    have l1 : ("if box x" : Str).length = 8 := by decide +kernel
    have l2 : ("while box x" : Str).length = 11 := by decide +kernel
    have l3 : ("try" : Str).length = 3 := by decide +kernel
    have l4 : ("catch x" : Str).length = 7 := by decide +kernel
    have l5 : ("end" : Str).length = 3 := by decide +kernel
    have l6 : ("tell " : Str).length = 5 := by decide +kernel
    refine ⟨_, rfl, _, _, rfl, rfl, _, rfl, (by omega), (by omega), ?_⟩
    rw [e9]
    refine for_range (lo := 0) (n := n) (fun i σ H1 => ∃ ks : List Nat, ks.length = i ∧ (∀ c ∈ ks, c ≤ 3) ∧ But st H H1 ∧ StP H1 st ∧ ∃ tl s5 s6 s7 s8 s9, σ = [some (.ref st), some (.int ((n + 1 : Nat) : Int)), some (.str val), some (.ref hd), some (.ref tl), s5, s6, s7, s8, s9] ∧ hd ≠ tl ∧ H tl = none ∧
      H1 hd = some (.lst (strV (heL ks))) ∧ H1 tl = some (.lst (strV (taL ks)))) ?_ ?_ ?_
    · have S0 : Same H (upd (upd H hd (.lst [])) ta (.lst [])) := same_trans_new (same_new hhd) hta
      obtain ⟨x, h0, h1, hx⟩ := hs
      exact ⟨[], rfl, (fun c h => nomatch h), but_same S0, ⟨x, h0, h1, S0 _ _ hx⟩, ta, _, _, _, _, _, rfl, nht, hta0, upk upd_same hta, upd_same⟩
    · rintro i σ H1 hi ⟨ks, rfl, hks, B1, hs1, tl, s5, s6, s7, s8, s9, rfl, nhl, htl, hH, hT⟩
      have hA := ahd_len ks.length
      have kl : ks.length ≤ 1700 := by omega
      refine ⟨_, rfl, st, 4, rfl, hs1, by decide, by decide, fun H2 r B2 hs2 r0 r4 => ?_⟩
      obtain ⟨c, rfl⟩ := Int.eq_ofNat_of_zero_le r0
      have c4 : c < 4 := by omega
      have hH2 := B2 _ _ (nst hd hhd) hH
      have ntl : tl ≠ st := nst tl htl
      have hT2 := B2 _ _ ntl hT
      have B12 := B1.trans B2
      have em : repS "  " ((if (6 : Int) < 0 + (ks.length : Int) then 6 else 0 + (ks.length : Int))).toNat = ahd ks.length := by
        unfold ahd
        congr 1
        split <;> omega
      refine ⟨_, rfl, _, _, rfl, "  ", _, rfl, rfl, (by split <;> omega), (by split <;> omega), (by decide +kernel), ?_⟩
      rw [em]
      -- some
      refine ⟨_, rfl, _, _, rfl, rfl, Nat.le_trans (show _ ≤ 100 by rw [l1]; omega) (by decide), (by show 1 ≤ sizeLine; decide), fun a0 h0 => ⟨_, rfl, _, _, rfl, rfl, Nat.le_trans (show _ ≤ 100 by rw [l2]; omega) (by decide), (by show 1 ≤ sizeLine; decide), fun a1 h1 => ⟨_, rfl, _, _, rfl, rfl, Nat.le_trans (show _ ≤ 100 by rw [l3]; omega) (by decide), (by show 1 ≤ sizeLine; decide), fun a2 h2 => ⟨(by show 3 ≤ sizeLine; decide), fun sm hsm => ?_⟩⟩⟩⟩
      have S3 := same_trans_new (o := .lst [.ref a0, .ref a1, .ref a2]) (same_trans_new (o := .lst [.str (ahd ks.length ++ "try")]) (same_trans_new (o := .lst [.str (ahd ks.length ++ "while box x")]) (same_new (o := .lst [.str (ahd ks.length ++ "if box x")]) h0) h1) h2) hsm
      have g0 : upd (upd (upd (upd H2 a0 (.lst [.str (ahd ks.length ++ "if box x")])) a1 (.lst [.str (ahd ks.length ++ "while box x")])) a2 (.lst [.str (ahd ks.length ++ "try")])) sm (.lst [.ref a0, .ref a1, .ref a2]) a0 = some (.lst (strV (headL ks.length 0))) := upk (upk (upk upd_same h1) h2) hsm
      have g1 : upd (upd (upd (upd H2 a0 (.lst [.str (ahd ks.length ++ "if box x")])) a1 (.lst [.str (ahd ks.length ++ "while box x")])) a2 (.lst [.str (ahd ks.length ++ "try")])) sm (.lst [.ref a0, .ref a1, .ref a2]) a1 = some (.lst (strV (headL ks.length 1))) := upk (upk upd_same h2) hsm
      have g2 : upd (upd (upd (upd H2 a0 (.lst [.str (ahd ks.length ++ "if box x")])) a1 (.lst [.str (ahd ks.length ++ "while box x")])) a2 (.lst [.str (ahd ks.length ++ "try")])) sm (.lst [.ref a0, .ref a1, .ref a2]) a2 = some (.lst (strV (headL ks.length 2))) := upk upd_same hsm
      have gs : upd (upd (upd (upd H2 a0 (.lst [.str (ahd ks.length ++ "if box x")])) a1 (.lst [.str (ahd ks.length ++ "while box x")])) a2 (.lst [.str (ahd ks.length ++ "try")])) sm (.lst [.ref a0, .ref a1, .ref a2]) sm = some (.lst [.ref a0, .ref a1, .ref a2]) := upd_same
      show tSeq _ _ _ _ (upd (upd (upd (upd H2 a0 (.lst [.str (ahd ks.length ++ "if box x")])) a1 (.lst [.str (ahd ks.length ++ "while box x")])) a2 (.lst [.str (ahd ks.length ++ "try")])) sm (.lst [.ref a0, .ref a1, .ref a2]))
      generalize upd (upd (upd (upd H2 a0 (.lst [.str (ahd ks.length ++ "if box x")])) a1 (.lst [.str (ahd ks.length ++ "while box x")])) a2 (.lst [.str (ahd ks.length ++ "try")])) sm (.lst [.ref a0, .ref a1, .ref a2]) = H3 at *
      -- heads.extend
      refine ⟨_, rfl, .inl ⟨rfl, _, SqL.of (S3 _ _ hH2)⟩, _, rfl, _, rfl, _, _, rfl, rfl, Nat.le_trans (show _ ≤ 100 by rw [l3]; omega) (by decide), _, rfl, _, _, rfl, rfl, Nat.le_trans (show _ ≤ 100 by rw [l4]; omega) (by decide), (by show 2 ≤ sizeLine; decide), fun a3 h3 => ⟨(by show 1 ≤ sizeLine; decide), fun w1 hw1 => ?_⟩⟩
      refine ⟨sm, w1, [.ref a0, .ref a1, .ref a2], [.ref a3], rfl, rfl, upk (upk gs h3) hw1, upd_same, (by show 4 ≤ sizeLine; decide), fun w2 hw2 => ?_⟩
      have S4 := same_trans_new (o := .lst ([V.ref a0, .ref a1, .ref a2] ++ [.ref a3])) (same_trans_new (o := .lst [.ref a3]) (same_trans_new (o := .lst [.str (ahd ks.length ++ "try"), .str (ahd ks.length ++ "catch x")]) S3 h3) hw1) hw2
      have g04 : upd (upd (upd H3 a3 (.lst [.str (ahd ks.length ++ "try"), .str (ahd ks.length ++ "catch x")])) w1 (.lst [.ref a3])) w2 (.lst ([V.ref a0, .ref a1, .ref a2] ++ [.ref a3])) a0 = some (.lst (strV (headL ks.length 0))) := upk (upk (upk g0 h3) hw1) hw2
      have g14 : upd (upd (upd H3 a3 (.lst [.str (ahd ks.length ++ "try"), .str (ahd ks.length ++ "catch x")])) w1 (.lst [.ref a3])) w2 (.lst ([V.ref a0, .ref a1, .ref a2] ++ [.ref a3])) a1 = some (.lst (strV (headL ks.length 1))) := upk (upk (upk g1 h3) hw1) hw2
      have g24 : upd (upd (upd H3 a3 (.lst [.str (ahd ks.length ++ "try"), .str (ahd ks.length ++ "catch x")])) w1 (.lst [.ref a3])) w2 (.lst ([V.ref a0, .ref a1, .ref a2] ++ [.ref a3])) a2 = some (.lst (strV (headL ks.length 2))) := upk (upk (upk g2 h3) hw1) hw2
      have g34 : upd (upd (upd H3 a3 (.lst [.str (ahd ks.length ++ "try"), .str (ahd ks.length ++ "catch x")])) w1 (.lst [.ref a3])) w2 (.lst ([V.ref a0, .ref a1, .ref a2] ++ [.ref a3])) a3 = some (.lst (strV (headL ks.length 3))) := upk (upk upd_same hw1) hw2
      have gw4 : upd (upd (upd H3 a3 (.lst [.str (ahd ks.length ++ "try"), .str (ahd ks.length ++ "catch x")])) w1 (.lst [.ref a3])) w2 (.lst ([V.ref a0, .ref a1, .ref a2] ++ [.ref a3])) w2 = some (.lst [.ref a0, .ref a1, .ref a2, .ref a3]) := upd_same
      generalize upd (upd (upd H3 a3 (.lst [.str (ahd ks.length ++ "try"), .str (ahd ks.length ++ "catch x")])) w1 (.lst [.ref a3])) w2 (.lst ([V.ref a0, .ref a1, .ref a2] ++ [.ref a3])) = H4 at *
      obtain ⟨ac, hac, gac⟩ : ∃ ac, ([V.ref a0, .ref a1, .ref a2, .ref a3] : List V)[c]? = some (.ref ac) ∧ H4 ac = some (.lst (strV (headL ks.length c))) := by
        match c, c4 with
        | 0, _ => exact ⟨a0, rfl, g04⟩
        | 1, _ => exact ⟨a1, rfl, g14⟩
        | 2, _ => exact ⟨a2, rfl, g24⟩
        | 3, _ => exact ⟨a3, rfl, g34⟩
        | c + 4, h => exact absurd h (by omega)
      have hH4 := S4 _ _ hH2
      have hl1 := heL_len ks
      have hl2 := headL_len ks.length c
      refine ⟨_, rfl, w2, _, (c : Int), .ref ac, rfl, rfl, SqL.of gw4, atI_nat hac, hd, ac, _, _, rfl, rfl, hH4, gac, ?_, ?_⟩
      · rw [List.length_map, List.length_map]
        exact Nat.le_trans (show _ ≤ 5000 by omega) (show 5000 ≤ sizeLine by decide)
      have hT4 := S4 _ _ hT2
      have B5 : But st H (upd H4 hd (.lst (strV (heL ks) ++ strV (headL ks.length c)))) := (B12.trans (but_same S4)).over hhd
      have hs5 : StP (upd H4 hd (.lst (strV (heL ks) ++ strV (headL ks.length c)))) st := by
        obtain ⟨x, k0, k1, e2⟩ := hs2
        exact ⟨x, k0, k1, upn (S4 _ _ e2) (nst hd hhd).symm⟩
      have hH5 : upd H4 hd (.lst (strV (heL ks) ++ strV (headL ks.length c))) hd = some (.lst (strV (heL (c :: ks)))) := by
        rw [upd_same, ← List.map_append]
        rfl
      have hT5 : upd H4 hd (.lst (strV (heL ks) ++ strV (headL ks.length c))) tl = some (.lst (strV (taL ks))) := upn hT4 nhl.symm
      show tSeq _ _ _ _ (upd H4 hd (.lst (strV (heL ks) ++ strV (headL ks.length c))))
      generalize upd H4 hd (.lst (strV (heL ks) ++ strV (headL ks.length c))) = H5 at *
      clear g0 g1 g2 gs g04 g14 g24 g34 gw4 gac hac hH4 hT4 S4 S3 hT2 hH2 B12
      -- ends
      refine ⟨_, rfl, _, _, rfl, rfl, Nat.le_trans (show _ ≤ 100 by rw [l5]; omega) (by decide), (by show 1 ≤ sizeLine; decide), fun b0 h0 => ⟨_, rfl, _, _, rfl, rfl, Nat.le_trans (show _ ≤ 100 by rw [l5]; omega) (by decide), (by show 1 ≤ sizeLine; decide), fun b1 h1 => ⟨_, rfl, _, _, rfl, rfl, Nat.le_trans (show _ ≤ 100 by rw [l4]; omega) (by decide), _, rfl, _, _, rfl, rfl, Nat.le_trans (show _ ≤ 100 by rw [l5]; omega) (by decide), (by show 2 ≤ sizeLine; decide), fun b2 h2 => ⟨_, rfl, _, _, rfl, rfl, Nat.le_trans (show _ ≤ 100 by rw [l5]; omega) (by decide), (by show 1 ≤ sizeLine; decide), fun b3 h3 => ⟨(by show 4 ≤ sizeLine; decide), fun w3 hw3 => ?_⟩⟩⟩⟩⟩
      have S6 := same_trans_new (o := .lst [.ref b0, .ref b1, .ref b2, .ref b3]) (same_trans_new (o := .lst [.str (ahd ks.length ++ "end")]) (same_trans_new (o := .lst [.str (ahd ks.length ++ "catch x"), .str (ahd ks.length ++ "end")]) (same_trans_new (o := .lst [.str (ahd ks.length ++ "end")]) (same_new (o := .lst [.str (ahd ks.length ++ "end")]) h0) h1) h2) h3) hw3
      obtain ⟨H6, e6⟩ : ∃ H6, H6 = upd (upd (upd (upd (upd H5 b0 (.lst [.str (ahd ks.length ++ "end")])) b1 (.lst [.str (ahd ks.length ++ "end")])) b2 (.lst [.str (ahd ks.length ++ "catch x"), .str (ahd ks.length ++ "end")])) b3 (.lst [.str (ahd ks.length ++ "end")])) w3 (.lst [.ref b0, .ref b1, .ref b2, .ref b3]) := ⟨_, rfl⟩
      have g0 : H6 b0 = some (.lst (strV (tailL ks.length 0))) := by rw [e6]; exact upk (upk (upk (upk upd_same h1) h2) h3) hw3
      have g1 : H6 b1 = some (.lst (strV (tailL ks.length 1))) := by rw [e6]; exact upk (upk (upk upd_same h2) h3) hw3
      have g2 : H6 b2 = some (.lst (strV (tailL ks.length 2))) := by rw [e6]; exact upk (upk upd_same h3) hw3
      have g3 : H6 b3 = some (.lst (strV (tailL ks.length 3))) := by rw [e6]; exact upk upd_same hw3
      have gw : H6 w3 = some (.lst [.ref b0, .ref b1, .ref b2, .ref b3]) := by rw [e6]; exact upd_same
      rw [← e6] at S6
      refine ⟨_, rfl, w3, [.ref b0, .ref b1, .ref b2, .ref b3], (c : Int), ?_⟩
      rw [← e6]
      clear e6
      obtain ⟨bc, hbc, gbc⟩ : ∃ bc, ([V.ref b0, .ref b1, .ref b2, .ref b3] : List V)[c]? = some (.ref bc) ∧ H6 bc = some (.lst (strV (tailL ks.length c))) := by
        match c, c4 with
        | 0, _ => exact ⟨b0, rfl, g0⟩
        | 1, _ => exact ⟨b1, rfl, g1⟩
        | 2, _ => exact ⟨b2, rfl, g2⟩
        | 3, _ => exact ⟨b3, rfl, g3⟩
        | c + 4, h => exact absurd h (by omega)
      have tl1 := taL_len ks
      have tl2 := tailL_len ks.length c
      refine ⟨.ref bc, rfl, rfl, SqL.of gw, atI_nat hbc, _, rfl, _, rfl, bc, tl, _, _, rfl, rfl, gbc, S6 _ _ hT5, ?_, fun tn htn => ?_⟩
      · rw [List.length_map, List.length_map]
        exact Nat.le_trans (show _ ≤ 5000 by omega) (show 5000 ≤ sizeLine by decide)
      obtain ⟨x, k0, k1, e2⟩ := hs5
      have B6 := B5.trans (but_same S6)
      refine ⟨c :: ks, by rw [List.length_cons], fun d hdm => ?_, B6.new htn, ⟨x, k0, k1, upk (S6 _ _ e2) htn⟩, tn, _, _, _, _, _, rfl, ne_of_none (S6 _ _ hH5) htn, B6.free (S6 _ _ e2) htn, upk (S6 _ _ hH5) htn, ?_⟩
      · rcases List.mem_cons.mp hdm with rfl | hdm
        · omega
        · exact hks d hdm
      · rw [upd_same, ← List.map_append]
        rfl
    · rintro σ H1 ⟨ks, hkl, hks, B1, hs1, tl, s5, s6, s7, s8, s9, rfl, nhl, htl, hH, hT⟩
      have hA := ahd_len ks.length
      have em : repS "  " ((if (6 : Int) < ((n + 1 : Nat) : Int) - 1 then 6 else ((n + 1 : Nat) : Int) - 1)).toNat = ahd ks.length := by
        unfold ahd
        congr 1
        split <;> omega
      have hl1 := heL_len ks
      have hl2 := taL_len ks
      refine ⟨_, rfl, _, rfl, _, _, rfl, rfl, _, _, rfl, "  ", _, rfl, rfl, (by split <;> omega), (by split <;> omega), (by decide +kernel), ?_⟩
      rw [em]
      refine ⟨_, _, rfl, rfl, Nat.le_trans (show _ ≤ 100 by rw [l6]; omega) (by decide), _, rfl, _, _, rfl, rfl, Nat.le_trans (show _ ≤ 200000 by rw [app_len, l6]; omega) (by decide), (by show 1 ≤ sizeLine; decide), fun m1 h1 => ?_⟩
      refine ⟨hd, m1, _, _, rfl, rfl, upk hH h1, upd_same, ?_, fun m2 h2 => ?_⟩
      · rw [List.length_map]
        exact Nat.le_trans (show _ ≤ 5000 by rw [List.length_singleton]; omega) (show 5000 ≤ sizeLine by decide)
      have hT2 := upk (o := .lst (strV (heL ks) ++ [V.str (ahd ks.length ++ "tell " ++ val)])) (upk (o := .lst [V.str (ahd ks.length ++ "tell " ++ val)]) hT h1) h2
      have S2 : Same H1 (upd (upd H1 m1 (.lst [V.str (ahd ks.length ++ "tell " ++ val)])) m2 (.lst (strV (heL ks) ++ [V.str (ahd ks.length ++ "tell " ++ val)]))) := same_trans_new (same_new h1) h2
      refine ⟨_, rfl, m2, tl, _, _, rfl, rfl, upd_same, hT2, ?_, fun m3 h3 => ?_⟩
      · rw [List.length_append, List.length_map, List.length_map]
        exact Nat.le_trans (show _ ≤ 9000 by rw [List.length_singleton]; omega) (show 9000 ≤ sizeLine by decide)
      obtain ⟨x, k0, k1, e2⟩ := hs1
      have e3 := S2 _ _ e2
      refine q _ m3 ks ((B1.trans (but_same S2)).new h3) ⟨x, k0, k1, upk e3 h3⟩ hkl hks ((B1.trans (but_same S2)).free e3 h3) ?_
      rw [upd_same, strV_snoc, ← List.map_append]
      rfl
end
end Rt
end S_RtLaw2

section S_RtLaw3
set_option Elab.async false
set_option linter.all false
set_option maxRecDepth 100000
set_option maxHeartbeats 4000000
/-! the law's wrong lines -/
namespace Rt
open PySem PySem.Spec PyProof.Rows L2 TL
/-- x stands in y -/
def hasT (x y : Str) : Bool := !(Builtin.Str.occurrences y x 0 y.length 1).isEmpty
def boxed (l : Str) : Str := l ++ repS " " (if hasT "tell" l = true then 1 else 0) ++ repS "box" (if hasT "tell" l = true then 1 else 0)
def unsaid (l : Str) : Str := Txt.replace (Txt.replace l "number 1" "number") "size l" "size"
def WrongOf (L L2 : List Str) : Prop := L2 = L ++ [("end" : Str)] ∨ (∃ i l, L[i]? = some l ∧ hasT "catch" l = true ∧ L2 = L.take i ++ L.drop (i + 1)) ∨ L2 = L.dropLast ∨ L2 = L ++ [("catch x" : Str)] ∨ L2 = L.map boxed ∨ L2 = L.map unsaid
theorem cut_take {xs : List V} {i : Nat} (h : i ≤ xs.length) : cutV xs none (some (i : Int)) = xs.take i := by
  unfold cutV
  rw [HT.sIx_none, HT.sIx_nat, List.drop_zero, Nat.min_eq_left h, Nat.sub_zero]
theorem cut_drop {xs : List V} {i : Nat} : cutV xs (some (i : Int)) none = xs.drop i := by
  unfold cutV
  rw [HT.sIx_none, HT.sIx_nat]
  by_cases h : i ≤ xs.length
  · rw [Nat.min_eq_left h]
    exact List.take_of_length_le (by rw [List.length_drop]; omega)
  · rw [Nat.min_eq_right (by omega), List.drop_of_length_le (Nat.le_refl _), List.drop_of_length_le (by omega), List.take_nil]
theorem cut_init {xs : List V} : cutV xs none (some (-1)) = xs.dropLast := by
  unfold cutV
  have e : HT.sIx xs.length xs.length (some (-1)) = xs.length - 1 := by
    show (if (-1 : Int) < 0 then ((-1 : Int) + (xs.length : Int)).toNat else min (-1 : Int).toNat xs.length) = _
    rw [if_pos (by decide)]
    omega
  rw [HT.sIx_none, List.drop_zero, List.dropLast_eq_take, e, Nat.sub_zero]
/-- the places of the lines with a catch -/
def idxs (L : List Str) (i : Nat) : List Nat := (List.range i).filter fun k => hasT "catch" (L.getD k "")
theorem idxs_more {L : List Str} {i : Nat} {l : Str} (h : L[i]? = some l) : idxs L (i + 1) = idxs L i ++ (if hasT "catch" l = true then [i] else []) := by
  unfold idxs
  rw [List.range_succ, List.filter_append, filter_one]
  congr 1
  rw [List.getD_eq_getElem?_getD, h]
  rfl
theorem idxs_at {L : List Str} {n i k : Nat} (hn : n ≤ L.length) (h : (idxs L n)[i]? = some k) : ∃ l, L[k]? = some l ∧ hasT "catch" l = true := by
  have hm := List.mem_filter.mp (List.mem_of_getElem? h)
  have hk := List.mem_range.mp hm.1
  have hlt : k < L.length := by omega
  refine ⟨L[k], List.getElem?_eq_getElem hlt, ?_⟩
  have z := hm.2
  rw [List.getD_eq_getElem?_getD, List.getElem?_eq_getElem hlt] at z
  exact z
theorem idxs_len (L : List Str) (i : Nat) : (idxs L i).length ≤ i := Nat.le_trans (List.length_filter_le _ _) (by rw [List.length_range]; exact Nat.le_refl _)
abbrev intV (ks : List Nat) : List V := ks.map fun k : Nat => V.int ((k : Nat) : Int)
theorem dp_ints {K : PySem.W.Frag} {H : Hp} : ∀ ks : List Nat, DpAll K H (intV ks) (ks.map fun k : Nat => PyData.int ((k : Nat) : Int))
  | [] => .nil
  | k :: r => .cons (.int _) (dp_ints r)
theorem shaped_ints (ks : List Nat) : SeqAt.shaped (PyData.list (ks.map fun k : Nat => PyData.int ((k : Nat) : Int))) = true := by
  have h1 : ∀ vs : List Nat, PyData.canLayAll0 (vs.map fun k : Nat => PyData.int ((k : Nat) : Int)) = true := by
    intro vs
    induction vs with
    | nil => simp [PyData.canLayAll0]
    | cons x r ih => simp [PyData.canLayAll0, PyData.canLay0, ih]
  have h2 : ∀ vs : List Nat, PyData.depthAll (vs.map fun k : Nat => PyData.int ((k : Nat) : Int)) = 0 := by
    intro vs
    induction vs with
    | nil => simp [PyData.depthAll]
    | cons x r ih => simp [PyData.depthAll, PyData.depth, ih]
  unfold SeqAt.shaped
  rw [Bool.and_eq_true]
  constructor
  · simp [PyData.canLay0, h1 ks]
  · simp [PyData.depth, h2 ks]
theorem eqv_ints (ks : List Nat) : PyData.eqv (PyData.list (ks.map fun k : Nat => PyData.int ((k : Nat) : Int))) (PyData.list []) = decide (ks = []) := by
  cases ks with
  | nil => simp [PyData.eqv, PyData.eqvAll]
  | cons x r => simp [PyData.eqv, PyData.eqvAll]
section
variable {P : Program} {w : World} {K : PySem.W.Frag} {mg : Str → Option Value} {base : Heap}
def spWg : Sp := fun vs H Q _ => ∃ (ll st : Addr) (L : List Str), vs = [.ref ll, .ref st] ∧ H ll = some (.lst (strV L)) ∧ StP H st ∧ L ≠ [] ∧ L.length ≤ 10000 ∧ (∀ l ∈ L, l.length ≤ 300000) ∧
  ∀ H' l L2, WrongOf L L2 → H' l = some (.lst (strV L2)) → Q (.ref l) H'
theorem sc_wg : FnScope ["_law_lines_here", "_law_state_here", "_law_kind", "_law_some", "_law_at", "_law_line"] ["_law_lines_here", "_law_state_here"] (defScope S_law_wrong) := ⟨rfl, rfl, rfl, by decide +kernel, rfl, by decide +kernel, by decide +kernel⟩
theorem ok_wg (T : Txt K mg) : FnOk P w K mg base CX0 2 (A_law_wrong K) (fdOf K (A_law_wrong K)) ["_law_lines_here", "_law_state_here"] spWg := by
  have G_law_next : FnOk P w K mg base CX0 1 (A_law_next K) (fdOf K (A_law_next K)) ["_law_state_here", "_law_size"] spLn := ok_lnext T
  refine T.d_law_wrong.ok sc_wg (fun vs H Q E h => ?_) (fun cdv A outer s H vs Q E hr h => ?_)
  · obtain ⟨ll, st, L, rfl, _⟩ := h
    rfl
  · obtain ⟨ll, st, L, rfl, hll, hs, hne, hlen, heach, q⟩ := h
    refine ⟨_, (pss_cons (ps_set (i := 2) sc_wg.nd rfl (.inl rfl) (pe_call G_law_next (hr.mono (by decide)) rfl T.g_law_next T.d_law_next.kp (b_law_next T) .nil pass0 (pa_cons (pv 1) (pa_cons pe_int pa_nil))))
      (pss_cons (ps_setLc (i := 3) (own := [("_law_at", 4)]) rfl sc_wg.nd rfl rfl (sw_true rfl rfl rfl (by decide +kernel)) (pi_range1 rfl T.f_range (pa_cons (by exact (pe_callB call_len_seq (by rfl) T.f_len PySem.boot_len (pa_cons (pv 0) pa_nil))) pa_nil)) (blkOk_by (own := [("_law_at", 4)]) (N := ["_law_lines_here", "_law_state_here", "_law_kind", "_law_some", "_law_at", "_law_line"]) (sc := defScope S_law_wrong) (by decide +kernel)) (fun _ _ _ _ _ => (pg_name (i := 4) sc_wg.nd rfl (.inl rfl))) (fun _ _ _ _ _ => (pts_one (pt_cmpR op_in_str pe_str (pe_ix (show IxR _ (rIxL K) from ix_list) (pv 0) (pv 4) (fun _ _ => rfl)) (by rfl)))) (fun _ _ _ _ _ => (pv 4)))
      (pss_cons (ps_if (PW.pt (pw_or (pt_cmpR op_eq (pv 2) pe_int (nomark _)) (pw_or1 (PW.pt (pw_and (pt_cmpR op_gt (pv 2) pe_int (nomark _)) (pw_and1 (pt_cmpR (op_eqD hr.units) (pv 3) (pe_lst pa_nil) (nomark _)))))))) (pss_one (ps_ret (pe_op op_cat (pv 0) (pe_lst (pa_cons pe_str pa_nil)))))
        pss_nil)
      (pss_cons (ps_if (pt_cmpR op_gt (pv 2) pe_int (nomark _)) (pss_cons (ps_set (i := 4) sc_wg.nd rfl (.inl rfl) (pe_ix ix_list (pv 3) (pe_call G_law_next (hr.mono (by decide)) rfl T.g_law_next T.d_law_next.kp (b_law_next T) .nil pass0 (pa_cons (pv 1) (pa_cons (by exact (pe_callB call_len_seq (by rfl) T.f_len PySem.boot_len (pa_cons (pv 3) pa_nil))) pa_nil))) (fun _ _ => rfl)))
        (pss_one (ps_ret (pe_op op_cat (pe_slice sl_list (pv 0) po_none (po_some (pv 4))) (pe_slice sl_list (pv 0) (po_some (pe_op op_add (pv 4) pe_int)) po_none)))))
        pss_nil)
      (pss_cons (ps_if (pt_cmpR op_eq (pv 2) pe_int (nomark _)) (pss_one (ps_ret (pe_slice sl_list (pv 0) po_none (po_some (pe_un un_neg pe_int)))))
        pss_nil)
      (pss_cons (ps_if (pt_cmpR op_eq (pv 2) pe_int (nomark _)) (pss_one (ps_ret (pe_op op_cat (pv 0) (pe_lst (pa_cons pe_str pa_nil)))))
        pss_nil)
      (pss_ifK op_eq (pv 2) (pss_one (ps_ret (pe_lc (own := [("_law_line", 5)]) rfl sc_wg.nd (pi_list (pv 0)) (blkOk_by (own := [("_law_line", 5)]) (N := ["_law_lines_here", "_law_state_here", "_law_kind", "_law_some", "_law_at", "_law_line"]) (sc := defScope S_law_wrong) (by decide +kernel)) (fun _ _ _ _ _ => (pg_name (i := 5) sc_wg.nd rfl (.inl rfl))) (fun _ _ _ _ _ => pts_nil) (fun _ _ _ _ _ => (pe_op op_add_str (pe_op op_add_str (pv 5) (pe_op op_rep_str pe_str (pe_callTy call_int1 (by rfl) T.f_int (by decide +kernel) (pa_cons (pe_cmpR op_in_str pe_str (pv 5) (by rfl)) pa_nil)))) (pe_op op_rep_str pe_str (pe_callTy call_int1 (by rfl) T.f_int (by decide +kernel) (pa_cons (pe_cmpR op_in_str pe_str (pv 5) (by rfl)) pa_nil)))))))) (CwR.psst_one (CwR.pst_ret (pet_lcT (own := [("_law_line", 5)]) (g := gName 5) rfl sc_wg.nd (pi_list (pv 0)) (blkOk_by (own := [("_law_line", 5)]) (N := ["_law_lines_here", "_law_state_here", "_law_kind", "_law_some", "_law_at", "_law_line"]) (sc := defScope S_law_wrong) (by decide +kernel)) (fun _ _ _ _ _ => (pg_name (i := 5) sc_wg.nd rfl (.inl rfl))) (fun _ _ _ _ _ => CwR.pet_replT (CwR.pet_replC (pv 5) (by decide +kernel)) (by decide +kernel))))) (nomark _)))))))), ?_⟩
    have nls : ll ≠ st := by
      rintro rfl
      obtain ⟨x, _, _, e⟩ := hs
      rw [hll] at e
      have e2 := HO.lst.inj (Option.some.inj e)
      cases L with
      | nil => exact hne rfl
      | cons a r => cases e2
    refine ⟨_, rfl, st, 7, rfl, hs, by decide, by decide, fun H1 r B1 hs1 r0 r7 => ?_⟩
    have hl1 := B1 _ _ nls hll
    have elen : (strV L).length = L.length := List.length_map ..
    refine ⟨_, rfl, ll, _, rfl, .inl (SqL.of hl1), _, rfl, (by omega), (by rw [elen]; omega), fun D hD => ?_⟩
    rw [Int.toNat_natCast]
    refine lc_range (lo := 0) (n := (strV L).length) (fun i H' => H' = upd H1 D (.lst (intV (idxs L i)))) rfl ?_ ?_
    · rintro i H' hi rfl
      rw [elen] at hi
      have gl : L[i]? = some L[i] := List.getElem?_eq_getElem hi
      have gv : (strV L)[i]? = some (V.str L[i]) := by rw [List.getElem?_map, gl]; rfl
      have more := idxs_more gl
      refine ⟨rfl, _, rfl, _, rfl, ll, _, 0 + (i : Int), .str L[i], rfl, rfl, SqL.of (upk hl1 hD), at_of (j := i) (by omega) gv, _, _, rfl, rfl, _, rfl, ?_⟩
      refine ite2 (fun c => ?_) (fun c => ?_)
      · have c' : hasT "catch" L[i] = true := c
        rw [if_pos c'] at more
        refine ⟨_, rfl, _, upd_same, ?_, ?_⟩
        · rw [List.length_map]
          exact Nat.lt_of_le_of_lt (Nat.le_trans (idxs_len L i) (show i ≤ 10000 by omega)) (by decide)
        · rw [upd_upd, more]
          show upd _ D _ = upd _ D _
          rw [Int.zero_add, show intV (idxs L i ++ [i]) = intV (idxs L i) ++ [V.int (i : Int)] from List.map_append ..]
      · have c' : ¬ hasT "catch" L[i] = true := c
        rw [if_neg c', List.append_nil] at more
        rw [more]
    rintro H2 rfl
    rw [elen]
    have hD2 : upd H1 D (.lst (intV (idxs L L.length))) D = some (.lst (intV (idxs L L.length))) := upd_same
    have hl2 := upk (o := .lst (intV (idxs L L.length))) hl1 hD
    have hs2 : StP (upd H1 D (.lst (intV (idxs L L.length)))) st := by
      obtain ⟨x, k0, k1, e⟩ := hs1
      exact ⟨x, k0, k1, upk e hD⟩
    have nD : D ≠ st := by
      obtain ⟨x, k0, k1, e⟩ := hs1
      exact (ne_of_none e hD).symm
    have few := idxs_len L L.length
    have inb : ∀ i k, (idxs L L.length)[i]? = some k → ∃ l, L[k]? = some l ∧ hasT "catch" l = true := fun i k => idxs_at (Nat.le_refl _)
    show tSeq _ _ _ _ (upd H1 D (.lst (intV (idxs L L.length))))
    generalize upd H1 D (.lst (intV (idxs L L.length))) = H2 at *
    generalize idxs L L.length = ks at *
    have ret1 : ∀ H3, H3 ll = some (.lst (strV L)) → ∀ m, H3 m = none → ∀ x : Str, ∀ m2, upd H3 m (.lst [.str x]) m2 = none → upd (upd H3 m (.lst [.str x])) m2 (.lst (strV L ++ [.str x])) m2 = some (.lst (strV (L ++ [x]))) := fun H3 _ m _ x m2 _ => by
      rw [upd_same, strV_snoc]
    have sz1 : (strV L).length + 1 ≤ sizeLine := by
      rw [elen]
      exact Nat.le_trans (show _ ≤ 10001 by omega) (show 10001 ≤ sizeLine by decide)
    refine ⟨_, rfl, rfl, _, rfl, ite2 (fun c0 => ?_) (fun c0 => ?_)⟩
    · refine iteT ⟨_, rfl, (by show 1 ≤ sizeLine; decide), fun m hm => ⟨ll, m, _, _, rfl, rfl, upk hl2 hm, upd_same, sz1, fun m2 hm2 => ?_⟩⟩
      exact q _ m2 _ (.inl rfl) (ret1 _ hl2 m hm _ m2 hm2)
    refine ⟨_, rfl, _, _, rfl, rfl, _, rfl, ite2 (fun c1 => ?_) (fun c1 => ?_)⟩
    · -- a catch is dropped
      have r4 : 4 < r := of_decide_eq_true c1
      refine ⟨_, rfl, (by show 0 ≤ sizeLine; decide), fun e0 he0 => ⟨.list (ks.map fun k : Nat => PyData.int ((k : Nat) : Int)), .list [], .lst (SqL.of (upk hD2 he0)) (dp_ints ks), .lst (SqL.of upd_same) .nil, shaped_ints ks, (by decide), _, rfl, ?_⟩⟩
      rw [eqv_ints]
      have hl3 := upk (o := .lst []) hl2 he0
      have hD3 := upk (o := .lst []) hD2 he0
      have hs3 : StP (upd H2 e0 (.lst [])) st := by
        obtain ⟨x, k0, k1, e⟩ := hs2
        exact ⟨x, k0, k1, upk e he0⟩
      generalize upd H2 e0 (.lst []) = H3 at *
      refine ite2 (fun c2 => ?_) (fun c2 => ?_)
      · refine ⟨_, rfl, (by show 1 ≤ sizeLine; decide), fun m hm => ⟨ll, m, _, _, rfl, rfl, upk hl3 hm, upd_same, sz1, fun m2 hm2 => ?_⟩⟩
        exact q _ m2 _ (.inl rfl) (ret1 _ hl3 m hm _ m2 hm2)
      have kne : ks ≠ [] := fun e => c2 (decide_eq_true e)
      have kpos : 0 < ks.length := List.length_pos_iff.mpr kne
      refine ⟨_, rfl, _, _, rfl, rfl, _, rfl, itT c1 ?_⟩
      refine ⟨_, rfl, _, rfl, _, rfl, D, _, rfl, .inl (SqL.of hD3), st, _, rfl, hs3, (by rw [List.length_map]; omega), (by rw [List.length_map]; omega), fun H4 r2 B4 hs4 p0 p1 => ?_⟩
      obtain ⟨i, rfl⟩ := Int.eq_ofNat_of_zero_le p0
      have hD4 := B4 _ _ nD hD3
      have hl4 := B4 _ _ nls hl3
      rw [List.length_map] at p1
      have hik : i < ks.length := by omega
      have gk : ks[i]? = some ks[i] := List.getElem?_eq_getElem hik
      obtain ⟨l, hl, hc⟩ := inb i _ gk
      have hk : ks[i] < L.length := (List.getElem?_eq_some_iff.mp hl).1
      refine ⟨D, _, (i : Int), V.int ((ks[i] : Nat) : Int), rfl, rfl, SqL.of hD4, atI_nat (by rw [List.getElem?_map, gk]; rfl), ?_⟩
      generalize ks[i] = k at *
      refine ⟨_, rfl, _, rfl, _, rfl, ll, _, rfl, SqL.of hl4, fun m1 h1 => ?_⟩
      rw [cut_take (by rw [elen]; omega)]
      refine ⟨_, rfl, _, rfl, _, _, rfl, rfl, _, rfl, ll, _, rfl, SqL.of (upk hl4 h1), fun m2 h2 => ?_⟩
      have ecd : cutV (strV L) (some ((k : Int) + 1)) none = strV (L.drop (k + 1)) := by
        rw [show ((k : Int) + 1) = ((k + 1 : Nat) : Int) by omega, cut_drop, ← List.map_drop]
      have ect : (strV L).take k = strV (L.take k) := (List.map_take ..).symm
      rw [ecd, ect]
      rw [ect] at h2
      refine ⟨m1, m2, _, _, rfl, rfl, upk upd_same h2, upd_same, ?_, fun m3 h3 => ?_⟩
      · rw [List.length_map, List.length_map, List.length_take, List.length_drop]
        exact Nat.le_trans (show _ ≤ 20000 by omega) (show 20000 ≤ sizeLine by decide)
      · exact q _ m3 _ (.inr (.inl ⟨k, l, hl, hc, rfl⟩)) (by rw [upd_same, ← List.map_append])
    · refine iteF ⟨_, rfl, _, _, rfl, rfl, _, rfl, itF (by simpa using c1) ?_⟩
      refine ⟨_, rfl, rfl, _, rfl, ite2 (fun c2 => ?_) (fun c2 => ?_)⟩
      · refine ⟨_, rfl, _, rfl, _, rfl, ll, _, rfl, SqL.of hl2, fun m hm => ?_⟩
        exact q _ m _ (.inr (.inr (.inl rfl))) (by rw [upd_same, cut_init, ← List.map_dropLast])
      refine ⟨_, rfl, rfl, _, rfl, ite2 (fun c3 => ?_) (fun c3 => ?_)⟩
      · refine ⟨_, rfl, (by show 1 ≤ sizeLine; decide), fun m hm => ⟨ll, m, _, _, rfl, rfl, upk hl2 hm, upd_same, sz1, fun m2 hm2 => ?_⟩⟩
        exact q _ m2 _ (.inr (.inr (.inr (.inl rfl)))) (ret1 _ hl2 m hm _ m2 hm2)
      refine ⟨_, rfl, rfl, _, rfl, ite2 (fun c4 => ?_) (fun c4 => ?_)⟩
      · refine ⟨_, rfl, ll, rfl, ⟨_, SqL.of hl2⟩, fun F hF => ?_⟩
        refine lc_list (K := K) (a := ll) (xs := strV L) (fun i H' => H' = upd H2 F (.lst (strV ((L.map boxed).take i)))) rfl (fun i H' _ e => by rw [e]; exact SqL.of (upk hl2 hF)) ?_ ?_
        · rintro i y H' hy rfl
          obtain ⟨l, hl, rfl⟩ := strV_at hy
          have hll := heach l (List.mem_of_getElem? hl)
          have e2 : (L.map boxed)[i]? = some (boxed l) := by rw [List.getElem?_map, hl]; rfl
          have eb : boxed l = l ++ repS " " ((if hasT "tell" l = true then (1 : Int) else 0)).toNat ++ repS "box" ((if hasT "tell" l = true then (1 : Int) else 0)).toNat := by
            unfold boxed
            split <;> rfl
          have r1 : (repS " " ((if hasT "tell" l = true then (1 : Int) else 0)).toNat).length ≤ 1 := by split <;> decide +kernel
          have r2 : (repS "box" ((if hasT "tell" l = true then (1 : Int) else 0)).toNat).length ≤ 3 := by split <;> decide +kernel
          have b0 : (-(2 ^ 63) : Int) ≤ (if hasT "tell" l = true then (1 : Int) else 0) := by split <;> decide
          have b1 : (if hasT "tell" l = true then (1 : Int) else 0) < (2 ^ 20 : Int) := by split <;> decide
          refine ⟨rfl, _, rfl, _, rfl, _, _, rfl, rfl, .inr ⟨hasT "tell" l, rfl, " ", _, rfl, rfl, b0, b1, (by decide +kernel), _, _, rfl, rfl, Nat.le_trans (show _ ≤ 400000 by omega) (by decide), _, rfl, _, _, rfl, rfl, .inr ⟨hasT "tell" l, rfl, "box", _, rfl, rfl, b0, b1, (by decide +kernel), _, _, rfl, rfl, Nat.le_trans (show _ ≤ 400000 by rw [app_len]; omega) (by decide), _, upd_same, ?_, ?_⟩⟩⟩
          · rw [List.length_map, List.length_take, List.length_map]
            exact Nat.lt_of_le_of_lt (show _ ≤ 10000 by omega) (by decide)
          · rw [upd_upd, take_more e2, eb]
            exact congrArg (fun z => upd H2 F (.lst z)) strV_snoc
        · rintro H' rfl
          exact q _ F _ (.inr (.inr (.inr (.inr (.inl rfl))))) (by rw [upd_same, elen, ← List.length_map (f := boxed), List.take_length])
      · refine ⟨_, rfl, ll, rfl, ⟨_, SqL.of hl2⟩, fun F hF => ?_⟩
        refine lc_list (K := K) (a := ll) (xs := strV L) (fun i H' => H' = upd H2 F (.lst (strV ((L.map unsaid).take i)))) rfl (fun i H' _ e => by rw [e]; exact SqL.of (upk hl2 hF)) ?_ ?_
        · rintro i y H' hy rfl
          obtain ⟨l, hl, rfl⟩ := strV_at hy
          have hll := heach l (List.mem_of_getElem? hl)
          have e2 : (L.map unsaid)[i]? = some (unsaid l) := by rw [List.getElem?_map, hl]; rfl
          have rl := TK.replace_len l "number 1" "number"
          have z1 : ("number" : Str).length = 6 := by decide +kernel
          have z2 : ("size" : Str).length = 4 := by decide +kernel
          rw [z1] at rl
          refine ⟨rfl, _, rfl, l, rfl, (by rw [z1]; omega), Txt.replace l "number 1" "number", rfl, (by rw [z2]; omega), _, upd_same, ?_, ?_⟩
          · rw [List.length_map, List.length_take, List.length_map]
            exact Nat.lt_of_le_of_lt (show _ ≤ 10000 by omega) (by decide)
          · rw [upd_upd, take_more e2]
            exact congrArg (fun z => upd H2 F (.lst z)) strV_snoc
        · rintro H' rfl
          exact q _ F _ (.inr (.inr (.inr (.inr (.inr rfl))))) (by rw [upd_same, elen, ← List.length_map (f := unsaid), List.take_length])
end
end Rt
end S_RtLaw3

section S_RtHot
set_option Elab.async false
set_option linter.all false
set_option maxRecDepth 100000
set_option maxHeartbeats 4000000
/-! a def that is called within an except suite, with the exception as its argument; a loop over a tuple there; list.count of any flat thing -/
namespace Rt
open PySem PySem.Spec PyProof.Rows L2 L2H HotX
section
variable {prog : Program} {w : World} {A : Around} {E : Value → Shared → Prop} {s : Shared}
/-- the end of a tuple, while an exception is handled -/
theorem tuple_end_hot {it l x1 : Addr} {i : Nat} {items : Array Value} {Q : Option Value → Shared → Prop} (hot : HotAt A x1 s.heap) (hit : s.heap.IsTupleIter it l i) (ht : s.heap.IsTuple l items) (hx : items[i]? = none)
    (hQ : ∀ h', Heap.ExtBut it s.heap h' → Q none { s with heap := h' }) (hne1 : x1 ≠ it) : wpAny (model prog w) A (pyNext (.ref it)) Q E s := by
  obtain ⟨hh, o1, vs1, h1, d1, c1⟩ := hot
  obtain ⟨o, ho, hc, hd⟩ := id hit
  obtain ⟨ol, hol, _, nl, hdl⟩ := ht
  unfold pyNext
  refine wpAny_bind (wpAny_attempt (wpAny_callSpecial?_slot (name := Str.ofString "__next__") hit.typeIs F.slot_tuple_iterator_next
    (wpAny_call_entry F.slot_tuple_iterator_next hit.typeIs F.entry_tuple_iterator_next ?_ (F.args_tuple_iterator_next_1 _))))
  refine wpAny_bind (m := field (.ref it) 0) (wpAny_field ho hd (x := .ref l) rfl ?_)
  show wpAny _ _ (if (Value.ref l == Value.none) = true then _ else _) _ _ s
  rw [if_neg (show ¬ ((Value.ref l == Value.none) = true) from Bool.false_ne_true)]
  refine wpAny_bind (m := field (.ref it) 1) (wpAny_field ho hd (x := .int i 0) rfl ?_)
  refine wpAny_bind (m := seqItems? (.ref l)) (wpAny_seqItems hol hdl ?_)
  simp only [Int.toNat_natCast, hx]
  refine wpAny_bind (wpAny_rule (wpAny_bind (wpAny_setField ho hd (by simp) ?_)))
  show wpAny _ _ (newExc (.type "StopIteration") [] >>= _) _ _ _
  refine wpAny_bind ?_
  simp only [newExc, newTuple]
  refine wpAny_bind (wpAny_newObj_type ?_ (by size_fits))
  refine wpAny_bind (m := firstArgMember _ _) (wpAny_of_eq (a := Value.none) (by first | rfl | (simp only [firstArgMember]; rfl)) ?_)
  refine wpAny_newObj_type ?_ (by size_fits)
  have g1 : ∀ f : Obj → Obj, (s.heap.update it f).get? x1 = some o1 := fun f => (Heap.SameBut.update ..).extBut x1 o1 hne1 h1
  refine raiseNew_hot ⟨hh, o1, vs1, Heap.get?_push_of_some _ (Heap.get?_push_of_some _ (g1 _)), d1, c1⟩ (Nat.ne_of_lt (Heap.lt_size (Heap.get?_push_of_some _ (g1 _)))) (Heap.get?_push_size _ rfl) rfl (by first | (simp; done) | (simp; omega) | (simp only [Array.size]; decide)) ?_
  refine wpAny_bind (wpAny_isInstance (T := "StopIteration") (b := true) ⟨_, Heap.get?_update_self _ (Heap.get?_push_size _ rfl) rfl, rfl⟩ isSubtype_stop ?_)
  refine wpAny_pure (hQ _ fun b u hb e => ?_)
  have e2 := Heap.get?_push_of_some { cls := .type "tuple", data := .seq ([] : List Value).toArray } ((Heap.SameBut.update (a := it) (f := Obj.mapFields (·.setIfInBounds 0 Value.none)) ..).extBut b u hb e)
  exact (Heap.SameBut.update ..).extBut b u (Nat.ne_of_lt (Heap.lt_size e2)) (Heap.get?_push_of_some _ e2)
end
theorem turn_tupH {P : Program} {w : World} {K : PySem.W.Frag} {tg : Expr} {a it : Addr} : TurnH P w K tg (Itt K a) [it] it (fun i h => h.IsTupleIter it a i) where
  mem := List.mem_cons_self
  obj := fun i h st b hb => by
    rw [List.mem_singleton.mp hb]
    obtain ⟨o, e, c, d⟩ := st
    exact ⟨o, e, fun v z => by rw [d] at z; cases z⟩
  keep := fun i h h' st k => st.at fun o e => k it List.mem_cons_self o e
  item := by
    intro X hP hw hK hc i pins s σ H E I hf st hg
    subst hP hw hK
    obtain ⟨xs, x, hq, hx⟩ := hg
    obtain ⟨its, rv, p, _⟩ := I.tuple hq
    obtain ⟨u, hu, ru⟩ := rv.get hx
    obtain ⟨f0, f1, f2, f3, f4, f5⟩ := hf it List.mem_cons_self
    refine wpAny_pyNext_tuple_item st (show s.heap.IsTuple a its.toArray from p) (x := u) (by simpa using hu) fun h' st' sb => ?_
    have I1 : Inv X pins σ H { s with heap := h' } := I.turned (t' := s.toks) (fun b o hb e => (sb.2 b hb).trans e) f0 f1 f3 f4 f5
    obtain ⟨o, e, c, d⟩ := id st'
    exact ⟨u, rfl, go_of (s := { s with heap := h' }) e c d (by decide) ⟨x, H, I1, ru, ⟨rfl, fun ys hy => by rw [I.tuple_inj hy hq]; exact hx⟩, st', fun b hb => (hf b hb).1⟩⟩
  done := by
    intro X hP hw hK hc i pins s σ H E I hf st hg
    subst hP hw hK
    obtain ⟨xs, hq, hx⟩ := hg
    obtain ⟨its, rv, p, _⟩ := I.tuple hq
    obtain ⟨f0, f1, f2, f3, f4, f5⟩ := hf it List.mem_cons_self
    have hl := rv.length
    obtain ⟨q, hot1, hq1⟩ := hc
    have hpin := I.pin q (List.mem_append_left _ hq1)
    have hot : HotAt X.A q.1 s.heap := by
      obtain ⟨hh, v1, e1, c1⟩ := hot1
      exact ⟨hh, q.2, v1, hpin.1, e1, c1⟩
    have ne : q.1 ≠ it := f5 q (List.mem_append_left _ hq1)
    exact tuple_end_hot hot st (show s.heap.IsTuple a its.toArray from p) (by simp; omega) (fun h' eb => ⟨rfl, I.turned (t' := s.toks) (fun b o hb e => eb b o hb e) f0 f1 f3 f4 f5⟩) ne
  self := fun _ _ _ _ _ st h => wpAny_pyIter_tupleiter st h
theorem pi_tupH {X : Cx} {tg e : Expr} {ta : TE} (he : PE X e ta) : PIH X tg e (iTup X.K ta) := by
  refine ⟨fun pins s σ H R I h => thn (he.run pins s σ H _ I h) fun v s1 q0 => ?_⟩
  obtain ⟨x, H1, I1, r1, a, rfl, ⟨xs, hq⟩, q⟩ := q0
  obtain rfl : v = Value.ref a := r1
  obtain ⟨its, rv, p, _⟩ := I1.tuple hq
  refine wpAny_pyIter_tuple (show s1.heap.IsTuple a its.toArray from p) ⟨s1.heap.objs.size, [s1.heap.objs.size], _, _, H1, rfl, I1.kept (t' := s1.toks) fun b o e => Heap.get?_push_of_some _ e, turn_tupH, ⟨_, Heap.get?_push_size _ rfl, rfl, rfl⟩, fun b hb => ?_, q⟩
  rw [List.mem_singleton.mp hb]
  exact I1.fpOk (Nat.le_refl _) (I1.hok.fresh (Nat.le_refl _))

/-! ### a def called with the handled exception -/
structure FnX (P : Program) (w : World) (K : PySem.W.Frag) (mg : Str → Option Value) (base : Heap) (CX : CXT) (k : Nat) (f : Addr) (fd : FuncData) (ps : List Str) (D : Addr) (sp : Addr → Sp) : Prop where
  len : ∀ a vs H Q E, sp a vs H Q E → vs.length = ps.length
  run : ∀ (A : Around) (outer : List Env) (s : Shared) (H : Hp) (args : Args) (us : List Value) (vs : List V) (Q : VK) (E : XK) (p : Addr × Obj), RoomH k A → Hot1 A p → Zc (.ref D) none p.2 → PinOk outer H s p → Env0 P w K mg base A outer s H → BindsTo s fd args (ps.zip us) → Vals vs us → sp p.1 vs H Q E →
    codeAny (model P w) A (.call (.ref f) args) (CR CX outer P w H s Q E) s
theorem fn_ofX {CX : CXT} {P : Program} {w : World} {K : PySem.W.Frag} {mg : Str → Option Value} {base : Heap} {k : Nat} {f : Addr} {name qual : Str} {params : Arguments} {body : List Stmt} {scope : Scope} {dV kV doc pm cdv ct oc : Value} {an od : Option Addr}
    {osl : Array (Option Value)} {N ps : List Str} {D : Addr} {sp : Addr → Sp} (lk : K.lookup f = some ⟨oc, od, .func (PySem.W.fnOf name qual params body scope dV kV doc pm an cdv ct), osl⟩) (hcd : PySem.W.codeIn K cdv qual = true) (S : FnScope N ps scope)
    (len : ∀ a vs H Q E, sp a vs H Q E → vs.length = ps.length)
    (hbody : ∀ (A : Around) (outer : List Env) (s : Shared) (H : Hp) (vs : List V) (Q : VK) (E : XK) (p : Addr × Obj), Hot1 A p → Zc (.ref D) none p.2 → RoomH k (A.deeper (envOfC qual scope s.heap.objs.size f cdv)) → sp p.1 vs H Q E →
      ∃ t, PSs (cxH CX P w K mg base N qual scope f cdv A outer s H E p) body t ∧ t { nx := fun _ H' => Q .non H', rt := Q } (L2.start N vs) H) :
    FnX P w K mg base CX (k + 1) f (PySem.W.fnOf name qual params body scope dV kV doc pm an cdv ct) ps D sp := by
  refine ⟨len, fun A outer s H args us vs Q E p hr hot hz hpin e0 hb r hsp => ?_⟩
  have hl := len _ _ _ _ _ hsp
  have KX : K.In s.heap := e0.mod.kin.keeps fun b o e => (e0.bs b o e).1
  have kinds : ∀ y ∈ ps.zip us, scope.names.lookup y.1 = some .local ∨ (scope.names.lookup y.1 = some .cell ∧ ((cellsFrom (s.heap.objs.size + 1) scope.names []).lookup y.1).isSome = true) := fun ⟨n, v⟩ hy => by
    rcases S.par n (List.of_mem_zip hy).1 with q | q
    · exact .inl q
    · exact .inr ⟨q, PySem.W.cellsFrom_some _ _ _ (.inl q)⟩
  refine codeAny_call_function hr.depth (KX _ _ lk) rfl S.co S.gen rfl (PySem.W.codeRec_of KX hcd) (hb _ _ _ _ (wpAny_newFunctionEnv_cells S.kind kinds fun env he s1 x => ?_))
  subst he
  refine ⟨(e0.mod.nolimit.keeps fun b o e => (e0.bs b o e).1).keeps x.toInCall.keep, codeAny_func ?_⟩
  obtain ⟨t, ht, hq⟩ := hbody A outer s H vs Q E p hot hz (hr.deeper _) hsp
  have I : Inv (cxH CX P w K mg base N qual scope f cdv A outer s H E p) [] (L2.start N vs) H s1 := inv_startH S hpin e0 hl r x
  refine wpAny_mono (ht.run [] s1 (L2.start N vs) H _ I hq) (fun fl s' hs => ?_) fun e s' hs => hs
  have fin : ∀ {σ' : L2.St} {H' : Hp} {v : V} {u : Value}, Inv (cxH CX P w K mg base N qual scope f cdv A outer s H E p) [] σ' H' s' → RelV v u → Q v H' → CE outer P w H s Q u s' := fun {σ' H' v u} J rv q => ⟨v, H', J.os, J.bare, J.base, J.hok, rv, q⟩
  cases fl with
  | ret u =>
    obtain ⟨v, σ', H', J, rv, q⟩ := hs
    exact fin J rv q
  | next =>
    obtain ⟨σ', H', J, q⟩ := hs
    exact fin (v := V.non) (u := Value.none) J rfl q
  | brk => exact hs.choose_spec.choose_spec.2.elim
  | cont => exact hs.choose_spec.choose_spec.2.elim
section
variable {X : Cx} {CX : CXT} {k : Nat} {f D : Addr} {fd : FuncData} {ps : List Str} {sp : Addr → Sp} {E : L2.St → XK} {x : Str} {q pos : Pos} {e : Expr} {es : List Expr} {t : TA}
theorem pe_callX {p : Addr × Obj} (F : FnX X.prog X.w X.K X.mg X.base CX k f fd ps D sp) (hr : RoomH k X.A) (hot : Hot1 X.A p) (hz : Zc (.ref D) none p.2) (hp : p ∈ X.pn) (hg : Gl X x) (hm : X.mg x = some (.ref f)) (hk : PySem.W.keepIn X.K (.ref f) = true) (hb : Binds X.K fd ps []) (hx : ∀ σ, PassesAt CX X σ (E σ))
    (ha : PA X (e :: es) t) (hdb : (x == ("__debug__" : Str)) = false := by decide) (he : starEach (e :: es) X.env = (false, eval e X.env) :: starEach es X.env := by rfl) (hpl : (backTo pos (starEach es X.env)).any (·.1) = false := by rfl) :
    PE X (.Call (.Name x q) (e :: es) [] pos) (fun σ H Q => t σ H fun vs H1 => sp p.1 vs H1 Q (E σ)) := by
  refine ⟨fun pins s σ H Q I h => wpAny_Call_Name_kw (ld_glob I hg hm ?_ hdb)⟩
  refine PySem.W.callWith_K (h₀ := X.base) I.ok.mod.kin hk (thn (ha.run pos pins s σ H _ I h) fun us s1 q1 => ?_) he hpl
  obtain ⟨vs, H1, I1, r, q1⟩ := q1
  refine ⟨I1.kIn, ?_⟩
  have hl : (us ++ []).length = ps.length := by
    rw [List.append_nil, ← r.length]
    exact F.len _ _ _ _ _ q1
  have b := hb s1 us I1.kIn hl
  rw [List.append_nil] at b
  have P1 := I1.pin p (List.mem_append_left _ hp)
  have hpin : PinOk X.stack H1 s1 p := ⟨P1.1, P1.2.1, fun hm => (List.mem_cons.mp (I1.stkSub p.1 hm)).elim P1.2.2.1 P1.2.2.2.1, P1.2.2.2.2⟩
  refine wpAny_call (codeAny_mono (F.run X.A X.stack s1 H1 ⟨us, []⟩ us vs Q (E σ) p hr hot hz hpin I1.env0 b r q1) fun r2 s' hq => ?_)
  cases r2 with
  | error e => exact hx σ pins H1 s1 e s' I1 hq
  | ok fl =>
    cases fl with
    | ret u => exact I1.after hq
    | next => exact False.elim hq
    | brk => exact False.elim hq
    | cont => exact False.elim hq
end
/-- isinstance of the handled exception -/
def rIsX (K : PySem.W.Frag) (D a : Addr) : List V → Hp → VK → Prop := fun xs H Q => ∃ (c : V) (cv : Value) (b : Bool), xs = [.ref a, c] ∧ ClsV c cv ∧ PySem.W.kitOne K (.ref D) cv = some b ∧ Q (.bl b) H
theorem call_isX {X : Cx} {p : Addr × Obj} {D : Addr} (C : ExcC X.K D) (hz : Zc (.ref D) none p.2) (hf : ∃ vs, p.2.data = .fields vs) (hp : p ∈ X.pn) : CallR X (.builtin "isinstance") (rIsX X.K D p.1) := by
  intro pins s σ H xs us Q I r h
  obtain ⟨c, cv, b, rfl, hcv, e, q⟩ := h
  obtain ⟨u1, u2, rfl, rx, rt⟩ := vals2 r
  obtain rfl : u1 = Value.ref p.1 := rx
  obtain rfl : u2 = cv := hcv.eq rt
  have hget := (I.pin p (List.mem_append_left _ hp)).1
  obtain ⟨vs, hv⟩ := hf
  have J : PySem.W.InstAt s.heap p.1 p.2 D none := by
    obtain ⟨pa, oc, od, oda, osl⟩ := p
    obtain ⟨h1, h2⟩ := hz
    dsimp only at h1 h2 hv
    subst h1 h2 hv
    exact ⟨hget, rfl, rfl, trivial⟩
  exact PySem.W.kia_one (PySem.W.handS_kitx_exc C.hg C.hk C.hs C.hd C.ha C.hn C.ht C.hm) I.kIn J e (fun z => nomatch z) fun tk => ⟨.bl b, H, I.kept (t' := tk) fun _ _ z => z, rfl, q⟩
theorem countP_eqU {y : V} : ∀ {xs : List V} {us : List Value}, Vals xs us → xs.all flatV = true → us.countP (eqU y) = xs.countP fun z => eqV z y
  | _, _, .nil, _ => rfl
  | z :: xs, u :: us, .cons r t, f => by
    rw [List.all_cons, Bool.and_eq_true] at f
    rw [List.countP_cons, List.countP_cons, countP_eqU t f.2, eqU_of r f.1]
def rCntB (K : PySem.W.Frag) : V → List V → Hp → VK → Prop := fun x xs H Q => ∃ (l : Addr) (ys : List V) (y : V), x = .ref l ∧ xs = [y] ∧ SqL K H l ys ∧ flatV y = true ∧ ys.all flatV = true ∧ Q (.int ((ys.countP fun z => eqV z y : Nat) : Int)) H
theorem mt_lcountB {X : Cx} : MtR X "list.count" (rCntB X.K) := by
  intro pins s σ H x xs v us Q I rx rxs h
  obtain ⟨l, ys, y, rfl, rfl, hs, fy, fs, q⟩ := h
  obtain rfl : v = Value.ref l := rx
  obtain ⟨u, rfl, ru⟩ := rxs.one
  obtain ⟨its, rv, ⟨⟨cls, dd, data, sl⟩, n, ho, hc, hdn, hd⟩, hlen⟩ := I.list hs
  simp only at hc hd
  subst hc hd
  refine call_meets PySem.F.slot_list_count ⟨_, ho, rfl⟩ PySem.F.entry_list_count (PySem.F.args_list_count_2 _ _)
    (SeqAt.list_countAt l its.toArray n dd sl u (eqU y)) ⟨ho, fun w hw => mem_eqAt ru fy rv fs w (by simpa using hw), ?_⟩
  have ec : its.toArray.toList.countP (eqU y) = ys.countP fun z => eqV z y := countP_eqU rv fs
  refine ⟨.int ((ys.countP fun z => eqV z y : Nat) : Int), H, I.tok _, ⟨s.toks, ?_⟩, q⟩
  show Value.int ((its.toArray.toList.countP (eqU y) : Nat) : Int) s.toks = _
  rw [ec]
end Rt
end S_RtHot

section S_RtLaw4
set_option Elab.async false
set_option linter.all false
set_option maxRecDepth 100000
set_option maxHeartbeats 4000000
/-! the class of an error -/
namespace Rt
open PySem PySem.Spec PyProof.Rows L2 TL L2H
/-- NoText and NoRow, what is to be known of them -/
structure Kd (K : PySem.W.Frag) (nm : Str) (D : Addr) : Prop where
  ec : ExcC K D
  ek : ∀ x : Str, x ∈ kindNames → PySem.W.kitOne K (.ref D) (.ref (He.ga K x)) = some (decide (nm = x))
  ev : PySem.W.kitOne K (.ref D) (.type "ValueError") = some true
def wordK (nm : Str) : Str := if nm = "NoText" then "text" else "row"
section
variable {P : Program} {w : World} {K : PySem.W.Frag} {mg : Str → Option Value} {base : Heap}
def spCls (nm : Str) (a : Addr) : Sp := fun vs H Q _ => vs = [.ref a] ∧ ∀ H', Q (.str (wordK nm)) H'
theorem sc_cls : FnScope ["_law_e", "_law_found", "_law_kind"] ["_law_e"] (defScope S_law_class) := ⟨rfl, rfl, rfl, by decide +kernel, rfl, by decide +kernel, by decide +kernel⟩
theorem ok_cls (T : Txt K mg) {nm : Str} {D : Addr} (hn : nm = "NoText" ∨ nm = "NoRow") (kd : Kd K nm D) : FnX P w K mg base (CXN P w) 1 (A_law_class K) (fdOf K (A_law_class K)) ["_law_e"] D (spCls nm) := by
  obtain ⟨oc, od, kV, doc, pm, an, cdv, ct, osl, e0, lk, hcd⟩ := T.d_law_class.ex
  rw [e0] at lk ⊢
  refine fn_ofX lk hcd sc_cls (fun a vs H Q E h => ?_) (fun A outer s H vs Q E p hot hz hr h => ?_)
  · obtain ⟨rfl, _⟩ := h
    rfl
  · obtain ⟨rfl, q⟩ := h
    have hf : ∃ vs, p.2.data = .fields vs := by
      obtain ⟨_, vs, e, _⟩ := hot
      exact ⟨vs, e⟩
    refine ⟨_, (pss_cons (ps_set (i := 1) sc_cls.nd rfl (.inl rfl) (pe_lst pa_nil))
      (pss_cons (ps_forH PassesOwn.leaving ⟨p, hot, List.mem_cons_self⟩ (pi_tupH (pe_tup (pa_cons (by exact (pe_callB (call_isX kd.ec hz hf List.mem_cons_self) (by rfl) T.f_isinstance (by decide +kernel) (pa_cons (pv 0) (pa_cons (pe_glob (v := .ref (C_NoProgram K)) rfl T.g_NoProgram rfl) pa_nil)))) (pa_cons (by exact (pe_callB (call_isX kd.ec hz hf List.mem_cons_self) (by rfl) T.f_isinstance (by decide +kernel) (pa_cons (pv 0) (pa_cons (pe_glob (v := .ref (C_NoRow K)) rfl T.g_NoRow rfl) pa_nil)))) (pa_cons (by exact (pe_callB (call_isX kd.ec hz hf List.mem_cons_self) (by rfl) T.f_isinstance (by decide +kernel) (pa_cons (pv 0) (pa_cons (pe_glob (v := .ref (C_TooLong K)) rfl T.g_TooLong rfl) pa_nil)))) (pa_cons (by exact (pe_callB (call_isX kd.ec hz hf List.mem_cons_self) (by rfl) T.f_isinstance (by decide +kernel) (pa_cons (pv 0) (pa_cons (pe_glob (v := .ref (C_NoWorld K)) rfl T.g_NoWorld rfl) pa_nil)))) pa_nil)))))) (pg_name (i := 2) sc_cls.nd rfl (.inl rfl))
        (pss_one (ps_expr (pe_bm PySem.F.plainAttrs_list PySem.F.slot_list_append PySem.F.type_list_append mt_append (pv 1) (pa_cons (pv 2) pa_nil)))))
      (pss_cons (ps_forH PassesOwn.leaving ⟨p, hot, List.mem_cons_self⟩ (pi_tupH (pe_tup (pa_cons (by exact (pe_callB (call_isX kd.ec hz hf List.mem_cons_self) (by rfl) T.f_isinstance (by decide +kernel) (pa_cons (pv 0) (pa_cons (pe_glob (v := .ref (C_NoText K)) rfl T.g_NoText rfl) pa_nil)))) (pa_cons (by exact (pe_callB (call_isX kd.ec hz hf List.mem_cons_self) (by rfl) T.f_isinstance (by decide +kernel) (pa_cons (pv 0) (pa_cons (pe_glob (v := .ref (C_NoStep K)) rfl T.g_NoStep rfl) pa_nil)))) (pa_cons (by exact (pe_callB (call_isX kd.ec hz hf List.mem_cons_self) (by rfl) T.f_isinstance (by decide +kernel) (pa_cons (pv 0) (pa_cons (pe_glob (v := .ref (C_NoCell K)) rfl T.g_NoCell rfl) pa_nil)))) (pa_cons (by exact (pe_callB (call_isX kd.ec hz hf List.mem_cons_self) (by rfl) T.f_isinstance (by decide +kernel) (pa_cons (pv 0) (pa_cons (pe_glob (v := .ref (C_NoDoor K)) rfl T.g_NoDoor rfl) pa_nil)))) pa_nil)))))) (pg_name (i := 2) sc_cls.nd rfl (.inl rfl))
        (pss_one (ps_expr (pe_bm PySem.F.plainAttrs_list PySem.F.slot_list_append PySem.F.type_list_append mt_append (pv 1) (pa_cons (pv 2) pa_nil)))))
      (pss_cons (ps_expr (pe_bm PySem.F.plainAttrs_list PySem.F.slot_list_append PySem.F.type_list_append mt_append (pv 1) (pa_cons (by exact (pe_callB (call_isX kd.ec hz hf List.mem_cons_self) (by rfl) T.f_isinstance (by decide +kernel) (pa_cons (pv 0) (pa_cons (pe_glob (v := .ref (C_NoWord K)) rfl T.g_NoWord rfl) pa_nil)))) pa_nil)))
      (pss_cons (ps_if (PW.pt (pw_or (pt_not (pt_val (pe_callB (call_isX kd.ec hz hf List.mem_cons_self) (by rfl) T.f_isinstance (by decide +kernel) (pa_cons (pv 0) (pa_cons (pe_bltn (v := .ty "ValueError") (by rfl) T.f_ValueError (by decide +kernel) rfl) pa_nil))))) (pw_or1 (pt_cmpR op_ne (pe_bm PySem.F.plainAttrs_list PySem.F.slot_list_count PySem.F.type_list_count mt_lcountB (pv 1) (pa_cons pe_bl pa_nil)) pe_int (nomark _))))) pss_never
        pss_nil)
      (pss_one (ps_ret (pe_ix ix_list (pe_lst (pa_cons pe_str (pa_cons pe_str (pa_cons pe_str (pa_cons pe_str (pa_cons pe_str (pa_cons pe_str (pa_cons pe_str (pa_cons pe_str (pa_cons pe_str pa_nil)))))))))) (pe_bm PySem.F.plainAttrs_list PySem.F.slot_list_index PySem.F.type_list_index mt_index (pv 1) (pa_cons pe_bl pa_nil)) (fun _ _ => rfl))))))))), ?_⟩
    refine ⟨(by show 0 ≤ sizeLine; decide), fun f hf0 => ?_⟩
    have g0 : upd H f (.lst []) f = some (.lst ([] ++ ([] : List V))) := upd_same
    show tSeq _ _ _ _ (upd H f (.lst []))
    generalize upd H f (.lst []) = H0 at *
    refine ⟨_, rfl, _, _, _, rfl, .own _, kd.ek "NoProgram" (by decide +kernel), _, rfl, _, _, _, rfl, .own _, kd.ek "NoRow" (by decide +kernel), _, rfl, _, _, _, rfl, .own _, kd.ek "TooLong" (by decide +kernel), _, rfl, _, _, _, rfl, .own _, kd.ek "NoWorld" (by decide +kernel), (by show 4 ≤ sizeLine; decide), fun t ht => ?_⟩
    refine ⟨t, rfl, ⟨_, SqT.of upd_same⟩, for_tup (K := K) (a := t) (xs := [V.bl (decide (nm = "NoProgram")), V.bl (decide (nm = "NoRow")), V.bl (decide (nm = "TooLong")), V.bl (decide (nm = "NoWorld"))]) (fun i σ H' => H' t = some (.tup [V.bl (decide (nm = "NoProgram")), V.bl (decide (nm = "NoRow")), V.bl (decide (nm = "TooLong")), V.bl (decide (nm = "NoWorld"))]) ∧ H' f = some (.lst ([] ++ ([V.bl (decide (nm = "NoProgram")), V.bl (decide (nm = "NoRow")), V.bl (decide (nm = "TooLong")), V.bl (decide (nm = "NoWorld"))] : List V).take i)) ∧ ∃ s2, σ = [some (.ref p.1), some (.ref f), s2]) ⟨upd_same, upk g0 ht, ⟨_, rfl⟩⟩ (fun i σ H' _ h => SqT.of h.1) ?_ ?_⟩
    · rintro i y σ H' hy ⟨h1, h2, s2, rfl⟩
      refine ⟨_, rfl, .inl ⟨rfl, _, SqL.of h2⟩, _, rfl, f, _, _, rfl, rfl, h2, ?_, upx h1 h2 (by intro z; cases z), ?_, ⟨_, rfl⟩⟩
      · rw [List.length_append, List.length_take]
        exact Nat.lt_of_le_of_lt (show _ ≤ 100 by show 0 + min i 4 ≤ 100; omega) (by decide)
      · rw [upd_same, take_more hy, List.append_assoc]
    rintro σ H1 ⟨_, g0', s2, rfl⟩
    refine ⟨_, rfl, _, _, _, rfl, .own _, kd.ek "NoText" (by decide +kernel), _, rfl, _, _, _, rfl, .own _, kd.ek "NoStep" (by decide +kernel), _, rfl, _, _, _, rfl, .own _, kd.ek "NoCell" (by decide +kernel), _, rfl, _, _, _, rfl, .own _, kd.ek "NoDoor" (by decide +kernel), (by show 4 ≤ sizeLine; decide), fun t ht => ?_⟩
    refine ⟨t, rfl, ⟨_, SqT.of upd_same⟩, for_tup (K := K) (a := t) (xs := [V.bl (decide (nm = "NoText")), V.bl (decide (nm = "NoStep")), V.bl (decide (nm = "NoCell")), V.bl (decide (nm = "NoDoor"))]) (fun i σ H' => H' t = some (.tup [V.bl (decide (nm = "NoText")), V.bl (decide (nm = "NoStep")), V.bl (decide (nm = "NoCell")), V.bl (decide (nm = "NoDoor"))]) ∧ H' f = some (.lst ([V.bl (decide (nm = "NoProgram")), V.bl (decide (nm = "NoRow")), V.bl (decide (nm = "TooLong")), V.bl (decide (nm = "NoWorld"))] ++ ([V.bl (decide (nm = "NoText")), V.bl (decide (nm = "NoStep")), V.bl (decide (nm = "NoCell")), V.bl (decide (nm = "NoDoor"))] : List V).take i)) ∧ ∃ s2, σ = [some (.ref p.1), some (.ref f), s2]) ⟨upd_same, upk g0' ht, ⟨_, rfl⟩⟩ (fun i σ H' _ h => SqT.of h.1) ?_ ?_⟩
    · rintro i y σ H' hy ⟨h1, h2, s2, rfl⟩
      refine ⟨_, rfl, .inl ⟨rfl, _, SqL.of h2⟩, _, rfl, f, _, _, rfl, rfl, h2, ?_, upx h1 h2 (by intro z; cases z), ?_, ⟨_, rfl⟩⟩
      · rw [List.length_append, List.length_take]
        exact Nat.lt_of_le_of_lt (show _ ≤ 100 by show 4 + min i 4 ≤ 100; omega) (by decide)
      · rw [upd_same, take_more hy, List.append_assoc]
    rintro σ H2 ⟨_, g0'', s2, rfl⟩
    refine ⟨_, rfl, .inl ⟨rfl, _, SqL.of g0''⟩, _, rfl, _, _, _, rfl, .own _, kd.ek "NoWord" (by decide +kernel), f, _, _, rfl, rfl, g0'', (by show 8 < sizeLine; decide), ?_⟩
    have g3 : upd H2 f (.lst ([V.bl (decide (nm = "NoProgram")), V.bl (decide (nm = "NoRow")), V.bl (decide (nm = "TooLong")), V.bl (decide (nm = "NoWorld"))] ++ ([V.bl (decide (nm = "NoText")), V.bl (decide (nm = "NoStep")), V.bl (decide (nm = "NoCell")), V.bl (decide (nm = "NoDoor"))] : List V).take 4 ++ [V.bl (decide (nm = "NoWord"))])) f = some (.lst (if nm = "NoText" then [V.bl false, .bl false, .bl false, .bl false, .bl true, .bl false, .bl false, .bl false, .bl false] else [V.bl false, .bl true, .bl false, .bl false, .bl false, .bl false, .bl false, .bl false, .bl false])) := by
      rw [upd_same]
      rcases hn with rfl | rfl
      · exact congrArg (fun z => some (HO.lst z)) (by decide +kernel)
      · exact congrArg (fun z => some (HO.lst z)) (by decide +kernel)
    show tSeq _ _ _ _ (upd H2 f _)
    generalize upd H2 f _ = H3 at *
    refine ⟨_, rfl, .ty "ValueError", _, true, rfl, .ty _, kd.ev, true, rfl, itF rfl ?_⟩
    rcases hn with rfl | rfl
    · rw [if_pos rfl] at g3
      refine ⟨_, rfl, .inl ⟨rfl, _, SqL.of g3⟩, f, _, .bl true, rfl, rfl, SqL.of g3, rfl, rfl, rfl, _, rfl, itF (by decide +kernel) ?_⟩
      refine ⟨(by show 9 ≤ sizeLine; decide), fun m hm => ?_⟩
      have g4 := upk (o := .lst [V.str "program", .str "row", .str "long", .str "world", .str "text", .str "step", .str "cell", .str "door", .str "word"]) g3 hm
      refine ⟨_, rfl, .inl ⟨rfl, _, SqL.of g4⟩, f, _, .bl true, 4, .bl true, rfl, rfl, SqL.of g4, rfl, rfl, rfl, rfl, ?_, m, _, ((4 : Nat) : Int), .str "text", rfl, rfl, SqL.of upd_same, atI_nat (j := 4) rfl, q _⟩
      intro k z hk hz
      match k, hk with
      | 0, _ => cases hz; rfl
      | 1, _ => cases hz; rfl
      | 2, _ => cases hz; rfl
      | 3, _ => cases hz; rfl
      | k + 4, h => exact absurd h (by omega)
    · rw [if_neg (by decide +kernel)] at g3
      refine ⟨_, rfl, .inl ⟨rfl, _, SqL.of g3⟩, f, _, .bl true, rfl, rfl, SqL.of g3, rfl, rfl, rfl, _, rfl, itF (by decide +kernel) ?_⟩
      refine ⟨(by show 9 ≤ sizeLine; decide), fun m hm => ?_⟩
      have g4 := upk (o := .lst [V.str "program", .str "row", .str "long", .str "world", .str "text", .str "step", .str "cell", .str "door", .str "word"]) g3 hm
      have e : wordK "NoRow" = "row" := by decide +kernel
      rw [e] at q
      refine ⟨_, rfl, .inl ⟨rfl, _, SqL.of g4⟩, f, _, .bl true, 1, .bl true, rfl, rfl, SqL.of g4, rfl, rfl, rfl, rfl, ?_, m, _, ((1 : Nat) : Int), .str "row", rfl, rfl, SqL.of upd_same, atI_nat (j := 1) rfl, q _⟩
      intro k z hk hz
      match k, hk with
      | 0, _ => cases hz; rfl
      | k + 1, h => exact absurd h (by omega)
end
end Rt
end S_RtLaw4

section S_RtLaw5
set_option Elab.async false
set_option linter.all false
set_option maxRecDepth 100000
set_option maxHeartbeats 4000000
/-! the law's reading -/
namespace Rt
open PySem PySem.Spec PyProof.Rows L2 TL L2H
section
variable {P : Program} {w : World} {K : PySem.W.Frag} {mg : Str → Option Value} {base : Heap}
theorem PgmP.mono {H H' : Hp} {p : Addr} {r : Rs} (t : TupS H H') (h : PgmP H p r) : PgmP H' p r :=
  let ⟨bt, lt, ft, rt, xs, h1, h2, h3, h4, h5⟩ := h
  ⟨bt, lt, ft, rt, xs, t _ _ h1, h2.mono t, t _ _ h3, t _ _ h4, h5.mono t⟩
theorem kdText (T : Txt K mg) : Kd K "NoText" (C_NoText K) := ⟨T.ec_NoText, T.ek_NoText, T.ev_NoText⟩
theorem kdRow (T : Txt K mg) : Kd K "NoRow" (C_NoRow K) := ⟨T.ec_NoRow, T.ek_NoRow, T.ev_NoRow⟩
/-- what the law's reading hands back -/
def lrDone (Q : VK) : Res → Prop
  | .off => False
  | .bad => ∀ H', Q (.str "text") H'
  | .ok r => (rok r 1 = true ∧ ∀ H' l p, H' l = some (.lst [.ref p]) → PgmP H' p r → Q (.ref l) H') ∨ (rok r 1 = false ∧ ∀ H', Q (.str "row") H')
def spLr : Sp := fun vs H Q _ => ∃ (z : Str) (rest : List Ln), vs = [.str z] ∧ TxtOk z rest ∧ lrDone Q (go rest [.base .none])
theorem sc_lr : FnScope ["_law_text", "_law_e"] ["_law_text"] (defScope S_law_read) := ⟨rfl, rfl, rfl, by decide +kernel, rfl, by decide +kernel, by decide +kernel⟩
/-- the suite: by the class of the exception -/
def tSuite (K : PySem.W.Frag) (a : Addr) (cls : Value) (d : Option Addr) : L2.TS := fun D σ H => ∃ nm : Str, σ[1]? = some (some (.ref a)) ∧ d = none ∧ ((nm = "NoText" ∧ cls = .ref (C_NoText K)) ∨ (nm = "NoRow" ∧ cls = .ref (C_NoRow K))) ∧ ∀ H', D.rt (.str (wordK nm)) H'
theorem passF {P : Program} {w : World} {X : Cx} (σ : L2.St) : PassesAt (CXN P w) X σ E0 := fun _ _ _ _ _ _ h => by
  obtain ⟨_, _, _, _, _, _, _, _, _, _, _, _, z⟩ := h
  exact z.elim
theorem suite_ok {X : Cx} (T : Txt X.K X.mg) (hr : Room 2 X.A) {pn : List (Addr × Obj)} {a : Addr} {oe : Obj} {cls : Value} {d : Option Addr} (hz : L2N.Zn cls d oe) (hf : ∃ vs, oe.data = .fields vs)
    {sts : List Stmt}
    (hs : ∀ (nm : Str) (D : Addr), (nm = "NoText" ∨ nm = "NoRow") → Kd X.K nm D → cls = .ref D → d = none → ∃ t, PSs (X.suite a ((a, oe) :: pn)) sts t ∧ ∀ Ds σ H, σ[1]? = some (some (.ref a)) → (∀ H', Ds.rt (.str (wordK nm)) H') → t Ds σ H) :
    PSs (X.suite a ((a, oe) :: pn)) sts (tSuite X.K a cls d) := by
  constructor
  rintro pins s σ H D I ⟨nm, h1, hd, ⟨rfl, hc⟩ | ⟨rfl, hc⟩, q⟩
  · obtain ⟨t, ht, hq⟩ := hs "NoText" _ (.inl rfl) (kdText T) hc hd
    exact ht.run pins s σ H D I (hq D σ H h1 q)
  · obtain ⟨t, ht, hq⟩ := hs "NoRow" _ (.inr rfl) (kdRow T) hc hd
    exact ht.run pins s σ H D I (hq D σ H h1 q)
theorem ok_lr (T : Txt K mg) : FnOk P w K mg base (CXN P w) 25 (A_law_read K) (fdOf K (A_law_read K)) ["_law_text"] spLr := by
  have G_read : FnOk P w K mg base (CXN P w) 24 (A_read K) (fdOf K (A_read K)) ["text"] (spRd K) := ok_rd T
  refine okX T.d_law_read sc_lr (fun vs H Q E h => ?_) (fun cdv A outer s H vs Q E hr h => ?_)
  · obtain ⟨z, rest, rfl, _⟩ := h
    rfl
  · obtain ⟨z, rest, rfl, X, fin⟩ := h
    refine ⟨_, pss_one (L2N.ps_try_as (i := 1) (c := .ref (C_RunError K)) (tb := fun W => tSeq (tRet (tLst (tCons (tCallS (spRd K) (WE W) (tCons (tVar 0) tNil)) tNil))) tNext) (ts := tSuite K) rfl rfl sc_lr.nd rfl rfl ⟨rfl, by decide +kernel, .inl T.g_RunError⟩ takesE (fun W pn xe tk po => ?_) (fun a oe cls d pn hz hf => ?_)), ?_⟩
    · exact pss_one (ps_ret (pe_lst (pa_cons (by exact (pe_callS G_read (hr.mono (by decide)) rfl T.g_read T.d_read.kp (b_read T) (fun σ => L2N.passAt tk σ) (pa_cons (pv 0) pa_nil))) pa_nil)))
    · refine suite_ok T (hr.mono (by decide)) hz hf fun nm D hn kd hc hd => ?_
      subst hc hd
      have hot : Hot1 ((cxOf (CXN P w) P w K mg base ["_law_text", "_law_e"] "_law_read" (defScope S_law_read) (A_law_read K) cdv A outer s H E).suite a ((a, oe) :: pn)).A (a, oe) := by
        obtain ⟨vs, e⟩ := hf
        exact ⟨rfl, vs, e, hz.2.2 vs e⟩
      exact ⟨_, pss_one (ps_ret (pe_callX (p := (a, oe)) (E := fun _ => E0) (ok_cls T hn kd) ⟨(hr.mono (show 1 ≤ 24 by decide)).dp, (hr.mono (show 1 ≤ 24 by decide)).un⟩ hot hz.zc List.mem_cons_self rfl T.g_law_class T.d_law_class.kp (b_law_class T) (fun σ => passF σ) (pa_cons (pv 1) pa_nil))), fun Ds σ H h1 q => ⟨_, h1, rfl, q⟩⟩
    · refine ⟨_, rfl, z, rest, rfl, X, ?_⟩
      have e1 : wordK "NoText" = "text" := by decide +kernel
      have e2 : wordK "NoRow" = "row" := by decide +kernel
      cases hg : go rest [.base .none] with
      | off => rw [hg] at fin; exact fin.elim
      | bad =>
        rw [hg] at fin
        intro H1
        exact ⟨true, T.x_NoText, fun _ a ha => ⟨"NoText", rfl, rfl, .inl ⟨rfl, rfl⟩, fun H2 => by rw [e1]; exact fin H2⟩, fun z => by cases z⟩
      | ok r =>
        rw [hg] at fin
        rcases fin with ⟨hk, q⟩ | ⟨hk, q⟩
        · exact .inl ⟨hk, fun H1 p hp => ⟨(by show 1 ≤ sizeLine; decide), fun l hl => q _ l p upd_same (hp.mono (ts_same (same_new hl)))⟩⟩
        · refine .inr ⟨hk, fun H1 => ?_⟩
          exact ⟨true, T.x_NoRow, fun _ a ha => ⟨"NoRow", rfl, rfl, .inr ⟨rfl, rfl⟩, fun H2 => by rw [e2]; exact q H2⟩, fun z => by cases z⟩
end
end Rt
end S_RtLaw5

section S_RtPl0
set_option Elab.async false
set_option linter.all false
set_option maxRecDepth 100000
set_option maxHeartbeats 4000000
/-! the law's texts, in plain: what is to be shown of them -/
namespace Rt
open PySem PySem.Spec PyProof.Rows L2 TL
/-- the text of lines -/
def txtL (L : List Str) : Str := Txt.join "\n" ([("box x 7" : Str), "list l 1 2"] ++ L) ++ "\n"
/-- lines of a size that the law's have -/
def SizeL (L : List Str) : Prop := L.length ≤ 10000 ∧ (L.map (·.length)).sum ≤ 300000 ∧ ∀ l ∈ L, PyData.strOk l = true
/-- lines that are read as R, and the text that is written of it -/
def ReadsL (L : List Str) (b : Bool) : Prop := ∃ rest R, TxtOk (txtL L) rest ∧ go rest [.base .none] = .ok R ∧ rok R 1 = b ∧ (b = true → wrT R = txtL L)
def BadL (L : List Str) : Prop := L ≠ [] ∧ ∃ rest, TxtOk (txtL L) rest ∧ go rest [.base .none] = .bad
end Rt
end S_RtPl0

section S_RtLaw6
set_option Elab.async false
set_option linter.all false
set_option maxRecDepth 100000
set_option maxHeartbeats 4000000
/-! the law, walked; what is to be known of the texts stands ahead as what Pl says -/
namespace Rt
open PySem PySem.Spec PyProof.Rows L2 TL
/-- the plain facts -/
structure Pl : Prop where
  ok : ∀ (ks : List Nat) (m k : Nat), (∀ c ∈ ks, c ≤ 3) → ks.length ≤ 1700 → 1 ≤ m → m ≤ 2000 → k ≤ 2 → ReadsL (bodyL ks (valT m k)) (decide (ks.length + 1 ≤ 5) && decide (m ≤ 4))
  bad : ∀ (ks : List Nat) (m k : Nat), (∀ c ∈ ks, c ≤ 3) → ks.length ≤ 1700 → 1 ≤ m → m ≤ 2000 → k ≤ 2 → ∀ L2, WrongOf (bodyL ks (valT m k)) L2 → (L2 = [] ∧ ReadsL L2 true) ∨ BadL L2
  size : ∀ (ks : List Nat) (m k : Nat), (∀ c ∈ ks, c ≤ 3) → ks.length ≤ 1700 → 1 ≤ m → m ≤ 2000 → k ≤ 2 → (valT m k).length ≤ 100000 ∧ SizeL (bodyL ks (valT m k)) ∧ ∀ L2, WrongOf (bodyL ks (valT m k)) L2 → SizeL L2
theorem mem_sum {L : List Str} {x : Str} (h : x ∈ L) : x.length ≤ (L.map (·.length)).sum := by
  induction L with
  | nil => cases h
  | cons y r ih =>
    rw [List.map_cons, List.sum_cons]
    rcases List.mem_cons.mp h with rfl | h
    · exact Nat.le_add_right _ _
    · exact Nat.le_trans (ih h) (Nat.le_add_left _ _)
theorem txt_sum {L : List Str} (h : SizeL L) : ((([("box x 7" : Str), "list l 1 2"] ++ L)).map (·.length)).sum + ([("box x 7" : Str), "list l 1 2"] ++ L).length * ("\n" : Str).length ≤ 400000 := by
  obtain ⟨h1, h2, _⟩ := h
  have e1 : ("\n" : Str).length = 1 := by decide +kernel
  have e2 : ("box x 7" : Str).length = 7 := by decide +kernel
  have e3 : ("list l 1 2" : Str).length = 10 := by decide +kernel
  rw [e1]
  show ("box x 7" : Str).length + (("list l 1 2" : Str).length + (L.map (·.length)).sum) + (L.length + 1 + 1) * 1 ≤ 400000
  omega
theorem txt_len {L : List Str} (h : SizeL L) : (Txt.join "\n" ([("box x 7" : Str), "list l 1 2"] ++ L)).length + ("\n" : Str).length ≤ 500000 := by
  have h1 := join_len "\n" ([("box x 7" : Str), "list l 1 2"] ++ L)
  have h2 := txt_sum h
  have e1 : ("\n" : Str).length = 1 := by decide +kernel
  omega
section
variable {P : Program} {w : World} {K : PySem.W.Frag} {mg : Str → Option Value} {base : Heap}
def spLaw (K : PySem.W.Frag) : Sp := fun vs H Q _ => ∃ (s : Addr) (ns : List Int), vs = [.ref s] ∧ SqL K H s (ns.map V.int) ∧ ∀ H', Q (.bl true) H'
theorem sc_law : FnScope ["_law_script", "_law_state_here", "_law_within", "_law_deep", "_law_many", "_law_body", "_law_wrong_here", "_law_text", "_law_due", "_law_turn", "_law_found"] ["_law_script"] (defScope S_law) := ⟨rfl, rfl, rfl, by decide +kernel, rfl, by decide +kernel, by decide +kernel⟩
theorem ok_law (T : Txt K mg) (pl : Pl) : FnOk P w K mg base CX0 26 (A_law K) (fdOf K (A_law K)) ["_law_script"] (spLaw K) := by
  have G_law_cell_at : FnOk P w K mg base CX0 1 (A_law_cell_at K) (fdOf K (A_law_cell_at K)) ["_law_script", "_law_k"] (spCell K) := ok_cell T
  have G_law_state : FnOk P w K mg base CX0 1 (A_law_state K) (fdOf K (A_law_state K)) ["_law_cell", "_law_k"] spState := ok_state T
  have G_law_next : FnOk P w K mg base CX0 1 (A_law_next K) (fdOf K (A_law_next K)) ["_law_state_here", "_law_size"] spLn := ok_lnext T
  have G_law_value : FnOk P w K mg base CX0 1 (A_law_value K) (fdOf K (A_law_value K)) ["_law_deep", "_law_kind"] spLval := ok_lval T
  have G_law_lines : FnOk P w K mg base CX0 2 (A_law_lines K) (fdOf K (A_law_lines K)) ["_law_state_here", "_law_deep", "_law_value_here"] spLl := ok_ll T
  have G_law_wrong : FnOk P w K mg base CX0 2 (A_law_wrong K) (fdOf K (A_law_wrong K)) ["_law_lines_here", "_law_state_here"] spWg := ok_wg T
  have G_law_read : FnOk P w K mg base (CXN P w) 25 (A_law_read K) (fdOf K (A_law_read K)) ["_law_text"] spLr := ok_lr T
  have G_written : FnOk P w K mg base CX0 15 (A_written K) (fdOf K (A_written K)) ["program"] spWr := ok_wr T
  refine T.d_law.ok sc_law (fun vs H Q E h => ?_) (fun cdv A outer s H vs Q E hr h => ?_)
  · obtain ⟨s, ns, rfl, _⟩ := h
    rfl
  · obtain ⟨sa, ns, rfl, hs, q⟩ := h
    refine ⟨_, (pss_cons (ps_set (i := 1) sc_law.nd rfl (.inl rfl) (pe_call G_law_state (hr.mono (by decide)) rfl T.g_law_state T.d_law_state.kp (b_law_state T) .nil pass0 (pa_cons (by exact (pe_call G_law_cell_at (hr.mono (by decide)) rfl T.g_law_cell_at T.d_law_cell_at.kp (b_law_cell_at T) .nil pass0 (pa_cons (pv 0) (pa_cons pe_int pa_nil)))) (pa_cons pe_int pa_nil))))
      (pss_cons (ps_set (i := 2) sc_law.nd rfl (.inl rfl) (pe_call G_law_next (hr.mono (by decide)) rfl T.g_law_next T.d_law_next.kp (b_law_next T) .nil pass0 (pa_cons (pv 1) (pa_cons pe_int pa_nil))))
      (pss_cons (ps_set (i := 3) sc_law.nd rfl (.inl rfl) (pe_ix ix_list (pe_lst (pa_cons (pe_op op_add pe_int (pe_call G_law_next (hr.mono (by decide)) rfl T.g_law_next T.d_law_next.kp (b_law_next T) .nil pass0 (pa_cons (pv 1) (pa_cons pe_int pa_nil)))) (pa_cons (pe_op op_add pe_int (pe_call G_law_next (hr.mono (by decide)) rfl T.g_law_next T.d_law_next.kp (b_law_next T) .nil pass0 (pa_cons (pv 1) (pa_cons pe_int pa_nil)))) pa_nil))) (pv 2) (fun _ _ => rfl)))
      (pss_cons (ps_set (i := 4) sc_law.nd rfl (.inl rfl) (pe_ix ix_list (pe_lst (pa_cons (pe_op op_add pe_int (pe_call G_law_next (hr.mono (by decide)) rfl T.g_law_next T.d_law_next.kp (b_law_next T) .nil pass0 (pa_cons (pv 1) (pa_cons pe_int pa_nil)))) (pa_cons (pe_op op_add pe_int (pe_call G_law_next (hr.mono (by decide)) rfl T.g_law_next T.d_law_next.kp (b_law_next T) .nil pass0 (pa_cons (pv 1) (pa_cons pe_int pa_nil)))) pa_nil))) (pv 2) (fun _ _ => rfl)))
      (pss_cons (ps_if (pt_cmpR op_eq (pe_call G_law_next (hr.mono (by decide)) rfl T.g_law_next T.d_law_next.kp (b_law_next T) .nil pass0 (pa_cons (pv 1) (pa_cons pe_int pa_nil))) pe_int (nomark _)) (pss_one (ps_asg (pe_ix ix_list (pe_lst (pa_cons (pe_tup (pa_cons (pv 3) (pa_cons (pe_op op_add (pv 4) pe_int) pa_nil))) (pa_cons (pe_tup (pa_cons (pe_op op_add (pv 3) pe_int) (pa_cons (pv 4) pa_nil))) pa_nil))) (pe_call G_law_next (hr.mono (by decide)) rfl T.g_law_next T.d_law_next.kp (b_law_next T) .nil pass0 (pa_cons (pv 1) (pa_cons pe_int pa_nil))) (fun _ _ => rfl)) (pg_tup rfl (pgs_cons (pg_name (i := 3) sc_law.nd rfl (.inl rfl)) (pgs_cons (pg_name (i := 4) sc_law.nd rfl (.inl rfl)) pgs_nil)))))
        pss_nil)
      (pss_cons (ps_set (i := 5) sc_law.nd rfl (.inl rfl) (pe_call G_law_lines (hr.mono (by decide)) rfl T.g_law_lines T.d_law_lines.kp (b_law_lines T) .nil pass0 (pa_cons (pv 1) (pa_cons (pv 3) (pa_cons (by exact (pe_call G_law_value (hr.mono (by decide)) rfl T.g_law_value T.d_law_value.kp (b_law_value T) .nil pass0 (pa_cons (pv 4) (pa_cons (by exact (pe_call G_law_next (hr.mono (by decide)) rfl T.g_law_next T.d_law_next.kp (b_law_next T) .nil pass0 (pa_cons (pv 1) (pa_cons pe_int pa_nil)))) pa_nil)))) pa_nil)))))
      (pss_cons (ps_set (i := 6) sc_law.nd rfl (.inl rfl) (pe_cmpR op_eq (pe_call G_law_next (hr.mono (by decide)) rfl T.g_law_next T.d_law_next.kp (b_law_next T) .nil pass0 (pa_cons (pv 1) (pa_cons pe_int pa_nil))) pe_int (nomark _)))
      (pss_cons (ps_if (pt_val (pv 6)) (pss_one (ps_set (i := 5) sc_law.nd rfl (.inl rfl) (pe_call G_law_wrong (hr.mono (by decide)) rfl T.g_law_wrong T.d_law_wrong.kp (b_law_wrong T) .nil pass0 (pa_cons (pv 5) (pa_cons (pv 1) pa_nil)))))
        pss_nil)
      (pss_cons (ps_set (i := 7) sc_law.nd rfl (.inl rfl) (pe_op op_add_str (pe_join pe_str (pe_op op_cat (pe_lst (pa_cons pe_str (pa_cons pe_str pa_nil))) (pv 5))) pe_str))
      (pss_cons (ps_set (i := 8) sc_law.nd rfl (.inl rfl) pe_str)
      (pss_cons (ps_if (pt_not (pt_val (pv 6))) (pss_one (ps_set (i := 8) sc_law.nd rfl (.inl rfl) (pe_ix ix_list (pe_lst (pa_cons pe_str (pa_cons pe_str pa_nil))) (pe_callTy call_int1 (by rfl) T.f_int (by decide +kernel) (pa_cons (pe_or (pe_cmpR op_gt (pv 3) pe_int (nomark _)) (pe_one (pe_cmpR op_gt (pv 4) pe_int (nomark _)))) pa_nil)) (fun _ _ => rfl))))
        pss_nil)
      (pss_cons (ps_if (pt_cmpR (op_eqD hr.units) (pv 5) (pe_lst pa_nil) (nomark _)) (pss_one (ps_set (i := 8) sc_law.nd rfl (.inl rfl) pe_str))
        pss_nil)
      (pss_cons (ps_for PassesOwn.never rfl (pi_range1 rfl T.f_range (pa_cons pe_int pa_nil)) (pg_name (i := 9) sc_law.nd rfl (.inl rfl))
        (pss_cons (ps_set (i := 10) sc_law.nd rfl (.inl rfl) (pe_call G_law_read (hr.mono (by decide)) rfl T.g_law_read T.d_law_read.kp (b_law_read T) .nil passN (pa_cons (pv 7) pa_nil)))
        (pss_cons (ps_if (PW.pt (pw_and (pt_cmpR op_ne (pv 8) pe_str (nomark _)) (pw_and1 (pt_cmpR op_ne (pv 10) (pv 8) (nomark _))))) (pss_one (ps_ret pe_bl))
          pss_nil)
        (pss_one (ps_if (PW.pt (pw_and (pt_cmpR op_eq (pv 8) pe_str (nomark _)) (pw_and1 (PW.pt (pw_or (pt_not (pt_val (pe_callB call_isi (by rfl) T.f_isinstance (by decide +kernel) (pa_cons (pv 10) (pa_cons (pe_bltn (v := .ty "list") (by rfl) T.f_list (by decide +kernel) rfl) pa_nil))))) (pw_or1 (pt_cmpR op_ne (pe_call G_written (hr.mono (by decide)) rfl T.g_written T.d_written.kp (b_written T) .nil pass0 (pa_cons (pe_ix ix_list (pv 10) pe_int (fun _ _ => rfl)) pa_nil)) (pv 7) (nomark _)))))))) (pss_one (ps_ret pe_bl))
          pss_nil)))))
      (pss_one (ps_ret pe_bl))))))))))))))), ?_⟩
    refine ⟨_, rfl, sa, ns, rfl, hs, fun z => ⟨z, rfl, fun H1 st S1 nst h1 => ?_⟩⟩
    refine ⟨_, rfl, st, 2, rfl, h1, by decide, by decide, fun H2 r B2 h2 r0 r1 => ?_⟩
    -- deep
    refine ⟨_, rfl, st, 80, rfl, h2, by decide, by decide, fun H3 r3 B3 h3 p3 q3 => ⟨_, _, rfl, rfl, _, rfl, st, 5, rfl, h3, by decide, by decide, fun H4 r4 B4 h4 p4 q4 => ⟨_, _, rfl, rfl, (by show 2 ≤ sizeLine; decide), fun l4 hl4 => ?_⟩⟩⟩
    obtain ⟨d, hvd, ad, bd⟩ : ∃ z : Nat, atI ([V.int (1 + r3), V.int (1 + r4)]) r = some (V.int (z : Int)) ∧ 1 ≤ z ∧ z ≤ 200 := by
      rcases (show r = 0 ∨ r = 1 by omega) with rfl | rfl
      · exact ⟨(1 + r3).toNat, by rw [Int.toNat_of_nonneg (by omega)]; rfl, by omega, by omega⟩
      · exact ⟨(1 + r4).toNat, by rw [Int.toNat_of_nonneg (by omega)]; rfl, by omega, by omega⟩
    have h5 : StP (upd H4 l4 (.lst [V.int (1 + r3), V.int (1 + r4)])) st := by
      obtain ⟨x, k0, k1, e⟩ := h4
      exact ⟨x, k0, k1, upk e hl4⟩
    refine ⟨_, rfl, l4, _, r, _, rfl, rfl, SqL.of upd_same, hvd, ?_⟩
    show tSeq _ _ _ _ (upd H4 l4 (.lst [V.int (1 + r3), V.int (1 + r4)]))
    generalize upd H4 l4 (.lst [V.int (1 + r3), V.int (1 + r4)]) = H5 at *
    -- many
    refine ⟨_, rfl, st, 200, rfl, h5, by decide, by decide, fun H6 r6 B6 h6 p6 q6 => ⟨_, _, rfl, rfl, _, rfl, st, 4, rfl, h6, by decide, by decide, fun H7 r7 B7 h7 p7 q7 => ⟨_, _, rfl, rfl, (by show 2 ≤ sizeLine; decide), fun l7 hl7 => ?_⟩⟩⟩
    obtain ⟨m, hvm, am, bm⟩ : ∃ z : Nat, atI ([V.int (1 + r6), V.int (1 + r7)]) r = some (V.int (z : Int)) ∧ 1 ≤ z ∧ z ≤ 200 := by
      rcases (show r = 0 ∨ r = 1 by omega) with rfl | rfl
      · exact ⟨(1 + r6).toNat, by rw [Int.toNat_of_nonneg (by omega)]; rfl, by omega, by omega⟩
      · exact ⟨(1 + r7).toNat, by rw [Int.toNat_of_nonneg (by omega)]; rfl, by omega, by omega⟩
    have h8 : StP (upd H7 l7 (.lst [V.int (1 + r6), V.int (1 + r7)])) st := by
      obtain ⟨x, k0, k1, e⟩ := h7
      exact ⟨x, k0, k1, upk e hl7⟩
    refine ⟨_, rfl, l7, _, r, _, rfl, rfl, SqL.of upd_same, hvm, ?_⟩
    show tSeq _ _ _ _ (upd H7 l7 (.lst [V.int (1 + r6), V.int (1 + r7)]))
    generalize upd H7 l7 (.lst [V.int (1 + r6), V.int (1 + r7)]) = H8 at *
    clear hvd hvm p3 q3 p4 q4 p6 q6 p7 q7 B2 B3 B4 B6 B7 h1 h2 h3 h4 h5 h6 h7
    -- the deep ones
    refine ⟨_, rfl, st, 6, rfl, h8, by decide, by decide, fun H9 r9 B9 h9 p9 q9 => ⟨rfl, _, rfl, ite2 (fun c => ?a) (fun c => ?b)⟩⟩
    case' a =>
      refine ⟨_, rfl, _, rfl, _, _, rfl, rfl, (by show 2 ≤ sizeLine; decide), fun t1 ht1 => ⟨_, rfl, _, _, rfl, rfl, _, rfl, (by show 2 ≤ sizeLine; decide), fun t2 ht2 => ⟨(by show 2 ≤ sizeLine; decide), fun l9 hl9 => ?_⟩⟩⟩
      have S9 := same_trans_new (o := .lst [.ref t1, .ref t2]) (same_trans_new (o := .tup [.int ((d : Int) + 1500), .int (m : Int)]) (same_new (o := .tup [.int (d : Int), .int ((m : Int) + 1500)]) ht1) ht2) hl9
      have g1 : upd (upd (upd H9 t1 (.tup [.int (d : Int), .int ((m : Int) + 1500)])) t2 (.tup [.int ((d : Int) + 1500), .int (m : Int)])) l9 (.lst [.ref t1, .ref t2]) t1 = some (.tup [.int (d : Int), .int ((m : Int) + 1500)]) := upk (upk upd_same ht2) hl9
      have g2 : upd (upd (upd H9 t1 (.tup [.int (d : Int), .int ((m : Int) + 1500)])) t2 (.tup [.int ((d : Int) + 1500), .int (m : Int)])) l9 (.lst [.ref t1, .ref t2]) t2 = some (.tup [.int ((d : Int) + 1500), .int (m : Int)]) := upk upd_same hl9
      have g3 : upd (upd (upd H9 t1 (.tup [.int (d : Int), .int ((m : Int) + 1500)])) t2 (.tup [.int ((d : Int) + 1500), .int (m : Int)])) l9 (.lst [.ref t1, .ref t2]) l9 = some (.lst [.ref t1, .ref t2]) := upd_same
      have h10 : StP (upd (upd (upd H9 t1 (.tup [.int (d : Int), .int ((m : Int) + 1500)])) t2 (.tup [.int ((d : Int) + 1500), .int (m : Int)])) l9 (.lst [.ref t1, .ref t2])) st := by
        obtain ⟨x, k0, k1, e⟩ := h9
        exact ⟨x, k0, k1, S9 _ _ e⟩
      generalize upd (upd (upd H9 t1 (.tup [.int (d : Int), .int ((m : Int) + 1500)])) t2 (.tup [.int ((d : Int) + 1500), .int (m : Int)])) l9 (.lst [.ref t1, .ref t2]) = H10 at *
      have nl9 : l9 ≠ st := by
        obtain ⟨x, k0, k1, e⟩ := h9
        exact (ne_of_none (upk (upk e ht1) ht2) hl9).symm
      have nt : ∀ t xs, H10 t = some (.tup xs) → t ≠ st := fun t xs e => by
        obtain ⟨x, k0, k1, e2⟩ := h10
        exact ne_of e e2 (by intro z; cases z)
      clear h9
      refine ⟨_, rfl, st, 2, rfl, h10, by decide, by decide, fun H9 r2 B9 h9 p2 q2 => ?_⟩
      have hdm : ∃ (t : Addr) (d2 m2 : Nat), atI ([V.ref t1, .ref t2]) r2 = some (V.ref t) ∧ H9 t = some (.tup [.int (d2 : Int), .int (m2 : Int)]) ∧ 1 ≤ d2 ∧ d2 ≤ 1701 ∧ 1 ≤ m2 ∧ m2 ≤ 2000 := by
        rcases (show r2 = 0 ∨ r2 = 1 by omega) with rfl | rfl
        · refine ⟨t1, d, m + 1500, rfl, ?_, ad, by omega, by omega, by omega⟩
          rw [show ((m + 1500 : Nat) : Int) = (m : Int) + 1500 by omega]
          exact B9 _ _ (nt _ _ g1) g1
        · refine ⟨t2, d + 1500, m, rfl, ?_, by omega, by omega, am, by omega⟩
          rw [show ((d + 1500 : Nat) : Int) = (d : Int) + 1500 by omega]
          exact B9 _ _ (nt _ _ g2) g2
      obtain ⟨t, dd, mm, hix, ht, ad, bd, am, bm⟩ := hdm
      refine ⟨l9, _, r2, _, rfl, rfl, SqL.of (B9 _ _ nl9 g3), hix, t, _, rfl, SqT.of ht, rfl, _, _, rfl, _, _, rfl, rfl, ?_⟩
      clear hix ht g1 g2 g3 nt nl9 S9
    case' b =>
      obtain ⟨dd, rfl⟩ : ∃ x, x = d := ⟨d, rfl⟩
      obtain ⟨mm, rfl⟩ : ∃ x, x = m := ⟨m, rfl⟩
      have bd : dd ≤ 1701 := by omega
      have bm : mm ≤ 2000 := by omega
    all_goals
      obtain ⟨n, rfl⟩ : ∃ n, dd = n + 1 := ⟨dd - 1, by omega⟩
      refine ⟨_, rfl, _, rfl, _, rfl, _, rfl, st, 3, rfl, h9, by decide, by decide, fun H11 r11 B11 h11 p11 q11 => ?_⟩
      obtain ⟨k, rfl⟩ := Int.eq_ofNat_of_zero_le p11
      refine ⟨mm, k, rfl, am, bm, by omega, ?_⟩
      have hvl := (pl.size [] mm k (fun c h => nomatch h) (Nat.zero_le _) am bm (by omega)).1
      refine ⟨st, n, valT mm k, rfl, h11, by omega, hvl, fun H12 l ks B12 h12 hkl hks nl hl => ?_⟩
      obtain ⟨_, hsz0, hszW⟩ := pl.size ks mm k hks (by omega) am bm (by omega)
      have hok := pl.ok ks mm k hks (by omega) am bm (by omega)
      have hbad := pl.bad ks mm k hks (by omega) am bm (by omega)
      rw [hkl] at hok
      have hne : bodyL ks (valT mm k) ≠ [] := by
        unfold bodyL
        simp
      have nls : l ≠ st := by
        obtain ⟨x, k0, k1, e⟩ := h11
        exact (ne_of_none e nl).symm
      refine ⟨_, rfl, st, 3, rfl, h12, by decide, by decide, fun HH r13 B13 h13 p13 q13 => ⟨rfl, ?_⟩⟩
      have hLL := B13 _ _ nls hl
      generalize decide (V.int r13 = V.int 0) = wr
      generalize bodyL ks (valT mm k) = LL at *
      clear hl B12 B13 h12 h11 B11
      refine ⟨_, rfl, wr, rfl, ?_⟩
      cases wr with
      | false =>
        refine iteF ?_
        have hsz := hsz0
        refine ⟨⟨_, rfl⟩, (by show 2 ≤ sizeLine; decide), fun m1 hm1 => ?_⟩
        refine ⟨_, rfl, m1, l, _, _, rfl, rfl, upd_same, upk hLL hm1, ?_, fun m2 hm2 => ?_⟩
        · rw [List.length_map]
          exact Nat.le_trans (show _ ≤ 10002 by show 2 + _ ≤ 10002; have := hsz.1; omega) (show 10002 ≤ sizeLine by decide)
        have hLL2 := upk (o := .lst ([V.str "box x 7", .str "list l 1 2"] ++ strV LL)) (upk (o := .lst [V.str "box x 7", .str "list l 1 2"]) hLL hm1) hm2
        refine ⟨"\n", m2, [("box x 7" : Str), "list l 1 2"] ++ LL, rfl, rfl, .inl (SqL.of upd_same), ?_, ?_⟩
        · exact Nat.le_trans (txt_sum hsz) (by decide)
        refine ⟨_, _, rfl, rfl, Nat.le_trans (txt_len hsz) (by decide), ?_⟩
        show tSeq _ _ _ _ (upd (upd HH m1 (.lst [V.str "box x 7", .str "list l 1 2"])) m2 (.lst ([V.str "box x 7", .str "list l 1 2"] ++ strV LL)))
        generalize upd (upd HH m1 (.lst [V.str "box x 7", .str "list l 1 2"])) m2 (.lst ([V.str "box x 7", .str "list l 1 2"] ++ strV LL)) = HT at *
        refine ⟨_, rfl, false, rfl, itT rfl ?_⟩
        refine ⟨(by show 2 ≤ sizeLine; decide), fun m3 hm3 => ?_⟩
        have hL3 := upk (o := .lst [V.str "", .str "row"]) hLL2 hm3
        refine ⟨_, rfl, _, _, rfl, rfl, _, rfl, ite2 (fun c1 => ?_) (fun c1 => ?_)⟩
        · -- too deep
          have c1' : (5 : Int) < ((n + 1 : Nat) : Int) := of_decide_eq_true c1
          refine .inr ⟨true, rfl, m3, _, 1, .str "row", rfl, rfl, SqL.of upd_same, atI_nat (j := 1) rfl, ?_⟩
          refine ⟨_, rfl, (by show 0 ≤ sizeLine; decide), fun e0 he0 => ⟨strD LL, strD [], dp_list (upk hL3 he0), dp_list (ws := []) upd_same, shaped_str hsz.2.2, shaped_str (fun _ h => nomatch h), _, rfl, ?_⟩⟩
          rw [eqv_str]
          refine itF (decide_eq_false hne) ?_
          obtain ⟨rest, RR, hX, hg, hk, _⟩ := hok
          rw [decide_eq_false (show ¬ n + 1 ≤ 5 by omega), Bool.false_and] at hk
          refine ⟨_, rfl, by decide, by decide, for_range (lo := 0) (n := (2 : Int).toNat) (fun i σ H' => ∃ s9 s10, σ = [some (.ref sa), some (.ref st), some (.int r), some (.int ((n + 1 : Nat) : Int)), some (.int (mm : Int)), some (.ref l), some (.bl false), some (.str (txtL LL)), some (.str "row"), s9, s10]) ⟨_, _, rfl⟩ ?_ fun σ H' e => ?_⟩
          · rintro i σ H' _ ⟨s9, s10, rfl⟩
            refine ⟨_, rfl, txtL LL, rest, rfl, hX, ?_⟩
            rw [hg]
            refine .inr ⟨hk, fun H2 => ?_⟩
            refine ⟨_, rfl, rfl, _, rfl, itT (by decide +kernel) ?_⟩
            refine ⟨_, rfl, _, rfl, rfl, _, rfl, itF (by decide +kernel) ?_⟩
            exact ⟨_, rfl, rfl, _, rfl, itF (by decide +kernel) (iteF ⟨_, _, rfl⟩)⟩
          · obtain ⟨s9, s10, rfl⟩ := e
            exact q H'
        · have c1' : ¬ (5 : Int) < ((n + 1 : Nat) : Int) := fun h => c1 (decide_eq_true h)
          refine ⟨_, rfl, _, _, rfl, rfl, ?_⟩
          by_cases c2 : (4 : Int) < (mm : Int)
          · refine .inr ⟨decide ((4 : Int) < (mm : Int)), rfl, m3, _, 1, .str "row", rfl, (by rw [decide_eq_true c2]; rfl), SqL.of upd_same, atI_nat (j := 1) rfl, ?_⟩
            refine ⟨_, rfl, (by show 0 ≤ sizeLine; decide), fun e0 he0 => ⟨strD LL, strD [], dp_list (upk hL3 he0), dp_list (ws := []) upd_same, shaped_str hsz.2.2, shaped_str (fun _ h => nomatch h), _, rfl, ?_⟩⟩
            rw [eqv_str]
            refine itF (decide_eq_false hne) ?_
            obtain ⟨rest, RR, hX, hg, hk, _⟩ := hok
            rw [decide_eq_false (show ¬ mm ≤ 4 by omega), Bool.and_false] at hk
            refine ⟨_, rfl, by decide, by decide, for_range (lo := 0) (n := (2 : Int).toNat) (fun i σ H' => ∃ s9 s10, σ = [some (.ref sa), some (.ref st), some (.int r), some (.int ((n + 1 : Nat) : Int)), some (.int (mm : Int)), some (.ref l), some (.bl false), some (.str (txtL LL)), some (.str "row"), s9, s10]) ⟨_, _, rfl⟩ ?_ fun σ H' e => ?_⟩
            · rintro i σ H' _ ⟨s9, s10, rfl⟩
              refine ⟨_, rfl, txtL LL, rest, rfl, hX, ?_⟩
              rw [hg]
              refine .inr ⟨hk, fun H2 => ?_⟩
              refine ⟨_, rfl, rfl, _, rfl, itT (by decide +kernel) ?_⟩
              refine ⟨_, rfl, _, rfl, rfl, _, rfl, itF (by decide +kernel) ?_⟩
              exact ⟨_, rfl, rfl, _, rfl, itF (by decide +kernel) (iteF ⟨_, _, rfl⟩)⟩
            · obtain ⟨s9, s10, rfl⟩ := e
              exact q H'
          · refine .inr ⟨decide ((4 : Int) < (mm : Int)), rfl, m3, _, 0, .str "", rfl, (by rw [decide_eq_false c2]; rfl), SqL.of upd_same, atI_nat (j := 0) rfl, ?_⟩
            refine ⟨_, rfl, (by show 0 ≤ sizeLine; decide), fun e0 he0 => ⟨strD LL, strD [], dp_list (upk hL3 he0), dp_list (ws := []) upd_same, shaped_str hsz.2.2, shaped_str (fun _ h => nomatch h), _, rfl, ?_⟩⟩
            rw [eqv_str]
            refine itF (decide_eq_false hne) ?_
            obtain ⟨rest, RR, hX, hg, hk, hw⟩ := hok
            rw [decide_eq_true (show n + 1 ≤ 5 by omega), decide_eq_true (show mm ≤ 4 by omega)] at hk hw
            have hw := hw rfl
            refine ⟨_, rfl, by decide, by decide, for_range (lo := 0) (n := (2 : Int).toNat) (fun i σ H' => ∃ s9 s10, σ = [some (.ref sa), some (.ref st), some (.int r), some (.int ((n + 1 : Nat) : Int)), some (.int (mm : Int)), some (.ref l), some (.bl false), some (.str (txtL LL)), some (.str ""), s9, s10]) ⟨_, _, rfl⟩ ?_ fun σ H' e => ?_⟩
            · rintro i σ H' _ ⟨s9, s10, rfl⟩
              refine ⟨_, rfl, txtL LL, rest, rfl, hX, ?_⟩
              rw [hg]
              refine .inl ⟨hk, fun H2 lr p hlr hp => ?_⟩
              refine ⟨_, rfl, rfl, _, rfl, itF (by decide +kernel) (iteF ?_)⟩
              refine ⟨_, rfl, rfl, _, rfl, itT (by decide +kernel) ?_⟩
              refine ⟨_, rfl, .ref lr, .ty "list", _, _, true, rfl, .ty "list", .base (.lst hlr), kit_ty rfl, true, rfl, itF rfl ?_⟩
              refine ⟨_, rfl, lr, _, 0, .ref p, rfl, rfl, SqL.of hlr, atI_nat (j := 0) rfl, p, RR, rfl, hp, hk, fun H3 => ⟨_, rfl, rfl, _, rfl, itF ?_ ⟨_, _, rfl⟩⟩⟩
              rw [hw, decide_eq_true rfl]
              rfl
            · obtain ⟨s9, s10, rfl⟩ := e
              exact q H'
      | true =>
        refine iteT ?_
        have each : ∀ x ∈ LL, x.length ≤ 300000 := fun x hx => Nat.le_trans (mem_sum hx) hsz0.2.1
        refine ⟨_, rfl, _, rfl, l, st, LL, rfl, hLL, h13, hne, hsz0.1, each, fun HH l2 L2 hW hLL => ?_⟩
        have hsz := hszW _ hW
        have hbd := hbad _ hW
        clear hok hbad hszW hsz0 hne each hW
        obtain ⟨LL, rfl⟩ : ∃ x, x = L2 := ⟨L2, rfl⟩
        refine ⟨⟨_, rfl⟩, (by show 2 ≤ sizeLine; decide), fun m1 hm1 => ?_⟩
        refine ⟨_, rfl, m1, l2, _, _, rfl, rfl, upd_same, upk hLL hm1, ?_, fun m2 hm2 => ?_⟩
        · rw [List.length_map]
          exact Nat.le_trans (show _ ≤ 10002 by show 2 + _ ≤ 10002; have := hsz.1; omega) (show 10002 ≤ sizeLine by decide)
        have hLL2 := upk (o := .lst ([V.str "box x 7", .str "list l 1 2"] ++ strV LL)) (upk (o := .lst [V.str "box x 7", .str "list l 1 2"]) hLL hm1) hm2
        refine ⟨"\n", m2, [("box x 7" : Str), "list l 1 2"] ++ LL, rfl, rfl, .inl (SqL.of upd_same), ?_, ?_⟩
        · exact Nat.le_trans (txt_sum hsz) (by decide)
        refine ⟨_, _, rfl, rfl, Nat.le_trans (txt_len hsz) (by decide), ?_⟩
        show tSeq _ _ _ _ (upd (upd HH m1 (.lst [V.str "box x 7", .str "list l 1 2"])) m2 (.lst ([V.str "box x 7", .str "list l 1 2"] ++ strV LL)))
        generalize upd (upd HH m1 (.lst [V.str "box x 7", .str "list l 1 2"])) m2 (.lst ([V.str "box x 7", .str "list l 1 2"] ++ strV LL)) = HT at *
        refine ⟨_, rfl, true, rfl, itF rfl ?_⟩
        refine ⟨_, rfl, (by show 0 ≤ sizeLine; decide), fun e0 he0 => ⟨strD LL, strD [], dp_list (upk hLL2 he0), dp_list (ws := []) upd_same, shaped_str hsz.2.2, shaped_str (fun _ h => nomatch h), _, rfl, ?_⟩⟩
        rw [eqv_str]
        rcases hbd with ⟨e, rest, RR, hX, hg, hk, hw⟩ | ⟨hne, rest, hX, hg⟩
        · refine itT (decide_eq_true e) ?_
          have hw := hw rfl
          refine ⟨_, rfl, by decide, by decide, for_range (lo := 0) (n := (2 : Int).toNat) (fun i σ H' => ∃ s9 s10, σ = [some (.ref sa), some (.ref st), some (.int r), some (.int ((n + 1 : Nat) : Int)), some (.int (mm : Int)), some (.ref l2), some (.bl true), some (.str (txtL LL)), some (.str ""), s9, s10]) ⟨_, _, rfl⟩ ?_ fun σ H' e => ?_⟩
          · rintro i σ H' _ ⟨s9, s10, rfl⟩
            refine ⟨_, rfl, txtL LL, rest, rfl, hX, ?_⟩
            rw [hg]
            refine .inl ⟨hk, fun H2 lr p hlr hp => ?_⟩
            refine ⟨_, rfl, rfl, _, rfl, itF (by decide +kernel) (iteF ?_)⟩
            refine ⟨_, rfl, rfl, _, rfl, itT (by decide +kernel) ?_⟩
            refine ⟨_, rfl, .ref lr, .ty "list", _, _, true, rfl, .ty "list", .base (.lst hlr), kit_ty rfl, true, rfl, itF rfl ?_⟩
            refine ⟨_, rfl, lr, _, 0, .ref p, rfl, rfl, SqL.of hlr, atI_nat (j := 0) rfl, p, RR, rfl, hp, hk, fun H3 => ⟨_, rfl, rfl, _, rfl, itF ?_ ⟨_, _, rfl⟩⟩⟩
            rw [hw, decide_eq_true rfl]
            rfl
          · obtain ⟨s9, s10, rfl⟩ := e
            exact q H'
        · refine itF (decide_eq_false hne) ?_
          refine ⟨_, rfl, by decide, by decide, for_range (lo := 0) (n := (2 : Int).toNat) (fun i σ H' => ∃ s9 s10, σ = [some (.ref sa), some (.ref st), some (.int r), some (.int ((n + 1 : Nat) : Int)), some (.int (mm : Int)), some (.ref l2), some (.bl true), some (.str (txtL LL)), some (.str "text"), s9, s10]) ⟨_, _, rfl⟩ ?_ fun σ H' e => ?_⟩
          · rintro i σ H' _ ⟨s9, s10, rfl⟩
            refine ⟨_, rfl, txtL LL, rest, rfl, hX, ?_⟩
            rw [hg]
            refine fun H2 => ?_
            refine ⟨_, rfl, rfl, _, rfl, itT (by decide +kernel) ?_⟩
            refine ⟨_, rfl, _, rfl, rfl, _, rfl, itF (by decide +kernel) ?_⟩
            exact ⟨_, rfl, rfl, _, rfl, itF (by decide +kernel) (iteF ⟨_, _, rfl⟩)⟩
          · obtain ⟨s9, s10, rfl⟩ := e
            exact q H'

end
end Rt
end S_RtLaw6

section S_RtPl1
set_option Elab.async false
set_option linter.all false
set_option maxRecDepth 100000
set_option maxHeartbeats 2000000
/-! the reading of the law's lines, in plain: rows by their kinds -/
namespace Rt
open PySem PySem.Spec PyProof.Rows L2 TL
def headN : Nat → List Ln
  | 0 => [.ifL]
  | 1 => [.whL]
  | 2 => [.tryL]
  | _ => [.tryL, .caL]
def tailN : Nat → List Ln
  | 0 => [.endL]
  | 1 => [.endL]
  | 2 => [.caL, .endL]
  | _ => [.endL]
def seqN : List Nat → List Ln → List Ln
  | [], X => X
  | c :: r, X => seqN r (headN c ++ X ++ tailN c)
def wrapR : Nat → Rs → Rs
  | 0, R => .ifR R
  | 1, R => .whR R
  | 2, R => .tryR R .none
  | _, R => .tryR .none R
def totR : List Nat → Rs → Rs
  | [], R => R
  | c :: r, R => totR r (wrapR c R)
/-- X, read upon an empty block, puts R into it -/
def Pushes (X : List Ln) (R : Rs) : Prop := ∀ (f : Fr) (S : List Fr) (rest : List Ln), f.rows = .none → go (X ++ rest) (f :: S) = go rest (f.put R :: S)
/-- X is refused -/
def Bads (X : List Ln) : Prop := ∀ (f : Fr) (S : List Fr) (rest : List Ln), f.rows = .none → go (X ++ rest) (f :: S) = .bad
theorem push_at0 {f : Fr} {S : List Fr} {R : Rs} (h : f.rows = .none) : push R (f :: S) = .ok (f.put R :: S) := by
  show (match f.rows with | .none => Stp.ok (f.put R :: S) | _ => .off) = _
  rw [h]
theorem stp_end {f g : Fr} {S : List Fr} {R : Rs} (h : closes f = some R) (hg : g.rows = .none) : stp .endL (f :: g :: S) = .ok (g.put R :: S) := by
  show (match closes f with | none => Stp.bad | some R => push R (g :: S)) = _
  rw [h]
  exact push_at0 hg
theorem pushes_tell (v : Vl) : Pushes [.tell v] (.tell v) := fun f S rest h => go_cons (push_at0 h)
theorem pushes_wrap (c : Nat) {X : List Ln} {R : Rs} (h : Pushes X R) : Pushes (headN c ++ X ++ tailN c) (wrapR c R) := by
  intro f S rest hf
  match c with
  | 0 =>
    show go (.ifL :: (X ++ [Ln.endL] ++ rest)) (f :: S) = _
    rw [go_cons (ln := .ifL) rfl, List.append_assoc, h (.ifF .none) (f :: S) _ rfl]
    exact go_cons (stp_end rfl hf)
  | 1 =>
    show go (.whL :: (X ++ [Ln.endL] ++ rest)) (f :: S) = _
    rw [go_cons (ln := .whL) rfl, List.append_assoc, h (.whF .none) (f :: S) _ rfl]
    exact go_cons (stp_end rfl hf)
  | 2 =>
    show go (.tryL :: (X ++ [Ln.caL, .endL] ++ rest)) (f :: S) = _
    rw [go_cons (ln := .tryL) rfl, List.append_assoc, h (.tr1 .none) (f :: S) _ rfl]
    show go (.caL :: (.endL :: rest)) (.tr1 R :: f :: S) = _
    rw [go_cons (ln := .caL) rfl]
    exact go_cons (stp_end rfl hf)
  | c + 3 =>
    show go (.tryL :: .caL :: (X ++ [Ln.endL] ++ rest)) (f :: S) = _
    rw [go_cons (ln := .tryL) rfl, go_cons (ln := .caL) rfl, List.append_assoc, h (.tr2 .none .none) (f :: S) _ rfl]
    exact go_cons (stp_end rfl hf)
theorem pushes_seq : ∀ (ks : List Nat) {X : List Ln} {R : Rs}, Pushes X R → Pushes (seqN ks X) (totR ks R)
  | [], _, _, h => h
  | c :: r, _, _, h => pushes_seq r (pushes_wrap c h)
theorem bads_wrap (c : Nat) {X : List Ln} (h : Bads X) : Bads (headN c ++ X ++ tailN c) := by
  intro f S rest hf
  match c with
  | 0 =>
    show go (.ifL :: (X ++ [Ln.endL] ++ rest)) (f :: S) = _
    rw [go_cons (ln := .ifL) rfl, List.append_assoc]
    exact h _ _ _ rfl
  | 1 =>
    show go (.whL :: (X ++ [Ln.endL] ++ rest)) (f :: S) = _
    rw [go_cons (ln := .whL) rfl, List.append_assoc]
    exact h _ _ _ rfl
  | 2 =>
    show go (.tryL :: (X ++ [Ln.caL, .endL] ++ rest)) (f :: S) = _
    rw [go_cons (ln := .tryL) rfl, List.append_assoc]
    exact h _ _ _ rfl
  | c + 3 =>
    show go (.tryL :: .caL :: (X ++ [Ln.endL] ++ rest)) (f :: S) = _
    rw [go_cons (ln := .tryL) rfl, go_cons (ln := .caL) rfl, List.append_assoc]
    exact h _ _ _ rfl
theorem bads_seq : ∀ (ks : List Nat) {X : List Ln}, Bads X → Bads (seqN ks X)
  | [], _, h => h
  | c :: r, _, h => bads_seq r (bads_wrap c h)
theorem bads_bad {ws : List Str} {h : BadT ws} : Bads [.bad ws h] := fun f S rest _ => go_bad rfl
theorem go_seq (ks : List Nat) (v : Vl) : go (seqN ks [.tell v]) [.base .none] = .ok (totR ks (.tell v)) := by
  have h := pushes_seq ks (pushes_tell v) (.base .none) [] [] rfl
  rw [List.append_nil] at h
  exact h
theorem go_bads {X : List Ln} (h : Bads X) : go X [.base .none] = .bad := by
  have z := h (.base .none) [] [] rfl
  rw [List.append_nil] at z
  exact z
/-- a row too many -/
theorem go_more (ks : List Nat) (v : Vl) : go (seqN ks [.tell v] ++ [.endL]) [.base .none] = .bad ∧ go (seqN ks [.tell v] ++ [.caL]) [.base .none] = .bad :=
  ⟨(pushes_seq ks (pushes_tell v) (.base .none) [] [.endL] rfl).trans rfl, (pushes_seq ks (pushes_tell v) (.base .none) [] [.caL] rfl).trans rfl⟩
/-- the last end too few -/
theorem go_less : ∀ (X : List Ln) (S : List Fr) (R : Rs), go (X ++ [.endL]) S = .ok R → go X S = .bad
  | [], S, R, h => by
    have h' : go [.endL] S = .ok R := h
    cases S with
    | nil => rw [go_off rfl] at h'; cases h'
    | cons f S =>
      cases S with
      | cons g S => cases f <;> rfl
      | nil =>
        cases hc : closes f with
        | none =>
          rw [go_bad (show stp .endL [f] = .bad by show (match closes f with | none => Stp.bad | some R => push R []) = _; rw [hc])] at h'
          cases h'
        | some R2 =>
          rw [go_off (show stp .endL [f] = .off by show (match closes f with | none => Stp.bad | some R => push R []) = _; rw [hc]; rfl)] at h'
          cases h'
  | ln :: X, S, R, h => by
    have h' : go (ln :: (X ++ [.endL])) S = .ok R := h
    cases hs : stp ln S with
    | off => rw [go_off hs] at h'; cases h'
    | bad => rw [go_bad hs] at h'; cases h'
    | ok S2 =>
      rw [go_cons hs] at h' ⊢
      exact go_less X S2 R h'
theorem seq_last : ∀ (ks : List Nat) (X : List Ln), ks ≠ [] → ∃ Y, seqN ks X = Y ++ [.endL]
  | [], _, h => absurd rfl h
  | [c], X, _ => by
    show ∃ Y, headN c ++ X ++ tailN c = Y ++ [.endL]
    match c with
    | 0 => exact ⟨_, rfl⟩
    | 1 => exact ⟨_, rfl⟩
    | 2 => exact ⟨headN 2 ++ X ++ [.caL], by simp [tailN]⟩
    | c + 3 => exact ⟨_, rfl⟩
  | c :: d :: r, X, _ => seq_last (d :: r) _ (by intro z; cases z)
/-- a try whose catch is dropped -/
theorem bads_try {k1 : List Nat} {v : Vl} : Bads (.tryL :: (seqN k1 [.tell v] ++ [.endL])) := by
  intro f S rest hf
  show go (.tryL :: (seqN k1 [.tell v] ++ [.endL] ++ rest)) (f :: S) = _
  rw [go_cons (ln := .tryL) rfl, List.append_assoc, pushes_seq k1 (pushes_tell v) (.tr1 .none) (f :: S) _ rfl]
  exact go_bad rfl
theorem seqN_app : ∀ (a b : List Nat) (X : List Ln), seqN (a ++ b) X = seqN b (seqN a X)
  | [], _, _ => rfl
  | c :: r, b, X => seqN_app r b _
theorem erase_app {α : Type} {A B : List α} {j : Nat} {x : α} (h : (A ++ B)[j]? = some x) : (A[j]? = some x ∧ (A ++ B).eraseIdx j = A.eraseIdx j ++ B) ∨ (∃ i, j = A.length + i ∧ B[i]? = some x ∧ (A ++ B).eraseIdx j = A ++ B.eraseIdx i) := by
  by_cases hj : j < A.length
  · rw [List.getElem?_append_left hj] at h
    exact .inl ⟨h, List.eraseIdx_append_of_lt_length hj B⟩
  · have hj' : A.length ≤ j := by omega
    rw [List.getElem?_append_right hj'] at h
    exact .inr ⟨j - A.length, by omega, h, List.eraseIdx_append_of_length_le hj' B⟩
theorem drop_catch : ∀ (ks : List Nat) (X : List Ln) (i : Nat), (seqN ks X)[i]? = some Ln.caL → (∃ j, X[j]? = some Ln.caL ∧ (seqN ks X).eraseIdx i = seqN ks (X.eraseIdx j)) ∨ ∃ k1 k2, (seqN ks X).eraseIdx i = seqN k2 (Ln.tryL :: (seqN k1 X ++ [Ln.endL]))
  | [], X, i, h => .inl ⟨i, h, rfl⟩
  | c :: r, X, i, h => by
    rcases drop_catch r (headN c ++ X ++ tailN c) i h with ⟨j, hj, e⟩ | ⟨k1, k2, e⟩
    · have e' : (seqN (c :: r) X).eraseIdx i = seqN r ((headN c ++ X ++ tailN c).eraseIdx j) := e
      rcases erase_app hj with ⟨h1, e1⟩ | ⟨a, _, h1, e1⟩
      · rcases erase_app h1 with ⟨h2, e2⟩ | ⟨b, _, h2, e2⟩
        · refine .inr ⟨[], r, ?_⟩
          rw [e', e1, e2]
          match c, h2 with
          | 0, h2 =>
            cases j with
            | zero => cases h2
            | succ j => cases h2
          | 1, h2 =>
            cases j with
            | zero => cases h2
            | succ j => cases h2
          | 2, h2 =>
            cases j with
            | zero => cases h2
            | succ j => cases h2
          | c + 3, h2 =>
            match j, h2 with
            | 0, h2 => cases h2
            | 1, _ => rfl
            | j + 2, h2 => cases h2
        · refine .inl ⟨b, h2, ?_⟩
          rw [e', e1, e2]
          rfl
      · refine .inr ⟨[], r, ?_⟩
        rw [e', e1]
        match c, h1 with
        | 0, h1 =>
          cases a with
          | zero => cases h1
          | succ a => cases h1
        | 1, h1 =>
          cases a with
          | zero => cases h1
          | succ a => cases h1
        | 2, h1 =>
          match a, h1 with
          | 0, _ => exact congrArg (seqN r) (by show [Ln.tryL] ++ X ++ [Ln.endL] = _; simp [seqN])
          | 1, h1 => cases h1
          | a + 2, h1 => cases h1
        | c + 3, h1 =>
          cases a with
          | zero => cases h1
          | succ a => cases h1
    · exact .inr ⟨c :: k1, k2, e⟩
/-- with a catch dropped the rows are refused -/
theorem go_drop {ks : List Nat} {v : Vl} {i : Nat} (h : (seqN ks [.tell v])[i]? = some Ln.caL) : go ((seqN ks [.tell v]).eraseIdx i) [.base .none] = .bad := by
  rcases drop_catch ks _ i h with ⟨j, hj, _⟩ | ⟨k1, k2, e⟩
  · cases j with
    | zero => cases hj
    | succ j => cases hj
  · rw [e]
    exact go_bads (bads_seq k2 bads_try)
/-! ### how deep, and the text -/
theorem rok_tot : ∀ (ks : List Nat) (R : Rs), rok (totR ks R) 1 = (decide (ks.length ≤ 5) && rok R (ks.length + 1))
  | [], R => by
    show rok R 1 = (decide (0 ≤ 5) && rok R 1)
    rw [decide_eq_true (Nat.zero_le _), Bool.true_and]
  | c :: r, R => by
    show rok (totR r (wrapR c R)) 1 = _
    rw [rok_tot r]
    have e : rok (wrapR c R) (r.length + 1) = (decide (r.length + 1 ≤ 5) && rok R (r.length + 1 + 1)) := by
      match c with
      | 0 => rfl
      | 1 => rfl
      | 2 =>
        show (_ && (rok R _ && rok .none _)) = _
        rw [show rok Rs.none (r.length + 1 + 1) = true from rfl, Bool.and_true]
      | c + 3 => rfl
    rw [e, List.length_cons, ← Bool.and_assoc]
    congr 1
    by_cases h : r.length + 1 ≤ 5
    · rw [decide_eq_true h, decide_eq_true (show r.length ≤ 5 by omega)]
      rfl
    · rw [decide_eq_false h, Bool.and_false]
theorem rok_tell (ks : List Nat) (v : Vl) : rok (totR ks (.tell v)) 1 = (decide (ks.length + 1 ≤ 5) && decide (v.deep ≤ 4)) := by
  rw [rok_tot]
  show (_ && (decide (ks.length + 1 ≤ 5) && decide (v.deep ≤ 4))) = _
  by_cases h : ks.length + 1 ≤ 5
  · rw [decide_eq_true h, decide_eq_true (show ks.length ≤ 5 by omega)]
    rfl
  · rw [decide_eq_false h, Bool.false_and, Bool.and_false]
end Rt
end S_RtPl1

section S_RtPl2
set_option Elab.async false
set_option linter.all false
set_option maxRecDepth 100000
set_option maxHeartbeats 2000000
/-! the texts of the law's values and lines -/
namespace Rt
open PySem PySem.Spec PyProof.Rows L2 TL
theorem app_assoc (x y z : Str) : x ++ y ++ z = x ++ (y ++ z) := ext_tl (by rw [tl_append, tl_append, tl_append, tl_append, List.append_assoc])
theorem tl_repS (z : Str) (k : Nat) : tl (repS z k) = (List.replicate k (tl z)).flatten := repS_list z k
theorem repS_succ (z : Str) (k : Nat) : repS z (k + 1) = z ++ repS z k := ext_tl (by rw [tl_append, tl_repS, tl_repS, List.replicate_succ, List.flatten_cons])
theorem repS_snoc (z : Str) (k : Nat) : repS z (k + 1) = repS z k ++ z := ext_tl (by rw [tl_append, tl_repS, tl_repS, List.replicate_succ', List.flatten_append, List.flatten_cons, List.flatten_nil, List.append_nil])
theorem repS_zero (z : Str) : repS z 0 = "" := ext_tl (by
  rw [tl_repS, List.replicate_zero]
  decide +kernel)
theorem nil_app (x : Str) : ("" : Str) ++ x = x := ext_tl (by rw [tl_append, show tl ("" : Str) = [] by decide +kernel, List.nil_append])
theorem app_nil (x : Str) : x ++ ("" : Str) = x := ext_tl (by rw [tl_append, show tl ("" : Str) = [] by decide +kernel, List.append_nil])
theorem tl_jn (y : Str) (ws : List Str) : tl (Txt.join y ws) = joinL (tl y) (ws.map tl) := by rw [join_eq, tl_join]
theorem joinL_cons (S p : List Nat) : ∀ {q : List (List Nat)}, q ≠ [] → joinL S (p :: q) = p ++ (S ++ joinL S q)
  | [], h => absurd rfl h
  | a :: r, _ => rfl
theorem joinL_app (S : List Nat) : ∀ (a : List (List Nat)) {b : List (List Nat)}, a ≠ [] → b ≠ [] → joinL S (a ++ b) = joinL S a ++ (S ++ joinL S b)
  | [], _, h, _ => absurd rfl h
  | [p], b, _, h => joinL_cons S p h
  | p :: q :: r, b, _, h => by
    rw [List.cons_append, joinL_cons S p (by simp), joinL_app S (q :: r) (by simp) h, joinL_cons S p (q := q :: r) (by simp)]
    simp only [List.append_assoc]
theorem jn_cons (y w : Str) {ws : List Str} (h : ws ≠ []) : Txt.join y (w :: ws) = w ++ y ++ Txt.join y ws := ext_tl (by
  rw [tl_jn, List.map_cons, joinL_cons _ _ (by simpa using h), tl_append, tl_append, tl_jn, List.append_assoc])
theorem jn_app (y : Str) {a b : List Str} (ha : a ≠ []) (hb : b ≠ []) : Txt.join y (a ++ b) = Txt.join y a ++ y ++ Txt.join y b := ext_tl (by
  rw [tl_jn, List.map_append, joinL_app _ _ (by simpa using ha) (by simpa using hb), tl_append, tl_append, tl_jn, tl_jn, List.append_assoc])
theorem jn_one (y w : Str) : Txt.join y [w] = w := ext_tl (by rw [tl_jn]; rfl)
theorem vW_ne (v : Vl) : vW v ≠ [] := by cases v <;> simp [vW]
/-! ### values-/
def nv : Nat → Nat → Vl
  | 0, k => if k = 2 then .size else .num
  | j + 1, k => if k = 0 then .nt (nv j k) else if k = 1 then .pl (nv j k) .box else .it (nv j k)
theorem nv_deep : ∀ j k, (nv j k).deep = j + 1
  | 0, k => by
    unfold nv
    split <;> rfl
  | j + 1, k => by
    have ih := nv_deep j k
    unfold nv
    split
    · show (nv j k).deep + 1 = _
      rw [ih]
    split
    · show max (nv j k).deep 1 + 1 = _
      rw [ih]
      omega
    · show (nv j k).deep + 1 = _
      rw [ih]
theorem w_not : ("not" : Str) ++ " " = "not " := by decide +kernel
theorem w_plus : ("plus" : Str) ++ " " = "plus " := by decide +kernel
theorem w_item : ("item" : Str) ++ " " ++ ("l" ++ " ") = "item l " := by decide +kernel
theorem w_boxx : (" " : Str) ++ Txt.join " " ["box", "x"] = " box x" := by decide +kernel
theorem vT_nv : ∀ j k, k ≤ 2 → vT (nv j k) = valT (j + 1) k
  | 0, k, hk => by
    match k, hk with
    | 0, _ => decide +kernel
    | 1, _ => decide +kernel
    | 2, _ => decide +kernel
    | k + 3, h => exact absurd h (by omega)
  | j + 1, k, hk => by
    have ih := vT_nv j k hk
    match k, hk with
    | 0, _ =>
      show Txt.join " " ("not" :: vW (nv j 0)) = repS "not " (j + 1) ++ "number 1"
      rw [jn_cons _ _ (vW_ne _), w_not, repS_succ, app_assoc]
      congr 1
    | 1, _ =>
      show Txt.join " " ("plus" :: (vW (nv j 1) ++ [("box" : Str), "x"])) = repS "plus " (j + 1) ++ "number 1" ++ repS " box x" (j + 1)
      have ih' : Txt.join " " (vW (nv j 1)) = repS "plus " j ++ "number 1" ++ repS " box x" j := ih
      rw [jn_cons _ _ (by simp), w_plus, jn_app _ (vW_ne _) (by simp), app_assoc (Txt.join " " (vW (nv j 1))), w_boxx, ih', repS_succ, repS_snoc " box x"]
      simp only [app_assoc]
    | 2, _ =>
      show Txt.join " " ("item" :: "l" :: vW (nv j 2)) = repS "item l " (j + 1) ++ "size l"
      have ih' : Txt.join " " (vW (nv j 2)) = repS "item l " j ++ "size l" := ih
      rw [jn_cons _ _ (by simp), jn_cons _ _ (vW_ne _), ih', repS_succ]
      generalize repS "item l " j = z
      rw [← w_item]
      simp only [app_assoc]
    | k + 3, h => exact absurd h (by omega)
/-! ### lines-/
theorem ahd_zero : ahd 0 = "" := by decide +kernel
theorem ahd_succ {k : Nat} (h : k + 1 ≤ 6) : ahd (k + 1) = ahd k ++ "  " := by
  unfold ahd
  rw [Nat.min_eq_left h, Nat.min_eq_left (by omega), repS_snoc]
theorem t_if : ("if" : Str) ++ " " ++ vT .box = "if box x" := by decide +kernel
theorem t_while : ("while" : Str) ++ " " ++ vT .box = "while box x" := by decide +kernel
theorem t_catch : ("catch " : Str) ++ "x" = "catch x" := by decide +kernel
theorem linesR_wrap (c : Nat) (R : Rs) {k : Nat} (h : k + 1 ≤ 6) : linesR (wrapR c R) (ahd k) = headL k c ++ linesR R (ahd (k + 1)) ++ tailL k c := by
  rw [ahd_succ h]
  match c with
  | 0 =>
    show (ahd k ++ (("if" : Str) ++ " " ++ vT .box)) :: (linesR R (ahd k ++ "  ") ++ [ahd k ++ "end"]) = [ahd k ++ "if box x"] ++ _ ++ [ahd k ++ "end"]
    rw [t_if]
    rfl
  | 1 =>
    show (ahd k ++ (("while" : Str) ++ " " ++ vT .box)) :: (linesR R (ahd k ++ "  ") ++ [ahd k ++ "end"]) = [ahd k ++ "while box x"] ++ _ ++ [ahd k ++ "end"]
    rw [t_while]
    rfl
  | 2 =>
    show (ahd k ++ "try") :: (linesR R (ahd k ++ "  ") ++ [ahd k ++ "catch " ++ "x"] ++ [] ++ [ahd k ++ "end"]) = [ahd k ++ "try"] ++ _ ++ [ahd k ++ "catch x", ahd k ++ "end"]
    rw [app_assoc, t_catch]
    simp
  | c + 3 =>
    show (ahd k ++ "try") :: ([] ++ [ahd k ++ "catch " ++ "x"] ++ linesR R (ahd k ++ "  ") ++ [ahd k ++ "end"]) = [ahd k ++ "try", ahd k ++ "catch x"] ++ _ ++ [ahd k ++ "end"]
    rw [app_assoc, t_catch]
    simp
theorem linesR_tot : ∀ (ks : List Nat) (R : Rs), ks.length ≤ 6 → linesR (totR ks R) "" = heL ks ++ linesR R (ahd ks.length) ++ taL ks
  | [], R, _ => by
    show linesR R "" = [] ++ linesR R (ahd 0) ++ []
    rw [ahd_zero, List.nil_append, List.append_nil]
  | c :: r, R, h => by
    rw [List.length_cons] at h
    show linesR (totR r (wrapR c R)) "" = (heL r ++ headL r.length c) ++ linesR R (ahd (r.length + 1)) ++ (tailL r.length c ++ taL r)
    rw [linesR_tot r _ (by omega), linesR_wrap c R h]
    simp only [List.append_assoc]
theorem w_tell : ("tell" : Str) ++ " " = "tell " := by decide +kernel
theorem linesR_body (ks : List Nat) (j k : Nat) (hk : k ≤ 2) (h : ks.length ≤ 6) : linesR (totR ks (.tell (nv j k))) "" = bodyL ks (valT (j + 1) k) := by
  rw [linesR_tot _ _ h]
  unfold bodyL
  congr 2
  show [ahd ks.length ++ Txt.join " " ["tell", vT (nv j k)]] = _
  rw [jn_cons _ _ (by simp), jn_one, w_tell, vT_nv j k hk, app_assoc]
/-- lines that end, put together-/
theorem jn_ends : ∀ {L : List Str}, L ≠ [] → Txt.join "" (L.map fun x : Str => x ++ "\n") = Txt.join "\n" L ++ "\n"
  | [], h => absurd rfl h
  | [x], _ => by rw [List.map_cons, List.map_nil, jn_one, jn_one]
  | x :: y :: r, _ => by
    rw [List.map_cons, jn_cons _ _ (by simp), jn_ends (L := y :: r) (by simp), jn_cons "\n" x (ws := y :: r) (by simp), app_nil]
    simp only [app_assoc]
theorem wrT_eq {R : Rs} {L : List Str} (h : linesR R "" = L) : wrT R = txtL L := by
  unfold wrT allL txtL
  rw [h, jn_ends (by simp)]
  rfl
end Rt
end S_RtPl2

section S_RtPl3
set_option Elab.async false
set_option linter.all false
set_option maxRecDepth 100000
set_option maxHeartbeats 2000000
/-! lines as blanks and words; the text of such lines, read -/
namespace Rt
open PySem PySem.Spec PyProof.Rows L2 TL
abbrev Li := Nat × List Str
def lt (l : Li) : Str := ahd l.1 ++ Txt.join " " l.2
def WW : List Str := ["if", "while", "try", "catch", "end", "tell", "number", "1", "box", "x", "size", "l", "not", "plus", "item", "list", "7", "2"]
def Good (l : Li) : Prop := l.2 ≠ [] ∧ ∀ w ∈ l.2, w ∈ WW
theorem ww_sp : ∀ w ∈ WW, 32 ∉ tl w := by decide +kernel
theorem ww_nl : ∀ w ∈ WW, 10 ∉ tl w := by decide +kernel
theorem ww_ne : ∀ w ∈ WW, w ≠ "" := by decide +kernel
theorem ww_ok : ∀ w ∈ WW, (tl w).all (· < 0x110000) = true := by decide +kernel
theorem ww_len : ∀ w ∈ WW, w.length ≤ 6 := by decide +kernel
theorem ww_st : ∀ w ∈ WW, Txt.startswith w "#" = false := by decide +kernel
theorem mem_joinL {c : Nat} {S : List Nat} : ∀ {ps : List (List Nat)}, c ∈ joinL S ps → c ∈ S ∨ ∃ p ∈ ps, c ∈ p
  | [], h => by cases h
  | [p], h => .inr ⟨p, List.mem_cons_self, h⟩
  | p :: q :: r, h => by
    rw [joinL_cons S p (q := q :: r) (by simp)] at h
    rcases List.mem_append.mp h with h | h
    · exact .inr ⟨p, List.mem_cons_self, h⟩
    rcases List.mem_append.mp h with h | h
    · exact .inl h
    · rcases mem_joinL h with h | ⟨z, hz, h⟩
      · exact .inl h
      · exact .inr ⟨z, List.mem_cons_of_mem _ hz, h⟩
theorem flat_two : ∀ m : Nat, (List.replicate m [32, 32]).flatten = List.replicate (2 * m) 32
  | 0 => rfl
  | m + 1 => by
    rw [List.replicate_succ, List.flatten_cons, flat_two m, show 2 * (m + 1) = 2 * m + 1 + 1 by omega, List.replicate_succ, List.replicate_succ]
    rfl
theorem tl_ahd (k : Nat) : tl (ahd k) = List.replicate (2 * min k 6) 32 := by
  unfold ahd
  rw [tl_repS, show tl ("  " : Str) = [32, 32] by decide +kernel, flat_two]
theorem joinL_blank {ps : List (List Nat)} (h : ps ≠ []) : ∀ n : Nat, joinL [32] (List.replicate n [] ++ ps) = List.replicate n 32 ++ joinL [32] ps
  | 0 => rfl
  | n + 1 => by
    rw [List.replicate_succ, List.cons_append, joinL_cons _ _ (by intro e; exact h (List.append_eq_nil_iff.mp e).2), joinL_blank h n, List.replicate_succ]
    rfl
theorem tl_sp : tl (" " : Str) = [32] := by decide +kernel
theorem tl_nil : tl ("" : Str) = [] := by decide +kernel
theorem lt_join {l : Li} (g : Good l) : lt l = Txt.join " " (List.replicate (2 * min l.1 6) ("" : Str) ++ l.2) := ext_tl (by
  unfold lt
  rw [tl_append, tl_jn, tl_jn, tl_ahd, tl_sp, List.map_append, List.map_replicate, tl_nil, joinL_blank (by simpa using g.1)])
theorem lt_split {l : Li} (g : Good l) : Txt.split (lt l) " " = List.replicate (2 * min l.1 6) ("" : Str) ++ l.2 := by
  rw [lt_join g]
  refine split_join (s := 32) (S := []) tl_sp (by decide +kernel) (fun e => g.1 (List.append_eq_nil_iff.mp e).2) fun p hp => ?_
  rcases List.mem_append.mp hp with hp | hp
  · rw [(List.mem_replicate.mp hp).2, tl_nil]
    exact List.not_mem_nil
  · exact ww_sp p (g.2 p hp)
theorem lt_words {l : Li} (g : Good l) : wordsOf (lt l) = l.2 := by
  unfold wordsOf
  rw [lt_split g, List.filter_append]
  have e1 : (List.replicate (2 * min l.1 6) ("" : Str)).filter (fun x : Str => !decide (x = "")) = [] := List.filter_eq_nil_iff.mpr fun x hx => by
    rw [(List.mem_replicate.mp hx).2]
    decide +kernel
  have e2 : l.2.filter (fun x : Str => !decide (x = "")) = l.2 := List.filter_eq_self.mpr fun x hx => by
    rw [decide_eq_false (ww_ne x (g.2 x hx))]
    rfl
  rw [e1, e2, List.nil_append]
theorem lt_mem {l : Li} {c : Nat} (h : c ∈ tl (lt l)) : c = 32 ∨ ∃ w ∈ l.2, c ∈ tl w := by
  unfold lt at h
  rw [tl_append, tl_ahd, tl_jn, tl_sp] at h
  rcases List.mem_append.mp h with h | h
  · exact .inl (List.mem_replicate.mp h).2
  · rcases mem_joinL h with h | ⟨p, hp, h⟩
    · exact .inl (List.mem_singleton.mp h)
    · obtain ⟨w, hw, rfl⟩ := List.mem_map.mp hp
      exact .inr ⟨w, hw, h⟩
theorem lt_nl {l : Li} (g : Good l) : 10 ∉ tl (lt l) := fun h => by
  rcases lt_mem h with h | ⟨w, hw, h⟩
  · cases h
  · exact ww_nl w (g.2 w hw) h
theorem lt_len {l : Li} (g : Good l) : (lt l).length ≤ 12 + 7 * l.2.length := by
  have h1 := ahd_len l.1
  have h2 := join_len " " l.2
  have h3 := sum_le (l := l.2) (k := 6) fun x hx => ww_len x (g.2 x hx)
  rw [s_one] at h2
  unfold lt
  rw [app_len]
  omega
theorem lt_ok {l : Li} (g : Good l) : PyData.strOk (lt l) = true := by
  unfold PyData.strOk
  rw [← Array.all_toList, List.all_eq_true]
  intro c hc
  rcases lt_mem hc with h | ⟨w, hw, h⟩
  · rw [h]
    decide
  · exact List.all_eq_true.mp (ww_ok w (g.2 w hw)) c h
structure LisOk (L : List Li) : Prop where
  n : L.length ≤ 6000
  s : (L.map fun l => l.2.length).sum ≤ 30000
  g : ∀ l ∈ L, Good l
theorem sum_lt : ∀ {L : List Li}, (∀ l ∈ L, Good l) → ((L.map lt).map (·.length)).sum ≤ 12 * L.length + 7 * (L.map fun l => l.2.length).sum
  | [], _ => Nat.zero_le _
  | l :: r, h => by
    have ih := sum_lt fun x hx => h x (List.mem_cons_of_mem _ hx)
    have h1 := lt_len (h l List.mem_cons_self)
    rw [List.map_cons, List.map_cons, List.map_cons, List.sum_cons, List.sum_cons, List.length_cons]
    omega
theorem size_of {L : List Li} (h : LisOk L) : SizeL (L.map lt) := by
  have h1 := sum_lt h.g
  have h2 := h.n
  have h3 := h.s
  refine ⟨by rw [List.length_map]; omega, by omega, fun l hl => ?_⟩
  obtain ⟨x, hx, rfl⟩ := List.mem_map.mp hl
  exact lt_ok (h.g x hx)
def allI (L : List Li) : List Li := (0, bxW) :: (0, lsW) :: L
theorem lt_bx : lt (0, bxW) = "box x 7" := by decide +kernel
theorem lt_ls : lt (0, lsW) = "list l 1 2" := by decide +kernel
theorem good_all {L : List Li} (h : ∀ l ∈ L, Good l) : ∀ l ∈ allI L, Good l := fun l hl => by
  rcases List.mem_cons.mp hl with rfl | hl
  · exact ⟨by decide, by decide +kernel⟩
  rcases List.mem_cons.mp hl with rfl | hl
  · exact ⟨by decide, by decide +kernel⟩
  · exact h l hl
theorem txt_join (L : List Li) : txtL (L.map lt) = Txt.join "\n" ((allI L).map lt ++ [("" : Str)]) := by
  rw [jn_app "\n" (by simp [allI]) (by simp), jn_one, app_nil]
  unfold txtL allI
  rw [List.map_cons, List.map_cons, lt_bx, lt_ls]
  rfl
theorem tl_n : tl ("\n" : Str) = [10] := by decide +kernel
theorem txt_split {L : List Li} (h : ∀ l ∈ L, Good l) : Txt.split (txtL (L.map lt)) "\n" = (allI L).map lt ++ [("" : Str)] := by
  rw [txt_join]
  refine split_join (s := 10) (S := []) tl_n (by decide +kernel) (by simp) fun p hp => ?_
  rcases List.mem_append.mp hp with hp | hp
  · obtain ⟨l, hl, rfl⟩ := List.mem_map.mp hp
    exact lt_nl (good_all h l hl)
  · rw [List.mem_singleton.mp hp, tl_nil]
    exact List.not_mem_nil
theorem words_nil : wordsOf "" = [] := by decide +kernel
theorem keep_good {l : Li} (g : Good l) : keepW l.2 = true := by
  obtain ⟨k, ws⟩ := l
  cases ws with
  | nil => exact absurd rfl g.1
  | cons w r =>
    show (!Txt.startswith w "#") = true
    rw [ww_st w (g.2 w List.mem_cons_self)]
    rfl
theorem lines_all : ∀ {L : List Li}, (∀ l ∈ L, Good l) → linesOf (L.map lt ++ [("" : Str)]) = L.map (·.2)
  | [], _ => by
    show ((([("" : Str)]).map wordsOf).filter keepW) = []
    rw [List.map_cons, words_nil]
    rfl
  | l :: r, h => by
    have ih := lines_all fun x hx => h x (List.mem_cons_of_mem _ hx)
    have g := h l List.mem_cons_self
    show ((wordsOf (lt l) :: ((r.map lt ++ [("" : Str)]).map wordsOf)).filter keepW) = l.2 :: r.map (·.2)
    rw [lt_words g, List.filter_cons_of_pos (keep_good g)]
    exact congrArg _ ih
theorem mem_sumL {L : List Li} {l : Li} (h : l ∈ L) : l.2.length ≤ (L.map fun l => l.2.length).sum := by
  induction L with
  | nil => cases h
  | cons y r ih =>
    rw [List.map_cons, List.sum_cons]
    rcases List.mem_cons.mp h with rfl | h
    · exact Nat.le_add_right _ _
    · exact Nat.le_trans (ih h) (Nat.le_add_left _ _)
theorem txt_ok {L : List Li} (h : LisOk L) {rest : List Ln} (e : L.map (·.2) = rest.map lnW) : TxtOk (txtL (L.map lt)) rest := by
  have hs := txt_split h.g
  have ga := good_all h.g
  have hz := size_of h
  have wl : ∀ l ∈ allI L, l.2.length ≤ 30000 := fun l hl => by
    rcases List.mem_cons.mp hl with rfl | hl
    · show 3 ≤ 30000
      decide
    rcases List.mem_cons.mp hl with rfl | hl
    · show 4 ≤ 30000
      decide
    · exact Nat.le_trans (mem_sumL hl) h.s
  refine ⟨?_, ?_, ?_, ?_, ?_⟩
  · unfold txtL
    rw [app_len]
    exact Nat.le_trans (txt_len hz) (by decide)
  · rw [hs, List.length_append, List.length_map]
    show L.length + 1 + 1 + 1 ≤ 90000
    have := h.n
    omega
  · intro l hl
    rw [hs] at hl
    rcases List.mem_append.mp hl with hl | hl
    · obtain ⟨x, hx, rfl⟩ := List.mem_map.mp hl
      have h1 := lt_len (ga x hx)
      have h2 := wl x hx
      refine ⟨by omega, ?_⟩
      rw [lt_split (ga x hx), List.length_append, List.length_replicate]
      omega
    · rw [List.mem_singleton.mp hl]
      exact ⟨by decide +kernel, by decide +kernel⟩
  · rw [hs, lines_all ga]
    show bxW :: lsW :: L.map (·.2) = _
    rw [e]
  · intro l hl
    rw [hs] at hl
    rcases List.mem_append.mp hl with hl | hl
    · obtain ⟨x, hx, rfl⟩ := List.mem_map.mp hl
      rw [lt_words (ga x hx)]
      refine ⟨Nat.le_trans (wl x hx) (by decide), fun y hy => ?_⟩
      unfold PyData.strOk
      rw [← Array.all_toList]
      exact ww_ok y ((ga x hx).2 y hy)
    · rw [List.mem_singleton.mp hl, words_nil]
      exact ⟨Nat.zero_le _, fun y hy => nomatch hy⟩
end Rt
end S_RtPl3

section S_RtPl4
set_option Elab.async false
set_option linter.all false
set_option maxRecDepth 100000
set_option maxHeartbeats 2000000
/-! the law's lines as blanks and words; right and wrong -/
namespace Rt
open PySem PySem.Spec PyProof.Rows L2 TL
def inI (k : Nat) (X : List Ln) : List Li := X.map fun ln => (k, lnW ln)
def LiB : List Nat → List Li → List Li
  | [], X => X
  | c :: r, X => LiB r (inI r.length (headN c) ++ X ++ inI r.length (tailN c))
theorem j_if : Txt.join " " ["if", "box", "x"] = "if box x" := by decide +kernel
theorem j_while : Txt.join " " ["while", "box", "x"] = "while box x" := by decide +kernel
theorem j_catch : Txt.join " " ["catch", "x"] = "catch x" := by decide +kernel
theorem head_lt (k c : Nat) : (inI k (headN c)).map lt = headL k c := by
  match c with
  | 0 =>
    show [ahd k ++ Txt.join " " ["if", "box", "x"]] = _
    rw [j_if]
    rfl
  | 1 =>
    show [ahd k ++ Txt.join " " ["while", "box", "x"]] = _
    rw [j_while]
    rfl
  | 2 =>
    show [ahd k ++ Txt.join " " ["try"]] = _
    rw [jn_one]
    rfl
  | c + 3 =>
    show [ahd k ++ Txt.join " " ["try"], ahd k ++ Txt.join " " ["catch", "x"]] = _
    rw [jn_one, j_catch]
    rfl
theorem tail_lt (k c : Nat) : (inI k (tailN c)).map lt = tailL k c := by
  have e : ahd k ++ Txt.join " " [("end" : Str)] = ahd k ++ "end" := by rw [jn_one]
  match c with
  | 0 => exact congrArg (fun z => [z]) e
  | 1 => exact congrArg (fun z => [z]) e
  | 2 =>
    show [ahd k ++ Txt.join " " ["catch", "x"], ahd k ++ Txt.join " " ["end"]] = _
    rw [jn_one, j_catch]
    rfl
  | c + 3 => exact congrArg (fun z => [z]) e
theorem LiB_lt : ∀ (ks : List Nat) (X : List Li), (LiB ks X).map lt = heL ks ++ X.map lt ++ taL ks
  | [], X => by
    show X.map lt = [] ++ X.map lt ++ []
    rw [List.nil_append, List.append_nil]
  | c :: r, X => by
    show (LiB r _).map lt = (heL r ++ headL r.length c) ++ X.map lt ++ (tailL r.length c ++ taL r)
    rw [LiB_lt r, List.map_append, List.map_append, head_lt, tail_lt]
    simp only [List.append_assoc]
theorem inI_w (k : Nat) (X : List Ln) : (inI k X).map (·.2) = X.map lnW := by
  unfold inI
  rw [List.map_map]
  rfl
theorem LiB_w : ∀ (ks : List Nat) {X : List Li} {Xn : List Ln}, X.map (·.2) = Xn.map lnW → (LiB ks X).map (·.2) = (seqN ks Xn).map lnW
  | [], _, _, h => h
  | c :: r, X, Xn, h => LiB_w r (by rw [List.map_append, List.map_append, inI_w, inI_w, h, List.map_append, List.map_append])
theorem LiB_g : ∀ (ks : List Nat) {X : List Li}, (∀ l ∈ X, Good l) → ∀ l ∈ LiB ks X, Good l
  | [], _, h => h
  | c :: r, X, h => LiB_g r fun l hl => by
    have lns : ∀ (k : Nat) (ls : List Ln), (∀ ln ∈ ls, lnW ln ≠ [] ∧ ∀ w ∈ lnW ln, w ∈ WW) → ∀ l ∈ inI k ls, Good l := fun k ls hh l hl => by
      obtain ⟨ln, hm, rfl⟩ := List.mem_map.mp hl
      exact hh ln hm
    have g1 : ∀ ln : Ln, ln = .ifL ∨ ln = .whL ∨ ln = .tryL ∨ ln = .caL ∨ ln = .endL → lnW ln ≠ [] ∧ ∀ w ∈ lnW ln, w ∈ WW := fun ln hh => by
      rcases hh with rfl | rfl | rfl | rfl | rfl <;> exact ⟨by simp [lnW], by decide +kernel⟩
    rcases List.mem_append.mp hl with hl | hl
    · rcases List.mem_append.mp hl with hl | hl
      · refine lns _ _ (fun ln hm => g1 ln ?_) l hl
        match c, hm with
        | 0, hm => exact .inl (List.mem_singleton.mp hm)
        | 1, hm => exact .inr (.inl (List.mem_singleton.mp hm))
        | 2, hm => exact .inr (.inr (.inl (List.mem_singleton.mp hm)))
        | c + 3, hm =>
          rcases List.mem_cons.mp hm with e | hm
          · exact .inr (.inr (.inl e))
          · exact .inr (.inr (.inr (.inl (List.mem_singleton.mp hm))))
      · exact h l hl
    · refine lns _ _ (fun ln hm => g1 ln ?_) l hl
      match c, hm with
      | 0, hm => exact .inr (.inr (.inr (.inr (List.mem_singleton.mp hm))))
      | 1, hm => exact .inr (.inr (.inr (.inr (List.mem_singleton.mp hm))))
      | 2, hm =>
        rcases List.mem_cons.mp hm with e | hm
        · exact .inr (.inr (.inr (.inl e)))
        · exact .inr (.inr (.inr (.inr (List.mem_singleton.mp hm))))
      | c + 3, hm => exact .inr (.inr (.inr (.inr (List.mem_singleton.mp hm))))
theorem LiB_n : ∀ (ks : List Nat) (X : List Li), (LiB ks X).length ≤ 3 * ks.length + X.length ∧ ((LiB ks X).map fun l => l.2.length).sum ≤ 6 * ks.length + (X.map fun l => l.2.length).sum
  | [], X => ⟨by show X.length ≤ 0 + X.length; omega, by show _ ≤ 0 + _; rw [Nat.zero_add]; exact Nat.le_refl _⟩
  | c :: r, X => by
    obtain ⟨h1, h2⟩ := LiB_n r (inI r.length (headN c) ++ X ++ inI r.length (tailN c))
    have e : (inI r.length (headN c)).length + (inI r.length (tailN c)).length ≤ 3 ∧ ((inI r.length (headN c)).map fun l => l.2.length).sum + ((inI r.length (tailN c)).map fun l => l.2.length).sum ≤ 6 := by
      match c with
      | 0 => exact ⟨by show 1 + 1 ≤ 3; decide, by show (3 + 0) + (1 + 0) ≤ 6; decide⟩
      | 1 => exact ⟨by show 1 + 1 ≤ 3; decide, by show (3 + 0) + (1 + 0) ≤ 6; decide⟩
      | 2 => exact ⟨by show 1 + 2 ≤ 3; decide, by show (1 + 0) + (2 + (1 + 0)) ≤ 6; decide⟩
      | c + 3 => exact ⟨by show 2 + 1 ≤ 3; decide, by show (1 + (2 + 0)) + (1 + 0) ≤ 6; decide⟩
    rw [List.length_append, List.length_append] at h1
    rw [List.map_append, List.map_append, List.sum_append, List.sum_append] at h2
    rw [List.length_cons]
    exact ⟨by show (LiB r _).length ≤ _; omega, by show ((LiB r _).map _).sum ≤ _; omega⟩
theorem vW_ww : ∀ (v : Vl) (w : Str), w ∈ vW v → w ∈ WW ∧ w ≠ "catch"
  | .num, w, h => (show ∀ w ∈ vW .num, w ∈ WW ∧ w ≠ "catch" by decide +kernel) w h
  | .box, w, h => (show ∀ w ∈ vW .box, w ∈ WW ∧ w ≠ "catch" by decide +kernel) w h
  | .size, w, h => (show ∀ w ∈ vW .size, w ∈ WW ∧ w ≠ "catch" by decide +kernel) w h
  | .nt a, w, h => by
    rcases List.mem_cons.mp h with rfl | h
    · decide +kernel
    · exact vW_ww a w h
  | .it a, w, h => by
    rcases List.mem_cons.mp h with rfl | h
    · decide +kernel
    rcases List.mem_cons.mp h with rfl | h
    · decide +kernel
    · exact vW_ww a w h
  | .pl a b, w, h => by
    rcases List.mem_cons.mp h with rfl | h
    · decide +kernel
    rcases List.mem_append.mp h with h | h
    · exact vW_ww a w h
    · exact vW_ww b w h
theorem nv_len : ∀ j k, (vW (nv j k)).length ≤ 3 * j + 2
  | 0, k => by
    unfold nv
    split <;> decide
  | j + 1, k => by
    have ih := nv_len j k
    unfold nv
    split
    · show (vW (nv j k)).length + 1 ≤ _
      omega
    split
    · show (vW (nv j k) ++ vW .box).length + 1 ≤ _
      rw [List.length_append]
      show (vW (nv j k)).length + 2 + 1 ≤ _
      omega
    · show (vW (nv j k)).length + 1 + 1 ≤ _
      omega
/-- lines around one line of words -/
theorem body_ok {ks : List Nat} {ws : List Str} (hk : ks.length ≤ 1700) (hw : ws.length ≤ 10000) (hg : ∀ w ∈ ws, w ∈ WW) (hne : ws ≠ []) : LisOk (LiB ks [(ks.length, ws)]) := by
  obtain ⟨h1, h2⟩ := LiB_n ks [(ks.length, ws)]
  have h1' : (LiB ks [(ks.length, ws)]).length ≤ 3 * ks.length + 1 := h1
  have h2' : ((LiB ks [(ks.length, ws)]).map fun l => l.2.length).sum ≤ 6 * ks.length + (ws.length + 0) := h2
  refine ⟨by omega, by omega, LiB_g ks fun l hl => ?_⟩
  rw [List.mem_singleton.mp hl]
  exact ⟨hne, hg⟩
theorem tell_ww (v : Vl) : ∀ w ∈ lnW (.tell v), w ∈ WW := fun w h => by
  rcases List.mem_cons.mp h with rfl | h
  · decide +kernel
  · exact (vW_ww v w h).1
theorem body_lt (ks : List Nat) (j k : Nat) (hk : k ≤ 2) : (LiB ks [(ks.length, lnW (.tell (nv j k)))]).map lt = bodyL ks (valT (j + 1) k) := by
  rw [LiB_lt]
  unfold bodyL
  congr 2
  show [ahd ks.length ++ Txt.join " " ("tell" :: vW (nv j k))] = _
  rw [jn_cons _ _ (vW_ne _), w_tell, app_assoc, ← vT_nv j k hk]
  rfl
theorem bodyOk (ks : List Nat) (j k : Nat) (h1 : ks.length ≤ 1700) (h2 : j ≤ 2000) : LisOk (LiB ks [(ks.length, lnW (.tell (nv j k)))]) := by
  have h := nv_len j k
  exact body_ok h1 (by show (vW (nv j k)).length + 1 ≤ 10000; omega) (tell_ww _) (by simp [lnW])
theorem pl_ok (ks : List Nat) (m k : Nat) (h1 : ks.length ≤ 1700) (hm : 1 ≤ m) (hm2 : m ≤ 2000) (hk : k ≤ 2) : ReadsL (bodyL ks (valT m k)) (decide (ks.length + 1 ≤ 5) && decide (m ≤ 4)) := by
  obtain ⟨j, rfl⟩ : ∃ j, m = j + 1 := ⟨m - 1, by omega⟩
  have hL := bodyOk ks j k h1 (by omega)
  have hw : (LiB ks [(ks.length, lnW (.tell (nv j k)))]).map (·.2) = (seqN ks [.tell (nv j k)]).map lnW := LiB_w ks rfl
  have ht := txt_ok hL hw
  rw [body_lt ks j k hk] at ht
  refine ⟨_, _, ht, go_seq ks (nv j k), ?_, fun hb => ?_⟩
  · rw [rok_tell, nv_deep]
  · have h5 : ks.length + 1 ≤ 5 := by
      rw [Bool.and_eq_true] at hb
      exact of_decide_eq_true hb.1
    exact wrT_eq (linesR_body ks j k hk (by omega))
end Rt
end S_RtPl4

section S_RtPl5
set_option Elab.async false
set_option linter.all false
set_option maxRecDepth 100000
set_option maxHeartbeats 2000000
/-! wrong lines: one too many, one too few -/
namespace Rt
open PySem PySem.Spec PyProof.Rows L2 TL
theorem sub_sum {α : Type} {f : α → Nat} {a b : List α} (h : a.Sublist b) : (a.map f).sum ≤ (b.map f).sum := by
  induction h with
  | slnil => exact Nat.le_refl _
  | cons x _ ih =>
    rw [List.map_cons, List.sum_cons]
    omega
  | cons_cons x _ ih =>
    rw [List.map_cons, List.map_cons, List.sum_cons, List.sum_cons]
    omega
theorem sub_ok {a b : List Li} (h : a.Sublist b) (k : LisOk b) : LisOk a :=
  ⟨Nat.le_trans h.length_le k.n, Nat.le_trans (sub_sum h) k.s, fun l hl => k.g l (h.subset hl)⟩
theorem erase_map {α β : Type} (f : α → β) : ∀ (l : List α) (i : Nat), (l.map f).eraseIdx i = (l.eraseIdx i).map f
  | [], i => rfl
  | a :: r, 0 => rfl
  | a :: r, i + 1 => by
    show f a :: (r.map f).eraseIdx i = f a :: (r.eraseIdx i).map f
    rw [erase_map f r i]
theorem body_more (ks : List Nat) (j k : Nat) (h1 : ks.length ≤ 1700) (h2 : j ≤ 2000) {ws : List Str} (hne : ws ≠ []) (hl : ws.length ≤ 100) (hg : ∀ w ∈ ws, w ∈ WW) : LisOk (LiB ks [(ks.length, lnW (.tell (nv j k)))] ++ [(0, ws)]) := by
  have h := nv_len j k
  obtain ⟨a1, a2⟩ := LiB_n ks [(ks.length, lnW (.tell (nv j k)))]
  have a1' : (LiB ks [(ks.length, lnW (.tell (nv j k)))]).length ≤ 3 * ks.length + 1 := a1
  have a2' : ((LiB ks [(ks.length, lnW (.tell (nv j k)))]).map fun l => l.2.length).sum ≤ 6 * ks.length + ((vW (nv j k)).length + 1 + 0) := a2
  refine ⟨by rw [List.length_append, List.length_singleton]; omega, ?_, fun l hl => ?_⟩
  · rw [List.map_append, List.sum_append]
    show _ + (ws.length + 0) ≤ 30000
    omega
  · rcases List.mem_append.mp hl with hl | hl
    · exact (bodyOk ks j k h1 h2).g l hl
    · rw [List.mem_singleton.mp hl]
      exact ⟨hne, hg⟩
theorem bad_of {Z : List Li} {rest : List Ln} (h : LisOk Z) (e : Z.map (·.2) = rest.map lnW) (hb : go rest [.base .none] = .bad) (hz : Z ≠ []) : BadL (Z.map lt) :=
  ⟨by simpa using hz, rest, txt_ok h e, hb⟩
theorem lt_one (w : Str) : lt (0, [w]) = w := by
  show ahd 0 ++ Txt.join " " [w] = w
  rw [ahd_zero, nil_app, jn_one]
theorem lt_catch : lt (0, ["catch", "x"]) = "catch x" := by
  show ahd 0 ++ Txt.join " " ["catch", "x"] = _
  rw [ahd_zero, nil_app, j_catch]
theorem bad_end (ks : List Nat) (j k : Nat) (h1 : ks.length ≤ 1700) (h2 : j ≤ 2000) (hk : k ≤ 2) : BadL (bodyL ks (valT (j + 1) k) ++ [("end" : Str)]) ∧ SizeL (bodyL ks (valT (j + 1) k) ++ [("end" : Str)]) := by
  have hL := body_more ks j k h1 h2 (ws := ["end"]) (by simp) (by decide) (by decide +kernel)
  have e : (LiB ks [(ks.length, lnW (.tell (nv j k)))] ++ [(0, [("end" : Str)])]).map lt = bodyL ks (valT (j + 1) k) ++ [("end" : Str)] := by
    rw [List.map_append, body_lt ks j k hk, List.map_cons, lt_one]
    rfl
  rw [← e]
  refine ⟨bad_of hL (rest := seqN ks [.tell (nv j k)] ++ [.endL]) ?_ (go_more ks _).1 (by simp), size_of hL⟩
  rw [List.map_append, List.map_append, LiB_w ks (Xn := [.tell (nv j k)]) rfl]
  rfl
theorem bad_catch (ks : List Nat) (j k : Nat) (h1 : ks.length ≤ 1700) (h2 : j ≤ 2000) (hk : k ≤ 2) : BadL (bodyL ks (valT (j + 1) k) ++ [("catch x" : Str)]) ∧ SizeL (bodyL ks (valT (j + 1) k) ++ [("catch x" : Str)]) := by
  have hL := body_more ks j k h1 h2 (ws := ["catch", "x"]) (by simp) (by decide) (by decide +kernel)
  have e : (LiB ks [(ks.length, lnW (.tell (nv j k)))] ++ [(0, [("catch" : Str), "x"])]).map lt = bodyL ks (valT (j + 1) k) ++ [("catch x" : Str)] := by
    rw [List.map_append, body_lt ks j k hk, List.map_cons, lt_catch]
    rfl
  rw [← e]
  refine ⟨bad_of hL (rest := seqN ks [.tell (nv j k)] ++ [.caL]) ?_ (go_more ks _).2 (by simp), size_of hL⟩
  rw [List.map_append, List.map_append, LiB_w ks (Xn := [.tell (nv j k)]) rfl]
  rfl
theorem reads_nil : ReadsL [] true := by
  have hL : LisOk [] := ⟨Nat.zero_le _, Nat.zero_le _, fun l h => nomatch h⟩
  exact ⟨[], .none, txt_ok hL rfl, rfl, rfl, fun _ => wrT_eq rfl⟩
theorem bad_less (ks : List Nat) (j k : Nat) (h1 : ks.length ≤ 1700) (h2 : j ≤ 2000) (hk : k ≤ 2) : (((bodyL ks (valT (j + 1) k)).dropLast = [] ∧ ReadsL (bodyL ks (valT (j + 1) k)).dropLast true) ∨ BadL (bodyL ks (valT (j + 1) k)).dropLast) ∧ SizeL (bodyL ks (valT (j + 1) k)).dropLast := by
  have hL := bodyOk ks j k h1 h2
  have hD := sub_ok (List.dropLast_sublist _) hL
  rw [← body_lt ks j k hk, ← List.map_dropLast]
  refine ⟨?_, size_of hD⟩
  cases ks with
  | nil => exact .inl ⟨rfl, reads_nil⟩
  | cons c r =>
    right
    obtain ⟨Y, eY⟩ := seq_last (c :: r) [.tell (nv j k)] (by intro z; cases z)
    have hw : (LiB (c :: r) [((c :: r).length, lnW (.tell (nv j k)))]).map (·.2) = (seqN (c :: r) [.tell (nv j k)]).map lnW := LiB_w (c :: r) rfl
    have hd : (LiB (c :: r) [((c :: r).length, lnW (.tell (nv j k)))]).dropLast.map (·.2) = Y.map lnW := by
      rw [List.map_dropLast, hw, ← List.map_dropLast, eY, List.dropLast_concat]
    refine bad_of hD hd (go_less Y _ _ (by rw [← eY]; exact go_seq (c :: r) (nv j k))) ?_
    intro z
    have hg := go_seq (c :: r) (nv j k)
    rw [z] at hd
    have hY : Y = [] := List.map_eq_nil_iff.mp hd.symm
    rw [hY] at eY
    rw [eY] at hg
    cases hg
theorem ww_c : ∀ w ∈ WW, 99 ∈ tl w → w = "catch" := by decide +kernel
theorem hasT_mem {x y : Str} {c : Nat} (h : hasT x y = true) (hc : c ∈ tl x) : c ∈ tl y := by
  obtain ⟨i, h1, h2⟩ := (StrLaws.found_iff y x).mp h
  rw [StrLaws.subAt_eq] at h2
  have e : ((tl y).drop i).take x.length = tl x := eq_of_beq h2
  rw [← e] at hc
  exact List.mem_of_mem_drop (List.mem_of_mem_take hc)
theorem line_catch {ln : Ln} (h : ("catch" : Str) ∈ lnW ln) (hn : ∀ ws hb, ln ≠ .bad ws hb) : ln = .caL := by
  cases ln with
  | ifL => exact absurd h (by decide +kernel)
  | whL => exact absurd h (by decide +kernel)
  | tryL => exact absurd h (by decide +kernel)
  | caL => rfl
  | endL => exact absurd h (by decide +kernel)
  | tell v =>
    rcases List.mem_cons.mp h with h | h
    · exact absurd h (by decide +kernel)
    · exact absurd rfl (vW_ww v _ h).2
  | bad ws hb => exact absurd rfl (hn ws hb)
theorem seq_nobad : ∀ (ks : List Nat) {X : List Ln}, (∀ ln ∈ X, ∀ ws hb, ln ≠ .bad ws hb) → ∀ ln ∈ seqN ks X, ∀ ws hb, ln ≠ .bad ws hb
  | [], _, h => h
  | c :: r, X, h => seq_nobad r fun ln hl ws hb e => by
    subst e
    rcases List.mem_append.mp hl with hl | hl
    · rcases List.mem_append.mp hl with hl | hl
      · match c, hl with
        | 0, hl => cases List.mem_singleton.mp hl
        | 1, hl => cases List.mem_singleton.mp hl
        | 2, hl => cases List.mem_singleton.mp hl
        | c + 3, hl =>
          rcases List.mem_cons.mp hl with e | hl
          · cases e
          · cases List.mem_singleton.mp hl
      · exact h _ hl ws hb rfl
    · match c, hl with
      | 0, hl => cases List.mem_singleton.mp hl
      | 1, hl => cases List.mem_singleton.mp hl
      | 2, hl =>
        rcases List.mem_cons.mp hl with e | hl
        · cases e
        · cases List.mem_singleton.mp hl
      | c + 3, hl => cases List.mem_singleton.mp hl
theorem bad_drop (ks : List Nat) (j k : Nat) (h1 : ks.length ≤ 1700) (h2 : j ≤ 2000) (hk : k ≤ 2) {i : Nat} {l : Str} (hl : (bodyL ks (valT (j + 1) k))[i]? = some l) (hc : hasT "catch" l = true) :
    BadL ((bodyL ks (valT (j + 1) k)).take i ++ (bodyL ks (valT (j + 1) k)).drop (i + 1)) ∧ SizeL ((bodyL ks (valT (j + 1) k)).take i ++ (bodyL ks (valT (j + 1) k)).drop (i + 1)) := by
  have hL := bodyOk ks j k h1 h2
  have hD := sub_ok (List.eraseIdx_sublist (LiB ks [(ks.length, lnW (.tell (nv j k)))]) i) hL
  have hw : (LiB ks [(ks.length, lnW (.tell (nv j k)))]).map (·.2) = (seqN ks [.tell (nv j k)]).map lnW := LiB_w ks rfl
  rw [← List.eraseIdx_eq_take_drop_succ]
  rw [← body_lt ks j k hk] at hl ⊢
  rw [erase_map]
  refine ⟨?_, size_of hD⟩
  rw [List.getElem?_map] at hl
  cases ez : (LiB ks [(ks.length, lnW (.tell (nv j k)))])[i]? with
  | none => rw [ez] at hl; cases hl
  | some z =>
    rw [ez] at hl
    obtain rfl : l = lt z := (Option.some.inj hl).symm
    have gz := hL.g z (List.mem_of_getElem? ez)
    have hm := hasT_mem (c := 99) hc (by decide +kernel)
    have hcw : ("catch" : Str) ∈ z.2 := by
      rcases lt_mem hm with h | ⟨w, hw, h⟩
      · cases h
      · rw [← ww_c w (gz.2 w hw) h]
        exact hw
    have hat : ((seqN ks [.tell (nv j k)]).map lnW)[i]? = some z.2 := by
      rw [← hw, List.getElem?_map, ez]
      rfl
    rw [List.getElem?_map] at hat
    cases en : (seqN ks [.tell (nv j k)])[i]? with
    | none => rw [en] at hat; cases hat
    | some ln =>
      rw [en] at hat
      have e2 : lnW ln = z.2 := Option.some.inj hat
      rw [← e2] at hcw
      have nb := seq_nobad ks (X := [.tell (nv j k)]) (fun ln hl ws hb e => by rw [List.mem_singleton.mp hl] at e; cases e) ln (List.mem_of_getElem? en)
      obtain rfl := line_catch hcw nb
      have hg := go_drop en
      refine bad_of hD (rest := (seqN ks [.tell (nv j k)]).eraseIdx i) (by rw [← erase_map, hw, erase_map]) hg ?_
      intro z0
      have e3 : ((seqN ks [.tell (nv j k)]).eraseIdx i).map lnW = [] := by
        rw [← erase_map, ← hw, erase_map, z0]
        rfl
      rw [List.map_eq_nil_iff.mp e3] at hg
      cases hg
end Rt
end S_RtPl5

section S_RtPl6
set_option Elab.async false
set_option linter.all false
set_option maxRecDepth 100000
set_option maxHeartbeats 2000000
/-! wrong lines: words that are changed in the row that tells -/
namespace Rt
open PySem PySem.Spec PyProof.Rows L2 TL
def SS : List Str := ["if box x", "while box x", "try", "catch x", "end"]
theorem same_lines : ∀ j ∈ List.range 7, ∀ s ∈ SS, boxed (repS "  " j ++ s) = repS "  " j ++ s ∧ unsaid (repS "  " j ++ s) = repS "  " j ++ s := by decide +kernel
theorem ahd_same {f : Str → Str} (hf : f = boxed ∨ f = unsaid) (k : Nat) {s : Str} (hs : s ∈ SS) : f (ahd k ++ s) = ahd k ++ s := by
  have h := same_lines (min k 6) (List.mem_range.mpr (by omega)) s hs
  rcases hf with rfl | rfl
  · exact h.1
  · exact h.2
theorem headL_same {f : Str → Str} (hf : f = boxed ∨ f = unsaid) (k c : Nat) : (headL k c).map f = headL k c := by
  match c with
  | 0 => exact congrArg (fun z => [z]) (ahd_same hf k (by decide +kernel))
  | 1 => exact congrArg (fun z => [z]) (ahd_same hf k (by decide +kernel))
  | 2 => exact congrArg (fun z => [z]) (ahd_same hf k (by decide +kernel))
  | c + 3 =>
    show [f (ahd k ++ "try"), f (ahd k ++ "catch x")] = _
    rw [ahd_same hf k (by decide +kernel), ahd_same hf k (by decide +kernel)]
    rfl
theorem tailL_same {f : Str → Str} (hf : f = boxed ∨ f = unsaid) (k c : Nat) : (tailL k c).map f = tailL k c := by
  match c with
  | 0 => exact congrArg (fun z => [z]) (ahd_same hf k (by decide +kernel))
  | 1 => exact congrArg (fun z => [z]) (ahd_same hf k (by decide +kernel))
  | 2 =>
    show [f (ahd k ++ "catch x"), f (ahd k ++ "end")] = _
    rw [ahd_same hf k (by decide +kernel), ahd_same hf k (by decide +kernel)]
    rfl
  | c + 3 => exact congrArg (fun z => [z]) (ahd_same hf k (by decide +kernel))
theorem heL_same {f : Str → Str} (hf : f = boxed ∨ f = unsaid) : ∀ ks : List Nat, (heL ks).map f = heL ks
  | [] => rfl
  | c :: r => by
    show (heL r ++ headL r.length c).map f = _
    rw [List.map_append, heL_same hf r, headL_same hf]
    rfl
theorem taL_same {f : Str → Str} (hf : f = boxed ∨ f = unsaid) : ∀ ks : List Nat, (taL ks).map f = taL ks
  | [] => rfl
  | c :: r => by
    show (tailL r.length c ++ taL r).map f = _
    rw [List.map_append, taL_same hf r, tailL_same hf]
    rfl
/-- the row that tells, changed: other words -/
theorem body_map {f : Str → Str} (hf : f = boxed ∨ f = unsaid) (ks : List Nat) (j k : Nat) (hk : k ≤ 2) {ws : List Str} (h : f (ahd ks.length ++ "tell " ++ valT (j + 1) k) = lt (ks.length, ws)) : (bodyL ks (valT (j + 1) k)).map f = (LiB ks [(ks.length, ws)]).map lt := by
  rw [LiB_lt]
  unfold bodyL
  rw [List.map_append, List.map_append, heL_same hf, taL_same hf]
  show heL ks ++ [f _] ++ taL ks = _
  rw [h]
  rfl
theorem bad_words (ks : List Nat) {ws : List Str} (hb : BadT ws) (h1 : ks.length ≤ 1700) (h2 : ws.length ≤ 9000) (hg : ∀ w ∈ ws, w ∈ WW) : BadL ((LiB ks [(ks.length, "tell" :: ws)]).map lt) ∧ SizeL ((LiB ks [(ks.length, "tell" :: ws)]).map lt) := by
  have hL : LisOk (LiB ks [(ks.length, ("tell" : Str) :: ws)]) := body_ok h1 (by rw [List.length_cons]; omega) (fun w hw => by
    rcases List.mem_cons.mp hw with rfl | hw
    · decide +kernel
    · exact hg w hw) (by simp)
  have hw : (LiB ks [(ks.length, ("tell" : Str) :: ws)]).map (·.2) = (seqN ks [.bad ws hb]).map lnW := LiB_w ks rfl
  refine ⟨bad_of hL hw (go_bads (bads_seq ks bads_bad)) ?_, size_of hL⟩
  intro z
  rw [z] at hw
  have e : seqN ks [.bad ws hb] = [] := List.map_eq_nil_iff.mp hw.symm
  have g := go_bads (bads_seq ks (bads_bad (ws := ws) (h := hb)))
  rw [e] at g
  cases g
theorem has_tell (n : Nat) (val : Str) : hasT "tell" (ahd n ++ "tell " ++ val) = true := by
  refine (StrLaws.found_iff _ _).mpr ⟨2 * min n 6, ?_, ?_⟩
  · rw [app_len, app_len, len_tl (ahd n), tl_ahd, List.length_replicate]
    have e1 : ("tell" : Str).length = 4 := by decide +kernel
    have e2 : ("tell " : Str).length = 5 := by decide +kernel
    omega
  · rw [StrLaws.subAt_eq]
    have e : tl (ahd n ++ "tell " ++ val) = List.replicate (2 * min n 6) 32 ++ (tl ("tell " : Str) ++ tl val) := by
      rw [tl_append, tl_append, tl_ahd, List.append_assoc]
    show (List.take ("tell" : Str).length (List.drop (2 * min n 6) (tl (ahd n ++ "tell " ++ val))) == tl ("tell" : Str)) = true
    rw [e, List.drop_left' (List.length_replicate ..), show tl ("tell " : Str) = tl ("tell" : Str) ++ [32] by decide +kernel, List.append_assoc, show ("tell" : Str).length = (tl ("tell" : Str)).length from len_tl _, List.take_left]
    exact beq_self_eq_true _
theorem bad_boxed (ks : List Nat) (j k : Nat) (h1 : ks.length ≤ 1700) (h2 : j ≤ 2000) (hk : k ≤ 2) : BadL ((bodyL ks (valT (j + 1) k)).map boxed) ∧ SizeL ((bodyL ks (valT (j + 1) k)).map boxed) := by
  have h := nv_len j k
  have e : boxed (ahd ks.length ++ "tell " ++ valT (j + 1) k) = lt (ks.length, "tell" :: (vW (nv j k) ++ [("box" : Str)])) := by
    unfold boxed
    rw [has_tell, if_pos rfl, repS_succ, repS_zero, app_nil, repS_succ, repS_zero, app_nil]
    show _ = ahd ks.length ++ Txt.join " " ("tell" :: (vW (nv j k) ++ [("box" : Str)]))
    rw [jn_cons _ _ (by simp), jn_app _ (vW_ne _) (by simp), jn_one, w_tell, ← vT_nv j k hk]
    simp only [app_assoc]
    rfl
  rw [body_map (.inl rfl) ks j k hk e]
  refine bad_words ks (.inr ⟨nv j k, rfl⟩) h1 (by rw [List.length_append, List.length_singleton]; omega) fun w hw => ?_
  rcases List.mem_append.mp hw with hw | hw
  · exact (vW_ww _ w hw).1
  · rw [List.mem_singleton.mp hw]
    decide +kernel
end Rt
end S_RtPl6

section S_RtPl7
set_option Elab.async false
set_option linter.all false
set_option maxRecDepth 100000
set_option maxHeartbeats 2000000
/-! wrong lines: the row that tells, unsaid -/
namespace Rt
open PySem PySem.Spec PyProof.Rows L2 TL
open PySem.StrLaws (replL replL_nil replL_hit replL_miss)
theorem rp_none {y z : List Nat} {c : Nat} (hc : c ∈ y) : ∀ l : List Nat, c ∉ l → replL y z l = l
  | [], _ => replL_nil
  | a :: r, h => by
    rw [replL_miss (fun e => h (List.mem_of_mem_take (e.symm ▸ hc))), rp_none hc r (fun q => h (List.mem_cons_of_mem _ q))]
theorem rp_skip {a : Nat} {y z : List Nat} : ∀ P l : List Nat, a ∉ P → replL (a :: y) z (P ++ l) = P ++ replL (a :: y) z l
  | [], _, _ => rfl
  | c :: r, l, h => by
    have h1 : ¬ (c :: (r ++ l)).take (a :: y).length = a :: y := by
      intro e
      rw [List.length_cons, List.take_succ_cons] at e
      exact h (List.mem_cons.mpr (.inl (List.cons.inj e).1.symm))
    show replL (a :: y) z (c :: (r ++ l)) = c :: (r ++ replL (a :: y) z l)
    rw [replL_miss h1, rp_skip r l (fun q => h (List.mem_cons_of_mem _ q))]
theorem rp_hit {c : Nat} {y z : List Nat} (l : List Nat) : replL (c :: y) z ((c :: y) ++ l) = z ++ replL (c :: y) z l := by
  have h : (c :: (y ++ l)).take (c :: y).length = c :: y := List.take_left (l₁ := c :: y) (l₂ := l)
  show replL (c :: y) z (c :: (y ++ l)) = _
  rw [replL_hit (by simp) h, show (c :: (y ++ l)).drop (c :: y).length = l from List.drop_left (l₁ := c :: y) (l₂ := l)]
def YN : List Nat := [110, 117, 109, 98, 101, 114, 32, 49]
theorem rp_not {z : List Nat} (l : List Nat) : replL YN z ([110, 111, 116, 32] ++ l) = [110, 111, 116, 32] ++ replL YN z l := by
  show replL YN z (110 :: 111 :: 116 :: 32 :: l) = 110 :: 111 :: 116 :: 32 :: replL YN z l
  rw [replL_miss (by simp [YN]), replL_miss (by simp [YN]), replL_miss (by simp [YN]), replL_miss (by simp [YN])]
theorem rp_nots {z : List Nat} (l : List Nat) : ∀ j : Nat, replL YN z ((List.replicate j [110, 111, 116, 32]).flatten ++ l) = (List.replicate j [110, 111, 116, 32]).flatten ++ replL YN z l
  | 0 => rfl
  | j + 1 => by rw [List.replicate_succ, List.flatten_cons, List.append_assoc, rp_not, rp_nots l j, List.append_assoc]
theorem not_rep {c : Nat} {s : List Nat} (h : c ∉ s) (j : Nat) : c ∉ (List.replicate j s).flatten := by
  intro q
  obtain ⟨l, h1, h2⟩ := List.mem_flatten.mp q
  rw [List.eq_of_mem_replicate h1] at h2
  exact h h2
theorem not_app {c : Nat} {a b : List Nat} (h : c ∉ a) (k : c ∉ b) : c ∉ a ++ b := by
  rw [List.mem_append]
  exact not_or.mpr ⟨h, k⟩
theorem not_blank {c : Nat} (h : c ≠ 32) (n : Nat) : c ∉ List.replicate n 32 := fun q => h (List.eq_of_mem_replicate q)
theorem un_tl (l : Str) : tl (unsaid l) = replL [115, 105, 122, 101, 32, 108] [115, 105, 122, 101] (replL YN [110, 117, 109, 98, 101, 114] (tl l)) := by
  unfold unsaid
  show (Txt.replace _ _ _).cps.toList = _
  rw [StrLaws.replace_list (by decide +kernel), StrLaws.replace_list (by decide +kernel)]
  rfl
def bw : Nat → Nat → List Str
  | 0, k => if k = 2 then ["size"] else ["number"]
  | j + 1, k => if k = 0 then "not" :: bw j k else if k = 1 then "plus" :: (bw j k ++ [("box" : Str), ("x" : Str)]) else "item" :: "l" :: bw j k
def bX (j k : Nat) : Str := if k = 0 then repS "not " j ++ "number" else if k = 1 then repS "plus " j ++ "number" ++ repS " box x" j else repS "item l " j ++ "size"
theorem un_row (n j k : Nat) (hk : k ≤ 2) : unsaid (ahd n ++ "tell " ++ valT (j + 1) k) = ahd n ++ "tell " ++ bX j k := by
  apply ext_tl
  rw [un_tl]
  have t1 : tl ("tell " : Str) = [116, 101, 108, 108, 32] := by decide +kernel
  have t2 : tl ("number 1" : Str) = YN := by decide +kernel
  have t3 : tl ("number" : Str) = [110, 117, 109, 98, 101, 114] := by decide +kernel
  have t4 : tl ("not " : Str) = [110, 111, 116, 32] := by decide +kernel
  have t5 : tl ("plus " : Str) = [112, 108, 117, 115, 32] := by decide +kernel
  have t6 : tl (" box x" : Str) = [32, 98, 111, 120, 32, 120] := by decide +kernel
  have t7 : tl ("item l " : Str) = [105, 116, 101, 109, 32, 108, 32] := by decide +kernel
  have t8 : tl ("size l" : Str) = [115, 105, 122, 101, 32, 108] := by decide +kernel
  have t9 : tl ("size" : Str) = [115, 105, 122, 101] := by decide +kernel
  have hy : ∀ (z l : List Nat), replL YN z (YN ++ l) = z ++ replL YN z l := fun z l => rp_hit l
  rcases (by omega : k = 0 ∨ k = 1 ∨ k = 2) with rfl | rfl | rfl
  · rw [show valT (j + 1) 0 = repS "not " j ++ "number 1" from rfl, show bX j 0 = repS "not " j ++ "number" from rfl]
    simp only [tl_append, tl_repS, tl_ahd, t1, t2, t3, t4]
    rw [show replL YN [110, 117, 109, 98, 101, 114] (List.replicate (2 * min n 6) 32 ++ [116, 101, 108, 108, 32] ++ ((List.replicate j [110, 111, 116, 32]).flatten ++ YN)) = List.replicate (2 * min n 6) 32 ++ [116, 101, 108, 108, 32] ++ replL YN [110, 117, 109, 98, 101, 114] ((List.replicate j [110, 111, 116, 32]).flatten ++ YN) from rp_skip _ _ (not_app (not_blank (by decide) _) (by decide)), rp_nots, show replL YN [110, 117, 109, 98, 101, 114] YN = [110, 117, 109, 98, 101, 114] by rw [show replL YN [110, 117, 109, 98, 101, 114] YN = replL YN [110, 117, 109, 98, 101, 114] (YN ++ []) by rw [List.append_nil], hy, replL_nil, List.append_nil]]
    exact rp_none (c := 122) (by decide) _ (not_app (not_app (not_blank (by decide) _) (by decide)) (not_app (not_rep (by decide) _) (by decide)))
  · rw [show valT (j + 1) 1 = repS "plus " j ++ "number 1" ++ repS " box x" j from rfl, show bX j 1 = repS "plus " j ++ "number" ++ repS " box x" j from rfl]
    simp only [tl_append, tl_repS, tl_ahd, t1, t2, t3, t5, t6]
    have e : List.replicate (2 * min n 6) 32 ++ [116, 101, 108, 108, 32] ++ ((List.replicate j [112, 108, 117, 115, 32]).flatten ++ YN ++ (List.replicate j [32, 98, 111, 120, 32, 120]).flatten) = (List.replicate (2 * min n 6) 32 ++ [116, 101, 108, 108, 32] ++ (List.replicate j [112, 108, 117, 115, 32]).flatten) ++ (YN ++ (List.replicate j [32, 98, 111, 120, 32, 120]).flatten) := by simp only [List.append_assoc]
    rw [e, show replL YN [110, 117, 109, 98, 101, 114] ((List.replicate (2 * min n 6) 32 ++ [116, 101, 108, 108, 32] ++ (List.replicate j [112, 108, 117, 115, 32]).flatten) ++ (YN ++ (List.replicate j [32, 98, 111, 120, 32, 120]).flatten)) = (List.replicate (2 * min n 6) 32 ++ [116, 101, 108, 108, 32] ++ (List.replicate j [112, 108, 117, 115, 32]).flatten) ++ replL YN [110, 117, 109, 98, 101, 114] (YN ++ (List.replicate j [32, 98, 111, 120, 32, 120]).flatten) from rp_skip _ _ (not_app (not_app (not_blank (by decide) _) (by decide)) (not_rep (by decide) _)), hy, rp_none (c := 117) (by decide) _ (not_rep (by decide) _)]
    rw [rp_none (c := 122) (by decide) _ (not_app (not_app (not_app (not_blank (by decide) _) (by decide)) (not_rep (by decide) _)) (not_app (by decide) (not_rep (by decide) _)))]
    simp only [List.append_assoc]
  · rw [show valT (j + 1) 2 = repS "item l " j ++ "size l" from rfl, show bX j 2 = repS "item l " j ++ "size" from rfl]
    simp only [tl_append, tl_repS, tl_ahd, t1, t7, t8, t9]
    rw [rp_none (y := YN) (c := 117) (by decide) _ (not_app (not_app (not_blank (by decide) _) (by decide)) (not_app (not_rep (by decide) _) (by decide)))]
    rw [← List.append_assoc, rp_skip _ _ (not_app (not_app (not_blank (by decide) _) (by decide)) (not_rep (by decide) _))]
    rw [show replL [115, 105, 122, 101, 32, 108] [115, 105, 122, 101] [115, 105, 122, 101, 32, 108] = [115, 105, 122, 101] by
      have h := rp_hit (c := 115) (y := [105, 122, 101, 32, 108]) (z := [115, 105, 122, 101]) []
      rw [replL_nil, List.append_nil, List.append_nil] at h
      exact h]
    simp only [List.append_assoc]
theorem bw_ne (j k : Nat) : bw j k ≠ [] := by
  cases j <;> unfold bw <;> (repeat' split) <;> simp
theorem bw_join (k : Nat) (hk : k ≤ 2) : ∀ j, Txt.join " " (bw j k) = bX j k
  | 0 => by
    rcases (by omega : k = 0 ∨ k = 1 ∨ k = 2) with rfl | rfl | rfl <;> decide +kernel
  | j + 1 => by
    have ih := bw_join k hk j
    rcases (by omega : k = 0 ∨ k = 1 ∨ k = 2) with rfl | rfl | rfl
    · show Txt.join " " ("not" :: bw j 0) = repS "not " (j + 1) ++ "number"
      rw [jn_cons _ _ (bw_ne j 0), ih, repS_succ, show ("not" : Str) ++ " " = "not " by decide +kernel, app_assoc]
      rfl
    · show Txt.join " " ("plus" :: (bw j 1 ++ [("box" : Str), ("x" : Str)])) = repS "plus " (j + 1) ++ "number" ++ repS " box x" (j + 1)
      rw [jn_cons _ _ (by simp), jn_app _ (bw_ne j 1) (by simp), ih, repS_succ "plus ", repS_snoc " box x", show ("plus" : Str) ++ " " = "plus " by decide +kernel, app_assoc (bX j 1), show (" " : Str) ++ Txt.join " " [("box" : Str), ("x" : Str)] = " box x" by decide +kernel]
      show "plus " ++ (repS "plus " j ++ "number" ++ repS " box x" j ++ " box x") = _
      simp only [app_assoc]
    · show Txt.join " " ("item" :: "l" :: bw j 2) = repS "item l " (j + 1) ++ "size"
      rw [jn_cons _ _ (by simp), jn_cons _ _ (bw_ne j 2), ih, repS_succ, ← app_assoc, ← app_assoc, show ("item" : Str) ++ " " ++ "l" ++ " " = "item l " by decide +kernel, app_assoc]
      rfl
theorem bw_len (k : Nat) : ∀ j, (bw j k).length ≤ 3 * j + 1
  | 0 => by
    unfold bw
    split <;> decide
  | j + 1 => by
    have ih := bw_len k j
    unfold bw
    split
    · rw [List.length_cons]; omega
    · split
      · rw [List.length_cons, List.length_append]
        show (bw j k).length + 2 + 1 ≤ _
        omega
      · rw [List.length_cons, List.length_cons]; omega
theorem bw_ww (k : Nat) : ∀ j, ∀ w ∈ bw j k, w ∈ WW
  | 0 => by
    unfold bw
    split <;> decide +kernel
  | j + 1 => by
    have ih := bw_ww k j
    unfold bw
    intro w hw
    split at hw
    · rcases List.mem_cons.mp hw with rfl | hw
      · decide +kernel
      · exact ih w hw
    · split at hw
      · rcases List.mem_cons.mp hw with rfl | hw
        · decide +kernel
        · rcases List.mem_append.mp hw with hw | hw
          · exact ih w hw
          · rcases List.mem_cons.mp hw with rfl | hw
            · decide +kernel
            · rw [List.mem_singleton.mp hw]
              decide +kernel
      · rcases List.mem_cons.mp hw with rfl | hw
        · decide +kernel
        · rcases List.mem_cons.mp hw with rfl | hw
          · decide +kernel
          · exact ih w hw
theorem bw_bad1 : ∀ (j : Nat) (r : List Str), BadR (bw j 1 ++ (("box" : Str) :: r))
  | 0, r => .base .box
  | j + 1, r => by
    show BadR ((("plus" : Str) :: (bw j 1 ++ [("box" : Str), ("x" : Str)])) ++ (("box" : Str) :: r))
    rw [List.cons_append, List.append_assoc]
    exact .pl (bw_bad1 j _)
theorem bw_bad (k : Nat) (hk : k ≤ 2) : ∀ j, BadR (bw j k)
  | 0 => by
    rcases (by omega : k = 0 ∨ k = 1 ∨ k = 2) with rfl | rfl | rfl
    · exact .base .num
    · exact .base .num
    · exact .base .size
  | j + 1 => by
    have ih := bw_bad k hk j
    rcases (by omega : k = 0 ∨ k = 1 ∨ k = 2) with rfl | rfl | rfl
    · exact .nt ih
    · exact .pl (bw_bad1 j _)
    · exact .it ih
theorem bad_unsaid (ks : List Nat) (j k : Nat) (h1 : ks.length ≤ 1700) (h2 : j ≤ 2000) (hk : k ≤ 2) : BadL ((bodyL ks (valT (j + 1) k)).map unsaid) ∧ SizeL ((bodyL ks (valT (j + 1) k)).map unsaid) := by
  have h := bw_len k j
  have e : unsaid (ahd ks.length ++ "tell " ++ valT (j + 1) k) = lt (ks.length, "tell" :: bw j k) := by
    rw [un_row _ _ _ hk]
    show _ = ahd ks.length ++ Txt.join " " ("tell" :: bw j k)
    rw [jn_cons _ _ (bw_ne j k), bw_join k hk, w_tell]
    simp only [app_assoc]
  rw [body_map (.inr rfl) ks j k hk e]
  exact bad_words ks (.inl (bw_bad k hk j)) h1 (by omega) (bw_ww k j)
end Rt
end S_RtPl7

section S_RtPl8
set_option Elab.async false
set_option linter.all false
set_option maxRecDepth 100000
set_option maxHeartbeats 2000000
/-! the plain facts together -/
namespace Rt
open PySem PySem.Spec PyProof.Rows L2 TL
theorem repS_len (z : Str) (k : Nat) : (tl (repS z k)).length = k * (tl z).length := by
  rw [tl_repS, List.length_flatten, List.map_replicate, List.sum_replicate_nat]
theorem valT_len (j k : Nat) (h2 : j ≤ 2000) : (valT (j + 1) k).length ≤ 100000 := by
  rw [len_tl]
  unfold valT
  have t2 : (tl ("number 1" : Str)).length = 8 := by decide +kernel
  have t4 : (tl ("not " : Str)).length = 4 := by decide +kernel
  have t5 : (tl ("plus " : Str)).length = 5 := by decide +kernel
  have t6 : (tl (" box x" : Str)).length = 6 := by decide +kernel
  have t7 : (tl ("item l " : Str)).length = 7 := by decide +kernel
  have t8 : (tl ("size l" : Str)).length = 6 := by decide +kernel
  rw [Nat.add_sub_cancel]
  split
  · rw [tl_append, List.length_append, repS_len, t2, t4]; omega
  · split
    · rw [tl_append, tl_append, List.length_append, List.length_append, repS_len, repS_len, t2, t5, t6]; omega
    · rw [tl_append, List.length_append, repS_len, t7, t8]; omega
theorem wrong_all (ks : List Nat) (j k : Nat) (h1 : ks.length ≤ 1700) (h2 : j ≤ 2000) (hk : k ≤ 2) (L2 : List Str) (h : WrongOf (bodyL ks (valT (j + 1) k)) L2) : ((L2 = [] ∧ ReadsL L2 true) ∨ BadL L2) ∧ SizeL L2 := by
  rcases h with rfl | ⟨i, l, hl, hc, rfl⟩ | rfl | rfl | rfl | rfl
  · exact ⟨.inr (bad_end ks j k h1 h2 hk).1, (bad_end ks j k h1 h2 hk).2⟩
  · exact ⟨.inr (bad_drop ks j k h1 h2 hk hl hc).1, (bad_drop ks j k h1 h2 hk hl hc).2⟩
  · exact bad_less ks j k h1 h2 hk
  · exact ⟨.inr (bad_catch ks j k h1 h2 hk).1, (bad_catch ks j k h1 h2 hk).2⟩
  · exact ⟨.inr (bad_boxed ks j k h1 h2 hk).1, (bad_boxed ks j k h1 h2 hk).2⟩
  · exact ⟨.inr (bad_unsaid ks j k h1 h2 hk).1, (bad_unsaid ks j k h1 h2 hk).2⟩
theorem plain0 : Pl where
  ok := fun ks m k _ h1 hm hm2 hk => pl_ok ks m k h1 hm hm2 hk
  bad := fun ks m k _ h1 hm hm2 hk L2 h => by
    obtain ⟨j, rfl⟩ : ∃ j, m = j + 1 := ⟨m - 1, by omega⟩
    exact (wrong_all ks j k h1 (by omega) hk L2 h).1
  size := fun ks m k _ h1 hm hm2 hk => by
    obtain ⟨j, rfl⟩ : ∃ j, m = j + 1 := ⟨m - 1, by omega⟩
    refine ⟨valT_len j k (by omega), ?_, fun L2 h => (wrong_all ks j k h1 (by omega) hk L2 h).2⟩
    rw [← body_lt ks j k hk]
    exact size_of (bodyOk ks j k h1 (by omega))
end Rt
end S_RtPl8

section S_RtEnd1
set_option Elab.async false
set_option linter.all false
set_option maxRecDepth 100000
set_option maxHeartbeats 0
namespace Rt
open PySem PySem.Spec PyProof.Rows L2 PySem.W HandSHeadRun
theorem e1 : opening R.prog = plainProg R.prog.main.scope.names := by kernel_rfl
theorem e2 : ∀ s, fenceModules? R.prog s = some s := fun s => by kernel_rfl
theorem e3 : defOf (view R.prog [90]) R.name = some (topDef R.prog 90, []) := by kernel_rfl
theorem e4 : R.prog.theDef R.name = some ((topDef R.prog 90).params, (topDef R.prog 90).body, (topDef R.prog 90).scope) := by kernel_rfl
theorem e5 : kwWritten? (topDef R.prog 90).params.kwonlyargs (topDef R.prog 90).params.kw_defaults = some [] := by kernel_rfl
theorem e6 : (!R.writes || R.records.isEmpty) = true := by rfl
theorem e7 : R.wellSaid = true := by decide +kernel
theorem e8 : (chainsOk (view R.prog [90]) && opensWell R.prog && (frees R.toRowW && R.within.isEmpty)) = true := by decide +kernel
theorem e9 : R.prog.bare := ⟨rfl, rfl, rfl, rfl, rfl, by decide +kernel⟩
theorem e10 : (topDef R.prog 90).params.defaults = [] := by kernel_rfl
theorem e11 : (topDef R.prog 90).name = ("law" : PySem.Str) := by kernel_rfl
end Rt
end S_RtEnd1

section S_RtEnd
set_option Elab.async false
set_option linter.all false
set_option maxRecDepth 100000
set_option maxHeartbeats 0
/-! the end -/
namespace Rt
open PySem PySem.Spec PyProof.Rows L2 PySem.W HandSHeadRun
theorem bind_law {K : PySem.W.Frag} {mg : Str → Option Value} (T : Txt K mg) (s : Shared) (u : Value) : BindsTo s (fdOf K (A_law K)) ⟨[u], []⟩ [("_law_script", u)] := by
  obtain ⟨oc, od, kV, doc, pm, an, cdv, ct, osl, e, lk, hcd⟩ := T.d_law.ex
  rw [e]
  exact .of_eq rfl
theorem walkR (pl : Pl) : WalkO (view R.prog [90]) names (XL (view R.prog [90]) []) hk.says R.toRowW (topDef R.prog 90) [] fun f vs => PySem.call f vs := by
  refine L2.walk_ofE (l := PySem.Challenge.rw_retrace_k14_whole_however_deep) (n := 63) (k := 26) (x := "_law_script") (CX := L2.CX0) rfl (by decide) e10 ⟨rfl, by decide, by decide⟩ ?F (fun _ _ _ _ z => z)
  intro w mg fa h Y G hmg0
  obtain ⟨K, KX, c⟩ := Y
  have hmg : mg ("law" : PySem.Str) = some (.ref fa) := by
    rw [← e11]
    exact hmg0
  have T := txt_of KX G c
  obtain rfl : fa = A_law K := by
    have z := hmg.symm.trans T.g_law
    injection z with z
    injection z
  exact ⟨K, _, spLaw K, KX, bind_law T, fun H a ns hl _ hS => ⟨a, ns, rfl, hS, fun _ => rfl⟩, fun base _ _ => ok_law T pl⟩
theorem promR : R.toRowW.promised := by
  w_witness2
theorem holdsR (pl : Pl) : R.Holds := head_any (r := R) (q := view R.prog [90]) (H := hk) (ob := ob) (M := 40000) (loose := names) (d := topDef R.prog 90) (kwd := []) ob_eq e1 e2 run e3 e4 e5 e6 e7 e8 e9 promR (walkR pl)
end Rt
theorem PySem.Challenge.cw_retrace_k14_whole_however_deep_holds : PySem.Challenge.rw_retrace_k14_whole_however_deep.Holds := by
  w_on; o_law
  exact Rt.holdsR Rt.plain0
end S_RtEnd
